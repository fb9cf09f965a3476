import PyProof.Rows.All
import Wide.All
import OpenK.AllK
import Wide.FinOn
import HandS.ForMost
import HandS.Conv
import HandS.Flow
import HandS.Strs
import HandS.Exc
import PyProof.P3In
import HandS.CallSlots
import HandS.IsInst
import HandS.StrMore
import HandS.Style
import HandS.Dict
import HandS.IntHex
import HandS.Ends
import HandS.SetFor
import HandS.RaiseMore
import HandS.SortInts
import HandS.More
import HandS.DictComp
import PyProof.CollectIter
import PyProof.WalksS
import HandS.Iter
import HandS.TupMul
import KE.GoesMore
import PyProof.EnumMake
import HandS.Defaults
import HandS.MakeKwOnly
import PyProof.StrLawsRepr
import PyProof.FitsInt
import PyProof.ReprRoads
import PyProof.ReprDict
import PyProof.ToksMono
import PyProof.StrCalls6
import HandS.Replace
import HandS.ReplaceList
import HandS.SetBool
import KE.KSetDisp
import PySem.Challenge.RW_latehall_k26_words_and_tables
set_option Elab.async false
set_option linter.all false
set_option maxRecDepth 100000
set_option maxHeartbeats 0
/-! Values without a heap: data, what stands for them, the states of a core language. -/
namespace VS
open PySem L2 PyProof.Rows

/-- data -/
inductive Dat where
  | non | bl (b : Bool) | int (i : Int) | str (x : Str) | ty (n : String)
  | fn (f : Nat) | cl (c : Nat) | obj (k : Nat)
  | tup (ds : List Dat) | lst (ds : List Dat) | dic (kvs : List (Dat × Dat)) | dit (kvs : List (Dat × Dat)) | set (ks : List Int)

/-- who owns a container that may change -/
inductive Loc where
  | slot (i : Nat) | fld (k : Nat) (f : Str) | obj (k : Nat)
  deriving DecidableEq

/-- what is the same through a whole law -/
structure Sta where
  P : Program
  w : World
  K : PySem.W.Frag
  mg : Str → Option Value
  base : Heap
  fn : Nat → Option Addr
  cls : Nat → Option Addr

/-- the ghosts: what is frozen, who owns what, where the objects stand, the entry's heap, the arguments -/
structure W where
  Hf : Hp
  own : Addr → Option Loc
  ads : Nat → Option Addr
  H0 : Hp
  args : List V

def kD : Key → Dat
  | .inl i => .int i
  | .inr x => .str x
def tkD (l : List Key) : Dat := .tup (l.map kD)

mutual
/-- v stands for d in what is frozen -/
inductive Rep (S : Sta) (Hf : Hp) (ads : Nat → Option Addr) : V → Dat → Prop
  | non : Rep S Hf ads .non .non
  | bl (b : Bool) : Rep S Hf ads (.bl b) (.bl b)
  | int (i : Int) : Rep S Hf ads (.int i) (.int i)
  | str (x : Str) : Rep S Hf ads (.str x) (.str x)
  | ty (n : String) : Rep S Hf ads (.ty n) (.ty n)
  | fn {f : Nat} {a : Addr} : S.fn f = some a → Rep S Hf ads (.ref a) (.fn f)
  | cl {c : Nat} {a : Addr} : S.cls c = some a → Rep S Hf ads (.ref a) (.cl c)
  | obj {k : Nat} {a : Addr} : ads k = some a → Rep S Hf ads (.ref a) (.obj k)
  | tup {a : Addr} {vs : List V} {ds : List Dat} : SqT S.K Hf a vs → Reps S Hf ads vs ds → Rep S Hf ads (.ref a) (.tup ds)
  | lst {a : Addr} {vs : List V} {ds : List Dat} : SqL S.K Hf a vs → Reps S Hf ads vs ds → Rep S Hf ads (.ref a) (.lst ds)
  | dicK {a : Addr} {l : List (Key × V)} {kvs : List (Dat × Dat)} : Rd Hf a (.dK l) → RepK S Hf ads l kvs → Rep S Hf ads (.ref a) (.dic kvs)
  | dicT {a : Addr} {l : List (List Key × V)} {kvs : List (Dat × Dat)} : Rd Hf a (.dT l) → RepT S Hf ads l kvs → Rep S Hf ads (.ref a) (.dit kvs)
  | set {a : Addr} {ks : List Int} : Hf a = some (SetO S.w a (fun i => decide (i ∈ ks)) ks.length) → Rep S Hf ads (.ref a) (.set ks)
inductive Reps (S : Sta) (Hf : Hp) (ads : Nat → Option Addr) : List V → List Dat → Prop
  | nil : Reps S Hf ads [] []
  | cons {v : V} {d : Dat} {vs : List V} {ds : List Dat} : Rep S Hf ads v d → Reps S Hf ads vs ds → Reps S Hf ads (v :: vs) (d :: ds)
inductive RepK (S : Sta) (Hf : Hp) (ads : Nat → Option Addr) : List (Key × V) → List (Dat × Dat) → Prop
  | nil : RepK S Hf ads [] []
  | cons {k : Key} {v : V} {d : Dat} {l : List (Key × V)} {kvs : List (Dat × Dat)} : Rep S Hf ads v d → RepK S Hf ads l kvs → RepK S Hf ads ((k, v) :: l) ((kD k, d) :: kvs)
inductive RepT (S : Sta) (Hf : Hp) (ads : Nat → Option Addr) : List (List Key × V) → List (Dat × Dat) → Prop
  | nil : RepT S Hf ads [] []
  | cons {k : List Key} {v : V} {d : Dat} {l : List (List Key × V)} {kvs : List (Dat × Dat)} : Rep S Hf ads v d → RepT S Hf ads l kvs → RepT S Hf ads ((k, v) :: l) ((tkD k, d) :: kvs)
end

/-- extension -/
def Ext (Hf Hf' : Hp) : Prop := ∀ a o, Hf a = some o → Hf' a = some o
theorem Ext.refl (H : Hp) : Ext H H := fun _ _ h => h
theorem Ext.trans {H H1 H2 : Hp} (a : Ext H H1) (b : Ext H1 H2) : Ext H H2 := fun x o h => b x o (a x o h)
theorem Ext.rd {H H' : Hp} {a : Addr} {u : HO} (e : Ext H H') (h : Rd H a u) : Rd H' a u := by
  rcases h with h | ⟨o, h⟩
  · exact .inl (e a _ h)
  · exact .inr ⟨o, e a _ h⟩
theorem Ext.sqL {K : PySem.W.Frag} {H H' : Hp} {a : Addr} {xs : List V} (e : Ext H H') (h : SqL K H a xs) : SqL K H' a xs := by
  rcases h with h | h
  · exact .inl (e.rd h)
  · exact .inr h
theorem Ext.sqT {K : PySem.W.Frag} {H H' : Hp} {a : Addr} {xs : List V} (e : Ext H H') (h : SqT K H a xs) : SqT K H' a xs := by
  rcases h with h | h
  · exact .inl (e.rd h)
  · exact .inr h
def AExt (a a' : Nat → Option Addr) : Prop := ∀ k x, a k = some x → a' k = some x

mutual
theorem Rep.mono {S : Sta} {Hf Hf' : Hp} {ads ads' : Nat → Option Addr} (e : Ext Hf Hf') (ea : AExt ads ads') : ∀ {v : V} {d : Dat}, Rep S Hf ads v d → Rep S Hf' ads' v d
  | _, _, .non => .non
  | _, _, .bl b => .bl b
  | _, _, .int i => .int i
  | _, _, .str x => .str x
  | _, _, .ty n => .ty n
  | _, _, .fn h => .fn h
  | _, _, .cl h => .cl h
  | _, _, .obj h => .obj (ea _ _ h)
  | _, _, .tup h r => .tup (e.sqT h) (Reps.mono e ea r)
  | _, _, .lst h r => .lst (e.sqL h) (Reps.mono e ea r)
  | _, _, .dicK h r => .dicK (e.rd h) (RepK.mono e ea r)
  | _, _, .dicT h r => .dicT (e.rd h) (RepT.mono e ea r)
  | _, _, .set h => .set (e _ _ h)
theorem Reps.mono {S : Sta} {Hf Hf' : Hp} {ads ads' : Nat → Option Addr} (e : Ext Hf Hf') (ea : AExt ads ads') : ∀ {vs : List V} {ds : List Dat}, Reps S Hf ads vs ds → Reps S Hf' ads' vs ds
  | _, _, .nil => .nil
  | _, _, .cons r t => .cons (Rep.mono e ea r) (Reps.mono e ea t)
theorem RepK.mono {S : Sta} {Hf Hf' : Hp} {ads ads' : Nat → Option Addr} (e : Ext Hf Hf') (ea : AExt ads ads') : ∀ {l : List (Key × V)} {kvs : List (Dat × Dat)}, RepK S Hf ads l kvs → RepK S Hf' ads' l kvs
  | _, _, .nil => .nil
  | _, _, .cons r t => .cons (Rep.mono e ea r) (RepK.mono e ea t)
theorem RepT.mono {S : Sta} {Hf Hf' : Hp} {ads ads' : Nat → Option Addr} (e : Ext Hf Hf') (ea : AExt ads ads') : ∀ {l : List (List Key × V)} {kvs : List (Dat × Dat)}, RepT S Hf ads l kvs → RepT S Hf' ads' l kvs
  | _, _, .nil => .nil
  | _, _, .cons r t => .cons (Rep.mono e ea r) (RepT.mono e ea t)
end

/-- a container that may change, at a -/
inductive OwnC (S : Sta) (Hf : Hp) (ads : Nat → Option Addr) (H : Hp) (a : Addr) : Dat → Prop
  | lst {vs : List V} {ds : List Dat} : H a = some (.lst vs) → Reps S Hf ads vs ds → OwnC S Hf ads H a (.lst ds)
  | dicK {l : List (Key × V)} {kvs : List (Dat × Dat)} : H a = some (.dK l) → RepK S Hf ads l kvs → OwnC S Hf ads H a (.dic kvs)
  | dicT {l : List (List Key × V)} {kvs : List (Dat × Dat)} : H a = some (.dT l) → RepT S Hf ads l kvs → OwnC S Hf ads H a (.dit kvs)
  | set {ks : List Int} : H a = some (SetO S.w a (fun i => decide (i ∈ ks)) ks.length) → OwnC S Hf ads H a (.set ks)
theorem OwnC.mono {S : Sta} {Hf Hf' : Hp} {ads ads' : Nat → Option Addr} {H H' : Hp} {a : Addr} {d : Dat} (e : Ext Hf Hf') (ea : AExt ads ads') (h : OwnC S Hf ads H a d) (ha : H' a = H a) : OwnC S Hf' ads' H' a d := by
  cases h with
  | lst h r => exact .lst (ha.trans h) (r.mono e ea)
  | dicK h r => exact .dicK (ha.trans h) (r.mono e ea)
  | dicT h r => exact .dicT (ha.trans h) (r.mono e ea)
  | set h => exact .set (ha.trans h)
theorem OwnC.there {S : Sta} {Hf : Hp} {ads : Nat → Option Addr} {H : Hp} {a : Addr} {d : Dat} (h : OwnC S Hf ads H a d) : ∃ o, H a = some o := by
  cases h with
  | lst h r => exact ⟨_, h⟩
  | dicK h r => exact ⟨_, h⟩
  | dicT h r => exact ⟨_, h⟩
  | set h => exact ⟨_, h⟩

/-- a name's content: shared and never changed, or its own -/
inductive Slot where
  | fr (d : Dat) | ow (d : Dat)
/-- an object: its class, its attributes -/
structure OVal where
  cls : Nat
  flds : List (Str × Slot)
/-- a state of the core language -/
structure St where
  sl : List (Option Slot)
  ob : List OVal
/-- an expression's result: shared, a new container that nobody else knows, what stands at a name -/
inductive ER where
  | fr (d : Dat) | tp (d : Dat) | sl (i : Nat)

/-- what a name owns came behind the entry, or was handed in under that name -/
def Young (w : W) (v : V) (a : Addr) : Loc → Prop
  | .slot i => w.H0 a = none ∨ w.args[i]? = some v
  | _ => True
def SlotOk (S : Sta) (w : W) (H : Hp) (l : Loc) (v : V) : Slot → Prop
  | .fr d => Rep S w.Hf w.ads v d
  | .ow d => ∃ a, v = .ref a ∧ w.own a = some l ∧ w.Hf a = none ∧ OwnC S w.Hf w.ads H a d ∧ Young w v a l
/-- how many names there are; which of them are never stored -/
structure Shp where
  n : Nat
  ro : Nat → Bool
  np : Nat

structure ObOk (S : Sta) (w : W) (H : Hp) (k : Nat) (o : OVal) : Prop where
  ex : ∃ a C dx fs, w.ads k = some a ∧ S.cls o.cls = some C ∧ w.own a = some (.obj k) ∧ w.Hf a = none ∧ H a = some (.ins C dx fs) ∧ fs.map (·.1) = o.flds.map (·.1) ∧
    ∀ (i : Nat) (f : Str) (v : V) (s : Slot), fs[i]? = some (f, v) → o.flds[i]? = some (f, s) → SlotOk S w H (.fld k f) v s

/-- the state of the core language is that of the machine -/
structure Rel (S : Sta) (n : Shp) (ς : St) (σ : L2.St) (H : Hp) (w : W) : Prop where
  sub : ∀ a o, w.Hf a = some o → H a = some o
  nof : ∀ a o, w.Hf a = some o → w.own a = none
  len : ς.sl.length = n.n
  slots : ∀ i s, ς.sl[i]? = some (some s) → ∃ v, σ[i]? = some (some v) ∧ SlotOk S w H (.slot i) v s
  obs : ∀ k o, ς.ob[k]? = some o → ObOk S w H k o
  adk : ∀ k a, w.ads k = some a → k < ς.ob.length
  dom : ∀ a, H a = none → w.H0 a = none
  own0 : ∀ a, H a = none → w.own a = none
  arg : ∀ i v, n.ro i = true → w.args[i]? = some v → σ[i]? = some (some v)
  arl : ∀ i, n.np ≤ i → w.args[i]? = none

/-- what stands through a step -/
structure Fr (w : W) (H : Hp) (w' : W) (H' : Hp) : Prop where
  hf : Ext w.Hf w'.Hf
  ad : AExt w.ads w'.ads
  kp : ∀ b o, H b = some o → w.own b = none → H' b = some o ∧ w'.own b = none
  nf : ∀ b o, H b = some o → w.own b = none → w.Hf b = none → w'.Hf b = none
  dm : ∀ b, H' b = none → H b = none
  h0 : w'.H0 = w.H0
  as : w'.args = w.args
  ow : ∀ b l o, H b = some o → w.own b = some l → w'.own b = some l ∨ w'.own b = none
theorem Fr.refl (w : W) (H : Hp) : Fr w H w H := ⟨Ext.refl _, fun _ _ h => h, fun _ _ h1 h2 => ⟨h1, h2⟩, fun _ _ _ _ h => h, fun _ h => h, rfl, rfl, fun _ _ _ _ h => .inl h⟩
theorem Fr.trans {w w1 w2 : W} {H H1 H2 : Hp} (a : Fr w H w1 H1) (b : Fr w1 H1 w2 H2) : Fr w H w2 H2 :=
  ⟨a.hf.trans b.hf, fun k x h => b.ad k x (a.ad k x h), fun c o h1 h2 => let ⟨p, q⟩ := a.kp c o h1 h2; b.kp c o p q, fun c o h1 h2 h3 => let ⟨p, q⟩ := a.kp c o h1 h2; b.nf c o p q (a.nf c o h1 h2 h3),
    fun c h => a.dm c (b.dm c h), b.h0.trans a.h0, b.as.trans a.as, fun c l o h1 h2 => by
      have h3 : ∃ o', H1 c = some o' := by
        cases q : H1 c with
        | some o' => exact ⟨o', rfl⟩
        | none => rw [a.dm c q] at h1; cases h1
      obtain ⟨o', h3⟩ := h3
      rcases a.ow c l o h1 h2 with h | h
      · exact b.ow c l o' h3 h
      · exact .inr (b.kp c o' h3 h).2⟩

def ResOk (S : Sta) (w : W) (Hs H : Hp) (σ : L2.St) (v : V) : ER → Prop
  | .fr d => Rep S w.Hf w.ads v d
  | .tp d => ∃ a, v = .ref a ∧ Hs a = none ∧ w.own a = none ∧ w.Hf a = none ∧ OwnC S w.Hf w.ads H a d
  | .sl i => σ[i]? = some (some v)

section
variable {S : Sta} {n : Shp} {ς ς' : St} {σ : L2.St} {H H' Hs : Hp} {w w' : W} {v : V} {d : Dat} {r : ER}

theorem ResOk.carry (h : ResOk S w Hs H σ v r) (f : Fr w H w' H') : ResOk S w' Hs H' σ v r := by
  cases r with
  | fr d => exact Rep.mono f.hf f.ad h
  | tp d =>
    obtain ⟨a, e, h1, h2, h3, h4⟩ := h
    obtain ⟨o, ho⟩ := h4.there
    obtain ⟨p, q⟩ := f.kp a o ho h2
    exact ⟨a, e, h1, q, f.nf a o ho h2 h3, h4.mono f.hf f.ad (p.trans ho.symm)⟩
  | sl i => exact h
theorem ResOk.back {Hs' : Hp} (h : ResOk S w Hs' H σ v r) (f : ∀ a, Hs' a = none → Hs a = none) : ResOk S w Hs H σ v r := by
  cases r with
  | fr d => exact h
  | tp d =>
    obtain ⟨a, e, h1, h2⟩ := h
    exact ⟨a, e, f a h1, h2⟩
  | sl i => exact h

/-- the content that a result has now -/
def cur (ς : St) : ER → Option Dat
  | .fr d => some d
  | .tp d => some d
  | .sl i => match ς.sl[i]? with
    | some (some (.fr d)) => some d
    | some (some (.ow d)) => some d
    | _ => none
/-- what may be read -/
def View (S : Sta) (w : W) (H : Hp) (v : V) (d : Dat) : Prop := Rep S w.Hf w.ads v d ∨ ∃ a, v = .ref a ∧ OwnC S w.Hf w.ads H a d
theorem Rel.view (R : Rel S n ς σ H w) (h : ResOk S w Hs H σ v r) (c : cur ς r = some d) : View S w H v d := by
  cases r with
  | fr d' => cases c; exact .inl h
  | tp d' =>
    cases c
    obtain ⟨a, e, _, _, _, h4⟩ := h
    exact .inr ⟨a, e, h4⟩
  | sl i =>
    have h : σ[i]? = some (some v) := h
    unfold cur at c
    simp only at c
    split at c
    · rename_i d' e
      cases c
      obtain ⟨v', e1, e2⟩ := R.slots _ _ e
      rw [h] at e1; cases e1
      exact .inl e2
    · rename_i d' e
      cases c
      obtain ⟨v', e1, a, e2, _, _, e3, _⟩ := R.slots _ _ e
      rw [h] at e1; cases e1
      exact .inr ⟨a, e2, e3⟩
    · cases c

/-- freeze a container of one's own -/
def frz (w : W) (a : Addr) (o : HO) : W := { w with Hf := upd w.Hf a o, own := fun b => if b = a then none else w.own b }
theorem frz_ext {a : Addr} {o : HO} (h : w.Hf a = none) : Ext w.Hf (upd w.Hf a o) := fun b u e => by rw [upd_ne (ne_of_none e h)]; exact e
theorem frz_fr {a : Addr} {o : HO} (ha : w.Hf a = none) (hc : w.own a ≠ none ∨ Hs a = none) (hsub : ∀ b u, Hs b = some u → H b = some u ∨ True) : True := trivial
theorem frz_rep {a : Addr} {o : HO} (h : w.Hf a = none) (c : OwnC S w.Hf w.ads H a d) (ho : H a = some o) : Rep S (frz w a o).Hf w.ads (.ref a) d := by
  have e := frz_ext (o := o) h
  have u : upd w.Hf a o a = some o := upd_same
  cases c with
  | lst q r => rw [ho] at q; cases q; exact .lst (.inl (.inl u)) (r.mono e fun _ _ h => h)
  | dicK q r => rw [ho] at q; cases q; exact .dicK (.inl u) (r.mono e fun _ _ h => h)
  | dicT q r => rw [ho] at q; cases q; exact .dicT (.inl u) (r.mono e fun _ _ h => h)
  | set q => rw [ho] at q; cases q; exact .set u
theorem SlotOk.frz {a : Addr} {o : HO} {l : Loc} {s : Slot} (ha : w.Hf a = none) (hl : w.own a ≠ some l) (h : SlotOk S w H l v s) : SlotOk S (frz w a o) H l v s := by
  cases s with
  | fr d => exact Rep.mono (frz_ext ha) (fun _ _ h => h) h
  | ow d =>
    obtain ⟨b, e, h1, h2, h3, h4⟩ := h
    have nb : b ≠ a := fun q => hl (q ▸ h1)
    exact ⟨b, e, by show (if b = a then none else w.own b) = _; rw [if_neg nb]; exact h1, by show upd w.Hf a o b = none; rw [upd_ne nb]; exact h2, h3.mono (frz_ext ha) (fun _ _ h => h) rfl, by cases l <;> exact h4⟩
theorem ObOk.frz {a : Addr} {o : HO} {k : Nat} {ov : OVal} (ha : w.Hf a = none) (hl : ∀ f, w.own a ≠ some (.fld k f)) (hl' : w.own a ≠ some (.obj k)) (h : ObOk S w H k ov) : ObOk S (frz w a o) H k ov := by
  obtain ⟨b, C, dx, fs, h1, h2, h3, h4, h5, h6, h7⟩ := h.ex
  have nb : b ≠ a := fun q => hl' (q ▸ h3)
  exact ⟨b, C, dx, fs, h1, h2, by show (if b = a then none else w.own b) = _; rw [if_neg nb]; exact h3, by show upd w.Hf a o b = none; rw [upd_ne nb]; exact h4, h5, h6, fun i f v s e1 e2 => (h7 i f v s e1 e2).frz ha (hl f)⟩

def St.set (ς : St) (i : Nat) (s : Option Slot) : St := { ς with sl := ς.sl.set i s }
/-- as a value that is shared from now on -/
def settle (ς : St) : ER → Option (Dat × St)
  | .fr d => some (d, ς)
  | .tp d => some (d, ς)
  | .sl i => match ς.sl[i]? with
    | some (some (.fr d)) => some (d, ς)
    | some (some (.ow d)) => some (d, ς.set i (some (.fr d)))
    | _ => none

theorem frz_step {a : Addr} {o : HO} (ha : w.Hf a = none) (hc : w.own a ≠ none) : Fr w H (frz w a o) H :=
  ⟨frz_ext ha, fun _ _ h => h, fun b u h1 h2 => ⟨h1, by show (if b = a then none else w.own b) = none; split <;> first | rfl | exact h2⟩, fun b u _ h2 h3 => by
    have nb : b ≠ a := fun q => hc (q ▸ h2)
    show upd w.Hf a o b = none
    rw [upd_ne nb]; exact h3, fun _ h => h, rfl, rfl, fun b l o h1 h2 => by
    show (if b = a then none else w.own b) = some l ∨ (if b = a then none else w.own b) = none
    split
    · exact .inr rfl
    · exact .inl h2⟩
end
end VS

namespace VS
open PySem L2 PyProof.Rows

section
variable {S : Sta} {n : Shp} {ς ς' : St} {σ : L2.St} {H H' Hs : Hp} {w w0 w' : W} {v : V} {d : Dat} {r : ER}

theorem St.set_len (ς : St) (i : Nat) (s : Option Slot) : (ς.set i s).sl.length = ς.sl.length := List.length_set
theorem St.set_same {ς : St} {i : Nat} {s : Option Slot} {x : Option Slot} (h : ς.sl[i]? = some x) : (ς.set i s).sl[i]? = some s := by
  have hl := (List.getElem?_eq_some_iff.mp h).1
  exact List.getElem?_set_self hl
theorem St.set_ne {ς : St} {i j : Nat} {s : Option Slot} (h : i ≠ j) : (ς.set i s).sl[j]? = ς.sl[j]? := List.getElem?_set_ne h

/-- a container of the state is frozen: the slot says so from now on -/
theorem Rel.freeze_slot {i : Nat} (R : Rel S n ς σ H w) (e : ς.sl[i]? = some (some (.ow d))) :
    ∃ w' v, σ[i]? = some (some v) ∧ Fr w H w' H ∧ Rel S n (ς.set i (some (.fr d))) σ H w' ∧ Rep S w'.Hf w'.ads v d := by
  obtain ⟨v, ev, a, rfl, ho, hn, hc, _⟩ := R.slots _ _ e
  obtain ⟨o, hO⟩ := hc.there
  have rp := frz_rep hn hc hO
  refine ⟨frz w a o, .ref a, ev, frz_step hn (by rw [ho]; simp), ⟨?_, ?_, ?_, ?_, ?_, R.adk, R.dom, fun b h => by show (if b = a then none else w.own b) = none; split <;> first | rfl | exact R.own0 b h, R.arg, R.arl⟩, rp⟩
  · intro b u h
    by_cases hb : b = a
    · subst hb
      have : upd w.Hf b o b = some u := h
      rw [upd_same] at this; cases this
      exact hO
    · have : upd w.Hf a o b = some u := h
      rw [upd_ne hb] at this
      exact R.sub b u this
  · intro b u h
    show (if b = a then none else w.own b) = none
    by_cases hb : b = a
    · rw [if_pos hb]
    · rw [if_neg hb]
      have : upd w.Hf a o b = some u := h
      rw [upd_ne hb] at this
      exact R.nof b u this
  · rw [St.set_len]; exact R.len
  · intro j s hj
    by_cases hij : i = j
    · subst hij
      rw [St.set_same e] at hj; cases hj
      exact ⟨_, ev, rp⟩
    · rw [St.set_ne hij] at hj
      obtain ⟨u, h1, h2⟩ := R.slots j s hj
      exact ⟨u, h1, h2.frz hn (by rw [ho]; intro q; cases q; exact hij rfl)⟩
  · intro k ov hk
    exact (R.obs k ov hk).frz hn (by rw [ho]; intro f q; cases q) (by rw [ho]; intro q; cases q)

theorem Rel.freeze_tmp {a : Addr} {o : HO} (R : Rel S n ς σ H w) (ho : w.own a = none) (hn : w.Hf a = none) (hO : H a = some o) : Rel S n ς σ H (frz w a o) := by
  refine ⟨?_, ?_, R.len, ?_, ?_, R.adk, R.dom, fun b h => by show (if b = a then none else w.own b) = none; split <;> first | rfl | exact R.own0 b h, R.arg, R.arl⟩
  · intro b u h
    by_cases hb : b = a
    · subst hb
      have : upd w.Hf b o b = some u := h
      rw [upd_same] at this; cases this
      exact hO
    · have : upd w.Hf a o b = some u := h
      rw [upd_ne hb] at this
      exact R.sub b u this
  · intro b u h
    show (if b = a then none else w.own b) = none
    by_cases hb : b = a
    · rw [if_pos hb]
    · rw [if_neg hb]
      have : upd w.Hf a o b = some u := h
      rw [upd_ne hb] at this
      exact R.nof b u this
  · intro j s hj
    obtain ⟨u, h1, h2⟩ := R.slots j s hj
    exact ⟨u, h1, h2.frz hn (by rw [ho]; simp)⟩
  · intro k ov hk
    exact (R.obs k ov hk).frz hn (by rw [ho]; simp) (by rw [ho]; simp)
theorem Fr.freeze_tmp {a : Addr} {o : HO} (F : Fr w0 Hs w H) (ha : Hs a = none) (hn : w.Hf a = none) : Fr w0 Hs (frz w a o) H := by
  refine ⟨F.hf.trans (frz_ext hn), F.ad, fun b u h1 h2 => ?_, fun b u h1 h2 h3 => ?_, F.dm, F.h0, F.as, fun b l o h1 h2 => ?_⟩
  · obtain ⟨p, q⟩ := F.kp b u h1 h2
    refine ⟨p, ?_⟩
    show (if b = a then none else w.own b) = none
    split
    · rfl
    · exact q
  · have nb : b ≠ a := fun q => by rw [q, ha] at h1; cases h1
    show upd w.Hf a o b = none
    rw [upd_ne nb]
    exact F.nf b u h1 h2 h3
  · show (if b = a then none else w.own b) = some l ∨ (if b = a then none else w.own b) = none
    split
    · exact .inr rfl
    · exact F.ow b l o h1 h2
/-- a result is shared from now on -/
theorem settle_ok {d : Dat} (F : Fr w0 Hs w H) (R : Rel S n ς σ H w) (h : ResOk S w Hs H σ v r) (e : settle ς r = some (d, ς')) :
    ∃ w', Fr w0 Hs w' H ∧ Rel S n ς' σ H w' ∧ Rep S w'.Hf w'.ads v d := by
  cases r with
  | fr d' =>
    cases e
    exact ⟨w, F, R, h⟩
  | tp d' =>
    cases e
    obtain ⟨a, rfl, h1, h2, h3, h4⟩ := h
    obtain ⟨o, hO⟩ := h4.there
    exact ⟨frz w a o, F.freeze_tmp h1 h3, R.freeze_tmp h2 h3 hO, frz_rep h3 h4 hO⟩
  | sl i =>
    unfold settle at e
    simp only at e
    split at e
    · rename_i d' q
      cases e
      obtain ⟨v', e1, e2⟩ := R.slots _ _ q
      have h : σ[i]? = some (some v) := h
      rw [h] at e1; cases e1
      exact ⟨w, F, R, e2⟩
    · rename_i d' q
      cases e
      obtain ⟨w', v', e1, F', R', rp⟩ := R.freeze_slot q
      have h : σ[i]? = some (some v) := h
      rw [h] at e1; cases e1
      exact ⟨w', F.trans F', R', rp⟩
    · cases e

/-- a new object is laid -/
theorem Rel.laid {p : Addr} {o : HO} (R : Rel S n ς σ H w) (hp : H p = none) : Rel S n ς σ (upd H p o) w ∧ Fr w H w (upd H p o) := by
  have ne : ∀ b u, H b = some u → b ≠ p := fun b u e => ne_of_none e hp
  have oc : ∀ {a d}, OwnC S w.Hf w.ads H a d → OwnC S w.Hf w.ads (upd H p o) a d := fun {a d} h => by
    obtain ⟨u, hu⟩ := h.there
    exact h.mono (Ext.refl _) (fun _ _ h => h) (upd_ne (ne a u hu))
  have so : ∀ {l v s}, SlotOk S w H l v s → SlotOk S w (upd H p o) l v s := fun {l v s} h => by
    cases s with
    | fr d => exact h
    | ow d =>
      obtain ⟨a, e, h1, h2, h3, h4⟩ := h
      exact ⟨a, e, h1, h2, oc h3, h4⟩
  refine ⟨⟨fun a u h => by rw [upd_ne (ne a u (R.sub a u h))]; exact R.sub a u h, R.nof, R.len, fun i s e => ?_, fun k ov e => ?_, R.adk, fun a h => ?_, fun a h => R.own0 a ?_, R.arg, R.arl⟩,
    ⟨Ext.refl _, fun _ _ h => h, fun b u h1 h2 => ⟨by rw [upd_ne (ne b u h1)]; exact h1, h2⟩, fun _ _ _ _ h => h, fun b h => ?_, rfl, rfl, fun _ _ _ _ h => .inl h⟩⟩
  · obtain ⟨v, e1, e2⟩ := R.slots i s e
    exact ⟨v, e1, so e2⟩
  · obtain ⟨a, C, dx, fs, h1, h2, h3, h4, h5, h6, h7⟩ := (R.obs k ov e).ex
    exact ⟨a, C, dx, fs, h1, h2, h3, h4, by rw [upd_ne (ne a _ h5)]; exact h5, h6, fun i f v s e1 e2 => so (h7 i f v s e1 e2)⟩
  · refine R.dom a ?_
    by_cases hb : a = p
    · rw [hb]; exact hp
    · rw [upd_ne hb] at h; exact h
  · by_cases hb : a = p
    · rw [hb]; exact hp
    · rw [upd_ne hb] at h; exact h
  · by_cases hb : b = p
    · rw [hb]; exact hp
    · rw [upd_ne hb] at h; exact h
end

/-! ### outcomes -/
/-- an exception: its class, its fields -/
structure Exn where
  cls : Dat
  flds : List (Str × Dat)
inductive Out (α : Type) where
  | ok (a : α) (ς : St) | ex (x : Exn) (ς : St)
abbrev Act (α : Type) := St → Option (Out α)
def Act.ret {α : Type} (a : α) : Act α := fun ς => some (.ok a ς)
def Act.bnd {α β : Type} (m : Act α) (f : α → Act β) : Act β := fun ς => match m ς with
  | none => none
  | some (.ok a ς') => f a ς'
  | some (.ex x ς') => some (.ex x ς')
/-- what may not be is left out -/
def Act.get {α : Type} (f : St → Option (α × St)) : Act α := fun ς => (f ς).map fun p => .ok p.1 p.2

def ClsOk (S : Sta) (cls : Value) : Dat → Prop
  | .cl c => ∃ C, S.cls c = some C ∧ cls = .ref C
  | .ty m => cls = .type m
  | _ => False
inductive FldsOk (S : Sta) (w : W) : List (Str × V) → List (Str × Dat) → Prop
  | nil : FldsOk S w [] []
  | cons {f : Str} {v : V} {d : Dat} {fs : List (Str × V)} {gs : List (Str × Dat)} : Rep S w.Hf w.ads v d → FldsOk S w fs gs → FldsOk S w ((f, v) :: fs) ((f, d) :: gs)
structure ExOk (S : Sta) (w : W) (H : Hp) (cls : Value) (dd : Option Addr) (x : Exn) : Prop where
  c : ClsOk S cls x.cls
  f : (x.flds = [] ∧ dd = none) ∨ ∃ a fs, dd = some a ∧ H a = some (.xd fs) ∧ w.own a = none ∧ w.H0 a = none ∧ FldsOk S w fs x.flds
def XW (S : Sta) (n : Shp) (w : W) (H : Hp) (x : Exn) (ς' : St) : WX := fun cls dd σ' H' => ∃ w', Fr w H w' H' ∧ Rel S n ς' σ' H' w' ∧ ExOk S w' H' cls dd x
theorem XW.back {S : Sta} {n : Shp} {w w1 : W} {H H1 : Hp} {x : Exn} {ς' : St} {cls : Value} {dd : Option Addr} {σ' : L2.St} {H' : Hp} (F : Fr w H w1 H1) (h : XW S n w1 H1 x ς' cls dd σ' H') : XW S n w H x ς' cls dd σ' H' := by
  obtain ⟨w', F', R, e⟩ := h
  exact ⟨w', F.trans F', R, e⟩
theorem XE.imp {X : Cx} {A B : WX} {u : Value} {s' : Shared} (h : ∀ c d σ H, A c d σ H → B c d σ H) (x : XE X A u s') : XE X B u s' := by
  obtain ⟨a, G, sI, pins, σ, H, cls, d, e, I, nb, up, sky, na, os, ag, q⟩ := x
  exact ⟨a, G, sI, pins, σ, H, cls, d, e, I, nb, up, sky, na, os, ag, h _ _ _ _ q⟩

/-- where one stands -/
structure Ctx extends Sta where
  N : List Str
  sc : Scope
  lvl : Nat
  fnn : Str → Bool
  ro : Nat → Bool
  np : Nat
structure Ctx.Ok (c : Ctx) (X : Cx) : Prop where
  prog : X.prog = c.P
  w : X.w = c.w
  K : X.K = c.K
  mg : X.mg = c.mg
  base : X.base = c.base
  N : X.N = c.N
  sc : X.env.scope = c.sc
  nd : c.N.Nodup
  calm : X.calm = true
  room : Room c.lvl X.A
  gd : X.A.guards = some []
  fnn : ∀ x, c.fnn x = true → X.fn x = true
  po : PassesOwn (model X.prog X.w) X.A X.env X.xe
  code : ∃ q, PySem.W.codeIn X.K X.env.code q = true
abbrev Ctx.n (c : Ctx) : Shp := ⟨c.N.length, c.ro, c.np⟩

/-- behind an expression -/
def NE (c : Ctx) (X : Cx) (pins : List (Addr × Obj)) (σ : L2.St) (w : W) (H : Hp) : Out ER → Value → Shared → Prop
  | .ok r ς', u, s' => ∃ v H' w', Inv X pins σ H' s' ∧ RelV v u ∧ Fr w H w' H' ∧ Rel c.toSta c.n ς' σ H' w' ∧ ResOk c.toSta w' H H' σ v r
  | .ex _ _, _, _ => False
/-- what is thrown is taken -/
def XT {α : Type} (c : Ctx) (X : Cx) (w : W) (H : Hp) : Out α → Prop
  | .ok _ _ => True
  | .ex x ς' => Takes X (XW c.toSta c.n w H x ς')
theorem XT.from {α : Type} {c : Ctx} {X : Cx} {w w1 : W} {H H1 : Hp} {o : Out α} (F : Fr w H w1 H1) (h : XT c X w H o) : XT c X w1 H1 o := by
  cases o with
  | ok a ς' => trivial
  | ex x ς' => exact Takes.imp h fun _ _ _ _ q => XW.back F q
/-- the expression e does f -/
def VE0 (c : Ctx) (e : Expr) (f : Act ER)  : Prop :=
  ∀ X, c.Ok X → ∀ (pins : List (Addr × Obj)) (s : Shared) (σ : L2.St) (H : Hp) (w : W) (ς : St) (o : Out ER), f ς = some o → Inv X pins σ H s → Rel c.toSta c.n ς σ H w → XT c X w H o →
    wpAny (model X.prog X.w) X.A (eval e X.env) (NE c X pins σ w H o) X.xe s
structure VE (c : Ctx) (e : Expr) (f : Act ER)  : Prop where of ::
  run : VE0 c e f
instance {c : Ctx} {e} {f} : CoeFun (VE c e f) fun _ => VE0 c e f := ⟨VE.run⟩
/-- a test -/
def NT (c : Ctx) (X : Cx) (pins : List (Addr × Obj)) (σ : L2.St) (w : W) (H : Hp) : Out Bool → Bool → Shared → Prop
  | .ok b ς', b', s' => b' = b ∧ ∃ H' w', Inv X pins σ H' s' ∧ Fr w H w' H' ∧ Rel c.toSta c.n ς' σ H' w'
  | .ex _ _, _, _ => False
def VT0 (c : Ctx) (e : Expr) (f : Act Bool)  : Prop :=
  ∀ X, c.Ok X → ∀ (whole : Sem Value) (pins : List (Addr × Obj)) (s : Shared) (σ : L2.St) (H : Hp) (w : W) (ς : St) (o : Out Bool), f ς = some o → Inv X pins σ H s → Rel c.toSta c.n ς σ H w → XT c X w H o →
    (whole = eval e X.env ∨ ∃ op es p, e = .BoolOp op es p) → wpAny (model X.prog X.w) X.A (isTrue e X.env whole) (NT c X pins σ w H o) X.xe s
structure VT (c : Ctx) (e : Expr) (f : Act Bool)  : Prop where of ::
  run : VT0 c e f
instance {c : Ctx} {e} {f} : CoeFun (VT c e f) fun _ => VT0 c e f := ⟨VT.run⟩

section
variable {c : Ctx} {X : Cx} {pins : List (Addr × Obj)} {s : Shared} {σ : L2.St} {H : Hp} {w : W} {ς : St}
/-- an expression, then what follows -/
theorem ve_then {β : Type} {e : Expr} {f : Act ER} {k : ER → Act β} {o : Out β} (h : VE c e f) (hX : c.Ok X) (I : Inv X pins σ H s) (R : Rel c.toSta c.n ς σ H w) (T : XT c X w H o) (ho : f.bnd k ς = some o) {Q : Value → Shared → Prop}
    (hk : ∀ (r : ER) (ς1 : St) (u : Value) (s1 : Shared) (v : V) (H1 : Hp) (w1 : W), k r ς1 = some o → Inv X pins σ H1 s1 → RelV v u → Fr w H w1 H1 → Rel c.toSta c.n ς1 σ H1 w1 → XT c X w1 H1 o → ResOk c.toSta w1 H H1 σ v r → Q u s1) :
    wpAny (model X.prog X.w) X.A (eval e X.env) Q X.xe s := by
  unfold Act.bnd at ho
  cases q : f ς with
  | none => rw [q] at ho; cases ho
  | some o1 =>
    rw [q] at ho
    cases o1 with
    | ok r ς1 =>
      exact wpAny_mono (h X hX pins s σ H w ς _ q I R trivial) (fun u s1 ⟨v, H1, w1, I1, rv, F1, R1, ro⟩ => hk r ς1 u s1 v H1 w1 ho I1 rv F1 R1 (T.from F1) ro) fun _ _ z => z
    | ex x ς1 =>
      cases ho
      exact wpAny_mono (h X hX pins s σ H w ς _ q I R T) (fun _ _ z => z.elim) fun u s1 z => z
theorem vt_then {β : Type} {e : Expr} {f : Act Bool} {k : Bool → Act β} {o : Out β} (h : VT c e f) (hX : c.Ok X) (I : Inv X pins σ H s) (R : Rel c.toSta c.n ς σ H w) (T : XT c X w H o) (ho : f.bnd k ς = some o) {Q : Bool → Shared → Prop}
    (hk : ∀ (b : Bool) (ς1 : St) (s1 : Shared) (H1 : Hp) (w1 : W), k b ς1 = some o → Inv X pins σ H1 s1 → Fr w H w1 H1 → Rel c.toSta c.n ς1 σ H1 w1 → XT c X w1 H1 o → Q b s1) :
    wpAny (model X.prog X.w) X.A (isTrue e X.env (eval e X.env)) Q X.xe s := by
  unfold Act.bnd at ho
  cases q : f ς with
  | none => rw [q] at ho; cases ho
  | some o1 =>
    rw [q] at ho
    cases o1 with
    | ok r ς1 =>
      refine wpAny_mono (h X hX _ pins s σ H w ς _ q I R trivial (.inl rfl)) (fun u s1 ⟨e, H1, w1, I1, F1, R1⟩ => ?_) fun _ _ z => z
      subst e
      exact hk u ς1 s1 H1 w1 ho I1 F1 R1 (T.from F1)
    | ex x ς1 =>
      cases ho
      exact wpAny_mono (h X hX _ pins s σ H w ς _ q I R T (.inl rfl)) (fun _ _ z => z.elim) fun u s1 z => z
/-- an operation on values that lets nothing out, for any wish -/
theorem op_any {f : Value → Value → Sem Value} {r : R2} (ho : OpR X.nox f r) {x y : V} {u1 u2 : Value} {Q : VK} {E : Value → Shared → Prop} (I : Inv X pins σ H s) (rx : RelV x u1) (ry : RelV y u2) (q : r x y H Q) :
    wpAny (model X.prog X.w) X.A (f u1 u2) (EP X pins σ Q) E s :=
  wpAny_mono (ho pins s σ H x y u1 u2 Q (I.wish _) rx ry q) (fun _ _ ⟨v, H', I', r, q⟩ => ⟨v, H', I'.unwish, r, q⟩) fun _ _ z => False.elim z
end
end VS

namespace VS
open PySem L2 PyProof.Rows

/-! ### data as the library's data -/
mutual
def toPy : Dat → Option PyData
  | .non => some .none
  | .bl b => some (.bool b)
  | .int i => some (.int i)
  | .str x => some (.str x)
  | .tup ds => (toPys ds).map .tuple
  | .lst ds => (toPys ds).map .list
  | _ => none
def toPys : List Dat → Option (List PyData)
  | [] => some []
  | d :: ds => match toPy d, toPys ds with
    | some p, some ps => some (p :: ps)
    | _, _ => none
end

section
variable {S : Sta} {n : Shp} {ς ς' : St} {σ : L2.St} {H H' Hs : Hp} {w w0 w' : W} {v : V} {d : Dat} {r : ER}
mutual
theorem Rep.dp (sub : Ext w.Hf H) : ∀ {v : V} {d : Dat} {p : PyData}, Rep S w.Hf w.ads v d → toPy d = some p → Dp S.K H v p
  | _, _, _, .non, e => by cases e; exact .non
  | _, _, _, .bl b, e => by cases e; exact .bl b
  | _, _, _, .int i, e => by cases e; exact .int i
  | _, _, _, .str x, e => by cases e; exact .str x
  | _, _, _, .ty n, e => by cases e
  | _, _, _, .fn h, e => by cases e
  | _, _, _, .cl h, e => by cases e
  | _, _, _, .obj h, e => by cases e
  | _, .tup ds, _, .tup h r, e => by
    unfold toPy at e
    cases q : toPys ds with
    | none => rw [q] at e; cases e
    | some ps => rw [q] at e; cases e; exact .tup (sub.sqT h) (Reps.dp sub r q)
  | _, .lst ds, _, .lst h r, e => by
    unfold toPy at e
    cases q : toPys ds with
    | none => rw [q] at e; cases e
    | some ps => rw [q] at e; cases e; exact .lst (sub.sqL h) (Reps.dp sub r q)
  | _, _, _, .dicK h r, e => by cases e
  | _, _, _, .dicT h r, e => by cases e
  | _, _, _, .set h, e => by cases e
theorem Reps.dp (sub : Ext w.Hf H) : ∀ {vs : List V} {ds : List Dat} {ps : List PyData}, Reps S w.Hf w.ads vs ds → toPys ds = some ps → DpAll S.K H vs ps
  | _, _, _, .nil, e => by cases e; exact .nil
  | _, d :: ds, _, .cons r t, e => by
    unfold toPys at e
    cases q : toPy d with
    | none => rw [q] at e; cases e
    | some p =>
      cases q' : toPys ds with
      | none => rw [q, q'] at e; cases e
      | some ps => rw [q, q'] at e; cases e; exact .cons (Rep.dp sub r q) (Reps.dp sub t q')
end
theorem View.dp {p : PyData} (sub : Ext w.Hf H) (h : View S w H v d) (e : toPy d = some p) : Dp S.K H v p := by
  rcases h with h | ⟨a, rfl, h⟩
  · exact h.dp sub e
  · cases h with
    | lst h r =>
      rename_i vs ds
      unfold toPy at e
      cases q : toPys ds with
      | none => rw [q] at e; cases e
      | some ps => rw [q] at e; cases e; exact .lst (SqL.of h) (r.dp sub q)
    | dicK h r => cases e
    | dicT h r => cases e
    | set h => cases e
theorem View.lst {ds : List Dat} (sub : Ext w.Hf H) (h : View S w H v (.lst ds)) : ∃ a vs, v = .ref a ∧ SqL S.K H a vs ∧ Reps S w.Hf w.ads vs ds := by
  rcases h with h | ⟨a, rfl, h⟩
  · cases h with
    | lst h r => exact ⟨_, _, rfl, sub.sqL h, r⟩
  · cases h with
    | lst h r => exact ⟨_, _, rfl, .inl (.inl h), r⟩
theorem View.tup {ds : List Dat} (sub : Ext w.Hf H) (h : View S w H v (.tup ds)) : ∃ a vs, v = .ref a ∧ SqT S.K H a vs ∧ Reps S w.Hf w.ads vs ds := by
  rcases h with h | ⟨a, rfl, h⟩
  · cases h with
    | tup h r => exact ⟨_, _, rfl, sub.sqT h, r⟩
  · cases h
theorem View.int {i : Int} (h : View S w H v (.int i)) : v = .int i := by
  rcases h with h | ⟨a, rfl, h⟩
  · cases h; rfl
  · cases h
theorem View.str {x : Str} (h : View S w H v (.str x)) : v = .str x := by
  rcases h with h | ⟨a, rfl, h⟩
  · cases h; rfl
  · cases h
theorem View.bl {b : Bool} (h : View S w H v (.bl b)) : v = .bl b := by
  rcases h with h | ⟨a, rfl, h⟩
  · cases h; rfl
  · cases h
theorem View.non (h : View S w H v .non) : v = .non := by
  rcases h with h | ⟨a, rfl, h⟩
  · cases h; rfl
  · cases h
theorem View.ty {m : String} (h : View S w H v (.ty m)) : v = .ty m := by
  rcases h with h | ⟨a, rfl, h⟩
  · cases h; rfl
  · cases h
theorem Reps.length : ∀ {vs : List V} {ds : List Dat}, Reps S w.Hf w.ads vs ds → vs.length = ds.length
  | _, _, .nil => rfl
  | _, _, .cons _ t => congrArg (· + 1) (Reps.length t)
theorem Reps.get : ∀ {vs : List V} {ds : List Dat} {i : Nat} {d : Dat}, Reps S w.Hf w.ads vs ds → ds[i]? = some d → ∃ v, vs[i]? = some v ∧ Rep S w.Hf w.ads v d
  | _, _, _, _, .nil, e => by simp at e
  | _, _, 0, _, .cons r t, e => by simp at e; subst e; exact ⟨_, rfl, r⟩
  | _, _, i + 1, _, .cons r t, e => by
    obtain ⟨v, h1, h2⟩ := Reps.get (i := i) t (by simpa using e)
    exact ⟨v, by simpa using h1, h2⟩
theorem Reps.getV : ∀ {vs : List V} {ds : List Dat} {i : Nat} {v : V}, Reps S w.Hf w.ads vs ds → vs[i]? = some v → ∃ d, ds[i]? = some d ∧ Rep S w.Hf w.ads v d
  | _, _, _, _, .nil, e => by simp at e
  | _, _, 0, _, .cons r t, e => by simp at e; subst e; exact ⟨_, rfl, r⟩
  | _, _, i + 1, _, .cons r t, e => by
    obtain ⟨v, h1, h2⟩ := Reps.getV (i := i) t (by simpa using e)
    exact ⟨v, by simpa using h1, h2⟩
theorem Reps.append : ∀ {vs us : List V} {ds es : List Dat}, Reps S w.Hf w.ads vs ds → Reps S w.Hf w.ads us es → Reps S w.Hf w.ads (vs ++ us) (ds ++ es)
  | _, _, _, _, .nil, q => q
  | _, _, _, _, .cons r t, q => .cons r (Reps.append t q)
theorem Reps.drop : ∀ {vs : List V} {ds : List Dat} (k : Nat), Reps S w.Hf w.ads vs ds → Reps S w.Hf w.ads (vs.drop k) (ds.drop k)
  | _, _, 0, r => r
  | _, _, _ + 1, .nil => .nil
  | _, _, k + 1, .cons _ t => Reps.drop k t
theorem Reps.take : ∀ {vs : List V} {ds : List Dat} (k : Nat), Reps S w.Hf w.ads vs ds → Reps S w.Hf w.ads (vs.take k) (ds.take k)
  | _, _, 0, _ => .nil
  | _, _, _ + 1, .nil => .nil
  | _, _, k + 1, .cons r t => .cons r (Reps.take k t)
theorem Reps.set {v : V} {d : Dat} (q : Rep S w.Hf w.ads v d) : ∀ {vs : List V} {ds : List Dat} (k : Nat), Reps S w.Hf w.ads vs ds → Reps S w.Hf w.ads (vs.set k v) (ds.set k d)
  | _, _, _, .nil => .nil
  | _, _, 0, .cons _ t => .cons q t
  | _, _, k + 1, .cons r t => .cons r (Reps.set q k t)
theorem Reps.reverse : ∀ {vs : List V} {ds : List Dat}, Reps S w.Hf w.ads vs ds → Reps S w.Hf w.ads vs.reverse ds.reverse
  | _, _, .nil => .nil
  | _, _, .cons r t => by
    rw [List.reverse_cons, List.reverse_cons]
    exact (Reps.reverse t).append (.cons r .nil)
theorem Rel.ext (R : Rel S n ς σ H w) : Ext w.Hf H := R.sub
end

section
variable {c : Ctx} {X : Cx} {pins : List (Addr × Obj)} {s s' : Shared} {σ : L2.St} {H : Hp} {w : W} {ς : St} {u : Value} {v : V} {d : Dat}
/-- a result that was there, or no object -/
theorem ne_fr (I : Inv X pins σ H s') (rv : RelV v u) (R : Rel c.toSta c.n ς σ H w) (rp : Rep c.toSta w.Hf w.ads v d) : NE c X pins σ w H (.ok (.fr d) ς) u s' :=
  ⟨v, H, w, I, rv, Fr.refl w H, R, rp⟩
/-- a new list of one's own -/
theorem ne_lst {p : Addr} {vs : List V} {ds : List Dat} (I : Inv X pins σ (upd H p (.lst vs)) s') (hp : H p = none) (R : Rel c.toSta c.n ς σ H w) (rs : Reps c.toSta w.Hf w.ads vs ds) : NE c X pins σ w H (.ok (.tp (.lst ds)) ς) (.ref p) s' := by
  obtain ⟨R', F'⟩ := R.laid (o := .lst vs) hp
  refine ⟨.ref p, _, w, I, rfl, F', R', p, rfl, hp, R.own0 p hp, ?_, .lst upd_same rs⟩
  cases q : w.Hf p with
  | none => rfl
  | some o => have := R.sub p o q; rw [hp] at this; cases this
/-- a new tuple -/
theorem ne_tup {p : Addr} {vs : List V} {ds : List Dat} (I : Inv X pins σ (upd H p (.tup vs)) s') (hp : H p = none) (R : Rel c.toSta c.n ς σ H w) (rs : Reps c.toSta w.Hf w.ads vs ds) : NE c X pins σ w H (.ok (.fr (.tup ds)) ς) (.ref p) s' := by
  obtain ⟨R', F'⟩ := R.laid (o := .tup vs) hp
  have hn : w.Hf p = none := by
    cases q : w.Hf p with
    | none => rfl
    | some o => have := R.sub p o q; rw [hp] at this; cases this
  refine ⟨.ref p, _, frz w p (.tup vs), I, rfl, F'.freeze_tmp hp hn, R'.freeze_tmp (R.own0 p hp) hn upd_same, ?_⟩
  exact .tup (.inl (.inl (by show upd w.Hf p (.tup vs) p = _; exact upd_same))) (rs.mono (frz_ext hn) fun _ _ h => h)
/-- a new dict of one's own -/
theorem ne_dicK {p : Addr} {l : List (Key × V)} {kvs : List (Dat × Dat)} (I : Inv X pins σ (upd H p (.dK l)) s') (hp : H p = none) (R : Rel c.toSta c.n ς σ H w) (rs : RepK c.toSta w.Hf w.ads l kvs) : NE c X pins σ w H (.ok (.tp (.dic kvs)) ς) (.ref p) s' := by
  obtain ⟨R', F'⟩ := R.laid (o := .dK l) hp
  refine ⟨.ref p, _, w, I, rfl, F', R', p, rfl, hp, R.own0 p hp, ?_, .dicK upd_same rs⟩
  cases q : w.Hf p with
  | none => rfl
  | some o => have := R.sub p o q; rw [hp] at this; cases this
end

/-- a two-place operation on data: f of the machine's values does g -/
def P2 (c : Ctx) (f : Value → Value → Sem Value) (g : Dat → Dat → Option ER) : Prop :=
  ∀ X, c.Ok X → ∀ (pins : List (Addr × Obj)) (s : Shared) (σ : L2.St) (H : Hp) (w : W) (ς : St) (x y : V) (u1 u2 : Value) (a b : Dat) (r : ER),
    Inv X pins σ H s → Rel c.toSta c.n ς σ H w → RelV x u1 → RelV y u2 → View c.toSta w H x a → View c.toSta w H y b → g a b = some r →
    wpAny (model X.prog X.w) X.A (f u1 u2) (NE c X pins σ w H (.ok r ς)) (fun _ _ => False) s
/-- from a rule by values -/
theorem P2.of {c : Ctx} {f : Value → Value → Sem Value} {g : Dat → Dat → Option ER}
    (h : ∀ X, c.Ok X → ∀ (pins : List (Addr × Obj)) (s : Shared) (σ : L2.St) (H : Hp) (w : W) (ς : St) (x y : V) (a b : Dat) (r : ER), Inv X pins σ H s → Rel c.toSta c.n ς σ H w → View c.toSta w H x a → View c.toSta w H y b → g a b = some r →
      ∃ (rr : R2) (Q : VK), OpR X.nox f rr ∧ rr x y H Q ∧ ∀ v H' u s', Q v H' → Inv X pins σ H' s' → RelV v u → NE c X pins σ w H (.ok r ς) u s') : P2 c f g :=
  fun X hX pins s σ H w ς x y u1 u2 a b r I R rx ry va vb e => by
    obtain ⟨rr, Q, ho, hq, k⟩ := h X hX pins s σ H w ς x y a b r I R va vb e
    exact wpAny_mono (op_any ho (E := fun _ _ => False) I rx ry hq) (fun u s' ⟨v, H', I', rv, q⟩ => k v H' u s' q I' rv) fun _ _ z => z

def opD (g : Dat → Dat → Option ER) (r1 r2 : ER) : Act ER := fun ς => match cur ς r1, cur ς r2 with
  | some a, some b => (g a b).map fun r => .ok r ς
  | _, _ => none
/-- evaluates both, then the operation -/
def op2 (g : Dat → Dat → Option ER) (fa fb : Act ER) : Act ER := fa.bnd fun r1 => fb.bnd fun r2 => opD g r1 r2

section
variable {c : Ctx} {X : Cx} {a b : Expr} {fa fb : Act ER} {pos : Pos}
theorem NE.from {pins : List (Addr × Obj)} {σ : L2.St} {w w1 : W} {H H1 : Hp} {o : Out ER} {u : Value} {s' : Shared} (F : Fr w H w1 H1) (h : NE c X pins σ w1 H1 o u s') : NE c X pins σ w H o u s' := by
  cases o with
  | ok r ς' =>
    obtain ⟨v, H', w', I, rv, F', R, ro⟩ := h
    exact ⟨v, H', w', I, rv, F.trans F', R, ro.back F.dm⟩
  | ex x ς' => exact h
/-- the frame of any syntax that evaluates two parts and then does f -/
theorem ve_two {f : Value → Value → Sem Value} {g : Dat → Dat → Option ER} (hf : P2 c f g) (ha : VE c a fa) (hb : VE c b fb) (hX : c.Ok X) {pins : List (Addr × Obj)} {s : Shared} {σ : L2.St} {H : Hp} {w : W} {ς : St} {o : Out ER}
    (ho : op2 g fa fb ς = some o) (I : Inv X pins σ H s) (R : Rel c.toSta c.n ς σ H w) (T : XT c X w H o) :
    wpAny (model X.prog X.w) X.A (eval a X.env) (fun v s₁ => wpAny (model X.prog X.w) X.A (eval b X.env) (fun u s₂ => wpAny (model X.prog X.w) X.A (f v u) (NE c X pins σ w H o) X.xe s₂) X.xe s₁) X.xe s := by
  refine ve_then ha hX I R T ho fun r1 ς1 u1 s1 v1 H1 w1 h1 I1 rv1 F1 R1 T1 ro1 => ?_
  refine ve_then hb hX I1 R1 T1 h1 fun r2 ς2 u2 s2 v2 H2 w2 h2 I2 rv2 F2 R2 T2 ro2 => ?_
  unfold opD at h2
  cases e1 : cur ς2 r1 with
  | none => rw [e1] at h2; cases h2
  | some d1 =>
    cases e2 : cur ς2 r2 with
    | none => rw [e1, e2] at h2; cases h2
    | some d2 =>
      rw [e1, e2] at h2
      simp only at h2
      cases e3 : g d1 d2 with
      | none => rw [e3] at h2; cases h2
      | some r =>
        rw [e3] at h2
        cases h2
        refine wpAny_mono (hf X hX pins s2 σ H2 w2 ς2 v1 v2 u1 u2 d1 d2 r I2 R2 rv1 rv2 (R2.view (ro1.carry F2) e1) (R2.view ro2 e2) e3) (fun u s' z => NE.from (F1.trans F2) z) fun _ _ z => z.elim
theorem ve_binop {op : Operator} {g : Dat → Dat → Option ER} (hf : P2 c (binaryOp op) g) (ha : VE c a fa) (hb : VE c b fb) : VE c (.BinOp a op b pos) (op2 g fa fb) :=
  .of fun X hX pins s σ H w ς o ho I R T => wpAny_BinOp (ve_two hf ha hb hX ho I R T)
theorem ve_cmp {op : CmpOp} {g : Dat → Dat → Option ER} (hf : P2 c (compareOp op) g) (ha : VE c a fa) (hb : VE c b fb) (hm : behindInMarks op b = false) : VE c (.Compare a [op] [b] pos) (op2 g fa fb) :=
  .of fun X hX pins s σ H w ς o ho I R T => wpAny_Compare1 (ve_two hf ha hb hX ho I R T) hm
/-- a constant -/
def cst (d : Dat) : Act ER := Act.ret (.fr d)
theorem ve_pe {e : Expr} {d : Dat} {v : V} (h : ∀ X : Cx, PE X e (tC v)) (rp : ∀ S Hf ads, Rep S Hf ads v d) : VE c e (cst d) := .of fun X hX pins s σ H w ς o ho I R T => by
  cases ho
  refine wpAny_mono ((h X.nox).run pins s σ H (fun v' H' => v' = v ∧ H' = H) (I.wish _) ⟨rfl, rfl⟩) (fun u s' ⟨v', H', I', rv, e1, e2⟩ => ?_) fun _ _ z => False.elim z
  subst e1; subst e2
  exact ne_fr I'.unwish rv R (rp _ _ _)
theorem ve_int {i j pos} : VE c (.Constant (.int i) j pos) (cst (.int i)) := ve_pe (v := .int i) (fun X => pe_int) fun _ _ _ => .int i
theorem ve_str {x j pos} : VE c (.Constant (.str x) j pos) (cst (.str x)) := ve_pe (v := .str x) (fun X => pe_str) fun _ _ _ => .str x
theorem ve_bl {b j pos} : VE c (.Constant (.bool b) j pos) (cst (.bl b)) := ve_pe (v := .bl b) (fun X => pe_bl) fun _ _ _ => .bl b
theorem ve_non {j pos} : VE c (.Constant .none j pos) (cst .non) := ve_pe (v := .non) (fun X => pe_non) fun _ _ _ => .non
/-- a name -/
def var (i : Nat) : Act ER := fun ς => match ς.sl[i]? with
  | some (some (.fr d)) => some (.ok (.fr d) ς)
  | some (some (.ow d)) => some (.ok (.sl i) ς)
  | _ => none
theorem ve_var {i : Nat} {x : Str} (hN : c.N[i]? = some x) (hv : Vis c.sc x) (hd : (x == ("__debug__" : Str)) = false) (hcd : (x == ("__classdict__" : Str)) = false) : VE c (.Name x pos) (var i) := .of fun X hX pins s σ H w ς o ho I R T => by
  have run : ∀ (v : V), σ[i]? = some (some v) → wpAny (model X.prog X.w) X.A (eval (.Name x pos) X.env) (fun u s' => Inv X pins σ H s' ∧ RelV v u) (fun _ _ => False) s := fun v e => by
    have g := (pe_var (X := X.nox) (pos := pos) (by show X.N[i]? = _; rw [hX.N]; exact hN) (by show Vis X.env.scope x; rw [hX.sc]; exact hv) hd hcd).run pins s σ H (fun v' H' => v' = v ∧ H' = H) (I.wish _) ⟨v, e, rfl, rfl⟩
    refine wpAny_mono g (fun u s' ⟨v', H', I', rv, e1, e2⟩ => ?_) fun _ _ z => z
    subst e1; subst e2
    exact ⟨I'.unwish, rv⟩
  unfold var at ho
  split at ho
  · rename_i d e
    cases ho
    obtain ⟨v, e1, e2⟩ := R.slots _ _ e
    exact wpAny_mono (run v e1) (fun u s' ⟨I', rv⟩ => ne_fr I' rv R e2) fun _ _ z => z.elim
  · rename_i d e
    cases ho
    obtain ⟨v, e1, e2⟩ := R.slots _ _ e
    exact wpAny_mono (run v e1) (fun u s' ⟨I', rv⟩ => ⟨v, H, w, I', rv, Fr.refl w H, R, e1⟩) fun _ _ z => z.elim
  · cases ho
end

/-! ### operations on data -/
def intC (f : Int → Int → Dat) (C : Int → Int → Bool) : Dat → Dat → Option ER
  | .int i, .int j => if C i j = true then some (.fr (f i j)) else none
  | _, _ => none
theorem p2_int {c : Ctx} {op : Value → Value → Sem Value} {C : Int → Int → Prop} {f : Int → Int → V} {f' : Int → Int → Dat} {Cb : Int → Int → Bool} (h : ∀ X : Cx, OpR X op (rI C f)) (hc : ∀ i j, Cb i j = true → C i j) (hf : ∀ S Hf ads i j, Rep S Hf ads (f i j) (f' i j)) : P2 c op (intC f' Cb) :=
  P2.of fun X hX pins s σ H w ς x y a b r I R va vb e => by
    unfold intC at e
    split at e
    · rename_i i j
      split at e
      · rename_i hcc
        cases e
        obtain rfl := va.int
        obtain rfl := vb.int
        refine ⟨_, fun v H' => v = f i j ∧ H' = H, h X.nox, ⟨i, j, rfl, rfl, hc i j hcc, rfl, rfl⟩, fun v H' u s' ⟨e1, e2⟩ I' rv => ?_⟩
        subst e1; subst e2
        exact ne_fr I' rv R (hf _ _ _ i j)
      · cases e
    · cases e
theorem rI0_rI {X : Cx} {op : Value → Value → Sem Value} {f : Int → Int → V} (h : OpR X op (rI0 f)) : OpR X op (rI (fun _ _ => True) f) := fun pins s σ H x y v u Q I rx ry ⟨i, j, e1, e2, _, q⟩ => h pins s σ H x y v u Q I rx ry ⟨i, j, e1, e2, q⟩
def yes2 : Int → Int → Bool := fun _ _ => true
/-- one of several operations -/
theorem P2.alt {c : Ctx} {f : Value → Value → Sem Value} {g g' : Dat → Dat → Option ER} (h : P2 c f g) (h' : P2 c f g') : P2 c f (fun a b => match g a b with | some r => some r | none => g' a b) :=
  fun X hX pins s σ H w ς x y u1 u2 a b r I R rx ry va vb e => by
    cases q : g a b with
    | some r' => simp only [q] at e; cases e; exact h X hX pins s σ H w ς x y u1 u2 a b r I R rx ry va vb q
    | none => simp only [q] at e; exact h' X hX pins s σ H w ς x y u1 u2 a b r I R rx ry va vb e
section
variable {c : Ctx}
theorem p2_add_int : P2 c (binaryOp .Add) (intC (fun i j => .int (i + j)) yes2) := p2_int (fun X => rI0_rI op_add) (fun _ _ _ => trivial) fun _ _ _ _ _ => .int _
theorem p2_sub_int : P2 c (binaryOp .Sub) (intC (fun i j => .int (i - j)) yes2) := p2_int (fun X => rI0_rI op_sub) (fun _ _ _ => trivial) fun _ _ _ _ _ => .int _
def mulC (i j : Int) : Bool := decide (-(2 ^ 64) < i ∧ i < 2 ^ 64) || decide (-(2 ^ 64) < j ∧ j < 2 ^ 64)
theorem p2_mul_int : P2 c (binaryOp .Mult) (intC (fun i j => .int (i * j)) mulC) := p2_int (fun X => op_mul) (fun i j h => by
  unfold mulC at h
  rcases Bool.or_eq_true _ _ ▸ h with h | h
  · exact .inl (of_decide_eq_true h)
  · exact .inr (of_decide_eq_true h)) fun _ _ _ _ _ => .int _
def divC (i j : Int) : Bool := decide (0 < j ∧ j < 2 ^ 256)
theorem op_fdivG {X : Cx} : OpR X (binaryOp .FloorDiv) (rI (fun _ j => 0 < j ∧ j < 2 ^ 256) fun i j => .int (i / j)) := opI fun i j _ _ _ _ _ hc q => by
  have h1 : (0 : Int) < j := hc.1
  have h2 : j < 2 ^ 256 := hc.2
  refine floordiv_int (by omega) (by rw [Int.fdiv_eq_ediv_of_nonneg i (by omega)]; exact q) (.inl (PyProof.noPylong_of_log2 ?_))
  have h3 : j.natAbs.log2 < 256 := (Nat.log2_lt (by omega)).mpr (by omega)
  omega
theorem p2_fdiv_int : P2 c (binaryOp .FloorDiv) (intC (fun i j => .int (i / j)) divC) := p2_int (fun X => op_fdivG) (fun i j h => of_decide_eq_true (p := 0 < j ∧ j < 2 ^ 256) h) fun _ _ _ _ _ => .int _
def modC (i j : Int) : Bool := decide (0 < j)
theorem p2_mod_int : P2 c (binaryOp .Mod) (intC (fun i j => .int (i % j)) modC) := p2_int (fun X => op_mod) (fun i j h => of_decide_eq_true h) fun _ _ _ _ _ => .int _
def powC (i j : Int) : Bool := decide (0 ≤ j ∧ j ≤ 1000000 ∧ i.natAbs < 2 ^ 64)
theorem p2_pow_int : P2 c (binaryOp .Pow) (intC (fun i j => .int (i ^ j.toNat)) powC) := p2_int (fun X => op_pow) (fun i j h => of_decide_eq_true (p := 0 ≤ j ∧ j ≤ 1000000 ∧ i.natAbs < 2 ^ 64) h) fun _ _ _ _ _ => .int _
theorem p2_shl_int : P2 c (binaryOp .LShift) (intC (fun i j => .int (i * 2 ^ j.toNat)) powC) := p2_int (fun X => op_shl) (fun i j h => of_decide_eq_true (p := 0 ≤ j ∧ j ≤ 1000000 ∧ i.natAbs < 2 ^ 64) h) fun _ _ _ _ _ => .int _
def shrC (i j : Int) : Bool := decide (0 ≤ j)
theorem p2_shr_int : P2 c (binaryOp .RShift) (intC (fun i j => .int (i / 2 ^ j.toNat)) shrC) := p2_int (fun X => op_shr) (fun i j h => of_decide_eq_true h) fun _ _ _ _ _ => .int _
theorem p2_and_int : P2 c (binaryOp .BitAnd) (intC (fun i j => .int (Builtin.bitAnd i j)) yes2) := p2_int (fun X => rI0_rI op_and) (fun _ _ _ => trivial) fun _ _ _ _ _ => .int _
theorem p2_or_int : P2 c (binaryOp .BitOr) (intC (fun i j => .int (Builtin.bitOr i j)) yes2) := p2_int (fun X => rI0_rI op_or) (fun _ _ _ => trivial) fun _ _ _ _ _ => .int _
theorem p2_xor_int : P2 c (binaryOp .BitXor) (intC (fun i j => .int (Builtin.bitXor i j)) yes2) := p2_int (fun X => rI0_rI op_xor) (fun _ _ _ => trivial) fun _ _ _ _ _ => .int _
theorem p2_lt_int : P2 c (compareOp .Lt) (intC (fun i j => .bl (decide (i < j))) yes2) := p2_int (fun X => rI0_rI op_lt) (fun _ _ _ => trivial) fun _ _ _ _ _ => .bl _
theorem p2_le_int : P2 c (compareOp .LtE) (intC (fun i j => .bl (decide (i ≤ j))) yes2) := p2_int (fun X => rI0_rI op_le) (fun _ _ _ => trivial) fun _ _ _ _ _ => .bl _
theorem p2_gt_int : P2 c (compareOp .Gt) (intC (fun i j => .bl (decide (j < i))) yes2) := p2_int (fun X => rI0_rI op_gt) (fun _ _ _ => trivial) fun _ _ _ _ _ => .bl _
theorem p2_ge_int : P2 c (compareOp .GtE) (intC (fun i j => .bl (decide (j ≤ i))) yes2) := p2_int (fun X => rI0_rI op_ge) (fun _ _ _ => trivial) fun _ _ _ _ _ => .bl _

/-- texts one behind the other -/
def strCat : Dat → Dat → Option ER
  | .str x, .str y => if x.length + y.length ≤ sizeLine then some (.fr (.str (x ++ y))) else none
  | _, _ => none
theorem p2_add_str : P2 c (binaryOp .Add) strCat := P2.of fun X hX pins s σ H w ς x y a b r I R va vb e => by
  unfold strCat at e
  split at e
  · rename_i i j
    split at e
    · rename_i hz
      cases e
      obtain rfl := va.str
      obtain rfl := vb.str
      refine ⟨_, fun v H' => v = .str (i ++ j) ∧ H' = H, op_add_str, ⟨i, j, rfl, rfl, hz, rfl, rfl⟩, fun v H' u s' ⟨e1, e2⟩ I' rv => ?_⟩
      subst e1; subst e2
      exact ne_fr I' rv R (.str _)
    · cases e
  · cases e
/-- lists one behind the other -/
theorem op_catG {X : Cx} : OpR X (binaryOp .Add) (fun x y H Q => ∃ l b xs zs, x = .ref l ∧ y = .ref b ∧ SqL X.K H l xs ∧ SqL X.K H b zs ∧ xs.length + zs.length ≤ sizeLine ∧ ∀ p, H p = none → Q (.ref p) (upd H p (.lst (xs ++ zs)))) := by
  intro pins s σ H x y v u Q I rx ry h
  obtain ⟨l, b, xs, zs, rfl, rfl, hH, hB, hz, q⟩ := h
  cases rx
  cases ry
  obtain ⟨its, r, p1, _⟩ := I.list hH
  obtain ⟨its2, r2, p2, _⟩ := I.list hB
  have hl := r.length
  have hl2 := r2.length
  obtain ⟨⟨cls, dd, data, sl⟩, ho, hc, n, hd⟩ := p1.isList
  obtain ⟨⟨cls2, dd2, data2, sl2⟩, ho2, hc2, n2, hd2⟩ := p2.isList
  simp only at hc hd hc2 hd2
  subst hc hd hc2 hd2
  have ea : its.toArray ++ its2.toArray = (its ++ its2).toArray := by simp
  refine concat_meets ⟨_, ho, rfl⟩ ⟨_, ho2, rfl⟩ noFill_list_add seq_list_add PySem.F.slot_list_add PySem.F.entry_list_add (PySem.F.args_list_add_2 _ _) (list_addW l b its.toArray its2.toArray n n2 dd dd2 sl sl2 (by rw [List.size_toArray, List.size_toArray]; omega)) ⟨ho, ho2, ?_⟩
  rw [ea]
  exact ⟨.ref _, _, I.lnew (t' := s.toks) (r.append r2) (by rw [List.length_append]; omega), rfl, q _ I.fresh⟩
def lstCat : Dat → Dat → Option ER
  | .lst x, .lst y => if x.length + y.length ≤ sizeLine then some (.tp (.lst (x ++ y))) else none
  | _, _ => none
theorem p2_add_lst : P2 c (binaryOp .Add) lstCat := P2.of fun X hX pins s σ H w ς x y a b r I R va vb e => by
  unfold lstCat at e
  split at e
  · rename_i i j
    split at e
    · rename_i hz
      cases e
      obtain ⟨a, vs, rfl, ha, ra⟩ := va.lst R.sub
      obtain ⟨b, us, rfl, hb, rb⟩ := vb.lst R.sub
      refine ⟨_, fun v H' => ∃ p, v = .ref p ∧ H p = none ∧ H' = upd H p (.lst (vs ++ us)), op_catG, ⟨a, b, vs, us, rfl, rfl, by show SqL X.K H a vs; rw [hX.K]; exact ha, by show SqL X.K H b us; rw [hX.K]; exact hb, by rw [ra.length, rb.length]; exact hz, fun p hp => ⟨p, rfl, hp, rfl⟩⟩, fun v H' u s' ⟨p, e1, hp, e2⟩ I' rv => ?_⟩
      subst e1; subst e2
      cases rv
      exact ne_lst I' hp R (ra.append rb)
    · cases e
  · cases e
end
end VS

namespace VS
open PySem L2 PyProof.Rows

section
variable {c : Ctx} {X : Cx} {a b : Expr} {fa fb fc : Act ER} {pos : Pos}
theorem Ctx.Ok.hu (h : c.Ok X) : X.A.units + 64 < cLine := h.room.units
theorem Ctx.Ok.nox (h : c.Ok X) : c.Ok X.nox := ⟨h.prog, h.w, h.K, h.mg, h.base, h.N, h.sc, h.nd, h.calm, h.room, h.gd, h.fnn, PassesOwn.never, h.code⟩

/-! ### more operations -/
/-- == of data -/
def eqP (a b : Dat) : Option Bool := match toPy a, toPy b with
  | some p, some q => if SeqAt.shaped p && SeqAt.shaped q then some (PyData.eqv p q) else none
  | _, _ => none
def scD : Dat → Dat → Option Bool
  | .int i, .int j => some (decide (i = j))
  | .str x, .str y => some (decide (x = y))
  | .bl x, .bl y => some (decide (x = y))
  | .non, .non => some true
  | .non, .int _ => some false
  | .int _, .non => some false
  | .non, .bl _ => some false
  | .bl _, .non => some false
  | .non, .str _ => some false
  | .str _, .non => some false
  | .int _, .str _ => some false
  | .str _, .int _ => some false
  | .bl _, .str _ => some false
  | .str _, .bl _ => some false
  | _, _ => none
def eqD (a b : Dat) : Option Bool := match scD a b with
  | some k => some k
  | none => eqP a b
def eqE (a b : Dat) : Option ER := (eqD a b).map fun k => .fr (.bl k)
def neE (a b : Dat) : Option ER := (eqD a b).map fun k => .fr (.bl (!k))
def toV : Dat → Option V
  | .non => some .non
  | .bl b => some (.bl b)
  | .int i => some (.int i)
  | .str x => some (.str x)
  | _ => none
theorem View.sc {S : Sta} {w : W} {H : Hp} {v : V} {d : Dat} {x : V} (h : View S w H v d) (e : toV d = some x) : v = x := by
  cases d <;> cases e
  · exact h.non
  · exact h.bl
  · exact h.int
  · exact h.str
theorem scD_ok {a b : Dat} {k : Bool} (h : scD a b = some k) : ∃ x y, toV a = some x ∧ toV b = some y ∧ scal x y = true ∧ decide (x = y) = k := by
  unfold scD at h
  split at h <;> cases h <;> exact ⟨_, _, rfl, rfl, rfl, by simp⟩
theorem p2_eq : P2 c (compareOp .Eq) eqE := P2.of fun X hX pins s σ H w ς x y a b r I R va vb e => by
  unfold eqE eqD at e
  cases q : scD a b with
  | some k =>
    rw [q] at e
    cases e
    obtain ⟨x', y', e1, e2, e3, e4⟩ := scD_ok q
    obtain rfl := va.sc e1
    obtain rfl := vb.sc e2
    refine ⟨_, fun v H' => v = .bl k ∧ H' = H, op_eq, ⟨e3, by rw [e4], rfl⟩, fun v H' u s' ⟨e1, e2⟩ I' rv => ?_⟩
    subst e1; subst e2
    exact ne_fr I' rv R (.bl _)
  | none =>
    rw [q] at e
    simp only at e
    unfold eqP at e
    split at e
    · rename_i p q' e1 e2
      split at e
      · rename_i hs
        cases e
        rw [Bool.and_eq_true] at hs
        refine ⟨_, fun v H' => v = .bl (PyData.eqv p q') ∧ H' = H, op_eqD hX.hu, ⟨p, q', by show Dp X.K _ _ _; rw [hX.K]; exact va.dp R.sub e1, by show Dp X.K _ _ _; rw [hX.K]; exact vb.dp R.sub e2, hs.1, hs.2, rfl, rfl⟩, fun v H' u s' ⟨e1, e2⟩ I' rv => ?_⟩
        subst e1; subst e2
        exact ne_fr I' rv R (.bl _)
      · cases e
    · cases e
theorem p2_ne : P2 c (compareOp .NotEq) neE := P2.of fun X hX pins s σ H w ς x y a b r I R va vb e => by
  unfold neE eqD at e
  cases q : scD a b with
  | some k =>
    rw [q] at e
    cases e
    obtain ⟨x', y', e1, e2, e3, e4⟩ := scD_ok q
    obtain rfl := va.sc e1
    obtain rfl := vb.sc e2
    refine ⟨_, fun v H' => v = .bl (!k) ∧ H' = H, op_ne, ⟨e3, by rw [e4], rfl⟩, fun v H' u s' ⟨e1, e2⟩ I' rv => ?_⟩
    subst e1; subst e2
    exact ne_fr I' rv R (.bl _)
  | none =>
    rw [q] at e
    simp only at e
    unfold eqP at e
    split at e
    · rename_i p q' e1 e2
      split at e
      · rename_i hs
        cases e
        rw [Bool.and_eq_true] at hs
        refine ⟨_, fun v H' => v = .bl (!PyData.eqv p q') ∧ H' = H, op_neD hX.hu, ⟨p, q', by show Dp X.K _ _ _; rw [hX.K]; exact va.dp R.sub e1, by show Dp X.K _ _ _; rw [hX.K]; exact vb.dp R.sub e2, hs.1, hs.2, rfl, rfl⟩, fun v H' u s' ⟨e1, e2⟩ I' rv => ?_⟩
        subst e1; subst e2
        exact ne_fr I' rv R (.bl _)
      · cases e
    · cases e
/-- is None -/
def isNonD : Dat → Bool
  | .non => true
  | _ => false
def isE (a b : Dat) : Option ER := match b with
  | .non => some (.fr (.bl (isNonD a)))
  | _ => none
def isntE (a b : Dat) : Option ER := match b with
  | .non => some (.fr (.bl (!isNonD a)))
  | _ => none
theorem View.isNon {S : Sta} {w : W} {H : Hp} {v : V} {d : Dat} (h : View S w H v d) : decide (v = .non) = isNonD d := by
  rcases h with h | ⟨a, rfl, h⟩
  · cases h <;> rfl
  · cases h <;> rfl
theorem p2_is : P2 c (compareOp .Is) isE := P2.of fun X hX pins s σ H w ς x y a b r I R va vb e => by
  unfold isE at e
  split at e
  · cases e
    obtain rfl := vb.non
    refine ⟨_, fun v H' => v = .bl (isNonD a) ∧ H' = H, op_isN, ⟨rfl, by rw [va.isNon], rfl⟩, fun v H' u s' ⟨e1, e2⟩ I' rv => ?_⟩
    subst e1; subst e2
    exact ne_fr I' rv R (.bl _)
  · cases e
theorem p2_isnt : P2 c (compareOp .IsNot) isntE := P2.of fun X hX pins s σ H w ς x y a b r I R va vb e => by
  unfold isntE at e
  split at e
  · cases e
    obtain rfl := vb.non
    refine ⟨_, fun v H' => v = .bl (!isNonD a) ∧ H' = H, op_notN, ⟨rfl, by rw [va.isNon], rfl⟩, fun v H' u s' ⟨e1, e2⟩ I' rv => ?_⟩
    subst e1; subst e2
    exact ne_fr I' rv R (.bl _)
  · cases e

/-- in lists, tuples of data -/
theorem op_inD {X : Cx} (hu : X.A.units + 100 < cLine) (neg : Bool) : OpR X (compareOp (if neg then .NotIn else .In)) (fun x y H Q => ∃ d ps, Dp X.K H x d ∧ (Dp X.K H y (.list ps) ∨ Dp X.K H y (.tuple ps)) ∧ SeqAt.shaped d = true ∧ PyData.canLayAll0 ps = true ∧
    Q (.bl (if neg then !(ps.any fun y => PyData.eqv y d) else ps.any fun y => PyData.eqv y d)) H) := by
  intro pins s σ H x y v u Q I rx ry h
  obtain ⟨d, ps, hd, hp, sd, sp, q⟩ := h
  obtain ⟨bs, rd⟩ := Dp.reads I d x v hd rx
  have h1 := SeqAt.canLay_of_shaped sd
  have h2 := SeqAt.depth_of_shaped sd
  have hum : X.A.units + 1 + min (PyData.depthAll ps) d.depth < cLine := by
    have : min (PyData.depthAll ps) d.depth ≤ d.depth := Nat.min_le_right _ _
    omega
  rcases hp with hp | hp
  · obtain ⟨as, rp⟩ := Dp.reads I (.list ps) y u hp ry
    cases neg with
    | false => exact SeqAt.in_list_reads rp rd sp h1 hum ⟨.bl _, H, I, rfl, q⟩
    | true => exact SeqAt.notIn_list_reads rp rd sp h1 hum ⟨.bl _, H, I, rfl, q⟩
  · obtain ⟨as, rp⟩ := Dp.reads I (.tuple ps) y u hp ry
    cases neg with
    | false => exact SeqAt.in_tuple_reads rp rd sp h1 hum ⟨.bl _, H, I, rfl, q⟩
    | true => exact SeqAt.notIn_tuple_reads rp rd sp h1 hum ⟨.bl _, H, I, rfl, q⟩

theorem Ctx.Ok.hu100 (h : c.Ok X) : X.A.units + 100 < cLine := by have := h.room.un; omega
/-- x in y, for lists and tuples of data, one sign in a text, a text in a text -/
def memP (a : Dat) (ds : List Dat) : Option Bool := match toPy a, toPys ds with
  | some d, some ps => if SeqAt.shaped d && PyData.canLayAll0 ps then some (ps.any fun y => PyData.eqv y d) else none
  | _, _ => none
def memD : Dat → Dat → Option Bool
  | a, .lst ds => memP a ds
  | a, .tup ds => memP a ds
  | _, _ => none
def memS : Dat → Dat → Option Bool
  | .str x, .str y => if x.cps.size = 1 then some (decide (x.cps.getD 0 0 ∈ y.cps.toList)) else none
  | _, _ => none
def inE (neg : Bool) (f : Dat → Dat → Option Bool) (a b : Dat) : Option ER := (f a b).map fun k => .fr (.bl (if neg then !k else k))
theorem p2_memD (neg : Bool) : P2 c (compareOp (if neg then .NotIn else .In)) (inE neg memD) := P2.of fun X hX pins s σ H w ς x y a b r I R va vb e => by
  unfold inE at e
  cases q : memD a b with
  | none => rw [q] at e; cases e
  | some k =>
    rw [q] at e
    cases e
    have go : ∀ (ds : List Dat), (∀ ps, toPys ds = some ps → Dp X.K H y (.list ps) ∨ Dp X.K H y (.tuple ps)) → memP a ds = some k →
        ∃ (rr : R2) (Q : VK), OpR X.nox (compareOp (if neg then .NotIn else .In)) rr ∧ rr x y H Q ∧ ∀ v H' u s', Q v H' → Inv X pins σ H' s' → RelV v u → NE c X pins σ w H (.ok (.fr (.bl (if neg then !k else k))) ς) u s' := fun ds hp e => by
      unfold memP at e
      split at e
      · rename_i d ps e1 e2
        split at e
        · rename_i hs
          rw [Bool.and_eq_true] at hs
          have e := Option.some.inj e
          refine ⟨_, fun v H' => v = .bl (if neg then !k else k) ∧ H' = H, op_inD (X := X.nox) hX.hu100 neg, ⟨d, ps, by show Dp X.K _ _ _; rw [hX.K]; exact va.dp R.sub e1, hp ps e2, hs.1, hs.2, by rw [e], rfl⟩, fun v H' u s' ⟨e1, e2⟩ I' rv => ?_⟩
          subst e1; subst e2
          exact ne_fr I' rv R (.bl _)
        · cases e
      · cases e
    unfold memD at q
    split at q
    · rename_i a' ds
      refine go ds (fun ps hps => .inl ?_) q
      rw [hX.K]
      exact vb.dp R.sub (by unfold toPy; rw [hps]; rfl)
    · rename_i a' ds
      refine go ds (fun ps hps => .inr ?_) q
      rw [hX.K]
      exact vb.dp R.sub (by unfold toPy; rw [hps]; rfl)
    · cases q
theorem str_one {x : Str} (h : x.cps.size = 1) : x = ⟨#[x.cps.getD 0 0]⟩ := by
  obtain ⟨⟨l⟩⟩ := x
  match l, h with
  | [a], _ => rfl
theorem p2_memS (neg : Bool) : P2 c (compareOp (if neg then .NotIn else .In)) (inE neg memS) := P2.of fun X hX pins s σ H w ς x y a b r I R va vb e => by
  unfold inE at e
  cases q : memS a b with
  | none => rw [q] at e; cases e
  | some k =>
    rw [q] at e
    cases e
    unfold memS at q
    split at q
    · rename_i x' y'
      split at q
      · rename_i h1
        have q := Option.some.inj q
        obtain rfl := va.str
        obtain rfl := vb.str
        cases neg with
        | false =>
          refine ⟨_, fun v H' => v = .bl k ∧ H' = H, op_in_sign, ⟨x'.cps.getD 0 0, y', congrArg V.str (str_one h1), rfl, by rw [q], rfl⟩, fun v H' u s' ⟨e1, e2⟩ I' rv => ?_⟩
          subst e1; subst e2
          exact ne_fr I' rv R (.bl _)
        | true =>
          refine ⟨_, fun v H' => v = .bl (!k) ∧ H' = H, op_notIn_sign, ⟨x'.cps.getD 0 0, y', congrArg V.str (str_one h1), rfl, by rw [q], rfl⟩, fun v H' u s' ⟨e1, e2⟩ I' rv => ?_⟩
          subst e1; subst e2
          exact ne_fr I' rv R (.bl _)
      · cases q
    · cases q

/-! ### dicts -/
def keyD : Dat → Option Key
  | .int i => some (.inl i)
  | .str x => some (.inr x)
  | _ => none
theorem keyD_kD (k : Key) : keyD (kD k) = some k := by cases k <;> rfl
theorem keyD_some {d : Dat} {k : Key} (h : keyD d = some k) : d = kD k := by
  cases d <;> cases h <;> rfl
def keysD : List Dat → Option (List Key)
  | [] => some []
  | d :: ds => match keyD d, keysD ds with
    | some k, some ks => some (k :: ks)
    | _, _ => none
def tkeyD : Dat → Option (List Key)
  | .tup ds => keysD ds
  | _ => none
/-- equal keys (ints, texts, tuples of these) -/
def keqD (a b : Dat) : Bool := match a, b with
  | .int i, .int j => decide (i = j)
  | .str x, .str y => decide (x = y)
  | .tup xs, .tup ys => match keysD xs, keysD ys with
    | some k, some l => decide (k = l)
    | _, _ => false
  | _, _ => false
def getD (kvs : List (Dat × Dat)) (k : Dat) : Option Dat := match kvs with
  | [] => none
  | (q, d) :: r => if keqD q k then some d else getD r k
def keyOk (k : Dat) : Bool := (keyD k).isSome || (tkeyD k).isSome
end
end VS

namespace VS
open PySem L2 PyProof.Rows

/-! ### tests -/
def truD : Dat → Option Bool
  | .non => some false
  | .bl b => some b
  | .int i => some (i != 0)
  | .str x => if x.length ≤ sizeLine then some ((x.length : Int) != 0) else none
  | .lst ds => some (!ds.isEmpty)
  | .tup ds => some (!ds.isEmpty)
  | _ => none
def truA (r : ER) : Act Bool := fun ς => ((cur ς r).bind truD).map fun b => .ok b ς
def testA (f : Act ER) : Act Bool := f.bnd truA
section
variable {S : Sta} {n : Shp} {ς ς' : St} {σ : L2.St} {H H' Hs : Hp} {w w0 w' : W} {v : V} {d : Dat} {r : ER}
theorem Reps.isEmpty {vs : List V} {ds : List Dat} (h : Reps S w.Hf w.ads vs ds) : vs.isEmpty = ds.isEmpty := by cases h <;> rfl
theorem View.tru {b : Bool} (sub : Ext w.Hf H) (h : View S w H v d) (e : truD d = some b) : TruV S.K v H b := by
  unfold truD at e
  split at e
  · cases e; obtain rfl := h.non; rfl
  · cases e; obtain rfl := h.bl; rfl
  · cases e; obtain rfl := h.int; rfl
  · split at e
    · rename_i hz
      cases e; obtain rfl := h.str; exact ⟨hz, rfl⟩
    · cases e
  · cases e
    obtain ⟨a, vs, rfl, h1, h2⟩ := h.lst sub
    exact .inl ⟨vs, h1, by rw [h2.isEmpty]⟩
  · cases e
    obtain ⟨a, vs, rfl, h1, h2⟩ := h.tup sub
    exact .inr (.inl ⟨vs, h1, by rw [h2.isEmpty]⟩)
  · cases e
end
section
variable {c : Ctx} {X : Cx} {a b : Expr} {fa fb fc : Act ER} {pos : Pos}
theorem truthy_run (hX : c.Ok X) {pins : List (Addr × Obj)} {s : Shared} {σ : L2.St} {H Hs : Hp} {w w0 : W} {ς : St} {o : Out Bool} {r : ER} {v : V} {u : Value} (ho : truA r ς = some o) (I : Inv X pins σ H s) (R : Rel c.toSta c.n ς σ H w) (F : Fr w0 Hs w H) (rv : RelV v u) (ro : ResOk c.toSta w Hs H σ v r) :
    wpAny (model X.prog X.w) X.A (truthy u) (NT c X pins σ w0 Hs o) X.xe s := by
  unfold truA at ho
  cases e : cur ς r with
  | none => rw [e] at ho; cases ho
  | some d =>
    rw [e] at ho
    cases e2 : truD d with
    | none => simp only [Option.bind_some, e2] at ho; cases ho
    | some b =>
      simp only [Option.bind_some, e2] at ho
      cases ho
      have tv := (R.view ro e).tru R.sub e2
      exact wpAny_mono (tru_ok pins s σ H v u (fun b' H' => b' = b ∧ H' = H) I rv ⟨b, by rw [hX.K]; exact tv, rfl, rfl⟩) (fun b' s' ⟨H', I', z1, z2⟩ => by subst z1; subst z2; exact ⟨rfl, _, w, I', F, R⟩) fun _ _ z => z
/-- a value as a test -/
theorem vt_plain {e : Expr} {f : Act ER} (h : VE c e f) (hb : ∀ op es p, e ≠ .BoolOp op es p) (he : ∀ (env : Env) (whole : Sem Value), isTrue e env whole = (do let v ← whole; standAt e.pos; holding [v] (truthy v))) : VT c e (testA f) := .of fun X hX whole pins s σ H w ς o ho I R T hw => by
  obtain rfl : whole = eval e X.env := by
    rcases hw with q | ⟨op, es, p, q⟩
    · exact q
    · exact absurd q (hb _ _ _)
  exact isTrue_plain (ve_then h hX I R T ho fun r ς1 u s1 v H1 w1 h1 I1 rv F1 R1 T1 ro => truthy_run hX h1 I1 R1 F1 rv ro) (he _ _)
theorem vt_cmp {op : CmpOp} {g : Dat → Dat → Option ER} (hf : P2 c (compareOp op) g) (ha : VE c a fa) (hb : VE c b fb) (hm : behindInMarks op b = false) : VT c (.Compare a [op] [b] pos) (testA (op2 g fa fb)) := .of fun X hX whole pins s σ H w ς o ho I R T hw => by
  refine wpAny_isTrue_Compare1 ?_ hm
  unfold testA Act.bnd at ho
  cases q : op2 g fa fb ς with
  | none => rw [q] at ho; cases ho
  | some o1 =>
    rw [q] at ho
    cases o1 with
    | ok r ς1 =>
      have k := ve_two hf ha hb hX q I R (by trivial)
      exact wpAny_mono k (fun v s1 h1 => wpAny_mono h1 (fun u s2 h2 => wpAny_mono h2 (fun c s3 h3 => by
        obtain ⟨v3, H3, w3, I3, rv3, F3, R3, ro3⟩ := h3
        exact truthy_run hX ho I3 R3 F3 rv3 ro3) fun _ _ z => z) fun _ _ z => z) fun _ _ z => z
    | ex x ς1 =>
      cases ho
      have k := ve_two hf ha hb hX q I R T
      exact wpAny_mono k (fun v s1 h1 => wpAny_mono h1 (fun u s2 h2 => wpAny_mono h2 (fun c s3 h3 => h3.elim) fun _ _ z => z) fun _ _ z => z) fun _ _ z => z
theorem NT.from {pins : List (Addr × Obj)} {σ : L2.St} {w w1 : W} {H H1 : Hp} {o : Out Bool} {b : Bool} {s' : Shared} (F : Fr w H w1 H1) (h : NT c X pins σ w1 H1 o b s') : NT c X pins σ w H o b s' := by
  cases o with
  | ok b' ς' =>
    obtain ⟨e, H', w', I, F', R⟩ := h
    exact ⟨e, H', w', I, F.trans F', R⟩
  | ex x ς' => exact h
theorem vt_and_nil : VT c (.BoolOp .And [] pos) (Act.ret true) := .of fun X hX whole pins s σ H w ς o ho I R T hw => by
  cases ho
  exact isTrue_and_nil ⟨rfl, H, w, I, Fr.refl _ _, R⟩
theorem vt_or_nil : VT c (.BoolOp .Or [] pos) (Act.ret false) := .of fun X hX whole pins s σ H w ς o ho I R T hw => by
  cases ho
  exact isTrue_or_nil ⟨rfl, H, w, I, Fr.refl _ _, R⟩
def andA (f g : Act Bool) : Act Bool := f.bnd fun b => if b = true then g else Act.ret false
def orA (f g : Act Bool) : Act Bool := f.bnd fun b => if b = true then Act.ret true else g
def notA (f : Act Bool) : Act Bool := f.bnd fun b => Act.ret (!b)
theorem vt_and {rest : List Expr} {f g : Act Bool} (ha : VT c a f) (hr : VT c (.BoolOp .And rest pos) g) : VT c (.BoolOp .And (a :: rest) pos) (andA f g) := .of fun X hX whole pins s σ H w ς o ho I R T hw => by
  refine isTrue_and (vt_then ha hX I R T ho fun b ς1 s1 H1 w1 h1 I1 F1 R1 T1 => ?_)
  cases b with
  | true =>
    simp only [if_true] at h1 ⊢
    exact wpAny_mono (hr X hX whole pins s1 σ H1 w1 ς1 o h1 I1 R1 T1 (.inr ⟨_, _, _, rfl⟩)) (fun b s' z => NT.from F1 z) fun _ _ z => z
  | false =>
    simp only [Bool.false_eq_true, if_false] at h1 ⊢
    cases h1
    exact ⟨rfl, H1, w1, I1, F1, R1⟩
theorem vt_or {rest : List Expr} {f g : Act Bool} (ha : VT c a f) (hr : VT c (.BoolOp .Or rest pos) g) : VT c (.BoolOp .Or (a :: rest) pos) (orA f g) := .of fun X hX whole pins s σ H w ς o ho I R T hw => by
  refine isTrue_or (vt_then ha hX I R T ho fun b ς1 s1 H1 w1 h1 I1 F1 R1 T1 => ?_)
  cases b with
  | false =>
    simp only [Bool.false_eq_true, if_false] at h1 ⊢
    exact wpAny_mono (hr X hX whole pins s1 σ H1 w1 ς1 o h1 I1 R1 T1 (.inr ⟨_, _, _, rfl⟩)) (fun b s' z => NT.from F1 z) fun _ _ z => z
  | true =>
    simp only [if_true] at h1 ⊢
    cases h1
    exact ⟨rfl, H1, w1, I1, F1, R1⟩
theorem vt_not {f : Act Bool} (ha : VT c a f) : VT c (.UnaryOp .Not a pos) (notA f) := .of fun X hX whole pins s σ H w ς o ho I R T hw => by
  refine isTrue_not (vt_then ha hX I R T ho fun b ς1 s1 H1 w1 h1 I1 F1 R1 T1 => ?_)
  cases h1
  exact ⟨rfl, H1, w1, I1, F1, R1⟩
/-! ### as values -/
def blA (f : Act Bool) : Act ER := f.bnd fun b => Act.ret (.fr (.bl b))
def andV (f g : Act ER) : Act ER := f.bnd fun r => (truA r).bnd fun b => if b = true then g else Act.ret r
def orV (f g : Act ER) : Act ER := f.bnd fun r => (truA r).bnd fun b => if b = true then Act.ret r else g
def notV (f : Act ER) : Act ER := f.bnd fun r => (truA r).bnd fun b => Act.ret (.fr (.bl (!b)))
theorem truA_ok {ς ς1 : St} {r : ER} {b : Bool} (h : truA r ς = some (.ok b ς1)) : ς1 = ς := by
  unfold truA at h
  cases e : (cur ς r).bind truD with
  | none => rw [e] at h; cases h
  | some b' => rw [e] at h; cases h; rfl
theorem truA_ex {ς ς1 : St} {r : ER} {x : Exn} (h : truA r ς = some (.ex x ς1)) : False := by
  unfold truA at h
  cases e : (cur ς r).bind truD with
  | none => rw [e] at h; cases h
  | some b' => rw [e] at h; cases h
/-- a value's truth, then what follows -/
theorem tru_then {β : Type} {k : Bool → Act β} {o : Out β} {pins : List (Addr × Obj)} {s : Shared} {σ : L2.St} {H Hs : Hp} {w : W} {ς : St} {r : ER} {v : V} {u : Value} (hX : c.Ok X) (I : Inv X pins σ H s) (R : Rel c.toSta c.n ς σ H w) (rv : RelV v u) (ro : ResOk c.toSta w Hs H σ v r)
    (ho : (truA r).bnd k ς = some o) {Q : Bool → Shared → Prop} (hk : ∀ b s1, k b ς = some o → Inv X pins σ H s1 → Q b s1) : wpAny (model X.prog X.w) X.A (truthy u) Q X.xe s := by
  unfold Act.bnd at ho
  cases q : truA r ς with
  | none => rw [q] at ho; cases ho
  | some o1 =>
    rw [q] at ho
    cases o1 with
    | ex x ς1 => exact (truA_ex q).elim
    | ok b ς1 =>
      obtain rfl := truA_ok q
      unfold truA at q
      cases e : cur ς1 r with
      | none => rw [e] at q; cases q
      | some d =>
        rw [e] at q
        cases e2 : truD d with
        | none => simp only [Option.bind_some, e2] at q; cases q
        | some b' =>
          simp only [Option.bind_some, e2] at q
          cases q
          have tv := (R.view ro e).tru R.sub e2
          exact wpAny_mono (tru_ok pins s σ H v u (fun b' H' => b' = b ∧ H' = H) I rv ⟨b, by rw [hX.K]; exact tv, rfl, rfl⟩) (fun b' s' ⟨H', I', z1, z2⟩ => by subst z1; subst z2; exact hk _ _ ho I') fun _ _ z => z
theorem ve_one {op e f} (h : VE c e f) : VE c (.BoolOp op [e] pos) f := .of fun X hX pins s σ H w ς o ho I R T => BoolOp_one (h X hX pins s σ H w ς o ho I R T)
theorem ve_and {rest : List Expr} {e2 : Expr} {f g : Act ER} (ha : VE c a f) (hr : VE c (.BoolOp .And (e2 :: rest) pos) g) : VE c (.BoolOp .And (a :: e2 :: rest) pos) (andV f g) := .of fun X hX pins s σ H w ς o ho I R T => by
  refine BoolOp_and (ve_then ha hX I R T ho fun r ς1 u s1 v H1 w1 h1 I1 rv F1 R1 T1 ro => tru_then hX I1 R1 rv ro h1 fun b s2 h2 I2 => ?_)
  cases b with
  | true =>
    simp only [if_true] at h2 ⊢
    exact wpAny_mono (hr X hX pins s2 σ H1 w1 ς1 o h2 I2 R1 T1) (fun b s' z => NE.from F1 z) fun _ _ z => z
  | false =>
    simp only [Bool.false_eq_true, if_false] at h2 ⊢
    cases h2
    exact ⟨v, H1, w1, I2, rv, F1, R1, ro⟩
theorem ve_or {rest : List Expr} {e2 : Expr} {f g : Act ER} (ha : VE c a f) (hr : VE c (.BoolOp .Or (e2 :: rest) pos) g) : VE c (.BoolOp .Or (a :: e2 :: rest) pos) (orV f g) := .of fun X hX pins s σ H w ς o ho I R T => by
  refine BoolOp_or (ve_then ha hX I R T ho fun r ς1 u s1 v H1 w1 h1 I1 rv F1 R1 T1 ro => tru_then hX I1 R1 rv ro h1 fun b s2 h2 I2 => ?_)
  cases b with
  | false =>
    simp only [Bool.false_eq_true, if_false] at h2 ⊢
    exact wpAny_mono (hr X hX pins s2 σ H1 w1 ς1 o h2 I2 R1 T1) (fun b s' z => NE.from F1 z) fun _ _ z => z
  | true =>
    simp only [if_true] at h2 ⊢
    cases h2
    exact ⟨v, H1, w1, I2, rv, F1, R1, ro⟩
theorem ve_not {f : Act ER} (ha : VE c a f) : VE c (.UnaryOp .Not a pos) (notV f) := .of fun X hX pins s σ H w ς o ho I R T => by
  refine UnaryOp_ (ve_then ha hX I R T ho fun r ς1 u s1 v H1 w1 h1 I1 rv F1 R1 T1 ro => not_of (tru_then hX I1 R1 rv ro h1 fun b s2 h2 I2 => ?_))
  cases h2
  exact ⟨.bl (!b), H1, w1, I2, rfl, F1, R1, .bl _⟩
def iteA {α : Type} (f : Act Bool) (g h : Act α) : Act α := f.bnd fun b => if b = true then g else h
theorem ve_ifExp {t : Expr} {ft : Act Bool} (ht : VT c t ft) (ha : VE c a fa) (hb : VE c b fb) : VE c (.IfExp t a b pos) (iteA ft fa fb) := .of fun X hX pins s σ H w ς o ho I R T => by
  refine wpAny_IfExp (vt_then ht hX I R T ho fun k ς1 s1 H1 w1 h1 I1 F1 R1 T1 => ?_)
  cases k with
  | true =>
    simp only [if_true] at h1 ⊢
    exact wpAny_mono (ha X hX pins s1 σ H1 w1 ς1 o h1 I1 R1 T1) (fun b s' z => NE.from F1 z) fun _ _ z => z
  | false =>
    simp only [Bool.false_eq_true, if_false] at h1 ⊢
    exact wpAny_mono (hb X hX pins s1 σ H1 w1 ς1 o h1 I1 R1 T1) (fun b s' z => NE.from F1 z) fun _ _ z => z
/-- -x -/
def negE : Dat → Option ER
  | .int i => some (.fr (.int (-i)))
  | _ => none
def op1 (g : Dat → Option ER) (f : Act ER) : Act ER := f.bnd fun r ς => ((cur ς r).bind g).map fun q => .ok q ς
theorem ve_neg {f : Act ER} (ha : VE c a f) : VE c (.UnaryOp .USub a pos) (op1 negE f) := .of fun X hX pins s σ H w ς o ho I R T => by
  refine UnaryOp_ (ve_then ha hX I R T ho fun r ς1 u s1 v H1 w1 h1 I1 rv F1 R1 T1 ro => ?_)
  cases e : cur ς1 r with
  | none => rw [e] at h1; cases h1
  | some d =>
    rw [e] at h1
    simp only [Option.bind_some] at h1
    cases d <;> cases h1
    obtain rfl := (R1.view ro e).int
    rename_i i
    refine wpAny_mono ((un_neg (X := X.nox)) pins s1 σ H1 (.int i) u (fun v' H' => v' = .int (-i) ∧ H' = H1) (I1.wish _) rv ⟨i, rfl, rfl, rfl⟩) (fun u' s' ⟨v', H', I', rv', e1, e2⟩ => ?_) fun _ _ z => z.elim
    subst e1; subst e2
    exact ⟨_, _, w1, I'.unwish, rv', F1, R1, .int _⟩
end
end VS

namespace VS
open PySem L2 PyProof.Rows

/-! ### several results -/
def tpAd : V → ER → List Addr
  | .ref a, .tp _ => [a]
  | _, _ => []
inductive ResOks (S : Sta) (w : W) (Hs H : Hp) (σ : L2.St) : List V → List ER → Prop
  | nil : ResOks S w Hs H σ [] []
  | cons {v : V} {r : ER} {vs : List V} {rs : List ER} : ResOk S w Hs H σ v r → ResOks S w Hs H σ vs rs → (∀ a ∈ tpAd v r, ∀ p ∈ vs.zip rs, a ∉ tpAd p.1 p.2) → ResOks S w Hs H σ (v :: vs) (r :: rs)
section
variable {S : Sta} {n : Shp} {ς ς' : St} {σ : L2.St} {H H' Hs : Hp} {w w0 w' : W} {v : V} {d : Dat} {r : ER} {vs : List V} {rs : List ER}
theorem ResOks.carry (h : ResOks S w Hs H σ vs rs) (f : Fr w H w' H') : ResOks S w' Hs H' σ vs rs := by
  induction h with
  | nil => exact .nil
  | cons h _ d ih => exact .cons (h.carry f) ih d
theorem ResOks.back {Hs' : Hp} (h : ResOks S w Hs' H σ vs rs) (f : ∀ a, Hs' a = none → Hs a = none) : ResOks S w Hs H σ vs rs := by
  induction h with
  | nil => exact .nil
  | cons h _ d ih => exact .cons (h.back f) ih d
theorem ResOks.length (h : ResOks S w Hs H σ vs rs) : vs.length = rs.length := by
  induction h with
  | nil => rfl
  | cons _ _ _ ih => simp [ih]
theorem ResOks.fresh (h : ResOks S w Hs H σ vs rs) : ∀ p ∈ vs.zip rs, ∀ a ∈ tpAd p.1 p.2, Hs a = none := by
  induction h with
  | nil => intro p hp; simp at hp
  | @cons v r vs rs h _ _ ih =>
    intro p hp a ha
    rw [List.zip_cons_cons] at hp
    rcases List.mem_cons.mp hp with rfl | hp
    · cases r with
      | fr d => cases v <;> simp [tpAd] at ha
      | sl i => cases v <;> simp [tpAd] at ha
      | tp d =>
        obtain ⟨b, rfl, h1, _⟩ := h
        simp only [tpAd, List.mem_singleton] at ha
        rw [ha]; exact h1
    · exact ih p hp a ha
def curL (ς : St) : List ER → Option (List Dat)
  | [] => some []
  | r :: rs => match cur ς r, curL ς rs with
    | some d, some ds => some (d :: ds)
    | _, _ => none
inductive Views (S : Sta) (w : W) (H : Hp) : List V → List Dat → Prop
  | nil : Views S w H [] []
  | cons {v : V} {d : Dat} {vs : List V} {ds : List Dat} : View S w H v d → Views S w H vs ds → Views S w H (v :: vs) (d :: ds)
theorem Rel.views (R : Rel S n ς σ H w) (h : ResOks S w Hs H σ vs rs) : ∀ {ds : List Dat}, curL ς rs = some ds → Views S w H vs ds := by
  induction h with
  | nil => intro ds e; cases e; exact .nil
  | @cons v r vs rs h _ _ ih =>
    intro ds e
    unfold curL at e
    split at e
    · rename_i d ds' e1 e2
      cases e
      exact .cons (R.view h e1) (ih e2)
    · cases e
def settleL (ς : St) : List ER → Option (List Dat × St)
  | [] => some ([], ς)
  | r :: rs => match settle ς r with
    | none => none
    | some (d, ς1) => match settleL ς1 rs with
      | none => none
      | some (ds, ς2) => some (d :: ds, ς2)
/-- freezing one leaves the other new ones -/
theorem ResOk.frz {a : Addr} {o : HO} (ha : w.Hf a = none) (hl : a ∉ tpAd v r) (h : ResOk S w Hs H σ v r) : ResOk S (frz w a o) Hs H σ v r := by
  cases r with
  | fr d => exact Rep.mono (frz_ext ha) (fun _ _ h => h) h
  | sl i => exact h
  | tp d =>
    obtain ⟨b, rfl, h1, h2, h3, h4⟩ := h
    have nb : b ≠ a := fun q => hl (by simp [tpAd, q])
    exact ⟨b, rfl, h1, by show (if b = a then none else w.own b) = none; rw [if_neg nb]; exact h2, by show upd w.Hf a o b = none; rw [upd_ne nb]; exact h3, h4.mono (frz_ext ha) (fun _ _ h => h) rfl⟩
theorem ResOks.frz {a : Addr} {o : HO} (ha : w.Hf a = none) (h : ResOks S w Hs H σ vs rs) : (∀ p ∈ vs.zip rs, a ∉ tpAd p.1 p.2) → ResOks S (frz w a o) Hs H σ vs rs := by
  induction h with
  | nil => intro _; exact .nil
  | cons h _ d ih =>
    intro hl
    rw [List.zip_cons_cons] at hl
    exact .cons (h.frz ha (hl _ (List.mem_cons_self ..))) (ih fun p hp => hl p (List.mem_cons_of_mem _ hp)) d
/-- one settled: the others stand -/
theorem settle_ok' {d : Dat} (F : Fr w0 Hs w H) (R : Rel S n ς σ H w) (h : ResOk S w Hs H σ v r) (e : settle ς r = some (d, ς')) :
    ∃ w', Fr w0 Hs w' H ∧ Rel S n ς' σ H w' ∧ Rep S w'.Hf w'.ads v d ∧ Ext w.Hf w'.Hf ∧ AExt w.ads w'.ads ∧ ∀ vs rs, ResOks S w Hs H σ vs rs → (∀ a ∈ tpAd v r, ∀ p ∈ vs.zip rs, a ∉ tpAd p.1 p.2) → ResOks S w' Hs H σ vs rs := by
  cases r with
  | fr d' =>
    cases e
    exact ⟨w, F, R, h, Ext.refl _, fun _ _ h => h, fun _ _ q _ => q⟩
  | tp d' =>
    cases e
    obtain ⟨a, rfl, h1, h2, h3, h4⟩ := h
    obtain ⟨o, hO⟩ := h4.there
    exact ⟨VS.frz w a o, F.freeze_tmp h1 h3, R.freeze_tmp h2 h3 hO, frz_rep h3 h4 hO, frz_ext h3, fun _ _ h => h, fun vs rs q hq => q.frz h3 (hq a (by simp [tpAd]))⟩
  | sl i =>
    unfold settle at e
    simp only at e
    split at e
    · rename_i d' q
      cases e
      obtain ⟨v', e1, e2⟩ := R.slots _ _ q
      have h : σ[i]? = some (some v) := h
      rw [h] at e1; cases e1
      exact ⟨w, F, R, e2, Ext.refl _, fun _ _ h => h, fun _ _ q _ => q⟩
    · rename_i d' q
      cases e
      obtain ⟨w', v', e1, F', R', rp⟩ := R.freeze_slot q
      have h : σ[i]? = some (some v) := h
      rw [h] at e1; cases e1
      exact ⟨w', F.trans F', R', rp, F'.hf, F'.ad, fun vs rs q _ => q.carry F'⟩
    · cases e
theorem settleL_ok : ∀ {rs : List ER} {vs : List V} {w : W} {ς ς' : St} {ds : List Dat}, Fr w0 Hs w H → Rel S n ς σ H w → ResOks S w Hs H σ vs rs → settleL ς rs = some (ds, ς') → ∃ w', Fr w0 Hs w' H ∧ Rel S n ς' σ H w' ∧ Reps S w'.Hf w'.ads vs ds ∧ Ext w.Hf w'.Hf ∧ AExt w.ads w'.ads
  | _, _, w, _, _, _, F, R, .nil, e => by
    cases e
    exact ⟨w, F, R, .nil, Ext.refl _, fun _ _ h => h⟩
  | _, _, w, ς, ς', ds, F, R, .cons h t q, e => by
    unfold settleL at e
    split at e
    · cases e
    · rename_i d ς1 e1
      split at e
      · cases e
      · rename_i ds' ς2 e2
        cases e
        obtain ⟨w1, F1, R1, rp, x1, y1, k⟩ := settle_ok' F R h e1
        obtain ⟨w2, F2, R2, rps, x2, y2⟩ := settleL_ok F1 R1 (k _ _ t q) e2
        exact ⟨w2, F2, R2, .cons (rp.mono x2 y2) rps, x1.trans x2, fun k x h => y2 k x (y1 k x h)⟩
end

/-! ### lists of expressions -/
def NA (c : Ctx) (X : Cx) (pins : List (Addr × Obj)) (σ : L2.St) (w : W) (H : Hp) : Out (List ER) → List Value → Shared → Prop
  | .ok rs ς', us, s' => ∃ vs H' w', Inv X pins σ H' s' ∧ Vals vs us ∧ Fr w H w' H' ∧ Rel c.toSta c.n ς' σ H' w' ∧ ResOks c.toSta w' H H' σ vs rs
  | .ex _ _, _, _ => False
def VA0 (c : Ctx) (es : List Expr) (f : Act (List ER))  : Prop :=
  ∀ X, c.Ok X → ∀ (pos : Pos) (pins : List (Addr × Obj)) (s : Shared) (σ : L2.St) (H : Hp) (w : W) (ς : St) (o : Out (List ER)), f ς = some o → Inv X pins σ H s → Rel c.toSta c.n ς σ H w → XT c X w H o →
    wpAny (model X.prog X.w) X.A (spliced (backTo pos (starEach es X.env))) (NA c X pins σ w H o) X.xe s
structure VA (c : Ctx) (es : List Expr) (f : Act (List ER))  : Prop where of ::
  run : VA0 c es f
instance {c : Ctx} {e} {f} : CoeFun (VA c e f) fun _ => VA0 c e f := ⟨VA.run⟩
def consA (f : Act ER) (g : Act (List ER)) : Act (List ER) := f.bnd fun r => g.bnd fun rs => Act.ret (r :: rs)
section
variable {c : Ctx} {X : Cx} {a b e : Expr} {fa fb : Act ER} {pos : Pos} {es : List Expr} {f : Act ER} {g : Act (List ER)}
theorem va_nil : VA c [] (Act.ret []) := .of fun X hX pos pins s σ H w ς o ho I R T => by
  cases ho
  exact Calls.spliced_nil ⟨[], H, w, I, .nil, Fr.refl _ _, R, .nil⟩
/-- a list of expressions, then what follows -/
theorem va_then {β : Type} {k : List ER → Act β} {o : Out β} (h : VA c es g) (hX : c.Ok X) {pins : List (Addr × Obj)} {s : Shared} {σ : L2.St} {H : Hp} {w : W} {ς : St} (I : Inv X pins σ H s) (R : Rel c.toSta c.n ς σ H w) (T : XT c X w H o) (ho : g.bnd k ς = some o) {Q : List Value → Shared → Prop}
    (hk : ∀ (rs : List ER) (ς1 : St) (us : List Value) (s1 : Shared) (vs : List V) (H1 : Hp) (w1 : W), k rs ς1 = some o → Inv X pins σ H1 s1 → Vals vs us → Fr w H w1 H1 → Rel c.toSta c.n ς1 σ H1 w1 → XT c X w1 H1 o → ResOks c.toSta w1 H H1 σ vs rs → Q us s1) :
    wpAny (model X.prog X.w) X.A (spliced (backTo pos (starEach es X.env))) Q X.xe s := by
  unfold Act.bnd at ho
  cases q : g ς with
  | none => rw [q] at ho; cases ho
  | some o1 =>
    rw [q] at ho
    cases o1 with
    | ok r ς1 =>
      exact wpAny_mono (h X hX pos pins s σ H w ς _ q I R trivial) (fun u s1 ⟨v, H1, w1, I1, rv, F1, R1, ro⟩ => hk r ς1 u s1 v H1 w1 ho I1 rv F1 R1 (T.from F1) ro) fun _ _ z => z
    | ex x ς1 =>
      cases ho
      exact wpAny_mono (h X hX pos pins s σ H w ς _ q I R T) (fun _ _ z => z.elim) fun u s1 z => z
theorem va_cons (ha : VE c e f) (hr : VA c es g) (hs : ∀ env, starEach (e :: es) env = (false, eval e env) :: starEach es env) : VA c (e :: es) (consA f g) := .of fun X hX pos pins s σ H w ς o ho I R T => by
  rw [hs]
  show wpAny _ _ (spliced ((false, eval e X.env) :: backTo pos (starEach es X.env))) _ _ s
  refine Calls.spliced_cons (ve_then ha hX I R T ho fun r ς1 u s1 v H1 w1 h1 I1 rv F1 R1 T1 ro => ?_)
  refine va_then hr hX I1 R1 T1 h1 fun rs ς2 us s2 vs H2 w2 h2 I2 rvs F2 R2 T2 ros => ?_
  cases h2
  refine ⟨v :: vs, H2, w2, I2, .cons rv rvs, F1.trans F2, R2, .cons (ro.carry F2) (ros.back F1.dm) fun a ha p hp hm => ?_⟩
  have hn := ros.fresh p hp a hm
  cases r with
  | fr d => cases v <;> simp [tpAd] at ha
  | sl i => cases v <;> simp [tpAd] at ha
  | tp d =>
    obtain ⟨b, rfl, _, _, _, h4⟩ := ro
    simp only [tpAd, List.mem_singleton] at ha
    obtain ⟨o, h5⟩ := h4.there
    rw [ha, h5] at hn
    cases hn
/-- a tuple, a list of written items -/
def tupA (g : Act (List ER)) : Act ER := g.bnd fun rs ς => (settleL ς rs).bind fun p => if p.1.length ≤ sizeLine then some (.ok (.fr (.tup p.1)) p.2) else none
def lstA (g : Act (List ER)) : Act ER := g.bnd fun rs ς => (settleL ς rs).bind fun p => if p.1.length ≤ sizeLine then some (.ok (.tp (.lst p.1)) p.2) else none
theorem ve_tup {x1} (h : VA c es g) : VE c (.Tuple es x1 pos) (tupA g) := .of fun X hX pins s σ H w ς o ho I R T => by
  refine wpAny_Tuple_spliced (va_then h hX I R T ho fun rs ς1 us s1 vs H1 w1 h1 I1 rvs F1 R1 T1 ros => ?_)
  cases e : settleL ς1 rs with
  | none => rw [e] at h1; cases h1
  | some p =>
    obtain ⟨ds, ς2⟩ := p
    rw [e] at h1
    simp only [Option.bind_some] at h1
    split at h1
    · rename_i hz
      cases h1
      obtain ⟨w2, F2, R2, rps, _, _⟩ := settleL_ok F1 R1 ros e
      have hl := rps.length
      have hl2 := rvs.length
      refine ⟨by omega, ?_⟩
      have hf : H1 s1.heap.objs.size = none := I1.hok.fresh (Nat.le_refl _)
      have I2 := I1.laid (a := s1.heap.objs.size) (o := .tup vs) (h' := s1.heap.push { cls := .type "tuple", data := .seq us.toArray }) (t' := s1.toks) (fun b u e => Heap.get?_push_of_some _ e) (Nat.le_refl _) ⟨by omega, us, rvs, ⟨_, Heap.get?_push_size _ rfl, rfl, _, rfl⟩⟩
      exact NE.from F2 (ne_tup (w := w2) I2 hf R2 rps)
    · cases h1
theorem ve_lst (h : VA c es g) : VE c (.List es pos) (lstA g) := .of fun X hX pins s σ H w ς o ho I R T => by
  refine wpAny_List_spliced (va_then h hX I R T ho fun rs ς1 us s1 vs H1 w1 h1 I1 rvs F1 R1 T1 ros => ?_)
  cases e : settleL ς1 rs with
  | none => rw [e] at h1; cases h1
  | some p =>
    obtain ⟨ds, ς2⟩ := p
    rw [e] at h1
    simp only [Option.bind_some] at h1
    split at h1
    · rename_i hz
      cases h1
      obtain ⟨w2, F2, R2, rps, _, _⟩ := settleL_ok F1 R1 ros e
      have hl := rps.length
      have hl2 := rvs.length
      refine ⟨by omega, ?_⟩
      have hf : H1 s1.heap.objs.size = none := I1.hok.fresh (Nat.le_refl _)
      have I2 := I1.laid (a := s1.heap.objs.size) (o := .lst vs) (h' := s1.heap.push { cls := .type "list", data := .seq us.toArray }) (t' := s1.toks) (fun b u e => Heap.get?_push_of_some _ e) (Nat.le_refl _) ⟨by omega, us, 0, rvs, Heap.get?_push_size _ rfl⟩
      exact NE.from F2 (ne_lst (w := w2) I2 hf R2 rps)
    · cases h1
end
end VS

namespace VS
open PySem L2 PyProof.Rows

/-! ### subscripts -/
def PIx (c : Ctx) (g : Dat → Dat → Option ER) : Prop :=
  ∀ X, c.Ok X → ∀ (value slice : Expr) (pins : List (Addr × Obj)) (s : Shared) (σ : L2.St) (H : Hp) (w : W) (ς : St) (x y : V) (u1 u2 : Value) (a b : Dat) (r : ER),
    Inv X pins σ H s → Rel c.toSta c.n ς σ H w → RelV x u1 → RelV y u2 → View c.toSta w H x a → View c.toSta w H y b → g a b = some r → subscripted slice false u1 u2 = operate [u1, u2] (getItem u1 u2) →
    wpAny (model X.prog X.w) X.A (subscriptTail value slice u1 u2) (NE c X pins σ w H (.ok r ς)) (fun _ _ => False) s
section
variable {c : Ctx} {X : Cx} {a b e : Expr} {fa fb : Act ER} {pos : Pos} {es : List Expr} {f : Act ER} {g : Act (List ER)}
theorem PIx.alt {g g' : Dat → Dat → Option ER} (h : PIx c g) (h' : PIx c g') : PIx c (fun a b => match g a b with | some r => some r | none => g' a b) :=
  fun X hX value slice pins s σ H w ς x y u1 u2 a b r I R rx ry va vb e hs => by
    cases q : g a b with
    | some r' => simp only [q] at e; cases e; exact h X hX value slice pins s σ H w ς x y u1 u2 a b r I R rx ry va vb q hs
    | none => simp only [q] at e; exact h' X hX value slice pins s σ H w ς x y u1 u2 a b r I R rx ry va vb e hs
theorem PIx.of {g : Dat → Dat → Option ER}
    (h : ∀ X, c.Ok X → ∀ (pins : List (Addr × Obj)) (s : Shared) (σ : L2.St) (H : Hp) (w : W) (ς : St) (x y : V) (a b : Dat) (r : ER), Inv X pins σ H s → Rel c.toSta c.n ς σ H w → View c.toSta w H x a → View c.toSta w H y b → g a b = some r →
      ∃ (rr : R2) (Q : VK), IxR X.nox rr ∧ rr x y H Q ∧ ∀ v H' u s', Q v H' → Inv X pins σ H' s' → RelV v u → NE c X pins σ w H (.ok r ς) u s') : PIx c g :=
  fun X hX value slice pins s σ H w ς x y u1 u2 a b r I R rx ry va vb e hs => by
    obtain ⟨rr, Q, ho, hq, k⟩ := h X hX pins s σ H w ς x y a b r I R va vb e
    exact wpAny_mono (ho value slice pins s σ H x y u1 u2 Q (I.wish _) rx ry hq hs) (fun u s' ⟨v, H', I', rv, q⟩ => k v H' u s' q I'.unwish rv) fun _ _ z => z
def ixL : Dat → Dat → Option ER
  | .lst ds, .int i => (atI ds i).map .fr
  | _, _ => none
def ixT : Dat → Dat → Option ER
  | .tup ds, .int i => (atI ds i).map .fr
  | _, _ => none
def ixS : Dat → Dat → Option ER
  | .str z, .int i => if z.length ≤ sizeLine then (atI z.cps.toList i).map fun k => .fr (.str ⟨#[k]⟩) else none
  | _, _ => none
theorem Reps.atI {S : Sta} {w : W} {vs : List V} {ds : List Dat} {i : Int} {d : Dat} (h : Reps S w.Hf w.ads vs ds) (e : L2.atI ds i = some d) : ∃ v, L2.atI vs i = some v ∧ Rep S w.Hf w.ads v d := by
  unfold L2.atI at e ⊢
  rw [h.length]
  cases q : ixN ds.length i with
  | none => rw [q] at e; cases e
  | some j =>
    rw [q] at e
    obtain ⟨v, h1, h2⟩ := h.get (i := j) (d := d) e
    exact ⟨v, h1, h2⟩
theorem pix_lst : PIx c ixL := PIx.of fun X hX pins s σ H w ς x y a b r I R va vb e => by
  unfold ixL at e
  split at e
  · rename_i ds i
    cases q : L2.atI ds i with
    | none => rw [q] at e; cases e
    | some d =>
      rw [q] at e
      cases e
      obtain ⟨p, vs, rfl, hp, rp⟩ := va.lst R.sub
      obtain rfl := vb.int
      obtain ⟨v, h1, h2⟩ := rp.atI q
      refine ⟨_, fun v' H' => v' = v ∧ H' = H, ix_list, ⟨p, vs, i, v, rfl, rfl, by show SqL X.K H p vs; rw [hX.K]; exact hp, h1, rfl, rfl⟩, fun v' H' u s' ⟨e1, e2⟩ I' rv => ?_⟩
      subst e1; subst e2
      exact ne_fr I' rv R h2
  · cases e
theorem pix_tup : PIx c ixT := PIx.of fun X hX pins s σ H w ς x y a b r I R va vb e => by
  unfold ixT at e
  split at e
  · rename_i ds i
    cases q : L2.atI ds i with
    | none => rw [q] at e; cases e
    | some d =>
      rw [q] at e
      cases e
      obtain ⟨p, vs, rfl, hp, rp⟩ := va.tup R.sub
      obtain rfl := vb.int
      obtain ⟨v, h1, h2⟩ := rp.atI q
      refine ⟨_, fun v' H' => v' = v ∧ H' = H, ix_tup, ⟨p, vs, i, v, rfl, rfl, by show SqT X.K H p vs; rw [hX.K]; exact hp, h1, rfl, rfl⟩, fun v' H' u s' ⟨e1, e2⟩ I' rv => ?_⟩
      subst e1; subst e2
      exact ne_fr I' rv R h2
  · cases e
theorem pix_str : PIx c ixS := PIx.of fun X hX pins s σ H w ς x y a b r I R va vb e => by
  unfold ixS at e
  split at e
  · rename_i z i
    split at e
    · rename_i hz
      cases q : L2.atI z.cps.toList i with
      | none => rw [q] at e; cases e
      | some d =>
        rw [q] at e
        cases e
        obtain rfl := va.str
        obtain rfl := vb.int
        refine ⟨_, fun v' H' => v' = .str ⟨#[d]⟩ ∧ H' = H, ix_str, ⟨z, i, d, rfl, rfl, hz, q, rfl, rfl⟩, fun v' H' u s' ⟨e1, e2⟩ I' rv => ?_⟩
        subst e1; subst e2
        exact ne_fr I' rv R (.str _)
    · cases e
  · cases e
theorem ve_ix {g : Dat → Dat → Option ER} (hf : PIx c g) (ha : VE c a fa) (hb : VE c b fb) (hs : ∀ o i, subscripted b false o i = operate [o, i] (getItem o i)) : VE c (.Subscript a b pos) (op2 g fa fb) := .of fun X hX pins s σ H w ς o ho I R T => by
  refine Subscript_ (ve_then ha hX I R T ho fun r1 ς1 u1 s1 v1 H1 w1 h1 I1 rv1 F1 R1 T1 ro1 => ?_)
  refine ve_then hb hX I1 R1 T1 h1 fun r2 ς2 u2 s2 v2 H2 w2 h2 I2 rv2 F2 R2 T2 ro2 => ?_
  unfold opD at h2
  cases e1 : cur ς2 r1 with
  | none => rw [e1] at h2; cases h2
  | some d1 =>
    cases e2 : cur ς2 r2 with
    | none => rw [e1, e2] at h2; cases h2
    | some d2 =>
      rw [e1, e2] at h2
      simp only at h2
      cases e3 : g d1 d2 with
      | none => rw [e3] at h2; cases h2
      | some r =>
        rw [e3] at h2
        cases h2
        exact wpAny_mono (hf X hX a b pins s2 σ H2 w2 ς2 v1 v2 u1 u2 d1 d2 r I2 R2 rv1 rv2 (R2.view (ro1.carry F2) e1) (R2.view ro2 e2) e3 (hs _ _)) (fun u s' z => NE.from (F1.trans F2) z) fun _ _ z => z.elim

/-! ### built-in functions -/
def PN (c : Ctx) (fv : Value) (g : List Dat → Option ER) : Prop :=
  ∀ X, c.Ok X → ∀ (pins : List (Addr × Obj)) (s : Shared) (σ : L2.St) (H : Hp) (w : W) (ς : St) (vs : List V) (us : List Value) (ds : List Dat) (r : ER),
    Inv X pins σ H s → Rel c.toSta c.n ς σ H w → Vals vs us → Views c.toSta w H vs ds → g ds = some r → wpAny (model X.prog X.w) X.A (call fv us) (NE c X pins σ w H (.ok r ς)) (fun _ _ => False) s
theorem PN.of {fv : Value} {g : List Dat → Option ER}
    (h : ∀ X, c.Ok X → ∀ (pins : List (Addr × Obj)) (s : Shared) (σ : L2.St) (H : Hp) (w : W) (ς : St) (vs : List V) (ds : List Dat) (r : ER), Inv X pins σ H s → Rel c.toSta c.n ς σ H w → Views c.toSta w H vs ds → g ds = some r →
      ∃ (rr : List V → Hp → VK → Prop) (Q : VK), CallR X.nox fv rr ∧ rr vs H Q ∧ ∀ v H' u s', Q v H' → Inv X pins σ H' s' → RelV v u → NE c X pins σ w H (.ok r ς) u s') : PN c fv g :=
  fun X hX pins s σ H w ς vs us ds r I R rv va e => by
    obtain ⟨rr, Q, ho, hq, k⟩ := h X hX pins s σ H w ς vs ds r I R va e
    exact wpAny_mono (ho pins s σ H vs us Q (I.wish _) rv hq) (fun u s' ⟨v, H', I', rv, q⟩ => k v H' u s' q I'.unwish rv) fun _ _ z => z
theorem PN.alt {fv : Value} {g g' : List Dat → Option ER} (h : PN c fv g) (h' : PN c fv g') : PN c fv (fun a => match g a with | some r => some r | none => g' a) :=
  fun X hX pins s σ H w ς vs us ds r I R rv va e => by
    cases q : g ds with
    | some r' => simp only [q] at e; cases e; exact h X hX pins s σ H w ς vs us ds r I R rv va q
    | none => simp only [q] at e; exact h' X hX pins s σ H w ς vs us ds r I R rv va e
def callA (g : List Dat → Option ER) (fs : Act (List ER)) : Act ER := fs.bnd fun rs ς => ((curL ς rs).bind g).map fun r => .ok r ς
theorem call_fin {fv : Value} {h : List Dat → Option ER} (hf : PN c fv h) (hX : c.Ok X) {rs : List ER} {ς1 : St} {us : List Value} {s1 : Shared} {vs : List V} {H H1 : Hp} {w w1 : W} {pins : List (Addr × Obj)} {σ : L2.St} {o : Out ER}
    (h1 : ((curL ς1 rs).bind h).map (fun r => Out.ok r ς1) = some o) (I1 : Inv X pins σ H1 s1) (rvs : Vals vs us) (F1 : Fr w H w1 H1) (R1 : Rel c.toSta c.n ς1 σ H1 w1) (ros : ResOks c.toSta w1 H H1 σ vs rs) :
    wpAny (model X.prog X.w) X.A (call fv us) (NE c X pins σ w H o) X.xe s1 := by
  cases e : curL ς1 rs with
  | none => rw [e] at h1; cases h1
  | some ds =>
    rw [e] at h1
    cases e2 : h ds with
    | none => simp only [Option.bind_some, e2] at h1; cases h1
    | some r =>
      simp only [Option.bind_some, e2] at h1
      cases h1
      exact wpAny_mono (hf X hX pins s1 σ H1 w1 ς1 vs us ds r I1 R1 rvs (R1.views ros e) e2) (fun u s' z => NE.from F1 z) fun _ _ z => z.elim
def GlS (c : Ctx) (x : Str) : Prop := c.sc.names.lookup x = some .globalImplicit
theorem GlS.gl {x : Str} (h : GlS c x) (hX : c.Ok X) : Gl X x := by
  show X.env.scope.names.lookup x = _
  rw [hX.sc]; exact h
theorem ve_callB {x : Str} {id : String} {h : List Dat → Option ER} {p : Pos} (hf : PN c (.builtin id) h) (hg : GlS c x) (hm : c.mg x = none) (hv : bootBuiltins x = some (.builtin id)) (ha : VA c (e :: es) g) (hn : x ≠ "__name__") (hdb : (x == ("__debug__" : Str)) = false)
    (he : ∀ env, starEach (e :: es) env = (false, eval e env) :: starEach es env) (hpl : ∀ env, (backTo pos (starEach es env)).any (·.1) = false) : VE c (.Call (.Name x p) (e :: es) [] pos) (callA h g) := .of fun X hX pins s σ H w ς o ho I R T => by
  refine wpAny_Call_Name_kw (ld_blt I (hg.gl hX) (by rw [hX.mg]; exact hm) hv ?_ hn hdb)
  exact PyProof.Rows.callWith_builtin1 (va_then ha hX I R T ho fun rs ς1 us s1 vs H1 w1 h1 I1 rvs F1 R1 T1 ros => call_fin hf hX h1 I1 rvs F1 R1 ros) (he _) (hpl _)
theorem ve_callTy {x : Str} {Ty : String} {h : List Dat → Option ER} {p : Pos} (hf : PN c (.type Ty) h) (hg : GlS c x) (hm : c.mg x = none) (hv : bootBuiltins x = some (.type Ty)) (ha : VA c (e :: es) g) (hn : x ≠ "__name__") (hdb : (x == ("__debug__" : Str)) = false)
    (he : ∀ env, starEach (e :: es) env = (false, eval e env) :: starEach es env) (hpl : ∀ env, (backTo pos (starEach es env)).any (·.1) = false) : VE c (.Call (.Name x p) (e :: es) [] pos) (callA h g) := .of fun X hX pins s σ H w ς o ho I R T => by
  refine wpAny_Call_Name_kw (ld_blt I (hg.gl hX) (by rw [hX.mg]; exact hm) hv ?_ hn hdb)
  exact PyProof.Rows.callWith_type1 (va_then ha hX I R T ho fun rs ς1 us s1 vs H1 w1 h1 I1 rvs F1 R1 T1 ros => call_fin hf hX h1 I1 rvs F1 R1 ros) (he _) (hpl _)
/-- a name of the module that holds a constant -/
theorem ve_glob {x : Str} {d : Dat} {u : Value} {v : V} (hg : GlS c x) (hm : c.mg x = some u) (rv : RelV v u) (rp : ∀ Hf ads, Rep c.toSta Hf ads v d) (hd : (x == ("__debug__" : Str)) = false) : VE c (.Name x pos) (cst d) := .of fun X hX pins s σ H w ς o ho I R T => by
  cases ho
  exact ld_glob I (hg.gl hX) (by rw [hX.mg]; exact hm) (ne_fr I rv R (rp _ _)) hd
/-- a built-in class as a value -/
theorem ve_ty {x : Str} {Ty : String} (hg : GlS c x) (hm : c.mg x = none) (hv : bootBuiltins x = some (.type Ty)) (hn : x ≠ "__name__") (hd : (x == ("__debug__" : Str)) = false) : VE c (.Name x pos) (cst (.ty Ty)) := .of fun X hX pins s σ H w ς o ho I R T => by
  cases ho
  exact ld_blt I (hg.gl hX) (by rw [hX.mg]; exact hm) hv (ne_fr (v := .ty Ty) I rfl R (.ty _)) hn hd

def lenD : List Dat → Option ER
  | [.str x] => if x.length ≤ sizeLine then some (.fr (.int x.length)) else none
  | [.lst ds] => some (.fr (.int ds.length))
  | [.tup ds] => some (.fr (.int ds.length))
  | _ => none
theorem Views.one {S : Sta} {w : W} {H : Hp} {vs : List V} {d : Dat} (h : Views S w H vs [d]) : ∃ v, vs = [v] ∧ View S w H v d := by
  cases h with
  | cons h t => cases t; exact ⟨_, rfl, h⟩
theorem Views.two {S : Sta} {w : W} {H : Hp} {vs : List V} {d e : Dat} (h : Views S w H vs [d, e]) : ∃ v u, vs = [v, u] ∧ View S w H v d ∧ View S w H u e := by
  cases h with
  | cons h t =>
    obtain ⟨u, rfl, h2⟩ := t.one
    exact ⟨_, u, rfl, h, h2⟩
theorem pn_len : PN c (.builtin "len") lenD := PN.of fun X hX pins s σ H w ς vs ds r I R va e => by
  unfold lenD at e
  split at e
  · split at e
    · rename_i x hz
      cases e
      obtain ⟨v, rfl, hv⟩ := va.one
      obtain rfl := hv.str
      refine ⟨_, fun v' H' => v' = .int x.length ∧ H' = H, call_len, ⟨_, x.length, rfl, ⟨hz, rfl⟩, rfl, rfl⟩, fun v' H' u s' ⟨e1, e2⟩ I' rv => ?_⟩
      subst e1; subst e2
      exact ne_fr I' rv R (.int _)
    · cases e
  · rename_i ds
    cases e
    obtain ⟨v, rfl, hv⟩ := va.one
    obtain ⟨p, vs, rfl, hp, rp⟩ := hv.lst R.sub
    refine ⟨_, fun v' H' => v' = .int ds.length ∧ H' = H, call_len, ⟨_, ds.length, rfl, .inl ⟨vs, by show SqL X.K H p vs; rw [hX.K]; exact hp, rp.length.symm⟩, rfl, rfl⟩, fun v' H' u s' ⟨e1, e2⟩ I' rv => ?_⟩
    subst e1; subst e2
    exact ne_fr I' rv R (.int _)
  · rename_i ds
    cases e
    obtain ⟨v, rfl, hv⟩ := va.one
    obtain ⟨p, vs, rfl, hp, rp⟩ := hv.tup R.sub
    refine ⟨_, fun v' H' => v' = .int ds.length ∧ H' = H, call_len, ⟨_, ds.length, rfl, .inr ⟨vs, by show SqT X.K H p vs; rw [hX.K]; exact hp, rp.length.symm⟩, rfl, rfl⟩, fun v' H' u s' ⟨e1, e2⟩ I' rv => ?_⟩
    subst e1; subst e2
    exact ne_fr I' rv R (.int _)
  · cases e
def absD : List Dat → Option ER
  | [.int i] => some (.fr (.int (if i < 0 then -i else i)))
  | _ => none
theorem pn_abs : PN c (.builtin "abs") absD := PN.of fun X hX pins s σ H w ς vs ds r I R va e => by
  unfold absD at e
  split at e
  · rename_i i
    cases e
    obtain ⟨v, rfl, hv⟩ := va.one
    obtain rfl := hv.int
    refine ⟨_, fun v' H' => v' = .int (if i < 0 then -i else i) ∧ H' = H, call_abs, ⟨i, rfl, rfl, rfl⟩, fun v' H' u s' ⟨e1, e2⟩ I' rv => ?_⟩
    subst e1; subst e2
    exact ne_fr I' rv R (.int _)
  · cases e
def maxD : List Dat → Option ER
  | [.int i, .int j] => some (.fr (.int (if j > i then j else i)))
  | _ => none
theorem pn_max : PN c (.builtin "max") maxD := PN.of fun X hX pins s σ H w ς vs ds r I R va e => by
  unfold maxD at e
  split at e
  · rename_i i j
    cases e
    obtain ⟨v, u, rfl, hv, hu⟩ := va.two
    obtain rfl := hv.int
    obtain rfl := hu.int
    refine ⟨_, fun v' H' => v' = .int (if j > i then j else i) ∧ H' = H, call_max2 hX.calm, ⟨i, j, rfl, rfl, rfl⟩, fun v' H' u s' ⟨e1, e2⟩ I' rv => ?_⟩
    subst e1; subst e2
    exact ne_fr I' rv R (.int _)
  · cases e
def minD : List Dat → Option ER
  | [.int i, .int j] => some (.fr (.int (if j < i then j else i)))
  | _ => none
theorem pn_min : PN c (.builtin "min") minD := PN.of fun X hX pins s σ H w ς vs ds r I R va e => by
  unfold minD at e
  split at e
  · rename_i i j
    cases e
    obtain ⟨v, u, rfl, hv, hu⟩ := va.two
    obtain rfl := hv.int
    obtain rfl := hu.int
    refine ⟨_, fun v' H' => v' = .int (if j < i then j else i) ∧ H' = H, call_min2 hX.calm, ⟨i, j, rfl, rfl, rfl⟩, fun v' H' u s' ⟨e1, e2⟩ I' rv => ?_⟩
    subst e1; subst e2
    exact ne_fr I' rv R (.int _)
  · cases e
end
end VS

namespace VS
open PySem L2 PyProof.Rows

/-! ### statements -/
inductive Flw where
  | nx | bk | ct | rt (r : ER)
/-- what is handed back -/
def RetOk (S : Sta) (w : W) (H : Hp) (v : V) : ER → Prop
  | .fr d => Rep S w.Hf w.ads v d
  | .tp d => ∃ a, v = .ref a ∧ w.H0 a = none ∧ w.own a = none ∧ w.Hf a = none ∧ OwnC S w.Hf w.ads H a d
  | .sl _ => False
def NS (c : Ctx) (X : Cx) (pins : List (Addr × Obj)) (w : W) (H : Hp) : Out Flw → Flow → Shared → Prop
  | .ok .nx ς', .next, s' => ∃ σ' H' w', Inv X pins σ' H' s' ∧ Fr w H w' H' ∧ Rel c.toSta c.n ς' σ' H' w'
  | .ok .bk ς', .brk, s' => ∃ σ' H' w', Inv X pins σ' H' s' ∧ Fr w H w' H' ∧ Rel c.toSta c.n ς' σ' H' w'
  | .ok .ct ς', .cont, s' => ∃ σ' H' w', Inv X pins σ' H' s' ∧ Fr w H w' H' ∧ Rel c.toSta c.n ς' σ' H' w'
  | .ok (.rt r) ς', .ret u, s' => ∃ v σ' H' w', Inv X pins σ' H' s' ∧ RelV v u ∧ Fr w H w' H' ∧ Rel c.toSta c.n ς' σ' H' w' ∧ RetOk c.toSta w' H' v r
  | _, _, _ => False
def VS10 (c : Ctx) (st : Stmt) (g : Act Flw)  : Prop :=
  ∀ X, c.Ok X → ∀ (pins : List (Addr × Obj)) (s : Shared) (σ : L2.St) (H : Hp) (w : W) (ς : St) (o : Out Flw), g ς = some o → Inv X pins σ H s → Rel c.toSta c.n ς σ H w → XT c X w H o →
    wpAny (model X.prog X.w) X.A (exec st X.env) (NS c X pins w H o) X.xe s
structure VS1 (c : Ctx) (st : Stmt) (g : Act Flw)  : Prop where of ::
  run : VS10 c st g
instance {c : Ctx} {e} {f} : CoeFun (VS1 c e f) fun _ => VS10 c e f := ⟨VS1.run⟩
def VSs0 (c : Ctx) (sts : List Stmt) (g : Act Flw)  : Prop :=
  ∀ X, c.Ok X → ∀ (pins : List (Addr × Obj)) (s : Shared) (σ : L2.St) (H : Hp) (w : W) (ς : St) (o : Out Flw), g ς = some o → Inv X pins σ H s → Rel c.toSta c.n ς σ H w → XT c X w H o →
    wpAny (model X.prog X.w) X.A (execs sts X.env) (NS c X pins w H o) X.xe s
structure VSs (c : Ctx) (sts : List Stmt) (g : Act Flw)  : Prop where of ::
  run : VSs0 c sts g
instance {c : Ctx} {e} {f} : CoeFun (VSs c e f) fun _ => VSs0 c e f := ⟨VSs.run⟩
def seqA (f g : Act Flw) : Act Flw := f.bnd fun k => match k with
  | .nx => g
  | k => Act.ret k
section
variable {c : Ctx} {X : Cx} {a b e : Expr} {fa fb : Act ER} {pos : Pos} {es : List Expr} {f : Act ER} {st : Stmt} {rest : List Stmt} {g h : Act Flw}
theorem NS.from {pins : List (Addr × Obj)} {w w1 : W} {H H1 : Hp} {o : Out Flw} {u : Flow} {s' : Shared} (F : Fr w H w1 H1) (h : NS c X pins w1 H1 o u s') : NS c X pins w H o u s' := by
  cases o with
  | ex x ς' => cases u <;> exact h
  | ok k ς' =>
    cases k with
    | nx => cases u <;> first | exact h | (obtain ⟨σ', H', w', I, F', R⟩ := h; exact ⟨σ', H', w', I, F.trans F', R⟩)
    | bk => cases u <;> first | exact h | (obtain ⟨σ', H', w', I, F', R⟩ := h; exact ⟨σ', H', w', I, F.trans F', R⟩)
    | ct => cases u <;> first | exact h | (obtain ⟨σ', H', w', I, F', R⟩ := h; exact ⟨σ', H', w', I, F.trans F', R⟩)
    | rt r => cases u <;> first | exact h | (obtain ⟨v, σ', H', w', I, rv, F', R, ro⟩ := h; exact ⟨v, σ', H', w', I, rv, F.trans F', R, ro⟩)
theorem vss_nil : VSs c [] (Act.ret .nx) := .of fun X hX pins s σ H w ς o ho I R T => by
  cases ho
  exact wpAny_execs_nil ⟨σ, H, w, I, Fr.refl _ _, R⟩
theorem vss_cons (h1 : VS1 c st g) (h2 : VSs c rest h) : VSs c (st :: rest) (seqA g h) := .of fun X hX pins s σ H w ς o ho I R T => by
  unfold seqA Act.bnd at ho
  cases q : g ς with
  | none => rw [q] at ho; cases ho
  | some o1 =>
    rw [q] at ho
    cases o1 with
    | ex x ς1 =>
      cases ho
      exact wpAny_execs_cons (wpAny_mono (h1 X hX pins s σ H w ς _ q I R T) (fun fl s1 z => by cases fl <;> exact z.elim) fun _ _ z => z)
    | ok k ς1 =>
      refine wpAny_execs_cons (wpAny_mono (h1 X hX pins s σ H w ς _ q I R trivial) (fun fl s1 z => ?_) fun _ _ z => z)
      cases k with
      | nx =>
        cases fl <;> first | exact z.elim | skip
        obtain ⟨σ1, H1, w1, I1, F1, R1⟩ := z
        exact wpAny_mono (h2 X hX pins s1 σ1 H1 w1 ς1 o ho I1 R1 (T.from F1)) (fun fl s2 z => NS.from F1 z) fun _ _ z => z
      | bk => cases ho; cases fl <;> first | exact z.elim | exact z
      | ct => cases ho; cases fl <;> first | exact z.elim | exact z
      | rt r => cases ho; cases fl <;> first | exact z.elim | exact z
theorem vss_one (h1 : VS1 c st g) : VSs c [st] g := .of fun X hX pins s σ H w ς o ho I R T => by
  refine wpAny_execs_cons (wpAny_mono (h1 X hX pins s σ H w ς _ ho I R T) (fun fl s1 z => ?_) fun _ _ z => z)
  cases fl with
  | next =>
    cases o with
    | ok k ς' => cases k <;> first | exact z.elim | exact wpAny_execs_nil z
    | ex x ς' => exact z.elim
  | _ => exact z
/-- a name is stored -/
def setR (ς : St) (i : Nat) : ER → Option St
  | .fr d => some (ς.set i (some (.fr d)))
  | .tp d => some (ς.set i (some (.ow d)))
  | .sl j => (settle ς (.sl j)).map fun p => p.2.set i (some (.fr p.1))
theorem Rel.set_fr {S : Sta} {n : Shp} {ς : St} {σ : L2.St} {H : Hp} {w : W} {i : Nat} {v : V} {d : Dat} (R : Rel S n ς σ H w) (hi : i < n.n) (hl : σ.length = n.n) (hr : n.ro i = false) (rp : Rep S w.Hf w.ads v d) : Rel S n (ς.set i (some (.fr d))) (σ.set i (some v)) H w := by
  refine ⟨R.sub, R.nof, by rw [St.set_len]; exact R.len, fun j s e => ?_, R.obs, R.adk, R.dom, R.own0, fun j u h1 h2 => ?_, R.arl⟩
  · by_cases hj : i = j
    · subst hj
      have hi' : i < ς.sl.length := by rw [R.len]; exact hi
      have e' : (ς.sl.set i (some (.fr d)))[i]? = some (some s) := e
      rw [List.getElem?_set_self hi'] at e'
      cases e'
      exact ⟨v, List.getElem?_set_self (by rw [hl]; exact hi), rp⟩
    · rw [St.set_ne hj] at e
      obtain ⟨u, h1, h2⟩ := R.slots j s e
      exact ⟨u, by rw [List.getElem?_set_ne hj]; exact h1, h2⟩
  · have hj : i ≠ j := fun q => by rw [q, h1] at hr; cases hr
    rw [List.getElem?_set_ne hj]
    exact R.arg j u h1 h2
def take (w : W) (a : Addr) (l : Loc) : W := { w with own := fun b => if b = a then some l else w.own b }
theorem Rel.set_ow {S : Sta} {n : Shp} {ς : St} {σ : L2.St} {H : Hp} {w : W} {i : Nat} {a : Addr} {d : Dat} (R : Rel S n ς σ H w) (hi : i < n.n) (hl : σ.length = n.n) (hr : n.ro i = false) (h1 : w.own a = none) (h2 : w.Hf a = none) (h3 : OwnC S w.Hf w.ads H a d) (h0 : w.H0 a = none) :
    Rel S n (ς.set i (some (.ow d))) (σ.set i (some (.ref a))) H (take w a (.slot i)) := by
  obtain ⟨o, hO⟩ := h3.there
  have other : ∀ {l : Loc} {v : V} {s : Slot}, SlotOk S w H l v s → SlotOk S (take w a (.slot i)) H l v s := fun {l v s} h => by
    cases s with
    | fr d => exact h
    | ow d =>
      obtain ⟨b, e, q1, q2, q3, q4⟩ := h
      have nb : b ≠ a := fun q => by rw [q, h1] at q1; cases q1
      exact ⟨b, e, by show (if b = a then some (Loc.slot i) else w.own b) = _; rw [if_neg nb]; exact q1, q2, q3, by cases l <;> exact q4⟩
  refine ⟨R.sub, fun b u e => ?_, by rw [St.set_len]; exact R.len, fun j s e => ?_, fun k ov e => ?_, R.adk, R.dom, fun b e => ?_, fun j u q1 q2 => ?_, R.arl⟩
  · have nb : b ≠ a := fun q => by have e' : w.Hf b = some u := e; rw [q, h2] at e'; cases e'
    show (if b = a then some (Loc.slot i) else w.own b) = none
    rw [if_neg nb]
    exact R.nof b u e
  · by_cases hj : i = j
    · subst hj
      have hi' : i < ς.sl.length := by rw [R.len]; exact hi
      have e' : (ς.sl.set i (some (.ow d)))[i]? = some (some s) := e
      rw [List.getElem?_set_self hi'] at e'
      cases e'
      exact ⟨.ref a, List.getElem?_set_self (by rw [hl]; exact hi), a, rfl, by show (if a = a then some (Loc.slot i) else w.own a) = _; rw [if_pos rfl], h2, h3, .inl h0⟩
    · rw [St.set_ne hj] at e
      obtain ⟨u, q1, q2⟩ := R.slots j s e
      exact ⟨u, by rw [List.getElem?_set_ne hj]; exact q1, other q2⟩
  · obtain ⟨b, C, dx, fs, q1, q2, q3, q4, q5, q6, q7⟩ := (R.obs k ov e).ex
    have nb : b ≠ a := fun q => by rw [q, h1] at q3; cases q3
    exact ⟨b, C, dx, fs, q1, q2, by show (if b = a then some (Loc.slot i) else w.own b) = _; rw [if_neg nb]; exact q3, q4, q5, q6, fun i f v s e1 e2 => other (q7 i f v s e1 e2)⟩
  · have nb : b ≠ a := fun q => by rw [q, hO] at e; cases e
    show (if b = a then some (Loc.slot i) else w.own b) = none
    rw [if_neg nb]
    exact R.own0 b e
  · have hj : i ≠ j := fun q => by rw [q, q1] at hr; cases hr
    rw [List.getElem?_set_ne hj]
    exact R.arg j u q1 q2
theorem Fr.take {w0 w : W} {Hs H : Hp} {a : Addr} {l : Loc} (F : Fr w0 Hs w H) (h : Hs a = none) : Fr w0 Hs (VS.take w a l) H := by
  refine ⟨F.hf, F.ad, fun b u h1 h2 => ?_, F.nf, F.dm, F.h0, F.as, fun b l' o h1 h2 => ?_⟩
  · obtain ⟨p, q⟩ := F.kp b u h1 h2
    refine ⟨p, ?_⟩
    have nb : b ≠ a := fun q => by rw [q, h] at h1; cases h1
    show (if b = a then some l else w.own b) = none
    rw [if_neg nb]
    exact q
  · have nb : b ≠ a := fun q => by rw [q, h] at h1; cases h1
    show (if b = a then some l else w.own b) = some l' ∨ (if b = a then some l else w.own b) = none
    rw [if_neg nb]
    exact F.ow b l' o h1 h2
theorem setR_ok {S : Sta} {n : Shp} {ς ς' : St} {σ : L2.St} {H Hs : Hp} {w w0 : W} {i : Nat} {v : V} {r : ER} (F : Fr w0 Hs w H) (R : Rel S n ς σ H w) (hd : ∀ a, Hs a = none → w.H0 a = none) (hi : i < n.n) (hl : σ.length = n.n) (hr : n.ro i = false) (ro : ResOk S w Hs H σ v r) (e : setR ς i r = some ς') :
    ∃ w', Fr w0 Hs w' H ∧ Rel S n ς' (σ.set i (some v)) H w' := by
  cases r with
  | fr d =>
    cases e
    exact ⟨w, F, R.set_fr hi hl hr ro⟩
  | tp d =>
    cases e
    obtain ⟨a, rfl, h1, h2, h3, h4⟩ := ro
    exact ⟨take w a (.slot i), F.take h1, R.set_ow hi hl hr h2 h3 h4 (hd a h1)⟩
  | sl j =>
    have e : (settle ς (.sl j)).map (fun p => p.2.set i (some (.fr p.1))) = some ς' := e
    cases q : settle ς (.sl j) with
    | none => rw [q] at e; cases e
    | some p =>
      rw [q] at e
      cases e
      obtain ⟨w', F', R', rp⟩ := settle_ok (d := p.1) (ς' := p.2) F R ro (by rw [q])
      exact ⟨w', F', R'.set_fr hi hl hr rp⟩
def setA (i : Nat) (f : Act ER) : Act Flw := f.bnd fun r ς => (setR ς i r).map fun ς' => .ok .nx ς'
/-- x = e -/
theorem vs_set {i : Nat} {x : Str} {pos' : Pos} (hi : c.N[i]? = some x) (hx : L2.Loc c.sc x) (hr : c.ro i = false) (he : VE c e f) (hf : c.fnn x = true ∨ c.sc.names.lookup x = some .local) (hs : ∀ (env : Env), swapsWith e (some (.Name x pos')) pos.line env = pure false) :
    VS1 c (.Assign [.Name x pos'] e pos) (setA i f) := .of fun X hX pins s σ H w ς o ho I R T => by
  refine wpAny_Assign_Name (ve_then he hX I R T ho fun r ς1 u s1 v H1 w1 h1 I1 rv F1 R1 T1 ro => ?_) (hs _)
  cases q : setR ς1 i r with
  | none => rw [q] at h1; cases h1
  | some ς2 =>
    rw [q] at h1
    cases h1
    have hlen : i < c.N.length := (List.getElem?_eq_some_iff.mp hi).1
    obtain ⟨w2, F2, R2⟩ := setR_ok F1 R1 (fun a h => by rw [F1.h0]; exact R.dom a h) hlen (by rw [I1.len, hX.N]) hr ro q
    refine store_ok I1 (by rw [hX.N]; exact hX.nd) (by rw [hX.N]; exact hi) (by rw [hX.sc]; exact hx) rv (fun s2 I2 => ⟨_, H1, w2, I2, F2, R2⟩) ?_
    rcases hf with hf | hf
    · exact .inl (hX.fnn x hf)
    · exact .inr (by rw [hX.sc]; exact hf)

/-! ### return, if, expressions -/
/-- what is handed back: a name's own container goes out, if it was not handed in -/
def outR (par : Nat → Bool) (ς : St) : ER → Option (ER × St)
  | .fr d => some (.fr d, ς)
  | .tp d => some (.tp d, ς)
  | .sl i => match ς.sl[i]? with
    | some (some (.fr d)) => some (.fr d, ς)
    | some (some (.ow d)) => if par i = true then some (.fr d, ς.set i (some (.fr d))) else some (.tp d, ς.set i none)
    | _ => none
def drop (w : W) (a : Addr) : W := { w with own := fun b => if b = a then none else w.own b }
theorem Rel.move {S : Sta} {n : Shp} {ς : St} {σ : L2.St} {H : Hp} {w : W} {i : Nat} {d : Dat} (R : Rel S n ς σ H w) (e : ς.sl[i]? = some (some (.ow d))) : ∃ a, σ[i]? = some (some (.ref a)) ∧ w.own a = some (.slot i) ∧ w.Hf a = none ∧ OwnC S w.Hf w.ads H a d ∧ Young w (.ref a) a (.slot i) ∧ Rel S n (ς.set i none) σ H (drop w a) := by
  obtain ⟨v, ev, a, rfl, ho, hn, hc, hy⟩ := R.slots _ _ e
  refine ⟨a, ev, ho, hn, hc, hy, ?_⟩
  have other : ∀ {l : Loc} {v : V} {s : Slot}, l ≠ .slot i → SlotOk S w H l v s → SlotOk S (drop w a) H l v s := fun {l v s} hl h => by
    cases s with
    | fr d => exact h
    | ow d =>
      obtain ⟨b, e, q1, q2, q3, q4⟩ := h
      have nb : b ≠ a := fun q => by rw [q, ho] at q1; exact hl (Option.some.inj q1).symm
      exact ⟨b, e, by show (if b = a then none else w.own b) = _; rw [if_neg nb]; exact q1, q2, q3, by cases l <;> exact q4⟩
  refine ⟨R.sub, fun b u e => ?_, by rw [St.set_len]; exact R.len, fun j s e => ?_, fun k ov e => ?_, R.adk, R.dom, fun b e => ?_, R.arg, R.arl⟩
  · show (if b = a then none else w.own b) = none
    split
    · rfl
    · exact R.nof b u e
  · by_cases hj : i = j
    · subst hj
      rw [St.set_same (by assumption)] at e
      cases e
    · rw [St.set_ne hj] at e
      obtain ⟨u, q1, q2⟩ := R.slots j s e
      exact ⟨u, q1, other (fun q => by cases q; exact hj rfl) q2⟩
  · obtain ⟨b, C, dx, fs, q1, q2, q3, q4, q5, q6, q7⟩ := (R.obs k ov e).ex
    have nb : b ≠ a := fun q => by rw [q, ho] at q3; cases q3
    exact ⟨b, C, dx, fs, q1, q2, by show (if b = a then none else w.own b) = _; rw [if_neg nb]; exact q3, q4, q5, q6, fun i f v s e1 e2 => other (fun q => by cases q) (q7 i f v s e1 e2)⟩
  · show (if b = a then none else w.own b) = none
    split
    · rfl
    · exact R.own0 b e
theorem Fr.drop {w0 w : W} {Hs H : Hp} {a : Addr} (F : Fr w0 Hs w H) : Fr w0 Hs (VS.drop w a) H := by
  refine ⟨F.hf, F.ad, fun b u h1 h2 => ?_, F.nf, F.dm, F.h0, F.as, fun b l' o h1 h2 => ?_⟩
  · obtain ⟨p, q⟩ := F.kp b u h1 h2
    refine ⟨p, ?_⟩
    show (if b = a then none else w.own b) = none
    split
    · rfl
    · exact q
  · show (if b = a then none else w.own b) = some l' ∨ (if b = a then none else w.own b) = none
    split
    · exact .inr rfl
    · exact F.ow b l' o h1 h2
def retA (par : Nat → Bool) (f : Act ER) : Act Flw := f.bnd fun r ς => (outR par ς r).map fun p => .ok (.rt p.1) p.2
theorem out_ok {c : Ctx} {par : Nat → Bool} {ς ς' : St} {σ : L2.St} {H Hs : Hp} {w w0 : W} {v : V} {r q : ER} (F : Fr w0 Hs w H) (R : Rel c.toSta c.n ς σ H w) (hd : ∀ a, Hs a = none → w.H0 a = none) (ro : ResOk c.toSta w Hs H σ v r)
    (hpar : ∀ i, par i = false → w.args[i]? = none) (e : outR par ς r = some (q, ς')) : ∃ w', Fr w0 Hs w' H ∧ Rel c.toSta c.n ς' σ H w' ∧ RetOk c.toSta w' H v q := by
  cases r with
  | fr d =>
    cases e
    exact ⟨w, F, R, ro⟩
  | tp d =>
    cases e
    obtain ⟨a, rfl, h1, h2⟩ := ro
    exact ⟨w, F, R, a, rfl, hd a h1, h2⟩
  | sl i =>
    unfold outR at e
    simp only at e
    split at e
    · rename_i d z
      cases e
      obtain ⟨v', e1, e2⟩ := R.slots _ _ z
      have ro : σ[i]? = some (some v) := ro
      rw [ro] at e1; cases e1
      exact ⟨w, F, R, e2⟩
    · rename_i d z
      split at e
      · cases e
        obtain ⟨w', v', e1, F', R', rp⟩ := R.freeze_slot z
        have ro : σ[i]? = some (some v) := ro
        rw [ro] at e1; cases e1
        exact ⟨w', F.trans F', R', rp⟩
      · rename_i hpi
        cases e
        obtain ⟨a, e1, h1, h2, h3, h4, R'⟩ := R.move z
        have ro : σ[i]? = some (some v) := ro
        rw [ro] at e1; cases e1
        refine ⟨drop w a, F.drop, R', a, rfl, ?_, by show (if a = a then none else w.own a) = none; rw [if_pos rfl], h2, h3⟩
        rcases h4 with h4 | h4
        · exact h4
        · rw [hpar i (by simpa using hpi)] at h4; cases h4
    · cases e
/-- return e; the first names are the parameters -/
theorem vs_ret (he : VE c e f) : VS1 c (.Return (some e) pos) (retA (fun i => decide (i < c.np)) f) := .of fun X hX pins s σ H w ς o ho I R T => by
  refine wpAny_Return_some (ve_then he hX I R T ho fun r ς1 u s1 v H1 w1 h1 I1 rv F1 R1 T1 ro => ?_)
  cases q : outR (fun i => decide (i < c.np)) ς1 r with
  | none => rw [q] at h1; cases h1
  | some p =>
    rw [q] at h1
    cases h1
    obtain ⟨w2, F2, R2, ro2⟩ := out_ok (par := fun i => decide (i < c.np)) (q := p.1) (ς' := p.2) F1 R1 (fun a h => by rw [F1.h0]; exact R.dom a h) ro (fun i hi => R1.arl i (by show c.np ≤ i; simpa using hi)) (by rw [q])
    exact ⟨v, σ, H1, w2, I1, rv, F2, R2, ro2⟩
theorem vs_retN : VS1 c (.Return none pos) (Act.ret (.rt (.fr .non))) := .of fun X hX pins s σ H w ς o ho I R T => by
  cases ho
  exact wpAny_Return_none ⟨.non, σ, H, w, I, rfl, Fr.refl _ _, R, .non⟩
theorem vs_pass : VS1 c (.Pass pos) (Act.ret .nx) := .of fun X hX pins s σ H w ς o ho I R T => by
  cases ho
  exact wpAny_Pass ⟨σ, H, w, I, Fr.refl _ _, R⟩
theorem vs_break : VS1 c (.Break pos) (Act.ret .bk) := .of fun X hX pins s σ H w ς o ho I R T => by
  cases ho
  exact wpAny_Break ⟨σ, H, w, I, Fr.refl _ _, R⟩
theorem vs_cont : VS1 c (.Continue pos) (Act.ret .ct) := .of fun X hX pins s σ H w ς o ho I R T => by
  cases ho
  exact wpAny_Continue ⟨σ, H, w, I, Fr.refl _ _, R⟩
theorem vs_doc {x j pos pos'} : VS1 c (.Expr (.Constant (.str x) j pos) pos') (Act.ret .nx) := .of fun X hX pins s σ H w ς o ho I R T => by
  cases ho
  refine wpAny_mono ((ps_doc (X := X.nox) (x := x) (j := j) (pos := pos) (pos' := pos')).run pins s σ H { nx := fun σ' H' => σ' = σ ∧ H' = H, rt := fun _ _ => False } (I.wish _) ⟨rfl, rfl⟩) (fun fl s' z => ?_) fun _ _ z => False.elim z
  cases fl with
  | next => obtain ⟨σ', H', I', rfl, rfl⟩ := z; exact ⟨_, _, w, I'.unwish, Fr.refl _ _, R⟩
  | ret u => obtain ⟨_, _, _, _, _, z⟩ := z; exact z.elim
  | brk => obtain ⟨_, _, _, z⟩ := z; exact z.elim
  | cont => obtain ⟨_, _, _, z⟩ := z; exact z.elim
def dropA (f : Act ER) : Act Flw := f.bnd fun _ => Act.ret .nx
theorem vs_expr (he : VE c e f) (hs : ∀ env : Env, swapsWith e none pos.line env = pure false) : VS1 c (.Expr e pos) (dropA f) := .of fun X hX pins s σ H w ς o ho I R T => by
  refine wpAny_Expr_any (ve_then he hX I R T ho fun r ς1 u s1 v H1 w1 h1 I1 rv F1 R1 T1 ro => ?_) I.quiet (hs _)
  cases h1
  exact ⟨σ, H1, w1, I1, F1, R1⟩
theorem vs_if {t : Expr} {as bs : List Stmt} {ft : Act Bool} (ht : VT c t ft) (ha : VSs c as g) (hb : VSs c bs h) : VS1 c (.If t as bs pos) (iteA ft g h) := .of fun X hX pins s σ H w ς o ho I R T => by
  refine wpAny_If (vt_then ht hX I R T ho fun k ς1 s1 H1 w1 h1 I1 F1 R1 T1 => ?_)
  cases k with
  | true =>
    simp only [if_true] at h1 ⊢
    exact wpAny_mono (ha X hX pins s1 σ H1 w1 ς1 o h1 I1 R1 T1) (fun b s' z => NS.from F1 z) fun _ _ z => z
  | false =>
    simp only [Bool.false_eq_true, if_false] at h1 ⊢
    exact wpAny_mono (hb X hX pins s1 σ H1 w1 ς1 o h1 I1 R1 T1) (fun b s' z => NS.from F1 z) fun _ _ z => z
end
end VS

namespace VS
open PySem L2 PyProof.Rows

/-! ### while -/
def whileA (ft : Act Bool) (g : Act Flw) : Nat → Act Flw
  | 0 => fun _ => none
  | n + 1 => ft.bnd fun b => if b = true then g.bnd fun k => match k with
      | .nx => whileA ft g n
      | .ct => whileA ft g n
      | .bk => Act.ret .nx
      | .rt r => Act.ret (.rt r)
    else Act.ret .nx
section
variable {c : Ctx} {X : Cx} {a b e : Expr} {fa fb : Act ER} {pos : Pos} {es : List Expr} {f : Act ER} {st : Stmt} {rest body : List Stmt} {g h : Act Flw}
/-- a block, then what follows -/
theorem vss_then {β : Type} {k : Flw → Act β} {o : Out β} {sts : List Stmt} (h : VSs c sts g) (hX : c.Ok X) {pins : List (Addr × Obj)} {s : Shared} {σ : L2.St} {H : Hp} {w : W} {ς : St} (I : Inv X pins σ H s) (R : Rel c.toSta c.n ς σ H w) (T : XT c X w H o) (ho : g.bnd k ς = some o) {Q : Flow → Shared → Prop}
    (hk : ∀ (fl : Flw) (ς1 : St) (u : Flow) (s1 : Shared), k fl ς1 = some o → NS c X pins w H (.ok fl ς1) u s1 → Q u s1) :
    wpAny (model X.prog X.w) X.A (execs sts X.env) Q X.xe s := by
  unfold Act.bnd at ho
  cases q : g ς with
  | none => rw [q] at ho; cases ho
  | some o1 =>
    rw [q] at ho
    cases o1 with
    | ok r ς1 => exact wpAny_mono (h X hX pins s σ H w ς _ q I R trivial) (fun u s1 z => hk r ς1 u s1 ho z) fun _ _ z => z
    | ex x ς1 =>
      cases ho
      exact wpAny_mono (h X hX pins s σ H w ς _ q I R T) (fun u _ z => by cases u <;> exact z.elim) fun u s1 z => z
theorem vs_while {t : Expr} {ft : Act Bool} (n : Nat) (ht : VT c t ft) (hb : VSs c body g) : VS1 c (.While t body [] pos) (whileA ft g n) := .of fun X hX pins s σ H w ς o ho I R T => by
  refine wpAny_While (codeAny_whileLoop (fun n s' => ∃ σ' H' w' ς', Inv X pins σ' H' s' ∧ Fr w H w' H' ∧ Rel c.toSta c.n ς' σ' H' w' ∧ whileA ft g n ς' = some o) ?_ n ⟨σ, H, w, ς, I, Fr.refl _ _, R, ho⟩)
  rintro n s1 ⟨σ1, H1, w1, ς1, I1, F1, R1, h1⟩
  cases n with
  | zero => cases h1
  | succ n =>
    refine wpAny_passesOwn hX.po (vt_then ht hX I1 R1 (T.from F1) h1 fun b ς2 s2 H2 w2 h2 I2 F2 R2 T2 => ?_)
    cases b with
    | false =>
      simp only [Bool.false_eq_true, if_false] at h2 ⊢
      cases h2
      exact wpAny_execs_nil ⟨σ1, H2, w2, I2, F1.trans F2, R2⟩
    | true =>
      simp only [if_true] at h2 ⊢
      refine wpAny_passesOwn hX.po (vss_then hb hX I2 R2 T2 h2 fun fl ς3 u s3 h3 z => ?_)
      cases fl with
      | nx =>
        cases u <;> first | exact z.elim | skip
        obtain ⟨σ3, H3, w3, I3, F3, R3⟩ := z
        exact ⟨n, Nat.lt_succ_self n, σ3, H3, w3, ς3, I3, (F1.trans F2).trans F3, R3, h3⟩
      | ct =>
        cases u <;> first | exact z.elim | skip
        obtain ⟨σ3, H3, w3, I3, F3, R3⟩ := z
        exact ⟨n, Nat.lt_succ_self n, σ3, H3, w3, ς3, I3, (F1.trans F2).trans F3, R3, h3⟩
      | bk =>
        cases u <;> first | exact z.elim | skip
        cases h3
        obtain ⟨σ3, H3, w3, I3, F3, R3⟩ := z
        exact ⟨σ3, H3, w3, I3, (F1.trans F2).trans F3, R3⟩
      | rt r =>
        cases u <;> first | exact z.elim | skip
        cases h3
        obtain ⟨v, σ3, H3, w3, I3, rv, F3, R3, ro⟩ := z
        exact ⟨v, σ3, H3, w3, I3, rv, (F1.trans F2).trans F3, R3, ro⟩

end
/-! ### what a loop walks -/
/-- the walk yields the data ds, one a turn; what it yields is shared -/
structure WalkOk (c : Ctx) (J : It) (ds : List Dat) (w : W) : Prop where
  go : ∀ (i : Nat) (w' : W) (H' : Hp), i < ds.length → Ext w.Hf w'.Hf → Ext w'.Hf H' → J.go i H'
  stop : ∀ (w' : W) (H' : Hp), Ext w.Hf w'.Hf → Ext w'.Hf H' → J.stop ds.length H'
  yld : ∀ (i : Nat) (x : V) (H' : Hp) (w' : W) (H'' : Hp) (ς : St) (σ : L2.St), i < ds.length → Rel c.toSta c.n ς σ H' w' → Ext w.Hf w'.Hf → AExt w.ads w'.ads → J.yld i H' x H'' → ∃ w'', Fr w' H' w'' H'' ∧ Rel c.toSta c.n ς σ H'' w'' ∧ ∃ d, ds[i]? = some d ∧ Rep c.toSta w''.Hf w''.ads x d
/-- an iterable: f leaves what it walks -/
def VI (c : Ctx) (tg iter : Expr) (f : Act (List Dat)) : Prop :=
  ∀ X, c.Ok X → ∀ (pins : List (Addr × Obj)) (s : Shared) (σ : L2.St) (H : Hp) (w : W) (ς : St) (o : Out (List Dat)), f ς = some o → Inv X pins σ H s → Rel c.toSta c.n ς σ H w → XT c X w H o →
    wpAny (model X.prog X.w) X.A (eval iter X.env) (fun v s1 => wpAny (model X.prog X.w) X.A (pyIter v) (fun itv s2 => match o with
      | .ok ds ς' => PIE X pins σ tg (fun J H' => ∃ w', Fr w H w' H' ∧ Rel c.toSta c.n ς' σ H' w' ∧ WalkOk c J ds w') itv s2
      | .ex _ _ => False) X.xe s1) X.xe s
section
variable {c : Ctx} {X : Cx} {a b e tg iter : Expr} {fa fb : Act ER} {pos : Pos} {es : List Expr} {f : Act ER} {st : Stmt} {rest body : List Stmt} {g h : Act Flw} {fi : Act (List Dat)}
theorem walk_list {a : Addr} {vs : List V} {ds : List Dat} {w : W} (h : SqL c.K w.Hf a vs) (r : Reps c.toSta w.Hf w.ads vs ds) : WalkOk c (Itl c.K a) ds w where
  go := fun i w' H' hi e1 e2 => by
    have hl : i < vs.length := by rw [r.length]; exact hi
    exact ⟨vs, vs[i], e2.sqL (e1.sqL h), by simp [hl]⟩
  stop := fun w' H' e1 e2 => ⟨vs, e2.sqL (e1.sqL h), by rw [r.length]; exact Nat.le_refl _⟩
  yld := fun i x H' w' H'' ς σ hi R e1 ea y => by
    obtain ⟨rfl, y⟩ := y
    have q := y vs (Ext.sqL R.sub (e1.sqL h))
    obtain ⟨d, h1, h2⟩ := (r.mono e1 ea).getV q
    exact ⟨w', Fr.refl _ _, R, d, h1, h2⟩
theorem walk_tup {a : Addr} {vs : List V} {ds : List Dat} {w : W} (h : SqT c.K w.Hf a vs) (r : Reps c.toSta w.Hf w.ads vs ds) : WalkOk c (Itt c.K a) ds w where
  go := fun i w' H' hi e1 e2 => by
    have hl : i < vs.length := by rw [r.length]; exact hi
    exact ⟨vs, vs[i], e2.sqT (e1.sqT h), by simp [hl]⟩
  stop := fun w' H' e1 e2 => ⟨vs, e2.sqT (e1.sqT h), by rw [r.length]; exact Nat.le_refl _⟩
  yld := fun i x H' w' H'' ς σ hi R e1 ea y => by
    obtain ⟨rfl, y⟩ := y
    have q := y vs (Ext.sqT R.sub (e1.sqT h))
    obtain ⟨d, h1, h2⟩ := (r.mono e1 ea).getV q
    exact ⟨w', Fr.refl _ _, R, d, h1, h2⟩
def rangeD (lo : Int) (n : Nat) : List Dat := (List.range n).map fun (i : Nat) => Dat.int (lo + (i : Int))
theorem walk_range (lo : Int) (n : Nat) (w : W) : WalkOk c (Itr lo n) (rangeD lo n) w where
  go := fun i w' H' hi e1 e2 => by
    have hl : i < n := by simpa [rangeD] using hi
    exact hl
  stop := fun w' H' e1 e2 => by
    show n ≤ _
    simp [rangeD]
  yld := fun i x H' w' H'' ς σ hi R e1 ea y => by
    obtain ⟨rfl, rfl⟩ := y
    have hl : i < n := by simpa [rangeD] using hi
    exact ⟨w', Fr.refl _ _, R, .int (lo + (i : Int)), by simp [rangeD, hl], .int _⟩
def signsD (x : Str) : List Dat := x.cps.toList.map fun k => .str ⟨#[k]⟩
theorem walk_str (x : Str) (w : W) : WalkOk c (Its x) (signsD x) w where
  go := fun i w' H' hi e1 e2 => by
    have hl : i < x.cps.size := by simpa [signsD] using hi
    exact hl
  stop := fun w' H' e1 e2 => by
    show x.cps.size ≤ _
    simp [signsD]
  yld := fun i y H' w' H'' ς σ hi R e1 ea y => by
    obtain ⟨rfl, k, hk, rfl⟩ := y
    refine ⟨w', Fr.refl _ _, R, .str ⟨#[k]⟩, ?_, .str _⟩
    have hk' : x.cps.toList[i]? = some k := by simpa using hk
    simp [signsD, hk']

/-- an iterable's data: a list, a tuple, a text -/
def walkD : Dat → Option (List Dat)
  | .lst ds => some ds
  | .tup ds => some ds
  | .str x => some (signsD x)
  | _ => none
def iterA (f : Act ER) : Act (List Dat) := f.bnd fun r ς => (settle ς r).bind fun p => (walkD p.1).map fun ds => .ok ds p.2
theorem itc_K {J : It} {X : Cx} (hX : c.Ok X) (a : Addr) : Itl X.K a = Itl c.K a := by rw [hX.K]
/-- a value that is walked -/
theorem vi_val (he : VE c e f) : VI c tg e (iterA f) := fun X hX pins s σ H w ς o ho I R T => by
  refine ve_then he hX I R T ho fun r ς1 u s1 v H1 w1 h1 I1 rv F1 R1 T1 ro => ?_
  cases e1 : settle ς1 r with
  | none => rw [e1] at h1; cases h1
  | some p =>
    obtain ⟨d, ς2⟩ := p
    rw [e1] at h1
    simp only [Option.bind_some] at h1
    cases e2 : walkD d with
    | none => rw [e2] at h1; cases h1
    | some ds =>
      rw [e2] at h1
      cases h1
      obtain ⟨w2, F2, R2, rp⟩ := settle_ok F1 R1 ro e1
      have fromPI : ∀ {wi : TI}, PI X.nox tg e wi → True := fun _ => trivial
      -- by the rule for the value itself: a name that holds it
      cases d with
      | lst ds' =>
        cases e2
        cases rp with
        | lst hl rs =>
          rename_i a vs
          cases rv
          obtain ⟨its, rvl, p, hz⟩ := I1.list (X := X) (by rw [hX.K]; exact Ext.sqL R2.sub hl)
          refine wpAny_pyIter_list p.isList ?_
          refine ⟨s1.heap.objs.size, [s1.heap.objs.size], _, _, H1, rfl, I1.kept (t' := s1.toks) fun b o e => Heap.get?_push_of_some _ e, turn_list a _, ⟨_, Heap.get?_push_size _ rfl, rfl, rfl⟩, fun b hb => ?_, ⟨w2, F2, R2, by rw [hX.K]; exact walk_list hl rs⟩⟩
          have e : b = s1.heap.objs.size := by simpa using hb
          subst e
          exact I1.fpOk (Nat.le_refl _) (I1.hok.fresh (Nat.le_refl _))
      | tup ds' =>
        cases e2
        cases rp with
        | tup hl rs =>
          rename_i a vs
          cases rv
          obtain ⟨its, rvl, p, hz⟩ := I1.tuple (X := X) (by rw [hX.K]; exact Ext.sqT R2.sub hl)
          refine wpAny_pyIter_tuple (show s1.heap.IsTuple a its.toArray from p) ?_
          refine ⟨s1.heap.objs.size, [s1.heap.objs.size], _, _, H1, rfl, I1.kept (t' := s1.toks) fun b o e => Heap.get?_push_of_some _ e, turn_tuple a _, ⟨_, Heap.get?_push_size _ rfl, rfl, rfl⟩, fun b hb => ?_, ⟨w2, F2, R2, by rw [hX.K]; exact walk_tup hl rs⟩⟩
          have e : b = s1.heap.objs.size := by simpa using hb
          subst e
          exact I1.fpOk (Nat.le_refl _) (I1.hok.fresh (Nat.le_refl _))
      | str x =>
        cases e2
        cases rp
        obtain ⟨t, rfl⟩ := rv
        cases ha : x.cps.all (· < 128)
        · exact wpAny_pyIter_wide ha (pi_one (tk := s1.toks) I1 _ (turn_str _ x t "str_iterator" (.inr rfl)) ⟨_, Heap.get?_push_size _ rfl, rfl, rfl⟩ ⟨w2, F2, R2, walk_str x w2⟩)
        · exact wpAny_pyIter_ascii ha (pi_one (tk := s1.toks) I1 _ (turn_str _ x t "str_ascii_iterator" (.inl rfl)) ⟨_, Heap.get?_push_size _ rfl, rfl, rfl⟩ ⟨w2, F2, R2, walk_str x w2⟩)
      | _ => cases e2
end
end VS

namespace VS
open PySem L2 PyProof.Rows

/-! ### targets -/
/-- a target takes a shared datum -/
def VG (c : Ctx) (tg : Expr) (t : Dat → St → Option St) (is : List Nat) : Prop :=
  ∀ X, c.Ok X → ∀ (pins : List (Addr × Obj)) (s : Shared) (σ : L2.St) (H : Hp) (w : W) (ς ς' : St) (v : V) (u : Value) (d : Dat), t d ς = some ς' → Inv X pins σ H s → Rel c.toSta c.n ς σ H w → RelV v u → Rep c.toSta w.Hf w.ads v d →
    wpAny (model X.prog X.w) X.A (assign tg X.env u) (fun _ s' => ∃ σ' w', Inv X pins σ' H s' ∧ Fr w H w' H ∧ Rel c.toSta c.n ς' σ' H w' ∧ ∀ j, j ∉ is → σ'[j]? = σ[j]?) (fun _ _ => False) s
def VGs (c : Ctx) (tgs : List Expr) (t : List Dat → St → Option St) (is : List Nat) : Prop :=
  ∀ X, c.Ok X → ∀ (pins : List (Addr × Obj)) (s : Shared) (σ : L2.St) (H : Hp) (w : W) (ς ς' : St) (vs : List V) (us : List Value) (ds : List Dat), t ds ς = some ς' → Inv X pins σ H s → Rel c.toSta c.n ς σ H w → Vals vs us → Reps c.toSta w.Hf w.ads vs ds →
    wpAny (model X.prog X.w) X.A (assignInOrder ((assignEach tgs X.env).map (·.2)) us) (fun _ s' => ∃ σ' w', Inv X pins σ' H s' ∧ Fr w H w' H ∧ Rel c.toSta c.n ς' σ' H w' ∧ ∀ j, j ∉ is → σ'[j]? = σ[j]?) (fun _ _ => False) s
section
variable {c : Ctx} {X : Cx} {a b e tg iter : Expr} {fa fb : Act ER} {pos : Pos} {es : List Expr} {f : Act ER} {st : Stmt} {rest body : List Stmt} {g h : Act Flw} {fi : Act (List Dat)}
def tgName (i : Nat) (d : Dat) (ς : St) : Option St := some (ς.set i (some (.fr d)))
theorem vg_name {i : Nat} {x : Str} (hi : c.N[i]? = some x) (hx : L2.Loc c.sc x) (hr : c.ro i = false) (hf : c.fnn x = true ∨ c.sc.names.lookup x = some .local) : VG c (.Name x pos) (tgName i) [i] := fun X hX pins s σ H w ς ς' v u d ht I R rv rp => by
  cases ht
  have hlen : i < c.N.length := (List.getElem?_eq_some_iff.mp hi).1
  refine wpAny_assign_Name (store_ok I (by rw [hX.N]; exact hX.nd) (by rw [hX.N]; exact hi) (by rw [hX.sc]; exact hx) rv (fun s2 I2 => ⟨_, w, I2, Fr.refl _ _, R.set_fr hlen (by rw [I.len, hX.N]) hr rp, fun j hj => List.getElem?_set_ne (fun q => hj (by simp [q]))⟩) ?_)
  rcases hf with hf | hf
  · exact .inl (hX.fnn x hf)
  · exact .inr (by rw [hX.sc]; exact hf)
def tgNil : List Dat → St → Option St
  | [], ς => some ς
  | _ :: _, _ => none
def tgCons (t : Dat → St → Option St) (u : List Dat → St → Option St) : List Dat → St → Option St
  | [], _ => none
  | d :: ds, ς => (t d ς).bind (u ds)
theorem vgs_nil : VGs c [] tgNil [] := fun X hX pins s σ H w ς ς' vs us ds ht I R rv rp => by
  cases rp with
  | nil =>
    cases ht
    cases rv
    exact assignInOrder_nil ⟨σ, w, I, Fr.refl _ _, R, fun _ _ => rfl⟩
  | cons r t => cases ht
theorem vgs_cons {t : Dat → St → Option St} {u : List Dat → St → Option St} {is js : List Nat} (h1 : VG c e t is) (h2 : VGs c es u js) (hs : ∀ env : Env, (assignEach (e :: es) env).map (·.2) = assign e env :: (assignEach es env).map (·.2)) : VGs c (e :: es) (tgCons t u) (is ++ js) := fun X hX pins s σ H w ς ς' vs us ds ht I R rv rp => by
  cases rp with
  | nil => cases ht
  | cons r q =>
    rename_i v d vs ds
    cases rv with
    | cons rv rvs =>
      have ht : (t d ς).bind (u ds) = some ς' := ht
      cases e1 : t d ς with
      | none => rw [e1] at ht; cases ht
      | some ς1 =>
        rw [e1] at ht
        rw [hs]
        refine assignInOrder_cons (wpAny_mono (h1 X hX pins s σ H w ς ς1 _ _ d e1 I R rv r) (fun _ s1 ⟨σ1, w1, I1, F1, R1, k1⟩ => ?_) fun _ _ z => z)
        exact wpAny_mono (h2 X hX pins s1 σ1 H w1 ς1 ς' _ _ ds ht I1 R1 rvs (q.mono F1.hf F1.ad)) (fun _ s2 ⟨σ2, w2, I2, F2, R2, k2⟩ => ⟨σ2, w2, I2, F1.trans F2, R2, fun j hj => (k2 j (fun z => hj (List.mem_append_right _ z))).trans (k1 j (fun z => hj (List.mem_append_left _ z)))⟩) fun _ _ z => z
def tgTup (n : Nat) (t : List Dat → St → Option St) : Dat → St → Option St
  | .tup ds, ς => if ds.length = n then t ds ς else none
  | _, _ => none
theorem vg_tup {k : Nat} {n : Nat} {t : List Dat → St → Option St} {is : List Nat} (h : VGs c es t is) (hn : ∀ env : Env, (assignEach es env).length = n) (hst : ∀ env : Env, (assignEach es env).findIdx? (·.1) = none) : VG c (.Tuple es k pos) (tgTup n t) is := fun X hX pins s σ H w ς ς' v u d ht I R rv rp => by
  unfold tgTup at ht
  split at ht
  · rename_i ds
    split at ht
    · rename_i hl
      cases rp with
      | tup hq rs =>
        cases rv
        obtain ⟨its, rvl, htup, hz⟩ := I.tuple (X := X) (by rw [hX.K]; exact Ext.sqT R.sub hq)
        have hl1 := rs.length
        have hl2 := rvl.length
        refine assign_Tuple_tuple (I.ok.hd hX.calm) htup (by simp [hn, ← hl, ← hl2, hl1]) (hst _) fun h' hx => ?_
        have I1 : Inv X pins σ H { s with heap := h' } := I.kept (t' := s.toks) fun b o e => hx b o (Nat.ne_of_lt (Heap.lt_size e)) e
        exact h X hX pins _ σ H w ς ς' _ _ ds ht I1 R (by simpa using rvl) rs
    · cases ht
  · cases ht

/-! ### for -/
def forA (t : Dat → St → Option St) (g : Act Flw) : List Dat → Act Flw
  | [] => Act.ret .nx
  | d :: ds => fun ς => match t d ς with
    | none => none
    | some ς' => g.bnd (fun k => match k with
      | .nx => forA t g ds
      | .ct => forA t g ds
      | .bk => Act.ret .nx
      | .rt r => Act.ret (.rt r)) ς'
theorem vi_then {β : Type} {k : List Dat → Act β} {o : Out β} (h : VI c tg iter fi) (hX : c.Ok X) {pins : List (Addr × Obj)} {s : Shared} {σ : L2.St} {H : Hp} {w : W} {ς : St} (I : Inv X pins σ H s) (R : Rel c.toSta c.n ς σ H w) (T : XT c X w H o) (ho : fi.bnd k ς = some o) {Q : Value → Shared → Prop}
    (hk : ∀ (ds : List Dat) (ς1 : St) (u : Value) (s1 : Shared), k ds ς1 = some o → PIE X pins σ tg (fun J H' => ∃ w', Fr w H w' H' ∧ Rel c.toSta c.n ς1 σ H' w' ∧ WalkOk c J ds w') u s1 → Q u s1) :
    wpAny (model X.prog X.w) X.A (eval iter X.env) (fun v s1 => wpAny (model X.prog X.w) X.A (pyIter v) Q X.xe s1) X.xe s := by
  unfold Act.bnd at ho
  cases q : fi ς with
  | none => rw [q] at ho; cases ho
  | some o1 =>
    rw [q] at ho
    cases o1 with
    | ok r ς1 => exact wpAny_mono (h X hX pins s σ H w ς _ q I R trivial) (fun u s1 z => wpAny_mono z (fun u s2 z => hk r ς1 u s2 ho z) fun _ _ z => z) fun _ _ z => z
    | ex x ς1 =>
      cases ho
      exact wpAny_mono (h X hX pins s σ H w ς _ q I R T) (fun u s1 z => wpAny_mono z (fun u s2 z => z.elim) fun _ _ z => z) fun u s1 z => z
theorem vs_for {t : Dat → St → Option St} {is : List Nat} (hi : VI c tg iter fi) (hg : VG c tg t is) (hb : VSs c body g) (hs : ∀ env x, foldedSetIterable iter env x = pure x) : VS1 c (.For tg iter body [] pos) (fi.bnd (forA t g)) := .of fun X hX pins s σ H w ς o ho I R T => by
  refine wpAny_For (vi_then hi hX I R T ho fun ds ς1 itv s2 h1 z => ?_) (hs _)
  obtain ⟨it, fp, tn, J, H2, rfl, I2, Tn, st2, f2, w2, F2, R2, WK⟩ := z
  have stat : ∀ {H' : Hp}, (∀ b ∈ fp, H' b = none) → ∀ b ∈ fp, FpOk X pins H' b := fun hn b hb => ⟨hn b hb, (f2 b hb).2⟩
  refine codeAny_forLoop_any (fun n s' => ∃ i σ' H' w' ς' ds', Inv X pins σ' H' s' ∧ tn i s'.heap ∧ (∀ b ∈ fp, H' b = none) ∧ Fr w2 H2 w' H' ∧ Rel c.toSta c.n ς' σ' H' w' ∧ n = ds'.length ∧ ds' = ds.drop i ∧ i ≤ ds.length ∧ forA t g ds' ς' = some o) ?_ ds.length
    ⟨0, σ, H2, w2, ς1, ds, I2, st2, fun b hb => (f2 b hb).1, Fr.refl _ _, R2, rfl, by simp, by simp, h1⟩
  rintro n s3 ⟨i, σ3, H3, w3, ς3, ds3, I3, st3, fr3, F3, R3, hn, hd, hl, h3⟩
  cases ds3 with
  | nil =>
    have hi : i = ds.length := by have := congrArg List.length hd; simp at this; omega
    subst hi
    have stop := WK.stop w3 H3 F3.hf R3.sub
    refine wpAny_passesOwn hX.po (wpAny_mono (Tn.done X rfl rfl rfl hX.calm ds.length pins s3 σ3 H3 X.xe I3 (stat fr3) st3 stop) (fun r s4 ⟨hr, I4⟩ => ?_) fun _ _ z => z)
    subst hr
    cases h3
    exact wpAny_execs_nil ⟨σ3, H3, w3, I4, F2.trans F3, R3⟩
  | cons d ds3 =>
    have hi : i < ds.length := by have := congrArg List.length hd; simp at this; omega
    have hdi : ds[i]? = some d := by
      have q : (ds.drop i)[0]? = some d := by rw [← hd]; rfl
      rw [List.getElem?_drop] at q
      simpa using q
    have hdn : ds3 = ds.drop (i + 1) := by
      have q : (ds.drop i).drop 1 = ds3 := by rw [← hd]; rfl
      rw [List.drop_drop] at q
      exact q.symm
    have go := WK.go i w3 H3 hi F3.hf R3.sub
    refine wpAny_passesOwn hX.po (wpAny_mono (Tn.item X rfl rfl rfl hX.calm i pins s3 σ3 H3 X.xe I3 (stat fr3) st3 go) (fun r s4 ⟨u, hr, h4⟩ => ?_) fun _ _ z => z)
    subst hr
    refine wpAny_passesOwn hX.po (wpAny_mono h4 (fun _ s5 ⟨x, H5, I5, r5, y5, st5, fr5⟩ => ?_) fun _ _ z => z)
    obtain ⟨w5, F5, R5, d', hd', rp5⟩ := WK.yld i x H3 w3 H5 ς3 σ3 hi R3 F3.hf F3.ad y5
    rw [hdi] at hd'
    cases hd'
    have I5' := I5.pinned (stat fr5) (Tn.obj _ _ st5)
    have h3 : (match t d ς3 with | none => none | some ς' => g.bnd (fun k => match k with | .nx => forA t g ds3 | .ct => forA t g ds3 | .bk => Act.ret .nx | .rt r => Act.ret (.rt r)) ς') = some o := h3
    cases e6 : t d ς3 with
    | none => rw [e6] at h3; cases h3
    | some ς6 =>
      rw [e6] at h3
      simp only at h3
      refine wpAny_passesOwn hX.po (wpAny_mono (hg X hX _ s5 σ3 H5 w5 ς3 ς6 x u d e6 I5' R5 r5 rp5) (fun _ s6 ⟨σ6, w6, I6, F6, R6, _⟩ => ?_) fun _ _ z => z.elim)
      have F06 := ((F2.trans F3).trans F5).trans F6
      refine wpAny_passesOwn hX.po (vss_then hb hX I6 R6 (T.from F06) h3 fun fl ς7 u7 s7 h7 z => ?_)
      have again : ∀ {σ7 : L2.St} {H7 : Hp} {w7 : W}, Inv X (pins ++ pinsAt fp s5.heap) σ7 H7 s7 → Fr w6 H5 w7 H7 → Rel c.toSta c.n ς7 σ7 H7 w7 → forA t g ds3 ς7 = some o → ∃ m, m < n ∧ ∃ i σ' H' w' ς' ds', Inv X pins σ' H' s7 ∧ tn i s7.heap ∧ (∀ b ∈ fp, H' b = none) ∧ Fr w2 H2 w' H' ∧ Rel c.toSta c.n ς' σ' H' w' ∧ m = ds'.length ∧ ds' = ds.drop i ∧ i ≤ ds.length ∧ forA t g ds' ς' = some o := fun {σ7 H7 w7} I7 F7 R7 q7 => by
        refine ⟨ds3.length, by rw [hn]; simp, i + 1, σ7, H7, w7, ς7, ds3, I7.unpinned, Tn.keep _ _ _ st5 fun b hb o e => (I7.pin (b, o) (List.mem_append_right _ (List.mem_append_right _ (mem_pinsAt hb e)))).1, fun b hb => ?_, ((F3.trans F5).trans F6).trans F7, R7, rfl, hdn, hi, q7⟩
        obtain ⟨o, e, _⟩ := Tn.obj _ _ st5 b hb
        exact (I7.pin (b, o) (List.mem_append_right _ (List.mem_append_right _ (mem_pinsAt hb e)))).2.1
      cases fl with
      | nx =>
        cases u7 <;> first | exact z.elim | skip
        obtain ⟨σ7, H7, w7, I7, F7, R7⟩ := z
        exact again I7 F7 R7 h7
      | ct =>
        cases u7 <;> first | exact z.elim | skip
        obtain ⟨σ7, H7, w7, I7, F7, R7⟩ := z
        exact again I7 F7 R7 h7
      | bk =>
        cases u7 <;> first | exact z.elim | skip
        cases h7
        obtain ⟨σ7, H7, w7, I7, F7, R7⟩ := z
        exact ⟨σ7, H7, w7, I7.unpinned, F06.trans F7, R7⟩
      | rt r =>
        cases u7 <;> first | exact z.elim | skip
        cases h7
        obtain ⟨v, σ7, H7, w7, I7, rv, F7, R7, ro⟩ := z
        exact ⟨v, σ7, H7, w7, I7.unpinned, rv, F06.trans F7, R7, ro⟩
end
end VS

namespace VS
open PySem L2 PyProof.Rows

/-! ### defs -/
/-- what a call leaves: the answer (or the exception), what stands under the parameters, the objects -/
inductive FOut where
  | ok (r : ER) (outs : List Slot) (ob : List OVal) | ex (x : Exn) (outs : List Slot) (ob : List OVal)
abbrev FD := List Slot → List OVal → Option FOut
structure Entry (S : Sta) (w : W) (vs : List V) (H : Hp) (args : List Slot) (ob : List OVal) : Prop where
  sub : ∀ a o, w.Hf a = some o → H a = some o
  nof : ∀ a o, w.Hf a = some o → w.own a = none
  own0 : ∀ a, H a = none → w.own a = none
  h0 : w.H0 = H
  as : w.args = vs
  len : vs.length = args.length
  arg : ∀ i s, args[i]? = some s → ∃ v, vs[i]? = some v ∧ SlotOk S w H (.slot i) v s
  obs : ∀ k o, ob[k]? = some o → ObOk S w H k o
  adk : ∀ k a, w.ads k = some a → k < ob.length
structure RelX (S : Sta) (w : W) (vs : List V) (H : Hp) (outs : List Slot) (ob : List OVal) : Prop where
  sub : ∀ a o, w.Hf a = some o → H a = some o
  nof : ∀ a o, w.Hf a = some o → w.own a = none
  own0 : ∀ a, H a = none → w.own a = none
  arg : ∀ i s, outs[i]? = some s → ∃ v, vs[i]? = some v ∧ SlotOk S w H (.slot i) v s
  obs : ∀ k o, ob[k]? = some o → ObOk S w H k o
  adk : ∀ k a, w.ads k = some a → k < ob.length
/-- the promise of a def that does F -/
def spV (S : Sta) (np : Nat) (F : FD) : Sp := fun vs H Q E => ∃ (w : W) (args : List Slot) (ob : List OVal) (o : FOut), args.length = np ∧ Entry S w vs H args ob ∧ F args ob = some o ∧
  match o with
  | .ok r outs ob' => ∀ v H' w', Fr w H w' H' → RelX S w' vs H' outs ob' → RetOk S w' H' v r → Q v H'
  | .ex x outs ob' => ∀ cls dd H' w', Fr w H w' H' → RelX S w' vs H' outs ob' → ExOk S w' H' cls dd x → E cls dd H'
/-- what stands under the parameters at the end -/
def outsO (ς : St) : List Slot → Nat → Option (List Slot)
  | [], _ => some []
  | .fr d :: r, i => (outsO ς r (i + 1)).map (Slot.fr d :: ·)
  | .ow _ :: r, i => match ς.sl[i]? with
    | some (some s) => (outsO ς r (i + 1)).map (s :: ·)
    | _ => none
/-- what is handed in as its own stands under a name that is never stored -/
def roOk (ro : Nat → Bool) : List Slot → Nat → Bool
  | [], _ => true
  | .fr _ :: r, i => roOk ro r (i + 1)
  | .ow _ :: r, i => ro i && roOk ro r (i + 1)
def runB (n np : Nat) (ro : Nat → Bool) (g : Act Flw) : FD := fun args ob =>
  if args.length = np ∧ roOk ro args 0 = true then
    match g ⟨args.map some ++ List.replicate (n - args.length) none, ob⟩ with
    | some (.ok .nx ς) => (outsO ς args 0).map fun outs => .ok (.fr .non) outs ς.ob
    | some (.ok (.rt r) ς) => (outsO ς args 0).map fun outs => .ok r outs ς.ob
    | some (.ex x ς) => (outsO ς args 0).map fun outs => .ex x outs ς.ob
    | _ => none
  else none
section
variable {S : Sta} {n : Shp} {ς : St} {σ : L2.St} {H H' : Hp} {w w0 w' : W} {vs : List V}
theorem outs_ok (R : Rel S n ς σ H' w') (F : Fr w H w' H') (ro : Nat → Bool) (hn : n.ro = ro) (has : w'.args = vs) : ∀ (args : List Slot) (k : Nat) (outs : List Slot), roOk ro args k = true → (∀ i s, args[i]? = some s → ∃ v, vs[k + i]? = some v ∧ SlotOk S w H (.slot (k + i)) v s) → outsO ς args k = some outs →
    ∀ i s, outs[i]? = some s → ∃ v, vs[k + i]? = some v ∧ SlotOk S w' H' (.slot (k + i)) v s
  | [], k, outs, hr, ha, e => by
    cases e
    intro i s q
    simp at q
  | .fr d :: r, k, outs, hr, ha, e => by
    have e : (outsO ς r (k + 1)).map (Slot.fr d :: ·) = some outs := e
    cases q : outsO ς r (k + 1) with
    | none => rw [q] at e; cases e
    | some os =>
      rw [q] at e
      cases e
      have ih := outs_ok R F ro hn has r (k + 1) os hr (fun i s h => by
        have := ha (i + 1) s (by simpa using h)
        rwa [show k + (i + 1) = k + 1 + i by omega] at this) q
      intro i s h
      cases i with
      | zero =>
        simp at h
        subst h
        obtain ⟨v, h1, h2⟩ := ha 0 _ rfl
        exact ⟨v, h1, Rep.mono F.hf F.ad h2⟩
      | succ i =>
        have := ih i s (by simpa using h)
        rwa [show k + (i + 1) = k + 1 + i by omega]
  | .ow d :: r, k, outs, hr, ha, e => by
    have hr : (ro k && roOk ro r (k + 1)) = true := hr
    rw [Bool.and_eq_true] at hr
    have e : (match ς.sl[k]? with | some (some s) => (outsO ς r (k + 1)).map (s :: ·) | _ => none) = some outs := e
    split at e
    · rename_i s0 hs0
      cases q : outsO ς r (k + 1) with
      | none => rw [q] at e; cases e
      | some os =>
        rw [q] at e
        cases e
        have ih := outs_ok R F ro hn has r (k + 1) os hr.2 (fun i s h => by
          have := ha (i + 1) s (by simpa using h)
          rwa [show k + (i + 1) = k + 1 + i by omega] at this) q
        intro i s h
        cases i with
        | zero =>
          simp at h
          subst h
          obtain ⟨v, h1, h2⟩ := ha 0 _ rfl
          obtain ⟨v', h3, h4⟩ := R.slots k _ hs0
          have h5 := R.arg k v (by rw [hn]; exact hr.1) (by rw [has]; simpa using h1)
          rw [h5] at h3
          cases h3
          exact ⟨v, h1, by simpa using h4⟩
        | succ i =>
          have := ih i s (by simpa using h)
          rwa [show k + (i + 1) = k + 1 + i by omega]
    · cases e
end

/-- a def's promise where no container is being shown -/
structure FnG (P : Program) (w : World) (K : PySem.W.Frag) (mg : Str → Option Value) (base : Heap) (CX : CXT) (k : Nat) (f : Addr) (fd : FuncData) (ps : List Str) (sp : Sp) : Prop where
  len : ∀ vs H Q E, sp vs H Q E → vs.length = ps.length
  run : ∀ (A : Around) (outer : List Env) (s : Shared) (H : Hp) (args : Args) (us : List Value) (vs : List V) (Q : VK) (E : XK), A.guards = some [] → Room k A → Env0 P w K mg base A outer s H → BindsTo s fd args (ps.zip us) → Vals vs us → sp vs H Q E →
    codeAny (model P w) A (.call (.ref f) args) (CR CX outer P w H s Q E) s
/-- the def is entered: what is left is its body -/
theorem enter_def {CX : CXT} {P : Program} {w : World} {K : PySem.W.Frag} {mg : Str → Option Value} {base : Heap} {k : Nat} {f : Addr} {name qual : Str} {params : Arguments} {body : List Stmt} {scope : Scope} {dV kV doc pm cdv ct oc : Value} {an od : Option Addr}
    {osl : Array (Option Value)} {N ps : List Str} {A : Around} {outer : List Env} {s : Shared} {H : Hp} {args : Args} {us : List Value} {vs : List V} {Q : VK} {E : XK}
    (lk : K.lookup f = some ⟨oc, od, .func (PySem.W.fnOf name qual params body scope dV kV doc pm an cdv ct), osl⟩) (hcd : PySem.W.codeIn K cdv qual = true) (Sc : FnScope N ps scope) (hl : vs.length = ps.length)
    (hr : Room (k + 1) A) (e0 : Env0 P w K mg base A outer s H) (hb : BindsTo s (PySem.W.fnOf name qual params body scope dV kV doc pm an cdv ct) args (ps.zip us)) (r : Vals vs us)
    (go : ∀ X, X = cxOf CX P w K mg base N qual scope f cdv A outer s H E → ∀ s1, Inv X [] (start N vs) H s1 → wpAny (model X.prog X.w) X.A (execs body X.env) (SP X [] { nx := fun _ H' => Q .non H', rt := Q }) X.xe s1) :
    codeAny (model P w) A (.call (.ref f) args) (CR CX outer P w H s Q E) s := by
  have kx : K.In s.heap := e0.mod.kin.keeps fun b o e => (e0.bs b o e).1
  refine codeAny_call_function hr.depth (kx _ _ lk) rfl Sc.co Sc.gen rfl (PySem.W.codeRec_of kx hcd) (hb _ _ _ _ ?_)
  refine wpAny_newFunctionEnv_cells Sc.kind (fun p hp => ?_) fun env he s1 x => ?_
  · rcases Sc.par p.1 (List.of_mem_zip hp).1 with q | q
    · exact Or.inl q
    · exact Or.inr ⟨q, PySem.W.cellsFrom_some _ _ _ (Or.inl q)⟩
  · subst he
    refine ⟨(e0.mod.nolimit.keeps fun b o e => (e0.bs b o e).1).keeps x.toInCall.keep, codeAny_func ?_⟩
    refine wpAny_mono (go _ rfl s1 (inv_start Sc hr.hd e0 hl r x)) (fun fl s' z => ?_) fun _ _ z => z
    cases fl with
    | next => obtain ⟨σ', H', J, q⟩ := z; exact ⟨.non, H', J.os, J.bare, J.base, J.hok, rfl, q⟩
    | ret u => obtain ⟨v, σ', H', J, rv, q⟩ := z; exact ⟨v, H', J.os, J.bare, J.base, J.hok, rv, q⟩
    | brk => obtain ⟨_, _, _, z⟩ := z; exact z.elim
    | cont => obtain ⟨_, _, _, z⟩ := z; exact z.elim
/-- THE RULE for a def: its body does g -/
theorem fn_vs {c : Ctx} {k : Nat} {f : Addr} {name qual : Str} {params : Arguments} {body : List Stmt} {dV kV doc pm cdv ct oc : Value} {an od : Option Addr} {osl : Array (Option Value)} {ps : List Str} {g : Act Flw}
    (lk : c.K.lookup f = some ⟨oc, od, .func (PySem.W.fnOf name qual params body c.sc dV kV doc pm an cdv ct), osl⟩) (hcd : PySem.W.codeIn c.K cdv qual = true) (Sc : FnScope c.N ps c.sc) (hl : c.lvl = k) (hnp : c.np = ps.length)
    (hb : VSs c body g) : FnG c.P c.w c.K c.mg c.base (CX c.P c.w) (k + 1) f (PySem.W.fnOf name qual params body c.sc dV kV doc pm an cdv ct) ps (spV c.toSta ps.length (runB c.N.length ps.length c.ro g)) := by
  refine ⟨fun vs H Q E ⟨w, args, ob, o, hl, en, _⟩ => by rw [en.len, hl], fun A outer s H args0 us vs Q E hg hr e0 hbt rv hsp => ?_⟩
  obtain ⟨w, args, ob, o, hal, en, ho, hq⟩ := hsp
  refine enter_def lk hcd Sc (by rw [en.len, hal]) hr e0 hbt rv fun X hX s1 I1 => ?_
  have hX := hX.symm
  have hOk : c.Ok X := by
    subst hX
    exact ⟨rfl, rfl, rfl, rfl, rfl, rfl, rfl, Sc.nd, rfl, by rw [hl]; exact hr.deeper _, hg, fun _ _ => rfl, passes_of rfl, qual, hcd⟩
  have hpl : ps.length ≤ c.N.length := by have := congrArg List.length Sc.pre; rw [List.length_take] at this; omega
  unfold runB at ho
  rw [hal] at ho
  split at ho
  · rename_i hcond
    have hst : start c.N vs = (vs.map some ++ List.replicate (c.N.length - vs.length) none) := rfl
    have R0 : Rel c.toSta c.n ⟨args.map some ++ List.replicate (c.N.length - ps.length) none, ob⟩ (start c.N vs) H w := by
      refine ⟨en.sub, en.nof, ?_, fun i s hs => ?_, en.obs, en.adk, fun a h => by rw [en.h0]; exact h, en.own0, fun i v _ h => ?_, fun i h => ?_⟩
      · show (args.map some ++ List.replicate (c.N.length - ps.length) none).length = c.N.length
        rw [List.length_append, List.length_map, List.length_replicate, hal]; omega
      · have hs : (args.map some ++ List.replicate (c.N.length - ps.length) (none : Option Slot))[i]? = some (some s) := hs
        by_cases hi : i < args.length
        · rw [List.getElem?_append_left (by simpa using hi), List.getElem?_map] at hs
          cases q : args[i]? with
          | none => rw [q] at hs; cases hs
          | some s' =>
            rw [q] at hs
            cases hs
            obtain ⟨v, h1, h2⟩ := en.arg i s q
            refine ⟨v, ?_, h2⟩
            rw [hst, List.getElem?_append_left (by rw [List.length_map, en.len]; exact hi), List.getElem?_map, h1]
            rfl
        · rw [List.getElem?_append_right (by simpa using hi), List.getElem?_replicate] at hs
          split at hs <;> cases hs
      · rw [en.as] at h
        have hi : i < vs.length := (List.getElem?_eq_some_iff.mp h).1
        rw [hst, List.getElem?_append_left (by simpa using hi), List.getElem?_map, h]
        rfl
      · rw [en.as]
        refine List.getElem?_eq_none ?_
        rw [en.len, hal, ← hnp]
        exact h
    have relx : ∀ {ς' : St} {σ' : L2.St} {H' : Hp} {w' : W} {outs : List Slot}, Fr w H w' H' → Rel c.toSta c.n ς' σ' H' w' → outsO ς' args 0 = some outs → RelX c.toSta w' vs H' outs ς'.ob := fun {ς' σ' H' w' outs} F R q =>
      ⟨R.sub, R.nof, R.own0, by
        have := outs_ok R F c.ro rfl (by rw [F.as, en.as]) args 0 outs hcond.2 (fun i s h => by simpa using en.arg i s h) q
        intro i s h
        simpa using this i s h, R.obs, R.adk⟩
    cases hg : g ⟨args.map some ++ List.replicate (c.N.length - ps.length) none, ob⟩ with
    | none => rw [hg] at ho; cases ho
    | some o1 =>
      rw [hg] at ho
      have run : XT c X w H o1 → wpAny (model X.prog X.w) X.A (execs body X.env) (NS c X [] w H o1) X.xe s1 := fun T => hb X hOk [] s1 (start c.N vs) H w _ o1 hg I1 R0 T
      cases o1 with
      | ex x ς' =>
        simp only at ho
        cases q : outsO ς' args 0 with
        | none => rw [q] at ho; cases ho
        | some outs =>
          rw [q] at ho
          cases ho
          refine wpAny_mono (run ?_) (fun fl s2 z => by cases fl <;> exact z.elim) fun _ _ z => z
          have tk : Takes X (fun cls d _ H => E cls d H) := by subst hX; exact takes_of rfl rfl rfl rfl
          exact Takes.imp tk fun cls d σ' H' ⟨w', F', R', e'⟩ => hq cls d H' w' F' (relx F' R' q) e'
      | ok fl ς' =>
        refine wpAny_mono (run trivial) (fun u s2 z => ?_) fun _ _ z => z
        cases fl with
        | nx =>
          simp only at ho
          cases q : outsO ς' args 0 with
          | none => rw [q] at ho; cases ho
          | some outs =>
            rw [q] at ho
            cases ho
            cases u <;> first | exact z.elim | skip
            obtain ⟨σ', H', w', I', F', R'⟩ := z
            exact ⟨σ', H', I', hq .non H' w' F' (relx F' R' q) .non⟩
        | rt r =>
          simp only at ho
          cases q : outsO ς' args 0 with
          | none => rw [q] at ho; cases ho
          | some outs =>
            rw [q] at ho
            cases ho
            cases u <;> first | exact z.elim | skip
            obtain ⟨v, σ', H', w', I', rv, F', R', ro⟩ := z
            exact ⟨v, σ', H', I', rv, hq v H' w' F' (relx F' R' q) ro⟩
        | bk => cases ho
        | ct => cases ho
  · cases ho
end VS

namespace VS
open PySem L2 PyProof.Rows

/-! ### calls of defs -/
/-- the arguments: those that the def may change stay names, all others are shared -/
def settleIO (ς : St) : List Bool → List ER → Option (List ER × St)
  | _, [] => some ([], ς)
  | io, r :: rs => match (if io.headD false = true then (match r with | .sl j => some (ER.sl j, ς) | .tp d => some (ER.tp d, ς) | r => (settle ς r).map fun p => (ER.fr p.1, p.2)) else (settle ς r).map fun p => (ER.fr p.1, p.2)) with
    | none => none
    | some (r', ς1) => (settleIO ς1 io.tail rs).map fun p => (r' :: p.1, p.2)
def argO (ς : St) : ER → Option Slot
  | .fr d => some (.fr d)
  | .sl j => match ς.sl[j]? with
    | some (some s) => some s
    | _ => none
  | .tp d => some (.ow d)
def argsO (ς : St) : List ER → Option (List Slot)
  | [] => some []
  | r :: rs => match argO ς r, argsO ς rs with
    | some s, some ss => some (s :: ss)
    | _, _ => none
def slots : List ER → List Nat
  | [] => []
  | .sl j :: rs => j :: slots rs
  | _ :: rs => slots rs
/-- behind the call the names have what stands under the parameters -/
def putBack (ς : St) : List ER → List Slot → St
  | .sl j :: rs, s :: ss => putBack (ς.set j (some s)) rs ss
  | _ :: rs, _ :: ss => putBack ς rs ss
  | _, _ => ς
def frOk : List Slot → List Slot → Bool
  | [], [] => true
  | .fr _ :: as, .fr _ :: os => frOk as os
  | .fr _ :: _, .ow _ :: _ => false
  | .ow _ :: as, _ :: os => frOk as os
  | _, _ => false
theorem frOk_len : ∀ {as os : List Slot}, frOk as os = true → os.length = as.length
  | [], [], _ => rfl
  | .fr _ :: as, .fr _ :: os, h => by simp [frOk_len (as := as) (os := os) h]
  | .fr _ :: _, .ow _ :: _, h => by cases h
  | .ow _ :: as, .fr _ :: os, h => by simp [frOk_len (as := as) (os := os) h]
  | .ow _ :: as, .ow _ :: os, h => by simp [frOk_len (as := as) (os := os) h]
  | [], _ :: _, h => by cases h
  | .fr _ :: _, [], h => by cases h
  | .ow _ :: _, [], h => by cases h
theorem frOk_at : ∀ {as os : List Slot} {i : Nat} {d : Dat}, frOk as os = true → as[i]? = some (.fr d) → ∀ s, os[i]? = some s → ∃ d', s = .fr d'
  | [], _, _, _, _, e, _, _ => by simp at e
  | .fr _ :: as, .fr d' :: os, 0, _, h, e, s, e2 => by simp at e2; exact ⟨d', e2.symm⟩
  | .fr _ :: as, .fr _ :: os, i + 1, _, h, e, s, e2 => frOk_at (as := as) (os := os) (i := i) h (by simpa using e) s (by simpa using e2)
  | .fr _ :: _, .ow _ :: _, _, _, h, _, _, _ => by cases h
  | .ow _ :: as, .fr _ :: os, i + 1, _, h, e, s, e2 => frOk_at (as := as) (os := os) (i := i) h (by simpa using e) s (by simpa using e2)
  | .ow _ :: as, .ow _ :: os, i + 1, _, h, e, s, e2 => frOk_at (as := as) (os := os) (i := i) h (by simpa using e) s (by simpa using e2)
  | .ow _ :: as, _, 0, _, h, e, s, e2 => by simp at e
  | .fr _ :: _, [], _, _, h, _, _, _ => by cases h
  | .ow _ :: _, [], _ + 1, _, h, _, _, _ => by cases h
def passF (F : FD) (io : List Bool) (rs : List ER) : Act ER := fun ς => match settleIO ς io rs with
  | none => none
  | some (rs', ς1) => match argsO ς1 rs' with
    | none => none
    | some args => if (slots rs').Nodup then match F args ς1.ob with
        | none => none
        | some (.ok r outs ob) => if frOk args outs = true then some (.ok r (putBack { ς1 with ob := ob } rs' outs)) else none
        | some (.ex x outs ob) => if frOk args outs = true then some (.ex x (putBack { ς1 with ob := ob } rs' outs)) else none
      else none
section
variable {S : Sta} {n : Shp} {ς ς' : St} {σ : L2.St} {H H' Hs : Hp} {w w0 w' : W} {v : V} {d : Dat} {r : ER} {vs : List V} {rs : List ER}
theorem settleIO_ok : ∀ {io : List Bool} {rs : List ER} {vs : List V} {w : W} {ς ς' : St} {rs' : List ER}, Fr w0 Hs w H → Rel S n ς σ H w → ResOks S w Hs H σ vs rs → settleIO ς io rs = some (rs', ς') →
    ∃ w', Fr w0 Hs w' H ∧ Rel S n ς' σ H w' ∧ ResOks S w' Hs H σ vs rs' ∧ (∀ p ∈ vs.zip rs', ∀ a ∈ tpAd p.1 p.2, ∃ q ∈ vs.zip rs, a ∈ tpAd q.1 q.2) ∧ (∀ u q, ResOk S w Hs H σ u q → (∀ a ∈ tpAd u q, ∀ p ∈ vs.zip rs, a ∉ tpAd p.1 p.2) → ResOk S w' Hs H σ u q)
  | _, _, _, w, _, _, _, F, R, .nil, e => by
    unfold settleIO at e
    cases e
    exact ⟨w, F, R, .nil, fun p h => by simp at h, fun _ _ h _ => h⟩
  | io, r :: rs, v :: vs, w, ς, ς', rs', F, R, .cons h t q, e => by
    unfold settleIO at e
    have fin : ∀ {d : Dat} {ς1 : St}, settle ς r = some (d, ς1) → (settleIO ς1 io.tail rs).map (fun p => (ER.fr d :: p.1, p.2)) = some (rs', ς') → ∃ w', Fr w0 Hs w' H ∧ Rel S n ς' σ H w' ∧ ResOks S w' Hs H σ (v :: vs) rs' ∧ (∀ p ∈ (v :: vs).zip rs', ∀ a ∈ tpAd p.1 p.2, ∃ q ∈ (v :: vs).zip (r :: rs), a ∈ tpAd q.1 q.2) ∧ (∀ u q, ResOk S w Hs H σ u q → (∀ a ∈ tpAd u q, ∀ p ∈ (v :: vs).zip (r :: rs), a ∉ tpAd p.1 p.2) → ResOk S w' Hs H σ u q) := fun {d ς1} e1 e2 => by
      obtain ⟨w1, F1, R1, rp, x1, y1, k⟩ := settle_ok' F R h e1
      have k1 : ∀ u z, ResOk S w Hs H σ u z → (∀ a ∈ tpAd u z, a ∉ tpAd v r) → ResOk S w1 Hs H σ u z := fun u z hz hd => by
        have := k [u] [z] (.cons hz .nil fun a _ p hp => by simp at hp) (fun a ha p hp => by simp at hp; subst hp; intro m; exact hd a m ha)
        cases this with
        | cons h _ _ => exact h
      cases q2 : settleIO ς1 io.tail rs with
      | none => rw [q2] at e2; cases e2
      | some p =>
        rw [q2] at e2
        cases e2
        obtain ⟨w2, F2, R2, ros, dj, k2⟩ := settleIO_ok (ς' := p.2) (rs' := p.1) F1 R1 (k _ _ t q) q2
        have hr : ResOk S w1 Hs H σ v (.fr d) := rp
        have hz : ∀ a ∈ tpAd v (.fr d), False := fun a ha => by cases v <;> simp [tpAd] at ha
        refine ⟨w2, F2, R2, .cons (k2 v (.fr d) hr fun a ha => (hz a ha).elim) ros (fun a ha => (hz a ha).elim), fun p' hp' a ha => ?_, fun u q' hq hd => k2 u q' (k1 u q' hq fun a ha z => hd a ha (v, r) (by simp) z) fun a ha p' hp' z => hd a ha p' (by rw [List.zip_cons_cons]; exact List.mem_cons_of_mem _ hp') z⟩
        rw [List.zip_cons_cons] at hp'
        rcases List.mem_cons.mp hp' with rfl | hp'
        · exact (hz a ha).elim
        · obtain ⟨q', h1, h2⟩ := dj p' hp' a ha
          exact ⟨q', by rw [List.zip_cons_cons]; exact List.mem_cons_of_mem _ h1, h2⟩
    have keep : ∀ {p : List ER × St}, settleIO ς io.tail rs = some p → (r :: p.1, p.2) = (rs', ς') → ∃ w', Fr w0 Hs w' H ∧ Rel S n ς' σ H w' ∧ ResOks S w' Hs H σ (v :: vs) rs' ∧ (∀ p ∈ (v :: vs).zip rs', ∀ a ∈ tpAd p.1 p.2, ∃ q ∈ (v :: vs).zip (r :: rs), a ∈ tpAd q.1 q.2) ∧ (∀ u q, ResOk S w Hs H σ u q → (∀ a ∈ tpAd u q, ∀ p ∈ (v :: vs).zip (r :: rs), a ∉ tpAd p.1 p.2) → ResOk S w' Hs H σ u q) := fun {p} q2 e2 => by
      cases e2
      obtain ⟨w2, F2, R2, ros, dj, k2⟩ := settleIO_ok (ς' := p.2) (rs' := p.1) F R t q2
      refine ⟨w2, F2, R2, .cons (k2 v r h q) ros (fun a ha p' hp' z => ?_), fun p' hp' a ha => ?_, fun u q' hq hd => k2 u q' hq fun a ha p' hp' z => hd a ha p' (by rw [List.zip_cons_cons]; exact List.mem_cons_of_mem _ hp') z⟩
      · obtain ⟨q', h1, h2⟩ := dj p' hp' a z
        exact q a ha q' h1 h2
      · rw [List.zip_cons_cons] at hp'
        rcases List.mem_cons.mp hp' with rfl | hp'
        · exact ⟨(v, r), by simp, ha⟩
        · obtain ⟨q', h1, h2⟩ := dj p' hp' a ha
          exact ⟨q', by rw [List.zip_cons_cons]; exact List.mem_cons_of_mem _ h1, h2⟩
    split at e
    · cases e
    · rename_i r' ς1 e1
      split at e1
      · split at e1
        · cases e1
          cases q2 : settleIO ς io.tail rs with
          | none => rw [q2] at e; cases e
          | some p => rw [q2] at e; exact keep q2 (Option.some.inj e)
        · cases e1
          cases q2 : settleIO ς io.tail rs with
          | none => rw [q2] at e; cases e
          | some p => rw [q2] at e; exact keep q2 (Option.some.inj e)
        · cases q1 : settle ς r with
          | none => rw [q1] at e1; cases e1
          | some p => rw [q1] at e1; cases e1; exact fin q1 e
      · cases q1 : settle ς r with
        | none => rw [q1] at e1; cases e1
        | some p => rw [q1] at e1; cases e1; exact fin q1 e
/-- under which parameter a name's container is handed in -/
def pmap (ς : St) : List ER → Nat → Nat → Option Nat
  | [], _, _ => none
  | .sl j :: rs, i, k => if j = k then some i else pmap ς rs (i + 1) k
  | _ :: rs, i, k => pmap ς rs (i + 1) k
theorem pmap_some {ς : St} : ∀ {rs : List ER} {i k m : Nat}, pmap ς rs i k = some m → k ∈ slots rs
  | [], _, _, _, e => by cases e
  | .sl j :: rs, i, k, m, e => by
    unfold pmap at e
    split at e
    · rename_i h; subst h; simp [slots]
    · simp [slots, pmap_some e]
  | .fr d :: rs, i, k, m, e => by unfold pmap at e; simp [slots, pmap_some e]
  | .tp d :: rs, i, k, m, e => by unfold pmap at e; simp [slots, pmap_some e]
theorem pmap_none {ς : St} : ∀ {rs : List ER} {i k : Nat}, k ∉ slots rs → pmap ς rs i k = none := fun {rs i k} h => by
  cases q : pmap ς rs i k with
  | none => rfl
  | some m => exact absurd (pmap_some q) h
theorem pmap_at {ς : St} : ∀ {rs : List ER} {i k j : Nat}, (slots rs).Nodup → rs[j]? = some (.sl k) → pmap ς rs i k = some (i + j)
  | [], _, _, _, _, e => by simp at e
  | .sl l :: rs, i, k, 0, hn, e => by simp at e; subst e; simp [pmap]
  | .sl l :: rs, i, k, j + 1, hn, e => by
    have hn : (l :: slots rs).Nodup := hn
    rw [List.nodup_cons] at hn
    have e : rs[j]? = some (.sl k) := by simpa using e
    have hk : k ∈ slots rs := by
      have := pmap_at (ς := ς) (i := 0) hn.2 e
      exact pmap_some this
    have hne : l ≠ k := fun q => hn.1 (q ▸ hk)
    unfold pmap
    rw [if_neg hne, pmap_at hn.2 e]
    congr 1
    omega
  | .fr d :: rs, i, k, j, hn, e => by
    cases j with
    | zero => simp at e
    | succ j =>
      unfold pmap
      rw [pmap_at (rs := rs) (i := i + 1) (k := k) (j := j) hn (by simpa using e)]
      congr 1
      omega
  | .tp d :: rs, i, k, j, hn, e => by
    cases j with
    | zero => simp at e
    | succ j =>
      unfold pmap
      rw [pmap_at (rs := rs) (i := i + 1) (k := k) (j := j) hn (by simpa using e)]
      congr 1
      omega
/-- the callee's ghosts -/
def inW (w : W) (H : Hp) (vs : List V) (ς : St) (rs : List ER) : W where
  Hf := w.Hf
  own := fun b => match w.own b with
    | some (.slot j) => (pmap ς rs 0 j).map Loc.slot
    | x => x
  ads := w.ads
  H0 := H
  args := vs
/-- the caller's, behind the call -/
def outW (w wc : W) : W where
  Hf := wc.Hf
  own := fun b => match w.own b with
    | some (.slot j) => if (wc.Hf b).isNone = true then some (.slot j) else none
    | _ => match wc.own b with
      | some (.slot _) => none
      | x => x
  ads := wc.ads
  H0 := w.H0
  args := w.args
theorem argsO_get {ς : St} : ∀ {rs : List ER} {args : List Slot} {i : Nat} {s : Slot}, argsO ς rs = some args → args[i]? = some s → ∃ r, rs[i]? = some r ∧ argO ς r = some s
  | [], args, i, s, e, q => by cases e; simp at q
  | r :: rs, args, i, s, e, q => by
    unfold argsO at e
    split at e
    · rename_i s0 ss e1 e2
      cases e
      cases i with
      | zero => simp at q; subst q; exact ⟨r, rfl, e1⟩
      | succ i =>
        obtain ⟨r', h1, h2⟩ := argsO_get (i := i) e2 (by simpa using q)
        exact ⟨r', by simpa using h1, h2⟩
    · cases e
theorem argsO_len {ς : St} : ∀ {rs : List ER} {args : List Slot}, argsO ς rs = some args → args.length = rs.length
  | [], args, e => by cases e; rfl
  | r :: rs, args, e => by
    unfold argsO at e
    split at e
    · rename_i s0 ss e1 e2
      cases e
      simp [argsO_len e2]
    · cases e
theorem ResOks.get {w : W} {Hs H : Hp} : ∀ {vs : List V} {rs : List ER} {i : Nat} {r : ER}, ResOks S w Hs H σ vs rs → rs[i]? = some r → ∃ v, vs[i]? = some v ∧ ResOk S w Hs H σ v r
  | _, _, _, _, .nil, e => by simp at e
  | _, _, 0, _, .cons h _ _, e => by simp at e; subst e; exact ⟨_, rfl, h⟩
  | _, _, i + 1, _, .cons _ t _, e => by
    obtain ⟨v, h1, h2⟩ := ResOks.get (i := i) t (by simpa using e)
    exact ⟨v, by simpa using h1, h2⟩
theorem in_entry {ς : St} {w : W} {args : List Slot} (R : Rel S n ς σ H w) (ros : ResOks S w Hs H σ vs rs) (e : argsO ς rs = some args) (hn : (slots rs).Nodup) (nt : ∀ r ∈ rs, ∀ d, r ≠ .tp d) : Entry S (inW w H vs ς rs) vs H args ς.ob := by
  refine ⟨R.sub, fun a o h => ?_, fun a h => ?_, rfl, rfl, by rw [ros.length, argsO_len e], fun i s q => ?_, fun k ov h => ?_, R.adk⟩
  · show (match w.own a with | some (.slot j) => (pmap ς rs 0 j).map Loc.slot | x => x) = none
    rw [R.nof a o h]
  · show (match w.own a with | some (.slot j) => (pmap ς rs 0 j).map Loc.slot | x => x) = none
    rw [R.own0 a h]
  · obtain ⟨r, h1, h2⟩ := argsO_get e q
    obtain ⟨v, h3, h4⟩ := ros.get h1
    refine ⟨v, h3, ?_⟩
    cases r with
    | fr d => cases h2; exact h4
    | tp d => exact absurd rfl (nt _ (List.mem_of_getElem? h1) d)
    | sl j =>
      have h2 : (match ς.sl[j]? with | some (some s) => some s | _ => none) = some s := h2
      split at h2
      · rename_i s0 hs0
        cases h2
        obtain ⟨v', h5, h6⟩ := R.slots j _ hs0
        have h4 : σ[j]? = some (some v) := h4
        rw [h4] at h5; cases h5
        cases s with
        | fr d => exact h6
        | ow d =>
          obtain ⟨a, e1, e2, e3, e4, e5⟩ := h6
          refine ⟨a, e1, ?_, e3, e4, .inr h3⟩
          show (match w.own a with | some (.slot j) => (pmap ς rs 0 j).map Loc.slot | x => x) = _
          rw [e2]
          simp only
          rw [pmap_at hn h1]
          simp
      · cases h2
  · obtain ⟨a, C, dx, fs, q1, q2, q3, q4, q5, q6, q7⟩ := (R.obs k ov h).ex
    refine ⟨a, C, dx, fs, q1, q2, ?_, q4, q5, q6, fun i f v s e1 e2 => ?_⟩
    · show (match w.own a with | some (.slot j) => (pmap ς rs 0 j).map Loc.slot | x => x) = _
      rw [q3]
    · have h7 := q7 i f v s e1 e2
      cases s with
      | fr d => exact h7
      | ow d =>
        obtain ⟨b, e1, e2, e3, e4, e5⟩ := h7
        refine ⟨b, e1, ?_, e3, e4, trivial⟩
        show (match w.own b with | some (.slot j) => (pmap ς rs 0 j).map Loc.slot | x => x) = _
        rw [e2]

theorem putBack_len : ∀ (rs : List ER) (ss : List Slot) (ς : St), (putBack ς rs ss).sl.length = ς.sl.length
  | [], _, ς => by unfold putBack; rfl
  | .sl j :: rs, s :: ss, ς => by unfold putBack; rw [putBack_len rs ss, St.set_len]
  | .sl j :: rs, [], ς => by unfold putBack; rfl
  | .fr d :: rs, s :: ss, ς => by unfold putBack; rw [putBack_len rs ss]
  | .fr d :: rs, [], ς => by unfold putBack; rfl
  | .tp d :: rs, s :: ss, ς => by unfold putBack; rw [putBack_len rs ss]
  | .tp d :: rs, [], ς => by unfold putBack; rfl
theorem putBack_ob : ∀ (rs : List ER) (ss : List Slot) (ς : St), (putBack ς rs ss).ob = ς.ob
  | [], _, ς => by unfold putBack; rfl
  | .sl j :: rs, s :: ss, ς => by unfold putBack; rw [putBack_ob rs ss]; rfl
  | .sl j :: rs, [], ς => by unfold putBack; rfl
  | .fr d :: rs, s :: ss, ς => by unfold putBack; rw [putBack_ob rs ss]
  | .fr d :: rs, [], ς => by unfold putBack; rfl
  | .tp d :: rs, s :: ss, ς => by unfold putBack; rw [putBack_ob rs ss]
  | .tp d :: rs, [], ς => by unfold putBack; rfl
/-- a name behind the call: as it was, or what stands under its parameter -/
theorem putBack_get : ∀ (rs : List ER) (ss : List Slot) (ς : St) (k : Nat) (x : Slot), (putBack ς rs ss).sl[k]? = some (some x) → (slots rs).Nodup → ss.length = rs.length →
    (k ∉ slots rs ∧ ς.sl[k]? = some (some x)) ∨ ∃ i : Nat, rs[i]? = some (ER.sl k) ∧ ss[i]? = some x
  | [], ss, ς, k, x, e, hn, hl => by
    unfold putBack at e
    exact .inl ⟨by simp [slots], e⟩
  | .sl j :: rs, s :: ss, ς, k, x, e, hn, hl => by
    unfold putBack at e
    have hn : (j :: slots rs).Nodup := hn
    rw [List.nodup_cons] at hn
    rcases putBack_get rs ss (ς.set j (some s)) k x e hn.2 (by simpa using hl) with ⟨h1, h2⟩ | ⟨i, h1, h2⟩
    · by_cases hk : j = k
      · subst hk
        have hj : j < ς.sl.length := by
          have := (List.getElem?_eq_some_iff.mp h2).1
          rw [St.set_len] at this
          exact this
        have h2 : (ς.sl.set j (some s))[j]? = some (some x) := h2
        rw [List.getElem?_set_self hj] at h2
        cases h2
        exact .inr ⟨0, rfl, rfl⟩
      · rw [St.set_ne hk] at h2
        refine .inl ⟨?_, h2⟩
        show k ∉ j :: slots rs
        intro z
        rcases List.mem_cons.mp z with z | z
        · exact hk z.symm
        · exact h1 z
    · exact .inr ⟨i + 1, by simpa using h1, by simpa using h2⟩
  | .fr d :: rs, s :: ss, ς, k, x, e, hn, hl => by
    unfold putBack at e
    rcases putBack_get rs ss ς k x e hn (by simpa using hl) with h | ⟨i, h1, h2⟩
    · exact .inl h
    · exact .inr ⟨i + 1, by simpa using h1, by simpa using h2⟩
  | .tp d :: rs, s :: ss, ς, k, x, e, hn, hl => by
    unfold putBack at e
    rcases putBack_get rs ss ς k x e hn (by simpa using hl) with h | ⟨i, h1, h2⟩
    · exact .inl h
    · exact .inr ⟨i + 1, by simpa using h1, by simpa using h2⟩
  | .sl j :: rs, [], ς, k, x, e, hn, hl => by simp at hl
  | .fr d :: rs, [], ς, k, x, e, hn, hl => by simp at hl
  | .tp d :: rs, [], ς, k, x, e, hn, hl => by simp at hl
/-- behind the call -/
theorem out_rel {ς : St} {w wc : W} {outs args : List Slot} {ob : List OVal} (R : Rel S n ς σ H w) (ros : ResOks S w Hs H σ vs rs) (ea : argsO ς rs = some args) (hn : (slots rs).Nodup) (hl : outs.length = rs.length)
    (F : Fr (inW w H vs ς rs) H wc H') (RX : RelX S wc vs H' outs ob) (hsame : ∀ (i : Nat) (d : Dat), args[i]? = some (Slot.fr d) → ∀ s, outs[i]? = some s → ∃ d', s = Slot.fr d') : Fr w H (outW w wc) H' ∧ Rel S n (putBack { ς with ob := ob } rs outs) σ H' (outW w wc) := by
  have ownIn : ∀ b, w.own b = none → (inW w H vs ς rs).own b = none := fun b h => by
    show (match w.own b with | some (.slot j) => (pmap ς rs 0 j).map Loc.slot | x => x) = none
    rw [h]
  have ownOut : ∀ b, w.own b = none → wc.own b = none → (outW w wc).own b = none := fun b h1 h2 => by
    show (match w.own b with | some (.slot j) => if (wc.Hf b).isNone = true then some (Loc.slot j) else none | _ => match wc.own b with | some (.slot _) => none | x => x) = none
    rw [h1, h2]
  have there : ∀ {b o}, H b = some o → ∃ o', H' b = some o' := fun {b o} h => by
    cases q : H' b with
    | some o' => exact ⟨o', rfl⟩
    | none => rw [F.dm b q] at h; cases h
  have other : ∀ {b : Addr} {l : Loc} {o : HO}, H b = some o → wc.own b = some l → (∀ i, l ≠ .slot i) → w.own b = some l := fun {b l o} hb h hl => by
    cases q : w.own b with
    | none =>
      have := (F.kp b o hb (ownIn b q)).2
      rw [h] at this; cases this
    | some l' =>
      have hin : ∀ x, (inW w H vs ς rs).own b = some x → x = l := fun x hx => by
        rcases F.ow b x o hb hx with z | z
        · rw [h] at z; exact (Option.some.inj z).symm
        · rw [h] at z; cases z
      cases l' with
      | slot j =>
        have hi : (inW w H vs ς rs).own b = (pmap ς rs 0 j).map Loc.slot := by
          show (match w.own b with | some (.slot j) => (pmap ς rs 0 j).map Loc.slot | x => x) = _
          rw [q]
        cases q2 : pmap ς rs 0 j with
        | none =>
          rw [q2] at hi
          have := (F.kp b o hb hi).2
          rw [h] at this; cases this
        | some m =>
          rw [q2] at hi
          exact absurd (hin _ hi).symm (hl m)
      | fld k f =>
        have hi : (inW w H vs ς rs).own b = some (.fld k f) := by
          show (match w.own b with | some (.slot j) => (pmap ς rs 0 j).map Loc.slot | x => x) = _
          rw [q]
        rw [hin _ hi]
      | obj k =>
        have hi : (inW w H vs ς rs).own b = some (.obj k) := by
          show (match w.own b with | some (.slot j) => (pmap ς rs 0 j).map Loc.slot | x => x) = _
          rw [q]
        rw [hin _ hi]
  refine ⟨⟨F.hf, F.ad, fun b o h1 h2 => ⟨(F.kp b o h1 (ownIn b h2)).1, ownOut b h2 (F.kp b o h1 (ownIn b h2)).2⟩, fun b o h1 h2 h3 => F.nf b o h1 (ownIn b h2) h3, F.dm, rfl, rfl, fun b l o h1 h2 => ?_⟩, ?_⟩
  · show (match w.own b with | some (.slot j) => if (wc.Hf b).isNone = true then some (Loc.slot j) else none | _ => match wc.own b with | some (.slot _) => none | x => x) = some l ∨ (match w.own b with | some (.slot j) => if (wc.Hf b).isNone = true then some (Loc.slot j) else none | _ => match wc.own b with | some (.slot _) => none | x => x) = none
    rw [h2]
    cases l with
    | slot j =>
      simp only
      split
      · exact .inl rfl
      · exact .inr rfl
    | fld k f =>
      have hi : (inW w H vs ς rs).own b = some (.fld k f) := by
        show (match w.own b with | some (.slot j) => (pmap ς rs 0 j).map Loc.slot | x => x) = _
        rw [h2]
      simp only
      rcases F.ow b _ o h1 hi with z | z <;> rw [z]
      · exact .inl rfl
      · exact .inr rfl
    | obj k =>
      have hi : (inW w H vs ς rs).own b = some (.obj k) := by
        show (match w.own b with | some (.slot j) => (pmap ς rs 0 j).map Loc.slot | x => x) = _
        rw [h2]
      simp only
      rcases F.ow b _ o h1 hi with z | z <;> rw [z]
      · exact .inl rfl
      · exact .inr rfl
  · have keepOwn : ∀ {b : Addr} {j : Nat}, w.own b = some (.slot j) → wc.Hf b = none → (outW w wc).own b = some (.slot j) := fun {b j} h1 h2 => by
      show (match w.own b with | some (.slot j) => if (wc.Hf b).isNone = true then some (Loc.slot j) else none | _ => match wc.own b with | some (.slot _) => none | x => x) = _
      rw [h1]
      simp [h2]
    have newOwn : ∀ {b : Addr} {l : Loc} {o : HO}, wc.own b = some l → (∀ i, l ≠ .slot i) → (outW w wc).own b = some l := fun {b l o} h hl => by
      show (match w.own b with | some (.slot j) => if (wc.Hf b).isNone = true then some (Loc.slot j) else none | _ => match wc.own b with | some (.slot _) => none | x => x) = _
      have hw : ∀ j, w.own b ≠ some (.slot j) := fun j hj => by
        cases q : H b with
        | none => rw [R.own0 b q] at hj; cases hj
        | some o =>
          have := other q h hl
          rw [hj] at this
          exact hl j (Option.some.inj this).symm
      cases q : w.own b with
      | none =>
        simp only [h]
        cases l with
        | slot i => exact absurd rfl (hl i)
        | _ => rfl
      | some l' =>
        cases l' with
        | slot j => exact absurd q (hw j)
        | _ =>
          simp only [h]
          cases l with
          | slot i => exact absurd rfl (hl i)
          | _ => rfl
    refine ⟨RX.sub, fun a o h => ?_, by rw [putBack_len]; exact R.len, fun k s e => ?_, fun k ov h => ?_, fun k a h => ?_, fun a h => R.dom a (F.dm a h), fun a h => ?_, R.arg, R.arl⟩
    · have hf : wc.Hf a = some o := h
      show (match w.own a with | some (.slot j) => if (wc.Hf a).isNone = true then some (Loc.slot j) else none | _ => match wc.own a with | some (.slot _) => none | x => x) = none
      split
      · rw [hf]; rfl
      · rw [RX.nof a o hf]
    · rcases putBack_get rs outs { ς with ob := ob } k s e hn hl with ⟨h1, h2⟩ | ⟨i, h1, h2⟩
      · have h2 : ς.sl[k]? = some (some s) := h2
        obtain ⟨v, h3, h4⟩ := R.slots k s h2
        refine ⟨v, h3, ?_⟩
        cases s with
        | fr d => exact Rep.mono F.hf F.ad h4
        | ow d =>
          obtain ⟨a, e1, e2, e3, e4, e5⟩ := h4
          obtain ⟨o, ho⟩ := e4.there
          have hin : (inW w H vs ς rs).own a = none := by
            show (match w.own a with | some (.slot j) => (pmap ς rs 0 j).map Loc.slot | x => x) = none
            rw [e2]
            simp only
            rw [pmap_none h1]
            rfl
          obtain ⟨p, q⟩ := F.kp a o ho hin
          have nf := F.nf a o ho hin e3
          exact ⟨a, e1, keepOwn e2 nf, nf, e4.mono F.hf F.ad (p.trans ho.symm), e5⟩
      · obtain ⟨v, h3, h4⟩ := RX.arg i s h2
        obtain ⟨v', h5, h6⟩ := ros.get h1
        rw [h3] at h5
        cases h5
        have h6 : σ[k]? = some (some v) := h6
        refine ⟨v, h6, ?_⟩
        cases s with
        | fr d => exact h4
        | ow d =>
          obtain ⟨a, e1, e2, e3, e4, e5⟩ := h4
          -- what was handed in was a container of the name's own
          have hlen := argsO_len ea
          have hi : i < args.length := by rw [hlen]; exact (List.getElem?_eq_some_iff.mp h1).1
          obtain ⟨sa, hsa⟩ : ∃ sa, args[i]? = some sa := ⟨args[i], List.getElem?_eq_getElem hi⟩
          cases sa with
          | fr d0 =>
            obtain ⟨d', z⟩ := hsame i d0 hsa _ h2
            cases z
          | ow d0 =>
            obtain ⟨r0, g1, g2⟩ := argsO_get ea hsa
            rw [h1] at g1
            cases g1
            have g2 : (match ς.sl[k]? with | some (some s) => some s | _ => none) = some (Slot.ow d0) := g2
            split at g2
            · rename_i s0 hs0
              cases g2
              obtain ⟨v2, g3, b, g4, g5, g6, g7, g8⟩ := R.slots k _ hs0
              rw [h6] at g3
              cases g3
              rw [e1] at g4
              cases g4
              exact ⟨a, e1, keepOwn g5 e3, e3, e4, g8⟩
            · cases g2
    · rw [putBack_ob] at h
      obtain ⟨a, C, dx, fs, q1, q2, q3, q4, q5, q6, q7⟩ := (RX.obs k ov h).ex
      refine ⟨a, C, dx, fs, q1, q2, newOwn (o := .own a) q3 (fun i z => by cases z), q4, q5, q6, fun i f v s e1 e2 => ?_⟩
      have h7 := q7 i f v s e1 e2
      cases s with
      | fr d => exact h7
      | ow d =>
        obtain ⟨b, e1, e2, e3, e4, e5⟩ := h7
        exact ⟨b, e1, newOwn (o := .own a) e2 (fun i z => by cases z), e3, e4, trivial⟩
    · rw [putBack_ob]
      exact RX.adk k a h
    · have h1 := R.own0 a (F.dm a h)
      exact ownOut a h1 (RX.own0 a h)

/-! ### new containers handed in: as if they stood under names of their own, behind all names -/
def phR : List ER → Nat → List ER
  | [], _ => []
  | .tp _ :: rs, k => .sl k :: phR rs (k + 1)
  | r :: rs, k => r :: phR rs (k + 1)
def phS : List ER → List (Option Slot)
  | [] => []
  | .tp d :: rs => some (.ow d) :: phS rs
  | _ :: rs => none :: phS rs
def tpIx : List V → List ER → Nat → Addr → Option Nat
  | .ref a :: vs, .tp _ :: rs, k, b => if a = b then some k else tpIx vs rs (k + 1) b
  | _ :: vs, _ :: rs, k, b => tpIx vs rs (k + 1) b
  | _, _, _, _ => none
def phW (w : W) (vs : List V) (rs : List ER) (k : Nat) : W := { w with own := fun b => match tpIx vs rs k b with
  | some i => some (.slot i)
  | none => w.own b }
theorem phR_len : ∀ (rs : List ER) (k : Nat), (phR rs k).length = rs.length
  | [], _ => rfl
  | .tp _ :: rs, k => by simp [phR, phR_len rs]
  | .sl _ :: rs, k => by simp [phR, phR_len rs]
  | .fr _ :: rs, k => by simp [phR, phR_len rs]
theorem phS_len : ∀ (rs : List ER), (phS rs).length = rs.length
  | [] => rfl
  | .tp _ :: rs => by simp [phS, phS_len rs]
  | .sl _ :: rs => by simp [phS, phS_len rs]
  | .fr _ :: rs => by simp [phS, phS_len rs]
theorem phS_get : ∀ {rs : List ER} {i : Nat} {s : Slot}, (phS rs)[i]? = some (some s) → ∃ d, s = .ow d ∧ rs[i]? = some (.tp d)
  | [], i, s, e => by simp [phS] at e
  | .tp d :: rs, 0, s, e => by simp [phS] at e; exact ⟨d, e.symm, rfl⟩
  | .tp d :: rs, i + 1, s, e => by obtain ⟨d', h1, h2⟩ := phS_get (rs := rs) (i := i) (by simpa [phS] using e); exact ⟨d', h1, by simpa using h2⟩
  | .sl _ :: rs, 0, s, e => by simp [phS] at e
  | .sl _ :: rs, i + 1, s, e => by obtain ⟨d', h1, h2⟩ := phS_get (rs := rs) (i := i) (by simpa [phS] using e); exact ⟨d', h1, by simpa using h2⟩
  | .fr _ :: rs, 0, s, e => by simp [phS] at e
  | .fr _ :: rs, i + 1, s, e => by obtain ⟨d', h1, h2⟩ := phS_get (rs := rs) (i := i) (by simpa [phS] using e); exact ⟨d', h1, by simpa using h2⟩
/-- who has a phantom name is one of the new ones -/
theorem tpIx_some {Hs H : Hp} : ∀ {vs : List V} {rs : List ER} {k i : Nat} {b : Addr}, ResOks S w Hs H σ vs rs → tpIx vs rs k b = some i → Hs b = none ∧ w.own b = none ∧ w.Hf b = none ∧ ∃ d, OwnC S w.Hf w.ads H b d
  | _, _, _, _, _, .nil, e => by cases e
  | v :: vs, r :: rs, k, i, b, .cons h t _, e => by
    have go : tpIx vs rs (k + 1) b = some i → Hs b = none ∧ w.own b = none ∧ w.Hf b = none ∧ ∃ d, OwnC S w.Hf w.ads H b d := fun e => tpIx_some t e
    cases r with
    | fr d => cases v <;> exact go e
    | sl j => cases v <;> exact go e
    | tp d =>
      obtain ⟨a, rfl, h1, h2, h3, h4⟩ := h
      have e : (if a = b then some k else tpIx vs rs (k + 1) b) = some i := e
      split at e
      · rename_i hab
        subst hab
        exact ⟨h1, h2, h3, d, h4⟩
      · exact go e
theorem tpIx_at {Hs H : Hp} : ∀ {vs : List V} {rs : List ER} {k i : Nat} {b : Addr} {d : Dat}, ResOks S w Hs H σ vs rs → vs[i]? = some (.ref b) → rs[i]? = some (.tp d) → tpIx vs rs k b = some (k + i)
  | _, _, _, _, _, _, .nil, e, _ => by simp at e
  | v :: vs, r :: rs, k, 0, b, d, .cons h t q, e, e2 => by
    simp at e e2
    subst e; subst e2
    show (if b = b then some k else _) = _
    rw [if_pos rfl]; rfl
  | v :: vs, r :: rs, k, i + 1, b, d, .cons h t q, e, e2 => by
    have e : vs[i]? = some (.ref b) := by simpa using e
    have e2 : rs[i]? = some (.tp d) := by simpa using e2
    have ih := tpIx_at (k := k + 1) t e e2
    rw [show k + (i + 1) = k + 1 + i by omega, ← ih]
    cases r with
    | fr d => cases v <;> rfl
    | sl j => cases v <;> rfl
    | tp d' =>
      obtain ⟨a, rfl, _⟩ := h
      show (if a = b then some k else tpIx vs rs (k + 1) b) = _
      have hm : (V.ref b, ER.tp d) ∈ vs.zip rs := by
        rw [List.mem_iff_getElem?]
        exact ⟨i, by rw [List.getElem?_zip_eq_some]; exact ⟨e, e2⟩⟩
      have hne : a ≠ b := fun z => q a (by simp [tpAd]) _ hm (by simp [tpAd, z])
      rw [if_neg hne]
def phT (ς : St) (N : Nat) (rs : List ER) : St := ⟨ς.sl ++ phS rs, ς.ob⟩
def phV (σ : L2.St) (N : Nat) (vs : List V) : L2.St := ((List.range N).map fun i => (σ[i]?).join) ++ vs.map some
theorem phV_lo {σ : L2.St} {N i : Nat} {vs : List V} (h : i < N) : (phV σ N vs)[i]? = some (σ[i]?).join := by
  unfold phV
  rw [List.getElem?_append_left (by simpa using h)]
  simp [h]
theorem phV_hi {σ : L2.St} {N i : Nat} {vs : List V} : (phV σ N vs)[N + i]? = vs[i]?.map some := by
  unfold phV
  rw [List.getElem?_append_right (by simp)]
  simp
theorem join_some {α : Type} {x : Option (Option α)} {v : α} (h : x.join = some v) : x = some (some v) := by
  cases x with
  | none => cases h
  | some y => exact congrArg some h
/-- the state with phantom names -/
theorem phantom_rel (R : Rel S n ς σ H w) (ros : ResOks S w Hs H σ vs rs) (hd : ∀ a, Hs a = none → w.H0 a = none) : Rel S ⟨n.n + rs.length, fun i => decide (i < n.n) && n.ro i, n.np⟩ (phT ς n.n rs) (phV σ n.n vs) H (phW w vs rs n.n) := by
  have own0 : ∀ {a l}, w.own a = some l → tpIx vs rs n.n a = none := fun {a l} h => by
    cases q : tpIx vs rs n.n a with
    | none => rfl
    | some i => rw [(tpIx_some ros q).2.1] at h; cases h
  have ownE : ∀ {a l}, w.own a = some l → (phW w vs rs n.n).own a = some l := fun {a l} h => by
    show (match tpIx vs rs n.n a with | some i => some (Loc.slot i) | none => w.own a) = _
    rw [own0 h]; exact h
  refine ⟨R.sub, fun a o h => ?_, by show (ς.sl ++ phS rs).length = _; rw [List.length_append, R.len, phS_len], fun i s e => ?_, fun k o h => ?_, R.adk, R.dom, fun a h => ?_, fun i v hr ha => ?_, R.arl⟩
  · show (match tpIx vs rs n.n a with | some i => some (Loc.slot i) | none => w.own a) = none
    cases q : tpIx vs rs n.n a with
    | none => exact R.nof a o h
    | some i =>
      have h : w.Hf a = some o := h
      rw [(tpIx_some ros q).2.2.1] at h; cases h
  · have e : (ς.sl ++ phS rs)[i]? = some (some s) := e
    by_cases hi : i < n.n
    · rw [List.getElem?_append_left (by rw [R.len]; exact hi)] at e
      obtain ⟨v, h1, h2⟩ := R.slots i s e
      refine ⟨v, by rw [phV_lo hi, h1]; rfl, ?_⟩
      cases s with
      | fr d => exact h2
      | ow d =>
        obtain ⟨a, e1, e2, e3, e4, e5⟩ := h2
        exact ⟨a, e1, ownE e2, e3, e4, e5⟩
    · rw [List.getElem?_append_right (by rw [R.len]; omega), R.len] at e
      obtain ⟨d, rfl, h2⟩ := phS_get e
      obtain ⟨v, h3, h4⟩ := ros.get h2
      obtain ⟨a, rfl, g1, g2, g3, g4⟩ := h4
      have hin : n.n + (i - n.n) = i := by omega
      refine ⟨.ref a, by rw [← hin, phV_hi, h3]; rfl, a, rfl, ?_, g3, g4, .inl (hd a g1)⟩
      show (match tpIx vs rs n.n a with | some i => some (Loc.slot i) | none => w.own a) = _
      rw [tpIx_at ros h3 h2, hin]
  · obtain ⟨a, C, dx, fs, q1, q2, q3, q4, q5, q6, q7⟩ := (R.obs k o h).ex
    refine ⟨a, C, dx, fs, q1, q2, ownE q3, q4, q5, q6, fun i f v s e1 e2 => ?_⟩
    have h7 := q7 i f v s e1 e2
    cases s with
    | fr d => exact h7
    | ow d =>
      obtain ⟨b, e1, e2, e3, e4, e5⟩ := h7
      exact ⟨b, e1, ownE e2, e3, e4, trivial⟩
  · show (match tpIx vs rs n.n a with | some i => some (Loc.slot i) | none => w.own a) = none
    cases q : tpIx vs rs n.n a with
    | none => exact R.own0 a h
    | some i =>
      obtain ⟨_, _, _, d, hc⟩ := tpIx_some ros q
      obtain ⟨o, ho⟩ := hc.there
      rw [ho] at h; cases h
  · have hr : (decide (i < n.n) && n.ro i) = true := hr
    rw [Bool.and_eq_true] at hr
    have hi := of_decide_eq_true hr.1
    rw [phV_lo hi, R.arg i v hr.2 ha]
    rfl
theorem phantom_fr (F : Fr w0 Hs w H) (ros : ResOks S w Hs H σ vs rs) (N : Nat) : Fr w0 Hs (phW w vs rs N) H := by
  have nt : ∀ {b o}, Hs b = some o → tpIx vs rs N b = none := fun {b o} h => by
    cases q : tpIx vs rs N b with
    | none => rfl
    | some i => rw [(tpIx_some ros q).1] at h; cases h
  refine ⟨F.hf, F.ad, fun b o h1 h2 => ⟨(F.kp b o h1 h2).1, ?_⟩, F.nf, F.dm, F.h0, F.as, fun b l o h1 h2 => ?_⟩
  · show (match tpIx vs rs N b with | some i => some (Loc.slot i) | none => w.own b) = none
    rw [nt h1]; exact (F.kp b o h1 h2).2
  · show (match tpIx vs rs N b with | some i => some (Loc.slot i) | none => w.own b) = some l ∨ (match tpIx vs rs N b with | some i => some (Loc.slot i) | none => w.own b) = none
    rw [nt h1]; exact F.ow b l o h1 h2
theorem argO_lt {ς : St} {j : Nat} {s : Slot} (h : argO ς (.sl j) = some s) : j < ς.sl.length := by
  have h : (match ς.sl[j]? with | some (some s) => some s | _ => none) = some s := h
  split at h
  · rename_i s0 h0
    exact (List.getElem?_eq_some_iff.mp h0).1
  · cases h
theorem slots_lt {ς : St} : ∀ {rs : List ER} {args : List Slot}, argsO ς rs = some args → ∀ j ∈ slots rs, j < ς.sl.length
  | [], _, _, j, h => by simp [slots] at h
  | r :: rs, args, e, j, h => by
    unfold argsO at e
    split at e
    · rename_i s0 ss e1 e2
      cases r with
      | sl i =>
        rcases List.mem_cons.mp h with rfl | h
        · exact argO_lt e1
        · exact slots_lt e2 j h
      | fr d => exact slots_lt e2 j h
      | tp d => exact slots_lt e2 j h
    · cases e
theorem phR_slots : ∀ (rs : List ER) (k : Nat), ∀ j ∈ slots (phR rs k), j ∈ slots rs ∨ k ≤ j
  | [], k, j, h => by simp [phR, slots] at h
  | .sl i :: rs, k, j, h => by
    rcases List.mem_cons.mp h with rfl | h
    · exact .inl (List.mem_cons_self ..)
    · rcases phR_slots rs (k + 1) j h with h | h
      · exact .inl (List.mem_cons_of_mem _ h)
      · exact .inr (by omega)
  | .fr d :: rs, k, j, h => by
    rcases phR_slots rs (k + 1) j h with h | h
    · exact .inl h
    · exact .inr (by omega)
  | .tp d :: rs, k, j, h => by
    rcases List.mem_cons.mp h with rfl | h
    · exact .inr (Nat.le_refl _)
    · rcases phR_slots rs (k + 1) j h with h | h
      · exact .inl h
      · exact .inr (by omega)
theorem phR_nodup : ∀ (rs : List ER) (k : Nat), (slots rs).Nodup → (∀ j ∈ slots rs, j < k) → (slots (phR rs k)).Nodup
  | [], k, _, _ => by simp [phR, slots]
  | .sl i :: rs, k, h, hl => by
    have h : (i :: slots rs).Nodup := h
    rw [List.nodup_cons] at h
    show (i :: slots (phR rs (k + 1))).Nodup
    rw [List.nodup_cons]
    refine ⟨fun z => ?_, phR_nodup rs (k + 1) h.2 fun j hj => by have := hl j (List.mem_cons_of_mem _ hj); omega⟩
    have hi := hl i (List.mem_cons_self ..)
    rcases phR_slots rs (k + 1) i z with z | z
    · exact h.1 z
    · omega
  | .fr d :: rs, k, h, hl => phR_nodup rs (k + 1) h fun j hj => by have := hl j hj; omega
  | .tp d :: rs, k, h, hl => by
    show (k :: slots (phR rs (k + 1))).Nodup
    rw [List.nodup_cons]
    refine ⟨fun z => ?_, phR_nodup rs (k + 1) h fun j hj => by have := hl j hj; omega⟩
    rcases phR_slots rs (k + 1) k z with z | z
    · have := hl k z; omega
    · omega
theorem phR_notp : ∀ (rs : List ER) (k : Nat), ∀ r ∈ phR rs k, ∀ d, r ≠ .tp d
  | [], _, r, h, _ => by simp [phR] at h
  | .sl i :: rs, k, r, h, d => by
    rcases List.mem_cons.mp h with rfl | h
    · intro z; cases z
    · exact phR_notp rs _ r h d
  | .fr i :: rs, k, r, h, d => by
    rcases List.mem_cons.mp h with rfl | h
    · intro z; cases z
    · exact phR_notp rs _ r h d
  | .tp i :: rs, k, r, h, d => by
    rcases List.mem_cons.mp h with rfl | h
    · intro z; cases z
    · exact phR_notp rs _ r h d
/-- the arguments are the same -/
theorem phR_args {ς : St} (tl : List (Option Slot)) : ∀ (rs : List ER) (pre : List (Option Slot)) (args : List Slot), argsO ς rs = some args → tl = pre ++ phS rs → argsO ⟨ς.sl ++ tl, ς.ob⟩ (phR rs (ς.sl.length + pre.length)) = some args
  | [], pre, args, e, _ => e
  | r :: rs, pre, args, e, ht => by
    unfold argsO at e
    split at e
    · rename_i s0 ss e1 e2
      cases e
      have ih : ∀ x, tl = (pre ++ [x]) ++ phS rs → argsO ⟨ς.sl ++ tl, ς.ob⟩ (phR rs (ς.sl.length + pre.length + 1)) = some ss := fun x h => by
        have := phR_args tl rs (pre ++ [x]) ss e2 h
        rwa [List.length_append, List.length_singleton, ← Nat.add_assoc] at this
      cases r with
      | fr d =>
        cases e1
        show (match argO _ (.fr d), argsO _ (phR rs _) with | some s, some ss => some (s :: ss) | _, _ => none) = _
        rw [ih none (by rw [ht]; simp [phS])]
        rfl
      | sl j =>
        have hj := argO_lt e1
        show (match argO _ (.sl j), argsO _ (phR rs _) with | some s, some ss => some (s :: ss) | _, _ => none) = _
        rw [ih none (by rw [ht]; simp [phS])]
        have : argO ⟨ς.sl ++ tl, ς.ob⟩ (.sl j) = some s0 := by
          rw [← e1]
          show (match (ς.sl ++ tl)[j]? with | some (some s) => some s | _ => none) = (match ς.sl[j]? with | some (some s) => some s | _ => none)
          rw [List.getElem?_append_left hj]
        rw [this]
      | tp d =>
        cases e1
        show (match argO _ (.sl (ς.sl.length + pre.length)), argsO _ (phR rs _) with | some s, some ss => some (s :: ss) | _, _ => none) = _
        rw [ih (some (.ow d)) (by rw [ht]; simp [phS])]
        have : argO ⟨ς.sl ++ tl, ς.ob⟩ (.sl (ς.sl.length + pre.length)) = some (.ow d) := by
          show (match (ς.sl ++ tl)[ς.sl.length + pre.length]? with | some (some s) => some s | _ => none) = _
          rw [List.getElem?_append_right (by omega), ht]
          simp [phS]
        rw [this]
    · cases e
theorem phR_ros {N : Nat} : ∀ {vs : List V} {rs : List ER} (pre : List V) (σ' : L2.St), ResOks S w Hs H σ vs rs → (∀ j ∈ slots rs, j < N) → (∀ i, (hi : i < N) → σ'[i]? = some (σ[i]?).join) → (∀ i, σ'[N + i]? = (pre ++ vs)[i]?.map some) → ∀ wp : W, wp.Hf = w.Hf → wp.ads = w.ads → ResOks S wp Hs H σ' vs (phR rs (N + pre.length))
  | _, _, _, _, .nil, _, _, _, _, _, _ => .nil
  | v :: vs, r :: rs, pre, σ', .cons h t q, hl, h1, h2, wp, e1, e2 => by
    have hs : ∀ j ∈ slots rs, j < N := fun j hj => hl j (by cases r <;> first | exact List.mem_cons_of_mem _ hj | exact hj)
    have ih := phR_ros (pre ++ [v]) σ' t hs h1 (fun i => by rw [h2]; simp) wp e1 e2
    rw [List.length_append, List.length_singleton, ← Nat.add_assoc] at ih
    have nz : ∀ j, ∀ a ∈ tpAd v (.sl j), ∀ p ∈ vs.zip (phR rs (N + pre.length + 1)), a ∉ tpAd p.1 p.2 := fun j a ha => by cases v <;> simp [tpAd] at ha
    cases r with
    | fr d => exact .cons (by show Rep S wp.Hf wp.ads v d; rw [e1, e2]; exact h) ih fun a ha => by cases v <;> simp [tpAd] at ha
    | sl j =>
      refine .cons ?_ ih (nz j)
      have h : σ[j]? = some (some v) := h
      show σ'[j]? = some (some v)
      rw [h1 j (hl j (List.mem_cons_self ..)), h]
      rfl
    | tp d =>
      refine .cons ?_ ih (nz _)
      show σ'[N + pre.length]? = some (some v)
      rw [h2]
      simp
/-- what stands behind the call under the true names -/
theorem phR_put : ∀ (rs : List ER) (outs : List Slot) (sl tl : List (Option Slot)) (ob : List OVal) (k : Nat), (∀ j ∈ slots rs, j < sl.length) → sl.length ≤ k → ∃ tl', (putBack ⟨sl ++ tl, ob⟩ (phR rs k) outs).sl = (putBack ⟨sl, ob⟩ rs outs).sl ++ tl'
  | [], outs, sl, tl, ob, k, _, _ => ⟨tl, by unfold phR putBack; rfl⟩
  | .sl j :: rs, [], sl, tl, ob, k, _, _ => ⟨tl, by unfold phR putBack; rfl⟩
  | .fr j :: rs, [], sl, tl, ob, k, _, _ => ⟨tl, by unfold phR putBack; rfl⟩
  | .tp j :: rs, [], sl, tl, ob, k, _, _ => ⟨tl, by unfold phR putBack; rfl⟩
  | .sl j :: rs, s :: outs, sl, tl, ob, k, h, hk => by
    have hj := h j (List.mem_cons_self ..)
    obtain ⟨tl', e⟩ := phR_put rs outs (sl.set j (some s)) tl ob (k + 1) (fun i hi => by rw [List.length_set]; exact h i (List.mem_cons_of_mem _ hi)) (by rw [List.length_set]; omega)
    refine ⟨tl', ?_⟩
    unfold phR putBack
    show (putBack ⟨(sl ++ tl).set j (some s), ob⟩ _ outs).sl = (putBack ⟨sl.set j (some s), ob⟩ rs outs).sl ++ tl'
    rw [← e, List.set_append_left _ _ hj]
  | .fr d :: rs, s :: outs, sl, tl, ob, k, h, hk => by
    obtain ⟨tl', e⟩ := phR_put rs outs sl tl ob (k + 1) h (by omega)
    exact ⟨tl', by unfold phR putBack; exact e⟩
  | .tp d :: rs, s :: outs, sl, tl, ob, k, h, hk => by
    obtain ⟨tl', e⟩ := phR_put rs outs sl (tl.set (k - sl.length) (some s)) ob (k + 1) h (by omega)
    refine ⟨tl', ?_⟩
    unfold phR putBack
    show (putBack ⟨(sl ++ tl).set k (some s), ob⟩ _ outs).sl = (putBack ⟨sl, ob⟩ rs outs).sl ++ tl'
    rw [← e, List.set_append_right _ _ hk]
theorem phantom_back {ob : List OVal} {outs : List Slot} {wc : W} {np' : Nat} {ro' : Nat → Bool} (R : Rel S n ς σ H w) (hl : ∀ j ∈ slots rs, j < n.n) (hv : vs.length = rs.length) (h : Rel S ⟨n.n + rs.length, ro', np'⟩ (putBack { phT ς n.n rs with ob := ob } (phR rs n.n) outs) (phV σ n.n vs) H' wc) (ha : wc.args = w.args) : Rel S n (putBack { ς with ob := ob } rs outs) σ H' wc := by
  obtain ⟨tl', e⟩ := phR_put rs outs ς.sl (phS rs) ob n.n (by rw [R.len]; exact hl) (by rw [R.len]; exact Nat.le_refl _)
  have ho : ∀ ς1 ς2 : St, ∀ rs1 rs2 : List ER, (putBack { ς1 with ob := ob } rs1 outs).ob = (putBack { ς2 with ob := ob } rs2 outs).ob := fun ς1 ς2 rs1 rs2 => by rw [putBack_ob, putBack_ob]
  have hlen : (putBack { ς with ob := ob } rs outs).sl.length = n.n := by rw [putBack_len]; exact R.len
  refine ⟨h.sub, h.nof, hlen, fun i s q => ?_, fun k o q => h.obs k o (by rw [ho _ ς _ rs]; exact q), fun k a q => by rw [ho ς (phT ς n.n rs) rs (phR rs n.n)]; exact h.adk k a q, h.dom, h.own0, fun i v hr hh => R.arg i v hr (by rw [← ha]; exact hh), fun i hi => by rw [ha]; exact R.arl i hi⟩
  have hi : i < n.n := by rw [← hlen]; exact (List.getElem?_eq_some_iff.mp q).1
  obtain ⟨v, h1, h2⟩ := h.slots i s (by
    show (putBack ⟨ς.sl ++ phS rs, ob⟩ (phR rs n.n) outs).sl[i]? = _
    rw [e, List.getElem?_append_left (by rw [hlen]; exact hi)]
    exact q)
  rw [phV_lo hi] at h1
  exact ⟨v, join_some (Option.some.inj h1), h2⟩
end
end VS

namespace VS
open PySem L2 PyProof.Rows

/-- a def of the module that does F -/
structure FnAt (S : Sta) (lvl : Nat) (x : Str) (np : Nat) (F : FD) (dd : List Dat) : Prop where
  ex : ∃ (f : Addr) (fd : FuncData) (k : Nat) (ps : List Str) (ds : List Value) (dvs : List V), S.mg x = some (.ref f) ∧ PySem.W.keepIn S.K (.ref f) = true ∧ FnG S.P S.w S.K S.mg S.base (CX S.P S.w) k f fd ps (spV S np F) ∧ k ≤ lvl ∧ Binds S.K fd ps ds ∧ Vals dvs ds ∧
    ∀ (w : W), Reps S w.Hf w.ads dvs dd
section
variable {c : Ctx} {X : Cx} {a b e : Expr} {fa fb : Act ER} {pos : Pos} {es : List Expr} {f : Act ER} {g : Act (List ER)}
theorem ResOks.app {S : Sta} {w : W} {Hs H : Hp} {σ : L2.St} {vs : List V} {rs : List ER} {us : List V} {ds : List Dat} (h : ResOks S w Hs H σ vs rs) (q : Reps S w.Hf w.ads us ds) : ResOks S w Hs H σ (vs ++ us) (rs ++ ds.map .fr) := by
  induction h with
  | nil =>
    have go : ∀ {us : List V} {ds : List Dat}, Reps S w.Hf w.ads us ds → ResOks S w Hs H σ us (ds.map .fr) := by
      intro us ds q
      induction us generalizing ds with
      | nil => cases q; exact .nil
      | cons u us ih =>
        cases q with
        | cons r t => exact .cons r (ih t) (fun a ha => by cases u <;> simp [tpAd] at ha)
    exact go q
  | @cons v r vs rs h1 h2 h3 ih =>
    refine .cons h1 ih fun a ha p hp => ?_
    have hz : (vs ++ us).zip (rs ++ ds.map ER.fr) = vs.zip rs ++ us.zip (ds.map ER.fr) := List.zip_append h2.length
    have hp : p ∈ (vs ++ us).zip (rs ++ ds.map ER.fr) := hp
    rw [hz] at hp
    rcases List.mem_append.mp hp with hp | hp
    · exact h3 a ha p hp
    · obtain ⟨v', r'⟩ := p
      have hm := (List.of_mem_zip hp).2
      obtain ⟨d, _, rfl⟩ := List.mem_map.mp hm
      intro z
      cases v' <;> simp [tpAd] at z
theorem run_g {X : Cx} {CX : CXT} {k : Nat} {f : Addr} {fd : FuncData} {ps : List Str} {sp : Sp} {dvs : List V} {ds : List Value} {E : XK} {pins : List (Addr × Obj)} {σ : L2.St} {H : Hp} {s : Shared} {Q : VK} {us : List Value} {vs : List V} (F : FnG X.prog X.w X.K X.mg X.base CX k f fd ps sp) (hg : X.A.guards = some []) (hr : Room k X.A) (hb : Binds X.K fd ps ds) (hd : Vals dvs ds) (hx : PassesAt CX X σ E)
    (I : Inv X pins σ H s) (r : Vals vs us) (h : sp (vs ++ dvs) H Q E) : wpAny (model X.prog X.w) X.A (call (.ref f) us) (EP X pins σ Q) X.xe s := by
  have rv := r.append hd
  refine wpAny_call (codeAny_mono (F.run X.A X.stack s H ⟨us, []⟩ (us ++ ds) (vs ++ dvs) Q E hg hr I.env0 (hb s us I.kIn (by rw [← rv.length]; exact F.len _ _ _ _ h)) rv h) fun r s' hq => ?_)
  match r, hq with
  | .error e, hq => exact hx pins H s e s' I hq
  | .ok (.ret u), hq => exact I.after hq
/-- the def runs -/
theorem call_run {np : Nat} {F : FD} {io : List Bool} {f : Addr} {fd : FuncData} {k : Nat} {ps : List Str} (hX : c.Ok X) (FO : FnG c.P c.w c.K c.mg c.base (CX c.P c.w) k f fd ps (spV c.toSta np F)) (hk : k ≤ c.lvl) {pins : List (Addr × Obj)} {s1 : Shared} {σ : L2.St} {H H1 : Hp} {w w1 : W} {ς1 : St}
    {o : Out ER} {us ds : List Value} {vs dvs : List V} {rs : List ER} {dd : List Dat} (hb : Binds c.K fd ps ds) (hd : Vals dvs ds) (hdd : ∀ w : W, Reps c.toSta w.Hf w.ads dvs dd) (hlen : rs.length + dd.length = np) (hdm : ∀ a, H a = none → w.H0 a = none)
    (h1 : passF F io (rs ++ dd.map .fr) ς1 = some o) (I1 : Inv X pins σ H1 s1) (rvs : Vals vs us) (F1 : Fr w H w1 H1) (R1 : Rel c.toSta c.n ς1 σ H1 w1) (T : XT c X w H o) (ros : ResOks c.toSta w1 H H1 σ vs rs) :
    wpAny (model X.prog X.w) X.A (call (.ref f) us) (NE c X pins σ w H o) X.xe s1 := by
  have FO' : FnG X.prog X.w X.K X.mg X.base (CX c.P c.w) k f fd ps (spV c.toSta np F) := by rw [hX.prog, hX.w, hX.K, hX.mg, hX.base]; exact FO
  have hb' : Binds X.K fd ps ds := by rw [hX.K]; exact hb
  have hr : Room k X.A := hX.room.mono hk
  unfold passF at h1
  split at h1
  · cases h1
  · rename_i rs' ς2 e1
    split at h1
    · cases h1
    · rename_i args e2
      split at h1
      · rename_i hn
        obtain ⟨w2', F2', R2', ros2', _, _⟩ := settleIO_ok F1 R1 (ros.app (hdd w1)) e1
        have hvl' := ros2'.length
        have hsl : ∀ j ∈ slots rs', j < c.n.n := fun j hj => by have := slots_lt e2 j hj; rw [R2'.len] at this; exact this
        have R2 := phantom_rel R2' ros2' (fun a ha => by rw [F2'.h0]; exact hdm a ha)
        have F2 := phantom_fr F2' ros2' c.n.n
        have e2' : argsO (phT ς2 c.n.n rs') (phR rs' c.n.n) = some args := by
          have := phR_args (phS rs') rs' [] args e2 rfl
          rwa [List.length_nil, Nat.add_zero, R2'.len] at this
        have ros2 := phR_ros (N := c.n.n) [] (phV σ c.n.n (vs ++ dvs)) ros2' hsl (fun i hi => phV_lo hi) (fun i => by rw [phV_hi]; rfl) (phW w2' (vs ++ dvs) rs' c.n.n) rfl rfl
        rw [List.length_nil, Nat.add_zero] at ros2
        have hn' := phR_nodup rs' c.n.n hn hsl
        have en := in_entry R2 ros2 e2' hn' (phR_notp rs' c.n.n)
        generalize hw2 : phW w2' (vs ++ dvs) rs' c.n.n = w2 at *
        have halen := argsO_len e2
        have hvl := ros2'.length
        have hrl := ros.length
        have hdl := (hdd w1).length
        have hnp : args.length = np := by rw [halen, ← hvl, List.length_append, hrl, hdl]; exact hlen
        split at h1
        · cases h1
        · rename_i r outs ob e3
          split at h1
          · rename_i hfr
            cases h1
            have hol : outs.length = rs'.length := by rw [frOk_len hfr, halen]
            refine wpAny_mono (run_g (E := fun _ _ _ => False) (Q := fun v H' => ∃ w', Fr w H w' H' ∧ Rel c.toSta c.n (putBack { ς2 with ob := ob } rs' outs) σ H' w' ∧ ResOk c.toSta w' H H' σ v r) FO' hX.gd hr hb' hd (fun _ _ _ _ _ _ ⟨_, _, _, _, _, _, _, _, _, _, _, _, z⟩ => z.elim) I1 rvs
              ⟨_, args, ς2.ob, _, hnp, en, e3, fun v H' wc Fc RX ro => ?_⟩) (fun u s' ⟨v, H', I', rv, w', F', R', ro⟩ => ⟨v, H', w', I', rv, F', R', ro⟩) fun _ _ z => z
            obtain ⟨F3, R3'⟩ := out_rel R2 ros2 e2' hn' (by rw [phR_len]; exact hol) Fc RX (fun i d ha s hs => frOk_at hfr ha s hs)
            have R3 := phantom_back R2' hsl hvl' R3' (by subst hw2; rfl)
            refine ⟨outW w2 wc, F2.trans F3, R3, ?_⟩
            cases r with
            | fr d => exact ro
            | sl i => exact ro.elim
            | tp d =>
              obtain ⟨a, rfl, h1, h2, h3, h4⟩ := ro
              rw [Fc.h0] at h1
              have h1 : H1 a = none := h1
              refine ⟨a, rfl, F1.dm a h1, ?_, h3, h4⟩
              have hw2 := R2.own0 a h1
              show (match w2.own a with | some (.slot j) => if (wc.Hf a).isNone = true then some (Loc.slot j) else none | _ => match wc.own a with | some (.slot _) => none | x => x) = none
              rw [hw2, h2]
          · cases h1
        · rename_i x outs ob e3
          split at h1
          · rename_i hfr
            cases h1
            have hol : outs.length = rs'.length := by rw [frOk_len hfr, halen]
            have tk : Takes X (XW c.toSta c.n w H x (putBack { ς2 with ob := ob } rs' outs)) := T
            refine wpAny_mono (run_g (CX := CX X.prog X.w) (sp := spV c.toSta np F) (E := fun cls dd H' => XW c.toSta c.n w H x (putBack { ς2 with ob := ob } rs' outs) cls dd σ H') (Q := fun _ _ => False) (by rw [hX.prog, hX.w]; rw [hX.prog, hX.w] at FO'; exact FO') hX.gd hr hb' hd (passAt tk σ) I1 rvs
              ⟨_, args, ς2.ob, _, hnp, en, e3, fun cls dd H' wc Fc RX ex => ?_⟩) (fun u s' ⟨v, H', I', rv, z⟩ => z.elim) fun _ _ z => z
            obtain ⟨F3, R3'⟩ := out_rel R2 ros2 e2' hn' (by rw [phR_len]; exact hol) Fc RX (fun i d ha s hs => frOk_at hfr ha s hs)
            have R3 := phantom_back R2' hsl hvl' R3' (by subst hw2; rfl)
            refine ⟨outW w2 wc, F2.trans F3, R3, ex.c, ?_⟩
            rcases ex.f with z | ⟨a, fs, q1, q2, q3, q5, q4⟩
            · exact .inl z
            · rw [Fc.h0] at q5
              have q5 : H1 a = none := q5
              refine .inr ⟨a, fs, q1, q2, ?_, R2.dom a q5, ?_⟩
              · have hw2 := R2.own0 a q5
                show (match w2.own a with | some (.slot j) => if (wc.Hf a).isNone = true then some (Loc.slot j) else none | _ => match wc.own a with | some (.slot _) => none | x => x) = none
                rw [hw2, q3]
              · have go : ∀ {fs gs}, FldsOk c.toSta wc fs gs → FldsOk c.toSta (outW w2 wc) fs gs := by
                  intro fs gs h
                  induction h with
                  | nil => exact .nil
                  | cons r _ ih => exact .cons r ih
                exact go q4
          · cases h1
      · cases h1

/-- x(e, ..), x a def of the module; io: which arguments it may change -/
def defA (np : Nat) (F : FD) (io : List Bool) (dd : List Dat) (g : Act (List ER)) : Act ER := g.bnd fun rs ς => if rs.length + dd.length = np then passF F io (rs ++ dd.map .fr) ς else none
theorem ve_call {x : Str} {np : Nat} {F : FD} {io : List Bool} {dd : List Dat} {p : Pos} (hF : FnAt c.toSta c.lvl x np F dd) (hg : GlS c x) (ha : VA c (e :: es) g) (hdb : (x == ("__debug__" : Str)) = false)
    (he : ∀ env, starEach (e :: es) env = (false, eval e env) :: starEach es env) (hpl : ∀ env, (backTo pos (starEach es env)).any (·.1) = false) : VE c (.Call (.Name x p) (e :: es) [] pos) (defA np F io dd g) := .of fun X hX pins s σ H w ς o ho I R T => by
  obtain ⟨fa, fd, k, ps, ds, dvs, hm, hkp, FO, hk, hb, hd, hdd⟩ := hF.ex
  refine wpAny_Call_Name_kw (ld_glob I (hg.gl hX) (by rw [hX.mg]; exact hm) ?_ hdb)
  refine PySem.W.callWith_K (h₀ := X.base) I.ok.mod.kin (by rw [hX.K]; exact hkp) (va_then ha hX I R T ho fun rs ς1 us s1 vs H1 w1 h1 I1 rvs F1 R1 T1 ros => ⟨I1.kIn, ?_⟩) (he _) (hpl _)
  split at h1
  · rename_i hlen
    exact call_run hX FO hk hb hd hdd hlen R.dom h1 I1 rvs F1 R1 T ros
  · cases h1
theorem ve_call0 {x : Str} {np : Nat} {F : FD} {io : List Bool} {dd : List Dat} {p : Pos} (hF : FnAt c.toSta c.lvl x np F dd) (hg : GlS c x) (hdb : (x == ("__debug__" : Str)) = false) : VE c (.Call (.Name x p) [] [] pos) (defA np F io dd (Act.ret [])) := .of fun X hX pins s σ H w ς o ho I R T => by
  obtain ⟨fa, fd, k, ps, ds, dvs, hm, hkp, FO, hk, hb, hd, hdd⟩ := hF.ex
  refine wpAny_Call_Name_kw (ld_glob I (hg.gl hX) (by rw [hX.mg]; exact hm) ?_ hdb)
  refine PySem.W.callWith_K0 I.kIn (by rw [hX.K]; exact hkp) ?_
  unfold defA Act.bnd Act.ret at ho
  simp only at ho
  split at ho
  · rename_i hlen
    exact call_run hX FO hk hb hd hdd hlen R.dom ho I .nil (Fr.refl w H) R T .nil
  · cases ho
end
end VS

namespace VS
open PySem L2 PyProof.Rows

/-! ### list comprehensions -/
def wipeS : List Nat → St → St
  | [], ς => ς
  | v :: vs, ς => (wipeS vs ς).set v none
theorem wipeS_len : ∀ (vs : List Nat) (ς : St), (wipeS vs ς).sl.length = ς.sl.length
  | [], ς => rfl
  | v :: vs, ς => by unfold wipeS; rw [St.set_len, wipeS_len vs ς]
theorem wipeS_ob : ∀ (vs : List Nat) (ς : St), (wipeS vs ς).ob = ς.ob
  | [], ς => rfl
  | v :: vs, ς => by unfold wipeS; exact wipeS_ob vs ς
theorem wipeS_some : ∀ {vs : List Nat} {ς : St} {i : Nat} {s : Slot}, (wipeS vs ς).sl[i]? = some (some s) → ς.sl[i]? = some (some s) ∧ i ∉ vs
  | [], ς, i, s, h => ⟨h, by simp⟩
  | v :: vs, ς, i, s, h => by
    unfold wipeS at h
    by_cases hi : v = i
    · subst hi
      have hl : v < (wipeS vs ς).sl.length := by
        have := (List.getElem?_eq_some_iff.mp h).1
        rwa [St.set_len] at this
      have h : ((wipeS vs ς).sl.set v none)[v]? = some (some s) := h
      rw [List.getElem?_set_self hl] at h
      cases h
    · rw [St.set_ne hi] at h
      obtain ⟨h1, h2⟩ := wipeS_some h
      exact ⟨h1, by simp only [List.mem_cons, not_or]; exact ⟨fun e => hi e.symm, h2⟩⟩
theorem wipe_out {σ : L2.St} {j : Nat} : ∀ {vs : List Nat}, j ∉ vs → (wipe σ vs)[j]? = σ[j]?
  | [], h => rfl
  | v :: vs, h => by
    simp only [List.mem_cons, not_or] at h
    unfold wipe
    rw [List.getElem?_set_ne (fun q => h.1 q.symm), wipe_out h.2]
theorem wipe_in {σ : L2.St} {j : Nat} : ∀ {vs : List Nat}, j ∈ vs → j < σ.length → (wipe σ vs)[j]? = some none
  | [], h, _ => by simp at h
  | v :: vs, h, hl => by
    unfold wipe
    by_cases hv : v = j
    · subst hv
      exact List.getElem?_set_self (by rw [wipe_length]; exact hl)
    · rw [List.getElem?_set_ne hv]
      rcases List.mem_cons.mp h with h | h
      · exact absurd h.symm hv
      · exact wipe_in h hl
theorem wipe_eq {σ σ' : L2.St} {vs : List Nat} (hl : σ'.length = σ.length) (h : ∀ j, j ∉ vs → σ'[j]? = σ[j]?) : wipe σ' vs = wipe σ vs := by
  apply List.ext_getElem?
  intro j
  by_cases hj : j ∈ vs
  · by_cases hlt : j < σ.length
    · rw [wipe_in hj hlt, wipe_in hj (by omega)]
    · rw [List.getElem?_eq_none (by rw [wipe_length]; omega), List.getElem?_eq_none (by rw [wipe_length]; omega)]
  · rw [wipe_out hj, wipe_out hj, h j hj]
theorem Rel.wipe {S : Sta} {n : Shp} {ς : St} {σ σ' : L2.St} {H : Hp} {w : W} {vs : List Nat} (R : Rel S n ς σ' H w) (he : L2.wipe σ' vs = L2.wipe σ vs) (hr : ∀ j ∈ vs, n.ro j = false) : Rel S n (wipeS vs ς) (L2.wipe σ vs) H w := by
  refine ⟨R.sub, R.nof, by rw [wipeS_len]; exact R.len, fun i s e => ?_, by rw [wipeS_ob]; exact R.obs, by rw [wipeS_ob]; exact R.adk, R.dom, R.own0, fun i v h1 h2 => ?_, R.arl⟩
  · obtain ⟨h1, h2⟩ := wipeS_some e
    obtain ⟨v, h3, h4⟩ := R.slots i s h1
    exact ⟨v, by rw [← he, wipe_out h2]; exact h3, h4⟩
  · have hj : i ∉ vs := fun q => by rw [hr i q] at h1; cases h1
    rw [← he, wipe_out hj]
    exact R.arg i v h1 h2
/-- a list that is being made changes -/
theorem Rel.poke {S : Sta} {n : Shp} {ς : St} {σ : L2.St} {H : Hp} {w : W} {D : Addr} {o o' : HO} (R : Rel S n ς σ H w) (h1 : w.own D = none) (h2 : w.Hf D = none) (h3 : H D = some o) : Rel S n ς σ (upd H D o') w := by
  have so : ∀ {l v s}, SlotOk S w H l v s → SlotOk S w (upd H D o') l v s := fun {l v s} h => by
    cases s with
    | fr d => exact h
    | ow d =>
      obtain ⟨a, e, q1, q2, q3, q4⟩ := h
      have na : a ≠ D := fun q => by rw [q, h1] at q1; cases q1
      exact ⟨a, e, q1, q2, q3.mono (Ext.refl _) (fun _ _ h => h) (upd_ne na), q4⟩
  have nn : ∀ a, (upd H D o') a = none → H a = none := fun a h => by
    by_cases ha : a = D
    · rw [ha, upd_same] at h; cases h
    · rwa [upd_ne ha] at h
  refine ⟨fun a u h => ?_, R.nof, R.len, fun i s e => ?_, fun k ov e => ?_, R.adk, fun a h => R.dom a (nn a h), fun a h => R.own0 a (nn a h), R.arg, R.arl⟩
  · have na : a ≠ D := fun q => by rw [q, h2] at h; cases h
    rw [upd_ne na]
    exact R.sub a u h
  · obtain ⟨v, e1, e2⟩ := R.slots i s e
    exact ⟨v, e1, so e2⟩
  · obtain ⟨a, C, dx, fs, q1, q2, q3, q4, q5, q6, q7⟩ := (R.obs k ov e).ex
    have na : a ≠ D := fun q => by rw [q, h1] at q3; cases q3
    exact ⟨a, C, dx, fs, q1, q2, q3, q4, by rw [upd_ne na]; exact q5, q6, fun i f v s e1 e2 => so (q7 i f v s e1 e2)⟩
/-- a clause's tests -/
def VTs0 (c : Ctx) (ifs : List Expr) (f : Act Bool)  : Prop :=
  ∀ X, c.Ok X → ∀ (pins : List (Addr × Obj)) (s : Shared) (σ : L2.St) (H : Hp) (w : W) (ς : St) (o : Out Bool), f ς = some o → Inv X pins σ H s → Rel c.toSta c.n ς σ H w → XT c X w H o →
    wpAny (model X.prog X.w) X.A (forIn ifs true fun c r => if r = true then do let ok ← isTrue c X.env (eval c X.env); pure (ForInStep.yield ok) else pure (ForInStep.yield r)) (NT c X pins σ w H o) X.xe s
structure VTs (c : Ctx) (ifs : List Expr) (f : Act Bool)  : Prop where of ::
  run : VTs0 c ifs f
instance {c : Ctx} {e} {f} : CoeFun (VTs c e f) fun _ => VTs0 c e f := ⟨VTs.run⟩
theorem vts_nil {c : Ctx} : VTs c [] (Act.ret true) := .of fun X hX pins s σ H w ς o ho I R T => by
  cases ho
  exact wpAny_tests_nil ⟨rfl, H, w, I, Fr.refl _ _, R⟩
theorem vts_one {c : Ctx} {e : Expr} {f : Act Bool} (h : VT c e f) : VTs c [e] f := .of fun X hX pins s σ H w ς o ho I R T => wpAny_tests_one (h X hX _ pins s σ H w ς o ho I R T (.inl rfl))

def lcRun (vs : List Nat) (t : Dat → St → Option St) (ft : Act Bool) (fe : Act ER) : List Dat → St → Option (List Dat × St)
  | [], ς => some ([], ς)
  | d :: ds, ς => match t d ς with
    | none => none
    | some ς1 => match ft ς1 with
      | some (.ok true ς2) => match fe ς2 with
        | some (.ok r ς3) => match settle ς3 r with
          | some (x, ς4) => (lcRun vs t ft fe ds (wipeS vs ς4)).map fun p => (x :: p.1, p.2)
          | none => none
        | _ => none
      | some (.ok false ς2) => lcRun vs t ft fe ds (wipeS vs ς2)
      | _ => none
/-- the block's own names as they were -/
def restore (ς0 : St) : List Nat → St → St
  | [], ς => ς
  | v :: vs, ς => (restore ς0 vs ς).set v (ς0.sl[v]?.join)
def noOwn (ς : St) (vs : List Nat) : Bool := vs.all fun v => match ς.sl[v]? with
  | some (some (.ow _)) => false
  | _ => true
def lcA (vs : List Nat) (t : Dat → St → Option St) (ft : Act Bool) (fe : Act ER) (fi : Act (List Dat)) : Act ER := fi.bnd fun ds ς => if noOwn ς vs = true then
    match lcRun vs t ft fe ds (wipeS vs ς) with
    | some (xs, ς') => if xs.length ≤ sizeLine then some (.ok (.tp (.lst xs)) (restore ς vs ς')) else none
    | none => none
  else none
def Ctx.blk (c : Ctx) (scope : Scope) : Ctx := { c with sc := relS scope c.sc, fnn := fun x => scope.names.lookup x == some .cell }
theorem Ctx.Ok.blk {c : Ctx} {X : Cx} (h : c.Ok X) {s : Shared} {H : Hp} {scope : Scope} {C : Addr} {cl : List (Str × Addr)} {fp : List Addr} : (c.blk scope).Ok (X.blk s H scope (compEnvC scope cl C X.env) fp) :=
  ⟨h.prog, h.w, h.K, h.mg, h.base, h.N, by show relS scope X.env.scope = relS scope c.sc; rw [h.sc], h.nd, h.calm, h.room, h.gd, fun x hx => hx, PassesOwn.never, h.code⟩

theorem restore_len (ς0 : St) : ∀ (vs : List Nat) (ς : St), (restore ς0 vs ς).sl.length = ς.sl.length
  | [], ς => rfl
  | v :: vs, ς => by unfold restore; rw [St.set_len, restore_len ς0 vs ς]
theorem restore_ob (ς0 : St) : ∀ (vs : List Nat) (ς : St), (restore ς0 vs ς).ob = ς.ob
  | [], ς => rfl
  | v :: vs, ς => by unfold restore; exact restore_ob ς0 vs ς
theorem restore_get {ς0 : St} : ∀ {vs : List Nat} {ς : St} {i : Nat} {s : Slot}, (restore ς0 vs ς).sl[i]? = some (some s) → (i ∈ vs ∧ ς0.sl[i]? = some (some s)) ∨ (i ∉ vs ∧ ς.sl[i]? = some (some s))
  | [], ς, i, s, h => .inr ⟨by simp, h⟩
  | v :: vs, ς, i, s, h => by
    unfold restore at h
    by_cases hi : v = i
    · subst hi
      have hl : v < (restore ς0 vs ς).sl.length := by
        have := (List.getElem?_eq_some_iff.mp h).1
        rwa [St.set_len] at this
      have h : ((restore ς0 vs ς).sl.set v (ς0.sl[v]?.join))[v]? = some (some s) := h
      rw [List.getElem?_set_self hl] at h
      refine .inl ⟨List.mem_cons_self .., ?_⟩
      have h : (ς0.sl[v]?).join = some s := Option.some.inj h
      cases q : ς0.sl[v]? with
      | none => rw [q] at h; cases h
      | some x => rw [q] at h; cases h; rfl
    · rw [St.set_ne hi] at h
      rcases restore_get h with ⟨h1, h2⟩ | ⟨h1, h2⟩
      · exact .inl ⟨List.mem_cons_of_mem _ h1, h2⟩
      · exact .inr ⟨by simp only [List.mem_cons, not_or]; exact ⟨fun e => hi e.symm, h1⟩, h2⟩
theorem Rel.restore {S : Sta} {n : Shp} {ς0 ς : St} {σ : L2.St} {H H0 : Hp} {w w0 : W} {vs : List Nat} (R0 : Rel S n ς0 σ H0 w0) (hno : noOwn ς0 vs = true) (F : Fr w0 H0 w H) (R : Rel S n ς (L2.wipe σ vs) H w) (hr : ∀ j ∈ vs, n.ro j = false) : Rel S n (restore ς0 vs ς) σ H w := by
  refine ⟨R.sub, R.nof, by rw [restore_len]; exact R.len, fun i s e => ?_, by rw [restore_ob]; exact R.obs, by rw [restore_ob]; exact R.adk, R.dom, R.own0, fun i v h1 h2 => ?_, R.arl⟩
  · rcases restore_get e with ⟨h1, h2⟩ | ⟨h1, h2⟩
    · obtain ⟨v, h3, h4⟩ := R0.slots i s h2
      refine ⟨v, h3, ?_⟩
      cases s with
      | fr d => exact Rep.mono F.hf F.ad h4
      | ow d =>
        have := List.all_eq_true.mp hno i h1
        rw [h2] at this
        cases this
    · obtain ⟨v, h3, h4⟩ := R.slots i s h2
      exact ⟨v, by rw [wipe_out h1] at h3; exact h3, h4⟩
  · have hj : i ∉ vs := fun q => by rw [hr i q] at h1; cases h1
    have := R.arg i v h1 h2
    rwa [wipe_out hj] at this
def wiOf (X : Cx) (tg iter : Expr) : TI := fun σ H Rr => ∀ pins s, Inv X pins σ H s → wpAny (model X.prog X.w) X.A (eval iter X.env) (fun v s1 => wpAny (model X.prog X.w) X.A (pyIter v) (PIE X pins σ tg Rr) X.xe s1) X.xe s
abbrev blkOf (X : Cx) (scope : Scope) (s0 : Shared) (H0 : Hp) (C : Addr) (cl : List (Str × Addr)) (fp : List Addr) : Cx := X.blk s0 H0 scope (compEnvC scope cl C X.env) fp
def ggOf (X : Cx) (scope : Scope) (tg : Expr) : TG := fun v σ H Q => ∀ s0 H0 C cl fp pins s u, Inv (blkOf X scope s0 H0 C cl fp) pins σ H s → RelV v u → wpAny (model X.prog X.w) X.A (assign tg (compEnvC scope cl C X.env) u) (fun _ s' => ∃ σ' H', Inv (blkOf X scope s0 H0 C cl fp) pins σ' H' s' ∧ Q σ' H') (fun _ _ => False) s
def ttOf (X : Cx) (scope : Scope) (ifs : List Expr) : TT := fun σ H Q => ∀ s0 H0 C cl fp pins s, Inv (blkOf X scope s0 H0 C cl fp) pins σ H s → wpAny (model X.prog X.w) X.A (forIn ifs true fun c r => if r = true then do let ok ← isTrue c (compEnvC scope cl C X.env) (eval c (compEnvC scope cl C X.env)); pure (ForInStep.yield ok) else pure (ForInStep.yield r)) (TP (blkOf X scope s0 H0 C cl fp) pins σ Q) (fun _ _ => False) s
def teOf (X : Cx) (scope : Scope) (elt : Expr) : TE := fun σ H Q => ∀ s0 H0 C cl fp pins s, Inv (blkOf X scope s0 H0 C cl fp) pins σ H s → wpAny (model X.prog X.w) X.A (eval elt (compEnvC scope cl C X.env)) (EP (blkOf X scope s0 H0 C cl fp) pins σ Q) (fun _ _ => False) s
/-- what a list comprehension that goes well does -/
theorem lc_reads {c : Ctx} {X : Cx} {elt tg iter : Expr} {ifs : List Expr} {scope : Scope} {vs : List Nat} {fi : Act (List Dat)} {t : Dat → St → Option St} {is : List Nat} {ft : Act Bool} {fe : Act ER} (hi : VI c tg iter fi) (hg : VG (c.blk scope) tg t is) (ht : VTs (c.blk scope) ifs ft) (he : VE (c.blk scope) elt fe)
    (his : ∀ i ∈ is, i ∈ vs) (hro : ∀ j ∈ vs, c.ro j = false) (hX : c.Ok X) {σ : L2.St} {H : Hp} {w : W} {ς ς1 ς2 : St} {ds xs : List Dat} (q : fi ς = some (.ok ds ς1)) (R : Rel c.toSta c.n ς σ H w) (hno : noOwn ς1 vs = true) (hrun : lcRun vs t ft fe ds (wipeS vs ς1) = some (xs, ς2)) (hz : xs.length ≤ sizeLine)
    {Q : VK} (hQ : ∀ v H' w', Fr w H w' H' → Rel c.toSta c.n (VS.restore ς1 vs ς2) σ H' w' → ResOk c.toSta w' H H' σ v (.tp (.lst xs)) → Q v H') : tLc (wiOf X tg iter) (ggOf X scope tg) (ttOf X scope ifs) (teOf X scope elt) vs σ H Q := by
  intro pins' s' I'
  refine wpAny_mono (hi X hX pins' s' σ H w ς _ q I' R trivial) (fun u s1 z => wpAny_mono z (fun u s2 z => ?_) fun _ _ z => z) fun _ _ z => z
  obtain ⟨it, fp, tn, J, H1, e1, I1, Tn, st, f2, w1, F1, R1, WK⟩ := z
  refine ⟨it, fp, tn, J, H1, e1, I1, Tn, st, f2, fun D hD => ?_⟩
  -- the new list
  obtain ⟨RL, FL⟩ := R1.laid (o := .lst []) hD
  have hoD : w1.own D = none := R1.own0 D hD
  have hfD : w1.Hf D = none := by
    cases z : w1.Hf D with
    | none => rfl
    | some o => have := R1.sub D o z; rw [hD] at this; cases this
  have RW0 : Rel c.toSta c.n (wipeS vs ς1) (L2.wipe σ vs) (upd H1 D (.lst [])) w1 := RL.wipe rfl hro
  refine ⟨fun i m H' => ∃ w' ς' accV accD ds' rest, m = ds'.length ∧ ds' = ds.drop i ∧ i ≤ ds.length ∧ Fr w1 H1 w' H' ∧ Rel c.toSta c.n ς' (L2.wipe σ vs) H' w' ∧ w'.own D = none ∧ w'.Hf D = none ∧ H' D = some (.lst accV) ∧ Reps c.toSta w'.Hf w'.ads accV accD ∧ lcRun vs t ft fe ds' ς' = some (rest, ς2) ∧ accD ++ rest = xs,
    ⟨ds.length, w1, _, [], [], ds, xs, rfl, rfl, Nat.zero_le _, FL, RW0, hoD, hfD, upd_same, .nil, hrun, rfl⟩, ?_⟩
  rintro i m H2 ⟨w2, ς3, accV, accD, ds', rest, rfl, hdr, hile, F2, R2, ho2, hf2, hD2, ra, hr2, hxs⟩
  cases ds' with
  | nil =>
    have hie : i = ds.length := by have := congrArg List.length hdr; simp at this; omega
    subst hie
    cases hr2
    refine .inl ⟨WK.stop w2 H2 F2.hf R2.sub, hQ _ _ w2 (F1.trans F2) (R1.restore hno F2 R2 hro) ⟨D, rfl, F1.dm D hD, ho2, hf2, ?_⟩⟩
    rw [List.append_nil] at hxs
    subst hxs
    exact .lst hD2 ra
  | cons d ds3 =>
    have hlt : i < ds.length := by have := congrArg List.length hdr; simp at this; omega
    have hdi : ds[i]? = some d := by
      have q : (ds.drop i)[0]? = some d := by rw [← hdr]; rfl
      rw [List.getElem?_drop] at q
      simpa using q
    have hdn : ds3 = ds.drop (i + 1) := by
      have q : (ds.drop i).drop 1 = ds3 := by rw [← hdr]; rfl
      rw [List.drop_drop] at q
      exact q.symm
    refine .inr ⟨WK.go i w2 H2 hlt F2.hf R2.sub, fun H' => ∃ m', m' < (d :: ds3).length ∧ ∃ w' ς' accV accD ds' rest, m' = ds'.length ∧ ds' = ds.drop (i + 1) ∧ i + 1 ≤ ds.length ∧ Fr w1 H1 w' H' ∧ Rel c.toSta c.n ς' (L2.wipe σ vs) H' w' ∧ w'.own D = none ∧ w'.Hf D = none ∧ H' D = some (.lst accV) ∧ Reps c.toSta w'.Hf w'.ads accV accD ∧ lcRun vs t ft fe ds' ς' = some (rest, ς2) ∧ accD ++ rest = xs, fun H' z => z, fun x H3 hy => ?_⟩
    obtain ⟨w3, F3, R3, d', hd', rp⟩ := WK.yld i x H2 w2 H3 ς3 _ hlt R2 F2.hf F2.ad hy
    rw [hdi] at hd'
    cases hd'
    intro s0 H0 C cl fp' pins'' s'' u'' I'' rv''
    unfold lcRun at hr2
    split at hr2
    · cases hr2
    · rename_i ς4 e4
      have keepD : ∀ {wa wb : W} {Ha Hb : Hp}, Fr wa Ha wb Hb → wa.own D = none → wa.Hf D = none → Ha D = some (.lst accV) → wb.own D = none ∧ wb.Hf D = none ∧ Hb D = some (.lst accV) := fun {wa wb Ha Hb} F h1 h2 h3 => ⟨(F.kp D _ h3 h1).2, F.nf D _ h3 h1 h2, (F.kp D _ h3 h1).1⟩
      obtain ⟨o3, f3, d3⟩ := keepD F3 ho2 hf2 hD2
      refine wpAny_mono (hg _ hX.blk pins'' s'' _ H3 w3 ς3 ς4 x u'' d e4 I'' R3 rv'' rp) (fun _ s4 ⟨σ4, w4, I4, F4, R4, k4⟩ => ⟨σ4, H3, I4, ?_, fun s0 H0 C cl fp' pins'' s'' I'' => ?_⟩) fun _ _ z => z
      · have : L2.wipe σ4 vs = L2.wipe (L2.wipe σ vs) vs := wipe_eq (by rw [I4.len]; have := I''.len; rw [this]) fun j hj => k4 j fun z => hj (his j z)
        rw [this]
        exact wipe_eq (by rw [wipe_length]) fun j hj => wipe_out hj
      · obtain ⟨o4, f4, d4⟩ := keepD F4 o3 f3 d3
        have hw4 : L2.wipe σ4 vs = L2.wipe σ vs := by
          have : L2.wipe σ4 vs = L2.wipe (L2.wipe σ vs) vs := wipe_eq (by rw [I4.len, wipe_length, I1.len]) fun j hj => k4 j fun z => hj (his j z)
          rw [this]
          exact wipe_eq (by rw [wipe_length]) fun j hj => wipe_out hj
        cases e5 : ft ς4 with
        | none => rw [e5] at hr2; cases hr2
        | some o5 =>
          cases o5 with
          | ex x5 ς5 => rw [e5] at hr2; cases hr2
          | ok b5 ς5 =>
            refine wpAny_mono (ht _ hX.blk pins'' s'' σ4 H3 w4 ς4 _ e5 I'' R4 trivial) (fun b s5 ⟨eb, H5, w5, I5, F5, R5⟩ => ⟨H5, I5, ?_⟩) fun _ _ z => z
            subst eb
            obtain ⟨o5, f5, d5⟩ := keepD F5 o4 f4 d4
            have F25 := ((F2.trans F3).trans F4).trans F5
            cases b with
            | false =>
              rw [e5] at hr2
              simp only at hr2
              simp only [Bool.false_eq_true, if_false]
              exact ⟨ds3.length, by simp, w5, _, accV, accD, ds3, rest, rfl, hdn, hlt, F25, R5.wipe hw4 hro, o5, f5, d5, ra.mono (((F3.trans F4).trans F5).hf) (((F3.trans F4).trans F5).ad), hr2, hxs⟩
            | true =>
              rw [e5] at hr2
              simp only at hr2
              simp only [if_true]
              intro s0 H0 C cl fp' pins'' s'' I''
              cases e6 : fe ς5 with
              | none => rw [e6] at hr2; cases hr2
              | some o6 =>
                cases o6 with
                | ex x6 ς6 => rw [e6] at hr2; cases hr2
                | ok r6 ς6 =>
                  rw [e6] at hr2
                  simp only at hr2
                  refine wpAny_mono (he _ hX.blk pins'' s'' σ4 H5 w5 ς5 _ e6 I'' R5 trivial) (fun u6 s6 ⟨v6, H6, w6, I6, rv6, F6, R6, ro6⟩ => ⟨v6, H6, I6, rv6, ?_⟩) fun _ _ z => z
                  cases e7 : settle ς6 r6 with
                  | none => rw [e7] at hr2; cases hr2
                  | some p7 =>
                    obtain ⟨x7, ς7⟩ := p7
                    rw [e7] at hr2
                    simp only at hr2
                    cases e8 : lcRun vs t ft fe ds3 (wipeS vs ς7) with
                    | none => rw [e8] at hr2; cases hr2
                    | some p8 =>
                      rw [e8] at hr2
                      cases hr2
                      obtain ⟨w7, F7, R7, rp7⟩ := settle_ok F6 R6 ro6 e7
                      obtain ⟨o7, f7, d7⟩ := keepD F7 o5 f5 d5
                      have F57 := F25.trans F7
                      have ra7 := ra.mono ((((F3.trans F4).trans F5).trans F7).hf) ((((F3.trans F4).trans F5).trans F7).ad)
                      have hla : accV.length < sizeLine := by
                        have h1 := ra.length
                        have h2 : (accD ++ (x7 :: p8.1)).length ≤ sizeLine := by rw [hxs]; exact hz
                        rw [List.length_append, List.length_cons] at h2
                        omega
                      refine ⟨accV, d7, hla, ds3.length, by simp, w7, _, accV ++ [v6], accD ++ [x7], ds3, p8.1, rfl, hdn, hlt, ⟨F57.hf, F57.ad, fun b u h1 h2 => ?_, F57.nf, fun b h => ?_, F57.h0, F57.as, F57.ow⟩, (R7.poke o7 f7 d7).wipe hw4 hro, o7, f7, upd_same, ra7.append (.cons rp7 .nil), e8, by rw [List.append_assoc]; exact hxs⟩
                      · have nb : b ≠ D := fun q => by rw [q, hD] at h1; cases h1
                        rw [upd_ne nb]
                        exact F57.kp b u h1 h2
                      · by_cases hb : b = D
                        · rw [hb]; exact hD
                        · rw [upd_ne hb] at h
                          exact F57.dm b h
theorem ve_lc {c : Ctx} {elt tg iter : Expr} {ifs : List Expr} {scope : Scope} {own : List (Str × Nat)} {pos : Pos} {fi : Act (List Dat)} {t : Dat → St → Option St} {is : List Nat} {ft : Act Bool} {fe : Act ER} (hi : VI c tg iter fi) (hg : VG (c.blk scope) tg t is) (ht : VTs (c.blk scope) ifs ft) (he : VE (c.blk scope) elt fe)
    (ok : BlkOk c.N c.sc scope own) (his : ∀ i ∈ is, i ∈ own.map (·.2)) (hro : ∀ j ∈ own.map (·.2), c.ro j = false) (hs : ∀ env x, foldedSetIterable iter env x = pure x) :
    VE c (.ListComp elt [⟨tg, iter, ifs, 0⟩] scope pos) (lcA (own.map (·.2)) t ft fe fi) := .of fun X hX pins s σ H w ς o ho I R T => by
  have hN : X.N.Nodup := by rw [hX.N]; exact hX.nd
  have pe : PE X (.ListComp elt [⟨tg, iter, ifs, 0⟩] scope pos) (tLc (wiOf X tg iter) (ggOf X scope tg) (ttOf X scope ifs) (teOf X scope elt) (own.map (·.2))) :=
    pe_lc hX.calm hN ⟨fun pins s σ H Rr I h => h pins s I⟩ (by rw [hX.N, hX.sc]; exact ok) (fun s0 H0 C cl fp => ⟨fun pins s σ H v u Q I r h => h s0 H0 C cl fp pins s u I r⟩)
      (fun s0 H0 C cl fp => ⟨fun pins s σ H Q I h => h s0 H0 C cl fp pins s I⟩) (fun s0 H0 C cl fp => ⟨fun pins s σ H Q I h => h s0 H0 C cl fp pins s I⟩) (hs _)
  unfold lcA Act.bnd at ho
  cases q : fi ς with
  | none => rw [q] at ho; cases ho
  | some o1 =>
    rw [q] at ho
    cases o1 with
    | ex x ς1 =>
      cases ho
      refine wpAny_mono (pe.run pins s σ H (fun _ _ => False) I fun pins' s' I' => ?_) (fun u s' ⟨_, _, _, _, z⟩ => z.elim) fun _ _ z => z
      exact wpAny_mono (hi X hX pins' s' σ H w ς _ q I' R T) (fun u s1 z => wpAny_mono z (fun u s2 z => z.elim) fun _ _ z => z) fun _ _ z => z
    | ok ds ς1 =>
      simp only at ho
      split at ho
      · rename_i hno
        split at ho
        · rename_i xs ς2 hrun
          split at ho
          · rename_i hz
            cases ho
            exact wpAny_mono (pe.run pins s σ H (fun v H' => ∃ w', Fr w H w' H' ∧ Rel c.toSta c.n (VS.restore ς1 (own.map (·.2)) ς2) σ H' w' ∧ ResOk c.toSta w' H H' σ v (.tp (.lst xs))) I
              (lc_reads hi hg ht he his hro hX q R hno hrun hz fun v H' w' F R ro => ⟨w', F, R, ro⟩)) (fun u s' ⟨v, H', I', rv, w', F', R', ro⟩ => ⟨v, H', w', I', rv, F', R', ro⟩) fun _ _ z => z
          · cases ho
        · cases ho
      · cases ho
/-- x = [..] on one line -/
theorem vs_setLc {c : Ctx} {elt tg iter : Expr} {ifs : List Expr} {scope : Scope} {own : List (Str × Nat)} {pos spos py : Pos} {y : Str} {i : Nat} {fi : Act (List Dat)} {t : Dat → St → Option St} {is : List Nat} {ft : Act Bool} {fe : Act ER} (hy : c.N[i]? = some y) (hyl : c.sc.names.lookup y = some .local) (hr : c.ro i = false) (hi : VI c tg iter fi) (hg : VG (c.blk scope) tg t is) (ht : VTs (c.blk scope) ifs ft) (he : VE (c.blk scope) elt fe)
    (ok : BlkOk c.N c.sc scope own) (his : ∀ i ∈ is, i ∈ own.map (·.2)) (hro : ∀ j ∈ own.map (·.2), c.ro j = false) (hs : ∀ env x, foldedSetIterable iter env x = pure x)
    (hk : c.sc.kind = .function) (hl : (py.line == pos.line) = true) (ha : (scope.names.any fun (n, k) => n == y && (k == .local || k == .cell)) = false) :
    VS1 c (.Assign [.Name y py] (.ListComp elt [⟨tg, iter, ifs, 0⟩] scope pos) spos) (setA i (lcA (own.map (·.2)) t ft fe fi)) := .of fun X hX pins s σ H w ς o ho I R T => by
  have hN : X.N.Nodup := by rw [hX.N]; exact hX.nd
  have ps : PS X (.Assign [.Name y py] (.ListComp elt [⟨tg, iter, ifs, 0⟩] scope pos) spos) (tAsg (tLc (wiOf X tg iter) (ggOf X scope tg) (ttOf X scope ifs) (teOf X scope elt) (own.map (·.2))) (gName i)) :=
    ps_setLc hX.calm hN (by rw [hX.N]; exact hy) (by rw [hX.sc]; exact hyl) (sw_true (by rw [hX.sc]; exact hk) (by rw [hX.sc]; exact hyl) hl ha) ⟨fun pins s σ H Rr I h => h pins s I⟩ (by rw [hX.N, hX.sc]; exact ok) (fun s0 H0 C cl fp => ⟨fun pins s σ H v u Q I r h => h s0 H0 C cl fp pins s u I r⟩)
      (fun s0 H0 C cl fp => ⟨fun pins s σ H Q I h => h s0 H0 C cl fp pins s I⟩) (fun s0 H0 C cl fp => ⟨fun pins s σ H Q I h => h s0 H0 C cl fp pins s I⟩) (hs _)
  have nix : ∀ {P : Flow → Shared → Prop} (fl : Flow) (s' : Shared), SP X pins { nx := fun _ _ => False, rt := fun _ _ => False } fl s' → P fl s' := fun {P} fl s' z => by
    cases fl with
    | next => obtain ⟨_, _, _, z⟩ := z; exact z.elim
    | ret u => obtain ⟨_, _, _, _, _, z⟩ := z; exact z.elim
    | brk => obtain ⟨_, _, _, z⟩ := z; exact z.elim
    | cont => obtain ⟨_, _, _, z⟩ := z; exact z.elim
  unfold setA Act.bnd lcA Act.bnd at ho
  cases q : fi ς with
  | none => rw [q] at ho; cases ho
  | some o1 =>
    rw [q] at ho
    cases o1 with
    | ex x ς1 =>
      cases ho
      refine wpAny_mono (ps.run pins s σ H { nx := fun _ _ => False, rt := fun _ _ => False } I fun pins' s' I' => ?_) nix fun _ _ z => z
      exact wpAny_mono (hi X hX pins' s' σ H w ς _ q I' R T) (fun u s1 z => wpAny_mono z (fun u s2 z => z.elim) fun _ _ z => z) fun _ _ z => z
    | ok ds ς1 =>
      simp only at ho
      by_cases hno : noOwn ς1 (own.map (·.2)) = true
      · rw [if_pos hno] at ho
        cases hrun : lcRun (own.map (·.2)) t ft fe ds (wipeS (own.map (·.2)) ς1) with
        | none => rw [hrun] at ho; cases ho
        | some p =>
          obtain ⟨xs, ς2⟩ := p
          rw [hrun] at ho
          simp only at ho
          by_cases hz : xs.length ≤ sizeLine
          · rw [if_pos hz] at ho
            simp only at ho
            cases ho
            have hlen : i < c.N.length := (List.getElem?_eq_some_iff.mp hy).1
            refine wpAny_mono (ps.run pins s σ H { nx := fun σ' H' => ∃ w', Fr w H w' H' ∧ Rel c.toSta c.n ((VS.restore ς1 (own.map (·.2)) ς2).set i (some (.ow (.lst xs)))) σ' H' w', rt := fun _ _ => False } I
              (lc_reads hi hg ht he his hro hX q R hno hrun hz fun v H' w' F' R' ro => setR_ok F' R' (fun a h => by rw [F'.h0]; exact R.dom a h) hlen (by rw [I.len, hX.N]) hr ro rfl)) (fun fl s' z => ?_) fun _ _ z => z
            cases fl with
            | next => obtain ⟨σ', H', I', w', F', R'⟩ := z; exact ⟨σ', H', w', I', F', R'⟩
            | ret u => obtain ⟨_, _, _, _, _, z⟩ := z; exact z.elim
            | brk => obtain ⟨_, _, _, z⟩ := z; exact z.elim
            | cont => obtain ⟨_, _, _, z⟩ := z; exact z.elim
          · rw [if_neg hz] at ho; cases ho
      · rw [if_neg hno] at ho; cases ho
end VS

namespace VS
open PySem L2 PyProof.Rows

section
variable {c : Ctx} {X : Cx} {a b e tg iter : Expr} {fa fb fc : Act ER} {pos : Pos} {es : List Expr} {f : Act ER} {st : Stmt} {rest body : List Stmt} {g : Act (List ER)}
/-! ### range -/
def inR (i : Int) : Bool := decide (-(2 ^ 62) ≤ i ∧ i < 2 ^ 62)
def rangeF : List Dat → Option (List Dat)
  | [.int j] => if inR j = true then some (rangeD 0 j.toNat) else none
  | [.int i, .int j] => if (inR i && inR j) = true then some (rangeD i (j - i).toNat) else none
  | _ => none
def rangeA (fs : Act (List ER)) : Act (List Dat) := fs.bnd fun rs ς => ((curL ς rs).bind rangeF).map fun ds => .ok ds ς
theorem inR_of {i : Int} (h : inR i = true) : -(2 ^ 62) ≤ i ∧ i < 2 ^ 62 := of_decide_eq_true h
theorem vi_range {p : Pos} (ha : VA c (e :: es) g) (hg : GlS c "range") (hm : c.mg "range" = none)
    (he : ∀ env, starEach (e :: es) env = (false, eval e env) :: starEach es env) (hpl : ∀ env, (backTo pos (starEach es env)).any (·.1) = false) : VI c tg (.Call (.Name "range" p) (e :: es) [] pos) (rangeA g) := fun X hX pins s σ H w ς o ho I R T => by
  refine Call_ (ld_blt I (hg.gl hX) (by rw [hX.mg]; exact hm) boot_range (PyProof.Rows.callWith_type1 (va_then ha hX I R T ho fun rs ς1 us s1 vs H1 w1 h1 I1 rvs F1 R1 T1 ros => ?_) (he _) (hpl _)))
  cases e : curL ς1 rs with
  | none => rw [e] at h1; cases h1
  | some ds =>
    rw [e] at h1
    cases e2 : rangeF ds with
    | none => simp only [Option.bind_some, e2] at h1; cases h1
    | some ys =>
      simp only [Option.bind_some, e2] at h1
      cases h1
      have va := R1.views ros e
      unfold rangeF at e2
      split at e2
      · rename_i j
        split at e2
        · rename_i hj
          cases e2
          obtain ⟨v, rfl, hv⟩ := va.one
          obtain rfl := hv.int
          obtain ⟨q1, q2⟩ := inR_of hj
          obtain ⟨u, rfl, t, rfl⟩ := vals1 rvs
          exact call_range_1 (range_it I1 (by omega) (by omega) q1 q2 ⟨w1, F1, R1, by simpa using walk_range 0 j.toNat w1⟩)
        · cases e2
      · rename_i i j
        split at e2
        · rename_i hj
          rw [Bool.and_eq_true] at hj
          cases e2
          obtain ⟨v, u, rfl, hv, hu⟩ := va.two
          obtain rfl := hv.int
          obtain rfl := hu.int
          obtain ⟨q1, q2⟩ := inR_of hj.1
          obtain ⟨q3, q4⟩ := inR_of hj.2
          obtain ⟨u1, u2, rfl, ⟨t, rfl⟩, ⟨t', rfl⟩⟩ := vals2 rvs
          exact call_range_2 (range_it I1 q1 q2 q3 q4 ⟨w1, F1, R1, walk_range i (j - i).toNat w1⟩)
        · cases e2
      · cases e2

/-! ### a < b < c -/
def chainA (g1 g2 : Dat → Dat → Option ER) (fa fb fc : Act ER) : Act ER := fa.bnd fun r1 => fb.bnd fun r2 => (opD g1 r1 r2).bnd fun q => (truA q).bnd fun k => if k = true then fc.bnd fun r3 => opD g2 r2 r3 else Act.ret q
theorem opD_then {β : Type} {f : Value → Value → Sem Value} {g : Dat → Dat → Option ER} {k : ER → Act β} {o : Out β} (hf : P2 c f g) (hX : c.Ok X) {pins : List (Addr × Obj)} {s : Shared} {σ : L2.St} {H Hs Hs' : Hp} {w : W} {ς : St} {r1 r2 : ER} {v1 v2 : V} {u1 u2 : Value}
    (I : Inv X pins σ H s) (R : Rel c.toSta c.n ς σ H w) (T : XT c X w H o) (rv1 : RelV v1 u1) (rv2 : RelV v2 u2) (ro1 : ResOk c.toSta w Hs H σ v1 r1) (ro2 : ResOk c.toSta w Hs' H σ v2 r2) (ho : (opD g r1 r2).bnd k ς = some o) {Q : Value → Shared → Prop}
    (hk : ∀ (r : ER) (ς1 : St) (u : Value) (s1 : Shared) (v : V) (H1 : Hp) (w1 : W), k r ς1 = some o → Inv X pins σ H1 s1 → RelV v u → Fr w H w1 H1 → Rel c.toSta c.n ς1 σ H1 w1 → XT c X w1 H1 o → ResOk c.toSta w1 H H1 σ v r → Q u s1) :
    wpAny (model X.prog X.w) X.A (f u1 u2) Q X.xe s := by
  unfold Act.bnd opD at ho
  cases e1 : cur ς r1 with
  | none => rw [e1] at ho; cases ho
  | some d1 =>
    cases e2 : cur ς r2 with
    | none => rw [e1, e2] at ho; cases ho
    | some d2 =>
      rw [e1, e2] at ho
      simp only at ho
      cases e3 : g d1 d2 with
      | none => rw [e3] at ho; cases ho
      | some r =>
        rw [e3] at ho
        simp only [Option.map_some] at ho
        exact wpAny_mono (hf X hX pins s σ H w ς v1 v2 u1 u2 d1 d2 r I R rv1 rv2 (R.view ro1 e1) (R.view ro2 e2) e3) (fun u s1 ⟨v, H1, w1, I1, rv, F1, R1, ro⟩ => hk r ς u s1 v H1 w1 ho I1 rv F1 R1 (T.from F1) ro) fun _ _ z => z.elim
theorem ve_chain {op op' : CmpOp} {g1 g2 : Dat → Dat → Option ER} {e3 : Expr} (h1 : P2 c (compareOp op) g1) (h2 : P2 c (compareOp op') g2) (ha : VE c a fa) (hb : VE c b fb) (hc : VE c e3 fc) (hm : lastMarks [op, op'] [b, e3] = false) : VE c (.Compare a [op, op'] [b, e3] pos) (chainA g1 g2 fa fb fc) := .of fun X hX pins s σ H w ς o ho I R T => by
  refine Compare_chain (ve_then ha hX I R T ho fun r1 ς1 u1 s1 v1 H1 w1 ho1 I1 rv1 F1 R1 T1 ro1 => chain_link (ve_then hb hX I1 R1 T1 ho1 fun r2 ς2 u2 s2 v2 H2 w2 ho2 I2 rv2 F2 R2 T2 ro2 => ?_)) hm
  refine opD_then h1 hX I2 R2 T2 rv1 rv2 (ro1.carry F2) ro2 ho2 fun q ς3 u3 s3 v3 H3 w3 ho3 I3 rv3 F3 R3 T3 ro3 => ?_
  refine tru_then hX I3 R3 rv3 ro3 ho3 fun k s4 ho4 I4 => ?_
  cases k with
  | false =>
    cases ho4
    exact ite_ff ⟨v3, H3, w3, I4, rv3, (F1.trans F2).trans F3, R3, ro3.back (F1.trans F2).dm⟩
  | true =>
    refine ite_tt (chain_last (ve_then hc hX I4 R3 T3 ho4 fun r5 ς5 u5 s5 v5 H5 w5 ho5 I5 rv5 F5 R5 T5 ro5 => ?_))
    have ho5' : (opD g2 r2 r5).bnd (fun r => Act.ret r) ς5 = some o := by
      unfold Act.bnd
      rw [ho5]
      cases o <;> rfl
    refine opD_then h2 hX I5 R5 T5 rv2 rv5 ((ro2.carry F3).carry F5) ro5 ho5' fun q ς6 u6 s6 v6 H6 w6 ho6 I6 rv6 F6 R6 T6 ro6 => ?_
    cases ho6
    have FF := ((F1.trans F2).trans F3).trans F5
    exact ⟨v6, H6, w6, I6, rv6, FF.trans F6, R6, ro6.back FF.dm⟩
theorem vt_chain {op op' : CmpOp} {g1 g2 : Dat → Dat → Option ER} {e3 : Expr} (h1 : P2 c (compareOp op) g1) (h2 : P2 c (compareOp op') g2) (ha : VE c a fa) (hb : VE c b fb) (hc : VE c e3 fc) (hm : lastMarks [op, op'] [b, e3] = false) :
    VT c (.Compare a [op, op'] [b, e3] pos) (fa.bnd fun r1 => fb.bnd fun r2 => (opD g1 r1 r2).bnd fun q => (truA q).bnd fun k => if k = true then fc.bnd fun r3 => (opD g2 r2 r3).bnd truA else Act.ret false) := .of fun X hX whole pins s σ H w ς o ho I R T hw => by
  refine isTrue_chain (ve_then ha hX I R T ho fun r1 ς1 u1 s1 v1 H1 w1 ho1 I1 rv1 F1 R1 T1 ro1 => test_link (ve_then hb hX I1 R1 T1 ho1 fun r2 ς2 u2 s2 v2 H2 w2 ho2 I2 rv2 F2 R2 T2 ro2 => ?_)) hm
  refine opD_then h1 hX I2 R2 T2 rv1 rv2 (ro1.carry F2) ro2 ho2 fun q ς3 u3 s3 v3 H3 w3 ho3 I3 rv3 F3 R3 T3 ro3 => ?_
  refine tru_then hX I3 R3 rv3 ro3 ho3 fun k s4 ho4 I4 => ?_
  cases k with
  | false =>
    cases ho4
    exact ite_ff ⟨rfl, H3, w3, I4, (F1.trans F2).trans F3, R3⟩
  | true =>
    refine ite_tt (test_last (ve_then hc hX I4 R3 T3 ho4 fun r5 ς5 u5 s5 v5 H5 w5 ho5 I5 rv5 F5 R5 T5 ro5 => ?_))
    refine opD_then h2 hX I5 R5 T5 rv2 rv5 ((ro2.carry F3).carry F5) ro5 ho5 fun q ς6 u6 s6 v6 H6 w6 ho6 I6 rv6 F6 R6 T6 ro6 => ?_
    have FF := ((F1.trans F2).trans F3).trans F5
    exact truthy_run hX ho6 I6 R6 (FF.trans F6) rv6 (ro6.back FF.dm)

/-! ### built-ins over lists -/
def blsD : List Dat → Option (List Bool)
  | [] => some []
  | .bl b :: r => (blsD r).map (b :: ·)
  | _ => none
theorem Reps.bls {S : Sta} {Hf : Hp} {ads : Nat → Option Addr} : ∀ {vs : List V} {ds : List Dat} {bs : List Bool}, Reps S Hf ads vs ds → blsD ds = some bs → vs = bs.map V.bl
  | _, _, _, .nil, e => by cases e; rfl
  | _, .bl b :: r, _, .cons h t, e => by
    unfold blsD at e
    cases q : blsD r with
    | none => rw [q] at e; cases e
    | some bs => rw [q] at e; cases e; cases h; rw [Reps.bls t q]; rfl
  | _, .non :: r, _, .cons h t, e => by cases e
  | _, .int _ :: r, _, .cons h t, e => by cases e
  | _, .str _ :: r, _, .cons h t, e => by cases e
  | _, .ty _ :: r, _, .cons h t, e => by cases e
  | _, .fn _ :: r, _, .cons h t, e => by cases e
  | _, .cl _ :: r, _, .cons h t, e => by cases e
  | _, .obj _ :: r, _, .cons h t, e => by cases e
  | _, .tup _ :: r, _, .cons h t, e => by cases e
  | _, .lst _ :: r, _, .cons h t, e => by cases e
  | _, .dic _ :: r, _, .cons h t, e => by cases e
  | _, .dit _ :: r, _, .cons h t, e => by cases e
  | _, .set _ :: r, _, .cons h t, e => by cases e
def allD : List Dat → Option ER
  | [.lst ds] => (blsD ds).map fun bs => .fr (.bl (bs.all id))
  | _ => none
def anyD : List Dat → Option ER
  | [.lst ds] => (blsD ds).map fun bs => .fr (.bl (bs.any id))
  | _ => none
theorem pn_all : PN c (.builtin "all") allD := PN.of fun X hX pins s σ H w ς vs ds r I R va e => by
  unfold allD at e
  split at e
  · rename_i ds
    cases q : blsD ds with
    | none => rw [q] at e; cases e
    | some bs =>
      rw [q] at e
      cases e
      obtain ⟨v, rfl, hv⟩ := va.one
      obtain ⟨p, vs, rfl, hp, rp⟩ := hv.lst R.sub
      refine ⟨_, fun v' H' => v' = .bl (bs.all id) ∧ H' = H, cr_all hX.calm, ⟨p, bs, rfl, by rw [← rp.bls q]; show SqL X.K H p vs; rw [hX.K]; exact hp, rfl, rfl⟩, fun v' H' u s' ⟨e1, e2⟩ I' rv => ?_⟩
      subst e1; subst e2
      exact ne_fr I' rv R (.bl _)
  · cases e
theorem pn_any : PN c (.builtin "any") anyD := PN.of fun X hX pins s σ H w ς vs ds r I R va e => by
  unfold anyD at e
  split at e
  · rename_i ds
    cases q : blsD ds with
    | none => rw [q] at e; cases e
    | some bs =>
      rw [q] at e
      cases e
      obtain ⟨v, rfl, hv⟩ := va.one
      obtain ⟨p, vs, rfl, hp, rp⟩ := hv.lst R.sub
      refine ⟨_, fun v' H' => v' = .bl (bs.any id) ∧ H' = H, cr_any hX.calm, ⟨p, bs, rfl, by rw [← rp.bls q]; show SqL X.K H p vs; rw [hX.K]; exact hp, rfl, rfl⟩, fun v' H' u s' ⟨e1, e2⟩ I' rv => ?_⟩
      subst e1; subst e2
      exact ne_fr I' rv R (.bl _)
  · cases e
theorem vals_mk : ∀ {vs : List V} {us : List Value}, vs.length = us.length → (∀ (i : Nat) (u : Value), us[i]? = some u → ∃ v, vs[i]? = some v ∧ RelV v u) → Vals vs us
  | [], [], _, _ => .nil
  | v :: vs, u :: us, hl, h => by
    obtain ⟨v', h1, h2⟩ := h 0 u rfl
    cases h1
    exact .cons h2 (vals_mk (by simpa using hl) fun i u' hu => by simpa using h (i + 1) u' (by simpa using hu))
  | [], _ :: _, hl, _ => by simp at hl
  | _ :: _, [], hl, _ => by simp at hl
/-- list(x) of a list, a tuple, a text -/
def listD : List Dat → Option ER
  | [.lst ds] => some (.tp (.lst ds))
  | [.tup ds] => some (.tp (.lst ds))
  | [.str x] => if x.cps.size ≤ sizeLine then some (.tp (.lst (signsD x))) else none
  | _ => none
theorem pn_list : PN c (.type "list") listD := fun X hX pins s σ H w ς vs us ds r I R rvs va e => by
  have seq : ∀ {p : Addr} {ys : List V} {es : List Dat}, (SqL X.K H p ys ∨ SqT X.K H p ys) → Reps c.toSta w.Hf w.ads ys es → vs = [.ref p] → r = .tp (.lst es) → wpAny (model X.prog X.w) X.A (call (.type "list") us) (NE c X pins σ w H (.ok r ς)) (fun _ _ => False) s := fun {p ys es} hq rp e1 e2 => by
    subst e1; subst e2
    refine wpAny_mono (call_list_of (X := X.nox) pins s σ H [.ref p] us (fun v' H' => ∃ l, H l = none ∧ v' = .ref l ∧ H' = upd H l (.lst ys)) (I.wish _) rvs ⟨p, ys, rfl, hq, fun l hl => ⟨l, hl, rfl, rfl⟩⟩) (fun u s' ⟨v', H', I', rv, l, hl, e1, e2⟩ => ?_) fun _ _ z => z.elim
    subst e1; subst e2
    cases rv
    exact ne_lst I'.unwish hl R rp
  unfold listD at e
  split at e
  · rename_i ds
    cases e
    obtain ⟨v, rfl, hv⟩ := va.one
    obtain ⟨p, vs, rfl, hp, rp⟩ := hv.lst R.sub
    exact seq (.inl (by rw [hX.K]; exact hp)) rp rfl rfl
  · rename_i ds
    cases e
    obtain ⟨v, rfl, hv⟩ := va.one
    obtain ⟨p, vs, rfl, hp, rp⟩ := hv.tup R.sub
    exact seq (.inr (by rw [hX.K]; exact hp)) rp rfl rfl
  · rename_i x
    split at e
    · rename_i hz
      cases e
      obtain ⟨v, rfl, hv⟩ := va.one
      obtain rfl := hv.str
      obtain ⟨u, rfl, t, rfl⟩ := vals1 rvs
      refine call_list_str (hn := hz) (I.ok.hd hX.calm) x t fun h' tk acc' c' kp hS hacc => ?_
      have hl : acc'.toList.length = x.cps.size := by simpa using hacc.1
      have hv : Vals (x.cps.toList.map fun k => V.str ⟨#[k]⟩) acc'.toList := by
        refine vals_mk (by simpa using hl.symm) fun i u hu => ?_
        obtain ⟨k, t', hk, rfl⟩ := hacc.2 i u (by simpa using hu)
        exact ⟨.str ⟨#[k]⟩, by simp [hk], t', rfl⟩
      have hr : Reps c.toSta w.Hf w.ads (x.cps.toList.map fun k => V.str ⟨#[k]⟩) (signsD x) := by
        unfold signsD
        generalize x.cps.toList = l
        induction l with
        | nil => exact .nil
        | cons k l ih => exact .cons (.str _) ih
      have hf : H s.heap.objs.size = none := I.hok.fresh (Nat.le_refl _)
      have I2 := I.laid (a := s.heap.objs.size) (o := .lst (x.cps.toList.map fun k => V.str ⟨#[k]⟩)) (h' := h') (t' := tk) kp (Nat.le_refl _) ⟨by simpa using hz, acc'.toList, c', hv, hS⟩
      exact ne_lst I2 hf R hr
    · cases e
  · cases e
end
end VS

namespace VS
open PySem L2 PyProof.Rows

/-! ### isinstance -/
def tyN : Dat → Option String
  | .non => some "NoneType"
  | .bl _ => some "bool"
  | .int _ => some "int"
  | .str _ => some "str"
  | .lst _ => some "list"
  | .tup _ => some "tuple"
  | .dic _ => some "dict"
  | _ => none
def isiB (t n : String) : Option Bool :=
  if n = "int" then (if t = "int" then some true else if t = "bool" then some true else if t ∈ ["NoneType", "str", "list", "tuple", "dict"] then some false else none)
  else if n ∈ ["bool", "str", "list", "tuple", "dict"] then (if t ∈ ["NoneType", "bool", "int", "str", "list", "tuple", "dict"] then some (decide (t = n)) else none)
  else none
theorem isiB_ok {t n : String} {b : Bool} (h : isiB t n = some b) : kitB t n = some b := by
  have all : ∀ n ∈ ["int", "bool", "str", "list", "tuple", "dict"], ∀ t ∈ ["NoneType", "bool", "int", "str", "list", "tuple", "dict"], kitB t n = isiB t n := by decide +kernel
  have hn : n ∈ ["int", "bool", "str", "list", "tuple", "dict"] := by
    unfold isiB at h
    split at h
    · rename_i e; subst e; simp
    · split at h
      · rename_i e; exact List.mem_cons_of_mem _ e
      · cases h
  have ht : t ∈ ["NoneType", "bool", "int", "str", "list", "tuple", "dict"] := by
    unfold isiB at h
    split at h
    · split at h
      · rename_i e; subst e; simp
      · split at h
        · rename_i e; subst e; simp
        · split at h
          · rename_i e; revert e; simp only [List.mem_cons, List.not_mem_nil, or_false]; rintro (e | e | e | e | e) <;> subst e <;> simp
          · cases h
    · split at h
      · split at h
        · rename_i e; exact e
        · cases h
      · cases h
  rw [all n hn t ht]
  exact h
def isiD : List Dat → Option ER
  | [d, .ty n] => ((tyN d).bind fun t => isiB t n).map fun b => .fr (.bl b)
  | _ => none
section
variable {c : Ctx} {X : Cx} {a b e tg iter : Expr} {fa fb fc : Act ER} {pos : Pos} {es : List Expr} {f : Act ER} {st : Stmt} {rest body : List Stmt} {g : Act (List ER)}
theorem View.tyN {S : Sta} {w : W} {H : Hp} {v : V} {d : Dat} {t : String} (sub : Ext w.Hf H) (h : View S w H v d) (e : VS.tyN d = some t) : TyX S.K H v (.type t) := by
  cases d with
  | non => cases e; obtain rfl := h.non; exact .base .non
  | bl b => cases e; obtain rfl := h.bl; exact .base (.bl b)
  | int i => cases e; obtain rfl := h.int; exact .base (.int i)
  | str x => cases e; obtain rfl := h.str; exact .base (.str x)
  | lst ds =>
    cases e
    obtain ⟨a, vs, rfl, h1, h2⟩ := h.lst sub
    rcases h1 with (h1 | ⟨o, h1⟩) | ⟨o, its, n, h1, h2, _⟩
    · exact .base (.lst h1)
    · exact .base (.frz h1)
    · exact .kList h1 h2
  | tup ds =>
    cases e
    obtain ⟨a, vs, rfl, h1, h2⟩ := h.tup sub
    rcases h1 with (h1 | ⟨o, h1⟩) | ⟨o, its, n, h1, h2, _⟩
    · exact .base (.tup h1)
    · exact .fTuple h1
    · exact .kTuple h1 h2
  | dic kvs =>
    cases e
    have h1 : ∃ a l, v = .ref a ∧ Rd H a (.dK l) := by
      rcases h with h | ⟨a, rfl, h⟩
      · cases h with
        | dicK h r => exact ⟨_, _, rfl, sub.rd h⟩
      · cases h with
        | dicK h r => exact ⟨_, _, rfl, .inl h⟩
    obtain ⟨a, l, rfl, h1 | ⟨o, h1⟩⟩ := h1
    · exact .base (.dK h1)
    · exact .fDict h1
  | _ => cases e
theorem pn_isi : PN c (.builtin "isinstance") isiD := PN.of fun X hX pins s σ H w ς vs ds r I R va e => by
  unfold isiD at e
  split at e
  · rename_i d n
    cases q : tyN d with
    | none => rw [q] at e; cases e
    | some t =>
      rw [q] at e
      simp only [Option.bind_some] at e
      cases q2 : isiB t n with
      | none => rw [q2] at e; cases e
      | some b =>
        rw [q2] at e
        cases e
        obtain ⟨v, u, rfl, hv, hu⟩ := va.two
        obtain rfl := hu.ty
        refine ⟨_, fun v' H' => v' = .bl b ∧ H' = H, call_isi, ⟨v, .ty n, .type t, .type n, b, rfl, .ty n, by show TyX X.K _ _ _; rw [hX.K]; exact hv.tyN R.sub q, kit_ty (isiB_ok q2), rfl, rfl⟩, fun v' H' u s' ⟨e1, e2⟩ I' rv => ?_⟩
        subst e1; subst e2
        exact ne_fr I' rv R (.bl _)
  · cases e

/-! ### a container of one's own is changed -/
theorem Rel.put {S : Sta} {n : Shp} {ς : St} {σ : L2.St} {H : Hp} {w : W} {j : Nat} {d d' : Dat} (R : Rel S n ς σ H w) (e : ς.sl[j]? = some (some (.ow d))) : ∃ a, σ[j]? = some (some (.ref a)) ∧ OwnC S w.Hf w.ads H a d ∧
    ∀ o', OwnC S w.Hf w.ads (upd H a o') a d' → Rel S n (ς.set j (some (.ow d'))) σ (upd H a o') w ∧ Fr w H w (upd H a o') := by
  obtain ⟨v, ev, a, rfl, ho, hn, hc, hy⟩ := R.slots _ _ e
  refine ⟨a, ev, hc, fun o' hc' => ?_⟩
  obtain ⟨o, hO⟩ := hc.there
  have so : ∀ {l v s}, l ≠ .slot j → SlotOk S w H l v s → SlotOk S w (upd H a o') l v s := fun {l v s} hl h => by
    cases s with
    | fr d => exact h
    | ow d =>
      obtain ⟨b, e, q1, q2, q3, q4⟩ := h
      have na : b ≠ a := fun q => by rw [q, ho] at q1; exact hl (Option.some.inj q1).symm
      exact ⟨b, e, q1, q2, q3.mono (Ext.refl _) (fun _ _ h => h) (upd_ne na), q4⟩
  have nn : ∀ b, (upd H a o') b = none → H b = none := fun b h => by
    by_cases hb : b = a
    · rw [hb, upd_same] at h; cases h
    · rwa [upd_ne hb] at h
  refine ⟨⟨fun b u h => ?_, R.nof, by rw [St.set_len]; exact R.len, fun i s e' => ?_, fun k ov e' => ?_, R.adk, fun b h => R.dom b (nn b h), fun b h => R.own0 b (nn b h), R.arg, R.arl⟩,
    ⟨Ext.refl _, fun _ _ h => h, fun b u h1 h2 => ⟨by rw [upd_ne (fun q => by rw [q, ho] at h2; cases h2)]; exact h1, h2⟩, fun _ _ _ _ h => h, nn, rfl, rfl, fun _ _ _ _ h => .inl h⟩⟩
  · have na : b ≠ a := fun q => by rw [q, hn] at h; cases h
    rw [upd_ne na]
    exact R.sub b u h
  · by_cases hij : j = i
    · subst hij
      rw [St.set_same e] at e'
      cases e'
      exact ⟨_, ev, a, rfl, ho, hn, hc', hy⟩
    · rw [St.set_ne hij] at e'
      obtain ⟨v, e1, e2⟩ := R.slots i s e'
      exact ⟨v, e1, so (fun q => by cases q; exact hij rfl) e2⟩
  · obtain ⟨b, C, dx, fs, q1, q2, q3, q4, q5, q6, q7⟩ := (R.obs k ov e').ex
    have na : b ≠ a := fun q => by rw [q, ho] at q3; cases q3
    exact ⟨b, C, dx, fs, q1, q2, q3, q4, by rw [upd_ne na]; exact q5, q6, fun i f v s e1 e2 => so (fun q => by cases q) (q7 i f v s e1 e2)⟩
/-- o[i] = v on a container of one's own -/
def PSt (c : Ctx) (g : Dat → Dat → Dat → Option Dat) : Prop :=
  ∀ X, c.Ok X → ∀ (pins : List (Addr × Obj)) (s : Shared) (σ : L2.St) (H : Hp) (w : W) (ς : St) (a : Addr) (y z : V) (u2 u3 : Value) (d k x d' : Dat),
    Inv X pins σ H s → Rel c.toSta c.n ς σ H w → RelV y u2 → RelV z u3 → OwnC c.toSta w.Hf w.ads H a d → View c.toSta w H y k → Rep c.toSta w.Hf w.ads z x → g d k x = some d' →
    wpAny (model X.prog X.w) X.A (setItem (.ref a) u2 u3) (fun _ s' => ∃ o', Inv X pins σ (upd H a o') s' ∧ OwnC c.toSta w.Hf w.ads (upd H a o') a d') (fun _ _ => False) s
def stL : Dat → Dat → Dat → Option Dat
  | .lst ds, .int k, x => (ixN ds.length k).map fun j => .lst (ds.set j x)
  | _, _, _ => none
theorem pst_lst : PSt c stL := fun X hX pins s σ H w ς a y z u2 u3 d k x d' I R r2 r3 hc hv hr e => by
  unfold stL at e
  split at e
  · rename_i ds k
    cases q : ixN ds.length k with
    | none => rw [q] at e; cases e
    | some j =>
      rw [q] at e
      cases e
      obtain rfl := hv.int
      cases hc with
      | lst h rs =>
        rename_i vs
        refine wpAny_mono (set_list (X := X.nox) pins s σ H (.ref a) (.int k) z _ _ _ (fun H' => H' = upd H a (.lst (vs.set j z))) (I.wish _) rfl r2 r3 ⟨a, vs, k, j, rfl, rfl, h, by rw [rs.length]; exact q, rfl⟩) (fun _ s' ⟨H', I', e1⟩ => ?_) fun _ _ z => z.elim
        subst e1
        exact ⟨_, I'.unwish, .lst upd_same (rs.set hr j)⟩
  · cases e
theorem ResOks.pair {S : Sta} {σ : L2.St} {w w1 w2 : W} {H0 H1 H1' H2 : Hp} {v1 v2 : V} {r1 r2 : ER} (ro1 : ResOk S w1 H0 H1 σ v1 r1) (F1 : Fr w1 H1 w H1') (F2 : Fr w H1' w2 H2) (h0 : ∀ a, H1 a = none → H0 a = none) (ro2 : ResOk S w2 H1' H2 σ v2 r2) : ResOks S w2 H0 H2 σ [v1, v2] [r1, r2] := by
  have ro2' : ResOk S w2 H0 H2 σ v2 r2 := ro2.back fun a h => h0 a (F1.dm a h)
  refine .cons ((ro1.carry F1).carry F2) (.cons ro2' .nil fun a _ p hp => by simp at hp) fun a ha p hp hm => ?_
  have hp : p = (v2, r2) := by simpa using hp
  subst hp
  have hn : H1' a = none := by
    cases r2 with
    | fr d => cases v2 <;> simp [tpAd] at hm
    | sl i => cases v2 <;> simp [tpAd] at hm
    | tp d =>
      obtain ⟨b, rfl, q, _⟩ := ro2
      simp only [tpAd, List.mem_singleton] at hm
      rw [hm]; exact q
  have hn1 := F1.dm a hn
  cases r1 with
  | fr d => cases v1 <;> simp [tpAd] at ha
  | sl i => cases v1 <;> simp [tpAd] at ha
  | tp d =>
    obtain ⟨b, rfl, _, _, _, h4⟩ := ro1
    simp only [tpAd, List.mem_singleton] at ha
    obtain ⟨o, h5⟩ := h4.there
    rw [ha, h5] at hn1
    cases hn1
def stIx (g : Dat → Dat → Dat → Option Dat) (r ro ri : ER) : Act Flw := fun ς => match settleL ς [r, ri] with
  | some ([x, k], ς') => match ro with
    | .sl j => match ς'.sl[j]? with
      | some (some (.ow d)) => (g d k x).map fun d' => .ok .nx (ς'.set j (some (.ow d')))
      | _ => none
    | _ => none
  | _ => none
def stA (g : Dat → Dat → Dat → Option Dat) (f fo fi : Act ER) : Act Flw := f.bnd fun r => fo.bnd fun ro => fi.bnd fun ri => stIx g r ro ri
theorem vs_setIx {o i : Expr} {pos' : Pos} {h : Dat → Dat → Dat → Option Dat} {fo fi : Act ER} (hp : PSt c h) (he : VE c e f) (ho : VE c o fo) (hi : VE c i fi) (hs : ∀ env : Env, swapsWithSole [.Subscript o i pos'] e pos.line env = pure false) (hw : ∀ env : Env, swappedStores [.Subscript o i pos'] e env = pure none)
    (h1 : ∀ env : Env, (assignEach [.Subscript o i pos'] env).map (·.2) = [assign (.Subscript o i pos') env]) (ha : ∀ (env : Env) v, assign (.Subscript o i pos') env v = (do
      let ov ← holding [v] (eval o env)
      let iv ← holding [v, ov] (eval i env)
      standAt pos'
      holding [v, ov, iv] (setItem ov iv v)
      release [v, ov, iv] [])) : VS1 c (.Assign [.Subscript o i pos'] e pos) (stA h f fo fi) := .of fun X hX pins s σ H w ς out hout I R T => by
  refine wpAny_Assign_stores (ve_then he hX I R T hout fun r ς1 u s1 v H1 w1 h1' I1 rv F1 R1 T1 ro => ?_) (hs _) (hw _)
  rw [h1]
  show wpAny _ _ (assign (.Subscript o i pos') X.env u) _ _ _
  rw [ha]
  refine wpAny_bind (wpAny_holding (ve_then ho hX I1 R1 T1 h1' fun r2 ς2 u2 s2 v2 H2 w2 h2 I2 rv2 F2 R2 T2 ro2 => ?_))
  refine wpAny_bind (wpAny_holding (ve_then hi hX I2 R2 T2 h2 fun r3 ς3 u3 s3 v3 H3 w3 h3 I3 rv3 F3 R3 T3 ro3 => ?_))
  unfold stIx at h3
  split at h3
  · rename_i x k ς4 e1
    split at h3
    · rename_i j
      split at h3
      · rename_i d hd
        cases e3 : h d k x with
        | none => rw [e3] at h3; cases h3
        | some d' =>
          rw [e3] at h3
          cases h3
          have ros := ResOks.pair ro F2 F3 F1.dm ro3
          obtain ⟨w4, F4, R4, rps, _, _⟩ := settleL_ok ((F1.trans F2).trans F3) R3 ros e1
          cases rps with
          | cons rp1 rps =>
            cases rps with
            | cons rp2 rps =>
              cases rps
              obtain ⟨a, hσ, hc, put⟩ := R4.put (d' := d') hd
              have ro2 : σ[j]? = some (some v2) := ro2
              rw [ro2] at hσ
              cases hσ
              cases rv2
              refine wpAny_bind (wpAny_standAt (wpAny_bind (wpAny_holding (wpAny_mono (hp X hX pins s3 σ H3 w4 ς4 a v3 v u3 u d k x d' I3 R4 rv3 rv hc (.inl rp2) rp1 e3) (fun _ s4 ⟨o', I4, hc'⟩ => ?_) fun _ _ z => z.elim))))
              obtain ⟨R5, F5⟩ := put o' hc'
              exact wpAny_release ⟨σ, _, w4, I4, F4.trans F5, R5⟩
      · cases h3
    · cases h3
  · cases h3
end
end VS

namespace VS
open PySem L2 PyProof.Rows

/-! ### a, b = x, y -/
def deslL (ς : St) : List ER → Option (List ER × St)
  | [] => some ([], ς)
  | .sl i :: rs => match settle ς (.sl i) with
    | none => none
    | some (d, ς1) => (deslL ς1 rs).map fun p => (.fr d :: p.1, p.2)
  | .fr d :: rs => (deslL ς rs).map fun p => (.fr d :: p.1, p.2)
  | .tp d :: rs => (deslL ς rs).map fun p => (.tp d :: p.1, p.2)
def setRL (ς : St) : List Nat → List ER → Option St
  | [], [] => some ς
  | i :: is, r :: rs => match setR ς i r with
    | none => none
    | some ς1 => setRL ς1 is rs
  | _, _ => none
def setVs (σ : L2.St) : List Nat → List V → L2.St
  | i :: is, v :: vs => setVs (σ.set i (some v)) is vs
  | _, _ => σ
section
variable {S : Sta} {n : Shp} {ς ς' : St} {σ : L2.St} {H H' Hs : Hp} {w w0 w' : W} {v : V} {d : Dat} {r : ER} {vs : List V} {rs : List ER}
theorem deslL_ok : ∀ {rs : List ER} {vs : List V} {w : W} {ς ς' : St} {rs' : List ER}, Fr w0 Hs w H → Rel S n ς σ H w → ResOks S w Hs H σ vs rs → deslL ς rs = some (rs', ς') →
    ∃ w', Fr w0 Hs w' H ∧ Rel S n ς' σ H w' ∧ ResOks S w' Hs H σ vs rs' ∧ (∀ r ∈ rs', ∀ i, r ≠ .sl i) ∧ (∀ p ∈ vs.zip rs', ∀ a ∈ tpAd p.1 p.2, ∃ q ∈ vs.zip rs, a ∈ tpAd q.1 q.2) ∧ ∀ u q, ResOk S w Hs H σ u q → (∀ a ∈ tpAd u q, ∀ p ∈ vs.zip rs, a ∉ tpAd p.1 p.2) → ResOk S w' Hs H σ u q
  | _, _, w, _, _, _, F, R, .nil, e => by
    unfold deslL at e
    cases e
    exact ⟨w, F, R, .nil, fun r h => by simp at h, fun p h => by simp at h, fun _ _ h _ => h⟩
  | .sl i :: rs, v :: vs, w, ς, ς', rs', F, R, .cons h t q, e => by
    unfold deslL at e
    split at e
    · cases e
    · rename_i d ς1 e1
      cases q2 : deslL ς1 rs with
      | none => rw [q2] at e; cases e
      | some p =>
        rw [q2] at e
        cases e
        obtain ⟨w1, F1, R1, rp, x1, y1, k⟩ := settle_ok' F R h e1
        have one : ∀ u z, ResOk S w Hs H σ u z → ResOk S w1 Hs H σ u z := fun u z hz => by
          have := k [u] [z] (.cons hz .nil fun a _ p hp => by simp at hp) (fun a ha => by cases v <;> simp [tpAd] at ha)
          cases this with
          | cons h _ _ => exact h
        obtain ⟨w2, F2, R2, ros, ns, sub, k2⟩ := deslL_ok (ς' := p.2) (rs' := p.1) F1 R1 (k _ _ t q) q2
        refine ⟨w2, F2, R2, .cons (k2 v (.fr d) rp (fun a ha => by cases v <;> simp [tpAd] at ha)) ros (fun a ha => by cases v <;> simp [tpAd] at ha), fun r hr j => ?_, fun p hp a ha => ?_, fun u z hz hd => k2 u z (one u z hz) fun a ha p hp => hd a ha p (by rw [List.zip_cons_cons]; exact List.mem_cons_of_mem _ hp)⟩
        · rcases List.mem_cons.mp hr with rfl | hr
          · intro z; cases z
          · exact ns r hr j
        · rw [List.zip_cons_cons] at hp
          rcases List.mem_cons.mp hp with rfl | hp
          · cases v <;> simp [tpAd] at ha
          · obtain ⟨q, hq, h⟩ := sub p hp a ha
            exact ⟨q, by rw [List.zip_cons_cons]; exact List.mem_cons_of_mem _ hq, h⟩
  | .fr d :: rs, v :: vs, w, ς, ς', rs', F, R, .cons h t q, e => by
    unfold deslL at e
    cases q2 : deslL ς rs with
    | none => rw [q2] at e; cases e
    | some p =>
      rw [q2] at e
      cases e
      obtain ⟨w2, F2, R2, ros, ns, sub, k2⟩ := deslL_ok (ς' := p.2) (rs' := p.1) F R t q2
      refine ⟨w2, F2, R2, .cons (k2 v (.fr d) h (fun a ha => by cases v <;> simp [tpAd] at ha)) ros (fun a ha => by cases v <;> simp [tpAd] at ha), fun r hr j => ?_, fun p hp a ha => ?_, fun u z hz hd => k2 u z hz fun a ha p hp => hd a ha p (by rw [List.zip_cons_cons]; exact List.mem_cons_of_mem _ hp)⟩
      · rcases List.mem_cons.mp hr with rfl | hr
        · intro z; cases z
        · exact ns r hr j
      · rw [List.zip_cons_cons] at hp
        rcases List.mem_cons.mp hp with rfl | hp
        · cases v <;> simp [tpAd] at ha
        · obtain ⟨q, hq, h⟩ := sub p hp a ha
          exact ⟨q, by rw [List.zip_cons_cons]; exact List.mem_cons_of_mem _ hq, h⟩
  | .tp d :: rs, v :: vs, w, ς, ς', rs', F, R, .cons h t q, e => by
    unfold deslL at e
    cases q2 : deslL ς rs with
    | none => rw [q2] at e; cases e
    | some p =>
      rw [q2] at e
      cases e
      obtain ⟨w2, F2, R2, ros, ns, sub, k2⟩ := deslL_ok (ς' := p.2) (rs' := p.1) F R t q2
      refine ⟨w2, F2, R2, .cons (k2 v (.tp d) h q) ros (fun a ha p hp hm => ?_), fun r hr j => ?_, fun p hp a ha => ?_, fun u z hz hd => k2 u z hz fun a ha p hp => hd a ha p (by rw [List.zip_cons_cons]; exact List.mem_cons_of_mem _ hp)⟩
      · obtain ⟨z, hz, hz2⟩ := sub p hp a hm
        exact q a ha z hz hz2
      · rcases List.mem_cons.mp hr with rfl | hr
        · intro z; cases z
        · exact ns r hr j
      · rw [List.zip_cons_cons] at hp
        rcases List.mem_cons.mp hp with rfl | hp
        · exact ⟨_, by rw [List.zip_cons_cons]; exact List.mem_cons_self .., ha⟩
        · obtain ⟨q, hq, h⟩ := sub p hp a ha
          exact ⟨q, by rw [List.zip_cons_cons]; exact List.mem_cons_of_mem _ hq, h⟩
theorem ResOks.take {a : Addr} {l : Loc} {σ' : L2.St} (h : ResOks S w Hs H σ vs rs) : (∀ r ∈ rs, ∀ i, r ≠ .sl i) → (∀ p ∈ vs.zip rs, a ∉ tpAd p.1 p.2) → ResOks S (VS.take w a l) Hs H σ' vs rs := by
  induction h with
  | nil => intro _ _; exact .nil
  | @cons v r vs rs h _ q ih =>
    intro ns hl
    rw [List.zip_cons_cons] at hl
    refine .cons ?_ (ih (fun r hr => ns r (List.mem_cons_of_mem _ hr)) fun p hp => hl p (List.mem_cons_of_mem _ hp)) q
    cases r with
    | fr d => exact h
    | sl i => exact absurd rfl (ns _ (List.mem_cons_self ..) i)
    | tp d =>
      obtain ⟨b, rfl, h1, h2, h3, h4⟩ := h
      have nb : b ≠ a := fun z => hl _ (List.mem_cons_self ..) (by simp [tpAd, z])
      exact ⟨b, rfl, h1, by show (if b = a then some l else w.own b) = none; rw [if_neg nb]; exact h2, h3, h4⟩
theorem ResOks.other {σ' : L2.St} (h : ResOks S w Hs H σ vs rs) : (∀ r ∈ rs, ∀ i, r ≠ .sl i) → ResOks S w Hs H σ' vs rs := by
  induction h with
  | nil => intro _; exact .nil
  | @cons v r vs rs h _ q ih =>
    intro ns
    refine .cons ?_ (ih fun r hr => ns r (List.mem_cons_of_mem _ hr)) q
    cases r with
    | fr d => exact h
    | sl i => exact absurd rfl (ns _ (List.mem_cons_self ..) i)
    | tp d => exact h
theorem setRL_ok (hd : ∀ a, Hs a = none → w0.H0 a = none) : ∀ {rs : List ER} {vs : List V} {is : List Nat} {w : W} {ς ς' : St} {σ : L2.St}, Fr w0 Hs w H → Rel S n ς σ H w → σ.length = n.n → ResOks S w Hs H σ vs rs → (∀ r ∈ rs, ∀ i, r ≠ .sl i) → (∀ i ∈ is, i < n.n ∧ n.ro i = false) → setRL ς is rs = some ς' →
    ∃ w', Fr w0 Hs w' H ∧ Rel S n ς' (setVs σ is vs) H w'
  | _, _, [], w, _, _, _, F, R, hl, .nil, ns, hi, e => by
    unfold setRL at e
    cases e
    exact ⟨w, F, R⟩
  | _, _, i :: is, w, _, _, _, F, R, hl, .nil, ns, hi, e => by
    unfold setRL at e
    cases e
  | _, _, [], w, _, _, _, F, R, hl, .cons .., ns, hi, e => by
    unfold setRL at e
    cases e
  | r :: rs, v :: vs, i :: is, w, ς, ς', σ, F, R, hl, .cons h t q, ns, hi, e => by
    unfold setRL at e
    have ns' : ∀ r ∈ rs, ∀ i, r ≠ .sl i := fun r hr => ns r (List.mem_cons_of_mem _ hr)
    obtain ⟨hi1, hi2⟩ := hi i (List.mem_cons_self ..)
    have hi' : ∀ i ∈ is, i < n.n ∧ n.ro i = false := fun j hj => hi j (List.mem_cons_of_mem _ hj)
    have hl' : (σ.set i (some v)).length = n.n := by rw [List.length_set]; exact hl
    cases r with
    | sl j => exact absurd rfl (ns _ (List.mem_cons_self ..) j)
    | fr d => exact setRL_ok (σ := σ.set i (some v)) (is := is) (vs := vs) (rs := rs) hd F (R.set_fr hi1 hl hi2 h) hl' (t.other ns') ns' hi' e
    | tp d =>
      obtain ⟨a, rfl, h1, h2, h3, h4⟩ := h
      exact setRL_ok (σ := σ.set i (some (.ref a))) (is := is) (vs := vs) (rs := rs) hd (F.take h1) (R.set_ow hi1 hl hi2 h2 h3 h4 (by rw [F.h0]; exact hd a h1)) hl' (t.take ns' fun p hp => q a (by simp [tpAd]) p hp) ns' hi' e
end
def parA (is : List Nat) (g : Act (List ER)) : Act Flw := g.bnd fun rs ς => (deslL ς rs).bind fun p => (setRL p.2 is p.1).map fun ς' => .ok .nx ς'
section
variable {c : Ctx} {X : Cx} {a b e tg iter : Expr} {fa fb fc : Act ER} {pos : Pos} {es : List Expr} {f : Act ER} {st : Stmt} {rest body : List Stmt} {g : Act (List ER)}
theorem par_ok {is : List Nat} (hX : c.Ok X) {rs : List ER} {vs : List V} {w w1 : W} {H H1 : Hp} {σ : L2.St} {ς1 : St} {o : Out Flw} (F1 : Fr w H w1 H1) (R0 : ∀ a, H a = none → w.H0 a = none) (R1 : Rel c.toSta c.n ς1 σ H1 w1) (hl : σ.length = c.N.length) (ros : ResOks c.toSta w1 H H1 σ vs rs) (hi : ∀ i ∈ is, i < c.N.length ∧ c.ro i = false)
    (ho : ((deslL ς1 rs).bind fun p => (setRL p.2 is p.1).map fun ς' => Out.ok Flw.nx ς') = some o) : ∃ ς', o = .ok .nx ς' ∧ ∃ w', Fr w H w' H1 ∧ Rel c.toSta c.n ς' (setVs σ is vs) H1 w' := by
  cases e : deslL ς1 rs with
  | none => rw [e] at ho; cases ho
  | some p =>
    rw [e] at ho
    simp only [Option.bind_some] at ho
    cases e2 : setRL p.2 is p.1 with
    | none => rw [e2] at ho; cases ho
    | some ς' =>
      rw [e2] at ho
      cases ho
      obtain ⟨w2, F2, R2, ros2, ns, _, _⟩ := deslL_ok (ς' := p.2) (rs' := p.1) F1 R1 ros e
      obtain ⟨w3, F3, R3⟩ := setRL_ok R0 F2 R2 hl ros2 ns hi e2
      exact ⟨ς', rfl, w3, F3, R3⟩
theorem vs_par2 {i j : Nat} {x y : Str} {px py pt : Pos} {kt k2 pt2} (hi : c.N[i]? = some x) (hj : c.N[j]? = some y) (hij : i ≠ j) (hri : c.ro i = false) (hrj : c.ro j = false)
    (hx : c.sc.names.lookup x = some .local) (hy : c.sc.names.lookup y = some .local) (ha : VA c [a, b] g)
    (hw : ∀ env : Env, env.scope = c.sc → swappedStores [.Tuple [.Name x px, .Name y py] kt pt] (.Tuple [a, b] k2 pt2) env = pure (some [x, y]))
    (hs : ∀ env : Env, swapsWithSole [.Tuple [.Name x px, .Name y py] kt pt] (.Tuple [a, b] k2 pt2) pos.line env = pure false) :
    VS1 c (.Assign [.Tuple [.Name x px, .Name y py] kt pt] (.Tuple [a, b] k2 pt2) pos) (parA [i, j] g) := .of fun X hX pins s σ H w ς o ho I R T => by
  rw [exec_Assign_arm]
  refine wpAny_bind (wpAny_standAt ?_)
  rw [hs]
  refine wpAny_bind (wpAny_pure ?_)
  rw [if_neg (by decide)]
  refine wpAny_bind (Tuple_ (va_then ha hX I R T ho fun rs ς1 us s1 vs H1 w1 h1 I1 rvs F1 R1 T1 ros => ?_))
  have hN : X.N.Nodup := by rw [hX.N]; exact hX.nd
  have hiL : i < c.N.length := (List.getElem?_eq_some_iff.mp hi).1
  have hjL : j < c.N.length := (List.getElem?_eq_some_iff.mp hj).1
  obtain ⟨ς', rfl, w', F', R'⟩ := par_ok hX F1 R.dom R1 (by rw [I1.len, hX.N]) ros (is := [i, j]) (by simp [hiL, hjL, hri, hrj]) h1
  -- two values
  have hlen : rs.length = 2 := by
    cases e : deslL ς1 rs with
    | none => rw [e] at h1; cases h1
    | some p =>
      rw [e] at h1
      simp only [Option.bind_some] at h1
      obtain ⟨w2, F2, R2, ros2, ns, _, _⟩ := deslL_ok (ς' := p.2) (rs' := p.1) F1 R1 ros e
      have hl := ros.length
      have hl2 := ros2.length
      have : p.1.length = 2 := by
        cases e2 : setRL p.2 [i, j] p.1 with
        | none => rw [e2] at h1; cases h1
        | some z =>
          match p.1, e2 with
          | [], e2 => cases e2
          | [r], e2 =>
            unfold setRL at e2
            split at e2
            · cases e2
            · cases e2
          | [r, q], e2 => rfl
          | r :: q :: t :: u, e2 =>
            unfold setRL at e2
            split at e2
            · cases e2
            · unfold setRL at e2
              split at e2
              · cases e2
              · cases e2
      omega
  have hlv : vs.length = 2 := by rw [ros.length]; exact hlen
  obtain ⟨v1, v2, rfl⟩ : ∃ v1 v2, vs = [v1, v2] := by
    match vs, hlv with
    | [v1, v2], _ => exact ⟨v1, v2, rfl⟩
  obtain ⟨u1, u2, rfl, rv, rw'⟩ := vals2 rvs
  refine wpAny_newObj_type ?_ (by show 2 ≤ sizeLine; decide)
  have I2 : Inv X pins σ H1 { s1 with heap := s1.heap.push { cls := .type "tuple", data := .seq [u1, u2].toArray } } := I1.kept (t' := s1.toks) fun b o e => Heap.get?_push_of_some _ e
  rw [hw _ hX.sc]
  refine wpAny_bind (wpAny_pure ?_)
  show wpAny (model X.prog X.w) X.A (do rule "assign.swapped-stores"; let items ← unpackItems (.ref s1.heap.objs.size) 2 none; assignInOrder [fun v => bindName X.env y v, fun v => bindName X.env x v] items.reverse; pure Flow.next) _ _ _
  refine wpAny_bind (wpAny_rule (wpAny_bind (unpackItems_tuple (items := #[u1, u2]) (I.ok.hd hX.calm) (IsTup.new s1.heap _) fun h' hx' => ?_)))
  have I3 := I2.kept (h' := h') (t' := s1.toks) fun b o e => hx' b o (Nat.ne_of_lt (Heap.lt_size e)) e
  have hxe : X.env.scope.names.lookup x = some .local := by rw [hX.sc]; exact hx
  have hye : X.env.scope.names.lookup y = some .local := by rw [hX.sc]; exact hy
  show wpAny _ _ (assignInOrder [fun v => bindName X.env y v, fun v => bindName X.env x v] [u2, u1] >>= fun _ => pure Flow.next) _ _ _
  refine wpAny_bind (assignInOrder_cons (wpAny_bindName (store_ok I3 hN (by rw [hX.N]; exact hj) (.inl hye) rw' (fun s2 I4 => ?_) (.inr hye))))
  refine assignInOrder_cons (wpAny_bindName (store_ok I4 hN (by rw [hX.N]; exact hi) (.inl hxe) rv (fun s3 I5 => assignInOrder_nil (wpAny_pure ?_)) (.inr hxe)))
  rw [List.set_comm _ _ (Ne.symm hij)] at I5
  exact ⟨_, H1, w', I5, F', R'⟩

/-! ### methods of built-in types that change nothing -/
def tyD (T : String) : Dat → Bool
  | .str _ => decide (T = "str")
  | .lst _ => decide (T = "list")
  | .dic _ => decide (T = "dict")
  | .dit _ => decide (T = "dict")
  | _ => false
theorem View.dicK {S : Sta} {w : W} {H : Hp} {v : V} {kvs : List (Dat × Dat)} (sub : Ext w.Hf H) (h : View S w H v (.dic kvs)) : ∃ a l, v = .ref a ∧ Rd H a (.dK l) ∧ RepK S w.Hf w.ads l kvs := by
  rcases h with h | ⟨a, rfl, h⟩
  · cases h with
    | dicK h r => exact ⟨_, _, rfl, sub.rd h, r⟩
  · cases h with
    | dicK h r => exact ⟨_, _, rfl, .inl h, r⟩
theorem View.dicT {S : Sta} {w : W} {H : Hp} {v : V} {kvs : List (Dat × Dat)} (sub : Ext w.Hf H) (h : View S w H v (.dit kvs)) : ∃ a l, v = .ref a ∧ Rd H a (.dT l) ∧ RepT S w.Hf w.ads l kvs := by
  rcases h with h | ⟨a, rfl, h⟩
  · cases h with
    | dicT h r => exact ⟨_, _, rfl, sub.rd h, r⟩
  · cases h with
    | dicT h r => exact ⟨_, _, rfl, .inl h, r⟩
theorem View.typ {S : Sta} {w : W} {H : Hp} {v : V} {u : Value} {d : Dat} {T : String} {pins : List (Addr × Obj)} {σ : L2.St} {s : Shared} (hK : X.K = S.K) (I : Inv X pins σ H s) (rv : RelV v u) (sub : Ext w.Hf H) (h : View S w H v d) (e : VS.tyD T d = true) :
    s.TypeIs u T ∧ ∀ a, u = .ref a → ∃ ob, s.heap.get? a = some ob ∧ ob.dict = none := by
  cases d with
  | str x =>
    obtain rfl := h.str
    exact tyV_is I rv (show T = "str" from of_decide_eq_true e)
  | lst ds =>
    obtain ⟨a, vs, rfl, h1, h2⟩ := h.lst sub
    exact tyV_is I rv (.inl ⟨of_decide_eq_true e, vs, by rw [hK]; exact h1⟩)
  | dic kvs =>
    obtain ⟨a, l, rfl, h1, h2⟩ := h.dicK sub
    cases rv
    obtain ⟨q1, q2, _⟩ := isD_at I (.inl ⟨l, h1⟩)
    rw [show T = "dict" from of_decide_eq_true e]
    exact ⟨q1, q2⟩
  | dit kvs =>
    obtain ⟨a, l, rfl, h1, h2⟩ := h.dicT sub
    cases rv
    obtain ⟨q1, q2, _⟩ := isD_at I (.inr ⟨l, h1⟩)
    rw [show T = "dict" from of_decide_eq_true e]
    exact ⟨q1, q2⟩
  | _ => cases e
/-- a condition -/
def grdA (p : St → Bool) : Act Unit := fun ς => if p ς = true then some (.ok () ς) else none
theorem grd_then {β : Type} {p : St → Bool} {k : Unit → Act β} {ς : St} {o : Out β} (h : (grdA p).bnd k ς = some o) : p ς = true ∧ k () ς = some o := by
  unfold Act.bnd grdA at h
  by_cases hp : p ς = true
  · rw [if_pos hp] at h; exact ⟨hp, h⟩
  · rw [if_neg hp] at h; cases h
def mthA (T : String) (g : List Dat → Option ER) (fo : Act ER) (fs : Act (List ER)) : Act ER := fo.bnd fun r => (grdA fun ς => ((cur ς r).map (tyD T)).getD false).bnd fun _ => fs.bnd fun rs ς => ((curL ς (r :: rs)).bind g).map fun q => .ok q ς
theorem ve_bm {o : Expr} {name : Str} {apos cpos : Pos} {T id : String} {h : List Dat → Option ER} {fo : Act ER} (pa : PlainAttrs T) (slot : PySem.Slot T name id) (hty : typeOf (.builtin id) = pure (.type "method_descriptor")) (hm : PN c (.builtin id) h) (ho : VE c o fo) (ha : VA c (e :: es) g)
    (hbase : ∀ env : Env, attributeBase o name env (eval o env) = eval o env)
    (hfew : ∀ env : Env, ((backTo cpos (starEach (e :: es) env)).all (fun x => !x.1) && (backToKw cpos (keywordEach [] env)).all (fun x => x.1.isSome)
      && decide ((e :: es).length + ([] : List Keyword).length + (if ([] : List Keyword).isEmpty then 0 else 1) < 30)) = true)
    (hline : (apos.endLine == cpos.line) = true) (hs : ∀ env : Env, starEach (e :: es) env = (false, eval e env) :: starEach es env) (hplain : ∀ env : Env, (backTo cpos (starEach es env)).any (·.1) = false) :
    VE c (.Call (.Attribute o name apos) (e :: es) [] cpos) (mthA T h fo g) := .of fun X hX pins s σ H w ς out hout I R TT => by
  refine wpAny_Call_method_late (hbase _) (hfew _) hline rfl (ve_then ho hX I R TT hout fun r ς1 u s1 v H1 w1 h1 I1 rv F1 R1 T1 ro => ?_)
  obtain ⟨hT, h1⟩ := grd_then h1
  cases e1 : cur ς1 r with
  | none => rw [e1] at hT; cases hT
  | some d =>
    rw [e1] at hT
    have hT : tyD T d = true := hT
    obtain ⟨t1, t2⟩ := (R1.view ro e1).typ hX.K I1 rv R1.sub hT
    refine ⟨T, id, pa, slot, hty, t1, t2, ?_⟩
    rw [hs]
    refine Calls.callWith_builtin (by show (false || (backTo cpos (starEach es X.env)).any (·.1)) = false; rw [hplain] <;> rfl) (Calls.evalArgs_plain ?_)
    show wpAny _ _ (spliced (backTo cpos ((false, eval e X.env) :: starEach es X.env))) _ _ _
    rw [← hs]
    refine va_then ha hX I1 R1 T1 h1 fun rs ς2 us s2 vs H2 w2 h2 I2 rvs F2 R2 T2 ros => ?_
    cases e3 : curL ς2 (r :: rs) with
    | none => rw [e3] at h2; cases h2
    | some ds =>
      rw [e3] at h2
      cases e4 : h ds with
      | none => simp only [Option.bind_some, e4] at h2; cases h2
      | some q =>
        simp only [Option.bind_some, e4] at h2
        cases h2
        have vw : Views c.toSta w2 H2 (v :: vs) ds := by
          unfold curL at e3
          split at e3
          · rename_i d1 ds1 q1 q2
            cases e3
            exact .cons (R2.view (ro.carry F2) q1) (R2.views ros q2)
          · cases e3
        exact wpAny_mono (hm X hX pins s2 σ H2 w2 ς2 (v :: vs) (u :: us) ds q I2 R2 (.cons rv rvs) vw e4) (fun u s' z => NE.from (F1.trans F2) z) fun _ _ z => z.elim
/-- x.index(y), y in x -/
def indexD : List Dat → Option ER
  | [.str x, .str y] => match Builtin.Str.occurrences x y 0 x.length 1 with
    | i :: _ => some (.fr (.int (i : Nat)))
    | [] => none
  | _ => none
theorem pn_index : PN c (.builtin "str.index") indexD := fun X hX pins s σ H w ς vs us ds r I R rvs va e => by
  unfold indexD at e
  split at e
  · rename_i x y
    split at e
    · rename_i i rest q
      cases e
      obtain ⟨v, u, rfl, hv, hu⟩ := va.two
      obtain rfl := hv.str
      obtain rfl := hu.str
      obtain ⟨u1, u2, rfl, ⟨t1, rfl⟩, ⟨t2, rfl⟩⟩ := vals2 rvs
      exact PySem.SC.index q (ne_fr (v := .int (i : Nat)) (I.tok _) ⟨_, rfl⟩ R (.int _))
    · cases e
  · cases e

/-! ### methods that change the container -/
def PMu (c : Ctx) (fv : Value) (g : Dat → List Dat → Option (Dat × Dat)) : Prop :=
  ∀ X, c.Ok X → ∀ (pins : List (Addr × Obj)) (s : Shared) (σ : L2.St) (H : Hp) (w : W) (ς : St) (a : Addr) (vs : List V) (us : List Value) (d x d' : Dat) (ds : List Dat),
    Inv X pins σ H s → Rel c.toSta c.n ς σ H w → Vals vs us → OwnC c.toSta w.Hf w.ads H a d → Reps c.toSta w.Hf w.ads vs ds → g d ds = some (x, d') →
    wpAny (model X.prog X.w) X.A (call fv (.ref a :: us)) (fun u s' => ∃ v o', Inv X pins σ (upd H a o') s' ∧ RelV v u ∧ Rep c.toSta w.Hf w.ads v x ∧ OwnC c.toSta w.Hf w.ads (upd H a o') a d') (fun _ _ => False) s
def tyM (T : String) : Dat → Bool
  | .lst _ => decide (T = "list")
  | .dic _ => decide (T = "dict")
  | .dit _ => decide (T = "dict")
  | _ => false
theorem OwnC.tyM {S : Sta} {Hf : Hp} {ads : Nat → Option Addr} {H : Hp} {a : Addr} {d : Dat} {T : String} (h : OwnC S Hf ads H a d) (e : VS.tyM T d = true) : tyV S.K T (.ref a) H := by
  cases h with
  | lst h r => exact .inl ⟨of_decide_eq_true e, _, .inl (.inl h)⟩
  | dicK h r => exact .inr (.inr (.inl ⟨of_decide_eq_true e, .inl ⟨_, h⟩⟩))
  | dicT h r => exact .inr (.inr (.inl ⟨of_decide_eq_true e, .inr ⟨_, h⟩⟩))
  | set h => cases e
def ownT (T : String) (r : ER) (ς : St) : Bool := match r with
  | .sl j => match ς.sl[j]? with
    | some (some (.ow d)) => tyM T d
    | _ => false
  | _ => false
def muA (T : String) (g : Dat → List Dat → Option (Dat × Dat)) (fo : Act ER) (fs : Act (List ER)) : Act ER := fo.bnd fun r => (grdA (ownT T r)).bnd fun _ => fs.bnd fun rs ς => match settleL ς rs with
      | none => none
      | some (ds, ς1) => match r with
        | .sl j => match ς1.sl[j]? with
          | some (some (.ow d)) => (g d ds).map fun p => .ok (.fr p.1) (ς1.set j (some (.ow p.2)))
          | _ => none
        | _ => none
theorem ve_mu {o : Expr} {name : Str} {apos cpos : Pos} {T id : String} {h : Dat → List Dat → Option (Dat × Dat)} {fo : Act ER} (pa : PlainAttrs T) (slot : PySem.Slot T name id) (hty : typeOf (.builtin id) = pure (.type "method_descriptor")) (hm : PMu c (.builtin id) h) (ho : VE c o fo) (ha : VA c (e :: es) g)
    (hbase : ∀ env : Env, attributeBase o name env (eval o env) = eval o env)
    (hfew : ∀ env : Env, ((backTo cpos (starEach (e :: es) env)).all (fun x => !x.1) && (backToKw cpos (keywordEach [] env)).all (fun x => x.1.isSome)
      && decide ((e :: es).length + ([] : List Keyword).length + (if ([] : List Keyword).isEmpty then 0 else 1) < 30)) = true)
    (hline : (apos.endLine == cpos.line) = true) (hs : ∀ env : Env, starEach (e :: es) env = (false, eval e env) :: starEach es env) (hplain : ∀ env : Env, (backTo cpos (starEach es env)).any (·.1) = false) :
    VE c (.Call (.Attribute o name apos) (e :: es) [] cpos) (muA T h fo g) := .of fun X hX pins s σ H w ς out hout I R TT => by
  refine wpAny_Call_method_late (hbase _) (hfew _) hline rfl (ve_then ho hX I R TT hout fun r ς1 u s1 v H1 w1 h1 I1 rv F1 R1 T1 ro => ?_)
  obtain ⟨hT, h1⟩ := grd_then h1
  cases r with
  | fr d => cases hT
  | tp d => cases hT
  | sl j =>
    unfold ownT at hT
    simp only at hT
    split at hT
    · rename_i d hd
      have ro : σ[j]? = some (some v) := ro
      obtain ⟨v', ev, a, e1, _, _, hc, _⟩ := R1.slots _ _ hd
      rw [ro] at ev; cases ev
      subst e1
      obtain ⟨t1, t2⟩ := tyV_is I1 rv (by rw [hX.K]; exact hc.tyM hT)
      refine ⟨T, id, pa, slot, hty, t1, t2, ?_⟩
      rw [hs]
      refine Calls.callWith_builtin (by show (false || (backTo cpos (starEach es X.env)).any (·.1)) = false; rw [hplain] <;> rfl) (Calls.evalArgs_plain ?_)
      show wpAny _ _ (spliced (backTo cpos ((false, eval e X.env) :: starEach es X.env))) _ _ _
      rw [← hs]
      refine va_then ha hX I1 R1 T1 h1 fun rs ς2 us s2 vs H2 w2 h2 I2 rvs F2 R2 T2 ros => ?_
      split at h2
      · cases h2
      · rename_i ds ς3 e3
        simp only at h2
        split at h2
        · rename_i d2 hd2
          cases e4 : h d2 ds with
          | none => rw [e4] at h2; cases h2
          | some p =>
            rw [e4] at h2
            cases h2
            obtain ⟨w3, F3, R3, rps, _, _⟩ := settleL_ok F2 R2 ros e3
            obtain ⟨a2, hσ, hc2, put⟩ := R3.put (d' := p.2) hd2
            rw [ro] at hσ; cases hσ
            cases rv
            refine wpAny_mono (hm X hX pins s2 σ H2 w3 ς3 a vs us d2 p.1 p.2 ds I2 R3 rvs hc2 rps e4) (fun u s' ⟨v, o', I', rv', rp, hc'⟩ => ?_) fun _ _ z => z.elim
            obtain ⟨R5, F5⟩ := put o' hc'
            exact ⟨v, _, w3, I', rv', (F1.trans F3).trans F5, R5, rp⟩
        · cases h2
    · cases hT
def appendM : Dat → List Dat → Option (Dat × Dat)
  | .lst ds, [x] => if ds.length < sizeLine then some (.non, .lst (ds ++ [x])) else none
  | _, _ => none
theorem pmu_append : PMu c (.builtin "list.append") appendM := fun X hX pins s σ H w ς a vs us d x d' ds I R rvs hc rps e => by
  unfold appendM at e
  split at e
  · rename_i ds x
    split at e
    · rename_i hz
      cases e
      cases hc with
      | lst h rs =>
        rename_i ys
        cases rps with
        | cons rp rps =>
          cases rps
          rename_i v
          have hl := rs.length
          refine wpAny_mono (mt_append (X := X.nox) pins s σ H (.ref a) [v] _ us (fun v' H' => v' = .non ∧ H' = upd H a (.lst (ys ++ [v]))) (I.wish _) rfl rvs ⟨a, ys, v, rfl, rfl, h, by omega, rfl, rfl⟩) (fun u s' ⟨v', H', I', rv, e1, e2⟩ => ?_) fun _ _ z => z.elim
          subst e1; subst e2
          exact ⟨_, _, I'.unwish, rv, .non, .lst upd_same (rs.append (.cons rp .nil))⟩
    · cases e
  · cases e
end
end VS

namespace VS
open PySem L2 PyProof.Rows

/-! ### int(t, 36) of small letters and digits -/
namespace B36
open PySem.NumText PySem.Calls
def Ok (c : Nat) : Prop := (48 ≤ c ∧ c ≤ 57) ∨ (97 ≤ c ∧ c ≤ 122)
instance (c : Nat) : Decidable (Ok c) := by unfold Ok; infer_instance
/-- a sign's worth -/
def val (c : Nat) : Nat := if c ≤ 57 then c - 48 else c - 87
def num (l : List Nat) : Nat := l.foldl (fun a c => a * 36 + val c) 0
theorem rng {c : Nat} (h : Ok c) : 48 ≤ c ∧ c ≤ 122 ∧ c ≠ 95 := by unfold Ok at h; omega
theorem val_lt {c : Nat} (h : Ok c) : val c < 36 := by
  unfold Ok at h
  unfold val
  split <;> omega
theorem dig {c : Nat} (h : Ok c) : digit? c = some (val c) := by
  unfold Ok at h
  unfold digit? val
  rcases h with h | h
  · rw [if_pos (Hx.bb h.1 h.2), if_pos h.2]
  · rw [if_neg (Hx.bn (show ¬ (48 ≤ c ∧ c ≤ 57) by omega)), if_pos (Hx.bb h.1 h.2), if_neg (show ¬ c ≤ 57 by omega)]
theorem stp {ds : Array Nat} {b : Bool} {c : Nat} (h : Ok c) : PySem.NumText.step 36 (ds, b) c = some (ds.push (val c), true) := by
  unfold PySem.NumText.step
  rw [if_neg (by rw [beq_iff_eq]; exact (rng h).2.2), dig h]
  exact if_pos (val_lt h)
theorem run : ∀ (cs : List Nat) (ds : Array Nat), (∀ c ∈ cs, Ok c) → cs.foldlM (PySem.NumText.step 36) (ds, true) = some (cs.foldl (fun acc c => acc.push (val c)) ds, true)
  | [], _, _ => rfl
  | c :: cs, ds, h => by
    rw [List.foldlM_cons, stp (h c (List.mem_cons_self ..))]
    exact run cs (ds.push (val c)) fun d hd => h d (List.mem_cons_of_mem _ hd)
theorem digs {cs : List Nat} (h : ∀ c ∈ cs, Ok c) (hne : cs ≠ []) : digits? 36 cs = some (cs.foldl (fun acc c => acc.push (val c)) #[]) := by
  cases cs with
  | nil => exact absurd rfl hne
  | cons c cs =>
    unfold digits?
    rw [List.foldlM_cons, stp (h c (List.mem_cons_self ..))]
    show (cs.foldlM (PySem.NumText.step 36) ((#[] : Array Nat).push (val c), true)).bind _ = _
    rw [run cs _ fun d hd => h d (List.mem_cons_of_mem _ hd)]
    rfl
theorem psh : ∀ (cs : List Nat) (ds : Array Nat), (cs.foldl (fun acc c => acc.push (val c)) ds).foldl (fun acc d => acc * 36 + d) 0 = cs.foldl (fun a c => a * 36 + val c) (ds.foldl (fun acc d => acc * 36 + d) 0)
  | [], _ => rfl
  | c :: cs, ds => by
    rw [List.foldl_cons, psh cs (ds.push (val c)), List.foldl_cons]
    congr 1
    simp
theorem drp {cs : List Nat} (h : ∀ c ∈ cs, Ok c) : cs.dropWhile blank = cs := by
  cases cs with
  | nil => rfl
  | cons c cs => exact dropWhile_of (by have := rng (h c (List.mem_cons_self ..)); omega)
theorem sgn {cs : List Nat} (h : ∀ c ∈ cs, Ok c) : sign cs = (false, cs) := by
  cases cs with
  | nil => rfl
  | cons c cs =>
    have := rng (h c (List.mem_cons_self ..))
    exact sign_of (by omega) (by omega)
theorem bsd (cs : List Nat) : based 36 cs = (36, false, cs) := by
  match cs with
  | [] => rfl
  | 48 :: c :: r =>
    unfold based
    split
    · rename_i p hp
      have hp : (if (c == 120 || c == 88) = true then some 16 else if (c == 111 || c == 79) = true then some 8 else if (c == 98 || c == 66) = true then some 2 else none) = some p := hp
      have hp' : p ≠ 36 := by
        intro e
        subst e
        repeat' split at hp
        all_goals (revert hp; decide)
      have hne : ((36 : Nat) == 0 || (36 : Nat) == p) = false := Bool.or_eq_false_iff.mpr ⟨rfl, beq_eq_false_iff_ne.mpr fun z => hp' z.symm⟩
      rw [hne]
      rfl
    · rfl
  | [a] =>
    iterate 49 (obtain _ | a := a; · rfl)
    rfl
  | a :: c :: r =>
    iterate 48 (obtain _ | a := a; · rfl)
    obtain _ | a := a
    · unfold based
      split
      · rename_i p hp
        have hp : (if (c == 120 || c == 88) = true then some 16 else if (c == 111 || c == 79) = true then some 8 else if (c == 98 || c == 66) = true then some 2 else none) = some p := hp
        have hp' : p ≠ 36 := by
          intro e
          subst e
          repeat' split at hp
          all_goals (revert hp; decide)
        have hne : ((36 : Nat) == 0 || (36 : Nat) == p) = false := Bool.or_eq_false_iff.mpr ⟨rfl, beq_eq_false_iff_ne.mpr fun z => hp' z.symm⟩
        rw [hne]
        rfl
      · rfl
    · rfl
theorem read {cs : List Nat} (h : ∀ c ∈ cs, Ok c) (hne : cs ≠ []) : (int_private% "readNumeral") 0 36 cs = (int_private% "Numeral.value") ((num cs : Nat) : Int) := by
  have hr : ∀ c ∈ cs.reverse, Ok c := fun c hc => h c (List.mem_reverse.mp hc)
  refine (readNumeral_eq 0 36 cs).trans ?_
  rw [drp h, sgn h]
  show judge 0 false (based 36 cs).1 (based 36 cs).2.1 (digits? (based 36 cs).1 (((based 36 cs).2.2.reverse.dropWhile blank).reverse)) = _
  rw [bsd cs]
  show judge 0 false 36 false (digits? 36 ((cs.reverse.dropWhile blank).reverse)) = _
  rw [drp hr, List.reverse_reverse, digs h hne]
  show (int_private% "Numeral.value") (((cs.foldl (fun acc c => acc.push (val c)) (#[] : Array Nat)).foldl (fun acc d => acc * 36 + d) 0 : Nat) : Int) = _
  have z : (#[] : Array Nat).foldl (fun acc d => acc * 36 + d) 0 = 0 := by first | rfl | simp
  rw [psh, z] <;> rfl
theorem seen {x : PySem.Str} (h : ∀ c ∈ x.cps.toList, Ok c) : numTextOf x = x.cps.toList ∧ numSeenOf x = x.cps.toList := by
  have e1 : numTextOf x = x.cps.toList := by
    refine if_pos ?_
    rw [← Array.all_toList, List.all_eq_true]
    intro c hc
    have := rng (h c hc)
    exact decide_eq_true (by omega)
  refine ⟨e1, ?_⟩
  show (numTextOf x).takeWhile _ = _
  rw [e1]
  refine takeWhile_all fun c hc => ?_
  have := rng (h c hc)
  exact bne_iff_ne.mpr (by omega)
set_option maxHeartbeats 4000000 in
theorem gives {x : PySem.Str} {u t : Tok} (hl : x.length ≤ 640) (h : ∀ c ∈ x.cps.toList, Ok c) (hne : x.cps.toList ≠ []) :
    Gives (Builtin.«int.__new__» ⟨[.type "int", .str x u, .int 36 t], []⟩) (.int ((num x.cps.toList : Nat) : Int)) :=
  .of_wp fun M A E s Q hQ => by
    obtain ⟨hp, g, d, tk, os⟩ := s
    have f1 := F.conv_sub_int
    have f2 := F.madeHere_int
    have f6 : typeOf (.str x u) = pure (.type "str") := rfl
    obtain ⟨e1, e2⟩ := seen h
    have hs : (numSeenOf x).length ≤ 640 := by
      rw [e2, Array.length_toList]
      exact hl
    have hr : (int_private% "readNumeral") 0 36 (numSeenOf x) = (int_private% "Numeral.value") ((num x.cps.toList : Nat) : Int) := by
      rw [e2]
      exact read h hne
    have ha : ((numSeenOf x).length == (numTextOf x).length) = true := by
      rw [e1, e2]
      exact beq_self_eq_true _
    have hk := Hx.Hid.mk (And.intro hs (And.intro hr ha))
    clear hs hr ha e1 e2 hl hne h
    repeat (any_goals (first
      | assumption
      | ((with_reducible show wpAny _ _ ((int_private% "intFromText") _ _ _) _ _ _); refine Hx.wp_textB hk.out.1 hk.out.2.1 hk.out.2.2 ?_)
      | wp_step))
    all_goals first | exact ⟨_, rfl, hQ⟩ | skip
theorem call36 {prog : Program} {w : World} {A : Around} {E : Value → Shared → Prop} {s : Shared} {Q : Value → Shared → Prop} {x : PySem.Str} {u t : Tok} (hl : x.length ≤ 640) (h : ∀ c ∈ x.cps.toList, Ok c) (hne : x.cps.toList ≠ [])
    (hQ : Q (.int ((num x.cps.toList : Nat) : Int) s.toks) { s with toks := s.toks + 1 }) : wpAny (model prog w) A (call (.type "int") [.str x u, .int 36 t]) Q E s :=
  callType_new F.called_int F.newNe_int (Hx.typeCall_int_2 _ _) (Hx.newCall_int_2 _ _) (fun obj => F.initArgs_range_2 obj _ _) F.entry_int_new (gives hl h hne).meets (show (Made.int ((num x.cps.toList : Nat) : Int)).post _ s from ⟨rfl, hQ⟩)
end B36
def intD : List Dat → Option ER
  | [.str x, .int 36] => if x.length ≤ 640 ∧ (∀ c ∈ x.cps.toList, B36.Ok c) ∧ x.cps.toList ≠ [] then some (.fr (.int ((B36.num x.cps.toList : Nat) : Int))) else none
  | _ => none
theorem pn_int {c : Ctx} : PN c (.type "int") intD := fun X hX pins s σ H w ς vs us ds r I R rvs va e => by
  unfold intD at e
  split at e
  · rename_i x
    split at e
    · rename_i hc
      cases e
      obtain ⟨v, u, rfl, hv, hu⟩ := va.two
      obtain rfl := hv.str
      obtain rfl := hu.int
      obtain ⟨u1, u2, rfl, ⟨t1, rfl⟩, ⟨t2, rfl⟩⟩ := vals2 rvs
      exact B36.call36 hc.1 hc.2.1 hc.2.2 (ne_fr (v := .int ((B36.num x.cps.toList : Nat) : Int)) (I.tok _) ⟨_, rfl⟩ R (.int _))
    · cases e
  · cases e
end VS

namespace VS
open PySem L2 PyProof.Rows

/-! ### the operations by their signs -/
section
variable {c : Ctx}
def orE (g g' : Dat → Dat → Option ER) (a b : Dat) : Option ER := match g a b with | some r => some r | none => g' a b
theorem P2.or {f : Value → Value → Sem Value} {g g' : Dat → Dat → Option ER} (h : P2 c f g) (h' : P2 c f g') : P2 c f (orE g g') := P2.alt h h'
theorem PIx.or {g g' : Dat → Dat → Option ER} (h : PIx c g) (h' : PIx c g') : PIx c (orE g g') := PIx.alt h h'
def addG : Dat → Dat → Option ER := orE (intC (fun i j => .int (i + j)) yes2) (orE strCat lstCat)
theorem p2_add : P2 c (binaryOp .Add) addG := p2_add_int.or (p2_add_str.or p2_add_lst)
def subG : Dat → Dat → Option ER := intC (fun i j => .int (i - j)) yes2
def mulG : Dat → Dat → Option ER := intC (fun i j => .int (i * j)) mulC
def divG : Dat → Dat → Option ER := intC (fun i j => .int (i / j)) divC
def modG : Dat → Dat → Option ER := intC (fun i j => .int (i % j)) modC
def powG : Dat → Dat → Option ER := intC (fun i j => .int (i ^ j.toNat)) powC
def ltG : Dat → Dat → Option ER := intC (fun i j => .bl (decide (i < j))) yes2
def leG : Dat → Dat → Option ER := intC (fun i j => .bl (decide (i ≤ j))) yes2
def gtG : Dat → Dat → Option ER := intC (fun i j => .bl (decide (j < i))) yes2
def geG : Dat → Dat → Option ER := intC (fun i j => .bl (decide (j ≤ i))) yes2
theorem p2_sub : P2 c (binaryOp .Sub) subG := p2_sub_int
theorem p2_mul : P2 c (binaryOp .Mult) mulG := p2_mul_int
theorem p2_div : P2 c (binaryOp .FloorDiv) divG := p2_fdiv_int
theorem p2_mod : P2 c (binaryOp .Mod) modG := p2_mod_int
theorem p2_pow : P2 c (binaryOp .Pow) powG := p2_pow_int
theorem p2_lt : P2 c (compareOp .Lt) ltG := p2_lt_int
theorem p2_le : P2 c (compareOp .LtE) leG := p2_le_int
theorem p2_gt : P2 c (compareOp .Gt) gtG := p2_gt_int
theorem p2_ge : P2 c (compareOp .GtE) geG := p2_ge_int
def inG : Dat → Dat → Option ER := orE (inE false memD) (inE false memS)
def ninG : Dat → Dat → Option ER := orE (inE true memD) (inE true memS)
theorem p2_in : P2 c (compareOp .In) inG := (p2_memD false).or (p2_memS false)
theorem p2_nin : P2 c (compareOp .NotIn) ninG := (p2_memD true).or (p2_memS true)
def ixG : Dat → Dat → Option ER := orE ixL (orE ixT ixS)
theorem pix_G : PIx c ixG := pix_lst.or (pix_tup.or pix_str)
end
section
@[simp] theorem addG_int (i j : Int) : addG (.int i) (.int j) = some (.fr (.int (i + j))) := rfl
@[simp] theorem addG_str (x y : Str) : addG (.str x) (.str y) = strCat (.str x) (.str y) := by
  show (match strCat (.str x) (.str y) with | some r => some r | none => none) = _
  cases strCat (.str x) (.str y) <;> rfl
@[simp] theorem addG_lst (x y : List Dat) : addG (.lst x) (.lst y) = lstCat (.lst x) (.lst y) := rfl
@[simp] theorem subG_int (i j : Int) : subG (.int i) (.int j) = some (.fr (.int (i - j))) := rfl
theorem mulG_int (i j : Int) : mulG (.int i) (.int j) = if mulC i j = true then some (.fr (.int (i * j))) else none := rfl
theorem divG_int (i j : Int) : divG (.int i) (.int j) = if divC i j = true then some (.fr (.int (i / j))) else none := rfl
theorem modG_int (i j : Int) : modG (.int i) (.int j) = if modC i j = true then some (.fr (.int (i % j))) else none := rfl
theorem powG_int (i j : Int) : powG (.int i) (.int j) = if powC i j = true then some (.fr (.int (i ^ j.toNat))) else none := rfl
@[simp] theorem ltG_int (i j : Int) : ltG (.int i) (.int j) = some (.fr (.bl (decide (i < j)))) := rfl
@[simp] theorem leG_int (i j : Int) : leG (.int i) (.int j) = some (.fr (.bl (decide (i ≤ j)))) := rfl
@[simp] theorem gtG_int (i j : Int) : gtG (.int i) (.int j) = some (.fr (.bl (decide (j < i)))) := rfl
@[simp] theorem geG_int (i j : Int) : geG (.int i) (.int j) = some (.fr (.bl (decide (j ≤ i)))) := rfl
theorem orE_none (g : Option ER) : (match g with | some r => some r | none => (none : Option ER)) = g := by cases g <;> rfl
@[simp] theorem ixG_lst (ds : List Dat) (i : Int) : ixG (.lst ds) (.int i) = (L2.atI ds i).map .fr := by
  show (match (L2.atI ds i).map ER.fr with | some r => some r | none => none) = _
  rw [orE_none]
@[simp] theorem ixG_tup (ds : List Dat) (i : Int) : ixG (.tup ds) (.int i) = (L2.atI ds i).map .fr := by
  show (match (L2.atI ds i).map ER.fr with | some r => some r | none => none) = _
  rw [orE_none]
@[simp] theorem ixG_str (x : Str) (i : Int) : ixG (.str x) (.int i) = ixS (.str x) (.int i) := rfl
@[simp] theorem inG_str (x y : Str) : inG (.str x) (.str y) = inE false memS (.str x) (.str y) := rfl
end

/-! ### defs, the law -/
theorem fnok_imp {P : Program} {w : World} {K : PySem.W.Frag} {mg : Str → Option Value} {base : Heap} {CX : CXT} {k : Nat} {f : Addr} {fd : FuncData} {ps : List Str} {sp sp' : Sp} (h : FnG P w K mg base CX k f fd ps sp) (hi : ∀ vs H Q E, sp' vs H Q E → sp vs H Q E) : FnG P w K mg base CX k f fd ps sp' :=
  ⟨fun vs H Q E q => h.len vs H Q E (hi vs H Q E q), fun A outer s H args us vs Q E h0 h1 h2 h3 h4 q => h.run A outer s H args us vs Q E h0 h1 h2 h3 h4 (hi vs H Q E q)⟩
/-- the law's promise -/
def spLaw (K : PySem.W.Frag) : Sp := fun vs H Q _ => ∃ (a : Addr) (ns : List Int), vs = [.ref a] ∧ SqL K H a (ns.map V.int) ∧ ns.length ≤ 63 ∧ ∀ H', Q (.bl true) H'
def intsD (ns : List Int) : Dat := .lst (ns.map Dat.int)
theorem law_sp {S : Sta} {F : FD} (hF : ∀ ns : List Int, ns.length ≤ 63 → ∃ outs ob, F [.fr (intsD ns)] [] = some (.ok (.fr (.bl true)) outs ob)) : ∀ vs H Q E, spLaw S.K vs H Q E → spV S 1 F vs H Q E := by
  rintro vs H Q E ⟨a, ns, rfl, hS, hn, hq⟩
  obtain ⟨outs, ob, hr⟩ := hF ns hn
  have rps : ∀ Hf ads, Reps S Hf ads (ns.map V.int) (ns.map Dat.int) := fun Hf ads => by
    clear hS hr hn
    induction ns with
    | nil => exact .nil
    | cons n ns ih => exact .cons (.int n) ih
  let w : W := { Hf := fun b => if b = a then H b else none, own := fun _ => none, ads := fun _ => none, H0 := H, args := [.ref a] }
  have hSf : SqL S.K w.Hf a (ns.map V.int) := by
    have e : w.Hf a = H a := if_pos rfl
    rcases hS with h | h
    · left
      rcases h with h | ⟨o, h⟩
      · exact .inl (e.trans h)
      · exact .inr ⟨o, e.trans h⟩
    · exact .inr h
  refine ⟨w, [.fr (intsD ns)], [], _, rfl, ⟨fun b o h => ?_, fun _ _ _ => rfl, fun _ _ => rfl, rfl, rfl, rfl, fun i s h => ?_, fun k o h => ?_, fun k b h => ?_⟩, hr, fun v H' w' F' R' ro => ?_⟩
  · have h : (if b = a then H b else none) = some o := h
    split at h
    · exact h
    · cases h
  · cases i with
    | zero => cases h; exact ⟨_, rfl, .lst hSf (rps _ _)⟩
    | succ i => simp at h
  · simp at h
  · cases h
  · cases ro
    exact hq H'
/-- the law is called over a heap in which at most its script is tracked -/
theorem law_core {P : Program} {w : World} {K : PySem.W.Frag} {mg mb : Str → Option Value} {k : Nat} {fa a : Addr} {fd : FuncData} {x : Str} {sp : Sp} {s : Shared} {vs : List Value} {H : Hp}
    (kx : K.In s.heap) (ns : s.heap.Ns mainGlobals mg) (nb : s.heap.Ns builtinsNs mb) (hb : ∀ x : Str, x ≠ "__name__" → mb x = bootBuiltins x) (nl : s.heap.NoLimit) (g0 : s.gens = #[])
    (ha : s.heap.get? a = some { cls := .type "list", data := .seq vs.toArray }) (hr : Room k callerA)
    (F : ∀ base : Heap, K.In base → base.Ns mainGlobals mg → FnG P w K mg base (CX P w) k fa fd [x] sp) (hbd : ∀ (s : Shared) (u : Value), BindsTo s fd ⟨[u], []⟩ [(x, u)])
    (hok : HOk P w H s.heap) (hA : ∀ b, H b ≠ none → b = a) (hz : ∀ b o, H b = some o → ∃ ob u, o = .frz ob u) (hK : H a ≠ none → K.lookup a = none) (hsp : sp [.ref a] H (fun v _ => v = .bl true) fun _ _ _ => False) :
    codeAny (model P w) callerA (.call (.ref fa) ⟨[.ref a], []⟩) (fun r s' => r = .ok (.ret (.bool true)) ∧ OldK s.heap s'.heap ∧ s'.os = s.os ∧ AllBare s'.gens) s := by
  have away : ∀ {b : Addr} {o : Obj} {es : Array DictEntry} {ep : Nat}, s.heap.get? b = some o → o.data = .dict es ep → H b = none := fun {b o es ep} e d => by
    cases q : H b with
    | none => rfl
    | some u =>
      obtain rfl := hA b (by rw [q]; exact nofun)
      rw [ha] at e
      cases e
      cases d
  have hid : ∀ {b : Addr} {m : Str → Option Value}, s.heap.Ns b m → (hidT s.heap H).Ns b m := fun {b m} ⟨o, es, ep, e, d, r⟩ => ⟨o, es, ep, hidT_get e (away e d), d, r⟩
  have kb : K.In (hidT s.heap H) := fun b o e => hidT_get (kx b o e) (by
    cases q : H b with
    | none => rfl
    | some u =>
      obtain rfl := hA b (by rw [q]; exact nofun)
      rw [hK (by rw [q]; exact nofun)] at e
      cases e)
  have e0 : Env0 P w K mg (hidT s.heap H) callerA [] s H :=
    ⟨rfl, ⟨kb, hid ns, ⟨mb, hid nb, hb⟩, nl.imp fun mc q => ⟨hid q.1, q.2⟩⟩, fun b o e => of_hidT e, Nat.le_of_eq (hidT_size _ _), trivial, (fun b hb => nomatch hb), hok, .of_eq g0⟩
  refine codeAny_mono ((F _ kb (hid ns)).run callerA [] s H ⟨[.ref a], []⟩ [.ref a] [.ref a] _ _ rfl hr e0 (hbd s (.ref a)) (.cons rfl .nil) hsp) fun r s' z => ?_
  match r, z with
  | .error e, z => obtain ⟨_, _, _, _, _, _, _, _, _, _, _, _, z⟩ := z; exact z.elim
  | .ok (.ret u), ⟨v, H', os, bare, un, hok', rv, q⟩ =>
    have q : v = .bl true := q
    subst q
    cases (show u = Value.bool true from rv)
    refine ⟨rfl, OldK.of_keep fun b o e => ?_, os, bare⟩
    cases q : H b with
    | none => exact un.keep b o e q (fun z => nomatch z) (by simp)
    | some u =>
      obtain ⟨ob, u', rfl⟩ := hz b u q
      obtain ⟨e1, _⟩ := hok b _ q
      obtain ⟨e2, _⟩ := hok' b _ (un.frzs b ob _ q)
      rw [e] at e1
      cases e1
      exact e2
theorem law_walk {l : PySem.W.OpenLaw} {k : Nat} {q : Program} {loose : List Str} {XP : (Str → Option Value) → Heap → Prop} {YP : World → Heap → Prop} {d : DefRec} {K : Params → PySem.W.Frag} (hn : l.most = some 63) (hdf : d.params.defaults = []) (hr : Room k callerA)
    (hY : ∀ (w : World) (h : Heap), YP w h → (K w.params).In h)
    (F : ∀ (w : World) (mg : Str → Option Value) (fa : Addr) (h : Heap), (K w.params).In h → h.Ns mainGlobals mg → mg d.name = some (.ref fa) →
      ∃ fd : FuncData, (∀ (s : Shared) (u : Value), BindsTo s fd ⟨[u], []⟩ [("script", u)]) ∧ ∀ base : Heap, (K w.params).In base → base.Ns mainGlobals mg → FnG l.prog w (K w.params) mg base (CX l.prog w) k fa fd ["script"] (spLaw (K w.params))) :
    PySem.W.WalkO q loose XP YP l.row.toRowW d [] (fun f vs => PySem.call f vs) :=
  Att.attach_call hn hdf fun w s₀ s mg mb fa o pm cd doc a vs ns G Y ho hd hcd hmg hobj hints hlen hg => by
    have kx := hY w _ Y
    obtain ⟨fd, hb, hF⟩ := F w mg fa _ kx G.T.g hmg
    have rv := vals_ints hints
    have lv := hints.length
    have hl : ns.length ≤ sizeLine := Nat.le_trans hlen (by decide)
    cases hk : (K w.params).lookup a with
    | some o' =>
      have e := kx a o' hk
      rw [hobj] at e
      cases e
      refine law_core (H := fun _ => none) kx G.T.g G.T.b G.T.builtins G.T.nolimit hg hobj hr hF hb (fun b u z => nomatch z) (fun b z => absurd rfl z) (fun b o z => nomatch z) (fun z => absurd rfl z) ⟨a, ns, rfl, .inr ⟨_, vs.toArray, _, hk, rfl, rfl, rfl, by rw [List.size_toArray, lv]; exact hl, by simpa using rv⟩, hlen, fun _ => rfl⟩
    | none =>
      let ob : Obj := { cls := .type "list", data := .seq vs.toArray }
      refine law_core (H := fun b => if b = a then some (.frz ob (.lst (ns.map V.int))) else none) kx G.T.g G.T.b G.T.builtins G.T.nolimit hg hobj hr hF hb (fun b u z => ?_) (fun b z => ?_) (fun b o z => ?_) (fun _ => hk) ⟨a, ns, rfl, .inl (.inr ⟨ob, if_pos rfl⟩), hlen, fun _ => rfl⟩
      · by_cases e : b = a
        · subst e
          cases (if_pos rfl : (if b = b then some (HO.frz ob (.lst (ns.map V.int))) else none) = _).symm.trans z
          exact ⟨hobj, by rw [List.length_map]; exact hl, vs, _, rv, hobj⟩
        · cases (if_neg e : (if b = a then some (HO.frz ob (.lst (ns.map V.int))) else none) = _).symm.trans z
      · by_cases e : b = a
        · exact e
        · exact absurd (if_neg e) z
      · by_cases e : b = a
        · cases (if_pos e : (if b = a then some (HO.frz ob (.lst (ns.map V.int))) else none) = _).symm.trans z
          exact ⟨_, _, rfl⟩
        · cases (if_neg e : (if b = a then some (HO.frz ob (.lst (ns.map V.int))) else none) = _).symm.trans z
/-- no def, no class as a value -/
abbrev sta (P : Program) (w : World) (K : PySem.W.Frag) (mg : Str → Option Value) (base : Heap) : Sta := ⟨P, w, K, mg, base, fun _ => none, fun _ => none⟩
theorem fnAt_mk {S : Sta} {lvl k np : Nat} {x : Str} {F : FD} {f : Addr} {fd : FuncData} {ps : List Str} (hm : S.mg x = some (.ref f)) (hk : PySem.W.keepIn S.K (.ref f) = true) (h : FnG S.P S.w S.K S.mg S.base (CX S.P S.w) k f fd ps (spV S np F)) (hl : k ≤ lvl) (hb : Binds S.K fd ps []) : FnAt S lvl x np F [] :=
  ⟨f, fd, k, ps, [], [], hm, hk, h, hl, hb, .nil, fun _ => .nil⟩
/-- a < b < c as a test -/
def chainT (g1 g2 : Dat → Dat → Option ER) (fa fb fc : Act ER) : Act Bool := fa.bnd fun r1 => fb.bnd fun r2 => (opD g1 r1 r2).bnd fun q => (truA q).bnd fun k => if k = true then fc.bnd fun r3 => (opD g2 r2 r3).bnd truA else Act.ret false
theorem vt_chainT {c : Ctx} {a b e3 : Expr} {fa fb fc : Act ER} {pos : Pos} {op op' : CmpOp} {g1 g2 : Dat → Dat → Option ER} (h1 : P2 c (compareOp op) g1) (h2 : P2 c (compareOp op') g2) (ha : VE c a fa) (hb : VE c b fb) (hc : VE c e3 fc) (hm : lastMarks [op, op'] [b, e3] = false) :
    VT c (.Compare a [op, op'] [b, e3] pos) (chainT g1 g2 fa fb fc) := vt_chain h1 h2 ha hb hc hm
end VS

/-! the denotations, computed -/
namespace VS
open PySem L2
section
variable {α β : Type} {ς : VS.St}
@[simp] theorem x_bnd (m : Act α) (f : α → Act β) : Act.bnd m f ς = (match m ς with | none => none | some (.ok a ς') => f a ς' | some (.ex x ς') => some (.ex x ς')) := rfl
@[simp] theorem x_ret (a : α) : Act.ret a ς = some (.ok a ς) := rfl
@[simp] theorem x_cst (d : Dat) : cst d ς = some (.ok (.fr d) ς) := rfl
@[simp] theorem x_var (i : Nat) : var i ς = (match ς.sl[i]? with | some (some (.fr d)) => some (.ok (.fr d) ς) | some (some (.ow d)) => some (.ok (.sl i) ς) | _ => none) := rfl
@[simp] theorem x_opD (g : Dat → Dat → Option ER) (r1 r2 : ER) : opD g r1 r2 ς = (match cur ς r1, cur ς r2 with | some a, some b => (g a b).map fun r => .ok r ς | _, _ => none) := rfl
@[simp] theorem x_op2 (g : Dat → Dat → Option ER) (fa fb : Act ER) : op2 g fa fb ς = Act.bnd fa (fun r1 => Act.bnd fb fun r2 => opD g r1 r2) ς := rfl
@[simp] theorem x_op1 (g : Dat → Option ER) (f : Act ER) : op1 g f ς = Act.bnd f (fun r ς => ((cur ς r).bind g).map fun q => .ok q ς) ς := rfl
@[simp] theorem x_cur_fr (d : Dat) : cur ς (.fr d) = some d := rfl
@[simp] theorem x_cur_tp (d : Dat) : cur ς (.tp d) = some d := rfl
@[simp] theorem x_cur_sl (i : Nat) : cur ς (.sl i) = (match ς.sl[i]? with | some (some (.fr d)) => some d | some (some (.ow d)) => some d | _ => none) := rfl
@[simp] theorem x_settle_fr (d : Dat) : VS.settle ς (.fr d) = some (d, ς) := rfl
@[simp] theorem x_settle_tp (d : Dat) : VS.settle ς (.tp d) = some (d, ς) := rfl
@[simp] theorem x_settle_sl (i : Nat) : VS.settle ς (.sl i) = (match ς.sl[i]? with | some (some (.fr d)) => some (d, ς) | some (some (.ow d)) => some (d, ς.set i (some (.fr d))) | _ => none) := rfl
@[simp] theorem x_settleL_nil : settleL ς [] = some ([], ς) := rfl
@[simp] theorem x_settleL_cons (r : ER) (rs : List ER) : settleL ς (r :: rs) = (match VS.settle ς r with | none => none | some (d, ς1) => match settleL ς1 rs with | none => none | some (ds, ς2) => some (d :: ds, ς2)) := rfl
@[simp] theorem x_curL_nil : curL ς [] = some [] := rfl
@[simp] theorem x_curL_cons (r : ER) (rs : List ER) : curL ς (r :: rs) = (match cur ς r, curL ς rs with | some d, some ds => some (d :: ds) | _, _ => none) := rfl
@[simp] theorem x_setS (sl : List (Option VS.Slot)) (ob : List OVal) (i : Nat) (s : Option VS.Slot) : St.set ⟨sl, ob⟩ i s = ⟨sl.set i s, ob⟩ := rfl
@[simp] theorem x_setR_fr (i : Nat) (d : Dat) : setR ς i (.fr d) = some (ς.set i (some (.fr d))) := rfl
@[simp] theorem x_setR_tp (i : Nat) (d : Dat) : setR ς i (.tp d) = some (ς.set i (some (.ow d))) := rfl
@[simp] theorem x_setR_sl (i j : Nat) : setR ς i (.sl j) = (VS.settle ς (.sl j)).map fun p => p.2.set i (some (.fr p.1)) := rfl
@[simp] theorem x_setA (i : Nat) (f : Act ER) : setA i f ς = Act.bnd f (fun r ς => (setR ς i r).map fun ς' => .ok .nx ς') ς := rfl
@[simp] theorem x_seqA (f g : Act Flw) : seqA f g ς = Act.bnd f (fun k => match k with | .nx => g | k => Act.ret k) ς := rfl
@[simp] theorem x_iteA (f : Act Bool) (g h : Act α) : iteA f g h ς = Act.bnd f (fun b => if b = true then g else h) ς := rfl
@[simp] theorem x_testA (f : Act ER) : testA f ς = Act.bnd f truA ς := rfl
@[simp] theorem x_truA (r : ER) : truA r ς = ((cur ς r).bind truD).map fun b => .ok b ς := rfl
@[simp] theorem x_tru_bl (b : Bool) : truD (.bl b) = some b := rfl
@[simp] theorem x_tru_non : truD .non = some false := rfl
@[simp] theorem x_tru_int (i : Int) : truD (.int i) = some (i != 0) := rfl
@[simp] theorem x_tru_lst (ds : List Dat) : truD (.lst ds) = some (!ds.isEmpty) := rfl
@[simp] theorem x_tru_tup (ds : List Dat) : truD (.tup ds) = some (!ds.isEmpty) := rfl
@[simp] theorem x_andA (f g : Act Bool) : andA f g ς = Act.bnd f (fun b => if b = true then g else Act.ret false) ς := rfl
@[simp] theorem x_orA (f g : Act Bool) : orA f g ς = Act.bnd f (fun b => if b = true then Act.ret true else g) ς := rfl
@[simp] theorem x_notA (f : Act Bool) : notA f ς = Act.bnd f (fun b => Act.ret (!b)) ς := rfl
@[simp] theorem x_andV (f g : Act ER) : andV f g ς = Act.bnd f (fun r => Act.bnd (truA r) fun b => if b = true then g else Act.ret r) ς := rfl
@[simp] theorem x_orV (f g : Act ER) : orV f g ς = Act.bnd f (fun r => Act.bnd (truA r) fun b => if b = true then Act.ret r else g) ς := rfl
@[simp] theorem x_notV (f : Act ER) : notV f ς = Act.bnd f (fun r => Act.bnd (truA r) fun b => Act.ret (.fr (.bl (!b)))) ς := rfl
@[simp] theorem x_chainT (g1 g2 : Dat → Dat → Option ER) (fa fb fc : Act ER) : chainT g1 g2 fa fb fc ς = Act.bnd fa (fun r1 => Act.bnd fb fun r2 => Act.bnd (opD g1 r1 r2) fun q => Act.bnd (truA q) fun k => if k = true then Act.bnd fc (fun r3 => Act.bnd (opD g2 r2 r3) truA) else Act.ret false) ς := rfl
@[simp] theorem x_chainA (g1 g2 : Dat → Dat → Option ER) (fa fb fc : Act ER) : chainA g1 g2 fa fb fc ς = Act.bnd fa (fun r1 => Act.bnd fb fun r2 => Act.bnd (opD g1 r1 r2) fun q => Act.bnd (truA q) fun k => if k = true then Act.bnd fc (fun r3 => opD g2 r2 r3) else Act.ret q) ς := rfl
@[simp] theorem x_retA (p : Nat → Bool) (f : Act ER) : retA p f ς = Act.bnd f (fun r ς => (outR p ς r).map fun p => .ok (.rt p.1) p.2) ς := rfl
@[simp] theorem x_outR_fr (p : Nat → Bool) (d : Dat) : outR p ς (.fr d) = some (.fr d, ς) := rfl
@[simp] theorem x_outR_tp (p : Nat → Bool) (d : Dat) : outR p ς (.tp d) = some (.tp d, ς) := rfl
@[simp] theorem x_outR_sl (p : Nat → Bool) (i : Nat) : outR p ς (.sl i) = (match ς.sl[i]? with | some (some (.fr d)) => some (.fr d, ς) | some (some (.ow d)) => if p i = true then some (.fr d, ς.set i (some (.fr d))) else some (.tp d, ς.set i none) | _ => none) := rfl
@[simp] theorem x_dropA (f : Act ER) : dropA f ς = Act.bnd f (fun _ => Act.ret .nx) ς := rfl
@[simp] theorem x_consA (f : Act ER) (g : Act (List ER)) : consA f g ς = Act.bnd f (fun r => Act.bnd g fun rs => Act.ret (r :: rs)) ς := rfl
@[simp] theorem x_callA (g : List Dat → Option ER) (fs : Act (List ER)) : callA g fs ς = Act.bnd fs (fun rs ς => ((curL ς rs).bind g).map fun r => .ok r ς) ς := rfl
@[simp] theorem x_lstA (g : Act (List ER)) : lstA g ς = Act.bnd g (fun rs ς => (settleL ς rs).bind fun p => if p.1.length ≤ sizeLine then some (.ok (.tp (.lst p.1)) p.2) else none) ς := rfl
@[simp] theorem x_tupA (g : Act (List ER)) : tupA g ς = Act.bnd g (fun rs ς => (settleL ς rs).bind fun p => if p.1.length ≤ sizeLine then some (.ok (.fr (.tup p.1)) p.2) else none) ς := rfl
@[simp] theorem x_rangeA (fs : Act (List ER)) : rangeA fs ς = Act.bnd fs (fun rs ς => ((curL ς rs).bind rangeF).map fun ds => .ok ds ς) ς := rfl
@[simp] theorem x_iterA (f : Act ER) : iterA f ς = Act.bnd f (fun r ς => (VS.settle ς r).bind fun p => (walkD p.1).map fun ds => .ok ds p.2) ς := rfl
@[simp] theorem x_walk_lst (ds : List Dat) : walkD (.lst ds) = some ds := rfl
@[simp] theorem x_walk_tup (ds : List Dat) : walkD (.tup ds) = some ds := rfl
@[simp] theorem x_walk_str (x : Str) : walkD (.str x) = some (signsD x) := rfl
@[simp] theorem x_stA (g : Dat → Dat → Dat → Option Dat) (f fo fi : Act ER) : stA g f fo fi ς = Act.bnd f (fun r => Act.bnd fo fun ro => Act.bnd fi fun ri => stIx g r ro ri) ς := rfl
@[simp] theorem x_stIx (g : Dat → Dat → Dat → Option Dat) (r ri : ER) (j : Nat) : stIx g r (.sl j) ri ς = (match settleL ς [r, ri] with | some ([x, k], ς') => (match ς'.sl[j]? with | some (some (.ow d)) => (g d k x).map fun d' => .ok .nx (ς'.set j (some (.ow d'))) | _ => none) | _ => none) := rfl
@[simp] theorem x_stL (ds : List Dat) (k : Int) (x : Dat) : stL (.lst ds) (.int k) x = (ixN ds.length k).map fun j => .lst (ds.set j x) := rfl
@[simp] theorem x_parA (is : List Nat) (g : Act (List ER)) : parA is g ς = Act.bnd g (fun rs ς => (deslL ς rs).bind fun p => (setRL p.2 is p.1).map fun ς' => .ok .nx ς') ς := rfl
@[simp] theorem x_desl_nil : deslL ς [] = some ([], ς) := rfl
@[simp] theorem x_desl_fr (d : Dat) (rs : List ER) : deslL ς (.fr d :: rs) = (deslL ς rs).map fun p => (.fr d :: p.1, p.2) := rfl
@[simp] theorem x_desl_tp (d : Dat) (rs : List ER) : deslL ς (.tp d :: rs) = (deslL ς rs).map fun p => (.tp d :: p.1, p.2) := rfl
@[simp] theorem x_desl_sl (i : Nat) (rs : List ER) : deslL ς (.sl i :: rs) = (match VS.settle ς (.sl i) with | none => none | some (d, ς1) => (deslL ς1 rs).map fun p => (.fr d :: p.1, p.2)) := rfl
@[simp] theorem x_setRL_nil : setRL ς [] [] = some ς := rfl
@[simp] theorem x_setRL_cons (i : Nat) (is : List Nat) (r : ER) (rs : List ER) : setRL ς (i :: is) (r :: rs) = (match setR ς i r with | none => none | some ς1 => setRL ς1 is rs) := rfl
@[simp] theorem x_tgName (i : Nat) (d : Dat) : tgName i d ς = some (ς.set i (some (.fr d))) := rfl
@[simp] theorem x_forA_nil (t : Dat → VS.St → Option VS.St) (g : Act Flw) : forA t g [] ς = some (.ok .nx ς) := rfl
theorem x_forA_cons (t : Dat → VS.St → Option VS.St) (g : Act Flw) (d : Dat) (ds : List Dat) : forA t g (d :: ds) ς = (match t d ς with | none => none | some ς' => Act.bnd g (fun k => match k with | .nx => forA t g ds | .ct => forA t g ds | .bk => Act.ret .nx | .rt r => Act.ret (.rt r)) ς') := rfl
theorem x_whileA (ft : Act Bool) (g : Act Flw) (n : Nat) : whileA ft g (n + 1) ς = Act.bnd ft (fun b => if b = true then Act.bnd g (fun k => match k with | .nx => whileA ft g n | .ct => whileA ft g n | .bk => Act.ret .nx | .rt r => Act.ret (.rt r)) else Act.ret .nx) ς := rfl
@[simp] theorem x_defA (np : Nat) (F : FD) (io : List Bool) (dd : List Dat) (g : Act (List ER)) : defA np F io dd g ς = Act.bnd g (fun rs ς => if rs.length + dd.length = np then passF F io (rs ++ dd.map .fr) ς else none) ς := rfl
@[simp] theorem x_passF (F : FD) (io : List Bool) (rs : List ER) : passF F io rs ς = (match settleIO ς io rs with
  | none => none
  | some (rs', ς1) => match argsO ς1 rs' with
    | none => none
    | some args => if (slots rs').Nodup then match F args ς1.ob with
        | none => none
        | some (.ok r outs ob) => if frOk args outs = true then some (.ok r (putBack { ς1 with ob := ob } rs' outs)) else none
        | some (.ex x outs ob) => if frOk args outs = true then some (.ex x (putBack { ς1 with ob := ob } rs' outs)) else none
      else none) := rfl
@[simp] theorem x_io_nil (io : List Bool) : settleIO ς io [] = some ([], ς) := by unfold settleIO; rfl
@[simp] theorem x_io_t (io : List Bool) (i : Nat) (rs : List ER) : settleIO ς (true :: io) (.sl i :: rs) = (settleIO ς io rs).map fun p => (.sl i :: p.1, p.2) := rfl
@[simp] theorem x_io_tf (io : List Bool) (d : Dat) (rs : List ER) : settleIO ς (true :: io) (.fr d :: rs) = (settleIO ς io rs).map fun p => (.fr d :: p.1, p.2) := rfl
@[simp] theorem x_io_tt (io : List Bool) (d : Dat) (rs : List ER) : settleIO ς (true :: io) (.tp d :: rs) = (settleIO ς io rs).map fun p => (.tp d :: p.1, p.2) := rfl
@[simp] theorem x_arg_tp (d : Dat) : argO ς (.tp d) = some (.ow d) := rfl
@[simp] theorem x_slots_tp (d : Dat) (rs : List ER) : slots (.tp d :: rs) = slots rs := rfl
@[simp] theorem x_put_tp (d : Dat) (rs : List ER) (s : VS.Slot) (ss : List VS.Slot) : putBack ς (.tp d :: rs) (s :: ss) = putBack ς rs ss := rfl
@[simp] theorem x_io_f (io : List Bool) (r : ER) (rs : List ER) : settleIO ς (false :: io) (r :: rs) = (match (VS.settle ς r).map (fun p => (ER.fr p.1, p.2)) with | none => none | some (r', ς1) => (settleIO ς1 io rs).map fun p => (r' :: p.1, p.2)) := rfl
@[simp] theorem x_args_nil : argsO ς [] = some [] := rfl
@[simp] theorem x_args_cons (r : ER) (rs : List ER) : argsO ς (r :: rs) = (match argO ς r, argsO ς rs with | some s, some ss => some (s :: ss) | _, _ => none) := rfl
@[simp] theorem x_arg_fr (d : Dat) : argO ς (.fr d) = some (.fr d) := rfl
@[simp] theorem x_arg_sl (j : Nat) : argO ς (.sl j) = (match ς.sl[j]? with | some (some s) => some s | _ => none) := rfl
@[simp] theorem x_slots_nil : slots [] = [] := rfl
@[simp] theorem x_slots_sl (j : Nat) (rs : List ER) : slots (.sl j :: rs) = j :: slots rs := rfl
@[simp] theorem x_slots_fr (d : Dat) (rs : List ER) : slots (.fr d :: rs) = slots rs := rfl
@[simp] theorem x_put_nil (ss : List VS.Slot) : putBack ς [] ss = ς := by unfold putBack; rfl
@[simp] theorem x_put_sl (j : Nat) (rs : List ER) (s : VS.Slot) (ss : List VS.Slot) : putBack ς (.sl j :: rs) (s :: ss) = putBack (ς.set j (some s)) rs ss := rfl
@[simp] theorem x_put_fr (d : Dat) (rs : List ER) (s : VS.Slot) (ss : List VS.Slot) : putBack ς (.fr d :: rs) (s :: ss) = putBack ς rs ss := rfl
@[simp] theorem x_frOk_nil : frOk [] [] = true := rfl
@[simp] theorem x_frOk_fr (d e : Dat) (as os : List VS.Slot) : frOk (.fr d :: as) (.fr e :: os) = frOk as os := rfl
@[simp] theorem x_frOk_ow (d : Dat) (s : VS.Slot) (as os : List VS.Slot) : frOk (.ow d :: as) (s :: os) = frOk as os := rfl
@[simp] theorem x_runB (n np : Nat) (ro : Nat → Bool) (g : Act Flw) (args : List VS.Slot) (ob : List OVal) : runB n np ro g args ob = (if args.length = np ∧ roOk ro args 0 = true then
    match g ⟨args.map some ++ List.replicate (n - args.length) none, ob⟩ with
    | some (.ok .nx ς) => (outsO ς args 0).map fun outs => .ok (.fr .non) outs ς.ob
    | some (.ok (.rt r) ς) => (outsO ς args 0).map fun outs => .ok r outs ς.ob
    | some (.ex x ς) => (outsO ς args 0).map fun outs => .ex x outs ς.ob
    | _ => none
  else none) := rfl
@[simp] theorem x_outs_nil (i : Nat) : outsO ς [] i = some [] := rfl
@[simp] theorem x_outs_fr (d : Dat) (r : List VS.Slot) (i : Nat) : outsO ς (.fr d :: r) i = (outsO ς r (i + 1)).map (VS.Slot.fr d :: ·) := rfl
@[simp] theorem x_outs_ow (d : Dat) (r : List VS.Slot) (i : Nat) : outsO ς (.ow d :: r) i = (match ς.sl[i]? with | some (some s) => (outsO ς r (i + 1)).map (s :: ·) | _ => none) := rfl
@[simp] theorem x_ro_nil (ro : Nat → Bool) (i : Nat) : roOk ro [] i = true := rfl
@[simp] theorem x_ro_fr (ro : Nat → Bool) (d : Dat) (r : List VS.Slot) (i : Nat) : roOk ro (.fr d :: r) i = roOk ro r (i + 1) := rfl
@[simp] theorem x_ro_ow (ro : Nat → Bool) (d : Dat) (r : List VS.Slot) (i : Nat) : roOk ro (.ow d :: r) i = (ro i && roOk ro r (i + 1)) := rfl
@[simp] theorem x_mthA (T : String) (g : List Dat → Option ER) (fo : Act ER) (fs : Act (List ER)) : mthA T g fo fs ς = Act.bnd fo (fun r => Act.bnd (grdA fun ς => ((cur ς r).map (tyD T)).getD false) fun _ => Act.bnd fs fun rs ς => ((curL ς (r :: rs)).bind g).map fun q => .ok q ς) ς := rfl
@[simp] theorem x_grdA (p : VS.St → Bool) : grdA p ς = if p ς = true then some (.ok () ς) else none := rfl
@[simp] theorem x_tyD_str (T : String) (x : Str) : tyD T (.str x) = decide (T = "str") := rfl
@[simp] theorem x_tyD_lst (T : String) (x : List Dat) : tyD T (.lst x) = decide (T = "list") := rfl
@[simp] theorem x_lcRun_nil (vs : List Nat) (t : Dat → VS.St → Option VS.St) (ft : Act Bool) (fe : Act ER) : lcRun vs t ft fe [] ς = some ([], ς) := rfl
theorem x_lcRun_cons (vs : List Nat) (t : Dat → VS.St → Option VS.St) (ft : Act Bool) (fe : Act ER) (d : Dat) (ds : List Dat) : lcRun vs t ft fe (d :: ds) ς = (match t d ς with
    | none => none
    | some ς1 => match ft ς1 with
      | some (.ok true ς2) => match fe ς2 with
        | some (.ok r ς3) => match VS.settle ς3 r with
          | some (x, ς4) => (lcRun vs t ft fe ds (wipeS vs ς4)).map fun p => (x :: p.1, p.2)
          | none => none
        | _ => none
      | some (.ok false ς2) => lcRun vs t ft fe ds (wipeS vs ς2)
      | _ => none) := rfl
@[simp] theorem x_lcA (vs : List Nat) (t : Dat → VS.St → Option VS.St) (ft : Act Bool) (fe : Act ER) (fi : Act (List Dat)) : lcA vs t ft fe fi ς = Act.bnd fi (fun ds ς => if noOwn ς vs = true then
    match lcRun vs t ft fe ds (wipeS vs ς) with
    | some (xs, ς') => if xs.length ≤ sizeLine then some (.ok (.tp (.lst xs)) (restore ς vs ς')) else none
    | none => none
  else none) ς := rfl
@[simp] theorem x_wipe_nil : wipeS [] ς = ς := rfl
@[simp] theorem x_wipe_cons (v : Nat) (vs : List Nat) : wipeS (v :: vs) ς = (wipeS vs ς).set v none := rfl
@[simp] theorem x_rest_nil (ς0 : VS.St) : restore ς0 [] ς = ς := rfl
@[simp] theorem x_rest_cons (ς0 : VS.St) (v : Nat) (vs : List Nat) : restore ς0 (v :: vs) ς = (restore ς0 vs ς).set v (ς0.sl[v]?.join) := rfl
@[simp] theorem x_noOwn_nil : noOwn ς [] = true := rfl
@[simp] theorem x_noOwn_cons (v : Nat) (vs : List Nat) : noOwn ς (v :: vs) = ((match ς.sl[v]? with | some (some (.ow _)) => false | _ => true) && noOwn ς vs) := rfl
end
@[simp] theorem x_atI0 (d : Dat) (ds : List Dat) : L2.atI (d :: ds) 0 = some d := by
  unfold L2.atI L2.ixN
  rw [if_pos (Int.le_refl 0), if_pos (by simp only [List.length_cons]; omega)]
  rfl
@[simp] theorem x_atI1 (c d : Dat) (ds : List Dat) : L2.atI (c :: d :: ds) 1 = some d := by
  unfold L2.atI L2.ixN
  rw [if_pos (by decide), if_pos (by simp only [List.length_cons]; omega)]
  rfl
@[simp] theorem x_ixN0 (n : Nat) : L2.ixN (n + 1) 0 = some 0 := by
  unfold L2.ixN
  rw [if_pos (Int.le_refl 0), if_pos (by omega)]
  rfl
@[simp] theorem x_ixN1 (n : Nat) : L2.ixN (n + 1 + 1) 1 = some 1 := by
  unfold L2.ixN
  rw [if_pos (by decide), if_pos (by omega)]
  rfl
theorem x_mul {i j : Int} (h : (-(2 ^ 64) < i ∧ i < 2 ^ 64) ∨ (-(2 ^ 64) < j ∧ j < 2 ^ 64)) : mulG (.int i) (.int j) = some (.fr (.int (i * j))) := by
  rw [mulG_int, if_pos]
  unfold mulC
  rw [Bool.or_eq_true]
  exact h.imp (fun h => decide_eq_true h) fun h => decide_eq_true h
theorem x_div {i j : Int} (h : 0 < j) (h2 : j < 2 ^ 256) : divG (.int i) (.int j) = some (.fr (.int (i / j))) := by
  rw [divG_int, if_pos]
  exact decide_eq_true ⟨h, h2⟩
theorem x_mod {i j : Int} (h : 0 < j) : modG (.int i) (.int j) = some (.fr (.int (i % j))) := by
  rw [modG_int, if_pos]
  exact decide_eq_true h
end VS

/-! set(xs) of a list of whole numbers -/
namespace VS
open PySem PySem.Spec PyProof.Rows L2
section
variable {P : Program} {w : World} {A : Around} {E : Value → Shared → Prop} {s : Shared}
theorem set_of_list {l : Addr} {items : Array Value} (ns : List Int) {Q : Value → Shared → Prop} (hh : A.handled = none) (hl : s.heap.IsList l items) (hit : IntsAre items.toList ns) (hb : ns.length + 1 < scanBound)
    (h : ∀ (h' : Heap) (tk c : Nat), SetR w h' s.heap.objs.size (fun j => decide (j ∈ ns)) c → c ≤ ns.length → (∀ b o, s.heap.get? b = some o → h'.get? b = some o) → Q (.ref s.heap.objs.size) { s with heap := h', toks := tk }) :
    wpAny (model P w) A (call (.type "set") [.ref l]) Q E s := by
  have hisz : items.size = ns.length := by
    have q := IntsAre.length hit
    rw [Array.length_toList] at q
    exact q
  obtain ⟨c, tl, hmro⟩ := F.called_set.mro
  have hmade := F.called_set.made
  have hsub := F.called_set.sub
  refine wpAny_call (codeAny_of_tree ?_)
  show wpAny _ _ (callAny (.type "set") _) _ _ _
  refine wpAny_pure ⟨Code.quiet_builtin _ (by decide +kernel), codeAny_builtin F.entry_type_call ?_⟩
  rw [Around.under_plain (weight_type_call_type "set" [.ref l] []) rfl]
  have h1 := F.called_set.notType
  have h2 := F.called_set.canCreate
  have hct := F.typeCall_set_1 (.ref l)
  repeat (any_goals (first | assumption | wp_step))

  refine codeAny_mono (code_set_led1 (.ref l) (E := E) (Q₁ := fun obj s₁ => obj = .ref s.heap.objs.size ∧ s₁ = { s with heap := s.heap.push { cls := .type "set", dict := none, data := .set #[] 0 (.fresh 0 0 (!w.params.followText "set-order")) } }) ⟨rfl, rfl⟩) fun r s₁ hr => ?_
  cases r with
  | error e => exact hr
  | ok fl =>
    cases fl with
    | ret obj =>
      obtain ⟨rfl, rfl⟩ := hr
      have hS : (s.heap.push { cls := .type "set", dict := none, data := .set #[] 0 (.fresh 0 0 (!w.params.followText "set-order")) }).get? s.heap.objs.size = some { cls := .type "set", dict := none, data := .set #[] 0 (.fresh 0 0 (!w.params.followText "set-order")) } := Heap.get?_push_size _ rfl
      have hT : Shared.TypeIs { s with heap := s.heap.push { cls := .type "set", dict := none, data := .set #[] 0 (.fresh 0 0 (!w.params.followText "set-order")) } } (.ref s.heap.objs.size) "set" := ⟨_, hS, rfl⟩
      have hli := F.called_set.init.lookup
      have hbi := F.called_set.init.bind (.ref s.heap.objs.size)
      repeat (any_goals (first | assumption | wp_step))

      refine codeAny_mono (codeAny_call_builtin (R := wants (fun r s₂ => r = .none ∧ ∃ h' tk c, s₂ = { s with heap := h', toks := tk } ∧ SetR w h' s.heap.objs.size (fun j => decide (j ∈ ns)) c ∧ c ≤ ns.length ∧
          (∀ b o, s.heap.get? b = some o → h'.get? b = some o)) E) F.called_set.init.plain F.entry_set_init (check_set_init_1 hT ?_)) fun r₂ s₂ hr₂ => ?_
      · obtain ⟨ol, hol, hcl, nl, hdl⟩ := hl
        obtain ⟨ocls, odict, odata, oslots⟩ := ol
        simp only at hcl hdl
        subst hcl; subst hdl
        have hol' : (s.heap.push { cls := .type "set", dict := none, data := .set #[] 0 (.fresh 0 0 (!w.params.followText "set-order")) }).get? l = some { cls := .type "list", dict := odict, data := .seq items nl, slots := oslots } := Heap.get?_push_of_some _ hol
        have hsls := F.sub_list_set
        have hslf := F.sub_list_frozenset
        have hne : (Value.type "list" == Value.type "dict") = false := by decide
        have hl1 : (s.heap.push { cls := .type "set", dict := none, data := .set #[] 0 (.fresh 0 0 (!w.params.followText "set-order")) }).IsList l items := ⟨_, hol', rfl, nl, rfl⟩
        unfold Builtin.«set.__init__» noKeywords Builtin.Frozenset.updateFrom
        generalize hPI : pyIter = PI
        wp_walk
        subst hPI

        refine wpAny_pyIter_list hl1 ?_
        refine wpAny_bind (wpAny_runValue ?_)
        have hlS : l < s.heap.objs.size := Heap.lt_size hol
        have hh3 : A.in1.in1.in1.handled = none := by simp [hh]
        have hz1 : (s.heap.push { cls := .type "set", dict := none, data := .set #[] 0 (.fresh 0 0 (!w.params.followText "set-order")) }).objs.size = s.heap.objs.size + 1 := Heap.size_push ..
        have hneI : l ≠ (s.heap.push { cls := .type "set", dict := none, data := .set #[] 0 (.fresh 0 0 (!w.params.followText "set-order")) }).objs.size := by
          rw [Heap.size_push]; exact Nat.ne_of_lt (Nat.lt_succ_of_lt hlS)
        have hSf : s.heap.objs.size ∉ [(s.heap.push { cls := .type "set", dict := none, data := .set #[] 0 (.fresh 0 0 (!w.params.followText "set-order")) }).objs.size, l] := by
          rw [Heap.size_push]; simp only [List.mem_cons, List.mem_singleton, List.not_mem_nil, or_false, not_or]
          exact ⟨Nat.ne_of_lt (Nat.lt_succ_self _), Nat.ne_of_gt hlS⟩
        have hval : ∀ (i : Nat) (v : Value), items[i]? = some v → ∃ k t, ns[i]? = some k ∧ v = .int k t := fun i v hv => by
          have hi : i < ns.length := by rw [← hisz]; exact (Array.getElem?_eq_some_iff.mp hv).1
          obtain ⟨t, e⟩ := PyProof.Rows.IntsAre.int_at hit i v (by rw [Array.getElem?_toList]; exact hv)
          refine ⟨ns[i], t, List.getElem?_eq_getElem hi, ?_⟩
          rw [e, List.getD_eq_getElem?_getD, List.getElem?_eq_getElem hi] <;> rfl
        refine set_update_ints ((Walks.list hh3 _ l hneI items).toS) s.heap.objs.size
          hSf ns hisz hb hval (items.size - 0) 0 _ (by omega) (Nat.zero_le _)
          ⟨⟨_, Heap.get?_push_size _ rfl, rfl, rfl⟩, (hl1.push _)⟩ ?hS0 ?hR
        case hS0 =>
          have hget : ((s.heap.push { cls := .type "set", dict := none, data := .set #[] 0 (.fresh 0 0 (!w.params.followText "set-order")) }).push { cls := .type "list_iterator", data := .fields #[.ref l, .int 0 0] }).get? s.heap.objs.size
              = some { cls := .type "set", dict := none, data := .set #[] 0 (.fresh 0 0 (!w.params.followText "set-order")) } := Heap.get?_push_of_some _ hS
          exact ⟨0, Nat.le_refl 0, setR_new_at hget⟩
        case hR =>
          intro s' c' hm hc' hS'
          obtain ⟨h', g2, d', tk', os'⟩ := s'
          have eg : g2 = s.gens := hm.gens
          have ed : d' = s.drawn := hm.drawn
          have eo : os' = s.os := hm.os
          subst eg; subst ed; subst eo
          show wpAny _ _ _ _ _ _
          refine wpAny_pure ?_
          show wpAny _ _ (ret Value.none) _ _ _
          rw [hisz] at hc'
          refine wpAny_pure ⟨rfl, h', tk', c', rfl, hS', hc', fun b o e => ?_⟩
          have hb0 : b < s.heap.objs.size := Heap.lt_size e
          have hb1 : b ≠ s.heap.objs.size := Nat.ne_of_lt hb0
          have hb2 : b ≠ (s.heap.push { cls := .type "set", dict := none, data := .set #[] 0 (.fresh 0 0 (!w.params.followText "set-order")) }).objs.size := by
            rw [Heap.size_push]; exact Nat.ne_of_lt (Nat.lt_succ_of_lt hb0)
          exact hm.heap b o (by simp only [List.mem_cons, List.mem_singleton, List.not_mem_nil, or_false, not_or]; exact ⟨hb1, hb2⟩) (Heap.get?_push_of_some _ (Heap.get?_push_of_some _ e))

      · cases r₂ with
        | error e => exact hr₂
        | ok fl₂ =>
          cases fl₂ with
          | ret r =>
            obtain ⟨rfl, h', tk, c', rfl, hS', hc', hk'⟩ := hr₂
            repeat (any_goals (first | assumption | wp_step))
            exact h _ _ _ hS' hc' hk'
          | _ => exact hr₂.elim
    | _ => exact hr.elim
end
end VS

namespace VS
open PySem L2 PyProof.Rows

section
variable {c : Ctx} {X : Cx} {a b e tg iter : Expr} {fa fb fc : Act ER} {pos : Pos} {es : List Expr} {f : Act ER} {st : Stmt} {rest body : List Stmt} {g : Act (List ER)}
/-! ### repr -/
mutual
theorem toPy_noDict : ∀ {d : Dat} {p : PyData}, toPy d = some p → p.hasDict = false
  | .non, _, e => by cases e; rfl
  | .bl b, _, e => by cases e; rfl
  | .int i, _, e => by cases e; rfl
  | .str x, _, e => by cases e; rfl
  | .ty n, _, e => by cases e
  | .fn f, _, e => by cases e
  | .cl c, _, e => by cases e
  | .obj k, _, e => by cases e
  | .dic k, _, e => by cases e
  | .dit k, _, e => by cases e
  | .set k, _, e => by cases e
  | .tup ds, _, e => by
    unfold toPy at e
    cases q : toPys ds with
    | none => rw [q] at e; cases e
    | some ps => rw [q] at e; cases e; unfold PyData.hasDict; exact toPys_noDict q
  | .lst ds, _, e => by
    unfold toPy at e
    cases q : toPys ds with
    | none => rw [q] at e; cases e
    | some ps => rw [q] at e; cases e; unfold PyData.hasDict; exact toPys_noDict q
theorem toPys_noDict : ∀ {ds : List Dat} {ps : List PyData}, toPys ds = some ps → PyData.hasDictAll ps = false
  | [], _, e => by cases e; rfl
  | d :: ds, _, e => by
    unfold toPys at e
    cases q : toPy d with
    | none => rw [q] at e; cases e
    | some p =>
      cases q2 : toPys ds with
      | none => rw [q, q2] at e; cases e
      | some ps =>
        rw [q, q2] at e
        cases e
        unfold PyData.hasDictAll
        rw [toPy_noDict q, toPys_noDict q2]
        rfl
end
/-- what repr shows -/
def shownD (d : Dat) : Option Str := match toPy d with
  | some p => if (p.showable && decide (p.depth ≤ 60) && decide (p.shown.length ≤ sizeLine)) = true then some p.shown else none
  | none => none
def reprD : List Dat → Option ER
  | [.bl b] => some (.fr (.str (if b then "True" else "False")))
  | [.non] => some (.fr (.str "None"))
  | [.lst ds] => (shownD (.lst ds)).map fun x => .fr (.str x)
  | [.tup ds] => (shownD (.tup ds)).map fun x => .fr (.str x)
  | _ => none
theorem pn_repr : PN c (.builtin "repr") reprD := fun X hX pins s σ H w ς vs us ds r I R rvs va e => by
  have go : ∀ {d : Dat} {v : V} {a : Addr} {x : Str}, vs = [v] → v = .ref a → View c.toSta w H v d → shownD d = some x → r = .fr (.str x) → wpAny (model X.prog X.w) X.A (call (.builtin "repr") us) (NE c X pins σ w H (.ok r ς)) (fun _ _ => False) s := fun {d v a x} e1 e2 hv hs hr => by
    subst e1; subst e2; subst hr
    unfold shownD at hs
    split at hs
    · rename_i p hp
      split at hs
      · rename_i hc
        cases hs
        rw [Bool.and_eq_true, Bool.and_eq_true] at hc
        obtain ⟨u, rfl, rx⟩ := vals1 rvs
        cases rx
        have dp : Dp X.K H (.ref a) p := by rw [hX.K]; exact hv.dp R.sub hp
        obtain ⟨as, rd⟩ := Dp.reads I p _ _ dp rfl
        have hu := hX.hu
        have hd := of_decide_eq_true hc.1.2
        exact repr_of_reads' rd hc.1.1 (PyData.noDict_hsm (toPy_noDict hp)) hX.gd (by omega) (fun _ _ e => e) (fun h' u tk hk => ne_fr (v := .str p.shown) (I.kept hk) ⟨_, rfl⟩ R (.str _)) (of_decide_eq_true hc.2)
      · cases hs
    · cases hs
  unfold reprD at e
  split at e
  · cases e
    obtain ⟨v, rfl, hv⟩ := va.one
    obtain rfl := hv.bl
    obtain ⟨u, rfl, rx⟩ := vals1 rvs
    cases rx
    exact PySem.P.repr_of_bool (ne_fr (v := .str _) (I.tok _) ⟨_, rfl⟩ R (.str _))
  · cases e
    obtain ⟨v, rfl, hv⟩ := va.one
    obtain rfl := hv.non
    obtain ⟨u, rfl, rx⟩ := vals1 rvs
    cases rx
    exact PySem.P.repr_of_none (ne_fr (v := .str _) (I.tok _) ⟨_, rfl⟩ R (.str _))
  · rename_i ds
    cases q : shownD (.lst ds) with
    | none => rw [q] at e; cases e
    | some x =>
      rw [q] at e
      cases e
      obtain ⟨v, rfl, hv⟩ := va.one
      obtain ⟨p, ws, e2, _⟩ := hv.lst R.sub
      exact go rfl e2 hv q rfl
  · rename_i ds
    cases q : shownD (.tup ds) with
    | none => rw [q] at e; cases e
    | some x =>
      rw [q] at e
      cases e
      obtain ⟨v, rfl, hv⟩ := va.one
      obtain ⟨p, ws, e2, _⟩ := hv.tup R.sub
      exact go rfl e2 hv q rfl
  · cases e

/-! ### sorted, ints -/
def ins (i : Int) : List Int → List Int
  | [] => [i]
  | j :: l => if i ≤ j then i :: j :: l else j :: ins i l
def isort : List Int → List Int
  | [] => []
  | i :: l => ins i (isort l)
theorem ins_perm (i : Int) : ∀ l, (ins i l).Perm (i :: l)
  | [] => .refl _
  | j :: l => by
    unfold ins
    split
    · exact .refl _
    · exact ((ins_perm i l).cons j).trans (.swap i j l)
theorem isort_perm : ∀ l, (isort l).Perm l
  | [] => .refl _
  | i :: l => (ins_perm i (isort l)).trans ((isort_perm l).cons i)
theorem ins_sorted (i : Int) : ∀ l, l.Pairwise (· ≤ ·) → (ins i l).Pairwise (· ≤ ·)
  | [], _ => List.pairwise_singleton _ _
  | j :: l, h => by
    unfold ins
    have h := List.pairwise_cons.mp h
    split
    · rename_i hij
      refine List.pairwise_cons.mpr ⟨fun k hk => ?_, List.pairwise_cons.mpr h⟩
      rcases List.mem_cons.mp hk with rfl | hk
      · exact hij
      · exact Int.le_trans hij (h.1 k hk)
    · refine List.pairwise_cons.mpr ⟨fun k hk => ?_, ins_sorted i l h.2⟩
      rcases List.mem_cons.mp ((ins_perm i l).mem_iff.mp hk) with rfl | hk
      · omega
      · exact h.1 k hk
theorem isort_sorted : ∀ l, (isort l).Pairwise (· ≤ ·)
  | [] => .nil
  | i :: l => ins_sorted i _ (isort_sorted l)
theorem sorted_uniq : ∀ {l m : List Int}, l.Perm m → l.Pairwise (· ≤ ·) → m.Pairwise (· ≤ ·) → l = m
  | [], m, p, _, _ => (List.nil_perm.mp p).symm
  | i :: l, m, p, hl, hm => by
    cases m with
    | nil => exact absurd p.length_eq (by simp)
    | cons j m =>
      have hl' := List.pairwise_cons.mp hl
      have hm' := List.pairwise_cons.mp hm
      have e : i = j := by
        have h1 : i ∈ j :: m := p.mem_iff.mp (List.mem_cons_self ..)
        have h2 : j ∈ i :: l := p.mem_iff.mpr (List.mem_cons_self ..)
        rcases List.mem_cons.mp h1 with h1 | h1
        · exact h1
        · rcases List.mem_cons.mp h2 with h2 | h2
          · exact h2.symm
          · exact Int.le_antisymm (hl'.1 j h2) (hm'.1 i h1)
      subst e
      rw [sorted_uniq (List.perm_cons i |>.mp p) hl'.2 hm'.2]
def intsOf : List Dat → Option (List Int)
  | [] => some []
  | .int i :: r => (intsOf r).map (i :: ·)
  | _ => none
theorem intsOf_map : ∀ ns : List Int, intsOf (ns.map .int) = some ns
  | [] => rfl
  | n :: ns => by
    show (intsOf (ns.map .int)).map (n :: ·) = _
    rw [intsOf_map ns]
    rfl
theorem intsOf_eq : ∀ {ds : List Dat} {ns : List Int}, intsOf ds = some ns → ds = ns.map .int
  | [], _, e => by cases e; rfl
  | d :: ds, ns, e => by
    cases d <;> first | (cases e; done) | skip
    rename_i i
    have e : (intsOf ds).map (i :: ·) = some ns := e
    cases q : intsOf ds with
    | none => rw [q] at e; cases e
    | some ms => rw [q] at e; cases e; rw [intsOf_eq q]; rfl
theorem Reps.ints {S : Sta} {Hf : Hp} {ads : Nat → Option Addr} : ∀ {ns : List Int} {vs : List V}, Reps S Hf ads vs (ns.map .int) → vs = ns.map V.int
  | [], _, h => by cases h; rfl
  | n :: ns, _, h => by
    cases h with
    | cons r t => cases r; rw [Reps.ints t]; rfl
theorem reps_ints {S : Sta} {Hf : Hp} {ads : Nat → Option Addr} : ∀ ns : List Int, Reps S Hf ads (ns.map V.int) (ns.map .int)
  | [] => .nil
  | n :: ns => .cons (.int n) (reps_ints ns)
def sortD : List Dat → Option ER
  | [.lst ds] => (intsOf ds).map fun ns => .tp (.lst ((isort ns).map .int))
  | _ => none
theorem pn_sorted : PN c (.builtin "sorted") sortD := PN.of fun X hX pins s σ H w ς vs ds r I R va e => by
  unfold sortD at e
  split at e
  · rename_i ds
    cases q : intsOf ds with
    | none => rw [q] at e; cases e
    | some ns =>
      rw [q] at e
      cases e
      obtain rfl := intsOf_eq q
      obtain ⟨v, rfl, hv⟩ := va.one
      obtain ⟨p, ws, rfl, hp, rp⟩ := hv.lst R.sub
      obtain rfl := rp.ints
      refine ⟨_, fun v' H' => ∃ l, v' = .ref l ∧ H l = none ∧ H' = upd H l (.lst ((isort ns).map V.int)), cr_sortedI, ⟨p, ns, rfl, by show SqL X.K H p _; rw [hX.K]; exact hp, fun ns' l h1 h2 h3 => ⟨l, rfl, h3, ?_⟩⟩, fun v' H' u s' ⟨l, e1, e2, e3⟩ I' rv => ?_⟩
      · rw [sorted_uniq (h1.trans (isort_perm ns).symm) h2 (isort_sorted ns)]
      · subst e1; subst e3
        cases rv
        exact ne_lst I' e2 R (reps_ints _)
  · cases e

/-! ### a, b = e with a tuple from somewhere -/
def asgT (t : Dat → St → Option St) (f : Act ER) : Act Flw := f.bnd fun r ς => (VS.settle ς r).bind fun p => (t p.1 p.2).map fun ς' => .ok .nx ς'
theorem vs_asgT {t : Dat → St → Option St} {is : List Nat} (he : VE c e f) (hg : VG c tg t is) (hs : ∀ env : Env, swapsWithSole [tg] e pos.line env = pure false) (hw : ∀ env : Env, env.scope = c.sc → swappedStores [tg] e env = pure none)
    (h1 : ∀ env : Env, (assignEach [tg] env).map (·.2) = [assign tg env]) : VS1 c (.Assign [tg] e pos) (asgT t f) := .of fun X hX pins s σ H w ς o ho I R T => by
  refine wpAny_Assign_stores (ve_then he hX I R T ho fun r ς1 u s1 v H1 w1 h2 I1 rv F1 R1 T1 ro => ?_) (hs _) (hw _ hX.sc)
  rw [h1]
  show wpAny _ _ (assign tg X.env u) _ _ _
  cases e1 : VS.settle ς1 r with
  | none => rw [e1] at h2; cases h2
  | some p =>
    obtain ⟨d, ς2⟩ := p
    rw [e1] at h2
    simp only [Option.bind_some] at h2
    cases e2 : t d ς2 with
    | none => rw [e2] at h2; cases h2
    | some ς3 =>
      rw [e2] at h2
      cases h2
      obtain ⟨w2, F2, R2, rp⟩ := settle_ok F1 R1 ro e1
      exact wpAny_mono (hg X hX pins s1 σ H1 w2 ς2 ς3 v u d e2 I1 R2 rv rp) (fun _ s2 ⟨σ', w', I', F', R', _⟩ => ⟨σ', H1, w', I', F2.trans F', R'⟩) fun _ _ z => z.elim

/-! ### slices -/
def cutD (xs : List Dat) (lo hi : Option Int) : List Dat := (xs.drop (HT.sIx xs.length 0 lo)).take (HT.sIx xs.length xs.length hi - HT.sIx xs.length 0 lo)
def slD : Dat → Option Int → Option Int → Option ER
  | .lst ds, lo, hi => some (.tp (.lst (cutD ds lo hi)))
  | .tup ds, lo, hi => if (HT.sIx ds.length 0 lo = 0 ∧ HT.sIx ds.length ds.length hi = ds.length) then none else some (.fr (.tup (cutD ds lo hi)))
  | _, _, _ => none
/-- a part of a slice -/
def VP0 (c : Ctx) (e : Option Expr) (f : Act (Option Int))  : Prop :=
  ∀ X, c.Ok X → ∀ (pins : List (Addr × Obj)) (s : Shared) (σ : L2.St) (H : Hp) (w : W) (ς : St) (o : Out (Option Int)), f ς = some o → Inv X pins σ H s → Rel c.toSta c.n ς σ H w → XT c X w H o →
    wpAny (model X.prog X.w) X.A (evalPart e X.env) (fun u s' => match o with
      | .ok i ς' => ∃ H' w', Inv X pins σ H' s' ∧ IsPart u i ∧ Fr w H w' H' ∧ Rel c.toSta c.n ς' σ H' w'
      | .ex _ _ => False) X.xe s
structure VP (c : Ctx) (e : Option Expr) (f : Act (Option Int))  : Prop where of ::
  run : VP0 c e f
instance {c : Ctx} {e} {f} : CoeFun (VP c e f) fun _ => VP0 c e f := ⟨VP.run⟩
theorem vp_none : VP c none (Act.ret none) := .of fun X hX pins s σ H w ς o ho I R T => by
  cases ho
  rw [evalPart_none]
  exact wpAny_pure ⟨H, w, I, .none, Fr.refl _ _, R⟩
def partA (f : Act ER) : Act (Option Int) := f.bnd fun r ς => match cur ς r with
  | some (.int i) => some (.ok (some i) ς)
  | _ => none
theorem vp_some (he : VE c e f) : VP c (some e) (partA f) := .of fun X hX pins s σ H w ς o ho I R T => by
  rw [evalPart_some]
  refine ve_then he hX I R T ho fun r ς1 u s1 v H1 w1 h1 I1 rv F1 R1 T1 ro => ?_
  split at h1
  · rename_i i e1
    cases h1
    obtain rfl := (R1.view ro e1).int
    obtain ⟨t, rfl⟩ := rv
    exact ⟨H1, w1, I1, .int i t, F1, R1⟩
  · cases h1
theorem vp_then {β : Type} {lo : Option Expr} {fp : Act (Option Int)} {k : Option Int → Act β} {o : Out β} (h : VP c lo fp) (hX : c.Ok X) {pins : List (Addr × Obj)} {s : Shared} {σ : L2.St} {H : Hp} {w : W} {ς : St} (I : Inv X pins σ H s) (R : Rel c.toSta c.n ς σ H w) (T : XT c X w H o) (ho : fp.bnd k ς = some o) {Q : Value → Shared → Prop}
    (hk : ∀ (i : Option Int) (ς1 : St) (u : Value) (s1 : Shared) (H1 : Hp) (w1 : W), k i ς1 = some o → Inv X pins σ H1 s1 → IsPart u i → Fr w H w1 H1 → Rel c.toSta c.n ς1 σ H1 w1 → XT c X w1 H1 o → Q u s1) :
    wpAny (model X.prog X.w) X.A (evalPart lo X.env) Q X.xe s := by
  unfold Act.bnd at ho
  cases q : fp ς with
  | none => rw [q] at ho; cases ho
  | some o1 =>
    rw [q] at ho
    cases o1 with
    | ok r ς1 => exact wpAny_mono (h X hX pins s σ H w ς _ q I R trivial) (fun u s1 ⟨H1, w1, I1, pu, F1, R1⟩ => hk r ς1 u s1 H1 w1 ho I1 pu F1 R1 (T.from F1)) fun _ _ z => z
    | ex x ς1 =>
      cases ho
      exact wpAny_mono (h X hX pins s σ H w ς _ q I R T) (fun _ _ z => z.elim) fun u s1 z => z
def slA (f : Act ER) (fl fh : Act (Option Int)) : Act ER := f.bnd fun r => fl.bnd fun l => fh.bnd fun h ς => ((cur ς r).bind fun d => slD d l h).map fun q => .ok q ς
theorem Reps.cut {S : Sta} {w : W} {vs : List V} {ds : List Dat} (lo hi : Option Int) (h : Reps S w.Hf w.ads vs ds) : Reps S w.Hf w.ads (cutV vs lo hi) (cutD ds lo hi) := by
  unfold cutV cutD
  rw [h.length]
  exact (h.drop _).take _
theorem ve_slice {lo hi : Option Expr} {fl fh : Act (Option Int)} {p2 : Pos} (he : VE c e f) (hl : VP c lo fl) (hh : VP c hi fh) : VE c (.Subscript e (.Slice lo hi none p2) pos) (slA f fl fh) := .of fun X hX pins s σ H w ς o ho I R T => by
  refine Subscript_ (ve_then he hX I R T ho fun r ς1 u s1 v H1 w1 h1 I1 rv F1 R1 T1 ro => ?_)
  refine wpAny_Slice (vp_then hl hX I1 R1 T1 h1 fun l ς2 ul s2 H2 w2 h2 I2 pl F2 R2 T2 => vp_then hh hX I2 R2 T2 h2 fun h ς3 uh s3 H3 w3 h3 I3 ph F3 R3 T3 => ?_)
  rw [evalPart_none]
  refine wpAny_pure ?_
  have I4 : Inv X pins σ H3 { s3 with heap := s3.heap.push { cls := .type "slice", data := .fields #[ul, uh, .none] } } := I3.kept (t' := s3.toks) fun b ob q => Heap.get?_push_of_some _ q
  cases e1 : cur ς3 r with
  | none => rw [e1] at h3; cases h3
  | some d =>
    rw [e1] at h3
    simp only [Option.bind_some] at h3
    have FF := (F1.trans F2).trans F3
    have vw := R3.view (((ro.carry F2)).carry F3) e1
    have fin : ∀ {rr : V → Option Int → Option Int → Hp → VK → Prop} {Q : VK}, SlR X rr → rr v l h H3 Q → (∀ v' H' u s', Q v' H' → Inv X pins σ H' s' → RelV v' u → NE c X pins σ w H o u s') →
        wpAny (model X.prog X.w) X.A (subscriptTail e (.Slice lo hi none p2) u (.ref s3.heap.objs.size)) (NE c X pins σ w H o) X.xe { s3 with heap := s3.heap.push { cls := .type "slice", data := .fields #[ul, uh, .none] } } := fun {rr Q} hr hq k => by
      obtain ⟨T', id, hT, ht, hgi⟩ := hr pins { s3 with heap := s3.heap.push { cls := .type "slice", data := .fields #[ul, uh, .none] } } σ H3 v u ul uh l h s3.heap.objs.size Q I4 rv (Heap.IsSliceOf.new ..) pl ph hq
      exact tail_any (ops := [.ref s3.heap.objs.size, u]) ht hT (wpAny_mono hgi (fun u' s' ⟨v', H', I', rv', q⟩ => k v' H' u' s' q I' rv') fun _ _ z => z) (by with_unfolding_all rfl)
    cases e2 : slD d l h with
    | none => rw [e2] at h3; cases h3
    | some q =>
      rw [e2] at h3
      cases h3
      unfold slD at e2
      split at e2
      · rename_i lo' hi' ds
        cases e2
        obtain ⟨p, ws, rfl, hp, rp⟩ := vw.lst R3.sub
        refine fin (Q := fun v' H' => ∃ l', v' = .ref l' ∧ H3 l' = none ∧ H' = upd H3 l' (.lst (cutV ws l h))) sl_list ⟨p, ws, rfl, by rw [hX.K]; exact hp, fun l' hl' => ⟨l', rfl, hl', rfl⟩⟩ fun v' H' u' s' ⟨l', e3, e4, e5⟩ I' rv' => ?_
        subst e3; subst e5
        cases rv'
        exact NE.from FF (ne_lst I' e4 R3 (rp.cut _ _))
      · rename_i lo' hi' ds
        split at e2
        · cases e2
        · rename_i hw
          cases e2
          obtain ⟨p, ws, rfl, hp, rp⟩ := vw.tup R3.sub
          refine fin (Q := fun v' H' => ∃ l', v' = .ref l' ∧ H3 l' = none ∧ H' = upd H3 l' (.tup (cutV ws l h))) sl_tup ⟨p, ws, rfl, by rw [hX.K]; exact hp, by rw [rp.length]; exact hw, fun l' hl' => ⟨l', rfl, hl', rfl⟩⟩ fun v' H' u' s' ⟨l', e3, e4, e5⟩ I' rv' => ?_
          subst e3; subst e5
          cases rv'
          exact NE.from FF (ne_tup I' e4 R3 (rp.cut _ _))
      · cases e2
/-! ### xs.pop(i) -/
def popM : Dat → List Dat → Option (Dat × Dat)
  | .lst ds, [.int i] => if 0 ≤ i ∧ i < ds.length ∧ ds.length ≤ 1000000 then (ds[i.toNat]?).map fun x => (x, .lst (ds.eraseIdx i.toNat)) else none
  | _, _ => none
theorem Reps.erase {S : Sta} {w : W} : ∀ {vs : List V} {ds : List Dat} (k : Nat), Reps S w.Hf w.ads vs ds → Reps S w.Hf w.ads (vs.eraseIdx k) (ds.eraseIdx k)
  | _, _, _, .nil => .nil
  | _, _, 0, .cons _ t => t
  | _, _, k + 1, .cons r t => .cons r (Reps.erase k t)
theorem pmu_pop : PMu c (.builtin "list.pop") popM := fun X hX pins s σ H w ς a vs us d x d' ds I R rvs hc rps e => by
  unfold popM at e
  split at e
  · rename_i ds i
    split at e
    · rename_i hz
      cases q : ds[i.toNat]? with
      | none => rw [q] at e; cases e
      | some y =>
        rw [q] at e
        cases e
        cases hc with
        | lst h rs =>
          rename_i ys
          cases rps with
          | cons rp rps =>
            cases rps
            rename_i v
            cases rp
            obtain ⟨z, hz1, hz2⟩ := rs.get q
            have hl := rs.length
            refine wpAny_mono (mt_popAt (X := X.nox) pins s σ H (.ref a) [.int i] _ us (fun v' H' => v' = z ∧ H' = upd H a (.lst (ys.eraseIdx i.toNat))) (I.wish _) rfl rvs ⟨a, ys, i, i.toNat, z, rfl, rfl, h, by omega, by omega, by rw [seqIndex_of hz.1 (by omega)], hz1, rfl, rfl⟩) (fun u s' ⟨v', H', I', rv, e1, e2⟩ => ?_) fun _ _ z => z.elim
            subst e1; subst e2
            exact ⟨_, _, I'.unwish, rv, hz2, .lst upd_same (rs.erase _)⟩
    · cases e
  · cases e
end
end VS

namespace VS
open PySem L2 PyProof.Rows

/-! ### dicts whose keys are ints and texts -/
def getK (kvs : List (Dat × Dat)) (k : Key) : Option Dat := match kvs with
  | [] => none
  | (q, d) :: r => if keyD q = some k then some d else getK r k
def putKD (kvs : List (Dat × Dat)) (k : Key) (d : Dat) : List (Dat × Dat) := if (getK kvs k).isSome = true then kvs.map (fun p => if keyD p.1 = some k then (p.1, d) else p) else kvs ++ [(kD k, d)]
section
variable {S : Sta} {Hf : Hp} {ads : Nat → Option Addr}
theorem RepK.get {k : Key} : ∀ {l : List (Key × V)} {kvs : List (Dat × Dat)}, RepK S Hf ads l kvs → (∀ d, getK kvs k = some d → ∃ v, valV l k = some v ∧ Rep S Hf ads v d) ∧ (getK kvs k = none → valV l k = none)
  | _, _, .nil => ⟨(fun d e => nomatch e), fun _ => rfl⟩
  | _, _, .cons (k := q) (v := v) (d := d) r t => by
    have ih := RepK.get (k := k) t
    by_cases h : q = k
    · have h2 : keyD (kD q) = some k := by rw [keyD_kD, h]
      refine ⟨fun d' e => ?_, fun e => ?_⟩
      · unfold getK at e
        rw [if_pos h2] at e
        cases e
        exact ⟨v, valV_pos h, r⟩
      · unfold getK at e
        rw [if_pos h2] at e
        cases e
    · have h2 : ¬ keyD (kD q) = some k := by rw [keyD_kD]; intro z; exact h (Option.some.inj z)
      refine ⟨fun d' e => ?_, fun e => ?_⟩
      · unfold getK at e
        rw [if_neg h2] at e
        rw [valV_neg h]
        exact ih.1 d' e
      · unfold getK at e
        rw [if_neg h2] at e
        rw [valV_neg h]
        exact ih.2 e
theorem RepK.length : ∀ {l : List (Key × V)} {kvs : List (Dat × Dat)}, RepK S Hf ads l kvs → l.length = kvs.length
  | _, _, .nil => rfl
  | _, _, .cons _ t => congrArg (· + 1) (RepK.length t)
theorem RepK.append : ∀ {l m : List (Key × V)} {kvs lvs : List (Dat × Dat)}, RepK S Hf ads l kvs → RepK S Hf ads m lvs → RepK S Hf ads (l ++ m) (kvs ++ lvs)
  | _, _, _, _, .nil, q => q
  | _, _, _, _, .cons r t, q => .cons r (RepK.append t q)
theorem RepK.repl {k : Key} {v : V} {d : Dat} (q : Rep S Hf ads v d) : ∀ {l : List (Key × V)} {kvs : List (Dat × Dat)}, RepK S Hf ads l kvs → RepK S Hf ads (l.map fun kv => if kv.1 = k then (kv.1, v) else kv) (kvs.map fun p => if keyD p.1 = some k then (p.1, d) else p)
  | _, _, .nil => .nil
  | _, _, .cons (k := j) (v := u) (d := e) r t => by
    have ih := RepK.repl (k := k) q t
    rw [List.map_cons, List.map_cons]
    by_cases h : j = k
    · rw [if_pos h, if_pos (by rw [keyD_kD, h])]
      exact .cons q ih
    · rw [if_neg h, if_neg (by rw [keyD_kD]; intro z; exact h (Option.some.inj z))]
      exact .cons r ih
theorem RepK.put {k : Key} {v : V} {d : Dat} {l : List (Key × V)} {kvs : List (Dat × Dat)} (h : RepK S Hf ads l kvs) (q : Rep S Hf ads v d) : RepK S Hf ads (putK l k v) (putKD kvs k d) := by
  have g := h.get (k := k)
  unfold putK putKD
  rw [valV_any]
  cases e : getK kvs k with
  | none =>
    rw [g.2 e]
    simp only [Option.isSome_none, Bool.false_eq_true, if_false]
    exact h.append (.cons q .nil)
  | some d' =>
    obtain ⟨v', e2, _⟩ := g.1 d' e
    rw [e2]
    simp only [Option.isSome_some, if_true]
    exact h.repl q
theorem Rep.key {v : V} {a : Dat} {k : Key} (h : Rep S Hf ads v a) (e : keyD a = some k) : v = kV k := by
  cases h <;> first | (cases e; rfl) | (cases e; done)
end
section
variable {c : Ctx} {X : Cx} {a b e tg iter : Expr} {fa fb fc : Act ER} {pos : Pos} {es : List Expr} {f : Act ER} {st : Stmt} {rest body : List Stmt} {g : Act (List ER)}
theorem View.key {S : Sta} {w : W} {H : Hp} {v : V} {d : Dat} {k : Key} (h : View S w H v d) (e : keyD d = some k) : v = kV k := by
  rcases h with h | ⟨a, rfl, h⟩
  · exact h.key e
  · cases h <;> cases e
def ixD : Dat → Dat → Option ER
  | .dic kvs, y => (keyD y).bind fun k => (getK kvs k).map .fr
  | _, _ => none
theorem pix_dic : PIx c ixD := fun X hX value slice pins s σ H w ς x y u1 u2 a b r I R rx ry va vb e hs => by
  unfold ixD at e
  split at e
  · rename_i kvs
    cases q : keyD b with
    | none => rw [q] at e; cases e
    | some k =>
      rw [q] at e
      cases q2 : getK kvs k with
      | none => simp only [Option.bind_some, q2] at e; cases e
      | some d =>
        simp only [Option.bind_some, q2] at e
        cases e
        obtain ⟨p, l, rfl, hp, rp⟩ := va.dicK R.sub
        obtain rfl := vb.key q
        obtain ⟨v, h1, h2⟩ := rp.get.1 d q2
        cases rx
        have hu := hX.hu
        obtain ⟨t1, t2, _⟩ := isD_at I (.inl ⟨l, hp⟩)
        exact tail_any t1 PySem.F.slot_dict_getitem.lookup (d_getItem (v := v) (by omega) I (.inl ⟨l, k, hp, rfl, h1.symm⟩) ry fun w' s' I' rw' => ne_fr I' rw' R h2) hs
  · cases e
def memK : Dat → Dat → Option Bool
  | y, .dic kvs => (keyD y).map fun k => (getK kvs k).isSome
  | _, _ => none
theorem p2_memK (neg : Bool) : P2 c (compareOp (if neg then .NotIn else .In)) (inE neg memK) := fun X hX pins s σ H w ς x y u1 u2 a b r I R rx ry va vb e => by
  unfold inE at e
  cases q : memK a b with
  | none => rw [q] at e; cases e
  | some k0 =>
    rw [q] at e
    cases e
    unfold memK at q
    split at q
    · rename_i y' kvs
      cases q1 : keyD a with
      | none => rw [q1] at q; cases q
      | some k =>
        rw [q1] at q
        have q : (getK kvs k).isSome = k0 := Option.some.inj q
        obtain ⟨p, l, rfl, hp, rp⟩ := vb.dicK R.sub
        obtain rfl := va.key q1
        cases ry
        have hu := hX.hu
        have hs : (valV l k).isSome = (getK kvs k).isSome := by
          cases e : getK kvs k with
          | none => rw [rp.get.2 e]; rfl
          | some d => obtain ⟨v, h1, _⟩ := rp.get.1 d e; rw [h1]; rfl
        cases neg with
        | false => exact d_in (by omega) I (.inl ⟨l, k, hp, rfl, rfl⟩) rx fun s' I' => by rw [hs, q]; exact ne_fr (v := .bl k0) I' rfl R (.bl _)
        | true => exact d_notIn (by omega) I (.inl ⟨l, k, hp, rfl, rfl⟩) rx fun s' I' => by rw [hs, q]; exact ne_fr (v := .bl (!k0)) I' rfl R (.bl _)
    · cases q
def stD : Dat → Dat → Dat → Option Dat
  | .dic kvs, y, x => (keyD y).bind fun k => if kvs.length < sizeLine then some (.dic (putKD kvs k x)) else none
  | _, _, _ => none
theorem pst_dic : PSt c stD := fun X hX pins s σ H w ς a y z u2 u3 d k x d' I R r2 r3 hc hv hr e => by
  unfold stD at e
  split at e
  · rename_i kvs
    cases q : keyD k with
    | none => rw [q] at e; cases e
    | some key =>
      rw [q] at e
      simp only [Option.bind_some] at e
      split at e
      · rename_i hz
        cases e
        obtain rfl := hv.key q
        cases hc with
        | dicK h rs =>
          rename_i l
          have hu := hX.hu
          exact d_setItem (by omega) I (DPut.k h (by rw [rs.length]; exact hz)) r2 r3 fun s' I' => ⟨_, I', .dicK upd_same (rs.put hr)⟩
      · cases e
  · cases e
theorem PSt.or {g g' : Dat → Dat → Dat → Option Dat} (h : PSt c g) (h' : PSt c g') : PSt c (fun d k x => match g d k x with | some r => some r | none => g' d k x) :=
  fun X hX pins s σ H w ς a y z u2 u3 d k x d' I R r2 r3 hc hv hr e => by
    cases q : g d k x with
    | some r' => simp only [q] at e; cases e; exact h X hX pins s σ H w ς a y z u2 u3 d k x d' I R r2 r3 hc hv hr q
    | none => simp only [q] at e; exact h' X hX pins s σ H w ς a y z u2 u3 d k x d' I R r2 r3 hc hv hr e
/-- {} -/
def newD : Act ER := Act.ret (.tp (.dic []))
theorem ve_newD : VE c (.Dict [] [] pos) newD := .of fun X hX pins s σ H w ς o ho I R T => by
  cases ho
  refine wpAny_mono ((pe_dnewK (X := X.nox) (pos := pos)).run pins s σ H (fun v' H' => ∃ p, H p = none ∧ v' = .ref p ∧ H' = upd H p (.dK [])) (I.wish _) fun p hp => ⟨p, hp, rfl, rfl⟩) (fun u s' ⟨v', H', I', rv, p, hp, e1, e2⟩ => ?_) fun _ _ z => False.elim z
  subst e1; subst e2
  cases rv
  exact ne_dicK I'.unwish hp R .nil
/-- d.get(k), d.get(k, x) -/
def getM : List Dat → Option ER
  | [.dic kvs, y] => (keyD y).map fun k => .fr ((getK kvs k).getD .non)
  | _ => none
def flatD : Dat → Bool
  | .non => true
  | .bl _ => true
  | .int _ => true
  | .str _ => true
  | _ => false
def getM2 : List Dat → Option ER
  | [.dic kvs, y, x] => if flatD x = true then (keyD y).map fun k => .fr ((getK kvs k).getD x) else none
  | _ => none
theorem Views.three {S : Sta} {w : W} {H : Hp} {vs : List V} {d e f : Dat} (h : Views S w H vs [d, e, f]) : ∃ v u t, vs = [v, u, t] ∧ View S w H v d ∧ View S w H u e ∧ View S w H t f := by
  cases h with
  | cons h q =>
    obtain ⟨u, t, rfl, h2, h3⟩ := q.two
    exact ⟨_, u, t, rfl, h, h2, h3⟩
theorem View.flat {S : Sta} {w : W} {H : Hp} {v : V} {d : Dat} (h : View S w H v d) (e : flatD d = true) : Rep S w.Hf w.ads v d := by
  rcases h with h | ⟨a, rfl, h⟩
  · exact h
  · cases h <;> cases e
theorem pn_get : PN c (.builtin "dict.get") getM := fun X hX pins s σ H w ς vs us ds r I R rvs va e => by
  unfold getM at e
  split at e
  · rename_i kvs y
    cases q : keyD y with
    | none => rw [q] at e; cases e
    | some k =>
      rw [q] at e
      cases e
      obtain ⟨v, u, rfl, hv, hu⟩ := va.two
      obtain ⟨p, l, rfl, hp, rp⟩ := hv.dicK R.sub
      obtain rfl := hu.key q
      obtain ⟨u1, u2, rfl, r1, r2⟩ := vals2 rvs
      cases r1
      have hu' := hX.hu
      refine d_get1 (by omega) I (.inl ⟨l, k, hp, rfl, rfl⟩) r2 fun w' s' I' rw' => ne_fr I' rw' R ?_
      cases e : getK kvs k with
      | none => rw [rp.get.2 e]; exact .non
      | some d => obtain ⟨z, h1, h2⟩ := rp.get.1 d e; rw [h1]; exact h2
  · cases e
theorem pn_get2 : PN c (.builtin "dict.get") getM2 := fun X hX pins s σ H w ς vs us ds r I R rvs va e => by
  unfold getM2 at e
  split at e
  · rename_i kvs y x
    split at e
    · rename_i hx
      cases q : keyD y with
      | none => rw [q] at e; cases e
      | some k =>
        rw [q] at e
        cases e
        obtain ⟨v, u, t, rfl, hv, hu, ht⟩ := va.three
        obtain ⟨p, l, rfl, hp, rp⟩ := hv.dicK R.sub
        obtain rfl := hu.key q
        cases rvs with
        | cons r1 rvs =>
          obtain ⟨u2, u3, rfl, r2, r3⟩ := vals2 rvs
          cases r1
          have hu' := hX.hu
          refine d_get2 (by omega) I (.inl ⟨l, k, hp, rfl, rfl⟩) r2 r3 fun w' s' I' rw' => ne_fr I' rw' R ?_
          cases e : getK kvs k with
          | none => rw [rp.get.2 e]; exact ht.flat hx
          | some d => obtain ⟨z, h1, h2⟩ := rp.get.1 d e; rw [h1]; exact h2
    · cases e
  · cases e
/-- sorted(d), the keys whole numbers, fewer than 64 -/
def keysI : List (Dat × Dat) → Option (List Int)
  | [] => some []
  | (.int i, _) :: r => (keysI r).map (i :: ·)
  | _ => none
theorem RepK.keysI {S : Sta} {Hf : Hp} {ads : Nat → Option Addr} : ∀ {l : List (Key × V)} {kvs : List (Dat × Dat)} {ks : List Int}, RepK S Hf ads l kvs → VS.keysI kvs = some ks → l.map (·.1) = ks.map Sum.inl
  | _, _, _, .nil, e => by cases e; rfl
  | _, _, ks, .cons (k := k) r t, e => by
    cases k with
    | inr x => cases e
    | inl i =>
      rename_i kvs
      have e : (VS.keysI kvs).map (i :: ·) = some ks := e
      cases q : VS.keysI kvs with
      | none => rw [q] at e; cases e
      | some js => rw [q] at e; cases e; rw [List.map_cons, RepK.keysI t q]; rfl
def sortK : List Dat → Option ER
  | [.dic kvs] => (keysI kvs).bind fun ks => if ks.length < 64 then some (.tp (.lst ((isort ks).map .int))) else none
  | _ => none
theorem pn_sortK : PN c (.builtin "sorted") sortK := PN.of fun X hX pins s σ H w ς vs ds r I R va e => by
  unfold sortK at e
  split at e
  · rename_i kvs
    cases q : keysI kvs with
    | none => rw [q] at e; cases e
    | some ks =>
      rw [q] at e
      simp only [Option.bind_some] at e
      split at e
      · rename_i hz
        cases e
        obtain ⟨v, rfl, hv⟩ := va.one
        obtain ⟨p, l, rfl, hp, rp⟩ := hv.dicK R.sub
        refine ⟨_, fun v' H' => ∃ l, v' = .ref l ∧ H l = none ∧ H' = upd H l (.lst ((isort ks).map V.int)), call_sortedDI hX.calm, ⟨p, l, ks, rfl, hp, rp.keysI q, hz, fun ys l h1 h2 h3 => ⟨l, rfl, h3, ?_⟩⟩, fun v' H' u s' ⟨l, e1, e2, e3⟩ I' rv => ?_⟩
        · rw [sorted_uniq (h1.trans (isort_perm ks).symm) h2 (isort_sorted ks)]
        · subst e1; subst e3
          cases rv
          exact ne_lst I' e2 R (reps_ints _)
      · cases e
  · cases e
end
end VS

namespace VS
open PySem L2 PyProof.Rows

/-! ### sets of whole numbers, by their rising members -/
def insS (i : Int) : List Int → List Int
  | [] => [i]
  | j :: l => if i < j then i :: j :: l else if i = j then j :: l else j :: insS i l
def canon : List Int → List Int
  | [] => []
  | i :: l => insS i (canon l)
theorem insS_mem (i k : Int) : ∀ l, k ∈ insS i l ↔ k = i ∨ k ∈ l
  | [] => by simp [insS]
  | j :: l => by
    unfold insS
    split
    · simp
    · split
      · rename_i h; subst h; simp
      · rw [List.mem_cons, insS_mem i k l, List.mem_cons]
        constructor
        · rintro (h | h | h)
          · exact .inr (.inl h)
          · exact .inl h
          · exact .inr (.inr h)
        · rintro (h | h | h)
          · exact .inr (.inl h)
          · exact .inl h
          · exact .inr (.inr h)
theorem canon_mem (k : Int) : ∀ l, k ∈ canon l ↔ k ∈ l
  | [] => Iff.rfl
  | i :: l => by rw [canon, insS_mem, canon_mem k l, List.mem_cons]
theorem insS_sorted (i : Int) : ∀ l, l.Pairwise (· < ·) → (insS i l).Pairwise (· < ·)
  | [], _ => List.pairwise_singleton _ _
  | j :: l, h => by
    have h' := List.pairwise_cons.mp h
    unfold insS
    split
    · rename_i hij
      refine List.pairwise_cons.mpr ⟨fun k hk => ?_, h⟩
      rcases List.mem_cons.mp hk with rfl | hk
      · exact hij
      · exact Int.lt_trans hij (h'.1 k hk)
    · split
      · exact h
      · rename_i h1 h2
        refine List.pairwise_cons.mpr ⟨fun k hk => ?_, insS_sorted i l h'.2⟩
        rcases (insS_mem i k l).mp hk with rfl | hk
        · omega
        · exact h'.1 k hk
theorem canon_sorted : ∀ l, (canon l).Pairwise (· < ·)
  | [] => .nil
  | i :: l => insS_sorted i _ (canon_sorted l)
theorem rising_uniq {l m : List Int} (hl : l.Pairwise (· < ·)) (hm : m.Pairwise (· < ·)) (h : ∀ k, k ∈ l ↔ k ∈ m) : l = m := by
  refine sorted_uniq ?_ (hl.imp fun h => Int.le_of_lt h) (hm.imp fun h => Int.le_of_lt h)
  exact (List.perm_ext_iff_of_nodup (hl.imp fun h => Int.ne_of_lt h) (hm.imp fun h => Int.ne_of_lt h)).mpr h
theorem setR_len {w : World} {h : Heap} {a : Addr} {ns : List Int} {n : Nat} (R : SetR w h a (fun i => decide (i ∈ ns)) n) : n = (canon ns).length := by
  obtain ⟨o, es, ep, t, _, _, _, _, nd, hm, _, _, hn, _⟩ := R
  have p : (es.toList.map keyOf).Perm (canon ns) := (List.perm_ext_iff_of_nodup nd ((canon_sorted ns).imp fun h => Int.ne_of_lt h)).mpr fun k => by
    rw [canon_mem, ← hm k, decide_eq_true_eq]
  have := p.length_eq
  rw [List.length_map, Array.length_toList, hn] at this
  exact this
section
variable {c : Ctx} {X : Cx} {a b e tg iter : Expr} {fa fb fc : Act ER} {pos : Pos} {es : List Expr} {f : Act ER} {st : Stmt} {rest body : List Stmt} {g : Act (List ER)}
theorem View.set {S : Sta} {w : W} {H : Hp} {v : V} {ks : List Int} (sub : Ext w.Hf H) (h : View S w H v (.set ks)) : ∃ a, v = .ref a ∧ H a = some (SetO S.w a (fun i => decide (i ∈ ks)) ks.length) := by
  rcases h with h | ⟨a, rfl, h⟩
  · cases h with
    | set h => exact ⟨_, rfl, sub _ _ h⟩
  · cases h with
    | set h => exact ⟨_, rfl, h⟩
/-- set(xs), xs whole numbers, fewer than a thousand -/
def setD : List Dat → Option ER
  | [.lst ds] => (intsOf ds).bind fun ns => if ns.length ≤ 1000 then some (.tp (.set (canon ns))) else none
  | _ => none
theorem pn_set : PN c (.type "set") setD := fun X hX pins s σ H w ς vs us ds r I R rvs va e => by
  unfold setD at e
  split at e
  · rename_i ds
    cases q : intsOf ds with
    | none => rw [q] at e; cases e
    | some ns =>
      rw [q] at e
      simp only [Option.bind_some] at e
      split at e
      · rename_i hz
        cases e
        obtain rfl := intsOf_eq q
        obtain ⟨v, rfl, hv⟩ := va.one
        obtain ⟨p, ws, rfl, hp, rp⟩ := hv.lst R.sub
        obtain rfl := rp.ints
        obtain ⟨u, rfl, rx⟩ := vals1 rvs
        cases rx
        obtain ⟨its, rv, pl, _⟩ := I.list (X := X) (show SqL X.K H p _ by rw [hX.K]; exact hp)
        have hi : IntsAre its.toArray.toList ns := ints_of_vals rv
        refine set_of_list ns (I.ok.hd hX.calm) pl.isList hi (by unfold scanBound; omega) fun h' tk n R1 hn k => ?_
        have hl := setR_len R1
        subst hl
        have R2 : SetR X.w h' s.heap.objs.size (fun i => decide (i ∈ canon ns)) (canon ns).length := R1.congr fun k => by rw [decide_eq_decide]; exact canon_mem k ns
        have hf : H s.heap.objs.size = none := I.hok.fresh (Nat.le_refl _)
        have I2 := I.laid (a := s.heap.objs.size) (o := SetO X.w s.heap.objs.size (fun i => decide (i ∈ canon ns)) (canon ns).length) (h' := h') (t' := tk) k (Nat.le_refl _) (setO_new R2)
        obtain ⟨R', F'⟩ := R.laid (o := SetO X.w s.heap.objs.size (fun i => decide (i ∈ canon ns)) (canon ns).length) hf
        refine ⟨.ref s.heap.objs.size, _, w, I2, rfl, F', R', s.heap.objs.size, rfl, hf, R.own0 _ hf, ?_, .set (by rw [hX.w]; exact upd_same)⟩
        cases q : w.Hf s.heap.objs.size with
        | none => rfl
        | some o => have := R.sub _ o q; rw [hf] at this; cases this
      · cases e
  · cases e
/-- sorted(s) of a set, fewer than 64 members -/
def sortS : List Dat → Option ER
  | [.set ks] => if ks.length < 64 ∧ ks.Pairwise (· < ·) then some (.tp (.lst (ks.map .int))) else none
  | _ => none
theorem pn_sortS : PN c (.builtin "sorted") sortS := PN.of fun X hX pins s σ H w ς vs ds r I R va e => by
  unfold sortS at e
  split at e
  · rename_i ks
    split at e
    · rename_i hz
      cases e
      obtain ⟨v, rfl, hv⟩ := va.one
      obtain ⟨p, rfl, hp⟩ := hv.set R.sub
      refine ⟨_, fun v' H' => ∃ l, v' = .ref l ∧ H l = none ∧ H' = upd H l (.lst (ks.map V.int)), cr_sortedSet hX.calm, ⟨p, _, ks.length, rfl, by show H p = some (SetO X.w p _ _); rw [hX.w]; exact hp, hz.1, fun ns l h1 h2 h3 h4 => ⟨l, rfl, h4, ?_⟩⟩, fun v' H' u s' ⟨l, e1, e2, e3⟩ I' rv => ?_⟩
      · rw [rising_uniq h1 hz.2 fun k => (h2 k).trans (by rw [decide_eq_true_eq])]
      · subst e1; subst e3
        cases rv
        exact ne_lst I' e2 R (reps_ints _)
    · cases e
  · cases e

/-! ### is True -/
def isB (neg : Bool) (a b : Dat) : Option ER := match a, b with
  | .bl x, .bl y => some (.fr (.bl (if neg then !decide (x = y) else decide (x = y))))
  | .non, .bl _ => some (.fr (.bl neg))
  | _, _ => none
end
end VS

namespace VS
open PySem L2 PyProof.Rows

/-! ### a, *b = list -/
theorem WalksS.later {prog : Program} {w : World} {A : Around} {I : Addr} {fp wr : List Addr} {G : Array GenState → Array GenState → Prop} {n : Nat} {P : Nat → Value → Prop} {St : Nat → Shared → Prop} (W : WalksS prog w A I fp wr G (n + 1) P St) :
    WalksS prog w A I fp wr G n (fun i v => P (i + 1) v) (fun i s => St (i + 1) s) where
  sub := W.sub
  grefl := W.grefl
  gtrans := W.gtrans
  frame := fun i s h' tk st => W.frame (i + 1) s h' tk st
  item := fun i s Q E hi st hQ => W.item (i + 1) s Q E (by omega) st hQ
  done := fun s Q E st hQ => W.done s Q E st hQ
  self := fun i s Q E st hQ => W.self (i + 1) s Q E st hQ
section
variable {prog : Program} {w : World} {A : Around} {E : Value → Shared → Prop} {s : Shared}
theorem unpack_star {l : Addr} {x : Value} {xs : List Value} {Q : List Value → Shared → Prop} (hh : A.handled = none) (hl : s.heap.IsList l (x :: xs).toArray) (hz : xs.length ≤ sizeLine)
    (hQ : ∀ (h' : Heap) (tk : Nat), (∀ b o, s.heap.get? b = some o → h'.get? b = some o) → Q [x, .ref h'.objs.size] { s with heap := h'.push { cls := .type "list", data := .seq xs.toArray }, toks := tk }) :
    wpAny (model prog w) A (unpackItems (.ref l) 2 (some 1)) Q E s := by
  have hne : l ≠ s.heap.objs.size := by obtain ⟨o, ho, _⟩ := hl; exact Nat.ne_of_lt (Heap.lt_size ho)
  unfold unpackItems
  refine wpAny_bind ?_
  unfold notIterableAtAll
  refine wpAny_bind (wpAny_specialOf hl.typeIs slot_list_iter.lookup ?_)
  refine wpAny_pure ?_
  simp only [Bool.false_eq_true, if_false]
  refine wpAny_bind (wpAny_holding (wpAny_pyIter_list hl ?_))
  have W := (Walks.list (prog := prog) (w := w) (A := A.in1) hh s.heap.objs.size l hne (x :: xs).toArray).toS
  have hn : (x :: xs).toArray.size = xs.length + 1 := by simp
  rw [hn] at W
  refine wpAny_bind (wpAny_holding ?_)
  unfold draw
  refine wpAny_bind (wpAny_of_in1 (W.item 0 _ _ _ (by omega) ⟨⟨_, Heap.get?_push_size _ rfl, rfl, rfl⟩, hl.push _⟩ fun v s1 hv st1 mv => ?_))
  have hv : v = x := by simpa using hv.symm
  subst hv
  simp only
  refine wpAny_bind (wpAny_holding ?_)
  unfold draw
  refine wpAny_pure (wpAny_pure ?_)
  rw [if_neg (by simp)]
  have hi : s.heap.objs.size < s1.heap.objs.size := by obtain ⟨o, ho, _⟩ := st1.1; exact Heap.lt_size ho
  have hl1 : l < s1.heap.objs.size := by obtain ⟨o, ho, _⟩ := st1.2; exact Heap.lt_size ho
  refine wpAny_bind (wpAny_holding (wpAny_collect_iter (.inr (.inr (.inl rfl))) (WalksS.later W) (fun i s q => ?_) st1 (fun b hb => ?_) (by simp) (fun s2 acc mv2 hacc => ?_) hz))
  · obtain ⟨o, ho, hc, _⟩ := q.1
    exact ⟨o, ho, hc⟩
  · rcases List.mem_cons.mp hb with rfl | hb
    · exact hi
    · rw [List.mem_singleton.mp hb]; exact hl1
  have ha : acc.toList = xs := by
    refine List.ext_getElem? fun k => ?_
    by_cases hk : k < xs.length
    · have hk2 : k < acc.size := by rw [hacc.1]; exact hk
      have e1 : acc[k]? = some acc[k] := Array.getElem?_eq_getElem hk2
      have e2 := hacc.2 k _ e1
      rw [Array.getElem?_toList, e1, ← e2]
      simp
    · rw [List.getElem?_eq_none (by rw [Array.length_toList, hacc.1]; omega), List.getElem?_eq_none (by omega)]
  rw [ha]
  show wpAny _ _ (if xs.length < 0 then _ else _) _ _ _
  rw [if_neg (by omega)]
  refine wpAny_bind (wpAny_newObj_type ?_ (by show (List.take (xs.length - 0) xs).length ≤ _; rw [List.length_take]; omega))
  refine wpAny_pure ?_
  have e0 : List.take (xs.length - (2 - 1 - 1)) xs = xs := List.take_of_length_le (by omega)
  have e1 : List.drop (xs.length - (2 - 1 - 1)) xs = [] := List.drop_of_length_le (by omega)
  rw [e0, e1]
  have kp1 : ∀ b o, s.heap.get? b = some o → s1.heap.get? b = some o := fun b o e => mv.heap b o (by rw [List.mem_singleton]; intro z; rw [z] at e; exact absurd (Heap.lt_size e) (Nat.lt_irrefl _)) (Heap.get?_push_of_some _ e)
  have kp2 : ∀ b o, s.heap.get? b = some o → s2.heap.get? b = some o := fun b o e => mv2.heap b o (by rw [List.mem_singleton]; intro z; rw [z] at e; exact absurd (Heap.lt_size e) (Nat.lt_irrefl _)) (kp1 b o e)
  obtain ⟨h2, g2, d2, tk2, os2⟩ := s2
  obtain ⟨h1, g1, d1, tk1, os1⟩ := s1
  have q1 := mv.gens
  have q2 := mv2.gens
  have q3 := mv.drawn
  have q4 := mv2.drawn
  have q5 := mv.os
  have q6 := mv2.os
  simp only at q1 q2 q3 q4 q5 q6
  subst q1 q3 q5
  subst q2 q4 q6
  exact hQ h2 tk2 kp2
end
def starA (t : Dat → St → Option St) (j : Nat) (f : Act ER) : Act Flw := f.bnd fun r ς => (VS.settle ς r).bind fun p => match p.1 with
  | .lst (x :: xs) => if xs.length ≤ sizeLine then (t x p.2).map fun ς' => .ok .nx (ς'.set j (some (.ow (.lst xs)))) else none
  | _ => none
section
variable {c : Ctx} {X : Cx} {a b e tg iter : Expr} {fa fb fc : Act ER} {pos : Pos} {es : List Expr} {f : Act ER}
/-- a, *y = e, e a list -/
theorem vs_star {y : Str} {j : Nat} {py ps pt : Pos} {kt : Nat} {t : Dat → St → Option St} {is : List Nat} (he : VE c e f) (hg : VG c a t is) (hj : c.N[j]? = some y) (hy : L2.Loc c.sc y) (hr : c.ro j = false) (hf : c.fnn y = true ∨ c.sc.names.lookup y = some .local)
    (hs : ∀ env : Env, swapsWithSole [.Tuple [a, .Starred (.Name y py) ps] kt pt] e pos.line env = pure false) (hw : ∀ env : Env, env.scope = c.sc → swappedStores [.Tuple [a, .Starred (.Name y py) ps] kt pt] e env = pure none)
    (h1 : ∀ env : Env, assignEach [a, .Starred (.Name y py) ps] env = [(false, assign a env), (true, assign (.Name y py) env)]) : VS1 c (.Assign [.Tuple [a, .Starred (.Name y py) ps] kt pt] e pos) (starA t j f) := .of fun X hX pins s σ H w ς o ho I R T => by
  refine wpAny_Assign_stores (ve_then he hX I R T ho fun r ς1 u s1 v H1 w1 h2 I1 rv F1 R1 T1 ro => ?_) (hs _) (hw _ hX.sc)
  show wpAny _ _ (assign (.Tuple [a, .Starred (.Name y py) ps] kt pt) X.env u) _ _ _
  cases e1 : VS.settle ς1 r with
  | none => rw [e1] at h2; cases h2
  | some p =>
    obtain ⟨d, ς2⟩ := p
    rw [e1] at h2
    simp only [Option.bind_some] at h2
    split at h2
    · rename_i x xs
      split at h2
      · rename_i hz
        cases e2 : t x ς2 with
        | none => rw [e2] at h2; cases h2
        | some ς3 =>
          rw [e2] at h2
          cases h2
          obtain ⟨w2, F2, R2, rp⟩ := settle_ok F1 R1 ro e1
          cases rp with
          | lst hl rs =>
            rename_i p vs
            cases rv
            cases rs with
            | cons rx rxs =>
              rename_i vx vxs
              obtain ⟨its, rvl, pl, _⟩ := I1.list (X := X) (by rw [hX.K]; exact Ext.sqL R2.sub hl)
              cases rvl with
              | cons r0 r1 =>
                rename_i u0 us
                have hlen := r1.length
                have hlen2 := rxs.length
                rw [assign_Tuple]
                refine wpAny_bind (wpAny_standAt ?_)
                unfold unpack
                rw [h1]
                refine wpAny_bind (wpAny_holding (unpack_star (I.ok.hd hX.calm) pl.isList (by omega) fun h' tk kp => ?_))
                have I2 : Inv X pins σ H1 { s1 with heap := h', toks := tk } := I1.kept kp
                have hf0 : H1 h'.objs.size = none := I2.hok.fresh (Nat.le_refl _)
                have I3 := I2.laid (a := h'.objs.size) (o := .lst vxs) (h' := h'.push { cls := .type "list", data := .seq us.toArray }) (t' := tk) (fun b o e => Heap.get?_push_of_some _ e) (Nat.le_refl _) ⟨by omega, us, 0, r1, Heap.get?_push_size _ rfl⟩
                obtain ⟨R3, F3⟩ := R2.laid (o := .lst vxs) hf0
                have own0 := R2.own0 _ hf0
                have hf1 : w2.Hf h'.objs.size = none := by
                  cases q : w2.Hf h'.objs.size with
                  | none => rfl
                  | some o => have := R2.sub _ o q; rw [hf0] at this; cases this
                refine assignInOrder_cons (wpAny_mono (hg X hX pins _ σ _ w2 ς2 ς3 vx u0 x e2 I3 R3 r0 rx) (fun _ s4 ⟨σ4, w4, I4, F4, R4, _⟩ => ?_) fun _ _ z => z.elim)
                refine assignInOrder_cons ?_
                have hlt : j < c.N.length := (List.getElem?_eq_some_iff.mp hj).1
                have kp4 := F4.kp h'.objs.size _ upd_same own0
                have nf4 := F4.nf h'.objs.size _ upd_same own0 hf1
                have FF := F2.trans (F3.trans F4)
                have hn0 : H h'.objs.size = none := F2.dm _ hf0
                obtain ⟨w5, F5, R5⟩ := setR_ok (i := j) (v := .ref h'.objs.size) (r := .tp (.lst xs)) FF R4 (fun a h => by rw [FF.h0]; exact R.dom a h) hlt (by rw [I4.len, hX.N]) hr ⟨_, rfl, hn0, kp4.2, nf4, .lst kp4.1 (rxs.mono (F4.hf) (F4.ad))⟩ rfl
                refine wpAny_assign_Name (store_ok I4 (by rw [hX.N]; exact hX.nd) (by rw [hX.N]; exact hj) (by rw [hX.sc]; exact hy) (show L2.RelV (V.ref h'.objs.size) (Value.ref h'.objs.size) from rfl) (fun s5 I5 => assignInOrder_nil ⟨_, _, w5, I5, F5, R5⟩) ?_)
                rcases hf with hf | hf
                · exact .inl (hX.fnn y hf)
                · exact .inr (by rw [hX.sc]; exact hf)
      · cases h2
    · cases h2
end
end VS

namespace VS
open PySem L2 PyProof.Rows

theorem RepK.mono' {S : Sta} {Hf Hf' : Hp} {ads ads' : Nat → Option Addr} {l : List (Key × V)} {kvs : List (Dat × Dat)} (h : RepK S Hf ads l kvs) (e : Ext Hf Hf') (ea : AExt ads ads') : RepK S Hf' ads' l kvs := RepK.mono e ea h
/-! ### dict comprehensions -/
def dcRun (vs : List Nat) (t : Dat → St → Option St) (ft : Act Bool) (fk fe : Act ER) : List Dat → List (Dat × Dat) → St → Option (List (Dat × Dat) × St)
  | [], acc, ς => some (acc, ς)
  | d :: ds, acc, ς => match t d ς with
    | none => none
    | some ς1 => match ft ς1 with
      | some (.ok true ς2) => match fk ς2 with
        | some (.ok (.fr dk) ς3) => match keyD dk with
          | some k => match fe ς3 with
            | some (.ok r ς4) => match VS.settle ς4 r with
              | some (x, ς5) => if acc.length < sizeLine then dcRun vs t ft fk fe ds (putKD acc k x) (wipeS vs ς5) else none
              | none => none
            | _ => none
          | none => none
        | _ => none
      | some (.ok false ς2) => dcRun vs t ft fk fe ds acc (wipeS vs ς2)
      | _ => none
def dcA (vs : List Nat) (t : Dat → St → Option St) (ft : Act Bool) (fk fe : Act ER) (fi : Act (List Dat)) : Act ER := fi.bnd fun ds ς => if noOwn ς vs = true then
    match dcRun vs t ft fk fe ds [] (wipeS vs ς) with
    | some (xs, ς') => if xs.length ≤ sizeLine then some (.ok (.tp (.dic xs)) (restore ς vs ς')) else none
    | none => none
  else none
/-- what a dict comprehension that goes well does -/
theorem dc_reads {c : Ctx} {X : Cx} {kx vx tg iter : Expr} {ifs : List Expr} {scope : Scope} {vs : List Nat} {fi : Act (List Dat)} {t : Dat → St → Option St} {is : List Nat} {ft : Act Bool} {fk fe : Act ER} (hi : VI c tg iter fi) (hg : VG (c.blk scope) tg t is) (ht : VTs (c.blk scope) ifs ft) (hk : VE (c.blk scope) kx fk) (he : VE (c.blk scope) vx fe)
    (his : ∀ i ∈ is, i ∈ vs) (hro : ∀ j ∈ vs, c.ro j = false) (hX : c.Ok X) {σ : L2.St} {H : Hp} {w : W} {ς ς1 ς2 : St} {ds : List Dat} {xs : List (Dat × Dat)} (q : fi ς = some (.ok ds ς1)) (R : Rel c.toSta c.n ς σ H w) (hno : noOwn ς1 vs = true) (hrun : dcRun vs t ft fk fe ds [] (wipeS vs ς1) = some (xs, ς2))
    {Q : VK} (hQ : ∀ v H' w', Fr w H w' H' → Rel c.toSta c.n (VS.restore ς1 vs ς2) σ H' w' → ResOk c.toSta w' H H' σ v (.tp (.dic xs)) → Q v H') : tDc (wiOf X tg iter) (ggOf X scope tg) (ttOf X scope ifs) (teOf X scope kx) (teOf X scope vx) vs σ H Q := by
  intro pins' s' I'
  refine wpAny_mono (hi X hX pins' s' σ H w ς _ q I' R trivial) (fun u s1 z => wpAny_mono z (fun u s2 z => ?_) fun _ _ z => z) fun _ _ z => z
  obtain ⟨it, fp, tn, J, H1, e1, I1, Tn, st, f2, w1, F1, R1, WK⟩ := z
  refine ⟨it, fp, tn, J, H1, e1, I1, Tn, st, f2, fun D hD => ?_⟩
  -- the new list
  obtain ⟨RL, FL⟩ := R1.laid (o := .dK []) hD
  have hoD : w1.own D = none := R1.own0 D hD
  have hfD : w1.Hf D = none := by
    cases z : w1.Hf D with
    | none => rfl
    | some o => have := R1.sub D o z; rw [hD] at this; cases this
  have RW0 : Rel c.toSta c.n (wipeS vs ς1) (L2.wipe σ vs) (upd H1 D (.dK [])) w1 := RL.wipe rfl hro
  refine ⟨fun i m H' => ∃ w' ς' accV accD ds', m = ds'.length ∧ ds' = ds.drop i ∧ i ≤ ds.length ∧ Fr w1 H1 w' H' ∧ Rel c.toSta c.n ς' (L2.wipe σ vs) H' w' ∧ w'.own D = none ∧ w'.Hf D = none ∧ H' D = some (.dK accV) ∧ RepK c.toSta w'.Hf w'.ads accV accD ∧ dcRun vs t ft fk fe ds' accD ς' = some (xs, ς2),
    ⟨ds.length, w1, _, [], [], ds, rfl, rfl, Nat.zero_le _, FL, RW0, hoD, hfD, upd_same, .nil, hrun⟩, ?_⟩
  rintro i m H2 ⟨w2, ς3, accV, accD, ds', rfl, hdr, hile, F2, R2, ho2, hf2, hD2, ra, hr2⟩
  cases ds' with
  | nil =>
    have hie : i = ds.length := by have := congrArg List.length hdr; simp at this; omega
    subst hie
    cases hr2
    refine .inl ⟨WK.stop w2 H2 F2.hf R2.sub, hQ _ _ w2 (F1.trans F2) (R1.restore hno F2 R2 hro) ⟨D, rfl, F1.dm D hD, ho2, hf2, ?_⟩⟩
    exact .dicK hD2 ra
  | cons d ds3 =>
    have hlt : i < ds.length := by have := congrArg List.length hdr; simp at this; omega
    have hdi : ds[i]? = some d := by
      have q : (ds.drop i)[0]? = some d := by rw [← hdr]; rfl
      rw [List.getElem?_drop] at q
      simpa using q
    have hdn : ds3 = ds.drop (i + 1) := by
      have q : (ds.drop i).drop 1 = ds3 := by rw [← hdr]; rfl
      rw [List.drop_drop] at q
      exact q.symm
    refine .inr ⟨WK.go i w2 H2 hlt F2.hf R2.sub, fun H' => ∃ m', m' < (d :: ds3).length ∧ ∃ w' ς' accV accD ds', m' = ds'.length ∧ ds' = ds.drop (i + 1) ∧ i + 1 ≤ ds.length ∧ Fr w1 H1 w' H' ∧ Rel c.toSta c.n ς' (L2.wipe σ vs) H' w' ∧ w'.own D = none ∧ w'.Hf D = none ∧ H' D = some (.dK accV) ∧ RepK c.toSta w'.Hf w'.ads accV accD ∧ dcRun vs t ft fk fe ds' accD ς' = some (xs, ς2), fun H' z => z, fun x H3 hy => ?_⟩
    obtain ⟨w3, F3, R3, d', hd', rp⟩ := WK.yld i x H2 w2 H3 ς3 _ hlt R2 F2.hf F2.ad hy
    rw [hdi] at hd'
    cases hd'
    intro s0 H0 C cl fp' pins'' s'' u'' I'' rv''
    unfold dcRun at hr2
    split at hr2
    · cases hr2
    · rename_i ς4 e4
      have keepD : ∀ {wa wb : W} {Ha Hb : Hp}, Fr wa Ha wb Hb → wa.own D = none → wa.Hf D = none → Ha D = some (.dK accV) → wb.own D = none ∧ wb.Hf D = none ∧ Hb D = some (.dK accV) := fun {wa wb Ha Hb} F h1 h2 h3 => ⟨(F.kp D _ h3 h1).2, F.nf D _ h3 h1 h2, (F.kp D _ h3 h1).1⟩
      obtain ⟨o3, f3, d3⟩ := keepD F3 ho2 hf2 hD2
      refine wpAny_mono (hg _ hX.blk pins'' s'' _ H3 w3 ς3 ς4 x u'' d e4 I'' R3 rv'' rp) (fun _ s4 ⟨σ4, w4, I4, F4, R4, k4⟩ => ⟨σ4, H3, I4, ?_, fun s0 H0 C cl fp' pins'' s'' I'' => ?_⟩) fun _ _ z => z
      · have : L2.wipe σ4 vs = L2.wipe (L2.wipe σ vs) vs := wipe_eq (by rw [I4.len]; have := I''.len; rw [this]) fun j hj => k4 j fun z => hj (his j z)
        rw [this]
        exact wipe_eq (by rw [wipe_length]) fun j hj => wipe_out hj
      · obtain ⟨o4, f4, d4⟩ := keepD F4 o3 f3 d3
        have hw4 : L2.wipe σ4 vs = L2.wipe σ vs := by
          have : L2.wipe σ4 vs = L2.wipe (L2.wipe σ vs) vs := wipe_eq (by rw [I4.len, wipe_length, I1.len]) fun j hj => k4 j fun z => hj (his j z)
          rw [this]
          exact wipe_eq (by rw [wipe_length]) fun j hj => wipe_out hj
        cases e5 : ft ς4 with
        | none => rw [e5] at hr2; cases hr2
        | some o5 =>
          cases o5 with
          | ex x5 ς5 => rw [e5] at hr2; cases hr2
          | ok b5 ς5 =>
            refine wpAny_mono (ht _ hX.blk pins'' s'' σ4 H3 w4 ς4 _ e5 I'' R4 trivial) (fun b s5 ⟨eb, H5, w5, I5, F5, R5⟩ => ⟨H5, I5, ?_⟩) fun _ _ z => z
            subst eb
            obtain ⟨o5, f5, d5⟩ := keepD F5 o4 f4 d4
            have F25 := ((F2.trans F3).trans F4).trans F5
            cases b with
            | false =>
              rw [e5] at hr2
              simp only at hr2
              simp only [Bool.false_eq_true, if_false]
              exact ⟨ds3.length, by simp, w5, _, accV, accD, ds3, rfl, hdn, hlt, F25, R5.wipe hw4 hro, o5, f5, d5, ra.mono (((F3.trans F4).trans F5).hf) (((F3.trans F4).trans F5).ad), hr2⟩
            | true =>
              rw [e5] at hr2
              simp only at hr2
              simp only [if_true]
              intro s0 H0 C cl fp' pins'' s'' I''
              cases e6 : fk ς5 with
              | none => rw [e6] at hr2; cases hr2
              | some o6 =>
                cases o6 with
                | ex x6 ς6 => rw [e6] at hr2; cases hr2
                | ok r6 ς6 =>
                  rw [e6] at hr2
                  refine wpAny_mono (hk _ hX.blk pins'' s'' σ4 H5 w5 ς5 _ e6 I'' R5 trivial) (fun u6 s6 ⟨v6, H6, w6, I6, rv6, F6, R6, ro6⟩ => ⟨v6, H6, I6, rv6, ?_⟩) fun _ _ z => z
                  cases r6 with
                  | tp d6 => cases hr2
                  | sl j6 => cases hr2
                  | fr d6 =>
                    simp only at hr2
                    cases ek : keyD d6 with
                    | none => rw [ek] at hr2; cases hr2
                    | some k6 =>
                      rw [ek] at hr2
                      simp only at hr2
                      obtain rfl := Rep.key ro6 ek
                      obtain ⟨o6', f6', d6'⟩ := keepD F6 o5 f5 d5
                      intro s0 H0 C cl fp' pins'' s'' I''
                      cases e9 : fe ς6 with
                      | none => rw [e9] at hr2; cases hr2
                      | some o9 =>
                        cases o9 with
                        | ex x9 ς9 => rw [e9] at hr2; cases hr2
                        | ok r9 ς9 =>
                          rw [e9] at hr2
                          simp only at hr2
                          refine wpAny_mono (he _ hX.blk pins'' s'' σ4 H6 w6 ς6 _ e9 I'' R6 trivial) (fun u9 s9 ⟨v9, H9, w9, I9, rv9, F9, R9, ro9⟩ => ⟨v9, H9, I9, rv9, ?_⟩) fun _ _ z => z
                          cases e7 : VS.settle ς9 r9 with
                          | none => rw [e7] at hr2; cases hr2
                          | some p7 =>
                            obtain ⟨x7, ς7⟩ := p7
                            rw [e7] at hr2
                            simp only at hr2
                            split at hr2
                            · rename_i hla
                              obtain ⟨w7, F7, R7, rp7⟩ := settle_ok F9 R9 ro9 e7
                              obtain ⟨o7, f7, d7⟩ := keepD F7 o6' f6' d6'
                              have F57 := (F25.trans F6).trans F7
                              have ra7 := ra.mono (((((F3.trans F4).trans F5).trans F6).trans F7).hf) (((((F3.trans F4).trans F5).trans F6).trans F7).ad)
                              refine ⟨accV, k6, rfl, d7, by rw [ra.length]; exact hla, ds3.length, by simp, w7, _, putK accV k6 v9, putKD accD k6 x7, ds3, rfl, hdn, hlt, ⟨F57.hf, F57.ad, fun b u h1 h2 => ?_, F57.nf, fun b h => ?_, F57.h0, F57.as, F57.ow⟩, (R7.poke o7 f7 d7).wipe hw4 hro, o7, f7, upd_same, ra7.put rp7, hr2⟩
                              · have nb : b ≠ D := fun q => by rw [q, hD] at h1; cases h1
                                rw [upd_ne nb]
                                exact F57.kp b u h1 h2
                              · by_cases hb : b = D
                                · rw [hb]; exact hD
                                · rw [upd_ne hb] at h
                                  exact F57.dm b h
                            · cases hr2
theorem ve_dc {c : Ctx} {kx vx tg iter : Expr} {ifs : List Expr} {scope : Scope} {own : List (Str × Nat)} {pos : Pos} {fi : Act (List Dat)} {t : Dat → St → Option St} {is : List Nat} {ft : Act Bool} {fk fe : Act ER} (hi : VI c tg iter fi) (hg : VG (c.blk scope) tg t is) (ht : VTs (c.blk scope) ifs ft) (hk : VE (c.blk scope) kx fk) (he : VE (c.blk scope) vx fe)
    (ok : BlkOk c.N c.sc scope own) (his : ∀ i ∈ is, i ∈ own.map (·.2)) (hro : ∀ j ∈ own.map (·.2), c.ro j = false) (hs : ∀ env x, foldedSetIterable iter env x = pure x) :
    VE c (.DictComp kx vx [⟨tg, iter, ifs, 0⟩] scope pos) (dcA (own.map (·.2)) t ft fk fe fi) := .of fun X hX pins s σ H w ς o ho I R T => by
  have hN : X.N.Nodup := by rw [hX.N]; exact hX.nd
  have pe : PE X (.DictComp kx vx [⟨tg, iter, ifs, 0⟩] scope pos) (tDc (wiOf X tg iter) (ggOf X scope tg) (ttOf X scope ifs) (teOf X scope kx) (teOf X scope vx) (own.map (·.2))) :=
    pe_dc hX.calm hN ⟨fun pins s σ H Rr I h => h pins s I⟩ (by rw [hX.N, hX.sc]; exact ok) (fun s0 H0 C cl fp => ⟨fun pins s σ H v u Q I r h => h s0 H0 C cl fp pins s u I r⟩)
      (fun s0 H0 C cl fp => ⟨fun pins s σ H Q I h => h s0 H0 C cl fp pins s I⟩) (fun s0 H0 C cl fp => ⟨fun pins s σ H Q I h => h s0 H0 C cl fp pins s I⟩) (fun s0 H0 C cl fp => ⟨fun pins s σ H Q I h => h s0 H0 C cl fp pins s I⟩) (hs _)
  unfold dcA Act.bnd at ho
  cases q : fi ς with
  | none => rw [q] at ho; cases ho
  | some o1 =>
    rw [q] at ho
    cases o1 with
    | ex x ς1 =>
      cases ho
      refine wpAny_mono (pe.run pins s σ H (fun _ _ => False) I fun pins' s' I' => ?_) (fun u s' ⟨_, _, _, _, z⟩ => z.elim) fun _ _ z => z
      exact wpAny_mono (hi X hX pins' s' σ H w ς _ q I' R T) (fun u s1 z => wpAny_mono z (fun u s2 z => z.elim) fun _ _ z => z) fun _ _ z => z
    | ok ds ς1 =>
      simp only at ho
      split at ho
      · rename_i hno
        split at ho
        · rename_i xs ς2 hrun
          split at ho
          · rename_i hz
            cases ho
            exact wpAny_mono (pe.run pins s σ H (fun v H' => ∃ w', Fr w H w' H' ∧ Rel c.toSta c.n (VS.restore ς1 (own.map (·.2)) ς2) σ H' w' ∧ ResOk c.toSta w' H H' σ v (.tp (.dic xs))) I
              (dc_reads hi hg ht hk he his hro hX q R hno hrun fun v H' w' F R ro => ⟨w', F, R, ro⟩)) (fun u s' ⟨v, H', I', rv, w', F', R', ro⟩ => ⟨v, H', w', I', rv, F', R', ro⟩) fun _ _ z => z
          · cases ho
        · cases ho
      · cases ho
theorem swd_true {kx vx : Expr} {gs : List Comprehension} {scope : Scope} {pos py : Pos} {y : Str} {l : Nat} {env : Env} (hk : env.scope.kind = .function) (hy : env.scope.names.lookup y = some .local) (hl : (py.line == pos.line) = true)
    (ha : (scope.names.any fun (n, k) => n == y && (k == .local || k == .cell)) = false) : swapsWith (.DictComp kx vx gs scope pos) (some (.Name y py)) l env = pure true := by
  have e1 : env.kindOf y = some .local := hy
  have e2 : env.blockKind = .function := by unfold Env.blockKind; rw [hk]; rfl
  unfold swapsWith
  simp only [e2, e1, ha, Expr.pos, hl]
  rfl
/-- x = {..} on one line -/
theorem vs_setDc {c : Ctx} {kx vx tg iter : Expr} {ifs : List Expr} {scope : Scope} {own : List (Str × Nat)} {pos spos py : Pos} {y : Str} {i : Nat} {fi : Act (List Dat)} {t : Dat → St → Option St} {is : List Nat} {ft : Act Bool} {fk fe : Act ER} (hy : c.N[i]? = some y) (hyl : c.sc.names.lookup y = some .local) (hr : c.ro i = false) (hi : VI c tg iter fi) (hg : VG (c.blk scope) tg t is) (ht : VTs (c.blk scope) ifs ft) (hk : VE (c.blk scope) kx fk) (he : VE (c.blk scope) vx fe)
    (ok : BlkOk c.N c.sc scope own) (his : ∀ i ∈ is, i ∈ own.map (·.2)) (hro : ∀ j ∈ own.map (·.2), c.ro j = false) (hs : ∀ env x, foldedSetIterable iter env x = pure x)
    (hkf : c.sc.kind = .function) (hl : (py.line == pos.line) = true) (ha : (scope.names.any fun (n, k) => n == y && (k == .local || k == .cell)) = false) :
    VS1 c (.Assign [.Name y py] (.DictComp kx vx [⟨tg, iter, ifs, 0⟩] scope pos) spos) (setA i (dcA (own.map (·.2)) t ft fk fe fi)) := .of fun X hX pins s σ H w ς o ho I R T => by
  have hN : X.N.Nodup := by rw [hX.N]; exact hX.nd
  have hyX : X.env.scope.names.lookup y = some .local := by rw [hX.sc]; exact hyl
  have hyN : X.N[i]? = some y := by rw [hX.N]; exact hy
  have ps : ∀ (D : Ends), tDc (wiOf X tg iter) (ggOf X scope tg) (ttOf X scope ifs) (teOf X scope kx) (teOf X scope vx) (own.map (·.2)) σ H (fun x H1 => gName i x σ H1 D.nx) → wpAny (model X.prog X.w) X.A (exec (.Assign [.Name y py] (.DictComp kx vx [⟨tg, iter, ifs, 0⟩] scope pos) spos) X.env) (SP X pins D) X.xe s := fun D hD => by
    rw [exec_Assign_Name_used _ _ _ _ (swd_true (by rw [hX.sc]; exact hkf) hyX hl ha)]
    refine wpAny_bind (wpAny_standAt (wpAny_bind ?_))
    show wpAny _ X.A (do let _ ← comprehension (.DictComp kx vx [⟨tg, iter, ifs, 0⟩] scope pos) scope X.env (firstIterPos [⟨tg, iter, ifs, 0⟩] pos) newDict false (eval iter X.env) (some (assign (.Name y py) X.env))) _ _ s
    refine wpAny_bind (wpAny_mono (dc_core (Qf := fun _ s' => SP X pins D .next s') hX.calm hN I ⟨fun pins s σ H Rr I h => h pins s I⟩ (by rw [hX.N, hX.sc]; exact ok) (fun s0 H0 C cl fp => ⟨fun pins s σ H v u Q I r h => h s0 H0 C cl fp pins s u I r⟩)
      (fun s0 H0 C cl fp => ⟨fun pins s σ H Q I h => h s0 H0 C cl fp pins s I⟩) (fun s0 H0 C cl fp => ⟨fun pins s σ H Q I h => h s0 H0 C cl fp pins s I⟩) (fun s0 H0 C cl fp => ⟨fun pins s σ H Q I h => h s0 H0 C cl fp pins s I⟩) (hs _) hD fun L C s' m H' I' q hn f => ?_) (fun _ s' hq => wpAny_pure (wpAny_pure hq)) fun _ _ z => z)
    show wpAny _ _ (assign (.Name y py) X.env (.ref L)) _ _ _
    refine wpAny_assign_Name (store_ok2 (v := V.ref L) I' hN hyN (.inl hyX) rfl (fun s2 I2 ⟨a, sb, ha⟩ => ?_) (.inr hyX))
    obtain ⟨f0, f1, f2, f3, f4, f5⟩ := f
    have hca : C ≠ a := by
      rcases ha with z | z
      · rw [z]; exact f1
      · exact fun e => f4 y a z e.symm
    exact ⟨m, hn.sameBut sb hca, fun h3 sb3 => ⟨_, H', I2.turned (t' := s2.toks) (fun b o hb e => (sb3.2 b hb).trans e) f0 f1 f3 f4 f5, q⟩⟩
  have nix : ∀ {P : Flow → Shared → Prop} (fl : Flow) (s' : Shared), SP X pins { nx := fun _ _ => False, rt := fun _ _ => False } fl s' → P fl s' := fun {P} fl s' z => by
    cases fl with
    | next => obtain ⟨_, _, _, z⟩ := z; exact z.elim
    | ret u => obtain ⟨_, _, _, _, _, z⟩ := z; exact z.elim
    | brk => obtain ⟨_, _, _, z⟩ := z; exact z.elim
    | cont => obtain ⟨_, _, _, z⟩ := z; exact z.elim
  unfold setA Act.bnd dcA Act.bnd at ho
  cases q : fi ς with
  | none => rw [q] at ho; cases ho
  | some o1 =>
    rw [q] at ho
    cases o1 with
    | ex x ς1 =>
      cases ho
      refine wpAny_mono (ps { nx := fun _ _ => False, rt := fun _ _ => False } fun pins' s' I' => ?_) nix fun _ _ z => z
      exact wpAny_mono (hi X hX pins' s' σ H w ς _ q I' R T) (fun u s1 z => wpAny_mono z (fun u s2 z => z.elim) fun _ _ z => z) fun _ _ z => z
    | ok ds ς1 =>
      simp only at ho
      by_cases hno : noOwn ς1 (own.map (·.2)) = true
      · rw [if_pos hno] at ho
        cases hrun : dcRun (own.map (·.2)) t ft fk fe ds [] (wipeS (own.map (·.2)) ς1) with
        | none => rw [hrun] at ho; cases ho
        | some p =>
          obtain ⟨xs, ς2⟩ := p
          rw [hrun] at ho
          simp only at ho
          by_cases hz : xs.length ≤ sizeLine
          · rw [if_pos hz] at ho
            simp only at ho
            cases ho
            have hlen : i < c.N.length := (List.getElem?_eq_some_iff.mp hy).1
            refine wpAny_mono (ps { nx := fun σ' H' => ∃ w', Fr w H w' H' ∧ Rel c.toSta c.n ((VS.restore ς1 (own.map (·.2)) ς2).set i (some (.ow (.dic xs)))) σ' H' w', rt := fun _ _ => False }
              (dc_reads hi hg ht hk he his hro hX q R hno hrun fun v H' w' F' R' ro => setR_ok F' R' (fun a h => by rw [F'.h0]; exact R.dom a h) hlen (by rw [I.len, hX.N]) hr ro rfl)) (fun fl s' z => ?_) fun _ _ z => z
            cases fl with
            | next => obtain ⟨σ', H', I', w', F', R'⟩ := z; exact ⟨σ', H', w', I', F', R'⟩
            | ret u => obtain ⟨_, _, _, _, _, z⟩ := z; exact z.elim
            | brk => obtain ⟨_, _, _, z⟩ := z; exact z.elim
            | cont => obtain ⟨_, _, _, z⟩ := z; exact z.elim
          · rw [if_neg hz] at ho; cases ho
      · rw [if_neg hno] at ho; cases ho
end VS

namespace VS
open PySem L2 PyProof.Rows

section
variable {c : Ctx} {X : Cx} {a b e tg iter : Expr} {fa fb fc : Act ER} {pos : Pos} {es : List Expr} {f : Act ER} {st : Stmt} {rest body : List Stmt} {g : Act (List ER)}
/-! ### is True, is False -/
def isBE (a b : Dat) : Option ER := match a, b with
  | .bl x, .bl y => some (.fr (.bl (decide (x = y))))
  | _, _ => none
def isntBE (a b : Dat) : Option ER := match a, b with
  | .bl x, .bl y => some (.fr (.bl (!decide (x = y))))
  | _, _ => none
theorem p2_isB : P2 c (compareOp .Is) isBE := P2.of fun X hX pins s σ H w ς x y a b r I R va vb e => by
  unfold isBE at e
  split at e
  · rename_i k l
    cases e
    obtain rfl := va.bl
    obtain rfl := vb.bl
    refine ⟨_, fun v H' => v = .bl (decide (k = l)) ∧ H' = H, op_isBl, ⟨k, l, rfl, rfl, rfl, rfl⟩, fun v H' u s' ⟨e1, e2⟩ I' rv => ?_⟩
    subst e1; subst e2
    exact ne_fr I' rv R (.bl _)
  · cases e
theorem p2_isntB : P2 c (compareOp .IsNot) isntBE := P2.of fun X hX pins s σ H w ς x y a b r I R va vb e => by
  unfold isntBE at e
  split at e
  · rename_i k l
    cases e
    obtain rfl := va.bl
    obtain rfl := vb.bl
    refine ⟨_, fun v H' => v = .bl (!decide (k = l)) ∧ H' = H, op_notBl, ⟨k, l, rfl, rfl, rfl, rfl⟩, fun v H' u s' ⟨e1, e2⟩ I' rv => ?_⟩
    subst e1; subst e2
    exact ne_fr I' rv R (.bl _)
  · cases e
def isG : Dat → Dat → Option ER := orE isE isBE
def isntG : Dat → Dat → Option ER := orE isntE isntBE
theorem p2_isG : P2 c (compareOp .Is) isG := p2_is.or p2_isB
theorem p2_isntG : P2 c (compareOp .IsNot) isntG := p2_isnt.or p2_isntB
/-! ### in, with dicts -/
def inGD : Dat → Dat → Option ER := orE (inE false memK) inG
def ninGD : Dat → Dat → Option ER := orE (inE true memK) ninG
theorem p2_inD : P2 c (compareOp .In) inGD := (p2_memK false).or p2_in
theorem p2_ninD : P2 c (compareOp .NotIn) ninGD := (p2_memK true).or p2_nin
def ixGD : Dat → Dat → Option ER := orE ixD ixG
theorem pix_GD : PIx c ixGD := pix_dic.or pix_G
def orS (g g' : Dat → Dat → Dat → Option Dat) (d k x : Dat) : Option Dat := match g d k x with | some r => some r | none => g' d k x
def stG : Dat → Dat → Dat → Option Dat := orS stD stL
theorem pst_G : PSt c stG := PSt.or pst_dic pst_lst
def orN (g g' : List Dat → Option ER) (a : List Dat) : Option ER := match g a with | some r => some r | none => g' a
theorem PN.or {fv : Value} {g g' : List Dat → Option ER} (h : PN c fv g) (h' : PN c fv g') : PN c fv (orN g g') := PN.alt h h'
def sortG : List Dat → Option ER := orN sortD (orN sortK sortS)
theorem pn_sortG : PN c (.builtin "sorted") sortG := pn_sorted.or (pn_sortK.or pn_sortS)
def getG : List Dat → Option ER := orN getM getM2
theorem pn_getG : PN c (.builtin "dict.get") getG := pn_get.or pn_get2
/-! ### text * number -/
def strMul : Dat → Dat → Option ER
  | .str x, .int n => if 1 ≤ n ∧ x.length * n.toNat ≤ 1000000 ∧ n ≤ 1000000 then some (.fr (.str ⟨(List.flatten (List.replicate n.toNat x.cps.toList)).toArray⟩)) else none
  | _, _ => none
/-! ### range(i, j, k) -/
def rangeCD (lo k : Int) (n : Nat) : List Dat := (List.range n).map fun (i : Nat) => Dat.int (lo + (i : Int) * k)
theorem walk_rangeC (lo k : Int) (n : Nat) (w : W) : WalkOk c (Itc lo k n) (rangeCD lo k n) w where
  go := fun i w' H' hi e1 e2 => by
    have hl : i < n := by simpa [rangeCD] using hi
    exact hl
  stop := fun w' H' e1 e2 => by
    show n ≤ _
    simp [rangeCD]
  yld := fun i x H' w' H'' ς σ hi R e1 ea y => by
    obtain ⟨rfl, rfl⟩ := y
    have hl : i < n := by simpa [rangeCD] using hi
    exact ⟨w', Fr.refl _ _, R, .int (lo + (i : Int) * k), by simp [rangeCD, hl], .int _⟩
def range3F : List Dat → Option (List Dat)
  | [.int i, .int j, .int k] => if k ≠ 0 ∧ k.natAbs < 1073741824 ∧ Builtin.Range.small i j k = true ∧ 0 ≤ Builtin.Range.rangeSize i j k then some (rangeCD i k (Builtin.Range.rangeSize i j k).toNat) else none
  | _ => none
def range3A (fs : Act (List ER)) : Act (List Dat) := fs.bnd fun rs ς => ((curL ς rs).bind range3F).map fun ds => .ok ds ς
theorem vi_range3 {p : Pos} (ha : VA c (e :: es) g) (hg : GlS c "range") (hm : c.mg "range" = none)
    (he : ∀ env, starEach (e :: es) env = (false, eval e env) :: starEach es env) (hpl : ∀ env, (backTo pos (starEach es env)).any (·.1) = false) : VI c tg (.Call (.Name "range" p) (e :: es) [] pos) (range3A g) := fun X hX pins s σ H w ς o ho I R T => by
  refine Call_ (ld_blt I (hg.gl hX) (by rw [hX.mg]; exact hm) boot_range (PyProof.Rows.callWith_type1 (va_then ha hX I R T ho fun rs ς1 us s1 vs H1 w1 h1 I1 rvs F1 R1 T1 ros => ?_) (he _) (hpl _)))
  cases e : curL ς1 rs with
  | none => rw [e] at h1; cases h1
  | some ds =>
    rw [e] at h1
    cases e2 : range3F ds with
    | none => simp only [Option.bind_some, e2] at h1; cases h1
    | some ys =>
      simp only [Option.bind_some, e2] at h1
      cases h1
      have va := R1.views ros e
      unfold range3F at e2
      split at e2
      · rename_i i j k
        split at e2
        · rename_i hc
          cases e2
          obtain ⟨c0, c1, c2, c3⟩ := hc
          obtain ⟨v, u, t, rfl, hv, hu, ht⟩ := va.three
          obtain rfl := hv.int
          obtain rfl := hu.int
          obtain rfl := ht.int
          cases rvs with
          | cons r1 rvs =>
            obtain ⟨u1, u2, rfl, ⟨t1, rfl⟩, ⟨t2, rfl⟩⟩ := vals2 rvs
            obtain ⟨t0, rfl⟩ := r1
            refine call_range_3 c0 ?_ (.inl (PyProof.noPylong_small c1))
            refine wpAny_pyIter_range (IsRange.new ..) c2 ?_
            have I2 : Inv X pins σ H1 { s1 with heap := s1.heap.push { cls := .type "range", data := .fields #[.int i t0, .int j t1, .int k t2] } } := I1.kept (t' := s1.toks) fun b o e => Heap.get?_push_of_some _ e
            refine pi_one (tk := s1.toks) I2 _ (turn_rangeC _ i k (Builtin.Range.rangeSize i j k).toNat) ?_ ⟨w1, F1, R1, walk_rangeC i k _ w1⟩
            have e1 : i + ((0 : Nat) : Int) * k = i := by simp
            have e2 : (((Builtin.Range.rangeSize i j k).toNat : Nat) : Int) - ((0 : Nat) : Int) = Builtin.Range.rangeSize i j k := by omega
            show IsRangeIter _ _ (i + ((0 : Nat) : Int) * k) ((((Builtin.Range.rangeSize i j k).toNat : Nat) : Int) - ((0 : Nat) : Int)) k
            rw [e1, e2]
            exact Heap.get?_push_size _ rfl
        · cases e2
      · cases e2
/-! ### dict(pairs) -/
def pairsD : List Dat → Option (List (Key × Dat))
  | [] => some []
  | .tup [k, v] :: r => match keyD k, pairsD r with
    | some k, some l => some ((k, v) :: l)
    | _, _ => none
  | _ => none
def mergeD (acc : List (Dat × Dat)) (l : List (Key × Dat)) : List (Dat × Dat) := l.foldl (fun acc p => putKD acc p.1 p.2) acc
def dictP : List Dat → Option ER
  | [.lst ds] => (pairsD ds).map fun l => .tp (.dic (mergeD [] l))
  | _ => none
theorem Reps.pairs {S : Sta} {Hf : Hp} {ads : Nat → Option Addr} : ∀ {vs : List V} {ds : List Dat} {l : List (Key × Dat)}, Reps S Hf ads vs ds → pairsD ds = some l →
    ∃ (ps : List Addr) (kvs : List (Key × V)), vs = ps.map V.ref ∧ Paired (fun p (kv : Key × V) => SqT S.K Hf p [kV kv.1, kv.2]) ps kvs ∧ Paired (fun (kv : Key × V) (q : Key × Dat) => kv.1 = q.1 ∧ Rep S Hf ads kv.2 q.2) kvs l
  | _, _, _, .nil, e => by cases e; exact ⟨[], [], rfl, .nil, .nil⟩
  | _, d :: ds, l, .cons r t, e => by
    unfold pairsD at e
    split at e
    · rename_i e0; cases e0
    · rename_i k v r' e0
      cases e0
      split at e
      · rename_i k' l' e1 e2
        cases e
        obtain ⟨ps, kvs, h1, h2, h3⟩ := Reps.pairs t e2
        cases r with
        | tup hq rs =>
          rename_i a ws
          cases rs with
          | cons ra rs =>
            cases rs with
            | cons rb rs =>
              cases rs
              rename_i va vb
              obtain rfl := Rep.key ra e1
              exact ⟨a :: ps, (k', vb) :: kvs, by rw [h1]; rfl, .cons hq h2, .cons ⟨rfl, rb⟩ h3⟩
      · cases e
    · cases e
theorem RepK.merge {S : Sta} {Hf : Hp} {ads : Nat → Option Addr} : ∀ {kvs : List (Key × V)} {l : List (Key × Dat)} {acc : List (Key × V)} {accD : List (Dat × Dat)}, Paired (fun (kv : Key × V) (q : Key × Dat) => kv.1 = q.1 ∧ Rep S Hf ads kv.2 q.2) kvs l → RepK S Hf ads acc accD → RepK S Hf ads (mergeK acc kvs) (mergeD accD l)
  | _, _, _, _, .nil, h => h
  | _, _, acc, accD, .cons (a := p) (b := q) pq t, h => by
    obtain ⟨e, r⟩ := pq
    show RepK S Hf ads (mergeK (putK acc p.1 p.2) _) (mergeD (putKD accD q.1 q.2) _)
    rw [← e]
    exact RepK.merge t (h.put r)
theorem pn_dictP : PN c (.type "dict") dictP := PN.of fun X hX pins s σ H w ς vs ds r I R va e => by
  unfold dictP at e
  split at e
  · rename_i ds
    cases q : pairsD ds with
    | none => rw [q] at e; cases e
    | some l =>
      rw [q] at e
      cases e
      obtain ⟨v, rfl, hv⟩ := va.one
      obtain ⟨p, ws, rfl, hp, rp⟩ := hv.lst R.sub
      obtain ⟨ps, kvs, rfl, h2, h3⟩ := rp.pairs q
      have h2' : Paired (fun p (kv : Key × V) => SqT X.K H p [kV kv.1, kv.2]) ps kvs := by
        clear h3 rp hp
        induction h2 with
        | nil => exact .nil
        | cons h t ih => exact .cons (by rw [hX.K]; exact R.ext.sqT h) ih
      refine ⟨_, fun v' H' => ∃ l', v' = .ref l' ∧ H l' = none ∧ H' = upd H l' (.dK (mergeK [] kvs)), call_dictP hX.calm, ⟨p, ps, kvs, rfl, by show SqL X.K H p _; rw [hX.K]; exact hp, h2', fun l' hl' => ⟨l', rfl, hl', rfl⟩⟩, fun v' H' u s' ⟨l', e1, e2, e3⟩ I' rv => ?_⟩
      subst e1; subst e3
      cases rv
      exact ne_dicK I' e2 R (RepK.merge h3 .nil)
  · cases e
end
end VS

namespace VS
open PySem L2 PyProof.Rows

section
variable {c : Ctx} {X : Cx} {a b e tg iter : Expr} {fa fb fc : Act ER} {pos : Pos} {es : List Expr} {f : Act ER} {g : Act (List ER)}
/-! ### list(range(..)) -/
theorem reps_range {S : Sta} {Hf : Hp} {ads : Nat → Option Addr} (a b : Int) : Reps S Hf ads (rgV a b) (rangeD a (b - a).toNat) := by
  unfold rgV rangeD
  generalize List.range (b - a).toNat = l
  induction l with
  | nil => exact .nil
  | cons i l ih => exact .cons (.int _) ih
def listRF : List Dat → Option ER
  | [.int j] => if inR j = true ∧ j ≤ 16777216 then some (.tp (.lst (rangeD 0 j.toNat))) else none
  | [.int i, .int j] => if (inR i && inR j) = true ∧ (j - i).toNat ≤ 16777216 then some (.tp (.lst (rangeD i (j - i).toNat))) else none
  | _ => none
theorem ve_listRg {p p2 pos2 : Pos} (ha : VA c (e :: es) g) (hg : GlS c "list") (hm : c.mg "list" = none) (hg2 : GlS c "range") (hm2 : c.mg "range" = none)
    (he : ∀ env, starEach (e :: es) env = (false, eval e env) :: starEach es env) (hpl : ∀ env, (backTo pos2 (starEach es env)).any (·.1) = false)
    (na : ∀ env, starEach [.Call (.Name "range" p2) (e :: es) [] pos2] env = (false, eval (.Call (.Name "range" p2) (e :: es) [] pos2) env) :: starEach [] env) : VE c (.Call (.Name "list" p) [.Call (.Name "range" p2) (e :: es) [] pos2] [] pos) (callA listRF g) := .of fun X hX pins s σ H w ς o ho I R T => by
  have fin : ∀ {i j : Int} {t u v : Tok} {s1 : Shared} {H1 : Hp} {w1 : W} {ς1 : St} {tk : Nat}, Inv X pins σ H1 s1 → Fr w H w1 H1 → Rel c.toSta c.n ς1 σ H1 w1 → RgOk i j →
      wpAny (model X.prog X.w) X.A (call (.type "list") [.ref s1.heap.objs.size]) (NE c X pins σ w H (.ok (.tp (.lst (rangeD i (j - i).toNat))) ς1)) X.xe { s1 with heap := s1.heap.push { cls := .type "range", data := .fields #[.int i t, .int j u, .int 1 v] }, toks := tk } := fun {i j t u v s1 H1 w1 ς1 tk} I1 F1 R1 ok => by
    obtain ⟨b1, b2, b3, b4, b5⟩ := ok
    have I2 : Inv X pins σ H1 { s1 with heap := s1.heap.push { cls := .type "range", data := .fields #[.int i t, .int j u, .int 1 v] }, toks := tk } := I1.kept fun b o e => Heap.get?_push_of_some _ e
    refine call_list_range (n := (j - i).toNat) (I1.ok.hd hX.calm) (IsRange.new ..) (small_one b1 b2 b3 b4) (rangeSize_nat i j) b5 fun h' tk acc c' hk e' hi => ?_
    have hf := I2.hok.fresh (Nat.le_refl _)
    have I3 := I2.laid (t' := tk) hk (Nat.le_refl _) (show ObjOk X.prog X.w _ _ _ (.lst (rgV i j)) from ⟨by rw [rgV_length, sizeLine_eq]; omega, acc.toList, c', vals_rg hi, by rw [Array.toArray_toList]; exact e'⟩)
    exact NE.from F1 (ne_lst I3 hf R1 (reps_range i j))
  refine Call_ (ld_blt I (hg.gl hX) (by rw [hX.mg]; exact hm) boot_list (PyProof.Rows.callWith_type1 (args_cons (Call_ (ld_blt I (hg2.gl hX) (by rw [hX.mg]; exact hm2) boot_range (PyProof.Rows.callWith_type1 (va_then ha hX I R T ho fun rs ς1 us s1 vs H1 w1 h1 I1 rvs F1 R1 T1 ros => ?_) (he _) (hpl _)))) (na _)) (na _)))
  cases e : curL ς1 rs with
  | none => rw [e] at h1; cases h1
  | some ds =>
    rw [e] at h1
    cases e2 : listRF ds with
    | none => simp only [Option.bind_some, e2] at h1; cases h1
    | some ys =>
      simp only [Option.bind_some, e2] at h1
      cases h1
      have va := R1.views ros e
      unfold listRF at e2
      split at e2
      · rename_i j
        split at e2
        · rename_i hj
          cases e2
          obtain ⟨v, rfl, hv⟩ := va.one
          obtain rfl := hv.int
          obtain ⟨q1, q2⟩ := inR_of hj.1
          obtain ⟨u, rfl, t, rfl⟩ := vals1 rvs
          rw [show j.toNat = (j - 0).toNat by rw [Int.sub_zero]]
          exact call_range_1 (args_nil (fin I1 F1 R1 ⟨by omega, by omega, q1, q2, by have := hj.2; omega⟩))
        · cases e2
      · rename_i i j
        split at e2
        · rename_i hj
          have hj1 := hj.1
          rw [Bool.and_eq_true] at hj1
          cases e2
          obtain ⟨v, u, rfl, hv, hu⟩ := va.two
          obtain rfl := hv.int
          obtain rfl := hu.int
          obtain ⟨q1, q2⟩ := inR_of hj1.1
          obtain ⟨q3, q4⟩ := inR_of hj1.2
          obtain ⟨u1, u2, rfl, ⟨t, rfl⟩, ⟨t', rfl⟩⟩ := vals2 rvs
          exact call_range_2 (args_nil (fin I1 F1 R1 ⟨q1, q2, q3, q4, by have := hj.2; omega⟩))
        · cases e2
      · cases e2
end
end VS

/-! the denotations of V20..V26, computed -/
namespace VS
open PySem L2
section
variable {α β : Type} {ς : VS.St}
@[simp] theorem x_asgT (t : Dat → VS.St → Option VS.St) (f : Act ER) : asgT t f ς = Act.bnd f (fun r ς => (VS.settle ς r).bind fun p => (t p.1 p.2).map fun ς' => .ok .nx ς') ς := rfl
@[simp] theorem x_tgTup (n : Nat) (t : List Dat → VS.St → Option VS.St) (ds : List Dat) : tgTup n t (.tup ds) ς = if ds.length = n then t ds ς else none := rfl
@[simp] theorem x_tgNil : tgNil [] ς = some ς := rfl
@[simp] theorem x_tgCons (t : Dat → VS.St → Option VS.St) (u : List Dat → VS.St → Option VS.St) (d : Dat) (ds : List Dat) : tgCons t u (d :: ds) ς = (t d ς).bind (u ds) := rfl
@[simp] theorem x_slA (f : Act ER) (fl fh : Act (Option Int)) : slA f fl fh ς = Act.bnd f (fun r => Act.bnd fl fun l => Act.bnd fh fun h ς => ((cur ς r).bind fun d => slD d l h).map fun q => .ok q ς) ς := rfl
@[simp] theorem x_partA (f : Act ER) : partA f ς = Act.bnd f (fun r ς => match cur ς r with | some (.int i) => some (.ok (some i) ς) | _ => none) ς := rfl
@[simp] theorem x_newD : newD ς = some (.ok (.tp (.dic [])) ς) := rfl
@[simp] theorem x_muA (T : String) (g : Dat → List Dat → Option (Dat × Dat)) (fo : Act ER) (fs : Act (List ER)) : muA T g fo fs ς = Act.bnd fo (fun r => Act.bnd (grdA (ownT T r)) fun _ => Act.bnd fs fun rs ς => match settleL ς rs with
      | none => none
      | some (ds, ς1) => match r with
        | .sl j => match ς1.sl[j]? with
          | some (some (.ow d)) => (g d ds).map fun p => .ok (.fr p.1) (ς1.set j (some (.ow p.2)))
          | _ => none
        | _ => none) ς := rfl
@[simp] theorem x_ownT (T : String) (j : Nat) : ownT T (.sl j) ς = (match ς.sl[j]? with | some (some (.ow d)) => tyM T d | _ => false) := rfl
@[simp] theorem x_tyM_lst (T : String) (ds : List Dat) : tyM T (.lst ds) = decide (T = "list") := rfl
@[simp] theorem x_tyM_dic (T : String) (ds : List (Dat × Dat)) : tyM T (.dic ds) = decide (T = "dict") := rfl
@[simp] theorem x_append (ds : List Dat) (x : Dat) : appendM (.lst ds) [x] = if ds.length < sizeLine then some (.non, .lst (ds ++ [x])) else none := rfl
@[simp] theorem x_starA (t : Dat → VS.St → Option VS.St) (j : Nat) (f : Act ER) : starA t j f ς = Act.bnd f (fun r ς => (VS.settle ς r).bind fun p => match p.1 with
  | .lst (x :: xs) => if xs.length ≤ sizeLine then (t x p.2).map fun ς' => .ok .nx (ς'.set j (some (.ow (.lst xs)))) else none
  | _ => none) ς := rfl
@[simp] theorem x_range3A (fs : Act (List ER)) : range3A fs ς = Act.bnd fs (fun rs ς => ((curL ς rs).bind range3F).map fun ds => .ok ds ς) ς := rfl
@[simp] theorem x_dcA (vs : List Nat) (t : Dat → VS.St → Option VS.St) (ft : Act Bool) (fk fe : Act ER) (fi : Act (List Dat)) : dcA vs t ft fk fe fi ς = Act.bnd fi (fun ds ς => if noOwn ς vs = true then
    match dcRun vs t ft fk fe ds [] (wipeS vs ς) with
    | some (xs, ς') => if xs.length ≤ sizeLine then some (.ok (.tp (.dic xs)) (restore ς vs ς')) else none
    | none => none
  else none) ς := rfl
@[simp] theorem x_dcRun_nil (vs : List Nat) (t : Dat → VS.St → Option VS.St) (ft : Act Bool) (fk fe : Act ER) (acc : List (Dat × Dat)) : dcRun vs t ft fk fe [] acc ς = some (acc, ς) := rfl
end
theorem orE_l {g g' : Dat → Dat → Option ER} {a b : Dat} {r : ER} (h : g a b = some r) : orE g g' a b = some r := by unfold orE; rw [h]
theorem orE_r {g g' : Dat → Dat → Option ER} {a b : Dat} (h : g a b = none) : orE g g' a b = g' a b := by unfold orE; rw [h]
@[simp] theorem ixGD_lst (ds : List Dat) (i : Int) : ixGD (.lst ds) (.int i) = (L2.atI ds i).map .fr := ixG_lst ds i
@[simp] theorem ixGD_tup (ds : List Dat) (i : Int) : ixGD (.tup ds) (.int i) = (L2.atI ds i).map .fr := ixG_tup ds i
@[simp] theorem ixGD_str (x : Str) (i : Int) : ixGD (.str x) (.int i) = ixS (.str x) (.int i) := rfl
@[simp] theorem ixGD_dic (kvs : List (Dat × Dat)) (i : Int) : ixGD (.dic kvs) (.int i) = (getK kvs (.inl i)).map .fr := by
  show (match (getK kvs (.inl i)).map ER.fr with | some r => some r | none => none) = _
  cases getK kvs (.inl i) <;> rfl
@[simp] theorem stG_lst (ds : List Dat) (k : Int) (x : Dat) : stG (.lst ds) (.int k) x = (ixN ds.length k).map fun j => .lst (ds.set j x) := rfl
@[simp] theorem stG_dic (kvs : List (Dat × Dat)) (k : Int) (x : Dat) : stG (.dic kvs) (.int k) x = if kvs.length < sizeLine then some (.dic (putKD kvs (.inl k) x)) else none := by
  show (match (if kvs.length < sizeLine then some (Dat.dic (putKD kvs (.inl k) x)) else none) with | some r => some r | none => none) = _
  split <;> rename_i h <;> split at h <;> simp_all
@[simp] theorem inGD_dic (kvs : List (Dat × Dat)) (i : Int) : inGD (.int i) (.dic kvs) = some (.fr (.bl (getK kvs (.inl i)).isSome)) := rfl
@[simp] theorem ninGD_dic (kvs : List (Dat × Dat)) (i : Int) : ninGD (.int i) (.dic kvs) = some (.fr (.bl (!(getK kvs (.inl i)).isSome))) := rfl
@[simp] theorem eqE_int (i j : Int) : eqE (.int i) (.int j) = some (.fr (.bl (decide (i = j)))) := rfl
@[simp] theorem neE_int (i j : Int) : neE (.int i) (.int j) = some (.fr (.bl (!decide (i = j)))) := rfl
@[simp] theorem eqE_bl (i j : Bool) : eqE (.bl i) (.bl j) = some (.fr (.bl (decide (i = j)))) := rfl
@[simp] theorem neE_bl (i j : Bool) : neE (.bl i) (.bl j) = some (.fr (.bl (!decide (i = j)))) := rfl
@[simp] theorem eqE_str (i j : Str) : eqE (.str i) (.str j) = some (.fr (.bl (decide (i = j)))) := rfl
@[simp] theorem neE_str (i j : Str) : neE (.str i) (.str j) = some (.fr (.bl (!decide (i = j)))) := rfl
@[simp] theorem sortG_ints (ns : List Int) : sortG [.lst (ns.map .int)] = some (.tp (.lst ((isort ns).map .int))) := by
  show (match (intsOf (ns.map .int)).map (fun ns => ER.tp (.lst ((isort ns).map .int))) with | some r => some r | none => _) = _
  rw [intsOf_map]
  rfl
@[simp] theorem setD_ints (ns : List Int) (h : ns.length ≤ 1000) : setD [.lst (ns.map .int)] = some (.tp (.set (canon ns))) := by
  show ((intsOf (ns.map .int)).bind fun ns => if ns.length ≤ 1000 then some (ER.tp (.set (canon ns))) else none) = _
  rw [intsOf_map]
  exact if_pos h
end VS

/-! what a denotation comes to, forward: WP, WF, OQ; simp -dsimp walks straight code and stops at calls and loops -/
namespace VS
open PySem L2
section
variable {α β γ δ : Type}
/-- simp does not go into what a tag names -/
structure Tag {A : Type _} (a : A) : Type where
structure Tag2 {A B : Type _} (a : A) (b : B) : Type where
structure Tag3 {A B C : Type _} (a : A) (b : B) (c : C) : Type where
/-- what is to be shown of a state, as it is written -/
structure At (P : VS.St → Prop) (ς : VS.St) (t : Tag P := ⟨⟩) : Prop where
  h : P ς
abbrev XQ := Exn → VS.St → Prop
def OQ (o : Option γ) (K : γ → Prop) (t : Tag K := ⟨⟩) : Prop := ∃ x, o = some x ∧ K x
def oq (Q : α → VS.St → Prop) (E : XQ) : Out α → Prop
  | .ok a ς => Q a ς
  | .ex x ς => E x ς
def WP (g : Act α) (ς : VS.St) (Q : α → VS.St → Prop) (E : XQ) (t : Tag3 g Q E := ⟨⟩) : Prop := OQ (g ς) (oq Q E)
def WF (F : FD) (args : List VS.Slot) (ob : List OVal) (K : FOut → Prop) (t : Tag2 F K := ⟨⟩) : Prop := OQ (F args ob) K
theorem OQ.mono {o : Option γ} {K K' : γ → Prop} (h : OQ o K) (k : ∀ x, K x → K' x) : OQ o K' := let ⟨x, e, q⟩ := h; ⟨x, e, k x q⟩
theorem WP.mono {g : Act α} {ς : VS.St} {Q Q' : α → VS.St → Prop} {E E' : XQ} (h : WP g ς Q E) (k : ∀ a ς, Q a ς → Q' a ς) (e : ∀ x ς, E x ς → E' x ς) : WP g ς Q' E' := OQ.mono h fun o q => match o, q with
  | .ok a ς, q => k a ς q
  | .ex x ς, q => e x ς q
theorem WP.monoQ {g : Act α} {ς : VS.St} {Q Q' : α → VS.St → Prop} {E : XQ} (h : WP g ς Q E) (k : ∀ a ς, Q a ς → Q' a ς) : WP g ς Q' E := h.mono k fun _ _ z => z
theorem WF.mono {F : FD} {args : List VS.Slot} {ob : List OVal} {K K' : FOut → Prop} (h : WF F args ob K) (k : ∀ o, K o → K' o) : WF F args ob K' := OQ.mono h k
theorem WF.of {F : FD} {args : List VS.Slot} {ob : List OVal} {K : FOut → Prop} {o : FOut} (h : F args ob = some o) (k : K o) : WF F args ob K := ⟨o, h, k⟩
theorem WF.get {F : FD} {args : List VS.Slot} {ob : List OVal} {K : FOut → Prop} (h : WF F args ob K) : ∃ o, F args ob = some o ∧ K o := h
theorem OQ.of {o : Option γ} {K : γ → Prop} {x : γ} (h : o = some x) (k : K x) : OQ o K := ⟨x, h, k⟩
@[simp ↓] theorem OQ_some (x : γ) (K : γ → Prop) : OQ (some x) K = K x := propext ⟨fun ⟨_, e, k⟩ => by cases e; exact k, fun k => ⟨_, rfl, k⟩⟩
@[simp ↓] theorem OQ_none (K : γ → Prop) : OQ none K = False := propext ⟨fun ⟨_, e, _⟩ => (nomatch e), False.elim⟩
@[simp ↓] theorem OQ_map (o : Option γ) (f : γ → δ) (K : δ → Prop) : OQ (o.map f) K = OQ o (fun x => K (f x)) := by cases o with
  | none => rw [Option.map_none, OQ_none, OQ_none]
  | some x => rw [Option.map_some, OQ_some, OQ_some]
@[simp ↓] theorem OQ_bind (o : Option γ) (f : γ → Option δ) (K : δ → Prop) : OQ (o.bind f) K = OQ o (fun x => OQ (f x) K) := by cases o with
  | none => rw [Option.bind_none, OQ_none, OQ_none]
  | some x => rw [Option.bind_some, OQ_some]
@[simp ↓] theorem OQ_ite (c : Prop) [Decidable c] (x : γ) (K : γ → Prop) : OQ (if c then some x else none) K = (c ∧ K x) := by
  by_cases h : c
  · rw [if_pos h, OQ_some]; exact propext ⟨fun k => ⟨h, k⟩, fun k => k.2⟩
  · rw [if_neg h, OQ_none]; exact propext ⟨False.elim, fun k => h k.1⟩
theorem OQ.c {o : Option γ} {K K' : γ → Prop} (h : ∀ x, K x = K' x) : OQ o K = OQ o K' := by
  have e : K = K' := funext h
  subst e; rfl
theorem WP.c {m : Act α} {ς : VS.St} {k k' : α → VS.St → Prop} {E : XQ} (h : ∀ a ς', k a ς' = k' a ς') : WP m ς k E = WP m ς k' E := by
  have e : k = k' := funext fun a => funext fun ς' => h a ς'
  subst e; rfl
@[simp ↓] theorem wp_bnd (m : Act α) (f : α → Act β) (ς : VS.St) (Q : β → VS.St → Prop) (E : XQ) : WP (Act.bnd m f) ς Q E = WP m ς (fun a ς' => WP (f a) ς' Q E) E := by
  unfold WP
  rw [x_bnd]
  cases h : m ς with
  | none => rw [OQ_none, OQ_none]
  | some o => cases o <;> rw [OQ_some] <;> first | rfl | (rw [OQ_some]; rfl)
@[simp ↓] theorem wp_ret (a : α) (ς : VS.St) (Q : α → VS.St → Prop) (E : XQ) : WP (Act.ret a) ς Q E = Q a ς := OQ_some _ _
@[simp ↓] theorem wp_cst (d : Dat) (ς : VS.St) (Q : ER → VS.St → Prop) (E : XQ) : WP (cst d) ς Q E = Q (.fr d) ς := OQ_some _ _
@[simp ↓] theorem wp_newD (ς : VS.St) (Q : ER → VS.St → Prop) (E : XQ) : WP newD ς Q E = Q (.tp (.dic [])) ς := OQ_some _ _
theorem wp_leaf {g : Act α} {ς : VS.St} {Q : α → VS.St → Prop} {E : XQ} (o : Option γ) (f : γ → α) (s : γ → VS.St) (h : g ς = o.map fun y => .ok (f y) (s y)) : WP g ς Q E = OQ o (fun y => Q (f y) (s y)) := by
  unfold WP
  rw [h, OQ_map]
  rfl
/-- what a name gives -/
def varS (i : Nat) : Option (Option VS.Slot) → Option ER
  | some (some (.fr d)) => some (.fr d)
  | some (some (.ow d)) => some (.sl i)
  | _ => none
@[simp] theorem varS_fr (i : Nat) (d : Dat) : varS i (some (some (.fr d))) = some (.fr d) := rfl
@[simp] theorem varS_ow (i : Nat) (d : Dat) : varS i (some (some (.ow d))) = some (.sl i) := rfl
@[simp] theorem varS_no (i : Nat) : varS i (some none) = none := rfl
@[simp ↓] theorem wp_var (i : Nat) (sl : List (Option VS.Slot)) (ob : List OVal) (Q : ER → VS.St → Prop) (E : XQ) : WP (var i) ⟨sl, ob⟩ Q E = OQ (varS i sl[i]?) (fun r => Q r ⟨sl, ob⟩) := by
  refine wp_leaf _ _ _ ?_
  rw [x_var]
  show (match sl[i]? with | some (some (.fr d)) => some (Out.ok (ER.fr d) _) | some (some (.ow d)) => some (.ok (.sl i) _) | _ => none) = _
  unfold varS
  split <;> rfl
@[simp ↓] theorem wp_opD (g : Dat → Dat → Option ER) (r1 r2 : ER) (ς : VS.St) (Q : ER → VS.St → Prop) (E : XQ) : WP (opD g r1 r2) ς Q E = OQ (cur ς r1) (fun a => OQ (cur ς r2) (fun b => OQ (g a b) (fun r => Q r ς))) := by
  have h : opD g r1 r2 ς = ((cur ς r1).bind fun a => (cur ς r2).bind fun b => g a b).map fun r => .ok r ς := by
    rw [x_opD]
    cases cur ς r1 with
    | none => rfl
    | some a => cases cur ς r2 <;> rfl
  rw [wp_leaf _ _ _ h, OQ_bind]
  exact OQ.c fun a => OQ_bind _ _ _

@[simp ↓] theorem wp_op2 (g : Dat → Dat → Option ER) (fa fb : Act ER) (ς : VS.St) (Q : ER → VS.St → Prop) (E : XQ) : WP (op2 g fa fb) ς Q E = WP fa ς (fun r1 ς1 => WP fb ς1 (fun r2 ς2 => WP (opD g r1 r2) ς2 Q E) E) E := by
  show WP (Act.bnd fa _) ς Q E = _
  rw [wp_bnd]
  refine WP.c fun r1 ς1 => ?_
  rw [wp_bnd]
@[simp ↓] theorem wp_op1 (g : Dat → Option ER) (f : Act ER) (ς : VS.St) (Q : ER → VS.St → Prop) (E : XQ) : WP (op1 g f) ς Q E = WP f ς (fun r ς1 => OQ ((cur ς1 r).bind g) fun q => Q q ς1) E := by
  show WP (Act.bnd f _) ς Q E = _
  rw [wp_bnd]
  refine WP.c fun r ς1 => ?_
  exact wp_leaf ((cur ς1 r).bind g) _ _ rfl
@[simp ↓] theorem wp_setA (i : Nat) (f : Act ER) (ς : VS.St) (Q : Flw → VS.St → Prop) (E : XQ) : WP (setA i f) ς Q E = WP f ς (fun r ς1 => OQ (setR ς1 i r) fun ς2 => Q .nx ς2) E := by
  show WP (Act.bnd f _) ς Q E = _
  rw [wp_bnd]
  refine WP.c fun r ς1 => ?_
  exact wp_leaf (setR ς1 i r) _ _ rfl
/-- what follows a statement -/
def flq (g : Act Flw) (Q : Flw → VS.St → Prop) (E : XQ) (t : Tag3 g Q E := ⟨⟩) : Flw → VS.St → Prop
  | .nx, ς => WP g ς Q E
  | k, ς => Q k ς
@[simp ↓] theorem flq_nx (g : Act Flw) (Q : Flw → VS.St → Prop) (E : XQ) (ς : VS.St) : flq g Q E ⟨⟩ .nx ς = WP g ς Q E := rfl
@[simp ↓] theorem flq_bk (g : Act Flw) (Q : Flw → VS.St → Prop) (E : XQ) (ς : VS.St) : flq g Q E ⟨⟩ .bk ς = Q .bk ς := rfl
@[simp ↓] theorem flq_ct (g : Act Flw) (Q : Flw → VS.St → Prop) (E : XQ) (ς : VS.St) : flq g Q E ⟨⟩ .ct ς = Q .ct ς := rfl
@[simp ↓] theorem flq_rt (g : Act Flw) (Q : Flw → VS.St → Prop) (E : XQ) (r : ER) (ς : VS.St) : flq g Q E ⟨⟩ (.rt r) ς = Q (.rt r) ς := rfl
@[simp ↓] theorem wp_seqA (f g : Act Flw) (ς : VS.St) (Q : Flw → VS.St → Prop) (E : XQ) : WP (seqA f g) ς Q E = WP f ς (flq g Q E ⟨⟩) E := by
  show WP (Act.bnd f _) ς Q E = _
  rw [wp_bnd]
  refine WP.c fun k ς' => ?_
  cases k <;> first | rfl | exact wp_ret _ _ _ _
theorem wp_if {c : Bool} {g h : Act α} {ς : VS.St} {Q : α → VS.St → Prop} {E : XQ} : WP (if c = true then g else h) ς Q E = if c = true then WP g ς Q E else WP h ς Q E := by cases c <;> rfl
@[simp ↓] theorem wp_iteA (f : Act Bool) (g h : Act α) (ς : VS.St) (Q : α → VS.St → Prop) (E : XQ) : WP (iteA f g h) ς Q E = WP f ς (fun b ς1 => if b = true then WP g ς1 Q E else WP h ς1 Q E) E := by
  show WP (Act.bnd f _) ς Q E = _
  rw [wp_bnd]
  refine WP.c fun b ς1 => ?_
  cases b <;> first | rfl | exact wp_ret _ _ _ _
@[simp ↓] theorem wp_truA (r : ER) (ς : VS.St) (Q : Bool → VS.St → Prop) (E : XQ) : WP (truA r) ς Q E = OQ ((cur ς r).bind truD) fun b => Q b ς := wp_leaf _ _ _ rfl
@[simp ↓] theorem wp_testA (f : Act ER) (ς : VS.St) (Q : Bool → VS.St → Prop) (E : XQ) : WP (testA f) ς Q E = WP f ς (fun r ς1 => OQ ((cur ς1 r).bind truD) fun b => Q b ς1) E := by
  show WP (Act.bnd f _) ς Q E = _
  rw [wp_bnd]
  refine WP.c fun r ς1 => ?_
  exact wp_leaf ((cur ς1 r).bind truD) _ _ rfl
@[simp ↓] theorem wp_andA (f g : Act Bool) (ς : VS.St) (Q : Bool → VS.St → Prop) (E : XQ) : WP (andA f g) ς Q E = WP f ς (fun b ς1 => if b = true then WP g ς1 Q E else Q false ς1) E := by
  show WP (Act.bnd f _) ς Q E = _
  rw [wp_bnd]
  refine WP.c fun b ς1 => ?_
  cases b <;> first | rfl | exact wp_ret _ _ _ _
@[simp ↓] theorem wp_orA (f g : Act Bool) (ς : VS.St) (Q : Bool → VS.St → Prop) (E : XQ) : WP (orA f g) ς Q E = WP f ς (fun b ς1 => if b = true then Q true ς1 else WP g ς1 Q E) E := by
  show WP (Act.bnd f _) ς Q E = _
  rw [wp_bnd]
  refine WP.c fun b ς1 => ?_
  cases b <;> first | rfl | exact wp_ret _ _ _ _
@[simp ↓] theorem wp_notA (f : Act Bool) (ς : VS.St) (Q : Bool → VS.St → Prop) (E : XQ) : WP (notA f) ς Q E = WP f ς (fun b ς1 => Q (!b) ς1) E := by
  show WP (Act.bnd f _) ς Q E = _
  rw [wp_bnd]
  refine WP.c fun b ς1 => ?_
  first | rfl | exact wp_ret _ _ _ _
@[simp ↓] theorem wp_blA (f : Act Bool) (ς : VS.St) (Q : ER → VS.St → Prop) (E : XQ) : WP (blA f) ς Q E = WP f ς (fun b ς1 => Q (.fr (.bl b)) ς1) E := by
  show WP (Act.bnd f _) ς Q E = _
  rw [wp_bnd]
  refine WP.c fun b ς1 => ?_
  first | rfl | exact wp_ret _ _ _ _
@[simp ↓] theorem wp_andV (f g : Act ER) (ς : VS.St) (Q : ER → VS.St → Prop) (E : XQ) : WP (andV f g) ς Q E = WP f ς (fun r ς1 => WP (truA r) ς1 (fun b ς2 => if b = true then WP g ς2 Q E else Q r ς2) E) E := by
  show WP (Act.bnd f _) ς Q E = _
  rw [wp_bnd]
  refine WP.c fun r ς1 => ?_
  rw [wp_bnd]
  refine WP.c fun b ς2 => ?_
  cases b <;> first | rfl | exact wp_ret _ _ _ _
@[simp ↓] theorem wp_orV (f g : Act ER) (ς : VS.St) (Q : ER → VS.St → Prop) (E : XQ) : WP (orV f g) ς Q E = WP f ς (fun r ς1 => WP (truA r) ς1 (fun b ς2 => if b = true then Q r ς2 else WP g ς2 Q E) E) E := by
  show WP (Act.bnd f _) ς Q E = _
  rw [wp_bnd]
  refine WP.c fun r ς1 => ?_
  rw [wp_bnd]
  refine WP.c fun b ς2 => ?_
  cases b <;> first | rfl | exact wp_ret _ _ _ _
@[simp ↓] theorem wp_notV (f : Act ER) (ς : VS.St) (Q : ER → VS.St → Prop) (E : XQ) : WP (notV f) ς Q E = WP f ς (fun r ς1 => WP (truA r) ς1 (fun b ς2 => Q (.fr (.bl (!b))) ς2) E) E := by
  show WP (Act.bnd f _) ς Q E = _
  rw [wp_bnd]
  refine WP.c fun r ς1 => ?_
  rw [wp_bnd]
  refine WP.c fun b ς2 => ?_
  first | rfl | exact wp_ret _ _ _ _
@[simp ↓] theorem wp_chainT (g1 g2 : Dat → Dat → Option ER) (fa fb fc : Act ER) (ς : VS.St) (Q : Bool → VS.St → Prop) (E : XQ) : WP (chainT g1 g2 fa fb fc) ς Q E = WP fa ς (fun r1 ς1 => WP fb ς1 (fun r2 ς2 => WP (opD g1 r1 r2) ς2 (fun q ς3 => WP (truA q) ς3 (fun b ς4 => if b = true then WP fc ς4 (fun r3 ς5 => WP (opD g2 r2 r3) ς5 (fun q ς6 => OQ ((cur ς6 q).bind truD) fun b => Q b ς6) E) E else Q false ς4) E) E) E) E := by
  show WP (Act.bnd fa _) ς Q E = _
  rw [wp_bnd]
  refine WP.c fun r1 ς1 => ?_
  rw [wp_bnd]
  refine WP.c fun r2 ς2 => ?_
  rw [wp_bnd]
  refine WP.c fun q ς3 => ?_
  rw [wp_bnd]
  refine WP.c fun b ς4 => ?_
  cases b
  · exact wp_ret _ _ _ _
  · show WP (Act.bnd fc _) _ Q E = WP fc _ _ E
    rw [wp_bnd]
    refine WP.c fun r3 ς5 => ?_
    rw [wp_bnd]
    exact WP.c fun q ς6 => wp_truA _ _ _ _
@[simp ↓] theorem wp_chainA (g1 g2 : Dat → Dat → Option ER) (fa fb fc : Act ER) (ς : VS.St) (Q : ER → VS.St → Prop) (E : XQ) : WP (chainA g1 g2 fa fb fc) ς Q E = WP fa ς (fun r1 ς1 => WP fb ς1 (fun r2 ς2 => WP (opD g1 r1 r2) ς2 (fun q ς3 => WP (truA q) ς3 (fun b ς4 => if b = true then WP fc ς4 (fun r3 ς5 => WP (opD g2 r2 r3) ς5 Q E) E else Q q ς4) E) E) E) E := by
  show WP (Act.bnd fa _) ς Q E = _
  rw [wp_bnd]
  refine WP.c fun r1 ς1 => ?_
  rw [wp_bnd]
  refine WP.c fun r2 ς2 => ?_
  rw [wp_bnd]
  refine WP.c fun q ς3 => ?_
  rw [wp_bnd]
  refine WP.c fun b ς4 => ?_
  cases b
  · exact wp_ret _ _ _ _
  · show WP (Act.bnd fc _) _ Q E = WP fc _ _ E
    rw [wp_bnd]
@[simp ↓] theorem wp_retA (p : Nat → Bool) (f : Act ER) (ς : VS.St) (Q : Flw → VS.St → Prop) (E : XQ) : WP (retA p f) ς Q E = WP f ς (fun r ς1 => OQ (outR p ς1 r) fun q => Q (.rt q.1) q.2) E := by
  show WP (Act.bnd f _) ς Q E = _
  rw [wp_bnd]
  refine WP.c fun r ς1 => ?_
  exact wp_leaf (outR p ς1 r) _ _ rfl
@[simp ↓] theorem wp_dropA (f : Act ER) (ς : VS.St) (Q : Flw → VS.St → Prop) (E : XQ) : WP (dropA f) ς Q E = WP f ς (fun r ς1 => Q .nx ς1) E := by
  show WP (Act.bnd f _) ς Q E = _
  rw [wp_bnd]
  refine WP.c fun r ς1 => ?_
  first | rfl | exact wp_ret _ _ _ _
@[simp ↓] theorem wp_consA (f : Act ER) (g : Act (List ER)) (ς : VS.St) (Q : List ER → VS.St → Prop) (E : XQ) : WP (consA f g) ς Q E = WP f ς (fun r ς1 => WP g ς1 (fun rs ς2 => Q (r :: rs) ς2) E) E := by
  show WP (Act.bnd f _) ς Q E = _
  rw [wp_bnd]
  refine WP.c fun r ς1 => ?_
  rw [wp_bnd]
  refine WP.c fun rs ς2 => ?_
  first | rfl | exact wp_ret _ _ _ _
@[simp ↓] theorem wp_callA (g : List Dat → Option ER) (fs : Act (List ER)) (ς : VS.St) (Q : ER → VS.St → Prop) (E : XQ) : WP (callA g fs) ς Q E = WP fs ς (fun rs ς1 => OQ (curL ς1 rs) fun ds => OQ (g ds) fun r => Q r ς1) E := by
  show WP (Act.bnd fs _) ς Q E = _
  rw [wp_bnd]
  refine WP.c fun rs ς1 => ?_
  refine (wp_leaf ((curL ς1 rs).bind g) _ _ rfl).trans ?_
  rw [OQ_bind]
@[simp ↓] theorem wp_lstA (g : Act (List ER)) (ς : VS.St) (Q : ER → VS.St → Prop) (E : XQ) : WP (lstA g) ς Q E = WP g ς (fun rs ς1 => OQ (settleL ς1 rs) fun p => p.1.length ≤ sizeLine ∧ Q (.tp (.lst p.1)) p.2) E := by
  show WP (Act.bnd g _) ς Q E = _
  rw [wp_bnd]
  refine WP.c fun rs ς1 => ?_
  show OQ ((settleL ς1 rs).bind _) (oq Q E) = _
  rw [OQ_bind]
  refine OQ.c fun p => ?_
  exact OQ_ite _ _ _
@[simp ↓] theorem wp_tupA (g : Act (List ER)) (ς : VS.St) (Q : ER → VS.St → Prop) (E : XQ) : WP (tupA g) ς Q E = WP g ς (fun rs ς1 => OQ (settleL ς1 rs) fun p => p.1.length ≤ sizeLine ∧ Q (.fr (.tup p.1)) p.2) E := by
  show WP (Act.bnd g _) ς Q E = _
  rw [wp_bnd]
  refine WP.c fun rs ς1 => ?_
  show OQ ((settleL ς1 rs).bind _) (oq Q E) = _
  rw [OQ_bind]
  refine OQ.c fun p => ?_
  exact OQ_ite _ _ _
@[simp ↓] theorem wp_rangeA (fs : Act (List ER)) (ς : VS.St) (Q : List Dat → VS.St → Prop) (E : XQ) : WP (rangeA fs) ς Q E = WP fs ς (fun rs ς1 => OQ (curL ς1 rs) fun ds => OQ (rangeF ds) fun r => Q r ς1) E := by
  show WP (Act.bnd fs _) ς Q E = _
  rw [wp_bnd]
  refine WP.c fun rs ς1 => ?_
  refine (wp_leaf ((curL ς1 rs).bind rangeF) _ _ rfl).trans ?_
  rw [OQ_bind]
@[simp ↓] theorem wp_range3A (fs : Act (List ER)) (ς : VS.St) (Q : List Dat → VS.St → Prop) (E : XQ) : WP (range3A fs) ς Q E = WP fs ς (fun rs ς1 => OQ (curL ς1 rs) fun ds => OQ (range3F ds) fun r => Q r ς1) E := by
  show WP (Act.bnd fs _) ς Q E = _
  rw [wp_bnd]
  refine WP.c fun rs ς1 => ?_
  refine (wp_leaf ((curL ς1 rs).bind range3F) _ _ rfl).trans ?_
  rw [OQ_bind]
@[simp ↓] theorem wp_iterA (f : Act ER) (ς : VS.St) (Q : List Dat → VS.St → Prop) (E : XQ) : WP (iterA f) ς Q E = WP f ς (fun r ς1 => OQ (VS.settle ς1 r) fun p => OQ (walkD p.1) fun ds => Q ds p.2) E := by
  show WP (Act.bnd f _) ς Q E = _
  rw [wp_bnd]
  refine WP.c fun r ς1 => ?_
  show OQ ((VS.settle ς1 r).bind _) (oq Q E) = _
  rw [OQ_bind]
  refine OQ.c fun p => ?_
  exact OQ_map _ _ _
@[simp ↓] theorem wp_stA (g : Dat → Dat → Dat → Option Dat) (f fo fi : Act ER) (ς : VS.St) (Q : Flw → VS.St → Prop) (E : XQ) : WP (stA g f fo fi) ς Q E = WP f ς (fun r ς1 => WP fo ς1 (fun ro ς2 => WP fi ς2 (fun ri ς3 => WP (stIx g r ro ri) ς3 Q E) E) E) E := by
  show WP (Act.bnd f _) ς Q E = _
  rw [wp_bnd]
  refine WP.c fun r ς1 => ?_
  rw [wp_bnd]
  refine WP.c fun ro ς2 => ?_
  rw [wp_bnd]
/-- o[i] = v -/
def stO (g : Dat → Dat → Dat → Option Dat) (r ro ri : ER) (ς : VS.St) : Option VS.St := match settleL ς [r, ri] with
  | some ([x, k], ς') => (match ro with
    | .sl j => (match ς'.sl[j]? with
      | some (some (.ow d)) => (g d k x).map fun d' => ς'.set j (some (.ow d'))
      | _ => none)
    | _ => none)
  | _ => none
@[simp] theorem x_stO (g : Dat → Dat → Dat → Option Dat) (r ri : ER) (j : Nat) (ς : VS.St) : stO g r (.sl j) ri ς = (match settleL ς [r, ri] with
  | some ([x, k], ς') => (match ς'.sl[j]? with
      | some (some (.ow d)) => (g d k x).map fun d' => ς'.set j (some (.ow d'))
      | _ => none)
  | _ => none) := rfl
@[simp ↓] theorem wp_stIx (g : Dat → Dat → Dat → Option Dat) (r ro ri : ER) (ς : VS.St) (Q : Flw → VS.St → Prop) (E : XQ) : WP (stIx g r ro ri) ς Q E = OQ (stO g r ro ri ς) fun ς' => Q .nx ς' := by
  refine wp_leaf _ _ _ ?_
  unfold stIx stO
  generalize settleL ς [r, ri] = o
  rcases o with _ | ⟨ds, ς'⟩
  · rfl
  · rcases ds with _ | ⟨x, _ | ⟨k, _ | ⟨_, _⟩⟩⟩ <;> try rfl
    cases ro with
    | fr d => rfl
    | tp d => rfl
    | sl j =>
      show (match ς'.sl[j]? with | some (some (.ow d)) => _ | _ => none) = Option.map _ (match ς'.sl[j]? with | some (some (.ow d)) => _ | _ => none)
      generalize ς'.sl[j]? = o
      rcases o with _ | _ | s <;> try rfl
      cases s with
      | fr d => rfl
      | ow d => exact (Option.map_map ..).symm
@[simp ↓] theorem wp_parA (is : List Nat) (g : Act (List ER)) (ς : VS.St) (Q : Flw → VS.St → Prop) (E : XQ) : WP (parA is g) ς Q E = WP g ς (fun rs ς1 => OQ (deslL ς1 rs) fun p => OQ (setRL p.2 is p.1) fun ς' => Q .nx ς') E := by
  show WP (Act.bnd g _) ς Q E = _
  rw [wp_bnd]
  refine WP.c fun rs ς1 => ?_
  show OQ ((deslL ς1 rs).bind _) (oq Q E) = _
  rw [OQ_bind]
  refine OQ.c fun p => ?_
  exact OQ_map _ _ _
@[simp ↓] theorem wp_asgT (t : Dat → VS.St → Option VS.St) (f : Act ER) (ς : VS.St) (Q : Flw → VS.St → Prop) (E : XQ) : WP (asgT t f) ς Q E = WP f ς (fun r ς1 => OQ (VS.settle ς1 r) fun p => OQ (t p.1 p.2) fun ς' => Q .nx ς') E := by
  show WP (Act.bnd f _) ς Q E = _
  rw [wp_bnd]
  refine WP.c fun r ς1 => ?_
  show OQ ((VS.settle ς1 r).bind _) (oq Q E) = _
  rw [OQ_bind]
  refine OQ.c fun p => ?_
  exact OQ_map _ _ _
def intO : Dat → Option Int
  | .int i => some i
  | _ => none
@[simp] theorem intO_int (i : Int) : intO (.int i) = some i := rfl
@[simp ↓] theorem wp_partA (f : Act ER) (ς : VS.St) (Q : Option Int → VS.St → Prop) (E : XQ) : WP (partA f) ς Q E = WP f ς (fun r ς1 => OQ ((cur ς1 r).bind intO) fun i => Q (some i) ς1) E := by
  show WP (Act.bnd f _) ς Q E = _
  rw [wp_bnd]
  refine WP.c fun r ς1 => ?_
  refine wp_leaf ((cur ς1 r).bind intO) _ _ ?_
  show (match cur ς1 r with | some (.int i) => some (Out.ok (some i) ς1) | _ => none) = _
  cases cur ς1 r with
  | none => rfl
  | some d => cases d <;> rfl
@[simp ↓] theorem wp_slA (f : Act ER) (fl fh : Act (Option Int)) (ς : VS.St) (Q : ER → VS.St → Prop) (E : XQ) : WP (slA f fl fh) ς Q E = WP f ς (fun r ς1 => WP fl ς1 (fun l ς2 => WP fh ς2 (fun h ς3 => OQ ((cur ς3 r).bind fun d => slD d l h) fun q => Q q ς3) E) E) E := by
  show WP (Act.bnd f _) ς Q E = _
  rw [wp_bnd]
  refine WP.c fun r ς1 => ?_
  rw [wp_bnd]
  refine WP.c fun l ς2 => ?_
  rw [wp_bnd]
  refine WP.c fun h ς3 => ?_
  exact wp_leaf ((cur ς3 r).bind fun d => slD d l h) _ _ rfl
@[simp ↓] theorem wp_grdA (p : VS.St → Bool) (ς : VS.St) (Q : Unit → VS.St → Prop) (E : XQ) : WP (grdA p) ς Q E = (p ς = true ∧ Q () ς) := OQ_ite _ _ _
@[simp ↓] theorem wp_mthA (T : String) (g : List Dat → Option ER) (fo : Act ER) (fs : Act (List ER)) (ς : VS.St) (Q : ER → VS.St → Prop) (E : XQ) : WP (mthA T g fo fs) ς Q E = WP fo ς (fun r ς1 => ((cur ς1 r).map (tyD T)).getD false = true ∧ WP fs ς1 (fun rs ς2 => OQ ((curL ς2 (r :: rs)).bind g) fun q => Q q ς2) E) E := by
  show WP (Act.bnd fo _) ς Q E = _
  rw [wp_bnd]
  refine WP.c fun r ς1 => ?_
  rw [wp_bnd, wp_grdA]
  congr 1
  rw [wp_bnd]
  exact WP.c fun rs ς2 => wp_leaf ((curL ς2 (r :: rs)).bind g) _ _ rfl
/-- a container of one's own changed by a method -/
def muO (g : Dat → List Dat → Option (Dat × Dat)) (r : ER) (rs : List ER) (ς : VS.St) : Option (ER × VS.St) := match settleL ς rs with
      | none => none
      | some (ds, ς1) => match r with
        | .sl j => match ς1.sl[j]? with
          | some (some (.ow d)) => (g d ds).map fun p => (.fr p.1, ς1.set j (some (.ow p.2)))
          | _ => none
        | _ => none
@[simp] theorem x_muO (g : Dat → List Dat → Option (Dat × Dat)) (j : Nat) (rs : List ER) (ς : VS.St) : muO g (.sl j) rs ς = (match settleL ς rs with
      | none => none
      | some (ds, ς1) => match ς1.sl[j]? with
          | some (some (.ow d)) => (g d ds).map fun p => (.fr p.1, ς1.set j (some (.ow p.2)))
          | _ => none) := rfl
@[simp ↓] theorem wp_muA (T : String) (g : Dat → List Dat → Option (Dat × Dat)) (fo : Act ER) (fs : Act (List ER)) (ς : VS.St) (Q : ER → VS.St → Prop) (E : XQ) : WP (muA T g fo fs) ς Q E = WP fo ς (fun r ς1 => ownT T r ς1 = true ∧ WP fs ς1 (fun rs ς2 => OQ (muO g r rs ς2) fun p => Q p.1 p.2) E) E := by
  show WP (Act.bnd fo _) ς Q E = _
  rw [wp_bnd]
  refine WP.c fun r ς1 => ?_
  rw [wp_bnd, wp_grdA]
  congr 1
  rw [wp_bnd]
  refine WP.c fun rs ς2 => wp_leaf _ _ _ ?_
  show (match settleL ς2 rs with | none => none | some (ds, ς1) => _) = _
  unfold muO
  generalize settleL ς2 rs = o
  rcases o with _ | ⟨ds, ς'⟩
  · rfl
  · cases r with
    | fr d => rfl
    | tp d => rfl
    | sl j =>
      show (match ς'.sl[j]? with | some (some (.ow d)) => _ | _ => none) = Option.map _ (match ς'.sl[j]? with | some (some (.ow d)) => _ | _ => none)
      generalize ς'.sl[j]? = o
      rcases o with _ | _ | s <;> try rfl
      cases s with
      | fr d => rfl
      | ow d =>
        show Option.map _ (g d ds) = Option.map _ (Option.map _ (g d ds))
        rw [Option.map_map]; rfl
def starO : Dat → Option (Dat × List Dat)
  | .lst (x :: xs) => some (x, xs)
  | _ => none
@[simp] theorem starO_cons (x : Dat) (xs : List Dat) : starO (.lst (x :: xs)) = some (x, xs) := rfl
@[simp ↓] theorem wp_starA (t : Dat → VS.St → Option VS.St) (j : Nat) (f : Act ER) (ς : VS.St) (Q : Flw → VS.St → Prop) (E : XQ) : WP (starA t j f) ς Q E = WP f ς (fun r ς1 => OQ (VS.settle ς1 r) fun p => OQ (starO p.1) fun q => q.2.length ≤ sizeLine ∧ OQ (t q.1 p.2) fun ς' => Q .nx (ς'.set j (some (.ow (.lst q.2))))) E := by
  show WP (Act.bnd f _) ς Q E = _
  rw [wp_bnd]
  refine WP.c fun r ς1 => ?_
  show OQ ((VS.settle ς1 r).bind _) (oq Q E) = _
  rw [OQ_bind]
  refine OQ.c fun p => ?_
  cases p.1 with
  | lst ds => cases ds with
    | nil => exact (OQ_none _).trans (OQ_none _).symm
    | cons x xs =>
      show OQ (if xs.length ≤ sizeLine then _ else none) _ = OQ (some (x, xs)) _
      rw [OQ_some]
      by_cases h : xs.length ≤ sizeLine
      · rw [if_pos h, OQ_map]; simp only [h, true_and]; rfl
      · rw [if_neg h, OQ_none]; simp only [h, false_and]
  | _ => exact (OQ_none _).trans (OQ_none _).symm
@[simp ↓] theorem wp_lcA (vs : List Nat) (t : Dat → VS.St → Option VS.St) (ft : Act Bool) (fe : Act ER) (fi : Act (List Dat)) (ς : VS.St) (Q : ER → VS.St → Prop) (E : XQ) : WP (lcA vs t ft fe fi) ς Q E = WP fi ς (fun ds ς1 => noOwn ς1 vs = true ∧ OQ (lcRun vs t ft fe ds (wipeS vs ς1)) fun p => p.1.length ≤ sizeLine ∧ Q (.tp (.lst p.1)) (restore ς1 vs p.2)) E := by
  show WP (Act.bnd fi _) ς Q E = _
  rw [wp_bnd]
  refine WP.c fun ds ς1 => ?_
  show OQ (if noOwn ς1 vs = true then _ else none) (oq Q E) = _
  by_cases h : noOwn ς1 vs = true
  · rw [if_pos h]
    simp only [h, true_and]
    cases lcRun vs t ft fe ds (wipeS vs ς1) with
    | none => rw [OQ_none, OQ_none]
    | some p => rw [OQ_some]; exact OQ_ite _ _ _
  · rw [if_neg h, OQ_none]; simp only [h, false_and]; simp
@[simp ↓] theorem wp_dcA (vs : List Nat) (t : Dat → VS.St → Option VS.St) (ft : Act Bool) (fk fe : Act ER) (fi : Act (List Dat)) (ς : VS.St) (Q : ER → VS.St → Prop) (E : XQ) : WP (dcA vs t ft fk fe fi) ς Q E = WP fi ς (fun ds ς1 => noOwn ς1 vs = true ∧ OQ (dcRun vs t ft fk fe ds [] (wipeS vs ς1)) fun p => p.1.length ≤ sizeLine ∧ Q (.tp (.dic p.1)) (restore ς1 vs p.2)) E := by
  show WP (Act.bnd fi _) ς Q E = _
  rw [wp_bnd]
  refine WP.c fun ds ς1 => ?_
  show OQ (if noOwn ς1 vs = true then _ else none) (oq Q E) = _
  by_cases h : noOwn ς1 vs = true
  · rw [if_pos h]
    simp only [h, true_and]
    cases dcRun vs t ft fk fe ds [] (wipeS vs ς1) with
    | none => rw [OQ_none, OQ_none]
    | some p => rw [OQ_some]; exact OQ_ite _ _ _
  · rw [if_neg h, OQ_none]; simp only [h, false_and]; simp
/-- what a call leaves -/
def passK (ς : VS.St) (rs : List ER) (args : List VS.Slot) (Q : ER → VS.St → Prop) (E : XQ) (t : Tag3 (ς, rs, args) Q E := ⟨⟩) : FOut → Prop
  | .ok r outs ob => frOk args outs = true ∧ Q r (putBack { ς with ob := ob } rs outs)
  | .ex x outs ob => frOk args outs = true ∧ E x (putBack { ς with ob := ob } rs outs)
@[simp ↓] theorem passK_ok (ς : VS.St) (rs : List ER) (args : List VS.Slot) (Q : ER → VS.St → Prop) (E : XQ) (r : ER) (outs : List VS.Slot) (ob : List OVal) : passK ς rs args Q E ⟨⟩ (.ok r outs ob) = (frOk args outs = true ∧ Q r (putBack { ς with ob := ob } rs outs)) := rfl
@[simp ↓] theorem passK_ex (ς : VS.St) (rs : List ER) (args : List VS.Slot) (Q : ER → VS.St → Prop) (E : XQ) (x : Exn) (outs : List VS.Slot) (ob : List OVal) : passK ς rs args Q E ⟨⟩ (.ex x outs ob) = (frOk args outs = true ∧ E x (putBack { ς with ob := ob } rs outs)) := rfl
@[simp ↓] theorem wp_passF (F : FD) (io : List Bool) (rs : List ER) (ς : VS.St) (Q : ER → VS.St → Prop) (E : XQ) : WP (passF F io rs) ς Q E = OQ (settleIO ς io rs) (fun p => OQ (argsO p.2 p.1) fun args => (slots p.1).Nodup ∧ WF F args p.2.ob (passK p.2 p.1 args Q E ⟨⟩)) := by
  unfold WP
  rw [x_passF]
  cases settleIO ς io rs with
  | none => rw [OQ_none, OQ_none]
  | some p =>
    rw [OQ_some]
    show OQ (match argsO p.2 p.1 with | none => none | some args => _) _ = _
    cases argsO p.2 p.1 with
    | none => rw [OQ_none, OQ_none]
    | some args =>
      rw [OQ_some]
      show OQ (if (slots p.1).Nodup then _ else none) _ = _
      by_cases h : (slots p.1).Nodup
      · rw [if_pos h]
        simp only [h, true_and]
        unfold WF
        cases F args p.2.ob with
        | none => rw [OQ_none, OQ_none]
        | some o =>
          rw [OQ_some]
          cases o with
          | ok r outs ob =>
            show OQ (if frOk args outs = true then _ else none) _ = _
            rw [OQ_ite, passK_ok]; rfl
          | ex x outs ob =>
            show OQ (if frOk args outs = true then _ else none) _ = _
            rw [OQ_ite, passK_ex]; rfl
      · rw [if_neg h, OQ_none]; simp only [h, false_and]
@[simp ↓] theorem wp_defA (np : Nat) (F : FD) (io : List Bool) (dd : List Dat) (g : Act (List ER)) (ς : VS.St) (Q : ER → VS.St → Prop) (E : XQ) : WP (defA np F io dd g) ς Q E = WP g ς (fun rs ς1 => rs.length + dd.length = np ∧ WP (passF F io (rs ++ dd.map .fr)) ς1 Q E) E := by
  show WP (Act.bnd g _) ς Q E = _
  rw [wp_bnd]
  refine WP.c fun rs ς1 => ?_
  show OQ (if rs.length + dd.length = np then _ else none) _ = _
  by_cases h : rs.length + dd.length = np
  · rw [if_pos h]; simp only [h, true_and]; rfl
  · rw [if_neg h, OQ_none]; simp only [h, false_and]
/-- what a def leaves -/
def rK (args : List VS.Slot) (K : FOut → Prop) (t : Tag2 args K := ⟨⟩) : Flw → VS.St → Prop
  | .nx, ς => OQ (outsO ς args 0) fun outs => K (.ok (.fr .non) outs ς.ob)
  | .rt r, ς => OQ (outsO ς args 0) fun outs => K (.ok r outs ς.ob)
  | _, _ => False
def rE (args : List VS.Slot) (K : FOut → Prop) (t : Tag2 args K := ⟨⟩) : XQ := fun x ς => OQ (outsO ς args 0) fun outs => K (.ex x outs ς.ob)
@[simp ↓] theorem rK_nx (args : List VS.Slot) (K : FOut → Prop) (ς : VS.St) : rK args K ⟨⟩ .nx ς = OQ (outsO ς args 0) fun outs => K (.ok (.fr .non) outs ς.ob) := rfl
@[simp ↓] theorem rK_rt (args : List VS.Slot) (K : FOut → Prop) (ς : VS.St) (r : ER) : rK args K ⟨⟩ (.rt r) ς = OQ (outsO ς args 0) fun outs => K (.ok r outs ς.ob) := rfl
@[simp ↓] theorem rE_ex (args : List VS.Slot) (K : FOut → Prop) (ς : VS.St) (x : Exn) : rE args K ⟨⟩ x ς = OQ (outsO ς args 0) fun outs => K (.ex x outs ς.ob) := rfl
@[simp ↓] theorem wf_runB (n np : Nat) (ro : Nat → Bool) (g : Act Flw) (args : List VS.Slot) (ob : List OVal) (K : FOut → Prop) : WF (runB n np ro g) args ob K = (args.length = np ∧ roOk ro args 0 = true ∧ WP g ⟨args.map some ++ List.replicate (n - args.length) none, ob⟩ (rK args K ⟨⟩) (rE args K ⟨⟩)) := by
  unfold WF
  rw [x_runB]
  by_cases h : args.length = np ∧ roOk ro args 0 = true
  · rw [if_pos h]
    unfold WP
    cases g ⟨args.map some ++ List.replicate (n - args.length) none, ob⟩ with
    | none => rw [OQ_none, OQ_none]; simp
    | some o =>
      rw [OQ_some]
      simp only [h.1, h.2, true_and]
      cases o with
      | ok k ς => cases k with
        | nx => exact OQ_map _ _ _
        | rt r => exact OQ_map _ _ _
        | bk => rw [OQ_none]; rfl
        | ct => rw [OQ_none]; rfl
      | ex x ς => exact OQ_map _ _ _
  · rw [if_neg h, OQ_none]
    apply propext
    exact ⟨False.elim, fun ⟨a, b, _⟩ => h ⟨a, b⟩⟩
/-- what a turn leaves: J for the next one -/
def lpQ (J : VS.St → Prop) (Q : Flw → VS.St → Prop) (t : Tag2 J Q := ⟨⟩) : Flw → VS.St → Prop
  | .nx, ς => J ς
  | .ct, ς => J ς
  | .bk, ς => Q .nx ς
  | .rt r, ς => Q (.rt r) ς
@[simp ↓] theorem lpQ_nx (J : VS.St → Prop) (Q : Flw → VS.St → Prop) (ς : VS.St) : lpQ J Q ⟨⟩ .nx ς = J ς := rfl
@[simp ↓] theorem lpQ_ct (J : VS.St → Prop) (Q : Flw → VS.St → Prop) (ς : VS.St) : lpQ J Q ⟨⟩ .ct ς = J ς := rfl
@[simp ↓] theorem lpQ_bk (J : VS.St → Prop) (Q : Flw → VS.St → Prop) (ς : VS.St) : lpQ J Q ⟨⟩ .bk ς = Q .nx ς := rfl
@[simp ↓] theorem lpQ_rt (J : VS.St → Prop) (Q : Flw → VS.St → Prop) (r : ER) (ς : VS.St) : lpQ J Q ⟨⟩ (.rt r) ς = Q (.rt r) ς := rfl
theorem wp_lp {g h : Act Flw} {J : VS.St → Prop} {ς : VS.St} {Q : Flw → VS.St → Prop} {E : XQ} (hg : WP g ς (lpQ J Q) E) (hJ : ∀ ς', J ς' → WP h ς' Q E) : WP (Act.bnd g fun k => match k with
      | .nx => h
      | .ct => h
      | .bk => Act.ret .nx
      | .rt r => Act.ret (.rt r)) ς Q E := by
  rw [wp_bnd]
  refine hg.monoQ fun k ς' q => ?_
  cases k with
    | nx => exact hJ _ q
    | ct => exact hJ _ q
    | bk => exact (wp_ret _ _ _ _).mpr q
    | rt r => exact (wp_ret _ _ _ _).mpr q
/-- a loop over items, by its invariant: what holds behind the first ones -/
theorem wp_for {enc : β → Dat} {t : Dat → VS.St → Option VS.St} {g : Act Flw} {xs : List β} {ς : VS.St} {Q : Flw → VS.St → Prop} {E : XQ} (I : List β → VS.St → Prop) (h0 : I [] ς)
    (hs : ∀ (done : List β) (x : β) (rest : List β) (ς' : VS.St), xs = done ++ x :: rest → I done ς' → OQ (t (enc x) ς') fun ς1 => WP g ς1 (lpQ (fun ς => At (I (done ++ [x])) ς) Q) E)
    (hd : ∀ ς', I xs ς' → Q .nx ς') : WP (forA t g (xs.map enc)) ς Q E := by
  have go : ∀ (rest done : List β), xs = done ++ rest → ∀ ς, I done ς → WP (forA t g (rest.map enc)) ς Q E := fun rest => by
    induction rest with
    | nil => exact fun done e ς h => (wp_ret _ _ _ _).mpr (hd ς (by rw [e, List.append_nil]; exact h))
    | cons x rest ih =>
      intro done e ς h
      obtain ⟨ς1, e1, h1⟩ := hs done x rest ς e h
      unfold WP
      rw [List.map_cons, x_forA_cons, e1]
      exact wp_lp h1 fun ς' hJ => ih (done ++ [x]) (by rw [e]; simp) ς' hJ.h
  exact go xs [] rfl ς h0
/-- a while loop, by an invariant with a ghost and its measure -/
theorem wp_while {ft : Act Bool} {g : Act Flw} {n : Nat} {ς : VS.St} {Q : Flw → VS.St → Prop} {E : XQ} (I : γ → VS.St → Prop) (μ : γ → Nat) {c : γ} (h0 : I c ς) (hn : μ c < n)
    (hs : ∀ (c : γ) (ς' : VS.St), I c ς' → WP ft ς' (fun b ς1 => if b = true then WP g ς1 (lpQ (fun ς => At (fun ς2 => ∃ c', I c' ς2 ∧ μ c' < μ c) ς) Q) E else Q .nx ς1) E) : WP (whileA ft g n) ς Q E := by
  induction n generalizing c ς with
  | zero => omega
  | succ n ih =>
    unfold WP
    rw [x_whileA]
    show WP (Act.bnd ft _) ς Q E
    rw [wp_bnd]
    refine (hs c ς h0).monoQ fun b ς1 q => ?_
    cases b with
    | false => exact (wp_ret _ _ _ _).mpr q
    | true => exact wp_lp q fun ς' ⟨⟨c', h1, h2⟩⟩ => ih h1 (by omega)
def noE : XQ := fun _ _ => False
theorem WP.no {g : Act α} {ς : VS.St} {Q : α → VS.St → Prop} (h : WP g ς Q noE) : ∃ a ς', g ς = some (.ok a ς') ∧ Q a ς' := by
  obtain ⟨o, e, q⟩ := h
  cases o with
  | ok a ς' => exact ⟨a, ς', e, q⟩
  | ex x ς' => exact q.elim
/-- a comprehension, by its invariant: what holds behind the first ones, what stands in the list by then -/
theorem lc_inv {enc : β → Dat} {vs : List Nat} {t : Dat → VS.St → Option VS.St} {ft : Act Bool} {fe : Act ER} {xs : List β} {ς : VS.St} {K : List Dat × VS.St → Prop} (I : List β → List Dat → VS.St → Prop) (h0 : I [] [] ς)
    (hs : ∀ (done : List β) (x : β) (rest : List β) (out : List Dat) (ς' : VS.St), xs = done ++ x :: rest → I done out ς' → OQ (t (enc x) ς') fun ς1 => WP ft ς1 (fun b ς2 => if b = true then WP fe ς2 (fun r ς3 => OQ (VS.settle ς3 r) fun p => At (I (done ++ [x]) (out ++ [p.1])) (wipeS vs p.2)) noE else At (I (done ++ [x]) out) (wipeS vs ς2)) noE)
    (hd : ∀ out ς', I xs out ς' → K (out, ς')) : OQ (lcRun vs t ft fe (xs.map enc) ς) K := by
  have go : ∀ (rest done : List β) (out : List Dat), xs = done ++ rest → ∀ ς, I done out ς → OQ (lcRun vs t ft fe (rest.map enc) ς) fun p => I xs (out ++ p.1) p.2 := fun rest => by
    induction rest with
    | nil => exact fun done out e ς h => ⟨([], ς), rfl, by show I xs (out ++ []) ς; rw [e, List.append_nil, List.append_nil]; exact h⟩
    | cons x rest ih =>
      intro done out e ς h
      obtain ⟨ς1, e1, q⟩ := hs done x rest out ς e h
      obtain ⟨b, ς2, e2, q⟩ := q.no
      rw [List.map_cons, x_lcRun_cons, e1]
      simp only
      rw [e2]
      cases b with
      | false => exact ih (done ++ [x]) out (by rw [e]; simp) _ q.h
      | true =>
        simp only [if_true] at q
        obtain ⟨r, ς3, e3, p, e4, q⟩ := q.no
        simp only
        rw [e3]
        simp only
        rw [e4]
        obtain ⟨p', e5, q'⟩ := ih (done ++ [x]) (out ++ [p.1]) (by rw [e]; simp) _ q.h
        refine ⟨(p.1 :: p'.1, p'.2), ?_, by simpa using q'⟩
        simp only
        rw [e5]
        rfl
  exact (go xs [] [] rfl ς h0).mono fun p q => hd p.1 p.2 (by simpa using q)
/-- a comprehension that changes nothing -/
theorem lc_map {enc : β → Dat} {vs : List Nat} {t : Dat → VS.St → Option VS.St} {ft : Act Bool} {fe : Act ER} {xs : List β} {ς : VS.St} {K : List Dat × VS.St → Prop} (p : β → Bool) (f : β → Dat)
    (hs : ∀ x ∈ xs, OQ (t (enc x) ς) fun ς1 => WP ft ς1 (fun b ς2 => b = p x ∧ if p x = true then WP fe ς2 (fun r ς3 => OQ (VS.settle ς3 r) fun q => q.1 = f x ∧ wipeS vs q.2 = ς) noE else wipeS vs ς2 = ς) noE)
    (hd : K ((xs.filter p).map f, ς)) : OQ (lcRun vs t ft fe (xs.map enc) ς) K := by
  refine lc_inv (fun done out ς' => ς' = ς ∧ out = (done.filter p).map f) ⟨rfl, rfl⟩ (fun done x rest out ς' e h => ?_) (fun out ς' h => by rw [h.1, h.2]; exact hd)
  obtain ⟨h, rfl⟩ := h
  subst h
  refine (hs x (by rw [e]; simp)).mono fun ς1 q => q.monoQ fun b ς2 q2 => ?_
  obtain ⟨rfl, q2⟩ := q2
  by_cases h : p x = true
  · rw [if_pos h] at q2 ⊢
    exact q2.monoQ fun r ς3 q => OQ.mono q fun z ⟨z1, z2⟩ => ⟨z2, by simp [h, z1]⟩
  · rw [if_neg h] at q2 ⊢
    exact ⟨q2, by simp [h]⟩
def keyO : ER → Option Key
  | .fr dk => keyD dk
  | _ => none
@[simp] theorem keyO_fr (d : Dat) : keyO (.fr d) = keyD d := rfl
theorem dc_inv {enc : β → Dat} {vs : List Nat} {t : Dat → VS.St → Option VS.St} {ft : Act Bool} {fk fe : Act ER} {xs : List β} {ς : VS.St} {K : List (Dat × Dat) × VS.St → Prop} (I : List β → List (Dat × Dat) → VS.St → Prop) (h0 : I [] [] ς)
    (hs : ∀ (done : List β) (x : β) (rest : List β) (out : List (Dat × Dat)) (ς' : VS.St), xs = done ++ x :: rest → I done out ς' → OQ (t (enc x) ς') fun ς1 => WP ft ς1 (fun b ς2 => if b = true then WP fk ς2 (fun rk ς3 => OQ (keyO rk) fun k => WP fe ς3 (fun r ς4 => OQ (VS.settle ς4 r) fun p => out.length < sizeLine ∧ At (I (done ++ [x]) (putKD out k p.1)) (wipeS vs p.2)) noE) noE else At (I (done ++ [x]) out) (wipeS vs ς2)) noE)
    (hd : ∀ out ς', I xs out ς' → K (out, ς')) : OQ (dcRun vs t ft fk fe (xs.map enc) [] ς) K := by
  have go : ∀ (rest done : List β) (out : List (Dat × Dat)), xs = done ++ rest → ∀ ς, I done out ς → OQ (dcRun vs t ft fk fe (rest.map enc) out ς) fun p => I xs p.1 p.2 := fun rest => by
    induction rest with
    | nil => exact fun done out e ς h => ⟨(out, ς), rfl, by rw [e, List.append_nil]; exact h⟩
    | cons x rest ih =>
      intro done out e ς h
      obtain ⟨ς1, e1, q⟩ := hs done x rest out ς e h
      obtain ⟨b, ς2, e2, q⟩ := q.no
      rw [List.map_cons]
      unfold dcRun
      rw [e1]
      simp only
      rw [e2]
      cases b with
      | false => exact ih (done ++ [x]) out (by rw [e]; simp) _ q.h
      | true =>
        simp only [if_true] at q
        obtain ⟨rk, ς3, e3, k, ek, q⟩ := q.no
        obtain ⟨r, ς4, e4, p, e5, hl, q⟩ := q.no
        cases rk with
        | tp _ => cases ek
        | sl _ => cases ek
        | fr dk =>
          have ek : keyD dk = some k := ek
          simp only
          rw [e3]
          simp only
          rw [ek]
          simp only
          rw [e4]
          simp only
          rw [e5]
          simp only
          rw [if_pos hl]
          exact ih (done ++ [x]) _ (by rw [e]; simp) _ q.h
  exact (go xs [] [] rfl ς h0).mono fun p q => hd p.1 p.2 q
/-- an item by its number -/
theorem OQ_at {enc : β → Dat} {xs : List β} {i : Int} {K : Dat → Prop} (h0 : 0 ≤ i) (h1 : i < xs.length) (k : ∀ x, xs[i.toNat]? = some x → x ∈ xs → K (enc x)) : OQ (L2.atI (xs.map enc) i) K := by
  have hl : i.toNat < xs.length := by omega
  refine ⟨enc xs[i.toNat], ?_, k _ (List.getElem?_eq_getElem hl) (List.getElem_mem hl)⟩
  unfold L2.atI L2.ixN
  rw [if_pos h0, if_pos (by rw [List.length_map]; exact h1)]
  simp [hl]
theorem OQ_atD {xs : List Dat} {i : Int} {K : Dat → Prop} (h0 : 0 ≤ i) (h1 : i < xs.length) (k : ∀ x, xs[i.toNat]? = some x → x ∈ xs → K x) : OQ (L2.atI xs i) K := by
  have := OQ_at (enc := id) (xs := xs) (K := K) h0 h1 k
  rwa [List.map_id] at this
end
end VS

/-! more rules for walking forward -/
namespace VS
open PySem L2
section
variable {α β γ δ : Type}
theorem rangeF_eq {n : Int} (h0 : 0 ≤ n) (h1 : n < 2 ^ 62) : rangeF [.int n] = some ((List.range n.toNat).map fun (i : Nat) => Dat.int (i : Int)) := by
  show (if inR n = true then some (rangeD 0 n.toNat) else none) = _
  rw [if_pos (show inR n = true from decide_eq_true ⟨by omega, by omega⟩)]
  unfold rangeD
  simp
theorem OQ_range {n : Int} {K : List Dat → Prop} (h0 : 0 ≤ n) (h1 : n < 2 ^ 62) (k : K ((List.range n.toNat).map fun (i : Nat) => Dat.int (i : Int))) : OQ (rangeF [.int n]) K := ⟨_, rangeF_eq h0 h1, k⟩
@[simp] theorem x_len_lst (ds : List Dat) : lenD [.lst ds] = some (.fr (.int (ds.length : Int))) := rfl
@[simp] theorem x_len_tup (ds : List Dat) : lenD [.tup ds] = some (.fr (.int (ds.length : Int))) := rfl
@[simp] theorem x_list_lst (ds : List Dat) : listD [.lst ds] = some (.tp (.lst ds)) := rfl
theorem erase_map {f : α → β} : ∀ (l : List α) (j : Nat), (l.map f).eraseIdx j = (l.eraseIdx j).map f
  | [], _ => rfl
  | _ :: _, 0 => rfl
  | a :: l, j + 1 => by rw [List.map_cons, List.eraseIdx_cons_succ, List.eraseIdx_cons_succ, List.map_cons, erase_map l j]
theorem erase_perm : ∀ {l : List α} {j : Nat} {x : α}, l[j]? = some x → (x :: l.eraseIdx j).Perm l
  | [], j, x, h => by simp at h
  | a :: l, 0, x, h => by
    have h : a = x := by simpa using h
    subst h
    exact .refl _
  | a :: l, j + 1, x, h => by
    rw [List.eraseIdx_cons_succ]
    exact (List.Perm.swap a x _).trans ((erase_perm (l := l) (j := j) (by simpa using h)).cons a)
theorem atI_nat (ds : List α) (i : Int) (h : 0 ≤ i) : L2.atI ds i = ds[i.toNat]? := by
  unfold L2.atI L2.ixN
  rw [if_pos h]
  by_cases h1 : i < ds.length
  · rw [if_pos h1]; rfl
  · rw [if_neg h1]
    exact (List.getElem?_eq_none (by omega)).symm
@[simp] theorem x_atI_lit (ds : List α) (n : Nat) : L2.atI ds (no_index (OfNat.ofNat n)) = ds[n]? := atI_nat ds _ (Int.natCast_nonneg n)
@[simp] theorem x_atI_cast (ds : List α) (n : Nat) : L2.atI ds (n : Int) = ds[n]? := atI_nat ds _ (Int.natCast_nonneg n)
theorem atI_last (ds : List α) : L2.atI ds (-1) = ds.getLast? := by
  unfold L2.atI L2.ixN
  rw [if_neg (by omega)]
  by_cases h : ds = []
  · subst h; rfl
  · have := List.length_pos_iff.mpr h
    rw [if_pos (by omega)]
    show ds[(-1 + (ds.length : Int)).toNat]? = _
    rw [show (-1 + (ds.length : Int)).toNat = ds.length - 1 by omega, List.getLast?_eq_getElem?]
@[simp] theorem x_atI_last (ds : List α) (x : α) : L2.atI (ds ++ [x]) (-1) = some x := by rw [atI_last]; simp
@[simp] theorem x_neg_lit (i : Int) : negE (.int i) = some (.fr (.int (-i))) := rfl
/-- a comprehension that changes nothing and leaves nothing out -/
theorem lc_map1 {enc : β → Dat} {vs : List Nat} {t : Dat → VS.St → Option VS.St} {fe : Act ER} {xs : List β} {ς : VS.St} {K : List Dat × VS.St → Prop} (f : β → Dat)
    (hs : ∀ x ∈ xs, OQ (t (enc x) ς) fun ς1 => WP fe ς1 (fun r ς3 => OQ (VS.settle ς3 r) fun q => q.1 = f x ∧ wipeS vs q.2 = ς) noE)
    (hd : K (xs.map f, ς)) : OQ (lcRun vs t (Act.ret true) fe (xs.map enc) ς) K := by
  refine lc_map (fun _ => true) f (fun x hx => (hs x hx).mono fun ς1 q => ?_) (by rwa [List.filter_eq_self.mpr fun _ _ => rfl])
  rw [wp_ret]
  exact ⟨rfl, by rw [if_pos rfl]; exact q⟩
end
end VS

namespace VS
open PySem L2 PyProof.Rows

section
variable {c : Ctx} {X : Cx} {a b e tg iter : Expr} {fa fb fc : Act ER} {pos : Pos} {es : List Expr} {f : Act ER} {g : Act (List ER)}
theorem View.tupRep {S : Sta} {w : W} {H : Hp} {v : V} {ds : List Dat} (h : View S w H v (.tup ds)) : Rep S w.Hf w.ads v (.tup ds) := by
  rcases h with h | ⟨a, _, h⟩
  · exact h
  · cases h
/-! ### tuple(x) -/
def tupleD : List Dat → Option ER
  | [.lst ds] => some (.fr (.tup ds))
  | [.tup ds] => some (.fr (.tup ds))
  | _ => none
theorem pn_tuple : PN c (.type "tuple") tupleD := PN.of fun X hX pins s σ H w ς vs ds r I R va e => by
  unfold tupleD at e
  split at e
  · rename_i es
    cases e
    obtain ⟨v, rfl, hv⟩ := va.one
    obtain ⟨p, vs, rfl, hp, rp⟩ := hv.lst R.sub
    refine ⟨_, fun v' H' => ∃ l, v' = .ref l ∧ H l = none ∧ H' = upd H l (.tup vs), call_tuple_of, ⟨p, vs, rfl, .inl ⟨by show SqL X.K H p _; rw [hX.K]; exact hp, fun l hl => ⟨l, rfl, hl, rfl⟩⟩⟩, fun v' H' u s' ⟨l, e1, hl, e2⟩ I' rv => ?_⟩
    subst e1; subst e2
    cases rv
    exact ne_tup I' hl R rp
  · rename_i es
    cases e
    obtain ⟨v, rfl, hv⟩ := va.one
    have hr := hv.tupRep
    obtain ⟨p, vs, rfl, hp, rp⟩ := hv.tup R.sub
    refine ⟨_, fun v' H' => v' = .ref p ∧ H' = H, call_tuple_of, ⟨p, vs, rfl, .inr ⟨by show SqT X.K H p _; rw [hX.K]; exact hp, rfl, rfl⟩⟩, fun v' H' u s' ⟨e1, e2⟩ I' rv => ?_⟩
    subst e1; subst e2
    exact ne_fr I' rv R hr
  · cases e
/-! ### sum -/
def sumD : List Dat → Option ER
  | [.lst ds] => (intsOf ds).map fun ns => .fr (.int ns.sum)
  | _ => none
theorem pn_sum : PN c (.builtin "sum") sumD := PN.of fun X hX pins s σ H w ς vs ds r I R va e => by
  unfold sumD at e
  split at e
  · rename_i ds
    cases q : intsOf ds with
    | none => rw [q] at e; cases e
    | some ns =>
      rw [q] at e
      cases e
      obtain rfl := intsOf_eq q
      obtain ⟨v, rfl, hv⟩ := va.one
      obtain ⟨p, ws, rfl, hp, rp⟩ := hv.lst R.sub
      obtain rfl := rp.ints
      refine ⟨_, fun v' H' => v' = .int ns.sum ∧ H' = H, cr_sum hX.calm, ⟨p, ns, rfl, by show SqL X.K H p _; rw [hX.K]; exact hp, rfl, rfl⟩, fun v' H' u s' ⟨e1, e2⟩ I' rv => ?_⟩
      subst e1; subst e2
      exact ne_fr I' rv R (.int _)
  · cases e
/-! ### int(x), str(n) -/
def int1D : List Dat → Option ER
  | [.int i] => some (.fr (.int i))
  | [.bl b] => some (.fr (.int (if b then 1 else 0)))
  | _ => none
theorem pn_int1 : PN c (.type "int") int1D := PN.of fun X hX pins s σ H w ς vs ds r I R va e => by
  unfold int1D at e
  split at e
  · rename_i i
    cases e
    obtain ⟨v, rfl, hv⟩ := va.one
    obtain rfl := hv.int
    refine ⟨_, fun v' H' => v' = .int i ∧ H' = H, call_int1, .inl ⟨i, rfl, rfl, rfl⟩, fun v' H' u s' ⟨e1, e2⟩ I' rv => ?_⟩
    subst e1; subst e2
    exact ne_fr I' rv R (.int _)
  · rename_i b
    cases e
    obtain ⟨v, rfl, hv⟩ := va.one
    obtain rfl := hv.bl
    refine ⟨_, fun v' H' => v' = .int (if b then 1 else 0) ∧ H' = H, call_int1, .inr ⟨b, rfl, rfl, rfl⟩, fun v' H' u s' ⟨e1, e2⟩ I' rv => ?_⟩
    subst e1; subst e2
    exact ne_fr I' rv R (.int _)
  · cases e
def intG : List Dat → Option ER := orN intD int1D
theorem pn_intG : PN c (.type "int") intG := pn_int.or pn_int1
def str1D : List Dat → Option ER
  | [.int i] => if i.natAbs.log2 < 1920 then some (.fr (.str (toString i))) else none
  | _ => none
theorem pn_str1 : PN c (.type "str") str1D := PN.of fun X hX pins s σ H w ς vs ds r I R va e => by
  unfold str1D at e
  split at e
  · rename_i i
    split at e
    · rename_i hz
      cases e
      obtain ⟨v, rfl, hv⟩ := va.one
      obtain rfl := hv.int
      refine ⟨_, fun v' H' => v' = .str (toString i) ∧ H' = H, call_str_int, ⟨i, rfl, hz, rfl, rfl⟩, fun v' H' u s' ⟨e1, e2⟩ I' rv => ?_⟩
      subst e1; subst e2
      exact ne_fr I' rv R (.str _)
    · cases e
  · cases e
/-! ### bits -/
def shlG : Dat → Dat → Option ER := intC (fun i j => .int (i * 2 ^ j.toNat)) powC
def shrG : Dat → Dat → Option ER := intC (fun i j => .int (i / 2 ^ j.toNat)) shrC
def bandG : Dat → Dat → Option ER := intC (fun i j => .int (Builtin.bitAnd i j)) yes2
def borG : Dat → Dat → Option ER := intC (fun i j => .int (Builtin.bitOr i j)) yes2
def bxorG : Dat → Dat → Option ER := intC (fun i j => .int (Builtin.bitXor i j)) yes2
theorem p2_shl : P2 c (binaryOp .LShift) shlG := p2_shl_int
theorem p2_shr : P2 c (binaryOp .RShift) shrG := p2_shr_int
theorem p2_band : P2 c (binaryOp .BitAnd) bandG := p2_and_int
theorem p2_bor : P2 c (binaryOp .BitOr) borG := p2_or_int
theorem p2_bxor : P2 c (binaryOp .BitXor) bxorG := p2_xor_int
/-! ### x op= e, whole numbers -/
def iaddG : Dat → Dat → Option ER := intC (fun i j => .int (i + j)) yes2
theorem i2_add : P2 c (inplaceOp .Add) iaddG := p2_int (fun X => rI0_rI iop_add) (fun _ _ _ => trivial) fun _ _ _ _ _ => .int _
theorem i2_sub : P2 c (inplaceOp .Sub) subG := p2_int (fun X => rI0_rI iop_sub) (fun _ _ _ => trivial) fun _ _ _ _ _ => .int _
theorem i2_or : P2 c (inplaceOp .BitOr) borG := p2_int (fun X => rI0_rI iop_or) (fun _ _ _ => trivial) fun _ _ _ _ _ => .int _
theorem i2_xor : P2 c (inplaceOp .BitXor) bxorG := p2_int (fun X => rI0_rI iop_xor) (fun _ _ _ => trivial) fun _ _ _ _ _ => .int _
theorem vs_aug {i : Nat} {x : Str} {op : Operator} {gop : Dat → Dat → Option ER} {pos' : Pos} (ho2 : P2 c (inplaceOp op) gop) (hi : c.N[i]? = some x) (hx : L2.Loc c.sc x) (hr : c.ro i = false) (he : VE c e f) (hf : c.fnn x = true ∨ c.sc.names.lookup x = some .local) :
    VS1 c (.AugAssign (.Name x pos') op e pos) (setA i (op2 gop (var i) f)) := .of fun X hX pins s σ H w ς o ho I R T => by
  have hlen : i < c.N.length := (List.getElem?_eq_some_iff.mp hi).1
  have ho : (Act.bnd (Act.bnd (var i) fun r1 => Act.bnd f fun r2 => opD gop r1 r2) fun r ς => (setR ς i r).map fun ς' => .ok .nx ς') ς = some o := ho
  have ho : (Act.bnd (var i) fun r1 => Act.bnd f fun r2 => Act.bnd (opD gop r1 r2) fun r ς => (setR ς i r).map fun ς' => .ok .nx ς') ς = some o := by
    rw [← ho]
    simp only [x_bnd]
    cases h1 : var i ς with
    | none => rfl
    | some o1 => cases o1 with
      | ex x ς1 => rfl
      | ok r1 ς1 =>
        simp only
        cases h2 : f ς1 with
        | none => rfl
        | some o2 => cases o2 <;> rfl
  -- the name's own value
  have hv : ∃ (v : V) (r1 : ER), σ[i]? = some (some v) ∧ var i ς = some (.ok r1 ς) ∧ ResOk c.toSta w H H σ v r1 := by
    cases h1 : var i ς with
    | none => unfold Act.bnd at ho; rw [h1] at ho; cases ho
    | some o1 =>
      unfold var at h1
      split at h1
      · rename_i d e1
        cases h1
        obtain ⟨v, e2, e3⟩ := R.slots _ _ e1
        exact ⟨v, _, e2, rfl, e3⟩
      · rename_i d e1
        cases h1
        obtain ⟨v, e2, e3⟩ := R.slots _ _ e1
        exact ⟨v, _, e2, rfl, e2⟩
      · cases h1
  obtain ⟨v, r1, hσ, hvar, ro1⟩ := hv
  have ho : (Act.bnd f fun r2 => Act.bnd (opD gop r1 r2) fun r ς => (setR ς i r).map fun ς' => Out.ok Flw.nx ς') ς = some o := by
    rw [← ho]
    simp only [x_bnd, hvar]
  obtain ⟨m, hn, hl⟩ := I.loc
  have hx' : L2.Loc X.env.scope x := by rw [hX.sc]; exact hx
  have vis : Vis X.env.scope x := by rcases hx' with k | k; exact .inl k; exact .inr (.inl k)
  obtain ⟨u, rv1, l⟩ := hl i x v (by rw [hX.N]; exact hi) hσ vis
  refine wpAny_AugAssign_Name ?_
  have go : wpAny (model X.prog X.w) X.A (eval e X.env) (fun w2 s₂ => wpAny (model X.prog X.w) X.A (inplaceOp op u w2) (fun r s₃ => wpAny (model X.prog X.w) X.A (storeName X.env x r) (fun _ => NS c X pins w H o .next) X.xe s₃) X.xe s₂) X.xe s := by
    refine ve_then (f := f) (k := fun r2 => Act.bnd (opD gop r1 r2) fun r ς => (setR ς i r).map fun ς' => .ok .nx ς') he hX I R T ho fun r2 ς1 u2 s1 v2 H1 w1 h1 I1 rv2 F1 R1 T1 ro2 => ?_
    refine opD_then ho2 hX I1 R1 T1 rv1 rv2 (ro1.carry F1) ro2 h1 fun r ς2 u3 s2 v3 H2 w2 h2 I2 rv3 F2 R2 T2 ro3 => ?_
    cases q : setR ς2 i r with
    | none => rw [q] at h2; cases h2
    | some ς3 =>
      rw [q] at h2
      cases h2
      obtain ⟨w3, F3, R3⟩ := setR_ok F2 R2 (fun a h => by rw [F2.h0, F1.h0]; exact R.dom a (F1.dm a h)) hlen (by rw [I2.len, hX.N]) hr ro3 q
      refine store_ok I2 (by rw [hX.N]; exact hX.nd) (by rw [hX.N]; exact hi) hx' rv3 (fun s3 I3 => ⟨_, H2, w3, I3, F1.trans F3, R3⟩) ?_
      rcases hf with hf | hf
      · exact .inl (hX.fnn x hf)
      · exact .inr (by rw [hX.sc]; exact hf)
  rcases l with ⟨hk, hm⟩ | ⟨hk, c', hc, hcell⟩
  · exact wpAny_loadName_local I.ok.kind hk hn hm go
  · rcases hk with hk | hk
    · exact wpAny_loadName_cell I.ok.kind hk hc hcell go
    · rcases hx' with k | k
      · have : X.env.scope.names.lookup x = some .free := hk
        rw [k] at this; cases this
      · have : X.env.scope.names.lookup x = some .free := hk
        rw [k] at this; cases this
end
end VS

namespace VS
open PySem L2 PyProof.Rows

section
variable {c : Ctx} {X : Cx} {a b e tg iter : Expr} {fa fb fc : Act ER} {pos : Pos} {es : List Expr} {f : Act ER} {g : Act (List ER)}
/-! ### a text times a number -/
def repS (x : Str) (k : Nat) : Str := ⟨(List.replicate k x.cps.toList).flatten.toArray⟩
def strMulD : Dat → Dat → Option ER
  | .str x, .int n => if 0 ≤ n ∧ n ≤ 1000 ∧ x.length ≤ 1000 then some (.fr (.str (repS x n.toNat))) else none
  | _, _ => none
theorem foldl_repN (l : List Nat) : ∀ (k : Nat) (acc : List Nat), List.foldl (fun x1 x2 => x1 ++ x2) acc.toArray (List.replicate k l.toArray) = (acc ++ (List.replicate k l).flatten).toArray
  | 0, acc => by simp
  | k + 1, acc => by
    have e : acc.toArray ++ l.toArray = (acc ++ l).toArray := by simp
    have e2 : (acc ++ l) ++ (List.replicate k l).flatten = acc ++ (List.replicate (k + 1) l).flatten := by
      rw [List.replicate_succ, List.flatten_cons, List.append_assoc]
    rw [← e2, ← foldl_repN l k (acc ++ l), ← e, List.replicate_succ, List.foldl_cons]
theorem op_mulS {X : Cx} : OpR X (binaryOp .Mult) (fun x y H Q => ∃ z n, x = .str z ∧ y = .int n ∧ 0 ≤ n ∧ n ≤ 1000 ∧ z.length ≤ 1000 ∧ Q (.str (repS z n.toNat)) H) := by
  intro pins s σ H x y v u Q I rx ry h
  obtain ⟨z, n, rfl, rfl, h0, h1, hz, q⟩ := h
  obtain ⟨t, rfl⟩ := rx
  obtain ⟨t', rfl⟩ := ry
  have hlen : z.length * n.toNat ≤ 1000000 := by
    have := Nat.mul_le_mul hz (show n.toNat ≤ 1000 by omega)
    omega
  refine PySem.P.mul_str (by rw [decide_eq_false (by omega), decide_eq_false (by omega)]; rfl) (fun hn _ => ?_) (fun _ _ => short24 (by omega)) ?_
  · have h2 : (z.length : Int) * n ≤ 1000000 := by
      have e : n = (n.toNat : Int) := by omega
      rw [e]
      have h4 := Int.ofNat_le.mpr hlen
      rw [Int.natCast_mul] at h4
      exact h4
    have h3 : (z.length : Int) ≤ (2 ^ 63 - 1) / n := (Int.le_ediv_iff_mul_le (by omega)).mpr (by omega)
    omega
  · by_cases hn : n < 1
    · rw [if_pos hn]
      have e0 : n.toNat = 0 := by omega
      have : repS z n.toNat = Str.empty := by rw [e0]; rfl
      rw [this] at q
      exact ⟨by decide, ⟨.str _, H, I.tok _, ⟨_, rfl⟩, q⟩⟩
    · rw [if_neg hn]
      by_cases hc : (n == 1 || z.length == 0) = true
      · rw [if_pos hc]
        have : repS z n.toNat = z := by
          rw [Bool.or_eq_true] at hc
          rcases hc with hc | hc
          · have : n = 1 := by simpa using hc
            subst this
            show (⟨(List.replicate 1 z.cps.toList).flatten.toArray⟩ : Str) = z
            simp
          · have hz0 : z.cps.size = 0 := by have : z.length = 0 := by simpa using hc
                                            exact this
            have hz1 : z.cps.toList = [] := by rw [← List.length_eq_zero_iff]; simpa using hz0
            unfold repS
            rw [hz1]
            have : (List.replicate n.toNat ([] : List Nat)).flatten = [] := by simp
            rw [this]
            have : z.cps = #[] := by simpa using hz1
            cases z
            simp only at this
            subst this
            rfl
        rw [this] at q
        exact ⟨.str z, H, I, ⟨_, rfl⟩, q⟩
      · rw [if_neg hc]
        have e : (⟨(List.replicate n.toNat z.cps).foldl (· ++ ·) #[]⟩ : Str) = repS z n.toNat := by
          unfold repS
          congr 1
          have := foldl_repN z.cps.toList n.toNat []
          simpa using this
        rw [e]
        refine ⟨?_, ⟨.str _, H, I.tok _, ⟨_, rfl⟩, q⟩⟩
        have : (repS z n.toNat).length = n.toNat * z.length := by
          show (List.replicate n.toNat z.cps.toList).flatten.toArray.size = _
          simp
          rfl
        rw [this, Nat.mul_comm, sizeLine_eq]
        omega
theorem p2_mulS : P2 c (binaryOp .Mult) strMulD := P2.of fun X hX pins s σ H w ς x y a b r I R va vb e => by
  unfold strMulD at e
  split at e
  · rename_i z n
    split at e
    · rename_i hz
      cases e
      obtain rfl := va.str
      obtain rfl := vb.int
      refine ⟨_, fun v H' => v = .str (repS z n.toNat) ∧ H' = H, op_mulS, ⟨z, n, rfl, rfl, hz.1, hz.2.1, hz.2.2, rfl, rfl⟩, fun v H' u s' ⟨e1, e2⟩ I' rv => ?_⟩
      subst e1; subst e2
      exact ne_fr I' rv R (.str _)
    · cases e
  · cases e
def mulGS : Dat → Dat → Option ER := orE mulG strMulD
theorem p2_mulG : P2 c (binaryOp .Mult) mulGS := p2_mul.or p2_mulS
/-! ### a new list times a number -/
def mulL (r1 r2 : ER) : Act ER := fun ς => match r1, cur ς r2 with
  | .tp (.lst ds), some (.int k) => if 0 ≤ k ∧ k ≤ 1000 ∧ ds.length ≤ 1000 then some (.ok (.tp (.lst (List.replicate k.toNat ds).flatten)) ς) else none
  | _, _ => none
def mulLA (fa fb : Act ER) : Act ER := fa.bnd fun r1 => fb.bnd fun r2 => mulL r1 r2
theorem Reps.rep {S : Sta} {w : W} {vs : List V} {ds : List Dat} (h : Reps S w.Hf w.ads vs ds) : ∀ k : Nat, Reps S w.Hf w.ads (List.replicate k vs).flatten (List.replicate k ds).flatten
  | 0 => .nil
  | k + 1 => by
    rw [List.replicate_succ, List.replicate_succ, List.flatten_cons, List.flatten_cons]
    exact h.append (Reps.rep h k)
theorem ve_mulL (ha : VE c a fa) (hb : VE c b fb) : VE c (.BinOp a .Mult b pos) (mulLA fa fb) := .of fun X hX pins s σ H w ς o ho I R T => by
  refine wpAny_BinOp ?_
  refine ve_then ha hX I R T ho fun r1 ς1 u1 s1 v1 H1 w1 h1 I1 rv1 F1 R1 T1 ro1 => ?_
  refine ve_then hb hX I1 R1 T1 h1 fun r2 ς2 u2 s2 v2 H2 w2 h2 I2 rv2 F2 R2 T2 ro2 => ?_
  unfold mulL at h2
  split at h2
  · rename_i ds k e1
    split at h2
    · rename_i hk
      cases h2
      obtain ⟨p, rfl, g1, g2, g3, g4⟩ := ro1.carry F2
      obtain rfl := (R2.view ro2 e1).int
      cases g4 with
      | @lst vs _ hp rs =>
        have hl := rs.length
        have hm : vs.length * k.toNat ≤ sizeLine := by
          have := Nat.mul_le_mul (show vs.length ≤ 1000 by omega) (show k.toNat ≤ 1000 by omega)
          rw [sizeLine_eq]; omega
        refine wpAny_mono (op_any (E := fun _ _ => False) (op_rep (X := X.nox)) I2 rv1 rv2 (Q := fun v' H' => ∃ l, v' = .ref l ∧ H2 l = none ∧ H' = upd H2 l (.lst (List.replicate k.toNat vs).flatten)) ⟨p, k, vs, rfl, rfl, hp, by omega, by omega, hm, fun l hl => ⟨l, rfl, hl, rfl⟩⟩) (fun u s' ⟨v', H', I', rv, l, e1, hl, e2⟩ => ?_) fun _ _ z => z.elim
        subst e1; subst e2
        cases rv
        exact NE.from (F1.trans F2) (ne_lst I' hl R2 (Reps.rep rs k.toNat))
    · cases h2
  · cases h2
/-! ### tuples one behind the other -/
def tupCat : Dat → Dat → Option ER
  | .tup (x0 :: x), .tup y => if x.length + 1 + y.length ≤ sizeLine then some (.fr (.tup (x0 :: x ++ y))) else none
  | _, _ => none
theorem p2_add_tup : P2 c (binaryOp .Add) tupCat := P2.of fun X hX pins s σ H w ς x y a b r I R va vb e => by
  unfold tupCat at e
  split at e
  · rename_i d ds es
    split at e
    · rename_i hz
      cases e
      have hr := va.tupRep
      obtain ⟨p, vs, rfl, hp, rp⟩ := va.tup R.sub
      obtain ⟨q, us, rfl, hq, rq⟩ := vb.tup R.sub
      have hl := rp.length
      have hl2 := rq.length
      have hne : vs ≠ [] := fun z => by rw [z] at hl; simp at hl
      refine ⟨_, fun v H' => (es = [] ∧ v = .ref p ∧ H' = H) ∨ ∃ l, v = .ref l ∧ H l = none ∧ H' = upd H l (.tup (vs ++ us)), op_catT, ⟨p, q, vs, us, rfl, rfl, by show SqT X.K H p _; rw [hX.K]; exact hp, by show SqT X.K H q _; rw [hX.K]; exact hq, hne, by rw [hl, hl2]; simpa using hz, fun z => .inl ⟨by rw [z] at hl2; exact List.eq_nil_of_length_eq_zero hl2.symm, rfl, rfl⟩, fun _ l hl => .inr ⟨l, rfl, hl, rfl⟩⟩, fun v H' u s' hQ I' rv => ?_⟩
      rcases hQ with ⟨e0, e1, e2⟩ | ⟨l, e1, hl, e2⟩
      · subst e0; subst e1; subst e2
        rw [List.append_nil]
        exact ne_fr I' rv R hr
      · subst e1; subst e2
        cases rv
        exact ne_tup I' hl R (rp.append rq)
    · cases e
  · cases e
def addGT : Dat → Dat → Option ER := orE addG tupCat
theorem p2_addT : P2 c (binaryOp .Add) addGT := p2_add.or p2_add_tup
end
end VS

namespace VS
open PySem L2 PyProof.Rows
open PySem.AutoSeq1 (wpAny_loadPart')
theorem meets_enumerate_newT (l : Addr) (items : Array Value) (n : Nat) (dct : Option Addr) (sl : Array (Option Value)) :
    Meets (Builtin.«enumerate.__new__» ⟨[.type "enumerate", .ref l], []⟩) (fun _ R s => s.heap.get? l = some { cls := .type "tuple", dict := dct, data := .seq items n, slots := sl } ∧
      R (.ok (.ret (.ref (s.heap.push { cls := .type "tuple_iterator", data := .fields #[.ref l, .int 0 0] }).objs.size)))
        { s with heap := (s.heap.push { cls := .type "tuple_iterator", data := .fields #[.ref l, .int 0 0] }).push { cls := .type "enumerate", data := .fields #[.none, .bool false, .ref s.heap.objs.size, rawInt 0, .none, .none] } }) :=
  .of_wp fun prog w A R s h => by
    obtain ⟨hp, g, d, tk, os⟩ := s; obtain ⟨hl, h⟩ := h
    have hsub := sub_enumerate
    have hL : Heap.IsTuple (Shared.heap ⟨hp, g, d, tk, os⟩) l items := ⟨_, hl, rfl, n, rfl⟩
    wp_walk using wpAny_loadPart' hl
    refine wpAny_stack_any fun st => wpAny_pure ?_
    split
    · rename_i c _ _ _ _ _
      cases (c == Value.type "enumerate")
      · wp_walk using wpAny_loadPart' hl, wpAny_pyIter_tuple hL
        exact ⟨_, rfl, h⟩
      · wp_walk using wpAny_loadPart' hl, wpAny_pyIter_tuple hL
        exact ⟨_, rfl, h⟩
    · wp_walk using wpAny_loadPart' hl, wpAny_pyIter_tuple hL
      exact ⟨_, rfl, h⟩
section
variable {prog : Program} {w : World} {A : Around} {E : Value → Shared → Prop} {s : Shared}
theorem call_enumerate_tuple {l : Addr} {items : Array Value} {Q : Value → Shared → Prop} (hL : s.heap.IsTuple l items)
    (h : ∀ h', IsEnum h' (s.heap.objs.size + 1) s.heap.objs.size 0 .none → h'.IsTupleIter s.heap.objs.size l 0 → h'.objs.size = s.heap.objs.size + 2 →
      (∀ b o, s.heap.get? b = some o → h'.get? b = some o) → Q (.ref (s.heap.objs.size + 1)) { s with heap := h' }) :
    wpAny (model prog w) A (call (.type "enumerate") [.ref l]) Q E s := by
  obtain ⟨⟨c, dct, dt, sl⟩, hl, hc, n, hd⟩ := hL
  replace hc : c = .type "tuple" := hc
  replace hd : dt = .seq items n := hd
  subst hc hd
  refine callType_new F.called_enumerate (by decide) (F.typeCall_enumerate_1 _) (F.newCall_enumerate_1 _) (fun obj => F.args_object_init_2 obj _) F.entry_enumerate_new
    (meets_enumerate_newT l items n dct sl) ⟨hl, ?_⟩
  have hz : (s.heap.push { cls := .type "tuple_iterator", data := .fields #[.ref l, .int 0 0] }).objs.size = s.heap.objs.size + 1 := Heap.size_push ..
  show _ ∧ _
  rw [hz]
  have he : IsEnum ((s.heap.push { cls := .type "tuple_iterator", data := .fields #[.ref l, .int 0 0] }).push
      { cls := .type "enumerate", data := .fields #[.none, .bool false, .ref s.heap.objs.size, rawInt 0, .none, .none] }) (s.heap.objs.size + 1) s.heap.objs.size 0 .none := by
    have := Heap.get?_push_size (s.heap.push { cls := .type "tuple_iterator", data := .fields #[.ref l, .int 0 0] })
      (o := { cls := .type "enumerate", data := .fields #[.none, .bool false, .ref s.heap.objs.size, rawInt 0, .none, .none] }) rfl
    rw [hz] at this; exact this
  refine ⟨⟨_, he, rfl⟩, h _ he ⟨_, Heap.get?_push_of_some _ (Heap.get?_push_size _ rfl), rfl, rfl⟩ (by rw [Heap.size_push, hz]) fun b o x => Heap.get?_push_of_some _ (Heap.get?_push_of_some _ x)⟩
end
/-- the tuple at a as it stands at each turn, each item in a new pair -/
def Itet (K : PySem.W.Frag) (a : Addr) : It :=
  ⟨fun i H => ∃ (xs : List V) (x : V), SqT K H a xs ∧ xs[i]? = some x, fun i H v H' => ∃ T x, v = .ref T ∧ H T = none ∧ H' = upd H T (.tup [.int (i : Nat), x]) ∧ ∀ xs, SqT K H a xs → xs[i]? = some x, fun i H => ∃ xs : List V, SqT K H a xs ∧ xs.length ≤ i⟩
theorem tup_ne {h : Heap} {a it t : Addr} {i : Nat} {items : Array Value} (p : h.IsTuple a items) (q : h.IsTupleIter it t i) : a ≠ it := by
  rintro rfl
  obtain ⟨o, e1, e2, _⟩ := p
  obtain ⟨o', e3, e4, _⟩ := q
  rw [e1] at e3; cases e3
  rw [e2] at e4; simp at e4
theorem turn_enumT {P : Program} {w : World} {K : PySem.W.Frag} {elts : List Expr} {kk : Nat} {tpos : Pos} (a e it : Addr) :
    Turn P w K (.Tuple elts kk tpos) (Itet K a) [e, it] e (fun i h => (∃ old, IsEnum h e it ((i : Nat) : Int) old) ∧ h.IsTupleIter it a i ∧ e ≠ it) where
  mem := by simp
  obj := fun i h st b hb => by
    obtain ⟨⟨old, he⟩, ⟨o, ho, hc, hd⟩, _⟩ := st
    have e' : b = e ∨ b = it := by simpa using hb
    rcases e' with z | z
    · rw [z]; exact ⟨_, he, fun v q => nomatch q⟩
    · rw [z]; exact ⟨o, ho, fun v q => by rw [hd] at q; cases q⟩
  keep := fun i h h' st k => let ⟨⟨old, he⟩, hi, hne⟩ := st; ⟨⟨old, k e (by simp) _ he⟩, hi.at fun o q => k it (by simp) o q, hne⟩
  item := by
    intro X hP hw hK hc i pins s σ H E I hf st hg
    subst hP hw hK
    obtain ⟨⟨old, he⟩, hit, hne⟩ := st
    obtain ⟨xs, x, hq, hx⟩ := hg
    obtain ⟨its, rv, p, hz⟩ := I.tuple hq
    obtain ⟨u, hu, ru⟩ := rv.get hx
    have hel : e < s.heap.objs.size := Heap.lt_size he
    have hil : it < s.heap.objs.size := by obtain ⟨_, q, _⟩ := hit; exact Heap.lt_size q
    have p' : s.heap.IsTuple a its.toArray := p
    have hai : a ≠ it := tup_ne p' hit
    have hea : e ≠ a := by
      rintro rfl
      obtain ⟨o, e1, e2, _⟩ := p'
      have he' : s.heap.get? e = some _ := he
      rw [e1] at he'; cases he'
      simp at e2
    have hlt : i < its.toArray.size := by
      have := (List.getElem?_eq_some_iff.mp hu).1
      simpa using this
    refine wpAny_pyNext_enum_itemD (Draws.tuple (show X.A.in1.handled = none from I.ok.hd hc) it a hai its.toArray) he ⟨hit, p'⟩ hlt hne (by simp [hne, hea]) fun x' h' tk hx' ho hit' hT hsz hk => ?_
    have hxe : x' = u := by
      have : its[i]? = some x' := by simpa using hx'
      rw [hu] at this; exact (Option.some.inj this).symm
    subst hxe
    refine ⟨_, rfl, wpAny_letOwnedTupleGo_enum (s := { s with heap := h', toks := tk + 1 }) ho fun h'' he' sb => ?_⟩
    have hT2 : h''.get? s.heap.objs.size = some { cls := .type "tuple", data := .seq #[.int i tk, x'] } := (sb.2 _ (Nat.ne_of_gt hel)).trans hT
    have new : ObjOk X.prog X.w (upd H s.heap.objs.size (.tup [.int (i : Nat), x])) h'' s.heap.objs.size (.tup [.int (i : Nat), x]) :=
      ⟨by show 2 ≤ sizeLine; decide, [.int i tk, x'], .cons ⟨_, rfl⟩ (.cons ru .nil), ⟨_, hT2, rfl, _, rfl⟩⟩
    have I1 : Inv X pins σ (upd H s.heap.objs.size (.tup [.int (i : Nat), x])) { s with heap := h'', toks := tk + 1 } :=
      I.turnedNew (ch := [e, it]) (fun b ob hb q => (sb.2 b (fun z => hb (by simp [z]))).trans (hk b ob (fun z => hb (by simp [z])) (fun z => hb (by simp [z])) q)) hf (Nat.le_refl _) new
    refine ⟨.ref s.heap.objs.size, _, I1, rfl, ⟨_, x, rfl, I.hok.fresh (Nat.le_refl _), rfl, fun ys hy => by rw [I.tuple_inj hy hq]; exact hx⟩, ⟨⟨x', ?_⟩, hit'.1.at fun o q => (sb.2 it (Ne.symm hne)).trans q, hne⟩, fun b hb => ?_⟩
    · have e1 : ((i + 1 : Nat) : Int) = (i : Int) + 1 := by omega
      rw [e1]; exact he'
    · have hb' : b < s.heap.objs.size := by
        have e' : b = e ∨ b = it := by simpa using hb
        rcases e' with z | z
        · rw [z]; exact hel
        · rw [z]; exact hil
      rw [upd_ne (Nat.ne_of_lt hb')]
      exact (hf b hb).1
  done := by
    intro X hP hw hK hc i pins s σ H E I hf st hg
    subst hP hw hK
    obtain ⟨⟨old, he⟩, hit, hne⟩ := st
    obtain ⟨xs, hq, hx⟩ := hg
    obtain ⟨its, rv, p, hz⟩ := I.tuple hq
    obtain ⟨f0, f1, f2, f3, f4, f5⟩ := hf it (by simp)
    have hl := rv.length
    have p' : s.heap.IsTuple a its.toArray := p
    have hai : a ≠ it := tup_ne p' hit
    have hT : s.TypeIs (.ref e) "enumerate" := ⟨_, he, rfl⟩
    unfold pyNext
    refine wpAny_bind (wpAny_attempt (wpAny_callSpecial?_slot (name := Str.ofString "__next__") hT F.slot_enumerate_next
      (wpAny_call_entry F.slot_enumerate_next hT F.entry_enumerate_next ?_ (F.args_enumerate_next_1 _))))
    show wpAny _ _ (field (.ref e) 2 >>= _) _ _ _
    refine wpAny_bind (wpAny_field he rfl (x := .ref it) rfl ?_)
    refine wpAny_bind (wpAny_nextOf_tuple_end (show X.A.in1.handled = none from I.ok.hd hc) hit p' (by simp; omega) fun h' x he' hx' => ?_)
    obtain ⟨o, ho, hc'⟩ := hx'
    refine wpAny_bind (wpAny_isInstance (T := "StopIteration") (b := true) ⟨o, ho, hc'⟩ isSubtype_stop ?_)
    exact wpAny_pure ⟨rfl, I.turned (t' := s.toks) (fun b o hb q => he' b o hb q) f0 f1 f3 f4 f5⟩
  self := fun A i s Q E st h => let ⟨⟨_, he⟩, _⟩ := st; wpAny_pyIter_enum he h

def enumD (ds : List Dat) : List Dat := (List.range ds.length).map fun (i : Nat) => .tup [.int (i : Int), ds.getD i .non]
def enumF : Dat → Option (List Dat)
  | .lst ds => some (enumD ds)
  | .tup ds => some (enumD ds)
  | _ => none
def enumA (f : Act (List ER)) : Act (List Dat) := f.bnd fun rs ς => match rs with
  | [r] => (VS.settle ς r).bind fun p => (enumF p.1).map fun ds => .ok ds p.2
  | _ => none
theorem enumD_get {ds : List Dat} {i : Nat} {d : Dat} (h : ds[i]? = some d) : (enumD ds)[i]? = some (.tup [.int (i : Int), d]) := by
  have hl := (List.getElem?_eq_some_iff.mp h).1
  unfold enumD
  rw [List.getElem?_map, List.getElem?_range hl]
  simp [h]
section
variable {c : Ctx} {X : Cx} {a b e tg iter : Expr} {fa fb fc : Act ER} {pos : Pos} {es : List Expr} {f : Act ER} {g : Act (List ER)}
theorem enum_yld {w w' : W} {H' : Hp} {vs : List V} {ds : List Dat} {ς : St} {σ : L2.St} {i : Nat} {T : Addr} {x : V} (r : Reps c.toSta w.Hf w.ads vs ds) (R : Rel c.toSta c.n ς σ H' w') (e1 : Ext w.Hf w'.Hf) (ea : AExt w.ads w'.ads) (hT : H' T = none) (hx : vs[i]? = some x) :
    ∃ w'', Fr w' H' w'' (upd H' T (.tup [.int (i : Nat), x])) ∧ Rel c.toSta c.n ς σ (upd H' T (.tup [.int (i : Nat), x])) w'' ∧ ∃ d, (enumD ds)[i]? = some d ∧ Rep c.toSta w''.Hf w''.ads (.ref T) d := by
  obtain ⟨d, h1, h2⟩ := (r.mono e1 ea).getV hx
  obtain ⟨R', F'⟩ := R.laid (o := .tup [.int (i : Nat), x]) hT
  have hn : w'.Hf T = none := by
    cases q : w'.Hf T with
    | none => rfl
    | some o => have := R.sub T o q; rw [hT] at this; cases this
  refine ⟨frz w' T (.tup [.int (i : Nat), x]), F'.freeze_tmp hT hn, R'.freeze_tmp (R.own0 T hT) hn upd_same, _, enumD_get h1, ?_⟩
  exact .tup (.inl (.inl upd_same)) (.cons (.int _) (.cons (h2.mono (frz_ext hn) (fun _ _ h => h)) .nil))
theorem walk_enumL {a : Addr} {vs : List V} {ds : List Dat} {w : W} (h : SqL c.K w.Hf a vs) (r : Reps c.toSta w.Hf w.ads vs ds) : WalkOk c (Ite c.K a) (enumD ds) w where
  go := fun i w' H' hi e1 e2 => by
    have hl : i < vs.length := by rw [r.length]; simpa [enumD] using hi
    exact ⟨vs, vs[i], e2.sqL (e1.sqL h), by simp [hl]⟩
  stop := fun w' H' e1 e2 => ⟨vs, e2.sqL (e1.sqL h), by rw [r.length]; simp [enumD]⟩
  yld := fun i x H' w' H'' ς σ hi R e1 ea y => by
    obtain ⟨T, x0, rfl, hT, rfl, y⟩ := y
    exact enum_yld r R e1 ea hT (y vs (Ext.sqL R.sub (e1.sqL h)))
theorem walk_enumT {a : Addr} {vs : List V} {ds : List Dat} {w : W} (h : SqT c.K w.Hf a vs) (r : Reps c.toSta w.Hf w.ads vs ds) : WalkOk c (Itet c.K a) (enumD ds) w where
  go := fun i w' H' hi e1 e2 => by
    have hl : i < vs.length := by rw [r.length]; simpa [enumD] using hi
    exact ⟨vs, vs[i], e2.sqT (e1.sqT h), by simp [hl]⟩
  stop := fun w' H' e1 e2 => ⟨vs, e2.sqT (e1.sqT h), by rw [r.length]; simp [enumD]⟩
  yld := fun i x H' w' H'' ς σ hi R e1 ea y => by
    obtain ⟨T, x0, rfl, hT, rfl, y⟩ := y
    exact enum_yld r R e1 ea hT (y vs (Ext.sqT R.sub (e1.sqT h)))
/-- enumerate(e), e a list or a tuple -/
theorem vi_enum {p tpos : Pos} {elts : List Expr} {kk : Nat} (ha : VA c [e] g) (hg : GlS c "enumerate") (hm : c.mg "enumerate" = none)
    (he : ∀ env, starEach [e] env = (false, eval e env) :: starEach [] env) (hpl : ∀ env, (backTo pos (starEach [] env)).any (·.1) = false) : VI c (.Tuple elts kk tpos) (.Call (.Name "enumerate" p) [e] [] pos) (enumA g) := fun X hX pins s σ H w ς o ho I R T => by
  refine Call_ (ld_blt I (hg.gl hX) (by rw [hX.mg]; exact hm) boot_enumerate (PyProof.Rows.callWith_type1 (va_then ha hX I R T ho fun rs ς1 us s1 vs H1 w1 h1 I1 rvs F1 R1 T1 ros => ?_) (he _) (hpl _)))
  split at h1
  rotate_left
  · cases h1
  rename_i r
  cases ros with
  | @cons v _ vs0 _ ro ros0 _ =>
  cases ros0
  cases rvs with
  | @cons _ u _ us0 rv rvs0 =>
  cases rvs0
  cases e1 : VS.settle ς1 r with
  | none => rw [e1] at h1; cases h1
  | some p =>
    obtain ⟨d, ς2⟩ := p
    rw [e1] at h1
    simp only [Option.bind_some] at h1
    cases e2 : enumF d with
    | none => rw [e2] at h1; cases h1
    | some ds =>
      rw [e2] at h1
      cases h1
      obtain ⟨w2, F2, R2, rp⟩ := settle_ok F1 R1 ro e1
      cases d with
      | lst ds' =>
        cases e2
        cases rp with
        | @lst a vs _ hl rs =>
          cases rv
          obtain ⟨its, rvl, p', hz⟩ := I1.list (X := X) (by rw [hX.K]; exact Ext.sqL R2.sub hl)
          refine call_enumerate_list p'.isList fun h' he hit hsz hk => wpAny_pyIter_enum he ?_
          have I2 : Inv X pins σ H1 { s1 with heap := h' } := I1.kept (t' := s1.toks) hk
          refine ⟨s1.heap.objs.size + 1, [s1.heap.objs.size + 1, s1.heap.objs.size], _, _, H1, rfl, I2, turn_enum a (s1.heap.objs.size + 1) s1.heap.objs.size, ⟨⟨.none, he⟩, hit, Nat.succ_ne_self _⟩, fun b hb => ?_, ⟨w2, F2, R2, by rw [hX.K]; exact walk_enumL hl rs⟩⟩
          have e' : b = s1.heap.objs.size + 1 ∨ b = s1.heap.objs.size := by simpa using hb
          have hle : s1.heap.objs.size ≤ b := by
            rcases e' with z | z
            · rw [z]; exact Nat.le_add_right _ _
            · rw [z]; exact Nat.le_refl _
          exact I1.fpOk hle (I1.hok.fresh hle)
      | tup ds' =>
        cases e2
        cases rp with
        | @tup a vs _ hl rs =>
          cases rv
          obtain ⟨its, rvl, p', hz⟩ := I1.tuple (X := X) (by rw [hX.K]; exact Ext.sqT R2.sub hl)
          refine call_enumerate_tuple (show s1.heap.IsTuple a its.toArray from p') fun h' he hit hsz hk => wpAny_pyIter_enum he ?_
          have I2 : Inv X pins σ H1 { s1 with heap := h' } := I1.kept (t' := s1.toks) hk
          refine ⟨s1.heap.objs.size + 1, [s1.heap.objs.size + 1, s1.heap.objs.size], _, _, H1, rfl, I2, turn_enumT a (s1.heap.objs.size + 1) s1.heap.objs.size, ⟨⟨.none, he⟩, hit, Nat.succ_ne_self _⟩, fun b hb => ?_, ⟨w2, F2, R2, by rw [hX.K]; exact walk_enumT hl rs⟩⟩
          have e' : b = s1.heap.objs.size + 1 ∨ b = s1.heap.objs.size := by simpa using hb
          have hle : s1.heap.objs.size ≤ b := by
            rcases e' with z | z
            · rw [z]; exact Nat.le_add_right _ _
            · rw [z]; exact Nat.le_refl _
          exact I1.fpOk hle (I1.hok.fresh hle)
      | _ => cases e2
end
end VS

namespace VS
open PySem L2 PyProof.Rows

section
variable {c : Ctx} {X : Cx} {a b e : Expr} {fa fb : Act ER} {pos : Pos} {es : List Expr} {f : Act ER} {g gk : Act (List ER)} {kws : List Keyword} {nm : Option Str} {kpos : Pos}
/-- the def runs, however it is called -/
theorem call_runK {np : Nat} {F : FD} {io : List Bool} (hX : c.Ok X) {pins : List (Addr × Obj)} {s1 : Shared} {σ : L2.St} {H H1 : Hp} {w w1 : W} {ς1 : St} {ce : Sem Value}
    {o : Out ER} {vs dvs : List V} {rs : List ER} {dd : List Dat} (hdd : Reps c.toSta w1.Hf w1.ads dvs dd) (hlen : rs.length + dd.length = np) (hdm : ∀ a, H a = none → w.H0 a = none)
    (run : ∀ (E : XK) (Q : VK), PassesAt (CX X.prog X.w) X σ E → spV c.toSta np F (vs ++ dvs) H1 Q E → wpAny (model X.prog X.w) X.A ce (EP X pins σ Q) X.xe s1)
    (h1 : passF F io (rs ++ dd.map .fr) ς1 = some o) (F1 : Fr w H w1 H1) (R1 : Rel c.toSta c.n ς1 σ H1 w1) (T : XT c X w H o) (ros : ResOks c.toSta w1 H H1 σ vs rs) :
    wpAny (model X.prog X.w) X.A ce (NE c X pins σ w H o) X.xe s1 := by
  unfold passF at h1
  split at h1
  · cases h1
  · rename_i rs' ς2 e1
    split at h1
    · cases h1
    · rename_i args e2
      split at h1
      · rename_i hn
        obtain ⟨w2', F2', R2', ros2', _, _⟩ := settleIO_ok F1 R1 (ros.app hdd) e1
        have hvl' := ros2'.length
        have hsl : ∀ j ∈ slots rs', j < c.n.n := fun j hj => by have := slots_lt e2 j hj; rw [R2'.len] at this; exact this
        have R2 := phantom_rel R2' ros2' (fun a ha => by rw [F2'.h0]; exact hdm a ha)
        have F2 := phantom_fr F2' ros2' c.n.n
        have e2' : argsO (phT ς2 c.n.n rs') (phR rs' c.n.n) = some args := by
          have := phR_args (phS rs') rs' [] args e2 rfl
          rwa [List.length_nil, Nat.add_zero, R2'.len] at this
        have ros2 := phR_ros (N := c.n.n) [] (phV σ c.n.n (vs ++ dvs)) ros2' hsl (fun i hi => phV_lo hi) (fun i => by rw [phV_hi]; rfl) (phW w2' (vs ++ dvs) rs' c.n.n) rfl rfl
        rw [List.length_nil, Nat.add_zero] at ros2
        have hn' := phR_nodup rs' c.n.n hn hsl
        have en := in_entry R2 ros2 e2' hn' (phR_notp rs' c.n.n)
        generalize hw2 : phW w2' (vs ++ dvs) rs' c.n.n = w2 at *
        have halen := argsO_len e2
        have hvl := ros2'.length
        have hrl := ros.length
        have hdl := hdd.length
        have hnp : args.length = np := by rw [halen, ← hvl, List.length_append, hrl, hdl]; exact hlen
        split at h1
        · cases h1
        · rename_i r outs ob e3
          split at h1
          · rename_i hfr
            cases h1
            have hol : outs.length = rs'.length := by rw [frOk_len hfr, halen]
            refine wpAny_mono (run (fun _ _ _ => False) (fun v H' => ∃ w', Fr w H w' H' ∧ Rel c.toSta c.n (putBack { ς2 with ob := ob } rs' outs) σ H' w' ∧ ResOk c.toSta w' H H' σ v r) (fun _ _ _ _ _ _ ⟨_, _, _, _, _, _, _, _, _, _, _, _, z⟩ => z.elim)
              ⟨_, args, ς2.ob, _, hnp, en, e3, fun v H' wc Fc RX ro => ?_⟩) (fun u s' ⟨v, H', I', rv, w', F', R', ro⟩ => ⟨v, H', w', I', rv, F', R', ro⟩) fun _ _ z => z
            obtain ⟨F3, R3'⟩ := out_rel R2 ros2 e2' hn' (by rw [phR_len]; exact hol) Fc RX (fun i d ha s hs => frOk_at hfr ha s hs)
            have R3 := phantom_back R2' hsl hvl' R3' (by subst hw2; rfl)
            refine ⟨outW w2 wc, F2.trans F3, R3, ?_⟩
            cases r with
            | fr d => exact ro
            | sl i => exact ro.elim
            | tp d =>
              obtain ⟨a, rfl, h1, h2, h3, h4⟩ := ro
              rw [Fc.h0] at h1
              have h1 : H1 a = none := h1
              refine ⟨a, rfl, F1.dm a h1, ?_, h3, h4⟩
              have hw2 := R2.own0 a h1
              show (match w2.own a with | some (.slot j) => if (wc.Hf a).isNone = true then some (Loc.slot j) else none | _ => match wc.own a with | some (.slot _) => none | x => x) = none
              rw [hw2, h2]
          · cases h1
        · rename_i x outs ob e3
          split at h1
          · rename_i hfr
            cases h1
            have hol : outs.length = rs'.length := by rw [frOk_len hfr, halen]
            have tk : Takes X (XW c.toSta c.n w H x (putBack { ς2 with ob := ob } rs' outs)) := T
            refine wpAny_mono (run (fun cls dd H' => XW c.toSta c.n w H x (putBack { ς2 with ob := ob } rs' outs) cls dd σ H') (fun _ _ => False) (passAt tk σ)
              ⟨_, args, ς2.ob, _, hnp, en, e3, fun cls dd H' wc Fc RX ex => ?_⟩) (fun u s' ⟨v, H', I', rv, z⟩ => z.elim) fun _ _ z => z
            obtain ⟨F3, R3'⟩ := out_rel R2 ros2 e2' hn' (by rw [phR_len]; exact hol) Fc RX (fun i d ha s hs => frOk_at hfr ha s hs)
            have R3 := phantom_back R2' hsl hvl' R3' (by subst hw2; rfl)
            refine ⟨outW w2 wc, F2.trans F3, R3, ex.c, ?_⟩
            rcases ex.f with z | ⟨a, fs, q1, q2, q3, q5, q4⟩
            · exact .inl z
            · rw [Fc.h0] at q5
              have q5 : H1 a = none := q5
              refine .inr ⟨a, fs, q1, q2, ?_, R2.dom a q5, ?_⟩
              · have hw2 := R2.own0 a q5
                show (match w2.own a with | some (.slot j) => if (wc.Hf a).isNone = true then some (Loc.slot j) else none | _ => match wc.own a with | some (.slot _) => none | x => x) = none
                rw [hw2, q3]
              · have go : ∀ {fs gs}, FldsOk c.toSta wc fs gs → FldsOk c.toSta (outW w2 wc) fs gs := by
                  intro fs gs h
                  induction h with
                  | nil => exact .nil
                  | cons r _ ih => exact .cons r ih
                exact go q4
          · cases h1
      · cases h1


/-! ### keywords -/
def VKW0 (c : Ctx) (kws : List Keyword) (f : Act (List ER))  : Prop :=
  ∀ X, c.Ok X → ∀ (pos : Pos) (pins : List (Addr × Obj)) (s : Shared) (σ : L2.St) (H : Hp) (w : W) (ς : St) (o : Out (List ER)), f ς = some o → Inv X pins σ H s → Rel c.toSta c.n ς σ H w → XT c X w H o →
    wpAny (model X.prog X.w) X.A (evalAll ((backToKw pos (keywordEach kws X.env)).map (·.2))) (NA c X pins σ w H o) X.xe s
structure VKW (c : Ctx) (kws : List Keyword) (f : Act (List ER))  : Prop where of ::
  run : VKW0 c kws f
instance {c : Ctx} {e} {f} : CoeFun (VKW c e f) fun _ => VKW0 c e f := ⟨VKW.run⟩
theorem vk_nil : VKW c [] (Act.ret []) := .of fun X hX pos pins s σ H w ς o ho I R T => by
  cases ho
  exact wpAny_evalAll_nil ⟨[], H, w, I, .nil, Fr.refl _ _, R, .nil⟩
theorem vk_then {β : Type} {k : List ER → Act β} {o : Out β} (h : VKW c kws g) (hX : c.Ok X) {pins : List (Addr × Obj)} {s : Shared} {σ : L2.St} {H : Hp} {w : W} {ς : St} (I : Inv X pins σ H s) (R : Rel c.toSta c.n ς σ H w) (T : XT c X w H o) (ho : g.bnd k ς = some o) {Q : List Value → Shared → Prop}
    (hk : ∀ (rs : List ER) (ς1 : St) (us : List Value) (s1 : Shared) (vs : List V) (H1 : Hp) (w1 : W), k rs ς1 = some o → Inv X pins σ H1 s1 → Vals vs us → Fr w H w1 H1 → Rel c.toSta c.n ς1 σ H1 w1 → XT c X w1 H1 o → ResOks c.toSta w1 H H1 σ vs rs → Q us s1) :
    wpAny (model X.prog X.w) X.A (evalAll ((backToKw pos (keywordEach kws X.env)).map (·.2))) Q X.xe s := by
  unfold Act.bnd at ho
  cases q : g ς with
  | none => rw [q] at ho; cases ho
  | some o1 =>
    rw [q] at ho
    cases o1 with
    | ok rs ς1 => exact wpAny_mono (h X hX pos pins s σ H w ς _ q I R trivial) (fun us s1 ⟨vs, H1, w1, I1, rvs, F1, R1, ros⟩ => hk rs ς1 us s1 vs H1 w1 ho I1 rvs F1 R1 (T.from F1) ros) fun _ _ z => z
    | ex x ς1 =>
      cases ho
      exact wpAny_mono (h X hX pos pins s σ H w ς _ q I R T) (fun _ _ z => z.elim) fun u s1 z => z
theorem vk_cons (ha : VE c e f) (hr : VKW c kws g) : VKW c (⟨nm, e, kpos⟩ :: kws) (consA f g) := .of fun X hX pos pins s σ H w ς o ho I R T => by
  show wpAny _ _ (evalAll ((do let v ← eval e X.env; standAt pos; pure v) :: (backToKw pos (keywordEach kws X.env)).map (·.2))) _ _ s
  refine wpAny_evalAll_cons (wpAny_bind (ve_then ha hX I R T ho fun r ς1 u s1 v H1 w1 h1 I1 rv F1 R1 T1 ro => wpAny_bind (wpAny_standAt (wpAny_pure ?_))))
  refine vk_then hr hX I1 R1 T1 h1 fun rs ς2 us s2 vs H2 w2 h2 I2 rvs F2 R2 T2 ros => ?_
  cases h2
  exact ⟨v :: vs, H2, w2, I2, .cons rv rvs, F1.trans F2, R2, .cons (ro.carry F2) (ros.back F1.dm) fun a ha p hp hm => by
    have hn := ros.fresh p hp a hm
    cases r with
    | fr d => cases v <;> simp [tpAd] at ha
    | sl i => cases v <;> simp [tpAd] at ha
    | tp d =>
      obtain ⟨b, rfl, _, _, _, h4⟩ := ro
      simp only [tpAd, List.mem_singleton] at ha
      obtain ⟨o, h5⟩ := h4.there
      rw [ha, h5] at hn
      cases hn⟩

/-- where a keyword-only parameter's value comes from: a keyword, or its default -/
inductive SelOk (S : Sta) (m : Nat) : List (Nat ⊕ V) → List (Nat ⊕ Dat) → Prop
  | nil : SelOk S m [] []
  | kw {i : Nat} {l : List (Nat ⊕ V)} {k : List (Nat ⊕ Dat)} : i < m → SelOk S m l k → SelOk S m (.inl i :: l) (.inl i :: k)
  | df {v : V} {d : Dat} {l : List (Nat ⊕ V)} {k : List (Nat ⊕ Dat)} : (∀ w : W, Rep S w.Hf w.ads v d) → SelOk S m l k → SelOk S m (.inr v :: l) (.inr d :: k)
def pickV (zs : List V) : Nat ⊕ V → V
  | .inl i => zs.getD i .non
  | .inr v => v
def pickD (ds : List Dat) : Nat ⊕ Dat → Dat
  | .inl i => ds.getD i .non
  | .inr d => d
theorem sel_reps {S : Sta} {w : W} {zs : List V} {ds : List Dat} (h : Reps S w.Hf w.ads zs ds) {m : Nat} {l : List (Nat ⊕ V)} {k : List (Nat ⊕ Dat)} (hm : ds.length = m) (q : SelOk S m l k) : Reps S w.Hf w.ads (l.map (pickV zs)) (k.map (pickD ds)) := by
  induction q with
  | nil => exact .nil
  | @kw i l k hi _ ih =>
    refine .cons ?_ ih
    have hl : i < zs.length := by rw [h.length, hm]; exact hi
    obtain ⟨d, h1, h2⟩ := h.getV (i := i) (v := zs[i]) (by simp [hl])
    show Rep S w.Hf w.ads (zs.getD i .non) (ds.getD i .non)
    rw [List.getD_eq_getElem?_getD, List.getD_eq_getElem?_getD, h1]
    simpa [hl] using h2
  | df hr _ ih => exact .cons (hr w) ih
/-- a def of the module that does F, called with n values and keywords ks -/
structure FnAtK (S : Sta) (lvl : Nat) (x : Str) (np : Nat) (F : FD) (n : Nat) (ks : List Str) (sel : List (Nat ⊕ Dat)) : Prop where
  ex : ∃ (f : Addr) (fd : FuncData) (k : Nat) (ps : List Str) (g : List Value → List Value → List Value) (gV : List V → List V → List V) (vsel : List (Nat ⊕ V)), S.mg x = some (.ref f) ∧ PySem.W.keepIn S.K (.ref f) = true ∧ FnG S.P S.w S.K S.mg S.base (CX S.P S.w) k f fd ps (spV S np F) ∧ k ≤ lvl ∧
    KBn S.K fd ps n ks g gV ∧ (∀ vs zs, vs.length = n → zs.length = ks.length → gV vs zs = vs ++ vsel.map (pickV zs)) ∧ SelOk S ks.length vsel sel
/-- x(e, .., k = v, ..) -/
def defK (np n m : Nat) (F : FD) (io : List Bool) (sel : List (Nat ⊕ Dat)) (g gk : Act (List ER)) : Act ER := g.bnd fun rs => gk.bnd fun ks ς => (settleL ς ks).bind fun p => if rs.length = n ∧ p.1.length = m ∧ rs.length + sel.length = np then passF F io (rs ++ (sel.map (pickD p.1)).map .fr) p.2 else none
theorem ve_callK {x : Str} {np n m : Nat} {F : FD} {io : List Bool} {ks : List Str} {sel : List (Nat ⊕ Dat)} {p : Pos} (hF : FnAtK c.toSta c.lvl x np F n ks sel) (hm : ks.length = m) (hg : GlS c x) (ha : VA c (e :: es) g) (hk : VKW c kws gk) (hdb : (x == ("__debug__" : Str)) = false)
    (hall : ∀ env, (backToKw pos (keywordEach kws env)).all (·.1.isSome) = true) (hks : ∀ env, (backToKw pos (keywordEach kws env)).filterMap (·.1) = ks)
    (he : ∀ env, starEach (e :: es) env = (false, eval e env) :: starEach es env)
    (hpl : ∀ env, ((backTo pos (starEach (e :: es) env)).any (·.1) || (backToKw pos (keywordEach kws env)).any (·.1.isNone)) = false) : VE c (.Call (.Name x p) (e :: es) kws pos) (defK np n m F io sel g gk) := .of fun X hX pins s σ H w ς o ho I R T => by
  obtain ⟨fa, fd, k, ps, gg, gV, vsel, hmg, hkp, FO, hkl, hb, hgV, hsel⟩ := hF.ex
  refine wpAny_Call_Name_kw (ld_glob I (hg.gl hX) (by rw [hX.mg]; exact hmg) ?_ hdb)
  refine PySem.W.callWith_KW (h₀ := X.base) I.ok.mod.kin (by rw [hX.K]; exact hkp) (hall _) (va_then ha hX I R T ho fun rs ς1 us s1 vs H1 w1 h1 I1 rvs F1 R1 T1 ros => ?_) (hpl _) (he _)
  refine vk_then hk hX I1 R1 T1 h1 fun kr ς2 ws s2 zs H2 w2 h2 I2 rzs F2 R2 T2 rks => ⟨I2.kIn, ?_⟩
  rw [hks]
  cases q : settleL ς2 kr with
  | none => rw [q] at h2; cases h2
  | some p =>
    obtain ⟨ds, ς3⟩ := p
    rw [q] at h2
    simp only [Option.bind_some] at h2
    split at h2
    · rename_i hc
      obtain ⟨c1, c2, c3⟩ := hc
      obtain ⟨w3, F3, R3, rps, _, _⟩ := settleL_ok F2 R2 rks q
      have hl1 := ros.length
      have hl2 := rps.length
      have hdd := sel_reps rps (by rw [c2, hm]) hsel
      have l1 : us.length = n := by rw [← rvs.length, hl1, c1]
      have l2 : ws.length = ks.length := by rw [← rzs.length, hl2, c2, hm]
      have ev := hgV vs zs (by rw [hl1, c1]) (by rw [hl2, c2, hm])
      refine call_runK hX hdd (by simpa using c3) R.dom (fun E Q hx hsp => ?_) h2 (F1.trans F3) R3 T (ros.carry F3)
      have FO' : FnG X.prog X.w X.K X.mg X.base (CX X.prog X.w) k fa fd ps (spV c.toSta np F) := by rw [hX.prog, hX.w, hX.K, hX.mg, hX.base]; exact FO
      have hb' : KBn X.K fd ps n ks gg gV := by rw [hX.K]; exact hb
      rw [← ev] at hsp
      exact wpAny_call (codeAny_mono (FO'.run X.A X.stack s2 H2 ⟨us, ks.zip ws⟩ (gg us ws) (gV vs zs) Q E hX.gd (hX.room.mono hkl) I2.env0 (hb'.to s2 us ws I2.kIn l1 l2) (hb'.rel rvs rzs) hsp) fun r s' hq => match r, hq with
        | .error e, hq => hx pins H2 s2 e s' I2 hq
        | .ok (.ret u), hq => I2.after hq)
    · cases h2
end
end VS

/-! forward rules for V30..V33 -/
namespace VS
open PySem L2
section
variable {α β γ δ : Type}
@[simp ↓] theorem wp_defK (np n m : Nat) (F : FD) (io : List Bool) (sel : List (Nat ⊕ Dat)) (g gk : Act (List ER)) (ς : VS.St) (Q : ER → VS.St → Prop) (E : XQ) : WP (defK np n m F io sel g gk) ς Q E = WP g ς (fun rs ς1 => WP gk ς1 (fun ks ς2 => OQ (settleL ς2 ks) fun p => (rs.length = n ∧ p.1.length = m ∧ rs.length + sel.length = np) ∧ WP (passF F io (rs ++ (sel.map (pickD p.1)).map .fr)) p.2 Q E) E) E := by
  show WP (Act.bnd g _) ς Q E = _
  rw [wp_bnd]
  refine WP.c fun rs ς1 => ?_
  rw [wp_bnd]
  refine WP.c fun ks ς2 => ?_
  show OQ ((settleL ς2 ks).bind _) (oq Q E) = _
  rw [OQ_bind]
  refine OQ.c fun p => ?_
  by_cases h : rs.length = n ∧ p.1.length = m ∧ rs.length + sel.length = np
  · rw [if_pos h]
    exact propext ⟨fun q => ⟨h, q⟩, fun q => q.2⟩
  · rw [if_neg h, OQ_none]
    exact propext ⟨False.elim, fun q => h q.1⟩
@[simp] theorem pickD_inl (ds : List Dat) (i : Nat) : pickD ds (.inl i) = ds.getD i .non := rfl
@[simp] theorem pickD_inr (ds : List Dat) (d : Dat) : pickD ds (.inr d) = d := rfl
def enumO (rs : List ER) (ς : VS.St) : Option (List Dat × VS.St) := match rs with
  | [r] => (VS.settle ς r).bind fun p => (enumF p.1).map fun ds => (ds, p.2)
  | _ => none
@[simp] theorem x_enumO (r : ER) (ς : VS.St) : enumO [r] ς = (VS.settle ς r).bind fun p => (enumF p.1).map fun ds => (ds, p.2) := rfl
@[simp] theorem x_enumF_lst (ds : List Dat) : enumF (.lst ds) = some (enumD ds) := rfl
@[simp] theorem x_enumF_tup (ds : List Dat) : enumF (.tup ds) = some (enumD ds) := rfl
@[simp ↓] theorem wp_enumA (g : Act (List ER)) (ς : VS.St) (Q : List Dat → VS.St → Prop) (E : XQ) : WP (enumA g) ς Q E = WP g ς (fun rs ς1 => OQ (enumO rs ς1) fun p => Q p.1 p.2) E := by
  show WP (Act.bnd g _) ς Q E = _
  rw [wp_bnd]
  refine WP.c fun rs ς1 => ?_
  refine wp_leaf (enumO rs ς1) _ _ ?_
  unfold enumO
  match rs with
  | [r] =>
    show (VS.settle ς1 r).bind _ = Option.map _ ((VS.settle ς1 r).bind _)
    cases VS.settle ς1 r with
    | none => rfl
    | some p =>
      show (enumF p.1).map _ = Option.map _ ((enumF p.1).map _)
      rw [Option.map_map]; rfl
  | [] => rfl
  | _ :: _ :: _ => rfl
/-- enumerate over typed items -/
theorem enumD_map {enc : β → Dat} (xs : List β) : enumD (xs.map enc) = xs.zipIdx.map fun p => .tup [.int (p.2 : Int), enc p.1] := by
  apply List.ext_getElem?
  intro i
  by_cases h : i < xs.length
  · rw [enumD_get (d := enc xs[i]) (by simp [h])]
    simp [h]
  · rw [List.getElem?_eq_none (by simp [enumD]; omega), List.getElem?_eq_none (by simp; omega)]
def mulLO : ER → Option Dat → Option (List Dat)
  | .tp (.lst ds), some (.int k) => if 0 ≤ k ∧ k ≤ 1000 ∧ ds.length ≤ 1000 then some (List.replicate k.toNat ds).flatten else none
  | _, _ => none
@[simp] theorem x_mulLO (ds : List Dat) (k : Int) : mulLO (.tp (.lst ds)) (some (.int k)) = if 0 ≤ k ∧ k ≤ 1000 ∧ ds.length ≤ 1000 then some (List.replicate k.toNat ds).flatten else none := rfl
@[simp ↓] theorem wp_mulLA (fa fb : Act ER) (ς : VS.St) (Q : ER → VS.St → Prop) (E : XQ) : WP (mulLA fa fb) ς Q E = WP fa ς (fun r1 ς1 => WP fb ς1 (fun r2 ς2 => OQ (mulLO r1 (cur ς2 r2)) fun ds => Q (.tp (.lst ds)) ς2) E) E := by
  show WP (Act.bnd fa _) ς Q E = _
  rw [wp_bnd]
  refine WP.c fun r1 ς1 => ?_
  rw [wp_bnd]
  refine WP.c fun r2 ς2 => ?_
  refine wp_leaf (mulLO r1 (cur ς2 r2)) _ _ ?_
  unfold mulL mulLO
  generalize cur ς2 r2 = o
  cases r1 with
  | fr d => rfl
  | sl i => rfl
  | tp d => cases d with
    | lst ds => cases o with
      | none => rfl
      | some x => cases x with
        | int k =>
          show (if 0 ≤ k ∧ k ≤ 1000 ∧ ds.length ≤ 1000 then _ else none) = Option.map _ (if 0 ≤ k ∧ k ≤ 1000 ∧ ds.length ≤ 1000 then _ else none)
          split <;> rfl
        | _ => rfl
    | _ => rfl
@[simp] theorem addGT_int (i j : Int) : addGT (.int i) (.int j) = some (.fr (.int (i + j))) := rfl
@[simp] theorem addGT_str (x y : Str) : addGT (.str x) (.str y) = strCat (.str x) (.str y) := by
  show (match addG (.str x) (.str y) with | some r => some r | none => none) = _
  rw [addG_str]
  cases strCat (.str x) (.str y) <;> rfl
@[simp] theorem addGT_lst (x y : List Dat) : addGT (.lst x) (.lst y) = lstCat (.lst x) (.lst y) := by
  show (match addG (.lst x) (.lst y) with | some r => some r | none => none) = _
  rw [addG_lst]
  cases lstCat (.lst x) (.lst y) <;> rfl
@[simp] theorem addGT_tup (x y : List Dat) : addGT (.tup x) (.tup y) = tupCat (.tup x) (.tup y) := rfl
@[simp] theorem x_lstCat (x y : List Dat) : lstCat (.lst x) (.lst y) = if x.length + y.length ≤ sizeLine then some (.tp (.lst (x ++ y))) else none := rfl
@[simp] theorem x_strCat (x y : Str) : strCat (.str x) (.str y) = if x.length + y.length ≤ sizeLine then some (.fr (.str (x ++ y))) else none := rfl
@[simp] theorem x_tupCat (x0 : Dat) (x y : List Dat) : tupCat (.tup (x0 :: x)) (.tup y) = if x.length + 1 + y.length ≤ sizeLine then some (.fr (.tup (x0 :: x ++ y))) else none := rfl
theorem x_mulS {i j : Int} (h : (-(2 ^ 64) < i ∧ i < 2 ^ 64) ∨ (-(2 ^ 64) < j ∧ j < 2 ^ 64)) : mulGS (.int i) (.int j) = some (.fr (.int (i * j))) := by
  show (match mulG (.int i) (.int j) with | some r => some r | none => none) = _
  rw [x_mul h]
@[simp] theorem mulGS_str (x : Str) (n : Int) : mulGS (.str x) (.int n) = if 0 ≤ n ∧ n ≤ 1000 ∧ x.length ≤ 1000 then some (.fr (.str (repS x n.toNat))) else none := rfl
@[simp] theorem x_tuple_lst (ds : List Dat) : tupleD [.lst ds] = some (.fr (.tup ds)) := rfl
@[simp] theorem x_tuple_tup (ds : List Dat) : tupleD [.tup ds] = some (.fr (.tup ds)) := rfl
@[simp] theorem x_int1_int (i : Int) : intG [.int i] = some (.fr (.int i)) := rfl
@[simp] theorem x_int1_bl (b : Bool) : intG [.bl b] = some (.fr (.int (if b then 1 else 0))) := rfl
@[simp] theorem x_sl_lst (ds : List Dat) (lo hi : Option Int) : slD (.lst ds) lo hi = some (.tp (.lst (cutD ds lo hi))) := rfl
@[simp] theorem iaddG_int (i j : Int) : iaddG (.int i) (.int j) = some (.fr (.int (i + j))) := rfl
end
end VS

/-! plain data: what repr shows, how long it is -/
namespace VS
open PySem L2
theorem listText_len (ts : List Str) : (listText ts).length ≤ piled ts + 2 := by
  cases ts with
  | nil => decide
  | cons t r =>
    have h := textFrom_length_pos r 1 (("[" : Str) ++ (if (0 : Nat) > 0 then ", " else "" : String) ++ t) (Nat.succ_pos 0)
    have e : ((("[" : Str) ++ (if (0 : Nat) > 0 then ", " else "" : String) ++ t)).length = 1 + t.length := by
      rw [strLen_append, strLen_append]; rfl
    show (textFrom 0 "[" (t :: r) ++ "]").length ≤ _
    rw [strLen_append]
    show (textFrom 1 (("[" : Str) ++ (if (0 : Nat) > 0 then ", " else "" : String) ++ t) r).length + 1 ≤ _
    rw [h, e, piled_cons]
    omega
theorem tupleText_len (ts : List Str) : (tupleText ts).length ≤ piled ts + 3 := by
  unfold tupleText
  rw [strLen_append, strLen_append]
  have e1 : ((("(" : String) : Str)).length = 1 := rfl
  have e3 : (((if ts.length == 1 then ",)" else ")" : String) : Str)).length ≤ 2 := by split <;> decide
  rw [e1]
  by_cases h : ts = []
  · subst h
    have : (Str.join ", " []).length = 0 := rfl
    omega
  · have := join_length_add ts h
    omega
theorem piled_le {N : Nat} : ∀ ts : List Str, (∀ t ∈ ts, t.length ≤ N) → piled ts ≤ ts.length * (N + 2)
  | [], _ => Nat.zero_le _
  | t :: ts, h => by
    have ih := piled_le ts fun u hu => h u (List.mem_cons_of_mem _ hu)
    have h1 := h t (List.mem_cons_self ..)
    rw [piled_cons, List.length_cons, Nat.add_mul]
    omega
/-- what repr shows of d: at most N signs, at most k deep -/
def Sh (k N : Nat) (d : Dat) : Prop := ∃ p, toPy d = some p ∧ p.showable = true ∧ p.depth ≤ k ∧ p.shown.length ≤ N ∧ p.canLay0 = true
theorem Sh.mono {k k' N N' : Nat} {d : Dat} (h : Sh k N d) (hk : k ≤ k') (hN : N ≤ N') : Sh k' N' d := by
  obtain ⟨p, h1, h2, h3, h4, h5⟩ := h
  exact ⟨p, h1, h2, Nat.le_trans h3 hk, Nat.le_trans h4 hN, h5⟩
theorem sh_non {k : Nat} : Sh k 4 .non := ⟨.none, rfl, by simp [PyData.showable], by simp [PyData.depth], by simp only [PyData.shown]; decide, by simp [PyData.canLay0]⟩
theorem sh_bl {k : Nat} (b : Bool) : Sh k 5 (.bl b) := ⟨.bool b, rfl, by simp [PyData.showable], by simp [PyData.depth], by cases b <;> (simp only [PyData.shown]; decide), by simp [PyData.canLay0]⟩
theorem sh_int {k : Nat} {i : Int} (h : i.natAbs < 10 ^ 60) : Sh k 61 (.int i) := by
  refine ⟨.int i, rfl, ?_, by simp [PyData.depth], ?_, by simp [PyData.canLay0]⟩
  · simp only [PyData.showable, decide_eq_true_eq]
    by_cases h0 : i.natAbs = 0
    · rw [h0]; decide
    · have := (Nat.log2_lt (k := 200) h0).mpr (Nat.lt_trans h (by decide))
      omega
  · have := int_text_length_le10 (k := 60) (by decide) h
    simp only [PyData.shown]
    show (Str.ofString (toString i)).length ≤ 61
    rw [ofString_length]
    omega
/-- a text of usual signs -/
def Tx (n : Nat) (x : Str) : Prop := x.length ≤ n ∧ ∀ c ∈ x.cps.toList, c < 128
theorem Tx.mono {n m : Nat} {x : Str} (h : Tx n x) (hn : n ≤ m) : Tx m x := ⟨Nat.le_trans h.1 hn, h.2⟩
theorem sh_str {k n : Nat} {x : Str} (h : Tx n x) : Sh k (10 * n + 2) (.str x) := by
  refine ⟨.str x, rfl, by simp [PyData.showable], by simp [PyData.depth], ?_, ?_⟩
  rotate_left
  · simp only [PyData.canLay0, PyData.strOk]
    rw [← Array.all_toList, List.all_eq_true]
    exact fun c hc => by have := h.2 c hc; simp; omega
  simp only [PyData.shown]
  have := StrLaws.reprText_len x fun c hc => Nat.lt_trans (h.2 c hc) (by decide)
  have := h.1
  omega
theorem sh_all {k N : Nat} : ∀ {ds : List Dat}, (∀ d ∈ ds, Sh k N d) → ∃ ps, toPys ds = some ps ∧ PyData.showableAll ps = true ∧ PyData.depthAll ps ≤ k ∧ (PyData.shownAll ps).length = ds.length ∧ (∀ t ∈ PyData.shownAll ps, t.length ≤ N) ∧ PyData.canLayAll0 ps = true
  | [], _ => ⟨[], rfl, by simp [PyData.showableAll], by simp [PyData.depthAll], by simp [PyData.shownAll], by simp [PyData.shownAll], by simp [PyData.canLayAll0]⟩
  | d :: ds, h => by
    obtain ⟨p, h1, h2, h3, h4, h5⟩ := h d (List.mem_cons_self ..)
    obtain ⟨ps, g1, g2, g3, g4, g5, g6⟩ := sh_all fun e he => h e (List.mem_cons_of_mem _ he)
    refine ⟨p :: ps, ?_, ?_, ?_, ?_, ?_, by simp [PyData.canLayAll0, h5, g6]⟩
    · show (match toPy d, toPys ds with | some p, some ps => some (p :: ps) | _, _ => none) = _
      rw [h1, g1]
    · simp [PyData.showableAll, h2, g2]
    · simp only [PyData.depthAll]; omega
    · simp [PyData.shownAll, g4]
    · intro t ht
      simp only [PyData.shownAll, List.mem_cons] at ht
      rcases ht with rfl | ht
      · exact h4
      · exact g5 t ht
theorem sh_lst {k N : Nat} {ds : List Dat} (h : ∀ d ∈ ds, Sh k N d) : Sh (k + 1) (ds.length * (N + 2) + 3) (.lst ds) := by
  obtain ⟨ps, g1, g2, g3, g4, g5, g6⟩ := sh_all h
  refine ⟨.list ps, by show (toPys ds).map PyData.list = _; rw [g1]; rfl, by simpa [PyData.showable] using g2, by simp only [PyData.depth]; omega, ?_, by simpa [PyData.canLay0] using g6⟩
  simp only [PyData.shown]
  have := listText_len (PyData.shownAll ps)
  have := piled_le _ g5
  rw [g4] at this
  omega
theorem sh_tup {k N : Nat} {ds : List Dat} (h : ∀ d ∈ ds, Sh k N d) : Sh (k + 1) (ds.length * (N + 2) + 3) (.tup ds) := by
  obtain ⟨ps, g1, g2, g3, g4, g5, g6⟩ := sh_all h
  refine ⟨.tuple ps, by show (toPys ds).map PyData.tuple = _; rw [g1]; rfl, by simpa [PyData.showable] using g2, by simp only [PyData.depth]; omega, ?_, by simpa [PyData.canLay0] using g6⟩
  simp only [PyData.shown]
  have := tupleText_len (PyData.shownAll ps)
  have := piled_le _ g5
  rw [g4] at this
  omega
theorem repr_lst {k N : Nat} {ds : List Dat} (h : Sh k N (.lst ds)) (hk : k ≤ 60) (hN : N ≤ 16777216) : ∃ x, reprD [.lst ds] = some (.fr (.str x)) := by
  obtain ⟨p, h1, h2, h3, h4, h5⟩ := h
  refine ⟨p.shown, ?_⟩
  show (shownD (.lst ds)).map _ = _
  unfold shownD
  rw [h1]
  simp only
  rw [h2, decide_eq_true (show p.depth ≤ 60 by omega), decide_eq_true (show p.shown.length ≤ sizeLine by rw [sizeLine_eq]; omega)]
  rfl
theorem repr_tup {k N : Nat} {ds : List Dat} (h : Sh k N (.tup ds)) (hk : k ≤ 60) (hN : N ≤ 16777216) : ∃ x, reprD [.tup ds] = some (.fr (.str x)) := by
  obtain ⟨p, h1, h2, h3, h4, h5⟩ := h
  refine ⟨p.shown, ?_⟩
  show (shownD (.tup ds)).map _ = _
  unfold shownD
  rw [h1]
  simp only
  rw [h2, decide_eq_true (show p.depth ≤ 60 by omega), decide_eq_true (show p.shown.length ≤ sizeLine by rw [sizeLine_eq]; omega)]
  rfl
end VS

namespace VS
open PySem L2 PyProof.Rows

/-! ### a comprehension over a list of one's own, which stays one's own -/
mutual
def dbeq : Dat → Dat → Bool
  | .non, .non => true
  | .bl a, .bl b => a == b
  | .int i, .int j => decide (i = j)
  | .str x, .str y => decide (x = y)
  | .ty m, .ty n => decide (m = n)
  | .fn m, .fn n => decide (m = n)
  | .cl m, .cl n => decide (m = n)
  | .obj m, .obj n => decide (m = n)
  | .tup a, .tup b => dbeqs a b
  | .lst a, .lst b => dbeqs a b
  | .dic a, .dic b => dbeqk a b
  | .dit a, .dit b => dbeqk a b
  | .set a, .set b => decide (a = b)
  | _, _ => false
def dbeqs : List Dat → List Dat → Bool
  | [], [] => true
  | a :: as, b :: bs => dbeq a b && dbeqs as bs
  | _, _ => false
def dbeqk : List (Dat × Dat) → List (Dat × Dat) → Bool
  | [], [] => true
  | (a, x) :: as, (b, y) :: bs => dbeq a b && dbeq x y && dbeqk as bs
  | _, _ => false
end
mutual
theorem dbeq_eq : ∀ {a b : Dat}, dbeq a b = true → a = b
  | .non, b, h => by cases b <;> simp [dbeq] at h <;> rfl
  | .bl a, b, h => by cases b <;> simp [dbeq] at h; rw [h]
  | .int a, b, h => by cases b <;> simp [dbeq] at h; rw [h]
  | .str a, b, h => by cases b <;> simp [dbeq] at h; rw [h]
  | .ty a, b, h => by cases b <;> simp [dbeq] at h; rw [h]
  | .fn a, b, h => by cases b <;> simp [dbeq] at h; rw [h]
  | .cl a, b, h => by cases b <;> simp [dbeq] at h; rw [h]
  | .obj a, b, h => by cases b <;> simp [dbeq] at h; rw [h]
  | .tup a, b, h => by cases b <;> simp [dbeq] at h; rw [dbeqs_eq h]
  | .lst a, b, h => by cases b <;> simp [dbeq] at h; rw [dbeqs_eq h]
  | .dic a, b, h => by cases b <;> simp [dbeq] at h; rw [dbeqk_eq h]
  | .dit a, b, h => by cases b <;> simp [dbeq] at h; rw [dbeqk_eq h]
  | .set a, b, h => by cases b <;> simp [dbeq] at h; rw [h]
theorem dbeqs_eq : ∀ {a b : List Dat}, dbeqs a b = true → a = b
  | [], b, h => by cases b <;> simp [dbeqs] at h <;> rfl
  | x :: a, b, h => by
    cases b with
    | nil => simp [dbeqs] at h
    | cons y b =>
      simp [dbeqs] at h
      rw [dbeq_eq h.1, dbeqs_eq h.2]
theorem dbeqk_eq : ∀ {a b : List (Dat × Dat)}, dbeqk a b = true → a = b
  | [], b, h => by cases b <;> simp [dbeqk] at h <;> rfl
  | (x, x') :: a, b, h => by
    cases b with
    | nil => simp [dbeqk] at h
    | cons y b =>
      obtain ⟨y, y'⟩ := y
      simp [dbeqk] at h
      rw [dbeq_eq h.1.1, dbeq_eq h.1.2, dbeqk_eq h.2]
end
mutual
theorem dbeq_refl : ∀ a : Dat, dbeq a a = true
  | .non => rfl
  | .bl a => by simp [dbeq]
  | .int a => by simp [dbeq]
  | .str a => by simp [dbeq]
  | .ty a => by simp [dbeq]
  | .fn a => by simp [dbeq]
  | .cl a => by simp [dbeq]
  | .obj a => by simp [dbeq]
  | .tup a => by simp [dbeq, dbeqs_refl a]
  | .lst a => by simp [dbeq, dbeqs_refl a]
  | .dic a => by simp [dbeq, dbeqk_refl a]
  | .dit a => by simp [dbeq, dbeqk_refl a]
  | .set a => by simp [dbeq]
theorem dbeqs_refl : ∀ a : List Dat, dbeqs a a = true
  | [] => rfl
  | x :: a => by simp [dbeqs, dbeq_refl x, dbeqs_refl a]
theorem dbeqk_refl : ∀ a : List (Dat × Dat), dbeqk a a = true
  | [] => rfl
  | (x, y) :: a => by simp [dbeqk, dbeq_refl x, dbeq_refl y, dbeqk_refl a]
end
/-- the name j still has that list of its own -/
def okG (j : Nat) (ds0 : List Dat) (ς : St) : Bool := match ς.sl[j]? with
  | some (some (.ow (.lst ds))) => dbeqs ds ds0
  | _ => false
theorem okG_eq {j : Nat} {ds0 : List Dat} {ς : St} (h : okG j ds0 ς = true) : ς.sl[j]? = some (some (.ow (.lst ds0))) := by
  unfold okG at h
  split at h
  · rename_i ds e
    rw [e, dbeqs_eq h]
  · cases h
def lcRunG (j : Nat) (ds0 : List Dat) (vs : List Nat) (t : Dat → St → Option St) (ft : Act Bool) (fe : Act ER) : List Dat → St → Option (List Dat × St)
  | [], ς => if okG j ds0 ς = true then some ([], ς) else none
  | d :: ds, ς => if okG j ds0 ς = true then (match t d ς with
    | none => none
    | some ς1 => match ft ς1 with
      | some (.ok true ς2) => match fe ς2 with
        | some (.ok r ς3) => match VS.settle ς3 r with
          | some (x, ς4) => (lcRunG j ds0 vs t ft fe ds (wipeS vs ς4)).map fun p => (x :: p.1, p.2)
          | none => none
        | _ => none
      | some (.ok false ς2) => lcRunG j ds0 vs t ft fe ds (wipeS vs ς2)
      | _ => none) else none
def lcAO (j : Nat) (vs : List Nat) (t : Dat → St → Option St) (ft : Act Bool) (fe : Act ER) : Act ER := fun ς => match ς.sl[j]? with
  | some (some (.ow (.lst ds))) => if noOwn ς vs = true ∧ j ∉ vs then
      match lcRunG j ds vs t ft fe ds (wipeS vs ς) with
      | some (xs, ς') => if xs.length ≤ sizeLine then some (.ok (.tp (.lst xs)) (VS.restore ς vs ς')) else none
      | none => none
    else none
  | _ => lcA vs t ft fe (iterA (var j)) ς
/-- what a list comprehension that goes well does -/
theorem lc_readsG {c : Ctx} {X : Cx} {elt tg iter : Expr} {ifs : List Expr} {scope : Scope} {vs : List Nat} {t : Dat → St → Option St} {is : List Nat} {ft : Act Bool} {fe : Act ER} {y0 : Str} {p0 : Pos} {j : Nat} (hjN : c.N[j]? = some y0) (hjv : Vis c.sc y0) (hjd : (y0 == ("__debug__" : Str)) = false) (hjc : (y0 == ("__classdict__" : Str)) = false) (hiter : iter = .Name y0 p0) (hjvs : j ∉ vs) (hg : VG (c.blk scope) tg t is) (ht : VTs (c.blk scope) ifs ft) (he : VE (c.blk scope) elt fe)
    (his : ∀ i ∈ is, i ∈ vs) (hro : ∀ j ∈ vs, c.ro j = false) (hX : c.Ok X) {σ : L2.St} {H : Hp} {w : W} {ς1 ς2 : St} {ds xs : List Dat} (hj : ς1.sl[j]? = some (some (.ow (.lst ds)))) (R : Rel c.toSta c.n ς1 σ H w) (hno : noOwn ς1 vs = true) (hrun : lcRunG j ds vs t ft fe ds (wipeS vs ς1) = some (xs, ς2)) (hz : xs.length ≤ sizeLine)
    {Q : VK} (hQ : ∀ v H' w', Fr w H w' H' → Rel c.toSta c.n (VS.restore ς1 vs ς2) σ H' w' → ResOk c.toSta w' H H' σ v (.tp (.lst xs)) → Q v H') : tLc (wiOf X tg iter) (ggOf X scope tg) (ttOf X scope ifs) (teOf X scope elt) vs σ H Q := by
  intro pins' s' I'
  obtain ⟨v0, hσ, a, rfl, hown, hfr, hoc, _⟩ := R.slots _ _ hj
  -- what stands at a as long as the name has its list
  have hat : ∀ {ς' : St} {H' : Hp} {w' : W}, okG j ds ς' = true → Rel c.toSta c.n ς' (L2.wipe σ vs) H' w' → ∃ xs0, SqL c.K H' a xs0 ∧ Reps c.toSta w'.Hf w'.ads xs0 ds := fun {ς' H' w'} hg R' => by
    obtain ⟨v1, h1, a1, rfl, _, _, h4, _⟩ := R'.slots _ _ (okG_eq hg)
    rw [wipe_out hjvs, hσ] at h1
    cases h1
    cases h4 with
    | lst h r => exact ⟨_, .inl (.inl h), r⟩
  subst hiter
  have hve := (pe_var (X := X.nox) (pos := p0) (by show X.N[j]? = _; rw [hX.N]; exact hjN) (by show Vis X.env.scope y0; rw [hX.sc]; exact hjv) hjd hjc).run pins' s' σ H (fun v' H' => v' = .ref a ∧ H' = H) (I'.wish _) ⟨_, hσ, rfl, rfl⟩
  refine wpAny_mono hve (fun u s1 z => ?_) fun _ _ z => z.elim
  obtain ⟨v', H1', I1', rv', e1', e2'⟩ := z
  subst e1'; subst e2'
  cases rv'
  have I1 := I1'.unwish
  cases hoc with
  | @lst vs0 _ hH0 hr0 =>
  obtain ⟨its, rvl, p, hz0⟩ := I1.list (X := X) (show SqL X.K H1' a vs0 from .inl (.inl hH0))
  refine wpAny_pyIter_list p.isList ?_
  refine ⟨s1.heap.objs.size, [s1.heap.objs.size], _, _, H1', rfl, I1.kept (t' := s1.toks) fun b o e => Heap.get?_push_of_some _ e, turn_list a _, ⟨_, Heap.get?_push_size _ rfl, rfl, rfl⟩, fun b hb => by
    have e : b = s1.heap.objs.size := by simpa using hb
    subst e
    exact I1.fpOk (Nat.le_refl _) (I1.hok.fresh (Nat.le_refl _)), fun D hD => ?_⟩
  have I1 : Inv X pins' σ H1' s1 := I1
  generalize H1' = H1 at *
  have F1 : Fr w H1 w H1 := Fr.refl _ _
  have R1 := R
  generalize w = w1 at *
  -- the new list
  obtain ⟨RL, FL⟩ := R1.laid (o := .lst []) hD
  have hoD : w1.own D = none := R1.own0 D hD
  have hfD : w1.Hf D = none := by
    cases z : w1.Hf D with
    | none => rfl
    | some o => have := R1.sub D o z; rw [hD] at this; cases this
  have RW0 : Rel c.toSta c.n (wipeS vs ς1) (L2.wipe σ vs) (upd H1 D (.lst [])) w1 := RL.wipe rfl hro
  refine ⟨fun i m H' => ∃ w' ς' accV accD ds' rest, m = ds'.length ∧ ds' = ds.drop i ∧ i ≤ ds.length ∧ Fr w1 H1 w' H' ∧ Rel c.toSta c.n ς' (L2.wipe σ vs) H' w' ∧ w'.own D = none ∧ w'.Hf D = none ∧ H' D = some (.lst accV) ∧ Reps c.toSta w'.Hf w'.ads accV accD ∧ lcRunG j ds vs t ft fe ds' ς' = some (rest, ς2) ∧ accD ++ rest = xs,
    ⟨ds.length, w1, _, [], [], ds, xs, rfl, rfl, Nat.zero_le _, FL, RW0, hoD, hfD, upd_same, .nil, hrun, rfl⟩, ?_⟩
  rintro i m H2 ⟨w2, ς3, accV, accD, ds', rest, rfl, hdr, hile, F2, R2, ho2, hf2, hD2, ra, hr2, hxs⟩
  cases ds' with
  | nil =>
    have hie : i = ds.length := by have := congrArg List.length hdr; simp at this; omega
    subst hie
    unfold lcRunG at hr2
    split at hr2
    rotate_left
    · cases hr2
    rename_i hgd
    cases hr2
    obtain ⟨xs0, hs0, hrs0⟩ := hat hgd R2
    refine .inl ⟨by rw [hX.K]; exact ⟨xs0, hs0, by rw [hrs0.length]; exact Nat.le_refl _⟩, hQ _ _ w2 (F1.trans F2) (R1.restore hno F2 R2 hro) ⟨D, rfl, F1.dm D hD, ho2, hf2, ?_⟩⟩
    rw [List.append_nil] at hxs
    subst hxs
    exact .lst hD2 ra
  | cons d ds3 =>
    have hlt : i < ds.length := by have := congrArg List.length hdr; simp at this; omega
    have hdi : ds[i]? = some d := by
      have q : (ds.drop i)[0]? = some d := by rw [← hdr]; rfl
      rw [List.getElem?_drop] at q
      simpa using q
    have hdn : ds3 = ds.drop (i + 1) := by
      have q : (ds.drop i).drop 1 = ds3 := by rw [← hdr]; rfl
      rw [List.drop_drop] at q
      exact q.symm
    unfold lcRunG at hr2
    split at hr2
    rotate_left
    · cases hr2
    rename_i hgd
    obtain ⟨xs0, hs0, hrs0⟩ := hat hgd R2
    have hlx : i < xs0.length := by rw [hrs0.length]; exact hlt
    refine .inr ⟨by rw [hX.K]; exact ⟨xs0, xs0[i], hs0, by simp [hlx]⟩, fun H' => ∃ m', m' < (d :: ds3).length ∧ ∃ w' ς' accV accD ds' rest, m' = ds'.length ∧ ds' = ds.drop (i + 1) ∧ i + 1 ≤ ds.length ∧ Fr w1 H1 w' H' ∧ Rel c.toSta c.n ς' (L2.wipe σ vs) H' w' ∧ w'.own D = none ∧ w'.Hf D = none ∧ H' D = some (.lst accV) ∧ Reps c.toSta w'.Hf w'.ads accV accD ∧ lcRunG j ds vs t ft fe ds' ς' = some (rest, ς2) ∧ accD ++ rest = xs, fun H' z => z, fun x H3 hy => ?_⟩
    rw [hX.K] at hy
    obtain ⟨hHH, hy⟩ := hy
    have hx := hy xs0 hs0
    obtain ⟨d', hd', rp⟩ := hrs0.getV hx
    rw [hdi] at hd'
    cases hd'
    obtain ⟨w3, F3, R3, rp⟩ : ∃ w3, Fr w2 H2 w3 H3 ∧ Rel c.toSta c.n ς3 (L2.wipe σ vs) H3 w3 ∧ Rep c.toSta w3.Hf w3.ads x d := by
      rw [hHH]; exact ⟨w2, Fr.refl _ _, R2, rp⟩
    intro s0 H0 C cl fp' pins'' s'' u'' I'' rv''
    split at hr2
    · cases hr2
    · rename_i ς4 e4
      have keepD : ∀ {wa wb : W} {Ha Hb : Hp}, Fr wa Ha wb Hb → wa.own D = none → wa.Hf D = none → Ha D = some (.lst accV) → wb.own D = none ∧ wb.Hf D = none ∧ Hb D = some (.lst accV) := fun {wa wb Ha Hb} F h1 h2 h3 => ⟨(F.kp D _ h3 h1).2, F.nf D _ h3 h1 h2, (F.kp D _ h3 h1).1⟩
      obtain ⟨o3, f3, d3⟩ := keepD F3 ho2 hf2 hD2
      refine wpAny_mono (hg _ hX.blk pins'' s'' _ H3 w3 ς3 ς4 x u'' d e4 I'' R3 rv'' rp) (fun _ s4 ⟨σ4, w4, I4, F4, R4, k4⟩ => ⟨σ4, H3, I4, ?_, fun s0 H0 C cl fp' pins'' s'' I'' => ?_⟩) fun _ _ z => z
      · have : L2.wipe σ4 vs = L2.wipe (L2.wipe σ vs) vs := wipe_eq (by rw [I4.len]; have := I''.len; rw [this]) fun j hj => k4 j fun z => hj (his j z)
        rw [this]
        exact wipe_eq (by rw [wipe_length]) fun j hj => wipe_out hj
      · obtain ⟨o4, f4, d4⟩ := keepD F4 o3 f3 d3
        have hw4 : L2.wipe σ4 vs = L2.wipe σ vs := by
          have : L2.wipe σ4 vs = L2.wipe (L2.wipe σ vs) vs := wipe_eq (by rw [I4.len, wipe_length, I1.len]) fun j hj => k4 j fun z => hj (his j z)
          rw [this]
          exact wipe_eq (by rw [wipe_length]) fun j hj => wipe_out hj
        cases e5 : ft ς4 with
        | none => rw [e5] at hr2; cases hr2
        | some o5 =>
          cases o5 with
          | ex x5 ς5 => rw [e5] at hr2; cases hr2
          | ok b5 ς5 =>
            refine wpAny_mono (ht _ hX.blk pins'' s'' σ4 H3 w4 ς4 _ e5 I'' R4 trivial) (fun b s5 ⟨eb, H5, w5, I5, F5, R5⟩ => ⟨H5, I5, ?_⟩) fun _ _ z => z
            subst eb
            obtain ⟨o5, f5, d5⟩ := keepD F5 o4 f4 d4
            have F25 := ((F2.trans F3).trans F4).trans F5
            cases b with
            | false =>
              rw [e5] at hr2
              simp only at hr2
              simp only [Bool.false_eq_true, if_false]
              exact ⟨ds3.length, by simp, w5, _, accV, accD, ds3, rest, rfl, hdn, hlt, F25, R5.wipe hw4 hro, o5, f5, d5, ra.mono (((F3.trans F4).trans F5).hf) (((F3.trans F4).trans F5).ad), hr2, hxs⟩
            | true =>
              rw [e5] at hr2
              simp only at hr2
              simp only [if_true]
              intro s0 H0 C cl fp' pins'' s'' I''
              cases e6 : fe ς5 with
              | none => rw [e6] at hr2; cases hr2
              | some o6 =>
                cases o6 with
                | ex x6 ς6 => rw [e6] at hr2; cases hr2
                | ok r6 ς6 =>
                  rw [e6] at hr2
                  simp only at hr2
                  refine wpAny_mono (he _ hX.blk pins'' s'' σ4 H5 w5 ς5 _ e6 I'' R5 trivial) (fun u6 s6 ⟨v6, H6, w6, I6, rv6, F6, R6, ro6⟩ => ⟨v6, H6, I6, rv6, ?_⟩) fun _ _ z => z
                  cases e7 : settle ς6 r6 with
                  | none => rw [e7] at hr2; cases hr2
                  | some p7 =>
                    obtain ⟨x7, ς7⟩ := p7
                    rw [e7] at hr2
                    simp only at hr2
                    cases e8 : lcRunG j ds vs t ft fe ds3 (wipeS vs ς7) with
                    | none => rw [e8] at hr2; cases hr2
                    | some p8 =>
                      rw [e8] at hr2
                      cases hr2
                      obtain ⟨w7, F7, R7, rp7⟩ := settle_ok F6 R6 ro6 e7
                      obtain ⟨o7, f7, d7⟩ := keepD F7 o5 f5 d5
                      have F57 := F25.trans F7
                      have ra7 := ra.mono ((((F3.trans F4).trans F5).trans F7).hf) ((((F3.trans F4).trans F5).trans F7).ad)
                      have hla : accV.length < sizeLine := by
                        have h1 := ra.length
                        have h2 : (accD ++ (x7 :: p8.1)).length ≤ sizeLine := by rw [hxs]; exact hz
                        rw [List.length_append, List.length_cons] at h2
                        omega
                      refine ⟨accV, d7, hla, ds3.length, by simp, w7, _, accV ++ [v6], accD ++ [x7], ds3, p8.1, rfl, hdn, hlt, ⟨F57.hf, F57.ad, fun b u h1 h2 => ?_, F57.nf, fun b h => ?_, F57.h0, F57.as, F57.ow⟩, (R7.poke o7 f7 d7).wipe hw4 hro, o7, f7, upd_same, ra7.append (.cons rp7 .nil), e8, by rw [List.append_assoc]; exact hxs⟩
                      · have nb : b ≠ D := fun q => by rw [q, hD] at h1; cases h1
                        rw [upd_ne nb]
                        exact F57.kp b u h1 h2
                      · by_cases hb : b = D
                        · rw [hb]; exact hD
                        · rw [upd_ne hb] at h
                          exact F57.dm b h
theorem ve_lcO {c : Ctx} {elt tg : Expr} {ifs : List Expr} {scope : Scope} {own : List (Str × Nat)} {pos : Pos} {t : Dat → St → Option St} {is : List Nat} {ft : Act Bool} {fe : Act ER} {y0 : Str} {p0 : Pos} {j : Nat} (hjN : c.N[j]? = some y0) (hjv : Vis c.sc y0) (hjd : (y0 == ("__debug__" : Str)) = false) (hjc : (y0 == ("__classdict__" : Str)) = false) (hg : VG (c.blk scope) tg t is) (ht : VTs (c.blk scope) ifs ft) (he : VE (c.blk scope) elt fe)
    (ok : BlkOk c.N c.sc scope own) (his : ∀ i ∈ is, i ∈ own.map (·.2)) (hro : ∀ j ∈ own.map (·.2), c.ro j = false) (hs : ∀ env x, foldedSetIterable (.Name y0 p0) env x = pure x) :
    VE c (.ListComp elt [⟨tg, .Name y0 p0, ifs, 0⟩] scope pos) (lcAO j (own.map (·.2)) t ft fe) := .of fun X hX pins s σ H w ς o ho I R T => by
  have ho : (match ς.sl[j]? with
    | some (some (.ow (.lst ds))) => if noOwn ς (own.map (·.2)) = true ∧ j ∉ own.map (·.2) then
        match lcRunG j ds (own.map (·.2)) t ft fe ds (wipeS (own.map (·.2)) ς) with
        | some (xs, ς') => if xs.length ≤ sizeLine then some (.ok (.tp (.lst xs)) (VS.restore ς (own.map (·.2)) ς')) else none
        | none => none
      else none
    | _ => lcA (own.map (·.2)) t ft fe (iterA (var j)) ς) = some o := ho
  split at ho
  rotate_left
  · exact ve_lc (vi_val (ve_var hjN hjv hjd hjc)) hg ht he ok his hro hs X hX pins s σ H w ς o ho I R T
  rename_i ds hj
  have hN : X.N.Nodup := by rw [hX.N]; exact hX.nd
  have pe : PE X (.ListComp elt [⟨tg, .Name y0 p0, ifs, 0⟩] scope pos) (tLc (wiOf X tg (.Name y0 p0)) (ggOf X scope tg) (ttOf X scope ifs) (teOf X scope elt) (own.map (·.2))) :=
    pe_lc hX.calm hN ⟨fun pins s σ H Rr I h => h pins s I⟩ (by rw [hX.N, hX.sc]; exact ok) (fun s0 H0 C cl fp => ⟨fun pins s σ H v u Q I r h => h s0 H0 C cl fp pins s u I r⟩)
      (fun s0 H0 C cl fp => ⟨fun pins s σ H Q I h => h s0 H0 C cl fp pins s I⟩) (fun s0 H0 C cl fp => ⟨fun pins s σ H Q I h => h s0 H0 C cl fp pins s I⟩) (hs _)
  split at ho
  · rename_i hc
    split at ho
    · rename_i xs ς2 hrun
      split at ho
      · rename_i hz
        cases ho
        exact wpAny_mono (pe.run pins s σ H (fun v H' => ∃ w', Fr w H w' H' ∧ Rel c.toSta c.n (VS.restore ς (own.map (·.2)) ς2) σ H' w' ∧ ResOk c.toSta w' H H' σ v (.tp (.lst xs))) I
          (lc_readsG hjN hjv hjd hjc rfl hc.2 hg ht he his hro hX hj R hc.1 hrun hz fun v H' w' F R ro => ⟨w', F, R, ro⟩)) (fun u s' ⟨v, H', I', rv, w', F', R', ro⟩ => ⟨v, H', w', I', rv, F', R', ro⟩) fun _ _ z => z
      · cases ho
    · cases ho
  · cases ho
/-- x = [..] on one line -/
theorem vs_setLcO {c : Ctx} {elt tg : Expr} {ifs : List Expr} {scope : Scope} {own : List (Str × Nat)} {pos spos py : Pos} {y : Str} {i : Nat} {t : Dat → St → Option St} {is : List Nat} {ft : Act Bool} {fe : Act ER} (hy : c.N[i]? = some y) (hyl : c.sc.names.lookup y = some .local) (hr : c.ro i = false) {y0 : Str} {p0 : Pos} {j : Nat} (hjN : c.N[j]? = some y0) (hjv : Vis c.sc y0) (hjd : (y0 == ("__debug__" : Str)) = false) (hjc : (y0 == ("__classdict__" : Str)) = false) (hg : VG (c.blk scope) tg t is) (ht : VTs (c.blk scope) ifs ft) (he : VE (c.blk scope) elt fe)
    (ok : BlkOk c.N c.sc scope own) (his : ∀ i ∈ is, i ∈ own.map (·.2)) (hro : ∀ j ∈ own.map (·.2), c.ro j = false) (hs : ∀ env x, foldedSetIterable (.Name y0 p0) env x = pure x)
    (hk : c.sc.kind = .function) (hl : (py.line == pos.line) = true) (ha : (scope.names.any fun (n, k) => n == y && (k == .local || k == .cell)) = false) :
    VS1 c (.Assign [.Name y py] (.ListComp elt [⟨tg, .Name y0 p0, ifs, 0⟩] scope pos) spos) (setA i (lcAO j (own.map (·.2)) t ft fe)) := .of fun X hX pins s σ H w ς o ho I R T => by
  have key : (∃ ds, ς.sl[j]? = some (some (.ow (.lst ds)))) ∨ lcAO j (own.map (·.2)) t ft fe ς = lcA (own.map (·.2)) t ft fe (iterA (var j)) ς := by
    unfold lcAO
    split
    · rename_i ds e; exact .inl ⟨ds, e⟩
    · exact .inr rfl
  rcases key with ⟨ds, hj⟩ | key
  rotate_left
  · refine vs_setLc hy hyl hr (vi_val (ve_var hjN hjv hjd hjc)) hg ht he ok his hro hs hk hl ha X hX pins s σ H w ς o ?_ I R T
    rw [← ho]
    simp only [x_setA, x_bnd, key]
  have e2 : lcAO j (own.map (·.2)) t ft fe ς = if noOwn ς (own.map (·.2)) = true ∧ j ∉ own.map (·.2) then
        match lcRunG j ds (own.map (·.2)) t ft fe ds (wipeS (own.map (·.2)) ς) with
        | some (xs, ς') => if xs.length ≤ sizeLine then some (.ok (.tp (.lst xs)) (VS.restore ς (own.map (·.2)) ς')) else none
        | none => none
      else none := by
    unfold lcAO
    rw [hj]
  rw [x_setA, x_bnd, e2] at ho
  by_cases hc : noOwn ς (own.map (·.2)) = true ∧ j ∉ own.map (·.2)
  · rw [if_pos hc] at ho
    cases hrun : lcRunG j ds (own.map (·.2)) t ft fe ds (wipeS (own.map (·.2)) ς) with
    | none => rw [hrun] at ho; cases ho
    | some p =>
      obtain ⟨xs, ς2⟩ := p
      rw [hrun] at ho
      simp only at ho
      by_cases hz : xs.length ≤ sizeLine
      · rw [if_pos hz] at ho
        simp only at ho
        cases ho
        have hN : X.N.Nodup := by rw [hX.N]; exact hX.nd
        have ps : PS X (.Assign [.Name y py] (.ListComp elt [⟨tg, .Name y0 p0, ifs, 0⟩] scope pos) spos) (tAsg (tLc (wiOf X tg (.Name y0 p0)) (ggOf X scope tg) (ttOf X scope ifs) (teOf X scope elt) (own.map (·.2))) (gName i)) :=
          ps_setLc hX.calm hN (by rw [hX.N]; exact hy) (by rw [hX.sc]; exact hyl) (sw_true (by rw [hX.sc]; exact hk) (by rw [hX.sc]; exact hyl) hl ha) ⟨fun pins s σ H Rr I h => h pins s I⟩ (by rw [hX.N, hX.sc]; exact ok) (fun s0 H0 C cl fp => ⟨fun pins s σ H v u Q I r h => h s0 H0 C cl fp pins s u I r⟩)
            (fun s0 H0 C cl fp => ⟨fun pins s σ H Q I h => h s0 H0 C cl fp pins s I⟩) (fun s0 H0 C cl fp => ⟨fun pins s σ H Q I h => h s0 H0 C cl fp pins s I⟩) (hs _)
        have hlen : i < c.N.length := (List.getElem?_eq_some_iff.mp hy).1
        refine wpAny_mono (ps.run pins s σ H { nx := fun σ' H' => ∃ w', Fr w H w' H' ∧ Rel c.toSta c.n ((VS.restore ς (own.map (·.2)) ς2).set i (some (.ow (.lst xs)))) σ' H' w', rt := fun _ _ => False } I
          (lc_readsG hjN hjv hjd hjc rfl hc.2 hg ht he his hro hX hj R hc.1 hrun hz fun v H' w' F' R' ro => setR_ok F' R' (fun a h => by rw [F'.h0]; exact R.dom a h) hlen (by rw [I.len, hX.N]) hr ro rfl)) (fun fl s' z => ?_) fun _ _ z => z
        cases fl with
        | next => obtain ⟨σ', H', I', w', F', R'⟩ := z; exact ⟨σ', H', w', I', F', R'⟩
        | ret u => obtain ⟨_, _, _, _, _, z⟩ := z; exact z.elim
        | brk => obtain ⟨_, _, _, z⟩ := z; exact z.elim
        | cont => obtain ⟨_, _, _, z⟩ := z; exact z.elim
      · rw [if_neg hz] at ho; cases ho
  · rw [if_neg hc] at ho; cases ho
end VS

/-! forward rules for V36 -/
namespace VS
open PySem L2
section
variable {α β γ δ : Type}
def lcoW (j : Nat) (vs : List Nat) (t : Dat → VS.St → Option VS.St) (ft : Act Bool) (fe : Act ER) (ς : VS.St) (Q : ER → VS.St → Prop) (E : XQ) (tg : Tag3 (vs, t, ft, fe, ς) Q E := ⟨⟩) : Option (Option VS.Slot) → Prop
  | some (some (.ow (.lst ds))) => (noOwn ς vs = true ∧ j ∉ vs) ∧ OQ (lcRunG j ds vs t ft fe ds (wipeS vs ς)) fun p => p.1.length ≤ sizeLine ∧ Q (.tp (.lst p.1)) (restore ς vs p.2)
  | _ => WP (lcA vs t ft fe (iterA (var j))) ς Q E
@[simp ↓] theorem lcoW_ow (j : Nat) (vs : List Nat) (t : Dat → VS.St → Option VS.St) (ft : Act Bool) (fe : Act ER) (ς : VS.St) (Q : ER → VS.St → Prop) (E : XQ) (ds : List Dat) : lcoW j vs t ft fe ς Q E ⟨⟩ (some (some (.ow (.lst ds)))) = ((noOwn ς vs = true ∧ j ∉ vs) ∧ OQ (lcRunG j ds vs t ft fe ds (wipeS vs ς)) fun p => p.1.length ≤ sizeLine ∧ Q (.tp (.lst p.1)) (restore ς vs p.2)) := rfl
@[simp ↓] theorem lcoW_fr (j : Nat) (vs : List Nat) (t : Dat → VS.St → Option VS.St) (ft : Act Bool) (fe : Act ER) (ς : VS.St) (Q : ER → VS.St → Prop) (E : XQ) (d : Dat) : lcoW j vs t ft fe ς Q E ⟨⟩ (some (some (.fr d))) = WP (lcA vs t ft fe (iterA (var j))) ς Q E := rfl
@[simp ↓] theorem wp_lcAO (j : Nat) (vs : List Nat) (t : Dat → VS.St → Option VS.St) (ft : Act Bool) (fe : Act ER) (sl : List (Option VS.Slot)) (ob : List OVal) (Q : ER → VS.St → Prop) (E : XQ) : WP (lcAO j vs t ft fe) ⟨sl, ob⟩ Q E = lcoW j vs t ft fe ⟨sl, ob⟩ Q E ⟨⟩ sl[j]? := by
  generalize hς : (⟨sl, ob⟩ : VS.St) = ς
  have e : sl[j]? = ς.sl[j]? := by rw [← hς]
  rw [e]
  unfold WP lcAO
  generalize ς.sl[j]? = x
  rcases x with _ | _ | s
  · rfl
  · rfl
  · cases s with
    | fr d => rfl
    | ow d => cases d with
      | lst ds =>
        rw [lcoW_ow]
        show OQ (if noOwn ς vs = true ∧ j ∉ vs then _ else none) (oq Q E) = _
        by_cases hc : noOwn ς vs = true ∧ j ∉ vs
        · rw [if_pos hc]
          cases lcRunG j ds vs t ft fe ds (wipeS vs ς) with
          | none =>
            rw [OQ_none, OQ_none]
            exact propext ⟨False.elim, fun q => q.2⟩
          | some p =>
            rw [OQ_some]
            show OQ (if p.1.length ≤ sizeLine then _ else none) _ = _
            rw [OQ_ite]
            exact propext ⟨fun q => ⟨hc, q⟩, fun q => q.2⟩
        · rw [if_neg hc, OQ_none]
          exact propext ⟨False.elim, fun q => hc q.1⟩
      | _ => rfl
theorem okG_of {j : Nat} {ds : List Dat} {ς : VS.St} (h : ς.sl[j]? = some (some (.ow (.lst ds)))) : okG j ds ς = true := by
  unfold okG
  rw [h]
  exact dbeqs_refl ds
/-- a comprehension over a list of one's own, by its invariant -/
theorem lcG_inv {j : Nat} {enc : β → Dat} {vs : List Nat} {t : Dat → VS.St → Option VS.St} {ft : Act Bool} {fe : Act ER} {xs : List β} {ς : VS.St} {K : List Dat × VS.St → Prop} (I : List β → List Dat → VS.St → Prop) (h0 : I [] [] ς)
    (hj : ∀ done out ς', I done out ς' → ς'.sl[j]? = some (some (.ow (.lst (xs.map enc)))))
    (hs : ∀ (done : List β) (x : β) (rest : List β) (out : List Dat) (ς' : VS.St), xs = done ++ x :: rest → I done out ς' → OQ (t (enc x) ς') fun ς1 => WP ft ς1 (fun b ς2 => if b = true then WP fe ς2 (fun r ς3 => OQ (VS.settle ς3 r) fun p => At (I (done ++ [x]) (out ++ [p.1])) (wipeS vs p.2)) noE else At (I (done ++ [x]) out) (wipeS vs ς2)) noE)
    (hd : ∀ out ς', I xs out ς' → K (out, ς')) : OQ (lcRunG j (xs.map enc) vs t ft fe (xs.map enc) ς) K := by
  have go : ∀ (rest done : List β) (out : List Dat), xs = done ++ rest → ∀ ς, I done out ς → OQ (lcRunG j (xs.map enc) vs t ft fe (rest.map enc) ς) fun p => I xs (out ++ p.1) p.2 := fun rest => by
    induction rest with
    | nil =>
      intro done out e ς h
      refine ⟨([], ς), ?_, by show I xs (out ++ []) ς; rw [e, List.append_nil, List.append_nil]; exact h⟩
      rw [List.map_nil]
      unfold lcRunG
      rw [if_pos (okG_of (hj _ _ _ h))]
    | cons x rest ih =>
      intro done out e ς h
      obtain ⟨ς1, e1, q⟩ := hs done x rest out ς e h
      obtain ⟨b, ς2, e2, q⟩ := q.no
      rw [List.map_cons]
      unfold lcRunG
      rw [if_pos (okG_of (hj _ _ _ h)), e1]
      simp only
      rw [e2]
      cases b with
      | false => exact ih (done ++ [x]) out (by rw [e]; simp) _ q.h
      | true =>
        simp only [if_true] at q
        obtain ⟨r, ς3, e3, p, e4, q⟩ := q.no
        simp only
        rw [e3]
        simp only
        rw [e4]
        obtain ⟨p', e5, q'⟩ := ih (done ++ [x]) (out ++ [p.1]) (by rw [e]; simp) _ q.h
        refine ⟨(p.1 :: p'.1, p'.2), ?_, by simpa using q'⟩
        simp only
        rw [e5]
        rfl
  exact (go xs [] [] rfl ς h0).mono fun p q => hd p.1 p.2 (by simpa using q)
/-- .. that changes nothing -/
theorem lcG_map {j : Nat} {enc : β → Dat} {vs : List Nat} {t : Dat → VS.St → Option VS.St} {ft : Act Bool} {fe : Act ER} {xs : List β} {ς : VS.St} {K : List Dat × VS.St → Prop} (p : β → Bool) (f : β → Dat) (hj : ς.sl[j]? = some (some (.ow (.lst (xs.map enc)))))
    (hs : ∀ x ∈ xs, OQ (t (enc x) ς) fun ς1 => WP ft ς1 (fun b ς2 => b = p x ∧ if p x = true then WP fe ς2 (fun r ς3 => OQ (VS.settle ς3 r) fun q => q.1 = f x ∧ wipeS vs q.2 = ς) noE else wipeS vs ς2 = ς) noE)
    (hd : K ((xs.filter p).map f, ς)) : OQ (lcRunG j (xs.map enc) vs t ft fe (xs.map enc) ς) K := by
  refine lcG_inv (fun done out ς' => ς' = ς ∧ out = (done.filter p).map f) ⟨rfl, rfl⟩ (fun _ _ _ h => by rw [h.1]; exact hj) (fun done x rest out ς' e h => ?_) (fun out ς' h => by rw [h.1, h.2]; exact hd)
  obtain ⟨h, rfl⟩ := h
  subst h
  refine (hs x (by rw [e]; simp)).mono fun ς1 q => q.monoQ fun b ς2 q2 => ?_
  obtain ⟨rfl, q2⟩ := q2
  by_cases h : p x = true
  · rw [if_pos h] at q2 ⊢
    exact q2.monoQ fun r ς3 q => OQ.mono q fun z ⟨z1, z2⟩ => ⟨z2, by simp [h, z1]⟩
  · rw [if_neg h] at q2 ⊢
    exact ⟨q2, by simp [h]⟩
theorem lcG_map1 {j : Nat} {enc : β → Dat} {vs : List Nat} {t : Dat → VS.St → Option VS.St} {fe : Act ER} {xs : List β} {ς : VS.St} {K : List Dat × VS.St → Prop} (f : β → Dat) (hj : ς.sl[j]? = some (some (.ow (.lst (xs.map enc)))))
    (hs : ∀ x ∈ xs, OQ (t (enc x) ς) fun ς1 => WP fe ς1 (fun r ς3 => OQ (VS.settle ς3 r) fun q => q.1 = f x ∧ wipeS vs q.2 = ς) noE)
    (hd : K (xs.map f, ς)) : OQ (lcRunG j (xs.map enc) vs t (Act.ret true) fe (xs.map enc) ς) K := by
  refine lcG_map (fun _ => true) f hj (fun x hx => (hs x hx).mono fun ς1 q => ?_) (by rwa [List.filter_eq_self.mpr fun _ _ => rfl])
  rw [wp_ret]
  exact ⟨rfl, by rw [if_pos rfl]; exact q⟩
end
end VS

/-! comprehensions whose steps change a part of the state (a feed) -/
namespace VS
open PySem L2
section
variable {α β γ δ σ' : Type}
theorem lc_st {enc : β → Dat} {vs : List Nat} {t : Dat → VS.St → Option VS.St} {ft : Act Bool} {fe : Act ER} {xs : List β} {K : List Dat × VS.St → Prop} (S : σ' → VS.St) {c0 : σ'} (dec : γ → Dat) (P : β → γ → Prop)
    (hs : ∀ x ∈ xs, ∀ c, OQ (t (enc x) (S c)) fun ς1 => WP ft ς1 (fun b ς2 => if b = true then WP fe ς2 (fun r ς3 => OQ (VS.settle ς3 r) fun q => At (fun ς => ∃ y c', P x y ∧ q.1 = dec y ∧ ς = S c') (wipeS vs q.2)) noE else At (fun ς => ∃ c', ς = S c') (wipeS vs ς2)) noE)
    (hd : ∀ (ys : List γ) (c : σ'), ys.length ≤ xs.length → (∀ y ∈ ys, ∃ x ∈ xs, P x y) → K (ys.map dec, S c)) : OQ (lcRun vs t ft fe (xs.map enc) (S c0)) K := by
  refine lc_inv (fun done out ς' => ∃ (ys : List γ) (c : σ'), ς' = S c ∧ out = ys.map dec ∧ ys.length ≤ done.length ∧ ∀ y ∈ ys, ∃ x ∈ done, P x y) ⟨[], c0, rfl, rfl, Nat.le_refl _, fun _ h => nomatch h⟩ (fun done x rest out ς' e h => ?_) (fun out ς' h => ?_)
  · obtain ⟨ys, c, rfl, rfl, hl, hP⟩ := h
    refine (hs x (by rw [e]; simp) c).mono fun ς1 q => q.monoQ fun b ς2 q2 => ?_
    cases b with
    | false =>
      simp only [Bool.false_eq_true, if_false] at q2 ⊢
      obtain ⟨⟨c', e'⟩⟩ := q2
      exact ⟨⟨ys, c', e', rfl, by simp; omega, fun y hy => let ⟨z, hz, p⟩ := hP y hy; ⟨z, List.mem_append_left _ hz, p⟩⟩⟩
    | true =>
      simp only [if_true] at q2 ⊢
      refine q2.monoQ fun r ς3 q => OQ.mono q fun z hz => ?_
      obtain ⟨⟨y, c', p, e1, e2⟩⟩ := hz
      refine ⟨⟨ys ++ [y], c', e2, by simp [e1], by simp; omega, fun u hu => ?_⟩⟩
      rcases List.mem_append.mp hu with hu | hu
      · obtain ⟨z', h1, h2⟩ := hP u hu
        exact ⟨z', List.mem_append_left _ h1, h2⟩
      · rw [List.mem_singleton.mp hu]
        exact ⟨x, by simp, p⟩
  · obtain ⟨ys, c, rfl, rfl, hl, hP⟩ := h
    exact hd ys c hl hP
theorem lc_st1 {enc : β → Dat} {vs : List Nat} {t : Dat → VS.St → Option VS.St} {fe : Act ER} {xs : List β} {K : List Dat × VS.St → Prop} (S : σ' → VS.St) {c0 : σ'} (dec : γ → Dat) (P : β → γ → Prop)
    (hs : ∀ x ∈ xs, ∀ c, OQ (t (enc x) (S c)) fun ς1 => WP fe ς1 (fun r ς3 => OQ (VS.settle ς3 r) fun q => At (fun ς => ∃ y c', P x y ∧ q.1 = dec y ∧ ς = S c') (wipeS vs q.2)) noE)
    (hd : ∀ (ys : List γ) (c : σ'), ys.length = xs.length → (∀ y ∈ ys, ∃ x ∈ xs, P x y) → K (ys.map dec, S c)) : OQ (lcRun vs t (Act.ret true) fe (xs.map enc) (S c0)) K := by
  refine lc_inv (fun done out ς' => ∃ (ys : List γ) (c : σ'), ς' = S c ∧ out = ys.map dec ∧ ys.length = done.length ∧ ∀ y ∈ ys, ∃ x ∈ done, P x y) ⟨[], c0, rfl, rfl, rfl, fun _ h => nomatch h⟩ (fun done x rest out ς' e h => ?_) (fun out ς' h => ?_)
  · obtain ⟨ys, c, rfl, rfl, hl, hP⟩ := h
    refine (hs x (by rw [e]; simp) c).mono fun ς1 q => ?_
    rw [wp_ret, if_pos rfl]
    refine q.monoQ fun r ς3 q => OQ.mono q fun z hz => ?_
    obtain ⟨⟨y, c', p, e1, e2⟩⟩ := hz
    refine ⟨⟨ys ++ [y], c', e2, by simp [e1], by simp; omega, fun u hu => ?_⟩⟩
    rcases List.mem_append.mp hu with hu | hu
    · obtain ⟨z', h1, h2⟩ := hP u hu
      exact ⟨z', List.mem_append_left _ h1, h2⟩
    · rw [List.mem_singleton.mp hu]
      exact ⟨x, by simp, p⟩
  · obtain ⟨ys, c, rfl, rfl, hl, hP⟩ := h
    exact hd ys c hl hP
/-- a loop whose turns leave the state in a family of states -/
theorem wp_forS {enc : β → Dat} {t : Dat → VS.St → Option VS.St} {g : Act Flw} {xs : List β} {Q : Flw → VS.St → Prop} {E : XQ} (S : σ' → VS.St) {c0 : σ'}
    (hs : ∀ x ∈ xs, ∀ c, OQ (t (enc x) (S c)) fun ς1 => WP g ς1 (lpQ (fun ς => At (fun ς => ∃ c', ς = S c') ς) Q) E)
    (hd : ∀ c, Q .nx (S c)) : WP (forA t g (xs.map enc)) (S c0) Q E :=
  wp_for (fun _ ς => ∃ c : σ', ς = S c) ⟨c0, rfl⟩ (fun done x rest ς' e ⟨c, hc⟩ => by subst hc; exact hs x (by rw [e]; simp) c) fun ς' ⟨c, hc⟩ => by subst hc; exact hd c
end
end VS

/-! == of plain data -/
namespace VS
open PySem L2
/-- plain data -/
def Pl (d : Dat) : Prop := ∃ p, toPy d = some p ∧ SeqAt.shaped p = true
theorem Sh.pl {k N : Nat} {d : Dat} (h : Sh k N d) (hk : k ≤ 60) : Pl d := by
  obtain ⟨p, h1, h2, h3, h4, h5⟩ := h
  exact ⟨p, h1, by unfold SeqAt.shaped; rw [h5]; simp; omega⟩
theorem Pl.get {d : Dat} (h : Pl d) : ∃ p, toPy d = some p ∧ SeqAt.shaped p = true := h
def lenP : PyData → Nat
  | .list xs => xs.length
  | .tuple xs => xs.length
  | _ => 0
theorem toPys_nil : ∀ {ds : List Dat} {ps : List PyData}, toPys ds = some ps → (ps = [] ↔ ds = [])
  | [], ps, h => by cases h; simp
  | d :: ds, ps, h => by
    have h : (match toPy d, toPys ds with | some p, some ps => some (p :: ps) | _, _ => none) = some ps := h
    split at h <;> cases h
    simp
theorem eqP_nil {ds : List Dat} (h : Pl (.lst ds)) : eqP (.lst ds) (.lst []) = some (decide (ds = [])) := by
  obtain ⟨p, h1, h2⟩ := h
  unfold eqP
  rw [h1]
  have e : toPy (.lst []) = some (.list []) := rfl
  rw [e]
  have e2 : SeqAt.shaped (.list []) = true := by decide
  simp only
  rw [h2, e2]
  simp only [Bool.and_self, if_true]
  congr 1
  have h1 : (toPys ds).map PyData.list = some p := h1
  cases q : toPys ds with
  | none => rw [q] at h1; cases h1
  | some ps =>
    rw [q] at h1
    cases h1
    have := toPys_nil q
    cases ps with
    | nil => simp [PyData.eqv, PyData.eqvAll, this.mp rfl]
    | cons x xs =>
      have : ds ≠ [] := fun e => by simpa using this.mpr e
      simp [PyData.eqv, PyData.eqvAll, this]
theorem eqE_nil {ds : List Dat} (h : Pl (.lst ds)) : eqE (.lst ds) (.lst []) = some (.fr (.bl (decide (ds = [])))) := by
  unfold eqE eqD
  have e : scD (.lst ds) (.lst []) = none := rfl
  rw [e]
  simp only
  rw [eqP_nil h]
  rfl
theorem neE_nil {ds : List Dat} (h : Pl (.lst ds)) : neE (.lst ds) (.lst []) = some (.fr (.bl (!decide (ds = [])))) := by
  unfold neE eqD
  have e : scD (.lst ds) (.lst []) = none := rfl
  rw [e]
  simp only
  rw [eqP_nil h]
  rfl
theorem pl_lst {ds : List Dat} (h : ∀ d ∈ ds, Sh 50 16777216 d) : Pl (.lst ds) := (sh_lst (k := 50) (N := 16777216) h).pl (by omega)
theorem eqEm_nil {β : Type} {enc : β → Dat} {xs : List β} (h : ∀ x ∈ xs, Sh 50 16777216 (enc x)) : eqE (.lst (xs.map enc)) (.lst []) = some (.fr (.bl (decide (xs = [])))) := by
  rw [eqE_nil (pl_lst fun d hd => by obtain ⟨x, hx, rfl⟩ := List.mem_map.mp hd; exact h x hx)]
  simp
theorem neEm_nil {β : Type} {enc : β → Dat} {xs : List β} (h : ∀ x ∈ xs, Sh 50 16777216 (enc x)) : neE (.lst (xs.map enc)) (.lst []) = some (.fr (.bl (!decide (xs = [])))) := by
  rw [neE_nil (pl_lst fun d hd => by obtain ⟨x, hx, rfl⟩ := List.mem_map.mp hd; exact h x hx)]
  simp
end VS

/-! in, ==, of plain data -/
namespace VS
open PySem L2
abbrev Shs (d : Dat) : Prop := Sh 50 16777216 d
theorem Sh.s {k N : Nat} {d : Dat} (h : Sh k N d) (hk : k ≤ 50) (hN : N ≤ 16777216) : Shs d := h.mono hk hN
theorem memP_pl {a : Dat} {ds : List Dat} (ha : Shs a) (hd : ∀ d ∈ ds, Shs d) : ∃ b, memP a ds = some b := by
  obtain ⟨p, h1, h2⟩ := ha.pl (by omega)
  obtain ⟨ps, g1, g2, g3, g4, g5, g6⟩ := sh_all hd
  refine ⟨ps.any fun y => PyData.eqv y p, ?_⟩
  unfold memP
  rw [h1, g1]
  simp only
  rw [h2, g6]
  rfl
theorem inGD_of {a s : Dat} {b : Bool} (h : memD a s = some b) (k : memK a s = none) : inGD a s = some (.fr (.bl b)) ∧ ninGD a s = some (.fr (.bl (!b))) := by
  constructor
  · unfold inGD
    rw [orE_r (by unfold inE; rw [k]; rfl)]
    unfold inG
    rw [orE_l (r := .fr (.bl b)) (by unfold inE; rw [h]; rfl)]
  · unfold ninGD
    rw [orE_r (by unfold inE; rw [k]; rfl)]
    unfold ninG
    rw [orE_l (r := .fr (.bl (!b))) (by unfold inE; rw [h]; rfl)]
theorem inGD_lst {a : Dat} {ds : List Dat} {b : Bool} (h : memP a ds = some b) : inGD a (.lst ds) = some (.fr (.bl b)) ∧ ninGD a (.lst ds) = some (.fr (.bl (!b))) := inGD_of h rfl
theorem inGD_tup {a : Dat} {ds : List Dat} {b : Bool} (h : memP a ds = some b) : inGD a (.tup ds) = some (.fr (.bl b)) ∧ ninGD a (.tup ds) = some (.fr (.bl (!b))) := inGD_of h rfl
theorem in_pl {a : Dat} {ds : List Dat} (ha : Shs a) (hd : ∀ d ∈ ds, Shs d) : ∃ b, inGD a (.lst ds) = some (.fr (.bl b)) ∧ ninGD a (.lst ds) = some (.fr (.bl (!b))) :=
  let ⟨b, h⟩ := memP_pl ha hd; ⟨b, inGD_lst h⟩
theorem toPys_map {β : Type} {enc : β → Dat} {py : β → PyData} (h : ∀ x, toPy (enc x) = some (py x)) : ∀ l : List β, toPys (l.map enc) = some (l.map py)
  | [] => rfl
  | x :: l => by
    show (match toPy (enc x), toPys (l.map enc) with | some p, some ps => some (p :: ps) | _, _ => none) = _
    rw [h, toPys_map h l]
    rfl
theorem memP_map {β : Type} [DecidableEq β] {enc : β → Dat} {py : β → PyData} {x : β} {l : List β} (h : ∀ x, toPy (enc x) = some (py x)) (hx : Shs (enc x)) (hl : ∀ y ∈ l, Shs (enc y)) (he : ∀ y ∈ l, PyData.eqv (py y) (py x) = decide (y = x)) : memP (enc x) (l.map enc) = some (decide (x ∈ l)) := by
  obtain ⟨p, h1, h2⟩ := hx.pl (by omega)
  obtain ⟨ps, g1, g2, g3, g4, g5, g6⟩ := sh_all (ds := l.map enc) fun d hd => by obtain ⟨y, hy, rfl⟩ := List.mem_map.mp hd; exact hl y hy
  rw [h] at h1
  cases h1
  rw [toPys_map h] at g1
  cases g1
  unfold memP
  rw [h, toPys_map h]
  simp only
  rw [h2, g6]
  simp only [Bool.and_self, if_true]
  congr 1
  rw [List.any_map, Bool.eq_iff_iff, List.any_eq_true, decide_eq_true_eq]
  constructor
  · rintro ⟨y, hy, e⟩
    have e : PyData.eqv (py y) (py x) = true := e
    rw [he y hy] at e
    exact of_decide_eq_true e ▸ hy
  · intro hm
    exact ⟨x, hm, by show PyData.eqv (py x) (py x) = true; rw [he x hm]; simp⟩
theorem memP_str {n : Nat} {x : Str} {ws : List Str} (hn : n ≤ 1000000) (hx : Tx n x) (hw : ∀ w ∈ ws, Tx n w) : memP (.str x) (ws.map .str) = some (decide (x ∈ ws)) :=
  memP_map (py := .str) (fun _ => rfl) ((sh_str (k := 0) hx).s (by omega) (by omega)) (fun y hy => (sh_str (k := 0) (hw y hy)).s (by omega) (by omega)) fun y _ => by simp only [PyData.eqv]; rfl
theorem in_strs {n : Nat} {x : Str} {ws : List Str} (hn : n ≤ 1000000) (hx : Tx n x) (hw : ∀ w ∈ ws, Tx n w) : inGD (.str x) (.lst (ws.map .str)) = some (.fr (.bl (decide (x ∈ ws)))) := (inGD_lst (memP_str hn hx hw)).1
theorem nin_strs {n : Nat} {x : Str} {ws : List Str} (hn : n ≤ 1000000) (hx : Tx n x) (hw : ∀ w ∈ ws, Tx n w) : ninGD (.str x) (.lst (ws.map .str)) = some (.fr (.bl (!decide (x ∈ ws)))) := (inGD_lst (memP_str hn hx hw)).2
theorem in_strsT {n : Nat} {x : Str} {ws : List Str} (hn : n ≤ 1000000) (hx : Tx n x) (hw : ∀ w ∈ ws, Tx n w) : inGD (.str x) (.tup (ws.map .str)) = some (.fr (.bl (decide (x ∈ ws)))) := (inGD_tup (memP_str hn hx hw)).1
theorem nin_strsT {n : Nat} {x : Str} {ws : List Str} (hn : n ≤ 1000000) (hx : Tx n x) (hw : ∀ w ∈ ws, Tx n w) : ninGD (.str x) (.tup (ws.map .str)) = some (.fr (.bl (!decide (x ∈ ws)))) := (inGD_tup (memP_str hn hx hw)).2
theorem eq_pl {a b : Dat} (ha : Pl a) (hb : Pl b) : ∃ r, eqE a b = some (.fr (.bl r)) ∧ neE a b = some (.fr (.bl (!r))) := by
  have h : ∃ r, eqD a b = some r := by
    unfold eqD
    cases scD a b with
    | some k => exact ⟨k, rfl⟩
    | none =>
      obtain ⟨p, h1, h2⟩ := ha
      obtain ⟨q, g1, g2⟩ := hb
      refine ⟨PyData.eqv p q, ?_⟩
      show eqP a b = _
      unfold eqP
      rw [h1, g1]
      simp only
      rw [h2, g2]
      rfl
  obtain ⟨r, h⟩ := h
  exact ⟨r, by unfold eqE; rw [h]; rfl, by unfold neE; rw [h]; rfl⟩
@[simp] theorem x_min2 (i j : Int) : minD [.int i, .int j] = some (.fr (.int (if j < i then j else i))) := rfl
@[simp] theorem x_max2 (i j : Int) : maxD [.int i, .int j] = some (.fr (.int (if j > i then j else i))) := rfl
mutual
theorem eqv_refl : ∀ p : PyData, p.canLay0 = true → PyData.eqv p p = true
  | .none, _ => by simp [PyData.eqv]
  | .bool _, _ => by simp [PyData.eqv]
  | .int _, _ => by simp [PyData.eqv]
  | .str _, _ => by simp [PyData.eqv]
  | .list xs, h => by simp only [PyData.eqv]; exact eqvAll_refl xs (by simpa [PyData.canLay0] using h)
  | .tuple xs, h => by simp only [PyData.eqv]; exact eqvAll_refl xs (by simpa [PyData.canLay0] using h)
  | .dict _, h => by simp [PyData.canLay0] at h
theorem eqvAll_refl : ∀ ps : List PyData, PyData.canLayAll0 ps = true → PyData.eqvAll ps ps = true
  | [], _ => by simp [PyData.eqvAll]
  | p :: ps, h => by
    have h := h
    simp only [PyData.canLayAll0, Bool.and_eq_true] at h
    simp only [PyData.eqvAll, Bool.and_eq_true]
    exact ⟨eqv_refl p h.1, eqvAll_refl ps h.2⟩
end
theorem scD_refl {a : Dat} {k : Bool} (h : scD a a = some k) : k = true := by
  cases a <;> simp [scD] at h <;> first | exact h | exact h.symm
theorem eq_refl {a : Dat} (ha : Pl a) : eqE a a = some (.fr (.bl true)) ∧ neE a a = some (.fr (.bl false)) := by
  have h : eqD a a = some true := by
    unfold eqD
    cases q : scD a a with
    | some k => rw [scD_refl q]
    | none =>
      obtain ⟨p, h1, h2⟩ := ha
      show eqP a a = _
      unfold eqP
      rw [h1]
      simp only
      rw [h2]
      simp only [Bool.and_self, if_true]
      rw [eqv_refl p (SeqAt.canLay_of_shaped h2)]
  exact ⟨by unfold eqE; rw [h]; rfl, by unfold neE; rw [h]; rfl⟩
end VS

/-! slices -/
namespace VS
open PySem L2
theorem cut_to (xs : List Dat) {k : Int} (h : 0 ≤ k) : cutD xs none (some k) = xs.take k.toNat := by
  obtain ⟨n, rfl⟩ : ∃ n : Nat, k = n := ⟨k.toNat, by omega⟩
  unfold cutD
  rw [HT.sIx_none, HT.sIx_nat]
  simp
theorem cut_from (xs : List Dat) {k : Int} (h : 0 ≤ k) : cutD xs (some k) none = xs.drop k.toNat := by
  obtain ⟨n, rfl⟩ : ∃ n : Nat, k = n := ⟨k.toNat, by omega⟩
  unfold cutD
  rw [HT.sIx_none, HT.sIx_nat]
  by_cases h : n ≤ xs.length
  · rw [Nat.min_eq_left h]
    rw [List.take_of_length_le (by simp)]
    simp
  · rw [Nat.min_eq_right (by omega)]
    simp
    omega
@[simp] theorem cut_to_lit (xs : List Dat) (n : Nat) : cutD xs none (some (no_index (OfNat.ofNat n))) = xs.take n := cut_to xs (Int.natCast_nonneg n)
@[simp] theorem cut_to_cast (xs : List Dat) (n : Nat) : cutD xs none (some (n : Int)) = xs.take n := cut_to xs (Int.natCast_nonneg n)
@[simp] theorem cut_from_lit (xs : List Dat) (n : Nat) : cutD xs (some (no_index (OfNat.ofNat n))) none = xs.drop n := cut_from xs (Int.natCast_nonneg n)
@[simp] theorem cut_from_cast (xs : List Dat) (n : Nat) : cutD xs (some (n : Int)) none = xs.drop n := cut_from xs (Int.natCast_nonneg n)
/-- a part of a tuple, not the whole -/
theorem sl_tup_to {xs : List Dat} {k : Int} (h : 0 ≤ k) (hk : k < xs.length) : slD (.tup xs) none (some k) = some (.fr (.tup (xs.take k.toNat))) := by
  obtain ⟨n, rfl⟩ : ∃ n : Nat, k = n := ⟨k.toNat, by omega⟩
  show (if (HT.sIx xs.length 0 none = 0 ∧ HT.sIx xs.length xs.length (some (n : Int)) = xs.length) then none else some (ER.fr (.tup (cutD xs none (some (n : Int)))))) = _
  rw [HT.sIx_nat, if_neg (by omega), cut_to_cast]
  rfl
end VS

/-! repr of data within which empty dicts may stand -/
namespace VS
open PySem L2 PyProof.Rows
mutual
def toSh : Dat → Option PyData
  | .non => some .none
  | .bl b => some (.bool b)
  | .int i => some (.int i)
  | .str x => some (.str x)
  | .tup ds => (toShs ds).map .tuple
  | .lst ds => (toShs ds).map .list
  | .dic [] => some (.dict [])
  | _ => none
def toShs : List Dat → Option (List PyData)
  | [] => some []
  | d :: ds => match toSh d, toShs ds with
    | some p, some ps => some (p :: ps)
    | _, _ => none
end
section
variable {c : Ctx} {X : Cx} {S : Sta} {pins : List (Addr × Obj)} {σ : L2.St} {s : Shared} {H : Hp} {w : W}
theorem reprEntries_nil {prog : Program} {w : World} {h : Heap} {bs : List Addr} {n : Nat} : ReprEntriesK prog w bs h n [] [] := .nil
/-- an empty dict -/
theorem dic_nil (I : Inv X pins σ H s) {a : Addr} (h : Rd H a (.dK [])) : (a == sysModules) = false ∧ ∃ o ep, s.heap.get? a = some o ∧ o.cls = .type "dict" ∧ o.data = .dict #[] ep := by
  obtain ⟨_, hd, vs, rel, o, es, ep, ho, hx, hdat, _, hp, _⟩ := dk_rd I.hok h
  cases rel
  refine ⟨hd, o, ep, ho, hx.1, ?_⟩
  have hl := hp.length
  rw [List.length_nil] at hl
  have : es = #[] := by
    apply Array.toList_inj.mp
    rw [List.length_eq_zero_iff.mp hl]
  rw [hdat, this]
mutual
theorem Rep.shk {prog : Program} {wd : World} (I : Inv X pins σ H s) (hK : X.K = S.K) (sub : Ext w.Hf H) : ∀ {d : Dat} {v : V} {u : Value} {p : PyData}, Rep S w.Hf w.ads v d → toSh d = some p → RelV v u → p.showable = true → p.shown.length ≤ sizeLine →
    ∃ as bs, Reads s.heap u p as ∧ ReadAtMost s.heap p.depth bs ∧ ReprK prog wd bs s.heap p.depth u p.shown
  | .non, _, _, _, .non, e, r, _, _ => by
    cases e; cases r
    exact ⟨_, [], Reads.none, (fun _ h => nomatch h), by simp only [PyData.shown]; exact .of_is ReprIs.none _ _ _⟩
  | .bl b, _, _, _, .bl _, e, r, _, _ => by
    cases e; cases r
    exact ⟨_, [], Reads.bool b, (fun _ h => nomatch h), by simp only [PyData.shown]; exact .of_is (ReprIs.bool b) _ _ _⟩
  | .int i, _, _, _, .int _, e, r, hs, _ => by
    cases e
    obtain ⟨t, rfl⟩ := r
    exact ⟨_, [], Reads.int i t, (fun _ h => nomatch h), by simp only [PyData.shown]; exact .of_is (ReprIs.int t (by simpa [PyData.showable] using hs)) _ _ _⟩
  | .str x, _, _, _, .str _, e, r, _, hz => by
    cases e
    obtain ⟨t, rfl⟩ := r
    exact ⟨_, [], Reads.str x t, (fun _ h => nomatch h), by simp only [PyData.shown]; exact .of_is (ReprIs.str x t (by simpa only [PyData.shown] using hz)) _ _ _⟩
  | .tup ds, _, _, _, .tup (a := a) hq rp, e, r, hs, hz => by
    unfold toSh at e
    cases q : toShs ds with
    | none => rw [q] at e; cases e
    | some ps =>
      rw [q] at e
      cases e
      cases r
      obtain ⟨its, rv, ⟨o, ho, hc, n, hd⟩, _⟩ := I.tuple (show SqT X.K H a _ by rw [hK]; exact sub.sqT hq)
      have hz' : (tupleText (PyData.shownAll ps)).length ≤ sizeLine := by simpa only [PyData.shown] using hz
      obtain ⟨as, bs, h1, h2, h3⟩ := Reps.shk (prog := prog) (wd := wd) I hK sub rp q rv (by simpa [PyData.showable] using hs) (fun t ht => Nat.le_trans (tupleText_mem_le ht) hz')
      have rd : Reads s.heap (.ref a) (.tuple ps) _ := .tuple ho hc hd h1
      have hna : a ∉ bs := not_mem_of_deeper rd (by simp only [PyData.depth]; omega) h2
      refine ⟨_, a :: bs, rd, ReadAtMost.cons rd (by simp only [PyData.depth]; omega) h2, ?_⟩
      simp only [PyData.depth, PyData.shown]
      exact ReprK.tuple ho hc hd hna h3
  | .lst ds, _, _, _, .lst (a := a) hq rp, e, r, hs, hz => by
    unfold toSh at e
    cases q : toShs ds with
    | none => rw [q] at e; cases e
    | some ps =>
      rw [q] at e
      cases e
      cases r
      obtain ⟨its, rv, ⟨o, n, ho, hc, _, hd⟩, _⟩ := I.list (show SqL X.K H a _ by rw [hK]; exact sub.sqL hq)
      have hz' : (listText (PyData.shownAll ps)).length ≤ sizeLine := by simpa only [PyData.shown] using hz
      obtain ⟨as, bs, h1, h2, h3⟩ := Reps.shk (prog := prog) (wd := wd) I hK sub rp q rv (by simpa [PyData.showable] using hs) (fun t ht => Nat.le_trans (listText_mem_le ht) hz')
      have rd : Reads s.heap (.ref a) (.list ps) _ := .list ho hc hd h1
      have hna : a ∉ bs := not_mem_of_deeper rd (by simp only [PyData.depth]; omega) h2
      refine ⟨_, a :: bs, rd, ReadAtMost.cons rd (by simp only [PyData.depth]; omega) h2, ?_⟩
      simp only [PyData.depth, PyData.shown]
      cases its with
      | nil =>
        cases h1
        simp only [PyData.shownAll, listText_nil]
        exact ReprK.listEmpty ho hc hd
      | cons x l => exact ReprK.list ho hc hd hna (by simpa using h3.length_eq) (fun i y e => h3.item i y (by simpa using e))
  | .dic [], _, _, _, .dicK (a := a) hr rk, e, r, _, _ => by
    cases e
    cases r
    cases rk
    obtain ⟨hsys, o, ep, ho, hc, hd⟩ := dic_nil I (sub.rd hr)
    have rd : Reads s.heap (.ref a) (.dict []) _ := .dict ho hc hd .nil .nil
    refine ⟨_, [a], rd, ReadAtMost.cons rd (n := 0) (by omega) (fun _ h => nomatch h), ?_⟩
    simp only [PyData.depth, PyData.shown, PyData.shownKv]
    exact ReprK.dict (as := []) ho hc hd hsys (by simp) .nil
  | .dic (_ :: _), _, _, _, _, e, _, _, _ => by cases e
  | .ty _, _, _, _, _, e, _, _, _ => by cases e
  | .fn _, _, _, _, _, e, _, _, _ => by cases e
  | .cl _, _, _, _, _, e, _, _, _ => by cases e
  | .obj _, _, _, _, _, e, _, _, _ => by cases e
  | .dit _, _, _, _, _, e, _, _, _ => by cases e
  | .set _, _, _, _, _, e, _, _, _ => by cases e
theorem Reps.shk {prog : Program} {wd : World} (I : Inv X pins σ H s) (hK : X.K = S.K) (sub : Ext w.Hf H) : ∀ {ds : List Dat} {vs : List V} {us : List Value} {ps : List PyData}, Reps S w.Hf w.ads vs ds → toShs ds = some ps → Vals vs us → PyData.showableAll ps = true → (∀ t ∈ PyData.shownAll ps, t.length ≤ sizeLine) →
    ∃ as bs, ReadsAll s.heap us ps as ∧ ReadAtMost s.heap (PyData.depthAll ps) bs ∧ ReprAllK prog wd bs s.heap (PyData.depthAll ps) us (PyData.shownAll ps)
  | [], _, _, _, .nil, e, rv, _, _ => by
    cases e; cases rv
    exact ⟨_, [], .nil, (fun _ h => nomatch h), by simp only [PyData.shownAll]; exact .nil⟩
  | d :: ds, _, _, _, .cons r t, e, rv, hs, hz => by
    unfold toShs at e
    cases q : toSh d with
    | none => rw [q] at e; cases e
    | some p =>
      cases q' : toShs ds with
      | none => rw [q, q'] at e; cases e
      | some ps =>
        rw [q, q'] at e
        cases e
        cases rv with
        | cons rx rxs =>
          have hs' : p.showable = true ∧ PyData.showableAll ps = true := by simpa [PyData.showableAll] using hs
          obtain ⟨a1, b1, r1, m1, k1⟩ := Rep.shk (prog := prog) (wd := wd) I hK sub r q rx hs'.1 (hz _ (by simp only [PyData.shownAll]; exact List.mem_cons_self ..))
          obtain ⟨a2, b2, r2, m2, k2⟩ := Reps.shk (prog := prog) (wd := wd) I hK sub t q' rxs hs'.2 (fun t ht => hz t (by simp only [PyData.shownAll]; exact List.mem_cons_of_mem _ ht))
          refine ⟨_, b1 ++ b2, .cons r1 r2, ?_, ?_⟩
          · simp only [PyData.depthAll]
            exact (m1.mono (Nat.le_max_left _ _)).append (m2.mono (Nat.le_max_right _ _))
          · simp only [PyData.depthAll, PyData.shownAll]
            exact .cons ((k1.more fun b hb => List.mem_append_left _ hb).level_le (Nat.le_max_left _ _)) (k2.more_le (fun b hb => List.mem_append_right _ hb) (Nat.le_max_right _ _))
end
def shownZ (d : Dat) : Option Str := match toSh d with
  | some p => if (p.showable && decide (p.depth ≤ 60) && decide (p.shown.length ≤ sizeLine)) = true then some p.shown else none
  | none => none
/-- repr of any plain thing -/
def reprZ : List Dat → Option ER
  | [.bl b] => some (.fr (.str (if b then "True" else "False")))
  | [.non] => some (.fr (.str "None"))
  | [.int i] => if i.natAbs.log2 < 1920 then some (.fr (.str (toString i))) else none
  | [.str x] => if (reprText x).length ≤ sizeLine then some (.fr (.str (reprText x))) else none
  | [.dic []] => some (.fr (.str (dictText [])))
  | [.lst ds] => (shownZ (.lst ds)).map fun x => .fr (.str x)
  | [.tup ds] => (shownZ (.tup ds)).map fun x => .fr (.str x)
  | _ => none
theorem pn_reprZ : PN c (.builtin "repr") reprZ := fun X hX pins s σ H w ς vs us ds r I R rvs va e => by
  have hu := hX.hu
  unfold reprZ at e
  split at e
  · cases e
    obtain ⟨v, rfl, hv⟩ := va.one
    obtain rfl := hv.bl
    obtain ⟨u, rfl, rx⟩ := vals1 rvs
    cases rx
    exact PySem.P.repr_of_bool (ne_fr (v := .str _) (I.tok _) ⟨_, rfl⟩ R (.str _))
  · cases e
    obtain ⟨v, rfl, hv⟩ := va.one
    obtain rfl := hv.non
    obtain ⟨u, rfl, rx⟩ := vals1 rvs
    cases rx
    exact PySem.P.repr_of_none (ne_fr (v := .str _) (I.tok _) ⟨_, rfl⟩ R (.str _))
  · split at e
    · rename_i hi
      cases e
      obtain ⟨v, rfl, hv⟩ := va.one
      obtain rfl := hv.int
      obtain ⟨u, rfl, rx⟩ := vals1 rvs
      obtain ⟨t, rfl⟩ := rx
      exact PySem.P.repr_of_int hi (ne_fr (v := .str _) (I.tok _) ⟨_, rfl⟩ R (.str _))
    · cases e
  · split at e
    · rename_i hi
      cases e
      obtain ⟨v, rfl, hv⟩ := va.one
      obtain rfl := hv.str
      obtain ⟨u, rfl, rx⟩ := vals1 rvs
      obtain ⟨t, rfl⟩ := rx
      exact PySem.P.repr_of_str (ne_fr (v := .str _) (I.tok _) ⟨_, rfl⟩ R (.str _)) hi
    · cases e
  · cases e
    obtain ⟨v, rfl, hv⟩ := va.one
    obtain ⟨a, l, rfl, hr, rk⟩ := hv.dicK R.sub
    cases rk
    obtain ⟨u, rfl, rx⟩ := vals1 rvs
    cases rx
    obtain ⟨hsys, o, ep, ho, hc, hd⟩ := dic_nil I hr
    exact call_repr_slot (by omega) ⟨o, ho, hc⟩ F.slot_dict_repr (call_dict_reprK (as := []) (d := 0) ho hc hd hsys (by simp) .nil (g := []) hX.gd (fun b _ => Clear.nil b) (by show X.A.units + 1 + 1 < cLine; omega) (fun _ _ e => e)
      (fun h' u tk hk => ⟨_, _, rfl, ne_fr (v := .str (dictText [])) (I.kept hk) ⟨_, rfl⟩ R (.str _)⟩) (by decide))
  · rename_i ds
    cases q : shownZ (.lst ds) with
    | none => rw [q] at e; cases e
    | some x =>
      rw [q] at e
      cases e
      obtain ⟨v, rfl, hv⟩ := va.one
      obtain ⟨a, ws, rfl, hq, rp⟩ := hv.lst R.sub
      obtain ⟨u, rfl, rx⟩ := vals1 rvs
      cases rx
      unfold shownZ at q
      split at q
      · rename_i p hp
        split at q
        · rename_i hcc
          cases q
          rw [Bool.and_eq_true, Bool.and_eq_true] at hcc
          have hp : (toShs ds).map PyData.list = some p := hp
          cases q : toShs ds with
          | none => rw [q] at hp; cases hp
          | some ps =>
            rw [q] at hp
            cases hp
            obtain ⟨its, rv, ⟨o, n, ho, hc, _, hd⟩, _⟩ := I.list (show SqL X.K H a _ by rw [hX.K]; exact hq)
            have hz' : (listText (PyData.shownAll ps)).length ≤ sizeLine := by simpa only [PyData.shown] using of_decide_eq_true hcc.2
            have hdp : (PyData.list ps).depth ≤ 60 := of_decide_eq_true hcc.1.2
            simp only [PyData.depth] at hdp
            obtain ⟨as, bs, h1, h2, h3⟩ := Reps.shk (prog := X.prog) (wd := X.w) I hX.K R.sub rp q rv (by simpa [PyData.showable] using hcc.1.1) (fun t ht => Nat.le_trans (listText_mem_le ht) hz')
            have rd : Reads s.heap (.ref a) (.list ps) _ := .list ho hc hd h1
            have hna : a ∉ bs := not_mem_of_deeper rd (by simp only [PyData.depth]; omega) h2
            refine call_repr_slot (by omega) ⟨o, ho, hc⟩ F.slot_list_repr.toG ?_
            simp only [PyData.shown]
            cases its with
            | nil =>
              cases h1
              simp only [PyData.shownAll, listText_nil]
              exact call_list_repr_empty ⟨o, ho, hc⟩ ho hd ⟨_, _, rfl, ne_fr (v := .str "[]") (I.tok _) ⟨_, rfl⟩ R (.str _)⟩
            | cons x l =>
              exact call_list_reprK ho hc hd hna (by simpa using h3.length_eq) (fun i y e => h3.item i y (by simpa using e)) (g := []) hX.gd (fun b _ => Clear.nil b) (by show X.A.units + 1 + (PyData.depthAll ps + 1) < cLine; omega) (fun _ _ e => e)
                (fun h' u tk hk => ⟨_, _, rfl, ne_fr (v := .str (listText (PyData.shownAll ps))) (I.kept hk) ⟨_, rfl⟩ R (.str _)⟩) hz'
        · cases q
      · cases q
  · rename_i ds
    cases q : shownZ (.tup ds) with
    | none => rw [q] at e; cases e
    | some x =>
      rw [q] at e
      cases e
      obtain ⟨v, rfl, hv⟩ := va.one
      obtain ⟨a, ws, rfl, hq, rp⟩ := hv.tup R.sub
      obtain ⟨u, rfl, rx⟩ := vals1 rvs
      cases rx
      unfold shownZ at q
      split at q
      · rename_i p hp
        split at q
        · rename_i hcc
          cases q
          rw [Bool.and_eq_true, Bool.and_eq_true] at hcc
          have hp : (toShs ds).map PyData.tuple = some p := hp
          cases q : toShs ds with
          | none => rw [q] at hp; cases hp
          | some ps =>
            rw [q] at hp
            cases hp
            obtain ⟨its, rv, ⟨o, ho, hc, n, hd⟩, _⟩ := I.tuple (show SqT X.K H a _ by rw [hX.K]; exact hq)
            have hz' : (tupleText (PyData.shownAll ps)).length ≤ sizeLine := by simpa only [PyData.shown] using of_decide_eq_true hcc.2
            have hdp : (PyData.tuple ps).depth ≤ 60 := of_decide_eq_true hcc.1.2
            simp only [PyData.depth] at hdp
            obtain ⟨as, bs, h1, h2, h3⟩ := Reps.shk (prog := X.prog) (wd := X.w) I hX.K R.sub rp q rv (by simpa [PyData.showable] using hcc.1.1) (fun t ht => Nat.le_trans (tupleText_mem_le ht) hz')
            have rd : Reads s.heap (.ref a) (.tuple ps) _ := .tuple ho hc hd h1
            have hna : a ∉ bs := not_mem_of_deeper rd (by simp only [PyData.depth]; omega) h2
            refine call_repr_slot (by omega) ⟨o, ho, hc⟩ F.slot_tuple_repr ?_
            simp only [PyData.shown]
            exact call_tuple_reprK ho hc hd hna h3 (g := []) hX.gd (fun b _ => Clear.nil b) (by show X.A.units + 1 + (PyData.depthAll ps + 1) < cLine; omega) (fun _ _ e => e)
              (fun h' u tk hk => ⟨_, _, rfl, ne_fr (v := .str (tupleText (PyData.shownAll ps))) (I.kept hk) ⟨_, rfl⟩ R (.str _)⟩) hz'
        · cases q
      · cases q
  · cases e
end
end VS

/-! xs[::-1], t[::-1] -/
namespace VS
open PySem L2 PyProof.Rows HT
section
variable {prog : Program} {w : World} {A : Around} {E : Value → Shared → Prop} {s : Shared}
theorem adjust_rev (n : Nat) : Builtin.Slice.sliceAdjust none none (-1) (n : Int) = ((n : Int) - 1, -1) := by
  unfold Builtin.Slice.sliceAdjust
  simp
theorem places_rev (n : Nat) : Builtin.Slice.slicePlaces ((n : Int) - 1) (-1) (-1) = n := by
  unfold Builtin.Slice.slicePlaces
  have h1 : ¬ ((-1 : Int) > 0) := by decide
  rw [if_neg h1]
  by_cases h : (n : Int) - 1 > -1
  · rw [if_pos h, show (-(-1 : Int)) = 1 by decide, Int.ediv_one]
    omega
  · rw [if_neg h]
    omega
theorem sliceApplied_rev {sl : Addr} {vl vu vs : Value} {n : Nat} {Q : Int × Int × Nat → Shared → Prop} (hs : s.heap.IsSliceOf sl vl vu vs) (pl : IsPart vl none) (pu : IsPart vu none) (ps : IsPart vs (some (-1)))
    (h : Q ((n : Int) - 1, -1, n) s) : wpAny (model prog w) A (Builtin.Slice.sliceApplied (.ref sl) (pure (n : Int))) Q E s := by
  obtain ⟨os, hos, hcs, hds⟩ := id hs
  unfold Builtin.Slice.sliceApplied Builtin.Slice.sliceFields
  refine wpAny_bind (wpAny_bind (wpAny_field hos hds (x := vl) rfl (wpAny_bind (wpAny_field hos hds (x := vu) rfl (wpAny_bind (wpAny_field hos hds (x := vs) rfl (wpAny_pure ?_)))))))
  refine wpAny_bind (slicePart_ ps ?_)
  show wpAny _ _ (if ((-1 : Int) == 0) = true then _ else _) _ _ s
  rw [if_neg (by decide)]
  refine wpAny_bind (slicePart_ pl (wpAny_bind (slicePart_ pu (wpAny_bind (wpAny_pure ?_)))))
  show wpAny _ _ (match Builtin.Slice.sliceAdjust none none (-1) (n : Int) with | (lo, hi) => pure (lo, (-1 : Int), Builtin.Slice.slicePlaces lo hi (-1))) _ _ s
  rw [adjust_rev n]
  show wpAny _ _ (pure ((n : Int) - 1, (-1 : Int), Builtin.Slice.slicePlaces ((n : Int) - 1) (-1) (-1))) _ _ s
  rw [places_rev]
  exact wpAny_pure h
theorem fm_congr {α β : Type} {f g : α → Option β} : ∀ (l : List α), (∀ x ∈ l, f x = g x) → l.filterMap f = l.filterMap g
  | [], _ => rfl
  | x :: l, h => by
    rw [List.filterMap_cons, List.filterMap_cons, h x (List.mem_cons_self ..), fm_congr l fun y hy => h y (List.mem_cons_of_mem _ hy)]
theorem pick_rev (xs : Array Value) : ((List.range xs.size).filterMap fun (m : Nat) => xs[((xs.size : Int) - 1 + (m : Int) * (-1)).toNat]?).toArray = xs.toList.reverse.toArray := by
  congr 1
  obtain ⟨l⟩ := xs
  simp only [List.size_toArray, List.getElem?_toArray]
  apply List.ext_getElem?
  intro i
  have e : ∀ m, m < l.length → l[((l.length : Int) - 1 + (m : Int) * (-1)).toNat]? = l.reverse[m]? := fun m hm => by
    rw [List.getElem?_reverse hm]
    congr 1
    omega
  have e2 : (List.range l.length).filterMap (fun (m : Nat) => l[((l.length : Int) - 1 + (m : Int) * (-1)).toNat]?) = (List.range l.length).filterMap fun m => l.reverse[m]? := fm_congr _ fun m hm => e m (List.mem_range.mp hm)
  rw [e2]
  have e3 : ∀ (k : List Value), (List.range k.length).filterMap (fun m => k[m]?) = k := fun k => by
    induction k with
    | nil => rfl
    | cons x k ih =>
      rw [List.length_cons, List.range_succ_eq_map, List.filterMap_cons]
      simp only [List.getElem?_cons_zero, List.filterMap_map]
      congr 1
  have := e3 l.reverse
  rw [List.length_reverse] at this
  rw [this]
theorem getItem_tuple_rev {t sl : Addr} {items : Array Value} {vl vu vs : Value} {Q : Value → Shared → Prop} (ht : IsTup s.heap t items) (hs : s.heap.IsSliceOf sl vl vu vs) (pl : IsPart vl none) (pu : IsPart vu none) (ps : IsPart vs (some (-1)))
    (h : Q (.ref s.heap.objs.size) { s with heap := s.heap.push { cls := .type "tuple", data := .seq items.toList.reverse.toArray } })
    (hsz : items.size ≤ sizeLine) : wpAny (model prog w) A (getItem (.ref t) (.ref sl)) Q E s := by
  have htake : sizeOk (.seq items.toList.reverse.toArray) := by
    show items.toList.reverse.toArray.size ≤ sizeLine
    rw [List.size_toArray, List.length_reverse, Array.length_toList]
    exact hsz
  obtain ⟨os, hos, hcs, hds⟩ := id hs
  have hTs : s.TypeIs (.ref sl) "slice" := ⟨os, hos, hcs⟩
  unfold getItem
  try with_reducible refine wpAny_holding ?_
  first | refine wpAny_bind (wpAny_pure ?_) | skip
  refine wpAny_bind (wpAny_sequenceKey ht.typeIs (by decide) ?_)
  refine wpAny_bind (wpAny_callSpecial?_slot (name := Str.ofString "__getitem__") ht.typeIs PyProof.Rows.slot_tuple_getitem
    (wpAny_call_entry PyProof.Rows.slot_tuple_getitem ht.typeIs entry_tuple_getitem ?_ (args_tuple_getitem _ _)))
  show wpAny _ _ (Builtin.Tuple.tupleItemsOf (.ref t) >>= _) _ _ s
  refine wpAny_bind (tupleItemsOf_ ht ?_)
  refine wpAny_bind (wpAny_typeOf hTs ?_)
  rw [if_pos (by decide)]
  refine wpAny_bind (sliceApplied_rev hs pl pu ps ?_)
  have hno : ¬ ((((items.size : Int) - 1) == 0 && (-1 : Int) == 1 && items.size == items.size) = true) := by
    intro q
    rw [Bool.and_eq_true, Bool.and_eq_true] at q
    exact absurd (eq_of_beq q.1.2) (by decide)
  show wpAny _ _ (if (((items.size : Int) - 1) == 0 && (-1 : Int) == 1 && items.size == items.size) = true then _ else _) _ _ s
  rw [if_neg hno, pick_rev]
  first
    | exact wpAny_bind (m := Builtin.Tuple.tupleExact _) (wpAny_newObj_type (wpAny_pure ⟨_, rfl, wpAny_pure h⟩) htake)
    | exact wpAny_bind (m := Builtin.Tuple.tupleExact _) (wpAny_newObj_type (wpAny_bind (wpAny_pure (wpAny_pure ⟨_, rfl, wpAny_pure h⟩))) htake)
    | exact wpAny_bind (wpAny_bind (m := Builtin.Tuple.tupleExact _) (wpAny_newObj_type (wpAny_pure (wpAny_pure ⟨_, rfl, wpAny_pure h⟩)) htake))
    | exact wpAny_bind (wpAny_bind (m := Builtin.Tuple.tupleExact _) (wpAny_newObj_type (wpAny_pure ⟨_, rfl, wpAny_pure h⟩) htake))
end
section
variable {c : Ctx} {e : Expr} {f : Act ER} {pos p2 p3 p4 : Pos} {k : Nat} {fst : Act (Option Int)}
def revD : Dat → Option ER
  | .lst ds => some (.tp (.lst ds.reverse))
  | .tup ds => some (.fr (.tup ds.reverse))
  | _ => none
/-- x[::-1] -/
def revA (f : Act ER) (fst : Act (Option Int)) : Act ER := f.bnd fun r => fst.bnd fun k ς => if k = some (-1) then ((cur ς r).bind revD).map fun q => .ok q ς else none
theorem Reps.rev {S : Sta} {w : W} : ∀ {vs : List V} {ds : List Dat}, Reps S w.Hf w.ads vs ds → Reps S w.Hf w.ads vs.reverse ds.reverse
  | _, _, .nil => .nil
  | _, _, .cons r t => by
    rw [List.reverse_cons, List.reverse_cons]
    exact (Reps.rev t).append (.cons r .nil)
theorem ve_rev (he : VE c e f) (hst : VP c (some (.UnaryOp .USub (.Constant (.int 1) k p3) p4)) fst) : VE c (.Subscript e (.Slice none none (some (.UnaryOp .USub (.Constant (.int 1) k p3) p4)) p2) pos) (revA f fst) := .of fun X hX pins s σ H w ς o ho I R T => by
  refine Subscript_ (ve_then he hX I R T ho fun r ς1 u s1 v H1 w1 h1 I1 rv F1 R1 T1 ro => ?_)
  refine wpAny_Slice ?_
  rw [evalPart_none]
  refine wpAny_pure (wpAny_pure (vp_then hst hX I1 R1 T1 h1 fun k ς3 us s3 H3 w3 h3 I3 ps F3 R3 T3 => ?_))
  have I4 : Inv X pins σ H3 { s3 with heap := s3.heap.push { cls := .type "slice", data := .fields #[.none, .none, us] } } := I3.kept (t' := s3.toks) fun b ob q => Heap.get?_push_of_some _ q
  split at h3
  · rename_i hk
    subst hk
    have FF := F1.trans F3
    cases e1 : cur ς3 r with
    | none => rw [e1] at h3; cases h3
    | some d =>
      rw [e1] at h3
      simp only [Option.bind_some] at h3
      have vw := R3.view (ro.carry F3) e1
      cases e2 : revD d with
      | none => rw [e2] at h3; cases h3
      | some q =>
        rw [e2] at h3
        cases h3
        unfold revD at e2
        split at e2
        · rename_i ds
          cases e2
          obtain ⟨p, ws, rfl, hp, rp⟩ := vw.lst R3.sub
          cases rv
          obtain ⟨its, rr, ht, hz⟩ := I4.list (show SqL X.K H3 p _ by rw [hX.K]; exact hp)
          have hlen := rr.length
          refine tail_any (ops := [.ref p, .ref s3.heap.objs.size]) ht.isList.typeIs (PySem.slot_list_getitem.lookup) ?_ (by with_unfolding_all rfl)
          refine wpAny_getItem_list_slice ht.isList (Heap.IsSliceOf.new _ .none .none us) .none .none ps (by decide) ?_ (by rw [List.size_toArray]; omega)
          rw [PySem.W.krv_pick]
          have hf := I4.hok.fresh (Nat.le_refl _)
          exact NE.from FF (ne_lst (I4.laid (t' := s3.toks) (o := .lst ws.reverse) (fun b ob q => Heap.get?_push_of_some _ q) (Nat.le_refl _) ⟨by rw [List.length_reverse]; exact hz, _, 0, rr.reverse, Heap.get?_push_size _ rfl⟩) hf R3 rp.rev)
        · rename_i ds
          cases e2
          obtain ⟨p, ws, rfl, hp, rp⟩ := vw.tup R3.sub
          cases rv
          obtain ⟨its, rr, ht, hz⟩ := I4.tuple (show SqT X.K H3 p _ by rw [hX.K]; exact hp)
          have hlen := rr.length
          refine tail_any (ops := [.ref p, .ref s3.heap.objs.size]) ht.typeIs (PyProof.Rows.slot_tuple_getitem.lookup) ?_ (by with_unfolding_all rfl)
          refine getItem_tuple_rev ht (Heap.IsSliceOf.new _ .none .none us) .none .none ps ?_ (by rw [List.size_toArray]; omega)
          have hf := I4.hok.fresh (Nat.le_refl _)
          exact NE.from FF (ne_tup (I4.laid (t' := s3.toks) (o := .tup ws.reverse) (fun b ob q => Heap.get?_push_of_some _ q) (Nat.le_refl _) ⟨by rw [List.length_reverse]; exact hz, _, rr.reverse, IsTup.new _ _⟩) hf R3 rp.rev)
        · cases e2
  · cases h3
@[simp] theorem x_rev_lst (ds : List Dat) : revD (.lst ds) = some (.tp (.lst ds.reverse)) := rfl
@[simp] theorem x_rev_tup (ds : List Dat) : revD (.tup ds) = some (.fr (.tup ds.reverse)) := rfl
@[simp ↓] theorem wp_revA (f : Act ER) (fst : Act (Option Int)) (ς : VS.St) (Q : ER → VS.St → Prop) (E : XQ) : WP (revA f fst) ς Q E = WP f ς (fun r ς1 => WP fst ς1 (fun k ς2 => k = some (-1) ∧ OQ ((cur ς2 r).bind revD) fun q => Q q ς2) E) E := by
  show WP (Act.bnd f _) ς Q E = _
  rw [wp_bnd]
  refine WP.c fun r ς1 => ?_
  rw [wp_bnd]
  refine WP.c fun k ς2 => ?_
  by_cases h : k = some (-1)
  · refine (wp_leaf ((cur ς2 r).bind revD) (fun q => q) (fun _ => ς2) (by show (if k = some (-1) then _ else _) = _; rw [if_pos h])).trans ?_
    exact propext ⟨fun q => ⟨h, q⟩, fun q => q.2⟩
  · unfold WP
    show OQ (if k = some (-1) then _ else none) _ = _
    rw [if_neg h, OQ_none]
    exact propext ⟨False.elim, fun q => h q.1⟩
end
end VS

/-! dicts by whole numbers; what repr shows of data with {} in it; lists of truths; rising lists -/
namespace VS
open PySem L2
/-- a dict by whole numbers -/
def iD (F : List (Int × Dat)) : List (Dat × Dat) := F.map fun p => (Dat.int p.1, p.2)
def ig : List (Int × Dat) → Int → Option Dat
  | [], _ => none
  | p :: F, k => if p.1 = k then some p.2 else ig F k
def ip (F : List (Int × Dat)) (k : Int) (d : Dat) : List (Int × Dat) := if (ig F k).isSome = true then F.map (fun p => if p.1 = k then (p.1, d) else p) else F ++ [(k, d)]
theorem iD_len (F : List (Int × Dat)) : (iD F).length = F.length := by simp [iD]
theorem getK_iD (k : Int) : ∀ F : List (Int × Dat), getK (iD F) (.inl k) = ig F k
  | [] => rfl
  | p :: F => by
    show (if keyD (.int p.1) = some (.inl k) then some p.2 else getK (iD F) (.inl k)) = if p.1 = k then some p.2 else ig F k
    rw [getK_iD k F]
    have e : keyD (.int p.1) = some (.inl p.1) := rfl
    rw [e]
    by_cases h : p.1 = k
    · rw [if_pos (by rw [h]), if_pos h]
    · rw [if_neg (by intro q; cases q; exact h rfl), if_neg h]
theorem put_iD (k : Int) (d : Dat) (F : List (Int × Dat)) : putKD (iD F) (.inl k) d = iD (ip F k d) := by
  unfold putKD ip
  rw [getK_iD]
  by_cases h : (ig F k).isSome = true
  · rw [if_pos h, if_pos h]
    unfold iD
    rw [List.map_map, List.map_map]
    refine List.map_congr_left fun p _ => ?_
    simp only [Function.comp]
    have e : keyD (.int p.1) = some (.inl p.1) := rfl
    rw [e]
    by_cases h : p.1 = k
    · rw [if_pos (by rw [h]), if_pos h]
    · rw [if_neg (by intro q; cases q; exact h rfl), if_neg h]
  · rw [if_neg h, if_neg h]
    simp [iD, kD]
theorem ig_mem {k : Int} : ∀ {F : List (Int × Dat)}, (ig F k).isSome = true ↔ k ∈ F.map (·.1)
  | [] => by simp [ig]
  | p :: F => by
    have ih := ig_mem (k := k) (F := F)
    unfold ig
    by_cases h : p.1 = k
    · simp [h]
    · rw [if_neg h, ih]
      have : ¬ k = p.1 := fun e => h e.symm
      simp [this]
theorem ig_some {k : Int} {d : Dat} : ∀ {F : List (Int × Dat)}, ig F k = some d → (k, d) ∈ F
  | p :: F, h => by
    unfold ig at h
    by_cases e : p.1 = k
    · rw [if_pos e] at h
      cases h
      rw [← e]
      exact List.mem_cons_self ..
    · rw [if_neg e] at h
      exact List.mem_cons_of_mem _ (ig_some h)
theorem ip_keys (F : List (Int × Dat)) (k : Int) (d : Dat) : (ip F k d).map (·.1) = if k ∈ F.map (·.1) then F.map (·.1) else F.map (·.1) ++ [k] := by
  unfold ip
  by_cases h : (ig F k).isSome = true
  · rw [if_pos h, if_pos (ig_mem.mp h), List.map_map]
    refine List.map_congr_left fun p _ => ?_
    simp only [Function.comp]
    split <;> rfl
  · rw [if_neg h, if_neg fun q => h (ig_mem.mpr q)]
    simp
theorem ip_len (F : List (Int × Dat)) (k : Int) (d : Dat) : (ip F k d).length ≤ F.length + 1 := by
  have := congrArg List.length (ip_keys F k d)
  rw [List.length_map] at this
  rw [this]
  split <;> simp
theorem ip_mem {F : List (Int × Dat)} {k : Int} {d : Dat} : ∀ p ∈ ip F k d, p = (k, d) ∨ p ∈ F := fun p hp => by
  unfold ip at hp
  split at hp
  · obtain ⟨q, hq, rfl⟩ := List.mem_map.mp hp
    by_cases e : q.1 = k
    · rw [if_pos e, e]; exact .inl rfl
    · rw [if_neg e]; exact .inr hq
  · rcases List.mem_append.mp hp with hp | hp
    · exact .inr hp
    · exact .inl (List.mem_singleton.mp hp)
theorem ip_nodup {F : List (Int × Dat)} {k : Int} {d : Dat} (h : (F.map (·.1)).Nodup) : ((ip F k d).map (·.1)).Nodup := by
  rw [ip_keys]
  split
  · exact h
  · rename_i hk
    rw [List.nodup_append]
    exact ⟨h, by simp, fun a ha b hb e => hk (by rw [← List.mem_singleton.mp hb, ← e]; exact ha)⟩
theorem keysI_iD : ∀ F : List (Int × Dat), keysI (iD F) = some (F.map (·.1))
  | [] => rfl
  | p :: F => by
    show (keysI (iD F)).map (p.1 :: ·) = _
    rw [keysI_iD F]
    rfl
/-- pairs for dict() -/
def ipD (p : Int × Dat) : Dat := .tup [.int p.1, p.2]
theorem pairs_iD : ∀ F : List (Int × Dat), pairsD (F.map ipD) = some (F.map fun p => (Sum.inl p.1, p.2))
  | [] => rfl
  | p :: F => by
    show (match keyD (.int p.1), pairsD (F.map ipD) with | some j, some l => some ((j, p.2) :: l) | _, _ => none) = _
    rw [pairs_iD F]
    rfl
theorem merge_iD : ∀ (F acc : List (Int × Dat)), mergeD (iD acc) (F.map fun p => (Sum.inl p.1, p.2)) = iD (F.foldl (fun a p => ip a p.1 p.2) acc)
  | [], acc => rfl
  | p :: F, acc => by
    show mergeD (putKD (iD acc) (.inl p.1) p.2) (F.map fun p => (Sum.inl p.1, p.2)) = _
    rw [put_iD]
    exact merge_iD F _
theorem dict_iD (F : List (Int × Dat)) : dictP [.lst (F.map ipD)] = some (.tp (.dic (iD (F.foldl (fun a p => ip a p.1 p.2) [])))) := by
  show (pairsD (F.map ipD)).map (fun l => ER.tp (.dic (mergeD [] l))) = _
  rw [pairs_iD]
  have e := merge_iD F []
  show some (ER.tp (.dic (mergeD (iD []) _))) = _
  rw [e]
theorem fold_ip {P : Int × Dat → Prop} : ∀ (F acc : List (Int × Dat)), (∀ p ∈ F, P p) → (∀ p ∈ acc, P p) → (acc.map (·.1)).Nodup → (∀ p ∈ F.foldl (fun a p => ip a p.1 p.2) acc, P p) ∧ ((F.foldl (fun a p => ip a p.1 p.2) acc).map (·.1)).Nodup
  | [], acc, _, h, n => ⟨h, n⟩
  | p :: F, acc, hF, h, n => by
    refine fold_ip F _ (fun q hq => hF q (List.mem_cons_of_mem _ hq)) (fun q hq => ?_) (ip_nodup n)
    rcases ip_mem q hq with rfl | hq
    · exact hF p (List.mem_cons_self ..)
    · exact h q hq
theorem sort_iD {F : List (Int × Dat)} (h : F.length < 64) : sortG [.dic (iD F)] = some (.tp (.lst ((isort (F.map (·.1))).map .int))) := by
  have e1 : sortD [.dic (iD F)] = none := rfl
  unfold sortG orN
  rw [e1]
  have e2 : sortK [.dic (iD F)] = some (.tp (.lst ((isort (F.map (·.1))).map .int))) := by
    show ((keysI (iD F)).bind fun ks => if ks.length < 64 then some (ER.tp (.lst ((isort ks).map .int))) else none) = _
    rw [keysI_iD]
    exact if_pos (by rw [List.length_map]; exact h)
  rw [e2]
theorem in_iD (k : Int) (F : List (Int × Dat)) : inGD (.int k) (.dic (iD F)) = some (.fr (.bl (ig F k).isSome)) ∧ ninGD (.int k) (.dic (iD F)) = some (.fr (.bl (!(ig F k).isSome))) := by
  rw [inGD_dic, ninGD_dic, getK_iD]
  exact ⟨rfl, rfl⟩
/-! repr -/
/-- what repr shows of d: at most N signs, at most k deep; {} may stand in it -/
def Shz (k N : Nat) (d : Dat) : Prop := ∃ p, toSh d = some p ∧ p.showable = true ∧ p.depth ≤ k ∧ p.shown.length ≤ N
theorem Shz.mono {k k' N N' : Nat} {d : Dat} (h : Shz k N d) (hk : k ≤ k') (hN : N ≤ N') : Shz k' N' d := by
  obtain ⟨p, h1, h2, h3, h4⟩ := h
  exact ⟨p, h1, h2, Nat.le_trans h3 hk, Nat.le_trans h4 hN⟩
mutual
theorem toSh_of : ∀ {d : Dat} {p : PyData}, toPy d = some p → toSh d = some p
  | .non, _, h => h
  | .bl _, _, h => h
  | .int _, _, h => h
  | .str _, _, h => h
  | .tup ds, _, h => by
    unfold toPy at h
    cases q : toPys ds with
    | none => rw [q] at h; cases h
    | some ps => rw [q] at h; unfold toSh; rw [toShs_of q]; exact h
  | .lst ds, _, h => by
    unfold toPy at h
    cases q : toPys ds with
    | none => rw [q] at h; cases h
    | some ps => rw [q] at h; unfold toSh; rw [toShs_of q]; exact h
  | .dic _, _, h => by cases h
  | .dit _, _, h => by cases h
  | .ty _, _, h => by cases h
  | .fn _, _, h => by cases h
  | .cl _, _, h => by cases h
  | .obj _, _, h => by cases h
  | .set _, _, h => by cases h
theorem toShs_of : ∀ {ds : List Dat} {ps : List PyData}, toPys ds = some ps → toShs ds = some ps
  | [], _, h => h
  | d :: ds, _, h => by
    unfold toPys at h
    cases q : toPy d with
    | none => rw [q] at h; cases h
    | some p =>
      cases q2 : toPys ds with
      | none => rw [q, q2] at h; cases h
      | some ps => rw [q, q2] at h; unfold toShs; rw [toSh_of q, toShs_of q2]; exact h
end
theorem Sh.z {k N : Nat} {d : Dat} (h : Sh k N d) : Shz k N d := by
  obtain ⟨p, h1, h2, h3, h4, _⟩ := h
  exact ⟨p, toSh_of h1, h2, h3, h4⟩
theorem shz_emp {k : Nat} : Shz (k + 1) 2 (.dic []) := ⟨.dict [], rfl, by simp [PyData.showable, PyData.showableKv], by simp [PyData.depth, PyData.depthKv], by simp only [PyData.shown, PyData.shownKv]; decide⟩
theorem shz_all {k N : Nat} : ∀ {ds : List Dat}, (∀ d ∈ ds, Shz k N d) → ∃ ps, toShs ds = some ps ∧ PyData.showableAll ps = true ∧ PyData.depthAll ps ≤ k ∧ (PyData.shownAll ps).length = ds.length ∧ (∀ t ∈ PyData.shownAll ps, t.length ≤ N)
  | [], _ => ⟨[], rfl, by simp [PyData.showableAll], by simp [PyData.depthAll], by simp [PyData.shownAll], by simp [PyData.shownAll]⟩
  | d :: ds, h => by
    obtain ⟨p, h1, h2, h3, h4⟩ := h d (List.mem_cons_self ..)
    obtain ⟨ps, g1, g2, g3, g4, g5⟩ := shz_all fun e he => h e (List.mem_cons_of_mem _ he)
    refine ⟨p :: ps, ?_, ?_, ?_, ?_, ?_⟩
    · show (match toSh d, toShs ds with | some p, some ps => some (p :: ps) | _, _ => none) = _
      rw [h1, g1]
    · simp [PyData.showableAll, h2, g2]
    · simp only [PyData.depthAll]; omega
    · simp [PyData.shownAll, g4]
    · intro t ht
      simp only [PyData.shownAll, List.mem_cons] at ht
      rcases ht with rfl | ht
      · exact h4
      · exact g5 t ht
theorem shz_lst {k N : Nat} {ds : List Dat} (h : ∀ d ∈ ds, Shz k N d) : Shz (k + 1) (ds.length * (N + 2) + 3) (.lst ds) := by
  obtain ⟨ps, g1, g2, g3, g4, g5⟩ := shz_all h
  refine ⟨.list ps, by show (toShs ds).map PyData.list = _; rw [g1]; rfl, by simpa [PyData.showable] using g2, by simp only [PyData.depth]; omega, ?_⟩
  simp only [PyData.shown]
  have := listText_len (PyData.shownAll ps)
  have := piled_le _ g5
  rw [g4] at this
  omega
theorem shz_tup {k N : Nat} {ds : List Dat} (h : ∀ d ∈ ds, Shz k N d) : Shz (k + 1) (ds.length * (N + 2) + 3) (.tup ds) := by
  obtain ⟨ps, g1, g2, g3, g4, g5⟩ := shz_all h
  refine ⟨.tuple ps, by show (toShs ds).map PyData.tuple = _; rw [g1]; rfl, by simpa [PyData.showable] using g2, by simp only [PyData.depth]; omega, ?_⟩
  simp only [PyData.shown]
  have := tupleText_len (PyData.shownAll ps)
  have := piled_le _ g5
  rw [g4] at this
  omega
/-- repr of a thing with a bound of its text -/
theorem reprZ_of {k N : Nat} {d : Dat} (h : Shz k N d) (hk : k ≤ 60) (hN : N ≤ 8000000) : ∃ x, reprZ [d] = some (.fr (.str x)) ∧ x.length ≤ N := by
  obtain ⟨p, h0, h1, h2, h3⟩ := h
  have hz : sizeLine = 16777216 := sizeLine_eq
  refine ⟨p.shown, ?_, h3⟩
  have sz : ∀ {e : Dat}, toSh e = some p → shownZ e = some p.shown := fun {e} he => by
    unfold shownZ
    rw [he]
    simp only
    rw [h1, decide_eq_true (show p.depth ≤ 60 by omega), decide_eq_true (show p.shown.length ≤ sizeLine by omega)]
    rfl
  cases d with
  | non => cases h0; simp [reprZ, PyData.shown]
  | bl b => cases h0; cases b <;> simp [reprZ, PyData.shown]
  | int i =>
    cases h0
    simp only [PyData.showable, decide_eq_true_eq] at h1
    simp [reprZ, PyData.shown, h1]
  | str x =>
    cases h0
    simp only [PyData.shown] at h3
    have h4 : (reprText x).length ≤ sizeLine := by omega
    simp [reprZ, PyData.shown, h4]
  | lst ds =>
    show (shownZ (.lst ds)).map _ = _
    rw [sz h0]
    rfl
  | tup ds =>
    show (shownZ (.tup ds)).map _ = _
    rw [sz h0]
    rfl
  | dic kvs =>
    cases kvs with
    | nil => cases h0; simp [reprZ, PyData.shown, PyData.shownKv]
    | cons a r => cases h0
  | _ => cases h0
/-! lists of truths -/
theorem blsM {β : Type} (f : β → Bool) : ∀ l : List β, blsD (l.map fun k => Dat.bl (f k)) = some (l.map f)
  | [] => rfl
  | k :: l => by
    show (blsD (l.map fun k => Dat.bl (f k))).map (f k :: ·) = _
    rw [blsM f l]
    rfl
theorem allM {β : Type} (f : β → Bool) (l : List β) : allD [.lst (l.map fun k => .bl (f k))] = some (.fr (.bl (l.all f))) := by
  show (blsD _).map (fun bs => ER.fr (.bl (bs.all id))) = _
  rw [blsM]
  simp [List.all_map]
theorem anyM {β : Type} (f : β → Bool) (l : List β) : anyD [.lst (l.map fun k => .bl (f k))] = some (.fr (.bl (l.any f))) := by
  show (blsD _).map (fun bs => ER.fr (.bl (bs.any id))) = _
  rw [blsM]
  simp [List.any_map]
theorem sh_i {k : Nat} {i : Int} (h : i.natAbs < 10 ^ 60) : Sh k 61 (.int i) := sh_int h
theorem in_ints (k : Int) (l : List Int) (hk : k.natAbs < 10 ^ 60) (hl : ∀ x ∈ l, x.natAbs < 10 ^ 60) : inGD (.int k) (.lst (l.map .int)) = some (.fr (.bl (decide (k ∈ l)))) ∧ ninGD (.int k) (.lst (l.map .int)) = some (.fr (.bl (!decide (k ∈ l)))) :=
  inGD_lst (memP_map (py := .int) (fun _ => rfl) ((sh_int (k := 0) hk).s (by omega) (by omega)) (fun y hy => (sh_int (k := 0) (hl y hy)).s (by omega) (by omega)) fun y _ => by simp only [PyData.eqv]; rfl)
theorem toPys_ints : ∀ l : List Int, toPys (l.map .int) = some (l.map .int)
  | [] => rfl
  | k :: l => by
    show (match toPy (.int k), toPys (l.map .int) with | some p, some ps => some (p :: ps) | _, _ => none) = _
    rw [toPys_ints l]
    rfl
theorem lay_ints : ∀ l : List Int, PyData.canLayAll0 (l.map .int) = true
  | [] => by unfold List.map PyData.canLayAll0; rfl
  | k :: l => by
    rw [List.map_cons]
    unfold PyData.canLayAll0 PyData.canLay0
    rw [lay_ints l]
    rfl
theorem depth_ints : ∀ l : List Int, PyData.depthAll (l.map .int) ≤ 1
  | [] => by unfold List.map PyData.depthAll; exact Nat.zero_le _
  | k :: l => by
    have := depth_ints l
    rw [List.map_cons]
    unfold PyData.depthAll PyData.depth
    omega
theorem shaped_ints (l : List Int) : SeqAt.shaped (.list (l.map .int)) = true := by
  unfold SeqAt.shaped
  rw [Bool.and_eq_true]
  refine ⟨?_, decide_eq_true ?_⟩
  · unfold PyData.canLay0; exact lay_ints l
  · unfold PyData.depth; have := depth_ints l; omega
theorem eqv_ints : ∀ l m : List Int, PyData.eqvAll (l.map .int) (m.map .int) = decide (l = m)
  | [], [] => by unfold List.map PyData.eqvAll; rfl
  | [], k :: m => by rw [List.map_cons]; unfold List.map PyData.eqvAll; rfl
  | k :: l, [] => by rw [List.map_cons]; unfold PyData.eqvAll; simp
  | k :: l, j :: m => by
    rw [List.map_cons, List.map_cons]
    unfold PyData.eqvAll PyData.eqv
    rw [eqv_ints l m]
    by_cases h : k = j
    · subst h; simp
    · simp [h]
theorem eqD_ints (l m : List Int) : eqD (.lst (l.map .int)) (.lst (m.map .int)) = some (decide (l = m)) := by
  show eqP _ _ = _
  unfold eqP
  have e : ∀ l : List Int, toPy (.lst (l.map .int)) = some (.list (l.map .int)) := fun l => by
    show (toPys (l.map .int)).map PyData.list = _
    rw [toPys_ints]
    rfl
  rw [e, e]
  simp only [shaped_ints, Bool.and_self, if_true]
  unfold PyData.eqv
  rw [eqv_ints]
theorem neE_ints (l m : List Int) : neE (.lst (l.map .int)) (.lst (m.map .int)) = some (.fr (.bl (!decide (l = m)))) := by
  unfold neE; rw [eqD_ints]; rfl
theorem eqE_ints (l m : List Int) : eqE (.lst (l.map .int)) (.lst (m.map .int)) = some (.fr (.bl (decide (l = m)))) := by
  unfold eqE; rw [eqD_ints]; rfl
theorem sortG_set (ks : List Int) (h : ks.length < 64) (hp : ks.Pairwise (· < ·)) : sortG [.set ks] = some (.tp (.lst (ks.map .int))) := by
  have e1 : sortD [.set ks] = none := rfl
  have e2 : sortK [.set ks] = none := rfl
  have e3 : sortS [.set ks] = some (.tp (.lst (ks.map .int))) := if_pos ⟨h, hp⟩
  unfold sortG orN
  rw [e1, e2, e3]
theorem up_ext : ∀ {l m : List Int}, l.Pairwise (· < ·) → m.Pairwise (· < ·) → (∀ k, k ∈ l ↔ k ∈ m) → l = m := fun {l m} hl hm h => by
  have hp : l.Perm m := (List.perm_ext_iff_of_nodup (hl.imp fun h => Int.ne_of_lt h) (hm.imp fun h => Int.ne_of_lt h)).mpr h
  exact hp.eq_of_pairwise (le := (· < ·)) (fun a b _ _ h1 h2 => by omega) hl hm
theorem canon_up {L : List Int} (h : L.Pairwise (· < ·)) : canon L = L := up_ext (canon_sorted L) h fun k => canon_mem k L
theorem isort_lt {l : List Int} (h : l.Nodup) : (isort l).Pairwise (· < ·) := by
  have h1 := isort_sorted l
  have h2 : (isort l).Nodup := (isort_perm l).nodup_iff.mpr h
  exact (h1.and h2).imp fun ⟨a, b⟩ => by omega
/-! rising lists -/
theorem up_adj : ∀ {L : List Int}, L.Pairwise (· < ·) ↔ ∀ j, j + 1 < L.length → L.getD j 0 < L.getD (j + 1) 0
  | [] => by simp
  | [x] => by simp
  | x :: y :: L => by
    have ih := up_adj (L := y :: L)
    constructor
    · intro h j hj
      cases j with
      | zero =>
        have := (List.pairwise_cons.mp h).1 y (List.mem_cons_self ..)
        simpa using this
      | succ j =>
        have := ih.mp (List.pairwise_cons.mp h).2 j (by simpa using hj)
        simpa using this
    · intro h
      have h1 : (y :: L).Pairwise (· < ·) := ih.mpr fun j hj => by
        have := h (j + 1) (by simpa using hj)
        simpa using this
      have h2 : x < y := by simpa using h 0 (by simp)
      refine List.pairwise_cons.mpr ⟨fun z hz => ?_, h1⟩
      rcases List.mem_cons.mp hz with rfl | hz
      · exact h2
      · exact Int.lt_trans h2 ((List.pairwise_cons.mp h1).1 z hz)
end VS

/-! x = "..."[e]; y = z.replace(x, "") -/
namespace VS
open PySem L2 PyProof.Rows
/-- nobody is called -/
def Bare {α : Type} : Sem α → Prop
  | .pure _ => True
  | .unsupported _ => True
  | .load _ _ k => ∀ o, Bare (k o)
  | .update _ _ _ k => Bare (k ())
  | _ => False
theorem bare_both {α : Type} {M : Model} {Γ : PySem.Ctx} (t : Sem α) (hb : Bare t) : ∀ {Q Q' : α → Pos → Shared → Prop} {E E' : Value → Pos → Shared → Prop} {p : Pos} {s : Shared}, PySem.Sem.wp M Γ t Q E p s → PySem.Sem.wp M Γ t Q' E' p s → PySem.Sem.wp M Γ t (fun a p s => Q a p s ∧ Q' a p s) (fun a p s => E a p s ∧ E' a p s) p s := by
  induction t with
  | pure a => intro Q Q' E E' p s h h'; exact ⟨h, h'⟩
  | unsupported x => intro Q Q' E E' p s h h'; exact h
  | load a b k ih =>
    intro Q Q' E E' p s h h'
    obtain ⟨o, e, g⟩ := h
    obtain ⟨o', e', g'⟩ := h'
    have : o = o' := Option.some.inj (e.symm.trans e')
    subst this
    exact ⟨o, e, ih o (hb o) g g'⟩
  | update a b f k ih =>
    intro Q Q' E E' p s h h'
    exact ⟨h.1, ih () hb h.2 h'.2⟩
  | _ => exact hb.elim
theorem wpAny_two {α : Type} {M : Model} {A : Around} {t : Sem α} (hb : Bare t) {Q Q' : α → Shared → Prop} {E : Value → Shared → Prop} {s : Shared} (h : wpAny M A t Q E s) (h' : wpAny M A t Q' E s) : wpAny M A t (fun a s => Q a s ∧ Q' a s) E s := fun Γ p hΓ =>
  have := bare_both t hb (h Γ p hΓ) (h' Γ p hΓ)
  wpAny_mono (M := M) (A := A) (t := t) (Q := fun a s => Q a s ∧ Q' a s) (E := fun e s => E e s ∧ E e s) (fun Γ' p' hΓ' => bare_both t hb (h Γ' p' hΓ') (h' Γ' p' hΓ')) (fun _ _ z => z) (fun _ _ z => z.1) Γ p hΓ
theorem bare_cellSet (a : Addr) (v : Option Value) : Bare (cellSet a v) := by
  show ∀ o : Obj, Bare _
  intro o
  show Bare (match o.data with | .cell _ => _ | _ => _)
  split <;> trivial
section
variable {X : Cx} {pins : List (Addr × Obj)} {σ : L2.St} {H : Hp} {s : Shared}
/-- a name that a comprehension reads is stored: its cell has just that value -/
theorem store_cell {M : Model} {A : Around} {E : Value → Shared → Prop} {i : Nat} {x : Str} {v : V} {u : Value} {Q : Unit → Shared → Prop} (I : Inv X pins σ H s) (hN : X.N.Nodup) (hi : X.N[i]? = some x) (hk : X.env.scope.names.lookup x = some .cell) (hf : X.fn x = true) (r : RelV v u)
    (h : ∀ s', Inv X pins (σ.set i (some v)) H s' → s'.toks = s.toks → (∃ c, X.env.cells.lookup x = some c ∧ s'.heap.IsCell c (some u)) → Q () s') : wpAny M A (storeName X.env x u) Q E s := by
  obtain ⟨c, hc⟩ := I.ok.has x (.inl hk)
  obtain ⟨w0, hw⟩ := I.cell x c hc
  have h1 : wpAny M A (storeName X.env x u) (fun _ s' => Inv X pins (σ.set i (some v)) H s') E s := store_ok I hN hi (.inr hk) r (fun s' I' => I') (.inl hf)
  have h2 : wpAny M A (storeName X.env x u) (fun _ s' => s'.toks = s.toks ∧ s'.heap.IsCell c (some u)) E s := wpAny_storeName_cell I.ok.kind hk hc hw fun h' hc' _ => ⟨rfl, hc'⟩
  have hb : Bare (storeName X.env x u) := by
    unfold storeName PySem.cellOf
    have e : X.env.kindOf x = some .cell := hk
    simp only [e, I.ok.kind, hc]
    exact bare_cellSet c (some u)
  exact wpAny_mono (wpAny_two hb h1 h2) (fun _ s' ⟨a, b, d⟩ => h s' a b ⟨c, hc, d⟩) fun _ _ z => z
end
theorem bnd_assoc {α β γ : Type} (m : Act α) (f : α → Act β) (g : β → Act γ) : (m.bnd f).bnd g = m.bnd fun a => (f a).bnd g := by
  funext ς
  unfold Act.bnd
  cases m ς with
  | none => rfl
  | some o => cases o <;> rfl
/-- z.replace(x, "") -/
def replS (m i : Nat) : Act ER := fun ς => match ς.sl[m]?, ς.sl[i]? with
  | some (some (.fr (.str z))), some (some (.fr (.str x))) => if z.length ≤ 1000 ∧ 1 ≤ x.length then some (.ok (.fr (.str (Txt.replace z x ""))) ς) else none
  | _, _ => none
section
variable {c : Ctx} {e : Expr} {f : Act ER} {rest : List Stmt} {g : Act Flw}
theorem vss_repl {i m n ja jb : Nat} {A xf xl xs : Str} {p1 p2 p3 p4 p5 p6 p7 ap cp pos1 pos2 : Pos}
    (hi : c.N[i]? = some xf) (hk : c.sc.names.lookup xf = some .cell) (hfn : c.fnn xf = true) (hri : c.ro i = false)
    (hm : c.N[m]? = some xl) (hv : Vis c.sc xl) (hd1 : (xl == ("__debug__" : Str)) = false) (hd2 : (xl == ("__classdict__" : Str)) = false) (hd3 : (xf == ("__debug__" : Str)) = false)
    (hn : c.N[n]? = some xs) (hx : L2.Loc c.sc xs) (hrn : c.ro n = false) (hf : c.fnn xs = true ∨ c.sc.names.lookup xs = some .local)
    (he : VE c e f) (hsub : ∀ o i, subscripted e false o i = operate [o, i] (getItem o i))
    (hs1 : ∀ env : Env, swapsWith (.Subscript (.Constant (.str A) ja p2) e p3) (some (.Name xf p1)) pos1.line env = pure false)
    (hs2 : ∀ env : Env, swapsWith (.Call (.Attribute (.Name xl p5) "replace" ap) [.Name xf p6, .Constant (.str "") jb p7] [] cp) (some (.Name xs p4)) pos2.line env = pure false)
    (hst : ∀ env : Env, starEach [.Name xf p6, .Constant (.str "") jb p7] env = [(false, eval (.Name xf p6) env), (false, eval (.Constant (.str "") jb p7) env)])
    (hbase : ∀ env : Env, attributeBase (.Name xl p5) "replace" env (eval (.Name xl p5) env) = eval (.Name xl p5) env) (hline : (ap.endLine == cp.line) = true) (hr : VSs c rest g) :
    VSs c (.Assign [.Name xf p1] (.Subscript (.Constant (.str A) ja p2) e p3) pos1 :: .Assign [.Name xs p4] (.Call (.Attribute (.Name xl p5) "replace" ap) [.Name xf p6, .Constant (.str "") jb p7] [] cp) pos2 :: rest)
      (seqA (setA i (op2 ixGD (cst (.str A)) f)) (seqA (setA n (replS m i)) g)) := .of fun X hX pins s σ H w ς o ho I R T => by
  have ho' : (f.bnd fun r2 => seqA (setA i (opD ixGD (.fr (.str A)) r2)) (seqA (setA n (replS m i)) g)) ς = some o := by
    rw [← ho]
    refine congrFun (Eq.symm ?_) ς
    show (((f.bnd fun r2 => opD ixGD (.fr (.str A)) r2).bnd _).bnd _ : Act Flw) = _
    rw [bnd_assoc, bnd_assoc]
    exact congrArg f.bnd (funext fun a => (bnd_assoc (opD ixGD (.fr (.str A)) a) _ _).symm)
  have R' : Rel c.toSta c.n ς σ H w := R
  refine wpAny_execs_cons (wpAny_Assign_Name (Subscript_ (Calls.Constant_str (wpAny_mono (PySem.wpAny_toks (ve_then he hX (I.tok (s.toks + 1)) R T ho' (Q := fun u s1 => ∃ (r : ER) (ς1 : VS.St) (v : V) (H1 : Hp) (w1 : W), seqA (setA i (opD ixGD (.fr (.str A)) r)) (seqA (setA n (replS m i)) g) ς1 = some o ∧ Inv X pins σ H1 s1 ∧ RelV v u ∧ Fr w H w1 H1 ∧ Rel c.toSta c.n ς1 σ H1 w1 ∧ XT c X w1 H1 o ∧ ResOk c.toSta w1 H H1 σ v r) fun r ς1 u s1 v H1 w1 h1 I1 rv F1 R1 T1 ro => ⟨r, ς1, v, H1, w1, h1, I1, rv, F1, R1, T1, ro⟩)) (fun u s1 z => ?_) fun _ _ z => z.2))) (hs1 _))
  obtain ⟨ht, r, ς1, v, H1, w1, h1, I1, rv, F1, R1, T1, ro⟩ := z
  have ht : s.toks + 1 ≤ s1.toks := ht
  cases q2 : cur ς1 r with
  | none => unfold seqA setA Act.bnd opD at h1; rw [q2] at h1; cases h1
  | some d2 =>
    cases q3 : ixGD (.str A) d2 with
    | none =>
      unfold seqA setA Act.bnd opD at h1
      rw [q2] at h1
      simp only [cur, q3] at h1
      cases h1
    | some r3 =>
      obtain ⟨k, rfl⟩ : ∃ k, d2 = .int k := by cases d2 <;> first | exact ⟨_, rfl⟩ | (cases q3; done)
      have q3' : (if A.length ≤ sizeLine then (L2.atI A.cps.toList k).map fun d => ER.fr (.str ⟨#[d]⟩) else none) = some r3 := q3
      split at q3'
      rotate_left
      · cases q3'
      rename_i hA
      cases q4 : L2.atI A.cps.toList k with
      | none => rw [q4] at q3'; cases q3'
      | some ch =>
        rw [q4] at q3'
        cases q3'
        have h2 : seqA (setA n (replS m i)) g (ς1.set i (some (.fr (.str ⟨#[ch]⟩)))) = some o := by
          unfold seqA setA Act.bnd opD at h1
          rw [q2] at h1
          simp only [cur, q3] at h1
          exact h1
        have hvv := (R1.view ro q2).int
        subst hvv
        obtain ⟨tk, rfl⟩ := rv
        have hlA : A.cps.toList.length = A.length := by simp [Str.length]
        obtain ⟨j, e1, e2, e3, e4, e5⟩ := atI_get q4
        rw [hlA] at e1 e4 e5
        have hn63 := line63
        refine tail_any (typeIs_str s1 A s.toks) slot_str_getitem.lookup (getItem_str (c := ch) (by rw [decide_eq_false (by omega), decide_eq_false (by omega)]; rfl) (by rw [e1]; simpa using e2) ?_) (hsub _ _)
        have hilt : i < c.N.length := (List.getElem?_eq_some_iff.mp hi).1
        have R2 := R1.set_fr (i := i) (v := .str ⟨#[ch]⟩) (d := .str ⟨#[ch]⟩) hilt (by rw [I1.len, hX.N]) hri (.str _)
        refine store_cell (v := .str ⟨#[ch]⟩) (I1.tok (s1.toks + 1)) (by rw [hX.N]; exact hX.nd) (by rw [hX.N]; exact hi) (by rw [hX.sc]; exact hk) (hX.fnn xf hfn) ⟨_, rfl⟩ fun s2 I2 ht2 hcell => ?_
        have ht2 : s2.toks = s1.toks + 1 := ht2
        obtain ⟨ca, hca, hcv⟩ := hcell
        generalize hς2 : ς1.set i (some (.fr (.str ⟨#[ch]⟩))) = ς2 at h2 R2
        cases q5 : replS m i ς2 with
        | none => unfold seqA setA Act.bnd at h2; rw [q5] at h2; cases h2
        | some o5 =>
          obtain ⟨z, x, m1, m2, hz, hx1, rfl⟩ : ∃ z x, ς2.sl[m]? = some (some (.fr (.str z))) ∧ ς2.sl[i]? = some (some (.fr (.str x))) ∧ z.length ≤ 1000 ∧ 1 ≤ x.length ∧ o5 = .ok (.fr (.str (Txt.replace z x ""))) ς2 := by
            unfold replS at q5
            split at q5
            · rename_i z x m1 m2
              split at q5
              · rename_i hc
                cases q5
                exact ⟨z, x, m1, m2, hc.1, hc.2, rfl⟩
              · cases q5
            · cases q5
          have h3 : g (ς2.set n (some (.fr (.str (Txt.replace z x ""))))) = some o := by
            unfold seqA setA Act.bnd at h2
            rw [q5] at h2
            exact h2
          obtain ⟨v1, s1', rp1⟩ := R2.slots _ _ m1
          obtain ⟨v2, s2', rp2⟩ := R2.slots _ _ m2
          have hil : i < σ.length := by rw [I1.len, hX.N]; exact hilt
          rw [List.getElem?_set_self hil] at s2'
          cases s2'
          cases rp1
          cases rp2
          refine wpAny_execs_cons (wpAny_Assign_Name (PySem.Call_method2 (hbase _) (hst _) hline (raw_name (by rw [hX.N]; exact hm) (by rw [hX.sc]; exact hv) I2 s1' (fun u1 r1 => ?_) hd1 hd2)) (hs2 _))
          obtain ⟨t1, rfl⟩ := r1
          refine ⟨"str", _, PySem.F.plainAttrs_str, PySem.F.slot_str_replace, PySem.F.type_str_replace, typeIs_str _ _ _, (fun _ e => nomatch e), Calls.callWith_builtin rfl (Calls.evalArgs_plain (Calls.spliced_cons ?_))⟩
          refine wpAny_Name (wpAny_loadName_cell I2.ok.kind (by show X.env.scope.names.lookup xf = _; rw [hX.sc]; exact hk) hca hcv ?_) hd3
          refine Calls.spliced_cons (Calls.Constant_str (Calls.spliced_nil ?_))
          refine PySem.SC.replace (by show s1.toks ≠ 0; omega) (by show s2.toks ≠ 0; omega) (by show s1.toks ≠ s2.toks; omega) (by
            rw [beq_eq_false_iff_ne]
            intro q
            have := congrArg Str.length q
            have e0 : (Str.ofString "").length = 0 := rfl
            have : 1 = (Str.ofString "").length := this
            omega) (by have e0 : ("" : Str).length = 0 := rfl; rw [e0]; omega) fun t' k' => ?_
          have hnlt : n < c.N.length := (List.getElem?_eq_some_iff.mp hn).1
          have R3 := R2.set_fr (i := n) (v := .str (Txt.replace z ⟨#[ch]⟩ "")) (d := .str (Txt.replace z ⟨#[ch]⟩ "")) hnlt (by rw [List.length_set, I1.len, hX.N]) hrn (.str _)
          refine store_ok (v := .str (Txt.replace z ⟨#[ch]⟩ "")) (I2.tok k') (by rw [hX.N]; exact hX.nd) (by rw [hX.N]; exact hn) (by rw [hX.sc]; exact hx) ⟨t', rfl⟩ (fun s3 I3 => ?_) ?_
          · exact wpAny_mono (hr X hX pins s3 _ H1 w1 _ o h3 I3 R3 T1) (fun fl s4 z => NS.from F1 z) fun _ _ z => z
          · rcases hf with hf | hf
            · exact .inl (hX.fnn xs hf)
            · exact .inr (by rw [hX.sc]; exact hf)
end
end VS

/-! comprehensions of two clauses: lists, sets of whole numbers -/
namespace VS
open PySem L2 PyProof.Rows
/-- a comprehension of two clauses; its inmost act is open -/
structure Two (e t1 i1 : Expr) (ifs1 : List Expr) (t2 i2 : Expr) (ifs2 : List Expr) (act : Value → Env → Sem Unit) : Prop where
  cl : clausesOf e = [⟨t1, i1, ifs1, 0⟩, ⟨t2, i2, ifs2, 0⟩]
  out : ∀ (itv accv : Value) (en : Env), compTurn e 0 itv accv en = (do
      standAt i1.pos
      match ← pyNext itv with
      | none => pure (.done .next)
      | some got =>
        letOwnedTupleGo t1 itv got
        assign t1 en got
        let mut go := true
        for y in ifs1 do
          if go then go ← isTrue y en (eval y en)
        if go then
          let xs ← eval i2 en
          standAt i2.pos
          let xs ← foldedSetIterable i2 en xs
          let _ ← runOwn (.compStart e 1 (← holding [xs] (pyIter xs)) accv en) en
        again (.compLoop e 0 itv accv en))
  inn : ∀ (itv accv : Value) (en : Env), compTurn e 1 itv accv en = (do
      standAt i2.pos
      match ← pyNext itv with
      | none => pure (.done .next)
      | some got =>
        letOwnedTupleGo t2 itv got
        assign t2 en got
        let mut go := true
        for y in ifs2 do
          if go then go ← isTrue y en (eval y en)
        if go then act accv en
        again (.compLoop e 1 itv accv en))
  dS : ∀ (prog : Program) (w : World) (k : Nat) (itv accv : Value) (en : Env), (model prog w).den (.compStart e k itv accv en) = (compStart e k itv accv en).onRaise fun x => do noteFrame x en; standAt theWindowsPlace
  dL : ∀ (prog : Program) (w : World) (k : Nat) (itv accv : Value) (en : Env), (model prog w).den (.compLoop e k itv accv en) = (compTurn e k itv accv en).onRaise fun x => do noteFrame x en; theTreesLotGoes x
  uS : ∀ (A : Around) (k : Nat) (itv accv : Value) (en : Env), A.under (.compStart e k itv accv en) = A
  uL : ∀ (A : Around) (k : Nat) (itv accv : Value) (en : Env), A.under (.compLoop e k itv accv en) = A
  qL : ∀ (k : Nat) (itv accv : Value) (en : Env), (Code.compLoop e k itv accv en).quiet = true
def actL (elt : Expr) (accv : Value) (en : Env) : Sem Unit := do let _ ← call (.builtin "list.append") [accv, ← eval elt en]
def actS (elt : Expr) (accv : Value) (en : Env) : Sem Unit := do
  let got ← eval elt en
  standAt elt.pos
  let _ ← call (.builtin "set.add") [accv, got]
theorem two_lst {elt t1 i1 t2 i2 : Expr} {ifs1 ifs2 : List Expr} {scope : Scope} {pos : Pos} : Two (.ListComp elt [⟨t1, i1, ifs1, 0⟩, ⟨t2, i2, ifs2, 0⟩] scope pos) t1 i1 ifs1 t2 i2 ifs2 (actL elt) := ⟨rfl, fun _ _ _ => by rfl, fun _ _ _ => by rfl, fun _ _ _ _ _ _ => rfl, fun _ _ _ _ _ _ => rfl, fun _ _ _ _ _ => rfl, fun _ _ _ _ _ => rfl, fun _ _ _ _ => rfl⟩
theorem two_set {elt t1 i1 t2 i2 : Expr} {ifs1 ifs2 : List Expr} {scope : Scope} {pos : Pos} : Two (.SetComp elt [⟨t1, i1, ifs1, 0⟩, ⟨t2, i2, ifs2, 0⟩] scope pos) t1 i1 ifs1 t2 i2 ifs2 (actS elt) := ⟨rfl, fun _ _ _ => by rfl, fun _ _ _ => by rfl, fun _ _ _ _ _ _ => rfl, fun _ _ _ _ _ _ => rfl, fun _ _ _ _ _ => rfl, fun _ _ _ _ _ => rfl, fun _ _ _ _ => rfl⟩
section
variable {e t1 i1 t2 i2 : Expr} {ifs1 ifs2 : List Expr} {act : Value → Env → Sem Unit} {prog : Program} {w : World} {A : Around} {R : Result → Shared → Prop} {s : Shared} {en : Env} {itv accv : Value}
theorem start_two (T : Two e t1 i1 ifs1 t2 i2 ifs2 act) {k : Nat} (hk : k < 2) (h0 : codeAny (model prog w) A (.compLoop e k itv accv en) R s)
    (h : wpAny (model prog w) A (pyIter itv) (fun j s' => codeAny (model prog w) A (.compLoop e k j accv en) R s') (fun _ _ => False) s) : codeAny (model prog w) A (.compStart e k itv accv en) R s := by
  refine codeAny_of_tree ?_
  rw [T.dS, T.uS]
  refine wpAny_notedAt ?_
  unfold compStart
  rw [T.cl]
  have hk : k = 0 ∨ k = 1 := by omega
  rcases hk with rfl | rfl
  all_goals
    show wpAny _ _ (ask >>= _) _ _ s
    refine wpAny_bind (wpAny_askSetting (wpAny_ite ?_))
    split
    · exact wpAny_bind (wpAny_pure (wpAny_pure ⟨T.qL _ _ _ _, h0⟩))
    · refine wpAny_bind (wpAny_rule ?_)
      exact wpAny_bind (wpAny_standAt (wpAny_bind (thnF h fun j s' q => wpAny_pure ⟨T.qL _ _ _ _, q⟩)))
end
/-- two clauses over data -/
def twRun (t1 : Dat → St → Option St) (ft1 : Act Bool) (fi2 : Act (List Dat)) (t2 : Dat → St → Option St) (ft2 : Act Bool) (fe : Act ER) : List Dat → St → Option (List Dat × St)
  | [], ς => some ([], ς)
  | d :: ds, ς => match t1 d ς with
    | none => none
    | some ς1 => match ft1 ς1 with
      | some (.ok true ς2) => match fi2 ς2 with
        | some (.ok ds2 ς3) => match lcRun [] t2 ft2 fe ds2 ς3 with
          | some (xs, ς4) => (twRun t1 ft1 fi2 t2 ft2 fe ds ς4).map fun p => (xs ++ p.1, p.2)
          | none => none
        | _ => none
      | some (.ok false ς2) => twRun t1 ft1 fi2 t2 ft2 fe ds ς2
      | _ => none
/-- what is being made at D -/
structure Mk (c : Ctx) (D : Addr) (AC : List Dat → W → Hp → Prop) (act : Value → Env → Sem Unit) (fe : Act ER) (good : Dat → Prop) (N : Nat) : Prop where
  keep : ∀ {acc : List Dat} {w w' : W} {H H' : Hp}, Fr w H w' H' → AC acc w H → AC acc w' H'
  add : ∀ X : Cx, c.Ok X → (∀ a b, X.xe a b → False) → ∀ (pins : List (Addr × Obj)) (s : Shared) (σ : L2.St) (H : Hp) (w : W) (ς ς1 ς2 : St) (r : ER) (x : Dat) (acc : List Dat) (w1 : W) (H1 : Hp), fe ς = some (.ok r ς1) → settle ς1 r = some (x, ς2) → good x → acc.length < N →
    Inv X pins σ H s → Rel c.toSta c.n ς σ H w → H1 D = none → Fr w1 H1 w H → AC acc w H →
    wpAny (model X.prog X.w) X.A (act (.ref D) X.env) (fun _ s' => ∃ H' w', Inv X pins σ H' s' ∧ Fr w1 H1 w' H' ∧ Ext w.Hf w'.Hf ∧ AExt w.ads w'.ads ∧ Rel c.toSta c.n ς2 σ H' w' ∧ AC (acc ++ [x]) w' H') (fun _ _ => False) s
theorem drop_cons {α : Type} {ds ds' : List α} {d : α} {i : Nat} (h : d :: ds' = ds.drop i) : i < ds.length ∧ ds[i]? = some d ∧ ds' = ds.drop (i + 1) := by
  have hl := congrArg List.length h
  simp at hl
  refine ⟨by omega, ?_, ?_⟩
  · have q : (ds.drop i)[0]? = some d := by rw [← h]; rfl
    rw [List.getElem?_drop] at q
    simpa using q
  · have q : (ds.drop i).drop 1 = ds' := by rw [← h]; rfl
    rw [List.drop_drop] at q
    exact q.symm
section
variable {c : Ctx} {X : Cx} {e t1 i1 t2 i2 : Expr} {ifs1 ifs2 : List Expr} {act : Value → Env → Sem Unit} {tt : Dat → St → Option St} {is : List Nat} {ft : Act Bool} {fe : Act ER} {D : Addr} {AC : List Dat → W → Hp → Prop} {good : Dat → Prop} {N : Nat}
/-- the inner loop -/
theorem two_inner (hX : c.Ok X) (hxe : ∀ a b, X.xe a b → False) (T : Two e t1 i1 ifs1 t2 i2 ifs2 act) (hg : VG c t2 tt is) (ht : VTs c ifs2 ft) (M : Mk c D AC act fe good N)
    {pins : List (Addr × Obj)} {fp : List Addr} {tn : Nat → Heap → Prop} {J : It} {it : Addr} {ds0 : List Dat} {wJ : W} (Tn : Turn X.prog X.w X.K t2 J fp it tn) (WK : WalkOk c J ds0 wJ) {w1 : W} {H1 : Hp} (hD1 : H1 D = none) {σ0 : L2.St} {ς' : St} {xs : List Dat}
    (hfp : ∀ b ∈ fp, ∀ H', H' b = none → FpOk X pins H' b) (hgood : ∀ x ∈ xs, good x) (hN : xs.length ≤ N) {R : Result → Shared → Prop}
    (hR : ∀ (s' : Shared) (σ' : L2.St) (H' : Hp) (w' : W), Inv X pins σ' H' s' → (∀ j, j ∉ is → σ'[j]? = σ0[j]?) → Fr w1 H1 w' H' → Ext wJ.Hf w'.Hf → AExt wJ.ads w'.ads → Rel c.toSta c.n ς' σ' H' w' → AC xs w' H' → R (.ok .next) s')
    {s : Shared} {H : Hp} {w : W} {ς : St} {acc rest : List Dat} (I : Inv X pins σ0 H s) (st : tn 0 s.heap) (n0 : ∀ b ∈ fp, H b = none) (F : Fr w1 H1 w H) (E1 : Ext wJ.Hf w.Hf) (E2 : AExt wJ.ads w.ads) (R0 : Rel c.toSta c.n ς σ0 H w) (A0 : AC acc w H)
    (hrun : lcRun [] tt ft fe ds0 ς = some (rest, ς')) (hxs : acc ++ rest = xs) :
    codeAny (model X.prog X.w) X.A (.compLoop e 1 (.ref it) (.ref D) X.env) R s := by
  refine codeAny_loop (T.qL _ _ _ _) (fun n s' => ∃ (i : Nat) (σ' : L2.St) (H' : Hp) (w' : W) (ς : St) (acc ds rest : List Dat), n = ds.length ∧ ds = ds0.drop i ∧ i ≤ ds0.length ∧ Inv X pins σ' H' s' ∧ tn i s'.heap ∧ (∀ b ∈ fp, H' b = none) ∧ (∀ j, j ∉ is → σ'[j]? = σ0[j]?) ∧ Fr w1 H1 w' H' ∧ Ext wJ.Hf w'.Hf ∧ AExt wJ.ads w'.ads ∧ Rel c.toSta c.n ς σ' H' w' ∧ AC acc w' H' ∧ lcRun [] tt ft fe ds ς = some (rest, ς') ∧ acc ++ rest = xs) ?_ ds0.length
    ⟨0, σ0, H, w, ς, acc, ds0, rest, rfl, rfl, Nat.zero_le _, I, st, n0, fun _ _ => rfl, F, E1, E2, R0, A0, hrun, hxs⟩
  rintro n s1 ⟨i, σ1, H2, w2, ς2, acc, ds, rest, rfl, hdr, hile, I1, st1, n1, k1, F1, E1, E2, R1, A1, hrun, hxs⟩
  rw [T.uL, T.dL]
  refine wpAny_noted ?_
  rw [T.inn]
  refine wpAny_bind (wpAny_standAt ?_)
  cases ds with
  | nil =>
    have hie : i = ds0.length := by have := congrArg List.length hdr; simp at this; omega
    subst hie
    cases hrun
    rw [List.append_nil] at hxs
    subst hxs
    refine wpAny_bind (thnF (Tn.done X rfl rfl rfl hX.calm ds0.length pins s1 σ1 H2 (fun _ _ => False) I1 (fun b hb => hfp b hb H2 (n1 b hb)) st1 (WK.stop w2 H2 E1 R1.sub)) fun r s2 ⟨hr, I2⟩ => ?_)
    subst hr
    exact wpAny_pure (hR s2 σ1 H2 w2 I2 k1 F1 E1 E2 R1 A1)
  | cons d ds3 =>
    obtain ⟨hlt, hdi, hdn⟩ := drop_cons hdr
    refine wpAny_bind (thnF (Tn.item X rfl rfl rfl hX.calm i pins s1 σ1 H2 (fun _ _ => False) I1 (fun b hb => hfp b hb H2 (n1 b hb)) st1 (WK.go i w2 H2 hlt E1 R1.sub)) fun r s2 ⟨u, hr, h6⟩ => ?_)
    subst hr
    refine wpAny_bind (thnF h6 fun _ s3 ⟨x, H3, I3, r3, y3, st3, n3⟩ => ?_)
    obtain ⟨w3, F3, R3, d', hd', rp⟩ := WK.yld i x H2 w2 H3 ς2 _ hlt R1 E1 E2 y3
    rw [hdi] at hd'
    cases hd'
    have I3' := I3.pinned (fun b hb => hfp b hb H3 (n3 b hb)) (Tn.obj _ _ st3)
    unfold lcRun at hrun
    cases e4 : tt d ς2 with
    | none => rw [e4] at hrun; cases hrun
    | some ς4 =>
      rw [e4] at hrun
      simp only at hrun
      refine wpAny_bind (thnF (hg X hX _ s3 σ1 H3 w3 ς2 ς4 x u d e4 I3' R3 r3 rp) fun _ s4 ⟨σ4, w4, I4, F4, R4, k4⟩ => ?_)
      cases e5 : ft ς4 with
      | none => rw [e5] at hrun; cases hrun
      | some o5 =>
        cases o5 with
        | ex x5 ς5 => rw [e5] at hrun; cases hrun
        | ok b5 ς5 =>
          rw [e5] at hrun
          refine wpAny_bind (wpAny_mono (ht X hX _ s4 σ4 H3 w4 ς4 _ e5 I4 R4 trivial) (fun b s5 ⟨eb, H5, w5, I5, F5, R5⟩ => ?_) fun _ _ z => (hxe _ _ z).elim)
          subst eb
          have F15 := ((F1.trans F3).trans F4).trans F5
          have F35 := (F3.trans F4).trans F5
          have pin : ∀ {s' : Shared} {σ' : L2.St} {H' : Hp}, Inv X (pins ++ pinsAt fp s3.heap) σ' H' s' → tn (i + 1) s'.heap ∧ ∀ b ∈ fp, H' b = none := fun {s' σ' H'} I' => by
            have q : ∀ b ∈ fp, ∀ o, s3.heap.get? b = some o → s'.heap.get? b = some o ∧ H' b = none := fun b hb o eo =>
              let z := I'.pin (b, o) (List.mem_append_right _ (List.mem_append_right _ (mem_pinsAt hb eo)))
              ⟨z.1, z.2.1⟩
            refine ⟨Tn.keep _ _ _ st3 fun b hb o eo => (q b hb o eo).1, fun b hb => ?_⟩
            obtain ⟨o, eo, _⟩ := Tn.obj _ _ st3 b hb
            exact (q b hb o eo).2
          have k5 : ∀ j, j ∉ is → σ4[j]? = σ0[j]? := fun j hj => (k4 j hj).trans (k1 j hj)
          cases b with
          | false =>
            simp only at hrun
            obtain ⟨st5, n5⟩ := pin I5
            exact wpAny_pure ⟨rfl, ds3.length, by simp, i + 1, σ4, H5, w5, ς5, acc, ds3, rest, rfl, hdn, hlt, I5.unpinned, st5, n5, k5, F15, E1.trans F35.hf, fun k a h => F35.ad k a (E2 k a h), R5, M.keep F35 A1, hrun, hxs⟩
          | true =>
            simp only at hrun
            cases e6 : fe ς5 with
            | none => rw [e6] at hrun; cases hrun
            | some o6 =>
              cases o6 with
              | ex x6 ς6 => rw [e6] at hrun; cases hrun
              | ok r6 ς6 =>
                rw [e6] at hrun
                simp only at hrun
                cases e7 : settle ς6 r6 with
                | none => rw [e7] at hrun; cases hrun
                | some p7 =>
                  obtain ⟨x7, ς7⟩ := p7
                  rw [e7] at hrun
                  simp only at hrun
                  cases e8 : lcRun [] tt ft fe ds3 (wipeS [] ς7) with
                  | none => rw [e8] at hrun; cases hrun
                  | some p8 =>
                    rw [e8] at hrun
                    cases hrun
                    have hx7 : x7 ∈ xs := by rw [← hxs]; simp
                    have hlen : acc.length < N := by
                      have h := congrArg List.length hxs
                      simp at h
                      omega
                    refine wpAny_bind (thnF (M.add X hX hxe _ s5 σ4 H5 w5 ς5 ς6 ς7 r6 x7 acc w1 H1 e6 e7 (hgood x7 hx7) hlen I5 R5 hD1 F15 (M.keep F35 A1)) fun _ s6 ⟨H6, w6, I6, F6, x6, a6, R6, A6⟩ => ?_)
                    obtain ⟨st6, n6⟩ := pin I6
                    exact wpAny_pure ⟨rfl, ds3.length, by simp, i + 1, σ4, H6, w6, ς7, acc ++ [x7], ds3, p8.1, rfl, hdn, hlt, I6.unpinned, st6, n6, k5, F6, (E1.trans F35.hf).trans x6, fun k a h => a6 k a (F35.ad k a (E2 k a h)), R6, A6, e8, by rw [List.append_assoc]; exact hxs⟩
end
section
variable {c : Ctx} {X : Cx} {e t1 i1 t2 i2 : Expr} {ifs1 ifs2 : List Expr} {act : Value → Env → Sem Unit} {tt1 tt2 : Dat → St → Option St} {is1 is2 : List Nat} {ft1 ft2 : Act Bool} {fi1 fi2 : Act (List Dat)} {fe : Act ER} {D : Addr} {AC : List Dat → W → Hp → Prop} {good : Dat → Prop} {N : Nat}
/-- the outer loop -/
theorem two_outer (hX : c.Ok X) (hxe : ∀ a b, X.xe a b → False) (T : Two e t1 i1 ifs1 t2 i2 ifs2 act) (hg1 : VG c t1 tt1 is1) (ht1 : VTs c ifs1 ft1) (hi2 : VI c t2 i2 fi2) (hg2 : VG c t2 tt2 is2) (ht2 : VTs c ifs2 ft2) (M : Mk c D AC act fe good N) (hs2 : ∀ env x, foldedSetIterable i2 env x = pure x)
    {fp : List Addr} {tn : Nat → Heap → Prop} {J : It} {it : Addr} {ds0 : List Dat} {wJ : W} (Tn : Turn X.prog X.w X.K t1 J fp it tn) (WK : WalkOk c J ds0 wJ) {w1 : W} {H1 : Hp} (hD1 : H1 D = none) {σ0 : L2.St} {ς' : St} {xs : List Dat}
    (hfp : ∀ (σ' : L2.St) (H' : Hp) (s' : Shared), Inv X [] σ' H' s' → (∀ b ∈ fp, H' b = none) → ∀ b ∈ fp, FpOk X [] H' b) (hgood : ∀ x ∈ xs, good x) (hN : xs.length ≤ N) {R : Result → Shared → Prop}
    (hR : ∀ (s' : Shared) (σ' : L2.St) (H' : Hp) (w' : W), Inv X [] σ' H' s' → (∀ j, j ∉ is1 → j ∉ is2 → σ'[j]? = σ0[j]?) → Fr w1 H1 w' H' → Rel c.toSta c.n ς' σ' H' w' → AC xs w' H' → R (.ok .next) s')
    {s : Shared} {H : Hp} {w : W} {ς : St} {acc rest : List Dat} (I : Inv X [] σ0 H s) (st : tn 0 s.heap) (n0 : ∀ b ∈ fp, H b = none) (F : Fr w1 H1 w H) (E1 : Ext wJ.Hf w.Hf) (E2 : AExt wJ.ads w.ads) (R0 : Rel c.toSta c.n ς σ0 H w) (A0 : AC acc w H)
    (hrun : twRun tt1 ft1 fi2 tt2 ft2 fe ds0 ς = some (rest, ς')) (hxs : acc ++ rest = xs) :
    codeAny (model X.prog X.w) X.A (.compLoop e 0 (.ref it) (.ref D) X.env) R s := by
  refine codeAny_loop (T.qL _ _ _ _) (fun n s' => ∃ (i : Nat) (σ' : L2.St) (H' : Hp) (w' : W) (ς : St) (acc ds rest : List Dat), n = ds.length ∧ ds = ds0.drop i ∧ i ≤ ds0.length ∧ Inv X [] σ' H' s' ∧ tn i s'.heap ∧ (∀ b ∈ fp, H' b = none) ∧ (∀ j, j ∉ is1 → j ∉ is2 → σ'[j]? = σ0[j]?) ∧ Fr w1 H1 w' H' ∧ Ext wJ.Hf w'.Hf ∧ AExt wJ.ads w'.ads ∧ Rel c.toSta c.n ς σ' H' w' ∧ AC acc w' H' ∧ twRun tt1 ft1 fi2 tt2 ft2 fe ds ς = some (rest, ς') ∧ acc ++ rest = xs) ?_ ds0.length
    ⟨0, σ0, H, w, ς, acc, ds0, rest, rfl, rfl, Nat.zero_le _, I, st, n0, fun _ _ _ => rfl, F, E1, E2, R0, A0, hrun, hxs⟩
  rintro n s1 ⟨i, σ1, H2, w2, ς2, acc, ds, rest, rfl, hdr, hile, I1, st1, n1, k1, F1, E1, E2, R1, A1, hrun, hxs⟩
  rw [T.uL, T.dL]
  refine wpAny_noted ?_
  rw [T.out]
  refine wpAny_bind (wpAny_standAt ?_)
  cases ds with
  | nil =>
    have hie : i = ds0.length := by have := congrArg List.length hdr; simp at this; omega
    subst hie
    cases hrun
    rw [List.append_nil] at hxs
    subst hxs
    refine wpAny_bind (thnF (Tn.done X rfl rfl rfl hX.calm ds0.length [] s1 σ1 H2 (fun _ _ => False) I1 (hfp σ1 H2 s1 I1 n1) st1 (WK.stop w2 H2 E1 R1.sub)) fun r s2 ⟨hr, I2⟩ => ?_)
    subst hr
    exact wpAny_pure (hR s2 σ1 H2 w2 I2 k1 F1 R1 A1)
  | cons d ds3 =>
    obtain ⟨hlt, hdi, hdn⟩ := drop_cons hdr
    refine wpAny_bind (thnF (Tn.item X rfl rfl rfl hX.calm i [] s1 σ1 H2 (fun _ _ => False) I1 (hfp σ1 H2 s1 I1 n1) st1 (WK.go i w2 H2 hlt E1 R1.sub)) fun r s2 ⟨u, hr, h6⟩ => ?_)
    subst hr
    refine wpAny_bind (thnF h6 fun _ s3 ⟨x, H3, I3, r3, y3, st3, n3⟩ => ?_)
    obtain ⟨w3, F3, R3, d', hd', rp⟩ := WK.yld i x H2 w2 H3 ς2 _ hlt R1 E1 E2 y3
    rw [hdi] at hd'
    cases hd'
    have I3' := I3.pinned (hfp _ _ _ I3 n3) (Tn.obj _ _ st3)
    unfold twRun at hrun
    cases e4 : tt1 d ς2 with
    | none => rw [e4] at hrun; cases hrun
    | some ς4 =>
      rw [e4] at hrun
      simp only at hrun
      refine wpAny_bind (thnF (hg1 X hX _ s3 σ1 H3 w3 ς2 ς4 x u d e4 I3' R3 r3 rp) fun _ s4 ⟨σ4, w4, I4, F4, R4, k4⟩ => ?_)
      cases e5 : ft1 ς4 with
      | none => rw [e5] at hrun; cases hrun
      | some o5 =>
        cases o5 with
        | ex x5 ς5 => rw [e5] at hrun; cases hrun
        | ok b5 ς5 =>
          rw [e5] at hrun
          refine wpAny_bind (wpAny_mono (ht1 X hX _ s4 σ4 H3 w4 ς4 _ e5 I4 R4 trivial) (fun b s5 ⟨eb, H5, w5, I5, F5, R5⟩ => ?_) fun _ _ z => (hxe _ _ z).elim)
          subst eb
          have F15 := ((F1.trans F3).trans F4).trans F5
          have F35 := (F3.trans F4).trans F5
          have pin : ∀ {s' : Shared} {σ' : L2.St} {H' : Hp}, Inv X ([] ++ pinsAt fp s3.heap) σ' H' s' → tn (i + 1) s'.heap ∧ ∀ b ∈ fp, H' b = none := fun {s' σ' H'} I' => by
            have q : ∀ b ∈ fp, ∀ o, s3.heap.get? b = some o → s'.heap.get? b = some o ∧ H' b = none := fun b hb o eo =>
              let z := I'.pin (b, o) (List.mem_append_right _ (List.mem_append_right _ (mem_pinsAt hb eo)))
              ⟨z.1, z.2.1⟩
            refine ⟨Tn.keep _ _ _ st3 fun b hb o eo => (q b hb o eo).1, fun b hb => ?_⟩
            obtain ⟨o, eo, _⟩ := Tn.obj _ _ st3 b hb
            exact (q b hb o eo).2
          have k5 : ∀ j, j ∉ is1 → j ∉ is2 → σ4[j]? = σ0[j]? := fun j hj hj2 => (k4 j hj).trans (k1 j hj hj2)
          cases b with
          | false =>
            simp only at hrun
            obtain ⟨st5, n5⟩ := pin I5
            exact wpAny_pure ⟨rfl, ds3.length, by simp, i + 1, σ4, H5, w5, ς5, acc, ds3, rest, rfl, hdn, hlt, I5.unpinned (pins := []), st5, n5, k5, F15, E1.trans F35.hf, fun k a h => F35.ad k a (E2 k a h), R5, M.keep F35 A1, hrun, hxs⟩
          | true =>
            simp only at hrun
            cases e6 : fi2 ς5 with
            | none => rw [e6] at hrun; cases hrun
            | some o6 =>
              cases o6 with
              | ex x6 ς6 => rw [e6] at hrun; cases hrun
              | ok ds2 ς6 =>
                rw [e6] at hrun
                simp only at hrun
                cases e7 : lcRun [] tt2 ft2 fe ds2 ς6 with
                | none => rw [e7] at hrun; cases hrun
                | some p7 =>
                  obtain ⟨ys, ς7⟩ := p7
                  rw [e7] at hrun
                  simp only at hrun
                  cases e8 : twRun tt1 ft1 fi2 tt2 ft2 fe ds3 ς7 with
                  | none => rw [e8] at hrun; cases hrun
                  | some p8 =>
                    rw [e8] at hrun
                    cases hrun
                    refine wpAny_bind (wpAny_mono (hi2 X hX _ s5 σ4 H5 w5 ς5 _ e6 I5 R5 trivial) (fun xv s6 h6 => ?_) fun _ _ z => (hxe _ _ z).elim)
                    refine wpAny_bind (wpAny_standAt (wpAny_bind (wpAny_of_eq (hs2 _ xv) ?_)))
                    refine wpAny_bind (wpAny_holding (wpAny_mono h6 (fun jv s7 h7 => ?_) fun _ _ z => (hxe _ _ z).elim))
                    obtain ⟨it2, fp2, tn2, J2, H7, rfl, I7, Tn2, st7, f7, w7, F7, R7, WK2⟩ := h7
                    refine wpAny_bind (wpAny_runOwn ?_)
                    have F57 := F35.trans F7
                    have pre : ∀ y ∈ acc ++ ys, y ∈ xs := fun y hy => by
                      rw [← hxs]
                      rcases List.mem_append.mp hy with hy | hy
                      · exact List.mem_append_left _ hy
                      · exact List.mem_append_right _ (List.mem_append_left _ hy)
                    have hlen : (acc ++ ys).length ≤ N := by
                      have h := congrArg List.length hxs
                      simp at h
                      simp
                      omega
                    have loop := two_inner (R := fun r s' => match r with
                      | .ok _ => wpAny (model X.prog X.w) X.A (again (.compLoop e 0 (.ref it) (.ref D) X.env)) (fun fin s' => match fin with
                        | .done f => R (.ok f) s'
                        | .again c' => c' = .compLoop e 0 (.ref it) (.ref D) X.env ∧ ∃ m, m < (d :: ds3).length ∧ ∃ (i : Nat) (σ' : L2.St) (H' : Hp) (w' : W) (ς : St) (acc ds rest : List Dat), m = ds.length ∧ ds = ds0.drop i ∧ i ≤ ds0.length ∧ Inv X [] σ' H' s' ∧ tn i s'.heap ∧ (∀ b ∈ fp, H' b = none) ∧ (∀ j, j ∉ is1 → j ∉ is2 → σ'[j]? = σ0[j]?) ∧ Fr w1 H1 w' H' ∧ Ext wJ.Hf w'.Hf ∧ AExt wJ.ads w'.ads ∧ Rel c.toSta c.n ς σ' H' w' ∧ AC acc w' H' ∧ twRun tt1 ft1 fi2 tt2 ft2 fe ds ς = some (rest, p8.2) ∧ acc ++ rest = xs)
                        (notedBy (model X.prog X.w) X.A X.env fun a s' => R (.error a) s') s'
                      | .error a => cameBackBy (model X.prog X.w) X.A X.env (notedBy (model X.prog X.w) X.A X.env fun a s' => R (.error a) s') a s')
                      hX hxe T hg2 ht2 M Tn2 WK2 hD1 (σ0 := σ4) (ς' := ς7) (xs := acc ++ ys) (fun b hb H' hn => ⟨hn, (f7 b hb).2⟩) (fun y hy => hgood y (pre y hy)) hlen
                      (fun s8 σ8 H8 w8 I8 k8 F8 X8 a8 R8 A8 => by
                        obtain ⟨st8, n8⟩ := pin I8
                        refine wpAny_pure ⟨rfl, ds3.length, by simp, i + 1, σ8, H8, w8, ς7, acc ++ ys, ds3, p8.1, rfl, hdn, hlt, I8.unpinned (pins := []), st8, n8, fun j hj hj2 => (k8 j hj2).trans (k5 j hj hj2), F8, ?_, ?_, R8, A8, e8, by rw [List.append_assoc]; exact hxs⟩
                        · exact (E1.trans F57.hf).trans X8
                        · exact fun k a h => a8 k a (F57.ad k a (E2 k a h)))
                      I7 st7 (fun b hb => (f7 b hb).1) (F15.trans F7) (Ext.refl _) (fun _ _ h => h) R7 (M.keep F57 A1) e7 rfl
                    exact start_two T (by omega) loop (Tn2.self X.A 0 _ _ _ st7 loop)
end
end VS

/-! comprehensions of two clauses, whole; sets written out -/
namespace VS
open PySem L2 PyProof.Rows
section
variable {c : Ctx} {X : Cx} {e t1 i1 t2 i2 : Expr} {ifs1 ifs2 : List Expr} {act : Value → Env → Sem Unit} {tt1 tt2 : Dat → St → Option St} {is1 is2 : List Nat} {ft1 ft2 : Act Bool} {fi1 fi2 : Act (List Dat)} {fe : Act ER} {good : Dat → Prop} {N : Nat} {scope : Scope} {own : List (Str × Nat)} {pos' : Pos}
theorem two_top (hX : c.Ok X) (T : Two e t1 i1 ifs1 t2 i2 ifs2 act) {newAcc : Sem Value} {AC : Addr → List Dat → W → Hp → Prop}
    (hnew : ∀ (pins : List (Addr × Obj)) (σ : L2.St) (H2 : Hp) (s2 : Shared) (w2 : W) (Q : Value → Shared → Prop), Inv X pins σ H2 s2 → H2 s2.heap.objs.size = none → w2.own s2.heap.objs.size = none → w2.Hf s2.heap.objs.size = none →
      (∀ (s3 : Shared) (o : HO), Inv X pins σ (upd H2 s2.heap.objs.size o) s3 → s3.heap.objs.size = s2.heap.objs.size + 1 → (∀ b u, s2.heap.get? b = some u → s3.heap.get? b = some u) → AC s2.heap.objs.size [] w2 (upd H2 s2.heap.objs.size o) → Q (.ref s2.heap.objs.size) s3) → wpAny (model X.prog X.w) X.A newAcc Q X.xe s2)
    (hi1 : VI c t1 i1 fi1) (hg1 : VG (c.blk scope) t1 tt1 is1) (ht1 : VTs (c.blk scope) ifs1 ft1) (hi2 : VI (c.blk scope) t2 i2 fi2) (hg2 : VG (c.blk scope) t2 tt2 is2) (ht2 : VTs (c.blk scope) ifs2 ft2) (M : ∀ D, Mk (c.blk scope) D (AC D) act fe good N)
    (ok : BlkOk c.N c.sc scope own) (his1 : ∀ i ∈ is1, i ∈ own.map (·.2)) (his2 : ∀ i ∈ is2, i ∈ own.map (·.2)) (hro : ∀ j ∈ own.map (·.2), c.ro j = false) (hs1 : ∀ env x, foldedSetIterable i1 env x = pure x) (hs2 : ∀ env x, foldedSetIterable i2 env x = pure x)
    {pins : List (Addr × Obj)} {s : Shared} {σ : L2.St} {H : Hp} {w : W} {ς ς1 ς2 : St} {ds xs : List Dat} (q : fi1 ς = some (.ok ds ς1)) (I : Inv X pins σ H s) (R : Rel c.toSta c.n ς σ H w) (hno : noOwn ς1 (own.map (·.2)) = true)
    (hrun : twRun tt1 ft1 fi2 tt2 ft2 fe ds (wipeS (own.map (·.2)) ς1) = some (xs, ς2)) (hgood : ∀ x ∈ xs, good x) (hN : xs.length ≤ N) {Q : Value → Shared → Prop}
    (hQ : ∀ (D : Addr) (s' : Shared) (H' : Hp) (w' : W), Inv X pins σ H' s' → Fr w H w' H' → H D = none → Rel c.toSta c.n (VS.restore ς1 (own.map (·.2)) (wipeS (own.map (·.2)) ς2)) σ H' w' → AC D xs w' H' → Q (.ref D) s') :
    wpAny (model X.prog X.w) X.A (comprehension e scope X.env pos' newAcc false (eval i1 X.env)) Q X.xe s := by
  have hN' : X.N.Nodup := by rw [hX.N]; exact hX.nd
  have okX : BlkOk X.N X.env.scope scope own := by rw [hX.N, hX.sc]; exact ok
  have hfree : ∀ y ∈ scope.names, y.2 = .free → ∃ a, X.env.cells.lookup y.1 = some a := fun y hy e => (ok.free y hy e).elim (fun k => I.ok.has _ (.inl (by show X.env.scope.names.lookup _ = _; rw [hX.sc]; exact k))) fun k => I.ok.has _ (.inr (by show X.env.scope.names.lookup _ = _; rw [hX.sc]; exact k))
  refine wpAny_comprehension_free (use := none) T.cl (hs1 _) (closure_ok hfree) ok.kind (fun y hy e => by rw [ok.uniq y hy, e])
    (thn (hi1 X hX pins s σ H w ς _ q I R trivial) fun xv s1 hx => thn hx fun itv s2 h2 => ?_)
  obtain ⟨it, fp, tn, J, H2, rfl, I2, Tn, st2, f2, w2, F2, R2, WK⟩ := h2
  have hDn : H2 s2.heap.objs.size = none := I2.hok.fresh (Nat.le_refl _)
  have hoD := R2.own0 _ hDn
  have hfD : w2.Hf s2.heap.objs.size = none := by
    cases z : w2.Hf s2.heap.objs.size with
    | none => rfl
    | some o => have := R2.sub _ o z; rw [hDn] at this; cases this
  refine hnew pins σ H2 s2 w2 _ I2 hDn hoD hfD fun s3 o I3 hsz hkp A3 => newEnv_comp ?_
  generalize hDD : s2.heap.objs.size = D at *
  obtain ⟨R3, F3⟩ := R2.laid (o := o) hDn
  have st3 : tn 0 s3.heap := Tn.keep _ _ _ st2 fun b _ u e => hkp b u e
  have low : ∀ b ∈ fp, b < D := fun b hb => by
    obtain ⟨u, e, _⟩ := Tn.obj _ _ st2 b hb
    rw [← hDD]
    exact Heap.lt_size e
  have f3 : ∀ b ∈ fp, FpOk X pins (upd H2 D o) b ∧ b < s3.heap.objs.size := fun b hb => by
    have h1 := low b hb
    exact ⟨⟨by rw [upd_ne (Nat.ne_of_lt h1)]; exact (f2 b hb).1, (f2 b hb).2⟩, Nat.lt_trans h1 (by rw [hsz]; exact Nat.lt_succ_self _)⟩
  have I4 := block_start I3 okX hN' f3
  generalize hcl : cellsFrom (s3.heap.objs.size + 1) scope.names (cloFrom X.env.cells scope.names []) = cl at I4 ⊢
  show codeAny _ _ (.compStart e 0 (.ref it) (.ref D) (compEnvC scope cl s3.heap.objs.size X.env)) _ { s3 with heap := pushCells (s3.heap.push { cls := .type "dict", data := .dict #[] }) scope.names }
  generalize hs4 : ({ s3 with heap := pushCells (s3.heap.push { cls := .type "dict", data := .dict #[] }) scope.names } : Shared) = s4 at I4 ⊢
  have st4 : tn 0 s4.heap := Tn.keep _ _ _ st3 fun b _ u e => by rw [← hs4]; exact pushCells_keeps _ _ _ _ (Heap.get?_push_of_some _ e)
  have hXb : (c.blk scope).Ok (X.blk s3 (upd H2 D o) scope (compEnvC scope cl s3.heap.objs.size X.env) fp) := hX.blk
  have R4 : Rel c.toSta c.n (wipeS (own.map (·.2)) ς1) (L2.wipe σ (own.map (·.2))) (upd H2 D o) w2 := R3.wipe rfl hro
  have stat : ∀ (σ' : L2.St) (H' : Hp) (s' : Shared), Inv (X.blk s3 (upd H2 D o) scope (compEnvC scope cl s3.heap.objs.size X.env) fp) [] σ' H' s' → (∀ b ∈ fp, H' b = none) → ∀ b ∈ fp, FpOk (X.blk s3 (upd H2 D o) scope (compEnvC scope cl s3.heap.objs.size X.env) fp) [] H' b := fun σ' H' s' I' hn b hb =>
    ⟨hn b hb, (I'.ok.exf b hb).1, I'.ok.exfs b hb, .inl hb, fun x a e => (I'.ok.exf b hb).2 x a e, fun p hp => nomatch (show p ∈ ([] : List (Addr × Obj)) from hp)⟩
  have loop : codeAny (model X.prog X.w) X.A (.compLoop e 0 (.ref it) (.ref D) (compEnvC scope cl s3.heap.objs.size X.env)) (compPost (model X.prog X.w) X.A X.xe none Q (.ref D) s3.heap.objs.size) s4 := by
    refine two_outer (X := X.blk s3 (upd H2 D o) scope (compEnvC scope cl s3.heap.objs.size X.env) fp) hXb (fun _ _ z => z) T hg1 ht1 hi2 hg2 ht2 (M D) hs2 Tn (⟨WK.go, WK.stop, WK.yld⟩ : WalkOk (c.blk scope) J ds w2) (w1 := w2) (H1 := H2) hDn stat hgood hN (fun s6 σ6 H6 w6 I6 k6 F6 R6 A6 => ?_) I4 st4 (fun b hb => (f3 b hb).1.1) F3 (Ext.refl _) (fun _ _ h => h) R4 A3 hrun rfl
    have I7 : Inv X pins σ H6 s6 := I3.call' (ch := fp) I6.os I6.base I6.hok I6.bare fun b hb => ⟨(f3 b hb).1.2.2.2.1, (f3 b hb).1.2.1, (f3 b hb).1.2.2.2.2.1, (f3 b hb).1.2.2.2.2.2⟩
    have nC : H6 s3.heap.objs.size = none := I6.free
    obtain ⟨m, hn, _⟩ := I6.loc
    have hn : s6.heap.Ns s3.heap.objs.size m := hn
    obtain ⟨g0, g1, g2, g3, g4, g5⟩ := I3.fpOk (Nat.le_refl _) nC
    have hwp : L2.wipe σ6 (own.map (·.2)) = L2.wipe σ (own.map (·.2)) := by
      have h1 : L2.wipe σ6 (own.map (·.2)) = L2.wipe (L2.wipe σ (own.map (·.2))) (own.map (·.2)) := wipe_eq (by rw [I6.len, wipe_length, I.len]) fun j hj => k6 j (fun z => hj (his1 j z)) fun z => hj (his2 j z)
      rw [h1]
      exact wipe_eq (by rw [wipe_length]) fun j hj => wipe_out hj
    refine ⟨m, hn, fun h'' sb => hQ D _ H6 w6 (I7.turned (t' := s6.toks) (fun b u hb e => (sb.2 b hb).trans e) g0 g1 g3 g4 g5) (F2.trans F6) (F2.dm D hDn) ?_ A6⟩
    exact R2.restore hno F6 (R6.wipe hwp hro) hro
  exact start_two T (by omega) loop (Tn.self X.A 0 _ _ _ st4 loop)
/-- what is thrown ahead of the walk -/
theorem two_ex (hX : c.Ok X) (T : Two e t1 i1 ifs1 t2 i2 ifs2 act) {newAcc : Sem Value} (hi1 : VI c t1 i1 fi1) (ok : BlkOk c.N c.sc scope own) (hs1 : ∀ env x, foldedSetIterable i1 env x = pure x)
    {pins : List (Addr × Obj)} {s : Shared} {σ : L2.St} {H : Hp} {w : W} {ς ς1 : St} {x : Exn} (q : fi1 ς = some (.ex x ς1)) (I : Inv X pins σ H s) (R : Rel c.toSta c.n ς σ H w) (TT : XT c X w H (.ex x ς1 : Out (List Dat))) {Q : Value → Shared → Prop} :
    wpAny (model X.prog X.w) X.A (comprehension e scope X.env pos' newAcc false (eval i1 X.env)) Q X.xe s := by
  have hfree : ∀ y ∈ scope.names, y.2 = .free → ∃ a, X.env.cells.lookup y.1 = some a := fun y hy e => (ok.free y hy e).elim (fun k => I.ok.has _ (.inl (by show X.env.scope.names.lookup _ = _; rw [hX.sc]; exact k))) fun k => I.ok.has _ (.inr (by show X.env.scope.names.lookup _ = _; rw [hX.sc]; exact k))
  exact wpAny_comprehension_free (use := none) T.cl (hs1 _) (closure_ok hfree) ok.kind (fun y hy e => by rw [ok.uniq y hy, e])
    (thn (hi1 X hX pins s σ H w ς _ q I R TT) fun xv s1 hx => thn hx fun itv s2 h2 => h2.elim)
/-- [elt for .. for ..] -/
def twA (vs : List Nat) (t1 : Dat → St → Option St) (ft1 : Act Bool) (fi2 : Act (List Dat)) (t2 : Dat → St → Option St) (ft2 : Act Bool) (fe : Act ER) (fi : Act (List Dat)) : Act ER := fi.bnd fun ds ς => if noOwn ς vs = true then
    match twRun t1 ft1 fi2 t2 ft2 fe ds (wipeS vs ς) with
    | some (xs, ς') => if xs.length ≤ sizeLine then some (.ok (.tp (.lst xs)) (restore ς vs (wipeS vs ς'))) else none
    | none => none
  else none
/-- {elt for .. for ..}, whole numbers -/
def twS (vs : List Nat) (t1 : Dat → St → Option St) (ft1 : Act Bool) (fi2 : Act (List Dat)) (t2 : Dat → St → Option St) (ft2 : Act Bool) (fe : Act ER) (fi : Act (List Dat)) : Act ER := fi.bnd fun ds ς => if noOwn ς vs = true then
    match twRun t1 ft1 fi2 t2 ft2 fe ds (wipeS vs ς) with
    | some (xs, ς') => (match intsOf xs with
      | some ns => if ns.length ≤ 1000 then some (.ok (.tp (.set (canon ns))) (restore ς vs (wipeS vs ς'))) else none
      | none => none)
    | none => none
  else none
/-- a list being made -/
def acL (S : Sta) (D : Addr) (acc : List Dat) (w : W) (H : Hp) : Prop := w.own D = none ∧ w.Hf D = none ∧ ∃ vs, H D = some (.lst vs) ∧ Reps S w.Hf w.ads vs acc
/-- a set being made -/
def acS (S : Sta) (D : Addr) (acc : List Dat) (w : W) (H : Hp) : Prop := w.own D = none ∧ w.Hf D = none ∧ ∃ ns : List Int, acc = ns.map .int ∧ ∃ n, n ≤ ns.length ∧ H D = some (SetO S.w D (fun i => decide (i ∈ ns)) n)
theorem grown {w1 w w' : W} {H1 H H' : Hp} {D : Addr} {o : HO} (hD : H1 D = none) (F : Fr w1 H1 w H) (hw : w' = w) (hH : H' = upd H D o) : Fr w1 H1 w' H' := by
  subst hw hH
  refine ⟨F.hf, F.ad, fun b u h1 h2 => ?_, F.nf, fun b h => ?_, F.h0, F.as, F.ow⟩
  · have nb : b ≠ D := fun q => by rw [q, hD] at h1; cases h1
    rw [upd_ne nb]
    exact F.kp b u h1 h2
  · by_cases hb : b = D
    · rw [hb]; exact hD
    · rw [upd_ne hb] at h
      exact F.dm b h
theorem mk_lst {c : Ctx} {elt : Expr} {fe : Act ER} (he : VE c elt fe) (D : Addr) : Mk c D (acL c.toSta D) (actL elt) fe (fun _ => True) sizeLine where
  keep := fun F ⟨h1, h2, vs, h3, h4⟩ => ⟨(F.kp D _ h3 h1).2, F.nf D _ h3 h1 h2, vs, (F.kp D _ h3 h1).1, h4.mono F.hf F.ad⟩
  add := fun X hX hxe pins s σ H w ς ς1 ς2 r x acc w1 H1 e1 e2 _ hl I R hD F A => by
    unfold actL
    refine wpAny_bind (wpAny_mono (he X hX pins s σ H w ς _ e1 I R trivial) (fun u s1 ⟨v, H2, w2, I2, rv, F2, R2, ro⟩ => ?_) fun _ _ z => (hxe _ _ z).elim)
    obtain ⟨w3, F3, R3, rp⟩ := settle_ok F2 R2 ro e2
    obtain ⟨h1, h2, vs, h3, h4⟩ := A
    have k1 := (F3.kp D _ h3 h1)
    have k2 := F3.nf D _ h3 h1 h2
    have hvl : vs.length < sizeLine := by rw [h4.length]; exact hl
    refine wpAny_bind (app_ok (X := X) I2 k1.1 hvl rv fun s4 I4 => wpAny_pure ⟨_, w3, I4, grown hD (F.trans F3) rfl rfl, F3.hf, F3.ad, R3.poke k1.2 k2 k1.1, k1.2, k2, _, upd_same, ?_⟩)
    exact (h4.mono F3.hf F3.ad).append (.cons rp .nil)
theorem mk_set {c : Ctx} {elt : Expr} {fe : Act ER} (he : VE c elt fe) (D : Addr) : Mk c D (acS c.toSta D) (actS elt) fe (fun x => ∃ i, x = .int i) 1000 where
  keep := fun F ⟨h1, h2, ns, e, n, hn, h3⟩ => ⟨(F.kp D _ h3 h1).2, F.nf D _ h3 h1 h2, ns, e, n, hn, (F.kp D _ h3 h1).1⟩
  add := fun X hX hxe pins s σ H w ς ς1 ς2 r x acc w1 H1 e1 e2 hx hl I R hD F A => by
    obtain ⟨i, rfl⟩ := hx
    unfold actS
    refine wpAny_bind (wpAny_mono (he X hX pins s σ H w ς _ e1 I R trivial) (fun u s1 ⟨v, H2, w2, I2, rv, F2, R2, ro⟩ => ?_) fun _ _ z => (hxe _ _ z).elim)
    obtain ⟨w3, F3, R3, rp⟩ := settle_ok F2 R2 ro e2
    cases rp
    obtain ⟨h1, h2, ns, rfl, n, hn, h3⟩ := A
    have k1 := (F3.kp D _ h3 h1)
    have k2 := F3.nf D _ h3 h1 h2
    rw [List.length_map] at hl
    have room : n + 1 < scanBound := by unfold scanBound; omega
    refine wpAny_bind (wpAny_standAt ?_)
    refine wpAny_bind (wpAny_mono (mt_sadd (X := X.nox) pins s1 σ H2 (.ref D) [.int i] (.ref D) [u] (fun v' H' => H' = upd H2 D (SetO c.w D (fun j => decide (j ∈ ns) || decide (j = i)) (if decide (i ∈ ns) = true then n else n + 1))) (I2.wish _) rfl (.cons rv .nil)
      ⟨D, i, _, n, rfl, rfl, by rw [show X.nox.w = c.w from hX.w]; exact k1.1, room, by rw [show X.nox.w = c.w from hX.w]⟩) (fun u4 s4 ⟨v4, H4, I4, r4, e4⟩ => ?_) fun _ _ z => False.elim z)
    subst e4
    refine wpAny_pure ⟨_, w3, I4.unwish, grown hD (F.trans F3) rfl rfl, F3.hf, F3.ad, R3.poke k1.2 k2 k1.1, k1.2, k2, ns ++ [i], by simp, (if decide (i ∈ ns) = true then n else n + 1), by rw [List.length_append]; split <;> simp <;> omega, ?_⟩
    rw [upd_same]
    congr 2
    funext j
    rw [Bool.eq_iff_iff]
    simp
end
section
variable {c : Ctx} {elt t1 i1 t2 i2 : Expr} {ifs1 ifs2 : List Expr} {tt1 tt2 : Dat → St → Option St} {is1 is2 : List Nat} {ft1 ft2 : Act Bool} {fi1 fi2 : Act (List Dat)} {fe : Act ER} {scope : Scope} {own : List (Str × Nat)} {pos : Pos}
theorem ve_tw (hi1 : VI c t1 i1 fi1) (hg1 : VG (c.blk scope) t1 tt1 is1) (ht1 : VTs (c.blk scope) ifs1 ft1) (hi2 : VI (c.blk scope) t2 i2 fi2) (hg2 : VG (c.blk scope) t2 tt2 is2) (ht2 : VTs (c.blk scope) ifs2 ft2) (he : VE (c.blk scope) elt fe)
    (ok : BlkOk c.N c.sc scope own) (his1 : ∀ i ∈ is1, i ∈ own.map (·.2)) (his2 : ∀ i ∈ is2, i ∈ own.map (·.2)) (hro : ∀ j ∈ own.map (·.2), c.ro j = false) (hs1 : ∀ env x, foldedSetIterable i1 env x = pure x) (hs2 : ∀ env x, foldedSetIterable i2 env x = pure x) :
    VE c (.ListComp elt [⟨t1, i1, ifs1, 0⟩, ⟨t2, i2, ifs2, 0⟩] scope pos) (twA (own.map (·.2)) tt1 ft1 fi2 tt2 ft2 fe fi1) := .of fun X hX pins s σ H w ς o ho I R T => by
  unfold twA Act.bnd at ho
  cases q : fi1 ς with
  | none => rw [q] at ho; cases ho
  | some o1 =>
    rw [q] at ho
    cases o1 with
    | ex x ς1 =>
      cases ho
      rw [eval_ListComp]
      exact two_ex hX two_lst hi1 ok hs1 q I R T
    | ok ds ς1 =>
      simp only at ho
      split at ho
      · rename_i hno
        split at ho
        · rename_i xs ς2 hrun
          split at ho
          · rename_i hz
            cases ho
            rw [eval_ListComp]
            refine two_top hX two_lst (fun pins σ H2 s2 w2 Q I2 h1 h2 h3 h4 => ?_) hi1 hg1 ht1 hi2 hg2 ht2 (mk_lst he) ok his1 his2 hro hs1 hs2 q I R hno hrun (fun _ _ => trivial) hz fun D s' H' w' I' F' hD R' A' => ?_
            · exact wpAny_newObj_type (h4 _ (.lst []) (I2.laid (t' := s2.toks) (fun b o e => Heap.get?_push_of_some _ e) (Nat.le_refl _) ⟨Nat.zero_le _, [], 0, .nil, Heap.get?_push_size _ rfl⟩) (Heap.size_push ..) (fun b u e => Heap.get?_push_of_some _ e) ⟨h2, h3, [], upd_same, .nil⟩) (by show 0 ≤ sizeLine; decide)
            · obtain ⟨a1, a2, vs, a3, a4⟩ := A'
              exact ⟨.ref D, H', w', I', rfl, F', R', D, rfl, hD, a1, a2, .lst a3 a4⟩
          · cases ho
        · cases ho
      · cases ho
theorem ve_ts (hi1 : VI c t1 i1 fi1) (hg1 : VG (c.blk scope) t1 tt1 is1) (ht1 : VTs (c.blk scope) ifs1 ft1) (hi2 : VI (c.blk scope) t2 i2 fi2) (hg2 : VG (c.blk scope) t2 tt2 is2) (ht2 : VTs (c.blk scope) ifs2 ft2) (he : VE (c.blk scope) elt fe)
    (ok : BlkOk c.N c.sc scope own) (his1 : ∀ i ∈ is1, i ∈ own.map (·.2)) (his2 : ∀ i ∈ is2, i ∈ own.map (·.2)) (hro : ∀ j ∈ own.map (·.2), c.ro j = false) (hs1 : ∀ env x, foldedSetIterable i1 env x = pure x) (hs2 : ∀ env x, foldedSetIterable i2 env x = pure x) :
    VE c (.SetComp elt [⟨t1, i1, ifs1, 0⟩, ⟨t2, i2, ifs2, 0⟩] scope pos) (twS (own.map (·.2)) tt1 ft1 fi2 tt2 ft2 fe fi1) := .of fun X hX pins s σ H w ς o ho I R T => by
  unfold twS Act.bnd at ho
  cases q : fi1 ς with
  | none => rw [q] at ho; cases ho
  | some o1 =>
    rw [q] at ho
    cases o1 with
    | ex x ς1 =>
      cases ho
      rw [PpSet.eval_SetComp]
      exact two_ex hX two_set hi1 ok hs1 q I R T
    | ok ds ς1 =>
      simp only at ho
      split at ho
      · rename_i hno
        split at ho
        · rename_i xs ς2 hrun
          split at ho
          · rename_i ns hns
            split at ho
            · rename_i hz
              cases ho
              obtain rfl := intsOf_eq hns
              have hgood : ∀ x ∈ ns.map Dat.int, ∃ i, x = .int i := fun x hx => by
                obtain ⟨i, _, rfl⟩ := List.mem_map.mp hx
                exact ⟨i, rfl⟩
              rw [PpSet.eval_SetComp]
              refine two_top hX two_set (fun pins σ H2 s2 w2 Q I2 h1 h2 h3 h4 => ?_) hi1 hg1 ht1 hi2 hg2 ht2 (mk_set he) ok his1 his2 hro hs1 hs2 q I R hno hrun hgood (by rw [List.length_map]; exact hz) fun D s' H' w' I' F' hD R' A' => ?_
              · refine PpSet.newSet_ok ?_
                have new : SetR X.w _ s2.heap.objs.size (fun i => decide (i ∈ ([] : List Int))) 0 := (setR_fresh (h := s2.heap) X.w).congr fun k => by simp
                have I3 := I2.laid (a := s2.heap.objs.size) (t' := s2.toks) (fun b o e => Heap.get?_push_of_some _ e) (Nat.le_refl _) (setO_new new)
                refine h4 _ _ I3 (Heap.size_push ..) (fun b u e => Heap.get?_push_of_some _ e) ⟨h2, h3, [], rfl, 0, Nat.le_refl _, ?_⟩
                rw [upd_same, hX.w]
                rfl
              · obtain ⟨a1, a2, ns', e', n, hn, a3⟩ := A'
                have e' : ns' = ns := (List.map_inj_right (fun _ _ h => by injection h)).mp e'.symm
                subst e'
                have hset := setO_get I' (by rw [hX.w]; exact a3)
                have hnl := setR_len hset
                subst hnl
                have ea : (fun i => decide (i ∈ ns')) = fun i => decide (i ∈ canon ns') := by
                  funext i
                  rw [decide_eq_decide]
                  exact (canon_mem i ns').symm
                rw [ea] at a3
                exact ⟨.ref D, H', w', I', rfl, F', R', D, rfl, hD, a1, a2, .set a3⟩
            · cases ho
          · cases ho
        · cases ho
      · cases ho
end
end VS

/-! {a, b} of whole numbers; their forward rules; comprehensions of two clauses forward -/
namespace VS
open PySem L2 PyProof.Rows
section
variable {c : Ctx} {X : Cx} {pins : List (Addr × Obj)} {σ : L2.St} {H : Hp} {s : Shared}
/-- whether a code stands in the main module is told -/
theorem main_any (hX : c.Ok X) (I : Inv X pins σ H s) {E : Value → Shared → Prop} {Q : Bool → Shared → Prop} (h : ∀ b, Q b s) : wpAny (model X.prog X.w) X.A (inMainModule X.env) Q E s := by
  obtain ⟨q, hq⟩ := hX.code
  have kin : X.K.In s.heap := fun a o e => I.bk a o (I.mod.kin a o e)
  refine PySem.W.kds_main kin ?_ h
  generalize X.env.code = cd at hq
  cases cd with
  | ref cc =>
    have hq : (match X.K.lookup cc with | some ⟨_, _, .fields vs, _⟩ => _ | _ => false) = true := hq
    show (match X.K.lookup cc with | some ⟨_, _, .fields _, _⟩ => true | _ => false) = true
    generalize X.K.lookup cc = o at hq
    rcases o with _ | ⟨c1, c2, d, c4⟩
    · cases hq
    · cases d <;> first | rfl | (cases hq; done)
  | _ => cases hq
/-- a member is put to a set -/
theorem put_ok {E : Value → Shared → Prop} {D : Addr} {S : Int → Bool} {n : Nat} {k : Int} {tk : Tok} {Q : Bool → Shared → Prop} (I : Inv X pins σ H s) (ha : H D = some (SetO X.w D S n)) (room : n + 1 < scanBound)
    (h : ∀ (b : Bool) (s' : Shared), Inv X pins σ (upd H D (SetO X.w D (fun j => S j || decide (j = k)) (if S k = true then n else n + 1))) s' → Q b s') : wpAny (model X.prog X.w) X.A (setAdd D (.int k tk)) Q E s := by
  have R := setO_get I ha
  unfold setAdd
  refine wpAny_holding (wpAny_bind ((intKind X.prog X.w).pyHash (k := k) (intKind_is _ _ _ _) ?_))
  refine setR_add_hashed (s := { s with toks := s.toks + 1 }) R room fun h' sb new => ?_
  have he : ∃ u, h'.get? D = some u := by
    obtain ⟨o, _, _, _, ho, _⟩ := new
    exact ⟨o, ho⟩
  exact h _ _ (I.write (e := D) (t' := s.toks + 1) (by rw [ha]; trivial) (.inl rfl) (fun b u hb hu => (sb.2 b hb).trans hu) he (setO_new new))
def setO (a b : Dat) : Option ER := match a, b with
  | .int i, .int j => some (.tp (.set (canon [i, j])))
  | _, _ => none
/-- {a, b}, whole numbers -/
def setW (fa fb : Act ER) : Act ER := fa.bnd fun r1 => fb.bnd fun r2 => opD setO r1 r2
end
section
variable {c : Ctx} {a b : Expr} {fa fb : Act ER} {pos : Pos}
theorem ve_set2 (ha : VE c a fa) (hb : VE c b fb) (hs : ∀ env : Env, starEach [a, b] env = [(false, eval a env), (false, eval b env)]) : VE c (.Set [a, b] 0 pos) (setW fa fb) := .of fun X hX pins s σ H w ς o ho I R T => by
  rw [arm_eval_Set]
  refine wpAny_bind (wpAny_standAt (wpAny_bind (main_any hX I fun mb => ?_)))
  rw [hs]
  unfold setDisplay
  refine wpAny_bind (PpSet.newSet_ok ?_)
  show wpAny _ _ (holding [.ref s.heap.objs.size] (evalAll [(do let v ← eval a X.env; standAt pos; pure v), (do let v ← eval b X.env; standAt pos; pure v)] >>= _) >>= _) _ _ _
  have hDn : H s.heap.objs.size = none := I.hok.fresh (Nat.le_refl _)
  have new : SetR X.w _ s.heap.objs.size (fun i => decide (i ∈ ([] : List Int))) 0 := (setR_fresh (h := s.heap) X.w).congr fun k => by simp
  have I3 := I.laid (a := s.heap.objs.size) (t' := s.toks) (fun b o e => Heap.get?_push_of_some _ e) (Nat.le_refl _) (setO_new new)
  obtain ⟨R3, F3⟩ := R.laid (o := SetO X.w s.heap.objs.size (fun i => decide (i ∈ ([] : List Int))) 0) hDn
  have hoD := R.own0 _ hDn
  have hfD : w.Hf s.heap.objs.size = none := by
    cases z : w.Hf s.heap.objs.size with
    | none => rfl
    | some o => have := R.sub _ o z; rw [hDn] at this; cases this
  have A3 : acS c.toSta s.heap.objs.size [] w (upd H s.heap.objs.size (SetO X.w s.heap.objs.size (fun i => decide (i ∈ ([] : List Int))) 0)) := ⟨hoD, hfD, [], rfl, 0, Nat.le_refl _, by rw [upd_same, hX.w]⟩
  generalize s.heap.objs.size = D at *
  have keep : ∀ {w w' : W} {H H' : Hp}, Fr w H w' H' → acS c.toSta D [] w H → acS c.toSta D [] w' H' := fun F ⟨h1, h2, ns, e, n, hn, h3⟩ => ⟨(F.kp D _ h3 h1).2, F.nf D _ h3 h1 h2, ns, e, n, hn, (F.kp D _ h3 h1).1⟩
  refine wpAny_bind (wpAny_holding (wpAny_bind (wpAny_bind (wpAny_bind (ve_then ha hX I3 R3 (T.from F3) ho fun r1 ς1 u1 s1 v1 H1 w1 h1 I1 rv1 F1 R1 T1 ro1 => ?_)))))
  refine wpAny_bind (wpAny_standAt (wpAny_pure (wpAny_bind (wpAny_holding (wpAny_bind (wpAny_bind (ve_then hb hX I1 R1 T1 h1 fun r2 ς2 u2 s2 v2 H2 w2 h2 I2 rv2 F2 R2 T2 ro2 => ?_)))))))
  refine wpAny_bind (wpAny_standAt (wpAny_pure (wpAny_bind (wpAny_holding (wpAny_pure (wpAny_pure (wpAny_pure ?_)))))))
  cases e1 : cur ς2 r1 with
  | none => unfold opD at h2; rw [e1] at h2; cases h2
  | some d1 =>
    cases e2 : cur ς2 r2 with
    | none => unfold opD at h2; rw [e1, e2] at h2; cases h2
    | some d2 =>
      unfold opD at h2
      rw [e1, e2] at h2
      simp only at h2
      obtain ⟨i, j, rfl, rfl⟩ : ∃ i j, d1 = .int i ∧ d2 = .int j := by
        cases d1 <;> first | (cases h2; done) | skip
        cases d2 <;> first | (cases h2; done) | exact ⟨_, _, rfl, rfl⟩
      cases h2
      have x1 := (R2.view (ro1.carry F2) e1).int
      have x2 := (R2.view ro2 e2).int
      subst x1 x2
      obtain ⟨k1, rfl⟩ := rv1
      obtain ⟨k2, rfl⟩ := rv2
      obtain ⟨a1, a2, ns, en, n, hn, a3⟩ := keep (F1.trans F2) A3
      have en : ns = [] := by cases ns <;> first | rfl | (cases en; done)
      subst en
      have hn0 : n = 0 := Nat.le_zero.mp hn
      subst hn0
      have a3 : H2 D = some (SetO X.w D (fun i => decide (i ∈ ([] : List Int))) 0) := by rw [hX.w]; exact a3
      refine wpAny_bind (wpAny_holding ?_)
      rw [List.forIn_cons]
      refine wpAny_bind (wpAny_bind (wpAny_bind (put_ok I2 a3 (by decide) fun b1 s4 I4 => wpAny_pure ?_)))
      dsimp only
      rw [List.forIn_cons]
      refine wpAny_bind (wpAny_bind (put_ok I4 upd_same (by split <;> decide) fun b2 s5 I5 => wpAny_pure ?_))
      dsimp only
      rw [List.forIn_nil]
      refine wpAny_pure (wpAny_pure ?_)
      refine wpAny_bind ?_
      show wpAny _ _ (forIn ([] : List (Bool × Sem Value)) PUnit.unit _) _ _ _
      rw [List.forIn_nil]
      refine wpAny_pure (wpAny_pure ?_)
      have e5 := setO_get I5 upd_same
      have R5 := (R2.poke (o' := SetO X.w D (fun t => decide (t ∈ ([] : List Int)) || decide (t = i)) (if decide (i ∈ ([] : List Int)) = true then 0 else 0 + 1)) a1 a2 a3).poke (o' := SetO X.w D (fun t => (decide (t ∈ ([] : List Int)) || decide (t = i)) || decide (t = j)) (if (decide (j ∈ ([] : List Int)) || decide (j = i)) = true then (if decide (i ∈ ([] : List Int)) = true then 0 else 0 + 1) else (if decide (i ∈ ([] : List Int)) = true then 0 else 0 + 1) + 1)) a1 a2 upd_same
      have ef : (fun t => (decide (t ∈ ([] : List Int)) || decide (t = i)) || decide (t = j)) = fun t => decide (t ∈ canon [i, j]) := by
        funext t
        rw [Bool.eq_iff_iff]
        simp [canon_mem]
      have el : (if (decide (j ∈ ([] : List Int)) || decide (j = i)) = true then (if decide (i ∈ ([] : List Int)) = true then 0 else 0 + 1) else (if decide (i ∈ ([] : List Int)) = true then 0 else 0 + 1) + 1) = (canon [i, j]).length := setR_len (ns := [i, j]) (e5.congr fun t => by simp)
      refine wpAny_pure ⟨.ref D, _, w2, I5, rfl, grown hDn (grown hDn ((F3.trans F1).trans F2) rfl rfl) rfl rfl, R5, D, rfl, hDn, a1, a2, .set ?_⟩
      rw [upd_same, ef, el, hX.w]
end
end VS

/-! forward rules for V45..V48 -/
namespace VS
open PySem L2
section
variable {α β γ δ : Type}
def replO : Option (Option VS.Slot) → Option (Option VS.Slot) → Option Str
  | some (some (.fr (.str z))), some (some (.fr (.str x))) => if z.length ≤ 1000 ∧ 1 ≤ x.length then some (Txt.replace z x "") else none
  | _, _ => none
@[simp] theorem replO_str (z x : Str) : replO (some (some (.fr (.str z)))) (some (some (.fr (.str x)))) = if z.length ≤ 1000 ∧ 1 ≤ x.length then some (Txt.replace z x "") else none := rfl
@[simp ↓] theorem wp_replS (m i : Nat) (sl : List (Option VS.Slot)) (ob : List OVal) (Q : ER → VS.St → Prop) (E : XQ) : WP (replS m i) ⟨sl, ob⟩ Q E = OQ (replO sl[m]? sl[i]?) fun t => Q (.fr (.str t)) ⟨sl, ob⟩ := by
  refine wp_leaf (replO sl[m]? sl[i]?) (fun t => ER.fr (.str t)) (fun _ => ⟨sl, ob⟩) ?_
  unfold replS
  show (match sl[m]?, sl[i]? with | some (some (.fr (.str z))), some (some (.fr (.str x))) => _ | _, _ => none) = _
  generalize sl[m]? = o1
  generalize sl[i]? = o2
  rcases o1 with _ | _ | (d | d)
  · rfl
  · rfl
  · cases d <;> try rfl
    rcases o2 with _ | _ | (d2 | d2)
    · rfl
    · rfl
    · cases d2 <;> try rfl
      rename_i z x
      show (if z.length ≤ 1000 ∧ 1 ≤ x.length then _ else none) = Option.map _ (if z.length ≤ 1000 ∧ 1 ≤ x.length then _ else none)
      split <;> rfl
    · rfl
  · rfl
@[simp ↓] theorem wp_setW (fa fb : Act ER) (ς : VS.St) (Q : ER → VS.St → Prop) (E : XQ) : WP (setW fa fb) ς Q E = WP fa ς (fun r1 ς1 => WP fb ς1 (fun r2 ς2 => OQ (cur ς2 r1) fun a => OQ (cur ς2 r2) fun b => OQ (setO a b) fun r => Q r ς2) E) E := by
  show WP (Act.bnd fa _) ς Q E = _
  rw [wp_bnd]
  refine WP.c fun r1 ς1 => ?_
  rw [wp_bnd]
  refine WP.c fun r2 ς2 => ?_
  exact wp_opD _ _ _ _ _ _
@[simp] theorem setO_int (i j : Int) : setO (.int i) (.int j) = some (.tp (.set (canon [i, j]))) := rfl
@[simp ↓] theorem wp_twA (vs : List Nat) (t1 : Dat → VS.St → Option VS.St) (ft1 : Act Bool) (fi2 : Act (List Dat)) (t2 : Dat → VS.St → Option VS.St) (ft2 : Act Bool) (fe : Act ER) (fi : Act (List Dat)) (ς : VS.St) (Q : ER → VS.St → Prop) (E : XQ) : WP (twA vs t1 ft1 fi2 t2 ft2 fe fi) ς Q E = WP fi ς (fun ds ς1 => noOwn ς1 vs = true ∧ OQ (twRun t1 ft1 fi2 t2 ft2 fe ds (wipeS vs ς1)) fun p => p.1.length ≤ sizeLine ∧ Q (.tp (.lst p.1)) (restore ς1 vs (wipeS vs p.2))) E := by
  show WP (Act.bnd fi _) ς Q E = _
  rw [wp_bnd]
  refine WP.c fun ds ς1 => ?_
  show OQ (if noOwn ς1 vs = true then _ else none) (oq Q E) = _
  by_cases h : noOwn ς1 vs = true
  · rw [if_pos h]
    cases twRun t1 ft1 fi2 t2 ft2 fe ds (wipeS vs ς1) with
    | none =>
      rw [OQ_none, OQ_none]
      exact propext ⟨False.elim, fun q => q.2⟩
    | some p =>
      rw [OQ_some]
      show OQ (if p.1.length ≤ sizeLine then _ else none) _ = _
      rw [OQ_ite]
      exact propext ⟨fun q => ⟨h, q⟩, fun q => q.2⟩
  · rw [if_neg h, OQ_none]
    exact propext ⟨False.elim, fun q => h q.1⟩

@[simp ↓] theorem wp_twS (vs : List Nat) (t1 : Dat → VS.St → Option VS.St) (ft1 : Act Bool) (fi2 : Act (List Dat)) (t2 : Dat → VS.St → Option VS.St) (ft2 : Act Bool) (fe : Act ER) (fi : Act (List Dat)) (ς : VS.St) (Q : ER → VS.St → Prop) (E : XQ) : WP (twS vs t1 ft1 fi2 t2 ft2 fe fi) ς Q E = WP fi ς (fun ds ς1 => noOwn ς1 vs = true ∧ OQ (twRun t1 ft1 fi2 t2 ft2 fe ds (wipeS vs ς1)) fun p => OQ (intsOf p.1) fun ns => ns.length ≤ 1000 ∧ Q (.tp (.set (canon ns))) (restore ς1 vs (wipeS vs p.2))) E := by
  show WP (Act.bnd fi _) ς Q E = _
  rw [wp_bnd]
  refine WP.c fun ds ς1 => ?_
  show OQ (if noOwn ς1 vs = true then _ else none) (oq Q E) = _
  by_cases h : noOwn ς1 vs = true
  · rw [if_pos h]
    cases twRun t1 ft1 fi2 t2 ft2 fe ds (wipeS vs ς1) with
    | none =>
      rw [OQ_none, OQ_none]
      exact propext ⟨False.elim, fun q => q.2⟩
    | some p =>
      rw [OQ_some]
      show OQ (match intsOf p.1 with | some ns => if ns.length ≤ 1000 then _ else none | none => none) _ = _
      cases intsOf p.1 with
      | none =>
        rw [OQ_none, OQ_none]
        exact propext ⟨False.elim, fun q => q.2⟩
      | some ns =>
        rw [OQ_some]
        show OQ (if ns.length ≤ 1000 then _ else none) _ = _
        rw [OQ_ite]
        exact propext ⟨fun q => ⟨h, q⟩, fun q => q.2⟩
  · rw [if_neg h, OQ_none]
    exact propext ⟨False.elim, fun q => h q.1⟩
/-- two clauses, by an invariant of the outer one; the inner one's run by what it leaves -/
theorem tw_inv {enc : β → Dat} {t1 : Dat → VS.St → Option VS.St} {ft1 : Act Bool} {fi2 : Act (List Dat)} {t2 : Dat → VS.St → Option VS.St} {ft2 : Act Bool} {fe : Act ER} {xs : List β} {ς : VS.St} {K : List Dat × VS.St → Prop} (I : List β → List Dat → VS.St → Prop) (h0 : I [] [] ς)
    (hs : ∀ (done : List β) (x : β) (rest : List β) (out : List Dat) (ς' : VS.St), xs = done ++ x :: rest → I done out ς' → OQ (t1 (enc x) ς') fun ς1 => WP ft1 ς1 (fun b ς2 => if b = true then WP fi2 ς2 (fun ds ς3 => OQ (lcRun [] t2 ft2 fe ds ς3) fun p => At (I (done ++ [x]) (out ++ p.1)) p.2) noE else At (I (done ++ [x]) out) ς2) noE)
    (hd : ∀ out ς', I xs out ς' → K (out, ς')) : OQ (twRun t1 ft1 fi2 t2 ft2 fe (xs.map enc) ς) K := by
  have go : ∀ (rest done : List β) (out : List Dat), xs = done ++ rest → ∀ ς, I done out ς → OQ (twRun t1 ft1 fi2 t2 ft2 fe (rest.map enc) ς) fun p => I xs (out ++ p.1) p.2 := fun rest => by
    induction rest with
    | nil => exact fun done out e ς h => ⟨([], ς), rfl, by show I xs (out ++ []) ς; rw [e, List.append_nil, List.append_nil]; exact h⟩
    | cons x rest ih =>
      intro done out e ς h
      obtain ⟨ς1, e1, q⟩ := hs done x rest out ς e h
      obtain ⟨b, ς2, e2, q⟩ := q.no
      rw [List.map_cons]
      unfold twRun
      rw [e1]
      simp only
      rw [e2]
      cases b with
      | false => exact ih (done ++ [x]) out (by rw [e]; simp) _ q.h
      | true =>
        simp only [if_true] at q
        obtain ⟨ds, ς3, e3, p, e4, q⟩ := q.no
        simp only
        rw [e3]
        simp only
        rw [e4]
        obtain ⟨p', e5, q'⟩ := ih (done ++ [x]) (out ++ p.1) (by rw [e]; simp) _ q.h
        refine ⟨(p.1 ++ p'.1, p'.2), ?_, by simpa using q'⟩
        simp only
        rw [e5]
        rfl
  exact (go xs [] [] rfl ς h0).mono fun p q => hd p.1 p.2 (by simpa using q)
end
end VS
namespace VS
open PySem L2
/-- a name that a comprehension reads is no name to swap with -/
theorem sw_cell {elt : Expr} {gs : List Comprehension} {scope : Scope} {pos py : Pos} {y : Str} {l : Nat} {env : Env} (hy : env.kindOf y = some .cell) : swapsWith (.ListComp elt gs scope pos) (some (.Name y py)) l env = pure false := by
  show (pure (env.blockKind == .function && env.kindOf y == some .local && _ && _) : Sem Bool) = pure false
  rw [hy, show (some NameKind.cell == some NameKind.local) = false from rfl, Bool.and_false, Bool.false_and, Bool.false_and]
theorem sw_cellD {k elt : Expr} {gs : List Comprehension} {scope : Scope} {pos py : Pos} {y : Str} {l : Nat} {env : Env} (hy : env.kindOf y = some .cell) : swapsWith (.DictComp k elt gs scope pos) (some (.Name y py)) l env = pure false := by
  show (pure (env.blockKind == .function && env.kindOf y == some .local && _ && _) : Sem Bool) = pure false
  rw [hy, show (some NameKind.cell == some NameKind.local) = false from rfl, Bool.and_false, Bool.false_and, Bool.false_and]
section
variable {c : VS.Ctx} {e : Expr} {f : Act ER} {pos : Pos}
/-- x = e, x read by a comprehension -/
theorem vs_setC {i : Nat} {x : Str} {pos' : Pos} (hi : c.N[i]? = some x) (hx : c.sc.names.lookup x = some .cell) (hr : c.ro i = false) (he : VE c e f) (hf : c.fnn x = true) (hs : ∀ env : Env, env.kindOf x = some .cell → swapsWith e (some (.Name x pos')) pos.line env = pure false) :
    VS1 c (.Assign [.Name x pos'] e pos) (setA i f) := .of fun X hX pins s σ H w ς o ho I R T => by
  refine wpAny_Assign_Name (ve_then he hX I R T ho fun r ς1 u s1 v H1 w1 h1 I1 rv F1 R1 T1 ro => ?_) (hs _ (by show X.env.scope.names.lookup x = _; rw [hX.sc]; exact hx))
  cases q : setR ς1 i r with
  | none => rw [q] at h1; cases h1
  | some ς2 =>
    rw [q] at h1
    cases h1
    obtain ⟨w2, F2, R2⟩ := setR_ok F1 R1 (fun a h => by rw [F1.h0]; exact R.dom a h) (List.getElem?_eq_some_iff.mp hi).1 (by rw [I1.len, hX.N]) hr ro q
    exact store_ok I1 (by rw [hX.N]; exact hX.nd) (by rw [hX.N]; exact hi) (.inr (by rw [hX.sc]; exact hx)) rv (fun s2 I2 => ⟨_, H1, w2, I2, F2, R2⟩) (.inl (hX.fnn x hf))
end
end VS

/-! the walk, printed by gen.py -/
namespace K26
open PySem L2 PyProof.Rows VS
def top (i : Nat) : Stmt := PySem.Challenge.pw_latehall_k26_words_and_tables.main.body.getD i (.Pass ⟨0, 0, 0, 0⟩)
abbrev s_law_feed : Stmt := top 11
abbrev s_law_take : Stmt := top 12
abbrev s_law_pick : Stmt := top 13
abbrev s_word_number : Stmt := top 5
abbrev s_law_of_word : Stmt := top 21
abbrev s_law_whole : Stmt := top 14
abbrev s_law_unlike : Stmt := top 15
abbrev s_law_number : Stmt := top 20
abbrev s_law_rows_drawn : Stmt := top 16
abbrev s_law_gives_drawn : Stmt := top 17
abbrev s_law_library_drawn : Stmt := top 18
abbrev s_law_shelf : Stmt := top 19
abbrev s_chain_of : Stmt := top 7
abbrev s_bits_of : Stmt := top 6
abbrev s_sieve_of : Stmt := top 8
abbrev s_table_of : Stmt := top 9
abbrev s_law_table : Stmt := top 22
abbrev s_law_kinds : Stmt := top 23
abbrev s_law : Stmt := top 24
structure Txt (S : Sta) : Prop where
  g_len : S.mg "len" = none
  g_abs : S.mg "abs" = none
  g_STEP : ∃ t, S.mg "STEP" = some (.int 33 t)
  g_LETTERS : ∃ t, S.mg "LETTERS" = some (.str "abcdefghijklmnopqrstuvwxyz" t)
  g_WORD_SPAN : ∃ t, S.mg "WORD_SPAN" = some (.int 4294967296 t)
  g_int : S.mg "int" = none
  g_isinstance : S.mg "isinstance" = none
  g_bool : S.mg "bool" = none
  g_range : S.mg "range" = none
  g_tuple : S.mg "tuple" = none
  g_enumerate : S.mg "enumerate" = none
  g_NEXT : ∃ t, S.mg "NEXT" = some (.int 32 t)
  g_sorted : S.mg "sorted" = none
  g_sum : S.mg "sum" = none
  g_all : S.mg "all" = none
  g_list : S.mg "list" = none
/-! _law_feed -/
def N_law_feed : List Str := ["script", "k", "cell", "digits"]
def g_law_feed : Act Flw := (seqA (setA 2 (op2 addGT (op2 mulGS (cst (.int 67)) (var 1)) (cst (.int 19))))
    (seqA (iteA (testA (op2 ltG (var 1) (callA lenD (consA (var 0) (Act.ret [])))))
    (setA 2 (op2 ixGD (var 0) (var 1)))
    (Act.ret .nx))
    (seqA (setA 3 (cst (.int 0)))
    (seqA (iteA (testA (op2 geG (callA absD (consA (var 2) (Act.ret []))) (op2 powG (cst (.int 10)) (cst (.int 18)))))
    (setA 3 (op2 subG (callA absD (consA (var 2) (Act.ret []))) (op2 powG (cst (.int 10)) (cst (.int 18)))))
    (Act.ret .nx))
    (retA (fun i => decide (i < 2)) (lstA (consA (var 3) (consA (op2 modG (op2 addGT (op2 addGT (op2 mulGS (var 2) (cst (.int 6364136223846793005))) (op2 mulGS (cst (.int 7919)) (var 1))) (cst (.int 1442695040888963407))) (cst (.int 2305843009213693951))) (Act.ret [])))))))))
def F_law_feed : FD := runB 4 2 (fun i => decide (i ∈ ([0, 1] : List Nat))) g_law_feed
abbrev c_law_feed (S : Sta) : VS.Ctx := { toSta := S, N := N_law_feed, sc := defScope s_law_feed, lvl := 0, fnn := fun _ => true, ro := fun i => decide (i ∈ ([0, 1] : List Nat)), np := 2 }
theorem ok_law_feed {S : Sta} (T : Txt S)  : VSs (c_law_feed S) (defBody s_law_feed) g_law_feed :=
  (vss_cons (vs_set (i := 2) rfl (by first | exact .inl rfl | exact .inr rfl) rfl (ve_binop p2_addT (ve_binop p2_mulG ve_int (ve_var (i := 1) rfl (by first | exact .inl rfl | exact .inr (.inl rfl) | exact .inr (.inr rfl)) (by decide +kernel) (by decide +kernel))) ve_int) (.inl rfl) (fun _ => rfl))
    (vss_cons (vs_if (vt_cmp p2_lt (ve_var (i := 1) rfl (by first | exact .inl rfl | exact .inr (.inl rfl) | exact .inr (.inr rfl)) (by decide +kernel) (by decide +kernel)) (ve_callB pn_len rfl T.g_len (by kernel_rfl) (va_cons (ve_var (i := 0) rfl (by first | exact .inl rfl | exact .inr (.inl rfl) | exact .inr (.inr rfl)) (by decide +kernel) (by decide +kernel)) va_nil (fun _ => rfl)) (by decide +kernel) (by decide +kernel) (fun _ => rfl) (fun _ => rfl)) (by with_unfolding_all rfl))
    (vss_one (vs_set (i := 2) rfl (by first | exact .inl rfl | exact .inr rfl) rfl (ve_ix pix_GD (ve_var (i := 0) rfl (by first | exact .inl rfl | exact .inr (.inl rfl) | exact .inr (.inr rfl)) (by decide +kernel) (by decide +kernel)) (ve_var (i := 1) rfl (by first | exact .inl rfl | exact .inr (.inl rfl) | exact .inr (.inr rfl)) (by decide +kernel) (by decide +kernel)) (fun _ _ => rfl)) (.inl rfl) (fun _ => rfl)))
    vss_nil)
    (vss_cons (vs_set (i := 3) rfl (by first | exact .inl rfl | exact .inr rfl) rfl ve_int (.inl rfl) (fun _ => rfl))
    (vss_cons (vs_if (vt_cmp p2_ge (ve_callB pn_abs rfl T.g_abs (by kernel_rfl) (va_cons (ve_var (i := 2) rfl (by first | exact .inl rfl | exact .inr (.inl rfl) | exact .inr (.inr rfl)) (by decide +kernel) (by decide +kernel)) va_nil (fun _ => rfl)) (by decide +kernel) (by decide +kernel) (fun _ => rfl) (fun _ => rfl)) (ve_binop p2_pow ve_int ve_int) (by with_unfolding_all rfl))
    (vss_one (vs_set (i := 3) rfl (by first | exact .inl rfl | exact .inr rfl) rfl (ve_binop p2_sub (ve_callB pn_abs rfl T.g_abs (by kernel_rfl) (va_cons (ve_var (i := 2) rfl (by first | exact .inl rfl | exact .inr (.inl rfl) | exact .inr (.inr rfl)) (by decide +kernel) (by decide +kernel)) va_nil (fun _ => rfl)) (by decide +kernel) (by decide +kernel) (fun _ => rfl) (fun _ => rfl)) (ve_binop p2_pow ve_int ve_int)) (.inl rfl) (fun _ => rfl)))
    vss_nil)
    (vss_one (vs_ret (ve_lst (va_cons (ve_var (i := 3) rfl (by first | exact .inl rfl | exact .inr (.inl rfl) | exact .inr (.inr rfl)) (by decide +kernel) (by decide +kernel)) (va_cons (ve_binop p2_mod (ve_binop p2_addT (ve_binop p2_addT (ve_binop p2_mulG (ve_var (i := 2) rfl (by first | exact .inl rfl | exact .inr (.inl rfl) | exact .inr (.inr rfl)) (by decide +kernel) (by decide +kernel)) ve_int) (ve_binop p2_mulG ve_int (ve_var (i := 1) rfl (by first | exact .inl rfl | exact .inr (.inl rfl) | exact .inr (.inr rfl)) (by decide +kernel) (by decide +kernel)))) ve_int) ve_int) va_nil (fun _ => rfl)) (fun _ => rfl)))))))))
theorem sc_law_feed : FnScope N_law_feed ["script", "k"] (defScope s_law_feed) := ⟨rfl, rfl, rfl, by decide +kernel, rfl, by decide +kernel, by decide +kernel⟩
/-! _law_take -/
def N_law_take : List Str := ["feed", "many", "found"]
def g_law_take : Act Flw := (seqA (iteA (testA (op2 gtG (op2 ixGD (var 0) (cst (.int 0))) (cst (.int 0))))
    (seqA (setA 2 (op2 modG (op2 ixGD (var 0) (cst (.int 0))) (var 1)))
    (seqA (stA stG (op2 divG (op2 ixGD (var 0) (cst (.int 0))) (var 1)) (var 0) (cst (.int 0)))
    (retA (fun i => decide (i < 2)) (var 2))))
    (Act.ret .nx))
    (seqA (stA stG (op2 modG (op2 addGT (op2 mulGS (op2 ixGD (var 0) (cst (.int 1))) (cst (.int 48271))) (cst (.int 12345))) (cst (.int 2305843009213693951))) (var 0) (cst (.int 1)))
    (retA (fun i => decide (i < 2)) (op2 modG (op2 divG (op2 ixGD (var 0) (cst (.int 1))) (cst (.int 2097152))) (var 1)))))
def F_law_take : FD := runB 3 2 (fun i => decide (i ∈ ([0, 1] : List Nat))) g_law_take
abbrev c_law_take (S : Sta) : VS.Ctx := { toSta := S, N := N_law_take, sc := defScope s_law_take, lvl := 0, fnn := fun _ => true, ro := fun i => decide (i ∈ ([0, 1] : List Nat)), np := 2 }
theorem ok_law_take {S : Sta} (T : Txt S)  : VSs (c_law_take S) (defBody s_law_take) g_law_take :=
  (vss_cons (vs_if (vt_cmp p2_gt (ve_ix pix_GD (ve_var (i := 0) rfl (by first | exact .inl rfl | exact .inr (.inl rfl) | exact .inr (.inr rfl)) (by decide +kernel) (by decide +kernel)) ve_int (fun _ _ => rfl)) ve_int (by with_unfolding_all rfl))
    (vss_cons (vs_set (i := 2) rfl (by first | exact .inl rfl | exact .inr rfl) rfl (ve_binop p2_mod (ve_ix pix_GD (ve_var (i := 0) rfl (by first | exact .inl rfl | exact .inr (.inl rfl) | exact .inr (.inr rfl)) (by decide +kernel) (by decide +kernel)) ve_int (fun _ _ => rfl)) (ve_var (i := 1) rfl (by first | exact .inl rfl | exact .inr (.inl rfl) | exact .inr (.inr rfl)) (by decide +kernel) (by decide +kernel))) (.inl rfl) (fun _ => rfl))
    (vss_cons (vs_setIx pst_G (ve_binop p2_div (ve_ix pix_GD (ve_var (i := 0) rfl (by first | exact .inl rfl | exact .inr (.inl rfl) | exact .inr (.inr rfl)) (by decide +kernel) (by decide +kernel)) ve_int (fun _ _ => rfl)) (ve_var (i := 1) rfl (by first | exact .inl rfl | exact .inr (.inl rfl) | exact .inr (.inr rfl)) (by decide +kernel) (by decide +kernel))) (ve_var (i := 0) rfl (by first | exact .inl rfl | exact .inr (.inl rfl) | exact .inr (.inr rfl)) (by decide +kernel) (by decide +kernel)) ve_int (fun _ => rfl) (fun _ => rfl) (fun _ => rfl) (fun _ _ => rfl))
    (vss_one (vs_ret (ve_var (i := 2) rfl (by first | exact .inl rfl | exact .inr (.inl rfl) | exact .inr (.inr rfl)) (by decide +kernel) (by decide +kernel))))))
    vss_nil)
    (vss_cons (vs_setIx pst_G (ve_binop p2_mod (ve_binop p2_addT (ve_binop p2_mulG (ve_ix pix_GD (ve_var (i := 0) rfl (by first | exact .inl rfl | exact .inr (.inl rfl) | exact .inr (.inr rfl)) (by decide +kernel) (by decide +kernel)) ve_int (fun _ _ => rfl)) ve_int) ve_int) ve_int) (ve_var (i := 0) rfl (by first | exact .inl rfl | exact .inr (.inl rfl) | exact .inr (.inr rfl)) (by decide +kernel) (by decide +kernel)) ve_int (fun _ => rfl) (fun _ => rfl) (fun _ => rfl) (fun _ _ => rfl))
    (vss_one (vs_ret (ve_binop p2_mod (ve_binop p2_div (ve_ix pix_GD (ve_var (i := 0) rfl (by first | exact .inl rfl | exact .inr (.inl rfl) | exact .inr (.inr rfl)) (by decide +kernel) (by decide +kernel)) ve_int (fun _ _ => rfl)) ve_int) (ve_var (i := 1) rfl (by first | exact .inl rfl | exact .inr (.inl rfl) | exact .inr (.inr rfl)) (by decide +kernel) (by decide +kernel)))))))
theorem sc_law_take : FnScope N_law_take ["feed", "many"] (defScope s_law_take) := ⟨rfl, rfl, rfl, by decide +kernel, rfl, by decide +kernel, by decide +kernel⟩
/-! _law_pick -/
def N_law_pick : List Str := ["feed", "some"]
def g_law_pick : Act Flw := (retA (fun i => decide (i < 2)) (op2 ixGD (var 1) (defA 2 F_law_take [true, false] [] (consA (var 0) (consA (callA lenD (consA (var 1) (Act.ret []))) (Act.ret []))))))
def F_law_pick : FD := runB 2 2 (fun i => decide (i ∈ ([0, 1] : List Nat))) g_law_pick
abbrev c_law_pick (S : Sta) : VS.Ctx := { toSta := S, N := N_law_pick, sc := defScope s_law_pick, lvl := 1, fnn := fun _ => true, ro := fun i => decide (i ∈ ([0, 1] : List Nat)), np := 2 }
theorem ok_law_pick {S : Sta} (T : Txt S) (A_law_take : FnAt S 1 "_law_take" 2 F_law_take []) : VSs (c_law_pick S) (defBody s_law_pick) g_law_pick :=
  (vss_one (vs_ret (ve_ix pix_GD (ve_var (i := 1) rfl (by first | exact .inl rfl | exact .inr (.inl rfl) | exact .inr (.inr rfl)) (by decide +kernel) (by decide +kernel)) (ve_call (io := [true, false]) A_law_take rfl (va_cons (ve_var (i := 0) rfl (by first | exact .inl rfl | exact .inr (.inl rfl) | exact .inr (.inr rfl)) (by decide +kernel) (by decide +kernel)) (va_cons (ve_callB pn_len rfl T.g_len (by kernel_rfl) (va_cons (ve_var (i := 1) rfl (by first | exact .inl rfl | exact .inr (.inl rfl) | exact .inr (.inr rfl)) (by decide +kernel) (by decide +kernel)) va_nil (fun _ => rfl)) (by decide +kernel) (by decide +kernel) (fun _ => rfl) (fun _ => rfl)) va_nil (fun _ => rfl)) (fun _ => rfl)) (by decide +kernel) (fun _ => rfl) (fun _ => rfl)) (fun _ _ => rfl))))
theorem sc_law_pick : FnScope N_law_pick ["feed", "some"] (defScope s_law_pick) := ⟨rfl, rfl, rfl, by decide +kernel, rfl, by decide +kernel, by decide +kernel⟩
/-! word_number -/
def N_word_number : List Str := ["word", "found", "letter"]
def g_word_number : Act Flw := (seqA (setA 1 (cst (.int 0)))
    (seqA (Act.bnd (iterA (var 0)) (forA (tgName 2)
    (setA 1 (op2 modG (op2 addGT (op2 addGT (op2 mulGS (var 1) (cst (.int 33))) (mthA "str" indexD (cst (.str "abcdefghijklmnopqrstuvwxyz")) (consA (var 2) (Act.ret [])))) (cst (.int 1))) (cst (.int 4294967296))))))
    (retA (fun i => decide (i < 1)) (var 1))))
def F_word_number : FD := runB 3 1 (fun i => decide (i ∈ ([0] : List Nat))) g_word_number
abbrev c_word_number (S : Sta) : VS.Ctx := { toSta := S, N := N_word_number, sc := defScope s_word_number, lvl := 0, fnn := fun _ => true, ro := fun i => decide (i ∈ ([0] : List Nat)), np := 1 }
theorem ok_word_number {S : Sta} (T : Txt S)  : VSs (c_word_number S) (defBody s_word_number) g_word_number :=
  (vss_cons (vs_set (i := 1) rfl (by first | exact .inl rfl | exact .inr rfl) rfl ve_int (.inl rfl) (fun _ => rfl))
    (vss_cons (vs_for (vi_val (ve_var (i := 0) rfl (by first | exact .inl rfl | exact .inr (.inl rfl) | exact .inr (.inr rfl)) (by decide +kernel) (by decide +kernel))) (vg_name (i := 2) rfl (by first | exact .inl rfl | exact .inr rfl) rfl (.inl rfl))
    (vss_one (vs_set (i := 1) rfl (by first | exact .inl rfl | exact .inr rfl) rfl (ve_binop p2_mod (ve_binop p2_addT (ve_binop p2_addT (ve_binop p2_mulG (ve_var (i := 1) rfl (by first | exact .inl rfl | exact .inr (.inl rfl) | exact .inr (.inr rfl)) (by decide +kernel) (by decide +kernel)) (ve_glob (v := .int 33) rfl T.g_STEP.choose_spec ⟨_, rfl⟩ (fun _ _ => .int _) (by decide +kernel))) (ve_bm PySem.F.plainAttrs_str PySem.F.slot_str_index PySem.F.type_str_index pn_index (ve_glob (v := .str "abcdefghijklmnopqrstuvwxyz") rfl T.g_LETTERS.choose_spec ⟨_, rfl⟩ (fun _ _ => .str _) (by decide +kernel)) (va_cons (ve_var (i := 2) rfl (by first | exact .inl rfl | exact .inr (.inl rfl) | exact .inr (.inr rfl)) (by decide +kernel) (by decide +kernel)) va_nil (fun _ => rfl)) (fun _ => rfl) (fun _ => rfl) rfl (fun _ => rfl) (fun _ => rfl))) ve_int) (ve_glob (v := .int 4294967296) rfl T.g_WORD_SPAN.choose_spec ⟨_, rfl⟩ (fun _ _ => .int _) (by decide +kernel))) (.inl rfl) (fun _ => rfl))) (fun _ _ => rfl))
    (vss_one (vs_ret (ve_var (i := 1) rfl (by first | exact .inl rfl | exact .inr (.inl rfl) | exact .inr (.inr rfl)) (by decide +kernel) (by decide +kernel))))))
theorem sc_word_number : FnScope N_word_number ["word"] (defScope s_word_number) := ⟨rfl, rfl, rfl, by decide +kernel, rfl, by decide +kernel, by decide +kernel⟩
/-! _law_of_word -/
def N_law_of_word : List Str := ["word", "found", "letter"]
def g_law_of_word : Act Flw := (seqA (setA 1 (cst (.int 0)))
    (seqA (Act.bnd (iterA (var 0)) (forA (tgName 2)
    (setA 1 (op2 modG (op2 addGT (op2 addGT (op2 mulGS (var 1) (cst (.int 33))) (mthA "str" indexD (cst (.str "abcdefghijklmnopqrstuvwxyz")) (consA (var 2) (Act.ret [])))) (cst (.int 1))) (cst (.int 4294967296))))))
    (retA (fun i => decide (i < 1)) (var 1))))
def F_law_of_word : FD := runB 3 1 (fun i => decide (i ∈ ([0] : List Nat))) g_law_of_word
abbrev c_law_of_word (S : Sta) : VS.Ctx := { toSta := S, N := N_law_of_word, sc := defScope s_law_of_word, lvl := 0, fnn := fun _ => true, ro := fun i => decide (i ∈ ([0] : List Nat)), np := 1 }
theorem ok_law_of_word {S : Sta} (T : Txt S)  : VSs (c_law_of_word S) (defBody s_law_of_word) g_law_of_word :=
  (vss_cons (vs_set (i := 1) rfl (by first | exact .inl rfl | exact .inr rfl) rfl ve_int (.inl rfl) (fun _ => rfl))
    (vss_cons (vs_for (vi_val (ve_var (i := 0) rfl (by first | exact .inl rfl | exact .inr (.inl rfl) | exact .inr (.inr rfl)) (by decide +kernel) (by decide +kernel))) (vg_name (i := 2) rfl (by first | exact .inl rfl | exact .inr rfl) rfl (.inl rfl))
    (vss_one (vs_set (i := 1) rfl (by first | exact .inl rfl | exact .inr rfl) rfl (ve_binop p2_mod (ve_binop p2_addT (ve_binop p2_addT (ve_binop p2_mulG (ve_var (i := 1) rfl (by first | exact .inl rfl | exact .inr (.inl rfl) | exact .inr (.inr rfl)) (by decide +kernel) (by decide +kernel)) ve_int) (ve_bm PySem.F.plainAttrs_str PySem.F.slot_str_index PySem.F.type_str_index pn_index ve_str (va_cons (ve_var (i := 2) rfl (by first | exact .inl rfl | exact .inr (.inl rfl) | exact .inr (.inr rfl)) (by decide +kernel) (by decide +kernel)) va_nil (fun _ => rfl)) (fun _ => rfl) (fun _ => rfl) rfl (fun _ => rfl) (fun _ => rfl))) ve_int) ve_int) (.inl rfl) (fun _ => rfl))) (fun _ _ => rfl))
    (vss_one (vs_ret (ve_var (i := 1) rfl (by first | exact .inl rfl | exact .inr (.inl rfl) | exact .inr (.inr rfl)) (by decide +kernel) (by decide +kernel))))))
theorem sc_law_of_word : FnScope N_law_of_word ["word"] (defScope s_law_of_word) := ⟨rfl, rfl, rfl, by decide +kernel, rfl, by decide +kernel, by decide +kernel⟩
/-! _law_whole -/
def N_law_whole : List Str := ["found"]
def g_law_whole : Act Flw := (retA (fun i => decide (i < 1)) (andV (callA isiD (consA (var 0) (consA (cst (.ty "int")) (Act.ret [])))) (notV (callA isiD (consA (var 0) (consA (cst (.ty "bool")) (Act.ret [])))))))
def F_law_whole : FD := runB 1 1 (fun i => decide (i ∈ ([0] : List Nat))) g_law_whole
abbrev c_law_whole (S : Sta) : VS.Ctx := { toSta := S, N := N_law_whole, sc := defScope s_law_whole, lvl := 0, fnn := fun _ => true, ro := fun i => decide (i ∈ ([0] : List Nat)), np := 1 }
theorem ok_law_whole {S : Sta} (T : Txt S)  : VSs (c_law_whole S) (defBody s_law_whole) g_law_whole :=
  (vss_one (vs_ret (ve_and (ve_callB pn_isi rfl T.g_isinstance (by kernel_rfl) (va_cons (ve_var (i := 0) rfl (by first | exact .inl rfl | exact .inr (.inl rfl) | exact .inr (.inr rfl)) (by decide +kernel) (by decide +kernel)) (va_cons (ve_ty (Ty := "int") rfl T.g_int (by kernel_rfl) (by decide +kernel) (by decide +kernel)) va_nil (fun _ => rfl)) (fun _ => rfl)) (by decide +kernel) (by decide +kernel) (fun _ => rfl) (fun _ => rfl)) (ve_one (ve_not (ve_callB pn_isi rfl T.g_isinstance (by kernel_rfl) (va_cons (ve_var (i := 0) rfl (by first | exact .inl rfl | exact .inr (.inl rfl) | exact .inr (.inr rfl)) (by decide +kernel) (by decide +kernel)) (va_cons (ve_ty (Ty := "bool") rfl T.g_bool (by kernel_rfl) (by decide +kernel) (by decide +kernel)) va_nil (fun _ => rfl)) (fun _ => rfl)) (by decide +kernel) (by decide +kernel) (fun _ => rfl) (fun _ => rfl)))))))
theorem sc_law_whole : FnScope N_law_whole ["found"] (defScope s_law_whole) := ⟨rfl, rfl, rfl, by decide +kernel, rfl, by decide +kernel, by decide +kernel⟩
/-! _law_unlike -/
def N_law_unlike : List Str := ["feed", "many", "letters", "filler", "signs", "first", "place", "stride", "k", "sign"]
def g_law_unlike : Act Flw := (seqA (setA 2 (cst (.str "abcdefghijklmnopqrstuvwxyz")))
    (seqA (setA 3 (op2 ixGD (cst (.str "abcefghijklmnopqrstuvwxyz")) (defA 2 F_law_take [true, false] [] (consA (var 0) (consA (cst (.int 25)) (Act.ret [])))))) (seqA (setA 4 (replS 2 3))
    (seqA (setA 5 (defA 2 F_law_take [true, false] [] (consA (var 0) (consA (cst (.int 25)) (Act.ret [])))))
    (seqA (setA 6 (defA 2 F_law_take [true, false] [] (consA (var 0) (consA (cst (.int 8)) (Act.ret [])))))
    (seqA (setA 7 (op2 ixGD (lstA (consA (cst (.int 1)) (consA (cst (.int 2)) (consA (cst (.int 3)) (consA (cst (.int 4)) (consA (cst (.int 6)) (consA (cst (.int 7)) (Act.ret [])))))))) (defA 2 F_law_take [true, false] [] (consA (var 0) (consA (cst (.int 6)) (Act.ret []))))))
    (seqA (setA 4 (lcA [8] (tgName 8) (Act.ret true) (op2 ixGD (var 4) (op2 modG (op2 addGT (var 5) (op2 mulGS (var 7) (var 8))) (cst (.int 25)))) (rangeA (consA (var 1) (Act.ret [])))))
    (retA (fun i => decide (i < 2)) (lcA [9] (tgName 9) (Act.ret true) (op2 addGT (op2 addGT (op2 mulGS (var 3) (var 6)) (var 9)) (op2 mulGS (var 3) (defA 2 F_law_take [true, false] [] (consA (var 0) (consA (op2 subG (cst (.int 8)) (var 6)) (Act.ret [])))))) (iterA (var 4)))))))))))
def F_law_unlike : FD := runB 10 2 (fun i => decide (i ∈ ([0, 1] : List Nat))) g_law_unlike
abbrev c_law_unlike (S : Sta) : VS.Ctx := { toSta := S, N := N_law_unlike, sc := defScope s_law_unlike, lvl := 1, fnn := fun _ => true, ro := fun i => decide (i ∈ ([0, 1] : List Nat)), np := 2 }
theorem ok_law_unlike {S : Sta} (T : Txt S) (A_law_take : FnAt S 1 "_law_take" 2 F_law_take []) : VSs (c_law_unlike S) (defBody s_law_unlike) g_law_unlike :=
  (vss_cons (vs_set (i := 2) rfl (by first | exact .inl rfl | exact .inr rfl) rfl ve_str (.inl rfl) (fun _ => rfl))
    (vss_repl (i := 3) (m := 2) (n := 4) rfl rfl rfl rfl rfl (by first | exact .inl rfl | exact .inr (.inl rfl) | exact .inr (.inr rfl)) (by decide +kernel) (by decide +kernel) (by decide +kernel) rfl (by first | exact .inl rfl | exact .inr rfl) rfl (.inl rfl) (ve_call (io := [true, false]) A_law_take rfl (va_cons (ve_var (i := 0) rfl (by first | exact .inl rfl | exact .inr (.inl rfl) | exact .inr (.inr rfl)) (by decide +kernel) (by decide +kernel)) (va_cons ve_int va_nil (fun _ => rfl)) (fun _ => rfl)) (by decide +kernel) (fun _ => rfl) (fun _ => rfl)) (fun _ _ => rfl) (fun _ => rfl) (fun _ => rfl) (fun _ => rfl) (fun _ => rfl) rfl
    (vss_cons (vs_set (i := 5) rfl (by first | exact .inl rfl | exact .inr rfl) rfl (ve_call (io := [true, false]) A_law_take rfl (va_cons (ve_var (i := 0) rfl (by first | exact .inl rfl | exact .inr (.inl rfl) | exact .inr (.inr rfl)) (by decide +kernel) (by decide +kernel)) (va_cons ve_int va_nil (fun _ => rfl)) (fun _ => rfl)) (by decide +kernel) (fun _ => rfl) (fun _ => rfl)) (.inl rfl) (fun _ => rfl))
    (vss_cons (vs_set (i := 6) rfl (by first | exact .inl rfl | exact .inr rfl) rfl (ve_call (io := [true, false]) A_law_take rfl (va_cons (ve_var (i := 0) rfl (by first | exact .inl rfl | exact .inr (.inl rfl) | exact .inr (.inr rfl)) (by decide +kernel) (by decide +kernel)) (va_cons ve_int va_nil (fun _ => rfl)) (fun _ => rfl)) (by decide +kernel) (fun _ => rfl) (fun _ => rfl)) (.inl rfl) (fun _ => rfl))
    (vss_cons (vs_set (i := 7) rfl (by first | exact .inl rfl | exact .inr rfl) rfl (ve_ix pix_GD (ve_lst (va_cons ve_int (va_cons ve_int (va_cons ve_int (va_cons ve_int (va_cons ve_int (va_cons ve_int va_nil (fun _ => rfl)) (fun _ => rfl)) (fun _ => rfl)) (fun _ => rfl)) (fun _ => rfl)) (fun _ => rfl))) (ve_call (io := [true, false]) A_law_take rfl (va_cons (ve_var (i := 0) rfl (by first | exact .inl rfl | exact .inr (.inl rfl) | exact .inr (.inr rfl)) (by decide +kernel) (by decide +kernel)) (va_cons ve_int va_nil (fun _ => rfl)) (fun _ => rfl)) (by decide +kernel) (fun _ => rfl) (fun _ => rfl)) (fun _ _ => rfl)) (.inl rfl) (fun _ => rfl))
    (vss_cons (vs_setC (i := 4) rfl rfl rfl (ve_lc (own := [("k", 8)]) (vi_range (va_cons (ve_var (i := 1) rfl (by first | exact .inl rfl | exact .inr (.inl rfl) | exact .inr (.inr rfl)) (by decide +kernel) (by decide +kernel)) va_nil (fun _ => rfl)) rfl T.g_range (fun _ => rfl) (fun _ => rfl)) (vg_name (i := 8) rfl (by first | exact .inl rfl | exact .inr rfl) rfl (.inr rfl)) vts_nil (ve_ix pix_GD (ve_var (i := 4) rfl (by first | exact .inl rfl | exact .inr (.inl rfl) | exact .inr (.inr rfl)) (by decide +kernel) (by decide +kernel)) (ve_binop p2_mod (ve_binop p2_addT (ve_var (i := 5) rfl (by first | exact .inl rfl | exact .inr (.inl rfl) | exact .inr (.inr rfl)) (by decide +kernel) (by decide +kernel)) (ve_binop p2_mulG (ve_var (i := 7) rfl (by first | exact .inl rfl | exact .inr (.inl rfl) | exact .inr (.inr rfl)) (by decide +kernel) (by decide +kernel)) (ve_var (i := 8) rfl (by first | exact .inl rfl | exact .inr (.inl rfl) | exact .inr (.inr rfl)) (by decide +kernel) (by decide +kernel)))) ve_int) (fun _ _ => rfl)) ⟨rfl, by decide +kernel, by change ∀ p : Str × Nat, p ∈ _ → N_law_unlike[p.2]? = _; decide +kernel, by change ∀ y : Str × NameKind, y ∈ _ → _ → (List.lookup y.1 (defScope s_law_unlike).names = _ ∨ List.lookup y.1 (defScope s_law_unlike).names = _); decide +kernel, by change ∀ y : Str × NameKind, y ∈ _ → _ → (_ ∨ y.1 ∉ N_law_unlike); decide +kernel⟩ (by decide +kernel) (by change ∀ j : Nat, j ∈ _ → (fun i => decide (i ∈ ([0, 1] : List Nat))) j = _; decide +kernel) (fun _ _ => rfl)) rfl (fun _ h => sw_cell h))
    (vss_one (vs_ret (ve_lc (own := [("sign", 9)]) (vi_val (ve_var (i := 4) rfl (by first | exact .inl rfl | exact .inr (.inl rfl) | exact .inr (.inr rfl)) (by decide +kernel) (by decide +kernel))) (vg_name (i := 9) rfl (by first | exact .inl rfl | exact .inr rfl) rfl (.inr rfl)) vts_nil (ve_binop p2_addT (ve_binop p2_addT (ve_binop p2_mulG (ve_var (i := 3) rfl (by first | exact .inl rfl | exact .inr (.inl rfl) | exact .inr (.inr rfl)) (by decide +kernel) (by decide +kernel)) (ve_var (i := 6) rfl (by first | exact .inl rfl | exact .inr (.inl rfl) | exact .inr (.inr rfl)) (by decide +kernel) (by decide +kernel))) (ve_var (i := 9) rfl (by first | exact .inl rfl | exact .inr (.inl rfl) | exact .inr (.inr rfl)) (by decide +kernel) (by decide +kernel))) (ve_binop p2_mulG (ve_var (i := 3) rfl (by first | exact .inl rfl | exact .inr (.inl rfl) | exact .inr (.inr rfl)) (by decide +kernel) (by decide +kernel)) (ve_call (io := [true, false]) A_law_take rfl (va_cons (ve_var (i := 0) rfl (by first | exact .inl rfl | exact .inr (.inl rfl) | exact .inr (.inr rfl)) (by decide +kernel) (by decide +kernel)) (va_cons (ve_binop p2_sub ve_int (ve_var (i := 6) rfl (by first | exact .inl rfl | exact .inr (.inl rfl) | exact .inr (.inr rfl)) (by decide +kernel) (by decide +kernel))) va_nil (fun _ => rfl)) (fun _ => rfl)) (by decide +kernel) (fun _ => rfl) (fun _ => rfl)))) ⟨rfl, by decide +kernel, by change ∀ p : Str × Nat, p ∈ _ → N_law_unlike[p.2]? = _; decide +kernel, by change ∀ y : Str × NameKind, y ∈ _ → _ → (List.lookup y.1 (defScope s_law_unlike).names = _ ∨ List.lookup y.1 (defScope s_law_unlike).names = _); decide +kernel, by change ∀ y : Str × NameKind, y ∈ _ → _ → (_ ∨ y.1 ∉ N_law_unlike); decide +kernel⟩ (by decide +kernel) (by change ∀ j : Nat, j ∈ _ → (fun i => decide (i ∈ ([0, 1] : List Nat))) j = _; decide +kernel) (fun _ _ => rfl))))))))))
theorem sc_law_unlike : FnScope N_law_unlike ["feed", "many"] (defScope s_law_unlike) := ⟨rfl, rfl, rfl, by decide +kernel, rfl, by decide +kernel, by decide +kernel⟩
/-! _law_number -/
def N_law_number : List Str := ["feed"]
def g_law_number : Act Flw := (retA (fun i => decide (i < 1)) (defA 2 F_law_pick [true, false] [] (consA (var 0) (consA (lstA (consA (cst (.int 0)) (consA (cst (.int 1)) (consA (op1 negE (cst (.int 1))) (consA (defA 2 F_law_take [true, false] [] (consA (var 0) (consA (cst (.int 100)) (Act.ret [])))) (consA (op2 subG (op2 mulGS (cst (.int 5)) (op2 powG (cst (.int 10)) (cst (.int 8)))) (defA 2 F_law_take [true, false] [] (consA (var 0) (consA (op2 powG (cst (.int 10)) (cst (.int 9))) (Act.ret []))))) (Act.ret []))))))) (Act.ret [])))))
def F_law_number : FD := runB 1 1 (fun i => decide (i ∈ ([0] : List Nat))) g_law_number
abbrev c_law_number (S : Sta) : VS.Ctx := { toSta := S, N := N_law_number, sc := defScope s_law_number, lvl := 2, fnn := fun _ => true, ro := fun i => decide (i ∈ ([0] : List Nat)), np := 1 }
theorem ok_law_number {S : Sta} (T : Txt S) (A_law_take : FnAt S 2 "_law_take" 2 F_law_take []) (A_law_pick : FnAt S 2 "_law_pick" 2 F_law_pick []) : VSs (c_law_number S) (defBody s_law_number) g_law_number :=
  (vss_one (vs_ret (ve_call (io := [true, false]) A_law_pick rfl (va_cons (ve_var (i := 0) rfl (by first | exact .inl rfl | exact .inr (.inl rfl) | exact .inr (.inr rfl)) (by decide +kernel) (by decide +kernel)) (va_cons (ve_lst (va_cons ve_int (va_cons ve_int (va_cons (ve_neg ve_int) (va_cons (ve_call (io := [true, false]) A_law_take rfl (va_cons (ve_var (i := 0) rfl (by first | exact .inl rfl | exact .inr (.inl rfl) | exact .inr (.inr rfl)) (by decide +kernel) (by decide +kernel)) (va_cons ve_int va_nil (fun _ => rfl)) (fun _ => rfl)) (by decide +kernel) (fun _ => rfl) (fun _ => rfl)) (va_cons (ve_binop p2_sub (ve_binop p2_mulG ve_int (ve_binop p2_pow ve_int ve_int)) (ve_call (io := [true, false]) A_law_take rfl (va_cons (ve_var (i := 0) rfl (by first | exact .inl rfl | exact .inr (.inl rfl) | exact .inr (.inr rfl)) (by decide +kernel) (by decide +kernel)) (va_cons (ve_binop p2_pow ve_int ve_int) va_nil (fun _ => rfl)) (fun _ => rfl)) (by decide +kernel) (fun _ => rfl) (fun _ => rfl))) va_nil (fun _ => rfl)) (fun _ => rfl)) (fun _ => rfl)) (fun _ => rfl)) (fun _ => rfl))) va_nil (fun _ => rfl)) (fun _ => rfl)) (by decide +kernel) (fun _ => rfl) (fun _ => rfl))))
theorem sc_law_number : FnScope N_law_number ["feed"] (defScope s_law_number) := ⟨rfl, rfl, rfl, by decide +kernel, rfl, by decide +kernel, by decide +kernel⟩
/-! _law_rows_drawn -/
def N_law_rows_drawn : List Str := ["feed", "names", "words", "uses", "some", "k", "other", "many", "turn"]
def g_law_rows_drawn : Act Flw := (seqA (setA 4 (lstA (consA (tupA (consA (cst (.str "tell")) (consA (defA 1 F_law_number [true] [] (consA (var 0) (Act.ret []))) (Act.ret [])))) (consA (tupA (consA (cst (.str "drop")) (consA (defA 2 F_law_pick [true, false] [] (consA (var 0) (consA (var 1) (Act.ret [])))) (Act.ret [])))) (consA (tupA (consA (cst (.str "bring")) (consA (defA 2 F_law_pick [true, false] [] (consA (var 0) (consA (var 1) (Act.ret [])))) (Act.ret [])))) (Act.ret []))))))
    (seqA (setA 4 (op2 addGT (var 4) (lstA (consA (tupA (consA (cst (.str "share")) (consA (defA 2 F_law_pick [true, false] [] (consA (var 0) (consA (var 1) (Act.ret [])))) (Act.ret [])))) (consA (tupA (consA (cst (.str "ask")) (consA (defA 2 F_law_pick [true, false] [] (consA (var 0) (consA (var 1) (Act.ret [])))) (consA (defA 2 F_law_pick [true, false] [] (consA (var 0) (consA (var 2) (Act.ret [])))) (Act.ret []))))) (Act.ret []))))))
    (seqA (Act.bnd (rangeA (consA (callA lenD (consA (var 3) (Act.ret []))) (Act.ret []))) (forA (tgName 5)
    (seqA (setA 6 (lstA (consA (tupA (consA (cst (.str "call")) (consA (var 5) (Act.ret [])))) (Act.ret []))))
    (seqA (iteA (testA (op2 ixGD (op2 ixGD (var 3) (var 5)) (cst (.int 2))))
    (seqA (setA 6 (lstA (consA (tupA (consA (cst (.str "show")) (consA (var 5) (Act.ret [])))) (consA (tupA (consA (cst (.str "skip")) (consA (var 5) (Act.ret [])))) (consA (tupA (consA (cst (.str "put")) (consA (var 5) (consA (defA 1 F_law_number [true] [] (consA (var 0) (Act.ret []))) (Act.ret []))))) (Act.ret []))))))
    (dropA (muA "list" appendM (var 6) (consA (tupA (consA (cst (.str "add")) (consA (var 5) (consA (defA 1 F_law_number [true] [] (consA (var 0) (Act.ret []))) (Act.ret []))))) (Act.ret [])))))
    (Act.ret .nx))
    (setA 4 (op2 addGT (var 4) (var 6)))))))
    (seqA (setA 7 (defA 2 F_law_pick [true, false] [] (consA (var 0) (consA (lstA (consA (defA 2 F_law_take [true, false] [] (consA (var 0) (consA (cst (.int 4)) (Act.ret [])))) (consA (cst (.int 1)) (consA (defA 2 F_law_take [true, false] [] (consA (var 0) (consA (cst (.int 3)) (Act.ret [])))) (consA (defA 2 F_law_take [true, false] [] (consA (var 0) (consA (cst (.int 9)) (Act.ret [])))) (Act.ret [])))))) (Act.ret [])))))
    (retA (fun i => decide (i < 4)) (callA tupleD (consA (lcA [8] (tgName 8) (Act.ret true) (defA 2 F_law_pick [true, false] [] (consA (var 0) (consA (var 4) (Act.ret [])))) (rangeA (consA (var 7) (Act.ret [])))) (Act.ret []))))))))
def F_law_rows_drawn : FD := runB 9 4 (fun i => decide (i ∈ ([0, 1, 2, 3] : List Nat))) g_law_rows_drawn
abbrev c_law_rows_drawn (S : Sta) : VS.Ctx := { toSta := S, N := N_law_rows_drawn, sc := defScope s_law_rows_drawn, lvl := 3, fnn := fun _ => true, ro := fun i => decide (i ∈ ([0, 1, 2, 3] : List Nat)), np := 4 }
theorem ok_law_rows_drawn {S : Sta} (T : Txt S) (A_law_pick : FnAt S 3 "_law_pick" 2 F_law_pick []) (A_law_number : FnAt S 3 "_law_number" 1 F_law_number []) (A_law_take : FnAt S 3 "_law_take" 2 F_law_take []) : VSs (c_law_rows_drawn S) (defBody s_law_rows_drawn) g_law_rows_drawn :=
  (vss_cons (vs_set (i := 4) rfl (by first | exact .inl rfl | exact .inr rfl) rfl (ve_lst (va_cons (ve_tup (va_cons ve_str (va_cons (ve_call (io := [true]) A_law_number rfl (va_cons (ve_var (i := 0) rfl (by first | exact .inl rfl | exact .inr (.inl rfl) | exact .inr (.inr rfl)) (by decide +kernel) (by decide +kernel)) va_nil (fun _ => rfl)) (by decide +kernel) (fun _ => rfl) (fun _ => rfl)) va_nil (fun _ => rfl)) (fun _ => rfl))) (va_cons (ve_tup (va_cons ve_str (va_cons (ve_call (io := [true, false]) A_law_pick rfl (va_cons (ve_var (i := 0) rfl (by first | exact .inl rfl | exact .inr (.inl rfl) | exact .inr (.inr rfl)) (by decide +kernel) (by decide +kernel)) (va_cons (ve_var (i := 1) rfl (by first | exact .inl rfl | exact .inr (.inl rfl) | exact .inr (.inr rfl)) (by decide +kernel) (by decide +kernel)) va_nil (fun _ => rfl)) (fun _ => rfl)) (by decide +kernel) (fun _ => rfl) (fun _ => rfl)) va_nil (fun _ => rfl)) (fun _ => rfl))) (va_cons (ve_tup (va_cons ve_str (va_cons (ve_call (io := [true, false]) A_law_pick rfl (va_cons (ve_var (i := 0) rfl (by first | exact .inl rfl | exact .inr (.inl rfl) | exact .inr (.inr rfl)) (by decide +kernel) (by decide +kernel)) (va_cons (ve_var (i := 1) rfl (by first | exact .inl rfl | exact .inr (.inl rfl) | exact .inr (.inr rfl)) (by decide +kernel) (by decide +kernel)) va_nil (fun _ => rfl)) (fun _ => rfl)) (by decide +kernel) (fun _ => rfl) (fun _ => rfl)) va_nil (fun _ => rfl)) (fun _ => rfl))) va_nil (fun _ => rfl)) (fun _ => rfl)) (fun _ => rfl))) (.inl rfl) (fun _ => rfl))
    (vss_cons (vs_set (i := 4) rfl (by first | exact .inl rfl | exact .inr rfl) rfl (ve_binop p2_addT (ve_var (i := 4) rfl (by first | exact .inl rfl | exact .inr (.inl rfl) | exact .inr (.inr rfl)) (by decide +kernel) (by decide +kernel)) (ve_lst (va_cons (ve_tup (va_cons ve_str (va_cons (ve_call (io := [true, false]) A_law_pick rfl (va_cons (ve_var (i := 0) rfl (by first | exact .inl rfl | exact .inr (.inl rfl) | exact .inr (.inr rfl)) (by decide +kernel) (by decide +kernel)) (va_cons (ve_var (i := 1) rfl (by first | exact .inl rfl | exact .inr (.inl rfl) | exact .inr (.inr rfl)) (by decide +kernel) (by decide +kernel)) va_nil (fun _ => rfl)) (fun _ => rfl)) (by decide +kernel) (fun _ => rfl) (fun _ => rfl)) va_nil (fun _ => rfl)) (fun _ => rfl))) (va_cons (ve_tup (va_cons ve_str (va_cons (ve_call (io := [true, false]) A_law_pick rfl (va_cons (ve_var (i := 0) rfl (by first | exact .inl rfl | exact .inr (.inl rfl) | exact .inr (.inr rfl)) (by decide +kernel) (by decide +kernel)) (va_cons (ve_var (i := 1) rfl (by first | exact .inl rfl | exact .inr (.inl rfl) | exact .inr (.inr rfl)) (by decide +kernel) (by decide +kernel)) va_nil (fun _ => rfl)) (fun _ => rfl)) (by decide +kernel) (fun _ => rfl) (fun _ => rfl)) (va_cons (ve_call (io := [true, false]) A_law_pick rfl (va_cons (ve_var (i := 0) rfl (by first | exact .inl rfl | exact .inr (.inl rfl) | exact .inr (.inr rfl)) (by decide +kernel) (by decide +kernel)) (va_cons (ve_var (i := 2) rfl (by first | exact .inl rfl | exact .inr (.inl rfl) | exact .inr (.inr rfl)) (by decide +kernel) (by decide +kernel)) va_nil (fun _ => rfl)) (fun _ => rfl)) (by decide +kernel) (fun _ => rfl) (fun _ => rfl)) va_nil (fun _ => rfl)) (fun _ => rfl)) (fun _ => rfl))) va_nil (fun _ => rfl)) (fun _ => rfl)))) (.inl rfl) (fun _ => rfl))
    (vss_cons (vs_for (vi_range (va_cons (ve_callB pn_len rfl T.g_len (by kernel_rfl) (va_cons (ve_var (i := 3) rfl (by first | exact .inl rfl | exact .inr (.inl rfl) | exact .inr (.inr rfl)) (by decide +kernel) (by decide +kernel)) va_nil (fun _ => rfl)) (by decide +kernel) (by decide +kernel) (fun _ => rfl) (fun _ => rfl)) va_nil (fun _ => rfl)) rfl T.g_range (fun _ => rfl) (fun _ => rfl)) (vg_name (i := 5) rfl (by first | exact .inl rfl | exact .inr rfl) rfl (.inl rfl))
    (vss_cons (vs_set (i := 6) rfl (by first | exact .inl rfl | exact .inr rfl) rfl (ve_lst (va_cons (ve_tup (va_cons ve_str (va_cons (ve_var (i := 5) rfl (by first | exact .inl rfl | exact .inr (.inl rfl) | exact .inr (.inr rfl)) (by decide +kernel) (by decide +kernel)) va_nil (fun _ => rfl)) (fun _ => rfl))) va_nil (fun _ => rfl))) (.inl rfl) (fun _ => rfl))
    (vss_cons (vs_if (vt_plain (ve_ix pix_GD (ve_ix pix_GD (ve_var (i := 3) rfl (by first | exact .inl rfl | exact .inr (.inl rfl) | exact .inr (.inr rfl)) (by decide +kernel) (by decide +kernel)) (ve_var (i := 5) rfl (by first | exact .inl rfl | exact .inr (.inl rfl) | exact .inr (.inr rfl)) (by decide +kernel) (by decide +kernel)) (fun _ _ => rfl)) ve_int (fun _ _ => rfl)) (fun _ _ _ h => nomatch h) (fun _ _ => rfl))
    (vss_cons (vs_set (i := 6) rfl (by first | exact .inl rfl | exact .inr rfl) rfl (ve_lst (va_cons (ve_tup (va_cons ve_str (va_cons (ve_var (i := 5) rfl (by first | exact .inl rfl | exact .inr (.inl rfl) | exact .inr (.inr rfl)) (by decide +kernel) (by decide +kernel)) va_nil (fun _ => rfl)) (fun _ => rfl))) (va_cons (ve_tup (va_cons ve_str (va_cons (ve_var (i := 5) rfl (by first | exact .inl rfl | exact .inr (.inl rfl) | exact .inr (.inr rfl)) (by decide +kernel) (by decide +kernel)) va_nil (fun _ => rfl)) (fun _ => rfl))) (va_cons (ve_tup (va_cons ve_str (va_cons (ve_var (i := 5) rfl (by first | exact .inl rfl | exact .inr (.inl rfl) | exact .inr (.inr rfl)) (by decide +kernel) (by decide +kernel)) (va_cons (ve_call (io := [true]) A_law_number rfl (va_cons (ve_var (i := 0) rfl (by first | exact .inl rfl | exact .inr (.inl rfl) | exact .inr (.inr rfl)) (by decide +kernel) (by decide +kernel)) va_nil (fun _ => rfl)) (by decide +kernel) (fun _ => rfl) (fun _ => rfl)) va_nil (fun _ => rfl)) (fun _ => rfl)) (fun _ => rfl))) va_nil (fun _ => rfl)) (fun _ => rfl)) (fun _ => rfl))) (.inl rfl) (fun _ => rfl))
    (vss_one (vs_expr (ve_mu PySem.F.plainAttrs_list PySem.F.slot_list_append PySem.F.type_list_append pmu_append (ve_var (i := 6) rfl (by first | exact .inl rfl | exact .inr (.inl rfl) | exact .inr (.inr rfl)) (by decide +kernel) (by decide +kernel)) (va_cons (ve_tup (va_cons ve_str (va_cons (ve_var (i := 5) rfl (by first | exact .inl rfl | exact .inr (.inl rfl) | exact .inr (.inr rfl)) (by decide +kernel) (by decide +kernel)) (va_cons (ve_call (io := [true]) A_law_number rfl (va_cons (ve_var (i := 0) rfl (by first | exact .inl rfl | exact .inr (.inl rfl) | exact .inr (.inr rfl)) (by decide +kernel) (by decide +kernel)) va_nil (fun _ => rfl)) (by decide +kernel) (fun _ => rfl) (fun _ => rfl)) va_nil (fun _ => rfl)) (fun _ => rfl)) (fun _ => rfl))) va_nil (fun _ => rfl)) (fun _ => rfl) (fun _ => rfl) rfl (fun _ => rfl) (fun _ => rfl)) (fun _ => rfl))))
    vss_nil)
    (vss_one (vs_set (i := 4) rfl (by first | exact .inl rfl | exact .inr rfl) rfl (ve_binop p2_addT (ve_var (i := 4) rfl (by first | exact .inl rfl | exact .inr (.inl rfl) | exact .inr (.inr rfl)) (by decide +kernel) (by decide +kernel)) (ve_var (i := 6) rfl (by first | exact .inl rfl | exact .inr (.inl rfl) | exact .inr (.inr rfl)) (by decide +kernel) (by decide +kernel))) (.inl rfl) (fun _ => rfl))))) (fun _ _ => rfl))
    (vss_cons (vs_set (i := 7) rfl (by first | exact .inl rfl | exact .inr rfl) rfl (ve_call (io := [true, false]) A_law_pick rfl (va_cons (ve_var (i := 0) rfl (by first | exact .inl rfl | exact .inr (.inl rfl) | exact .inr (.inr rfl)) (by decide +kernel) (by decide +kernel)) (va_cons (ve_lst (va_cons (ve_call (io := [true, false]) A_law_take rfl (va_cons (ve_var (i := 0) rfl (by first | exact .inl rfl | exact .inr (.inl rfl) | exact .inr (.inr rfl)) (by decide +kernel) (by decide +kernel)) (va_cons ve_int va_nil (fun _ => rfl)) (fun _ => rfl)) (by decide +kernel) (fun _ => rfl) (fun _ => rfl)) (va_cons ve_int (va_cons (ve_call (io := [true, false]) A_law_take rfl (va_cons (ve_var (i := 0) rfl (by first | exact .inl rfl | exact .inr (.inl rfl) | exact .inr (.inr rfl)) (by decide +kernel) (by decide +kernel)) (va_cons ve_int va_nil (fun _ => rfl)) (fun _ => rfl)) (by decide +kernel) (fun _ => rfl) (fun _ => rfl)) (va_cons (ve_call (io := [true, false]) A_law_take rfl (va_cons (ve_var (i := 0) rfl (by first | exact .inl rfl | exact .inr (.inl rfl) | exact .inr (.inr rfl)) (by decide +kernel) (by decide +kernel)) (va_cons ve_int va_nil (fun _ => rfl)) (fun _ => rfl)) (by decide +kernel) (fun _ => rfl) (fun _ => rfl)) va_nil (fun _ => rfl)) (fun _ => rfl)) (fun _ => rfl)) (fun _ => rfl))) va_nil (fun _ => rfl)) (fun _ => rfl)) (by decide +kernel) (fun _ => rfl) (fun _ => rfl)) (.inl rfl) (fun _ => rfl))
    (vss_one (vs_ret (ve_callTy pn_tuple rfl T.g_tuple (by kernel_rfl) (va_cons (ve_lc (own := [("turn", 8)]) (vi_range (va_cons (ve_var (i := 7) rfl (by first | exact .inl rfl | exact .inr (.inl rfl) | exact .inr (.inr rfl)) (by decide +kernel) (by decide +kernel)) va_nil (fun _ => rfl)) rfl T.g_range (fun _ => rfl) (fun _ => rfl)) (vg_name (i := 8) rfl (by first | exact .inl rfl | exact .inr rfl) rfl (.inr rfl)) vts_nil (ve_call (io := [true, false]) A_law_pick rfl (va_cons (ve_var (i := 0) rfl (by first | exact .inl rfl | exact .inr (.inl rfl) | exact .inr (.inr rfl)) (by decide +kernel) (by decide +kernel)) (va_cons (ve_var (i := 4) rfl (by first | exact .inl rfl | exact .inr (.inl rfl) | exact .inr (.inr rfl)) (by decide +kernel) (by decide +kernel)) va_nil (fun _ => rfl)) (fun _ => rfl)) (by decide +kernel) (fun _ => rfl) (fun _ => rfl)) ⟨rfl, by decide +kernel, by change ∀ p : Str × Nat, p ∈ _ → N_law_rows_drawn[p.2]? = _; decide +kernel, by change ∀ y : Str × NameKind, y ∈ _ → _ → (List.lookup y.1 (defScope s_law_rows_drawn).names = _ ∨ List.lookup y.1 (defScope s_law_rows_drawn).names = _); decide +kernel, by change ∀ y : Str × NameKind, y ∈ _ → _ → (_ ∨ y.1 ∉ N_law_rows_drawn); decide +kernel⟩ (by decide +kernel) (by change ∀ j : Nat, j ∈ _ → (fun i => decide (i ∈ ([0, 1, 2, 3] : List Nat))) j = _; decide +kernel) (fun _ _ => rfl)) va_nil (fun _ => rfl)) (by decide +kernel) (by decide +kernel) (fun _ => rfl) (fun _ => rfl))))))))
theorem sc_law_rows_drawn : FnScope N_law_rows_drawn ["feed", "names", "words", "uses"] (defScope s_law_rows_drawn) := ⟨rfl, rfl, rfl, by decide +kernel, rfl, by decide +kernel, by decide +kernel⟩
/-! _law_gives_drawn -/
def N_law_gives_drawn : List Str := ["feed", "names", "words", "uses", "tags", "found", "turn", "word", "tag", "chosen", "there", "what", "give"]
def g_law_gives_drawn : Act Flw := (seqA (setA 5 (lstA (Act.ret [])))
    (seqA (Act.bnd (rangeA (consA (defA 2 F_law_pick [true, false] [] (consA (var 0) (consA (lstA (consA (defA 2 F_law_take [true, false] [] (consA (var 0) (consA (cst (.int 5)) (Act.ret [])))) (consA (cst (.int 2)) (consA (defA 2 F_law_take [true, false] [] (consA (var 0) (consA (cst (.int 13)) (Act.ret [])))) (Act.ret []))))) (Act.ret [])))) (Act.ret []))) (forA (tgName 6)
    (seqA (setA 7 (defA 2 F_law_pick [true, false] [] (consA (var 0) (consA (var 2) (Act.ret [])))))
    (seqA (setA 8 (defA 2 F_law_pick [true, false] [] (consA (var 0) (consA (op2 addGT (lstA (consA (cst (.str "")) (consA (cst (.str "")) (Act.ret [])))) (var 4)) (Act.ret [])))))
    (seqA (setA 9 (orV (op2 eqE (var 8) (cst (.str ""))) (op2 eqE (defA 2 F_law_take [true, false] [] (consA (var 0) (consA (cst (.int 2)) (Act.ret [])))) (cst (.int 0)))))
    (seqA (setA 10 (lcAO 5 [12] (tgName 12) (testA (op2 eqE (op2 ixGD (var 12) (cst (.int 0))) (var 7))) (var 12)))
    (seqA (setA 10 (lcA [12] (tgName 12) (orA (testA (op2 eqE (op2 ixGD (var 12) (cst (.int 1))) (var 8))) (orA (andA (testA (op2 ixGD (var 12) (cst (.int 2)))) (andA (testA (var 9)) (Act.ret true))) (Act.ret false))) (var 12) (iterA (var 10))))
    (iteA (andA (testA (op2 eqE (var 10) (lstA (Act.ret [])))) (andA (testA (op2 ltG (callA lenD (consA (var 5) (Act.ret []))) (cst (.int 8)))) (Act.ret true)))
    (seqA (setA 11 (defA 1 F_law_number [true] [] (consA (var 0) (Act.ret []))))
    (seqA (iteA (testA (op2 eqE (op2 inGD (var 7) (slA (var 2) (Act.ret none) (partA (cst (.int 2))))) (op2 eqE (defA 2 F_law_take [true, false] [] (consA (var 0) (consA (cst (.int 9)) (Act.ret [])))) (cst (.int 0)))))
    (setA 11 (defA 4 F_law_rows_drawn [true, false, false, false] [] (consA (var 0) (consA (var 1) (consA (var 2) (consA (var 3) (Act.ret [])))))))
    (Act.ret .nx))
    (dropA (muA "list" appendM (var 5) (consA (tupA (consA (var 7) (consA (var 8) (consA (var 9) (consA (op2 eqE (defA 2 F_law_take [true, false] [] (consA (var 0) (consA (cst (.int 4)) (Act.ret [])))) (cst (.int 0))) (consA (var 11) (Act.ret []))))))) (Act.ret []))))))
    (Act.ret .nx)))))))))
    (retA (fun i => decide (i < 5)) (callA tupleD (consA (var 5) (Act.ret []))))))
def F_law_gives_drawn : FD := runB 13 5 (fun i => decide (i ∈ ([0, 1, 2, 3, 4] : List Nat))) g_law_gives_drawn
abbrev c_law_gives_drawn (S : Sta) : VS.Ctx := { toSta := S, N := N_law_gives_drawn, sc := defScope s_law_gives_drawn, lvl := 4, fnn := fun _ => true, ro := fun i => decide (i ∈ ([0, 1, 2, 3, 4] : List Nat)), np := 5 }
theorem ok_law_gives_drawn {S : Sta} (T : Txt S) (A_law_take : FnAt S 4 "_law_take" 2 F_law_take []) (A_law_pick : FnAt S 4 "_law_pick" 2 F_law_pick []) (A_law_number : FnAt S 4 "_law_number" 1 F_law_number []) (A_law_rows_drawn : FnAt S 4 "_law_rows_drawn" 4 F_law_rows_drawn []) : VSs (c_law_gives_drawn S) (defBody s_law_gives_drawn) g_law_gives_drawn :=
  (vss_cons (vs_set (i := 5) rfl (by first | exact .inl rfl | exact .inr rfl) rfl (ve_lst va_nil) (.inl rfl) (fun _ => rfl))
    (vss_cons (vs_for (vi_range (va_cons (ve_call (io := [true, false]) A_law_pick rfl (va_cons (ve_var (i := 0) rfl (by first | exact .inl rfl | exact .inr (.inl rfl) | exact .inr (.inr rfl)) (by decide +kernel) (by decide +kernel)) (va_cons (ve_lst (va_cons (ve_call (io := [true, false]) A_law_take rfl (va_cons (ve_var (i := 0) rfl (by first | exact .inl rfl | exact .inr (.inl rfl) | exact .inr (.inr rfl)) (by decide +kernel) (by decide +kernel)) (va_cons ve_int va_nil (fun _ => rfl)) (fun _ => rfl)) (by decide +kernel) (fun _ => rfl) (fun _ => rfl)) (va_cons ve_int (va_cons (ve_call (io := [true, false]) A_law_take rfl (va_cons (ve_var (i := 0) rfl (by first | exact .inl rfl | exact .inr (.inl rfl) | exact .inr (.inr rfl)) (by decide +kernel) (by decide +kernel)) (va_cons ve_int va_nil (fun _ => rfl)) (fun _ => rfl)) (by decide +kernel) (fun _ => rfl) (fun _ => rfl)) va_nil (fun _ => rfl)) (fun _ => rfl)) (fun _ => rfl))) va_nil (fun _ => rfl)) (fun _ => rfl)) (by decide +kernel) (fun _ => rfl) (fun _ => rfl)) va_nil (fun _ => rfl)) rfl T.g_range (fun _ => rfl) (fun _ => rfl)) (vg_name (i := 6) rfl (by first | exact .inl rfl | exact .inr rfl) rfl (.inl rfl))
    (vss_cons (vs_set (i := 7) rfl (by first | exact .inl rfl | exact .inr rfl) rfl (ve_call (io := [true, false]) A_law_pick rfl (va_cons (ve_var (i := 0) rfl (by first | exact .inl rfl | exact .inr (.inl rfl) | exact .inr (.inr rfl)) (by decide +kernel) (by decide +kernel)) (va_cons (ve_var (i := 2) rfl (by first | exact .inl rfl | exact .inr (.inl rfl) | exact .inr (.inr rfl)) (by decide +kernel) (by decide +kernel)) va_nil (fun _ => rfl)) (fun _ => rfl)) (by decide +kernel) (fun _ => rfl) (fun _ => rfl)) (.inl rfl) (fun _ => rfl))
    (vss_cons (vs_set (i := 8) rfl (by first | exact .inl rfl | exact .inr rfl) rfl (ve_call (io := [true, false]) A_law_pick rfl (va_cons (ve_var (i := 0) rfl (by first | exact .inl rfl | exact .inr (.inl rfl) | exact .inr (.inr rfl)) (by decide +kernel) (by decide +kernel)) (va_cons (ve_binop p2_addT (ve_lst (va_cons ve_str (va_cons ve_str va_nil (fun _ => rfl)) (fun _ => rfl))) (ve_var (i := 4) rfl (by first | exact .inl rfl | exact .inr (.inl rfl) | exact .inr (.inr rfl)) (by decide +kernel) (by decide +kernel))) va_nil (fun _ => rfl)) (fun _ => rfl)) (by decide +kernel) (fun _ => rfl) (fun _ => rfl)) (.inl rfl) (fun _ => rfl))
    (vss_cons (vs_set (i := 9) rfl (by first | exact .inl rfl | exact .inr rfl) rfl (ve_or (ve_cmp p2_eq (ve_var (i := 8) rfl (by first | exact .inl rfl | exact .inr (.inl rfl) | exact .inr (.inr rfl)) (by decide +kernel) (by decide +kernel)) ve_str (by with_unfolding_all rfl)) (ve_one (ve_cmp p2_eq (ve_call (io := [true, false]) A_law_take rfl (va_cons (ve_var (i := 0) rfl (by first | exact .inl rfl | exact .inr (.inl rfl) | exact .inr (.inr rfl)) (by decide +kernel) (by decide +kernel)) (va_cons ve_int va_nil (fun _ => rfl)) (fun _ => rfl)) (by decide +kernel) (fun _ => rfl) (fun _ => rfl)) ve_int (by with_unfolding_all rfl)))) (.inl rfl) (fun _ => rfl))
    (vss_cons (vs_setLcO (own := [("give", 12)]) (i := 10) rfl rfl rfl (j := 5) rfl (by first | exact .inl rfl | exact .inr (.inl rfl) | exact .inr (.inr rfl)) (by decide +kernel) (by decide +kernel) (vg_name (i := 12) rfl (by first | exact .inl rfl | exact .inr rfl) rfl (.inr rfl)) (vts_one (vt_cmp p2_eq (ve_ix pix_GD (ve_var (i := 12) rfl (by first | exact .inl rfl | exact .inr (.inl rfl) | exact .inr (.inr rfl)) (by decide +kernel) (by decide +kernel)) ve_int (fun _ _ => rfl)) (ve_var (i := 7) rfl (by first | exact .inl rfl | exact .inr (.inl rfl) | exact .inr (.inr rfl)) (by decide +kernel) (by decide +kernel)) (by with_unfolding_all rfl))) (ve_var (i := 12) rfl (by first | exact .inl rfl | exact .inr (.inl rfl) | exact .inr (.inr rfl)) (by decide +kernel) (by decide +kernel)) ⟨rfl, by decide +kernel, by change ∀ p : Str × Nat, p ∈ _ → N_law_gives_drawn[p.2]? = _; decide +kernel, by change ∀ y : Str × NameKind, y ∈ _ → _ → (List.lookup y.1 (defScope s_law_gives_drawn).names = _ ∨ List.lookup y.1 (defScope s_law_gives_drawn).names = _); decide +kernel, by change ∀ y : Str × NameKind, y ∈ _ → _ → (_ ∨ y.1 ∉ N_law_gives_drawn); decide +kernel⟩ (by decide +kernel) (by change ∀ j : Nat, j ∈ _ → (fun i => decide (i ∈ ([0, 1, 2, 3, 4] : List Nat))) j = _; decide +kernel) (fun _ _ => rfl) rfl rfl (by decide +kernel))
    (vss_cons (vs_setLc (own := [("give", 12)]) (i := 10) rfl rfl rfl (vi_val (ve_var (i := 10) rfl (by first | exact .inl rfl | exact .inr (.inl rfl) | exact .inr (.inr rfl)) (by decide +kernel) (by decide +kernel))) (vg_name (i := 12) rfl (by first | exact .inl rfl | exact .inr rfl) rfl (.inr rfl)) (vts_one (vt_or (vt_cmp p2_eq (ve_ix pix_GD (ve_var (i := 12) rfl (by first | exact .inl rfl | exact .inr (.inl rfl) | exact .inr (.inr rfl)) (by decide +kernel) (by decide +kernel)) ve_int (fun _ _ => rfl)) (ve_var (i := 8) rfl (by first | exact .inl rfl | exact .inr (.inl rfl) | exact .inr (.inr rfl)) (by decide +kernel) (by decide +kernel)) (by with_unfolding_all rfl)) (vt_or (vt_and (vt_plain (ve_ix pix_GD (ve_var (i := 12) rfl (by first | exact .inl rfl | exact .inr (.inl rfl) | exact .inr (.inr rfl)) (by decide +kernel) (by decide +kernel)) ve_int (fun _ _ => rfl)) (fun _ _ _ h => nomatch h) (fun _ _ => rfl)) (vt_and (vt_plain (ve_var (i := 9) rfl (by first | exact .inl rfl | exact .inr (.inl rfl) | exact .inr (.inr rfl)) (by decide +kernel) (by decide +kernel)) (fun _ _ _ h => nomatch h) (fun _ _ => rfl)) vt_and_nil)) vt_or_nil))) (ve_var (i := 12) rfl (by first | exact .inl rfl | exact .inr (.inl rfl) | exact .inr (.inr rfl)) (by decide +kernel) (by decide +kernel)) ⟨rfl, by decide +kernel, by change ∀ p : Str × Nat, p ∈ _ → N_law_gives_drawn[p.2]? = _; decide +kernel, by change ∀ y : Str × NameKind, y ∈ _ → _ → (List.lookup y.1 (defScope s_law_gives_drawn).names = _ ∨ List.lookup y.1 (defScope s_law_gives_drawn).names = _); decide +kernel, by change ∀ y : Str × NameKind, y ∈ _ → _ → (_ ∨ y.1 ∉ N_law_gives_drawn); decide +kernel⟩ (by decide +kernel) (by change ∀ j : Nat, j ∈ _ → (fun i => decide (i ∈ ([0, 1, 2, 3, 4] : List Nat))) j = _; decide +kernel) (fun _ _ => rfl) rfl rfl (by decide +kernel))
    (vss_one (vs_if (vt_and (vt_cmp p2_eq (ve_var (i := 10) rfl (by first | exact .inl rfl | exact .inr (.inl rfl) | exact .inr (.inr rfl)) (by decide +kernel) (by decide +kernel)) (ve_lst va_nil) (by with_unfolding_all rfl)) (vt_and (vt_cmp p2_lt (ve_callB pn_len rfl T.g_len (by kernel_rfl) (va_cons (ve_var (i := 5) rfl (by first | exact .inl rfl | exact .inr (.inl rfl) | exact .inr (.inr rfl)) (by decide +kernel) (by decide +kernel)) va_nil (fun _ => rfl)) (by decide +kernel) (by decide +kernel) (fun _ => rfl) (fun _ => rfl)) ve_int (by with_unfolding_all rfl)) vt_and_nil))
    (vss_cons (vs_set (i := 11) rfl (by first | exact .inl rfl | exact .inr rfl) rfl (ve_call (io := [true]) A_law_number rfl (va_cons (ve_var (i := 0) rfl (by first | exact .inl rfl | exact .inr (.inl rfl) | exact .inr (.inr rfl)) (by decide +kernel) (by decide +kernel)) va_nil (fun _ => rfl)) (by decide +kernel) (fun _ => rfl) (fun _ => rfl)) (.inl rfl) (fun _ => rfl))
    (vss_cons (vs_if (vt_cmp p2_eq (ve_cmp p2_inD (ve_var (i := 7) rfl (by first | exact .inl rfl | exact .inr (.inl rfl) | exact .inr (.inr rfl)) (by decide +kernel) (by decide +kernel)) (ve_slice (ve_var (i := 2) rfl (by first | exact .inl rfl | exact .inr (.inl rfl) | exact .inr (.inr rfl)) (by decide +kernel) (by decide +kernel)) vp_none (vp_some ve_int)) (by with_unfolding_all rfl)) (ve_cmp p2_eq (ve_call (io := [true, false]) A_law_take rfl (va_cons (ve_var (i := 0) rfl (by first | exact .inl rfl | exact .inr (.inl rfl) | exact .inr (.inr rfl)) (by decide +kernel) (by decide +kernel)) (va_cons ve_int va_nil (fun _ => rfl)) (fun _ => rfl)) (by decide +kernel) (fun _ => rfl) (fun _ => rfl)) ve_int (by with_unfolding_all rfl)) (by with_unfolding_all rfl))
    (vss_one (vs_set (i := 11) rfl (by first | exact .inl rfl | exact .inr rfl) rfl (ve_call (io := [true, false, false, false]) A_law_rows_drawn rfl (va_cons (ve_var (i := 0) rfl (by first | exact .inl rfl | exact .inr (.inl rfl) | exact .inr (.inr rfl)) (by decide +kernel) (by decide +kernel)) (va_cons (ve_var (i := 1) rfl (by first | exact .inl rfl | exact .inr (.inl rfl) | exact .inr (.inr rfl)) (by decide +kernel) (by decide +kernel)) (va_cons (ve_var (i := 2) rfl (by first | exact .inl rfl | exact .inr (.inl rfl) | exact .inr (.inr rfl)) (by decide +kernel) (by decide +kernel)) (va_cons (ve_var (i := 3) rfl (by first | exact .inl rfl | exact .inr (.inl rfl) | exact .inr (.inr rfl)) (by decide +kernel) (by decide +kernel)) va_nil (fun _ => rfl)) (fun _ => rfl)) (fun _ => rfl)) (fun _ => rfl)) (by decide +kernel) (fun _ => rfl) (fun _ => rfl)) (.inl rfl) (fun _ => rfl)))
    vss_nil)
    (vss_one (vs_expr (ve_mu PySem.F.plainAttrs_list PySem.F.slot_list_append PySem.F.type_list_append pmu_append (ve_var (i := 5) rfl (by first | exact .inl rfl | exact .inr (.inl rfl) | exact .inr (.inr rfl)) (by decide +kernel) (by decide +kernel)) (va_cons (ve_tup (va_cons (ve_var (i := 7) rfl (by first | exact .inl rfl | exact .inr (.inl rfl) | exact .inr (.inr rfl)) (by decide +kernel) (by decide +kernel)) (va_cons (ve_var (i := 8) rfl (by first | exact .inl rfl | exact .inr (.inl rfl) | exact .inr (.inr rfl)) (by decide +kernel) (by decide +kernel)) (va_cons (ve_var (i := 9) rfl (by first | exact .inl rfl | exact .inr (.inl rfl) | exact .inr (.inr rfl)) (by decide +kernel) (by decide +kernel)) (va_cons (ve_cmp p2_eq (ve_call (io := [true, false]) A_law_take rfl (va_cons (ve_var (i := 0) rfl (by first | exact .inl rfl | exact .inr (.inl rfl) | exact .inr (.inr rfl)) (by decide +kernel) (by decide +kernel)) (va_cons ve_int va_nil (fun _ => rfl)) (fun _ => rfl)) (by decide +kernel) (fun _ => rfl) (fun _ => rfl)) ve_int (by with_unfolding_all rfl)) (va_cons (ve_var (i := 11) rfl (by first | exact .inl rfl | exact .inr (.inl rfl) | exact .inr (.inr rfl)) (by decide +kernel) (by decide +kernel)) va_nil (fun _ => rfl)) (fun _ => rfl)) (fun _ => rfl)) (fun _ => rfl)) (fun _ => rfl))) va_nil (fun _ => rfl)) (fun _ => rfl) (fun _ => rfl) rfl (fun _ => rfl) (fun _ => rfl)) (fun _ => rfl)))))
    vss_nil))))))) (fun _ _ => rfl))
    (vss_one (vs_ret (ve_callTy pn_tuple rfl T.g_tuple (by kernel_rfl) (va_cons (ve_var (i := 5) rfl (by first | exact .inl rfl | exact .inr (.inl rfl) | exact .inr (.inr rfl)) (by decide +kernel) (by decide +kernel)) va_nil (fun _ => rfl)) (by decide +kernel) (by decide +kernel) (fun _ => rfl) (fun _ => rfl))))))
theorem sc_law_gives_drawn : FnScope N_law_gives_drawn ["feed", "names", "words", "uses", "tags"] (defScope s_law_gives_drawn) := ⟨rfl, rfl, rfl, by decide +kernel, rfl, by decide +kernel, by decide +kernel⟩
/-! _law_library_drawn -/
def N_law_library_drawn : List Str := ["feed", "names", "at", "words", "given", "tags", "needs", "turn", "uses", "tag", "use", "word", "edition", "bare", "giver", "some", "gives", "rows", "marks", "k", "one", "mark"]
def g_law_library_drawn : Act Flw := (seqA (setA 6 (lstA (Act.ret [])))
    (seqA (Act.bnd (rangeA (consA (defA 2 F_law_take [true, false] [] (consA (var 0) (consA (cst (.int 4)) (Act.ret [])))) (Act.ret []))) (forA (tgName 7)
    (dropA (muA "list" appendM (var 6) (consA (op2 ixGD (var 1) (defA 2 F_law_pick [true, false] [] (consA (var 0) (consA (lstA (consA (defA 2 F_law_take [true, false] [] (consA (var 0) (consA (callA lenD (consA (var 1) (Act.ret []))) (Act.ret [])))) (consA (op2 modG (op2 addGT (var 2) (cst (.int 1))) (callA lenD (consA (var 1) (Act.ret [])))) (Act.ret [])))) (Act.ret []))))) (Act.ret []))))))
    (seqA (setA 8 (lstA (Act.ret [])))
    (seqA (Act.bnd (rangeA (consA (defA 2 F_law_pick [true, false] [] (consA (var 0) (consA (lstA (consA (defA 2 F_law_take [true, false] [] (consA (var 0) (consA (cst (.int 5)) (Act.ret [])))) (consA (cst (.int 2)) (consA (defA 2 F_law_take [true, false] [] (consA (var 0) (consA (cst (.int 9)) (Act.ret [])))) (Act.ret []))))) (Act.ret [])))) (Act.ret []))) (forA (tgName 7)
    (seqA (setA 9 (defA 2 F_law_pick [true, false] [] (consA (var 0) (consA (op2 addGT (lstA (consA (cst (.str "")) (consA (cst (.str "")) (consA (cst (.str "")) (Act.ret []))))) (var 5)) (Act.ret [])))))
    (seqA (setA 10 (tupA (consA (defA 2 F_law_pick [true, false] [] (consA (var 0) (consA (var 3) (Act.ret [])))) (consA (var 9) (consA (cst (.bl false)) (consA (op2 eqE (defA 2 F_law_take [true, false] [] (consA (var 0) (consA (cst (.int 4)) (Act.ret [])))) (cst (.int 0))) (Act.ret [])))))))
    (seqA (iteA (andA (testA (op2 neE (var 4) (lstA (Act.ret [])))) (andA (testA (op2 eqE (defA 2 F_law_take [true, false] [] (consA (var 0) (consA (cst (.int 3)) (Act.ret [])))) (cst (.int 0)))) (Act.ret true)))
    (seqA (asgT (tgTup 4 (tgCons (tgName 11) (tgCons (tgName 12) (tgCons (tgName 13) (tgCons (tgName 14) tgNil))))) (defA 2 F_law_pick [true, false] [] (consA (var 0) (consA (var 4) (Act.ret [])))))
    (seqA (setA 15 (op2 addGT (mulLA (lstA (consA (var 12) (consA (var 12) (consA (iteA (testA (var 13)) (cst (.str "")) (var 12)) (consA (iteA (testA (var 13)) (cst (.str "")) (var 12)) (Act.ret [])))))) (cst (.int 3))) (slA (var 5) (Act.ret none) (partA (cst (.int 1))))))
    (seqA (setA 10 (tupA (consA (var 11) (consA (defA 2 F_law_pick [true, false] [] (consA (var 0) (consA (var 15) (Act.ret [])))) (consA (cst (.bl true)) (consA (cst (.bl true)) (Act.ret [])))))))
    (setA 6 (op2 addGT (var 6) (mulLA (lstA (consA (var 14) (Act.ret []))) (callA intG (consA (op2 gtG (defA 2 F_law_take [true, false] [] (consA (var 0) (consA (cst (.int 9)) (Act.ret [])))) (cst (.int 0))) (Act.ret [])))))))))
    (Act.ret .nx))
    (dropA (muA "list" appendM (var 8) (consA (var 10) (Act.ret [])))))))))
    (seqA (setA 6 (lcA [19, 20] (tgTup 2 (tgCons (tgName 19) (tgCons (tgName 20) tgNil))) (andA (testA (op2 neE (var 20) (op2 ixGD (var 1) (var 2)))) (andA (testA (op2 ninGD (var 20) (slA (var 6) (Act.ret none) (partA (var 19))))) (Act.ret true))) (var 20) (enumA (consA (var 6) (Act.ret [])))))
    (seqA (setA 16 (defA 5 F_law_gives_drawn [true, false, false, false, false] [] (consA (var 0) (consA (var 1) (consA (var 3) (consA (var 8) (consA (var 5) (Act.ret []))))))))
    (seqA (setA 17 (lcA [7] (tgName 7) (Act.ret true) (defA 4 F_law_rows_drawn [true, false, false, false] [] (consA (var 0) (consA (var 1) (consA (var 3) (consA (var 8) (Act.ret [])))))) (rangeA (consA (cst (.int 2)) (Act.ret [])))))
    (seqA (setA 18 (callA tupleD (consA (lcA [21] (tgName 21) (testA (op2 eqE (defA 2 F_law_take [true, false] [] (consA (var 0) (consA (cst (.int 8)) (Act.ret [])))) (cst (.int 0)))) (var 21) (iterA (lstA (consA (cst (.str "early")) (consA (cst (.str "own")) (consA (cst (.str "stays")) (Act.ret []))))))) (Act.ret []))))
    (retA (fun i => decide (i < 6)) (tupA (consA (op2 ixGD (var 1) (var 2)) (consA (callA tupleD (consA (slA (var 6) (Act.ret none) (partA (cst (.int 6)))) (Act.ret []))) (consA (var 16) (consA (callA tupleD (consA (var 8) (Act.ret []))) (consA (op2 ixGD (var 17) (cst (.int 0))) (consA (op2 ixGD (var 17) (cst (.int 1))) (consA (var 18) (Act.ret []))))))))))))))))))
def F_law_library_drawn : FD := runB 22 6 (fun i => decide (i ∈ ([0, 1, 2, 3, 4, 5] : List Nat))) g_law_library_drawn
abbrev c_law_library_drawn (S : Sta) : VS.Ctx := { toSta := S, N := N_law_library_drawn, sc := defScope s_law_library_drawn, lvl := 5, fnn := fun _ => true, ro := fun i => decide (i ∈ ([0, 1, 2, 3, 4, 5] : List Nat)), np := 6 }
theorem ok_law_library_drawn {S : Sta} (T : Txt S) (A_law_take : FnAt S 5 "_law_take" 2 F_law_take []) (A_law_pick : FnAt S 5 "_law_pick" 2 F_law_pick []) (A_law_gives_drawn : FnAt S 5 "_law_gives_drawn" 5 F_law_gives_drawn []) (A_law_rows_drawn : FnAt S 5 "_law_rows_drawn" 4 F_law_rows_drawn []) : VSs (c_law_library_drawn S) (defBody s_law_library_drawn) g_law_library_drawn :=
  (vss_cons (vs_set (i := 6) rfl (by first | exact .inl rfl | exact .inr rfl) rfl (ve_lst va_nil) (.inl rfl) (fun _ => rfl))
    (vss_cons (vs_for (vi_range (va_cons (ve_call (io := [true, false]) A_law_take rfl (va_cons (ve_var (i := 0) rfl (by first | exact .inl rfl | exact .inr (.inl rfl) | exact .inr (.inr rfl)) (by decide +kernel) (by decide +kernel)) (va_cons ve_int va_nil (fun _ => rfl)) (fun _ => rfl)) (by decide +kernel) (fun _ => rfl) (fun _ => rfl)) va_nil (fun _ => rfl)) rfl T.g_range (fun _ => rfl) (fun _ => rfl)) (vg_name (i := 7) rfl (by first | exact .inl rfl | exact .inr rfl) rfl (.inl rfl))
    (vss_one (vs_expr (ve_mu PySem.F.plainAttrs_list PySem.F.slot_list_append PySem.F.type_list_append pmu_append (ve_var (i := 6) rfl (by first | exact .inl rfl | exact .inr (.inl rfl) | exact .inr (.inr rfl)) (by decide +kernel) (by decide +kernel)) (va_cons (ve_ix pix_GD (ve_var (i := 1) rfl (by first | exact .inl rfl | exact .inr (.inl rfl) | exact .inr (.inr rfl)) (by decide +kernel) (by decide +kernel)) (ve_call (io := [true, false]) A_law_pick rfl (va_cons (ve_var (i := 0) rfl (by first | exact .inl rfl | exact .inr (.inl rfl) | exact .inr (.inr rfl)) (by decide +kernel) (by decide +kernel)) (va_cons (ve_lst (va_cons (ve_call (io := [true, false]) A_law_take rfl (va_cons (ve_var (i := 0) rfl (by first | exact .inl rfl | exact .inr (.inl rfl) | exact .inr (.inr rfl)) (by decide +kernel) (by decide +kernel)) (va_cons (ve_callB pn_len rfl T.g_len (by kernel_rfl) (va_cons (ve_var (i := 1) rfl (by first | exact .inl rfl | exact .inr (.inl rfl) | exact .inr (.inr rfl)) (by decide +kernel) (by decide +kernel)) va_nil (fun _ => rfl)) (by decide +kernel) (by decide +kernel) (fun _ => rfl) (fun _ => rfl)) va_nil (fun _ => rfl)) (fun _ => rfl)) (by decide +kernel) (fun _ => rfl) (fun _ => rfl)) (va_cons (ve_binop p2_mod (ve_binop p2_addT (ve_var (i := 2) rfl (by first | exact .inl rfl | exact .inr (.inl rfl) | exact .inr (.inr rfl)) (by decide +kernel) (by decide +kernel)) ve_int) (ve_callB pn_len rfl T.g_len (by kernel_rfl) (va_cons (ve_var (i := 1) rfl (by first | exact .inl rfl | exact .inr (.inl rfl) | exact .inr (.inr rfl)) (by decide +kernel) (by decide +kernel)) va_nil (fun _ => rfl)) (by decide +kernel) (by decide +kernel) (fun _ => rfl) (fun _ => rfl))) va_nil (fun _ => rfl)) (fun _ => rfl))) va_nil (fun _ => rfl)) (fun _ => rfl)) (by decide +kernel) (fun _ => rfl) (fun _ => rfl)) (fun _ _ => rfl)) va_nil (fun _ => rfl)) (fun _ => rfl) (fun _ => rfl) rfl (fun _ => rfl) (fun _ => rfl)) (fun _ => rfl))) (fun _ _ => rfl))
    (vss_cons (vs_set (i := 8) rfl (by first | exact .inl rfl | exact .inr rfl) rfl (ve_lst va_nil) (.inl rfl) (fun _ => rfl))
    (vss_cons (vs_for (vi_range (va_cons (ve_call (io := [true, false]) A_law_pick rfl (va_cons (ve_var (i := 0) rfl (by first | exact .inl rfl | exact .inr (.inl rfl) | exact .inr (.inr rfl)) (by decide +kernel) (by decide +kernel)) (va_cons (ve_lst (va_cons (ve_call (io := [true, false]) A_law_take rfl (va_cons (ve_var (i := 0) rfl (by first | exact .inl rfl | exact .inr (.inl rfl) | exact .inr (.inr rfl)) (by decide +kernel) (by decide +kernel)) (va_cons ve_int va_nil (fun _ => rfl)) (fun _ => rfl)) (by decide +kernel) (fun _ => rfl) (fun _ => rfl)) (va_cons ve_int (va_cons (ve_call (io := [true, false]) A_law_take rfl (va_cons (ve_var (i := 0) rfl (by first | exact .inl rfl | exact .inr (.inl rfl) | exact .inr (.inr rfl)) (by decide +kernel) (by decide +kernel)) (va_cons ve_int va_nil (fun _ => rfl)) (fun _ => rfl)) (by decide +kernel) (fun _ => rfl) (fun _ => rfl)) va_nil (fun _ => rfl)) (fun _ => rfl)) (fun _ => rfl))) va_nil (fun _ => rfl)) (fun _ => rfl)) (by decide +kernel) (fun _ => rfl) (fun _ => rfl)) va_nil (fun _ => rfl)) rfl T.g_range (fun _ => rfl) (fun _ => rfl)) (vg_name (i := 7) rfl (by first | exact .inl rfl | exact .inr rfl) rfl (.inl rfl))
    (vss_cons (vs_set (i := 9) rfl (by first | exact .inl rfl | exact .inr rfl) rfl (ve_call (io := [true, false]) A_law_pick rfl (va_cons (ve_var (i := 0) rfl (by first | exact .inl rfl | exact .inr (.inl rfl) | exact .inr (.inr rfl)) (by decide +kernel) (by decide +kernel)) (va_cons (ve_binop p2_addT (ve_lst (va_cons ve_str (va_cons ve_str (va_cons ve_str va_nil (fun _ => rfl)) (fun _ => rfl)) (fun _ => rfl))) (ve_var (i := 5) rfl (by first | exact .inl rfl | exact .inr (.inl rfl) | exact .inr (.inr rfl)) (by decide +kernel) (by decide +kernel))) va_nil (fun _ => rfl)) (fun _ => rfl)) (by decide +kernel) (fun _ => rfl) (fun _ => rfl)) (.inl rfl) (fun _ => rfl))
    (vss_cons (vs_set (i := 10) rfl (by first | exact .inl rfl | exact .inr rfl) rfl (ve_tup (va_cons (ve_call (io := [true, false]) A_law_pick rfl (va_cons (ve_var (i := 0) rfl (by first | exact .inl rfl | exact .inr (.inl rfl) | exact .inr (.inr rfl)) (by decide +kernel) (by decide +kernel)) (va_cons (ve_var (i := 3) rfl (by first | exact .inl rfl | exact .inr (.inl rfl) | exact .inr (.inr rfl)) (by decide +kernel) (by decide +kernel)) va_nil (fun _ => rfl)) (fun _ => rfl)) (by decide +kernel) (fun _ => rfl) (fun _ => rfl)) (va_cons (ve_var (i := 9) rfl (by first | exact .inl rfl | exact .inr (.inl rfl) | exact .inr (.inr rfl)) (by decide +kernel) (by decide +kernel)) (va_cons ve_bl (va_cons (ve_cmp p2_eq (ve_call (io := [true, false]) A_law_take rfl (va_cons (ve_var (i := 0) rfl (by first | exact .inl rfl | exact .inr (.inl rfl) | exact .inr (.inr rfl)) (by decide +kernel) (by decide +kernel)) (va_cons ve_int va_nil (fun _ => rfl)) (fun _ => rfl)) (by decide +kernel) (fun _ => rfl) (fun _ => rfl)) ve_int (by with_unfolding_all rfl)) va_nil (fun _ => rfl)) (fun _ => rfl)) (fun _ => rfl)) (fun _ => rfl))) (.inl rfl) (fun _ => rfl))
    (vss_cons (vs_if (vt_and (vt_cmp p2_ne (ve_var (i := 4) rfl (by first | exact .inl rfl | exact .inr (.inl rfl) | exact .inr (.inr rfl)) (by decide +kernel) (by decide +kernel)) (ve_lst va_nil) (by with_unfolding_all rfl)) (vt_and (vt_cmp p2_eq (ve_call (io := [true, false]) A_law_take rfl (va_cons (ve_var (i := 0) rfl (by first | exact .inl rfl | exact .inr (.inl rfl) | exact .inr (.inr rfl)) (by decide +kernel) (by decide +kernel)) (va_cons ve_int va_nil (fun _ => rfl)) (fun _ => rfl)) (by decide +kernel) (fun _ => rfl) (fun _ => rfl)) ve_int (by with_unfolding_all rfl)) vt_and_nil))
    (vss_cons (vs_asgT (ve_call (io := [true, false]) A_law_pick rfl (va_cons (ve_var (i := 0) rfl (by first | exact .inl rfl | exact .inr (.inl rfl) | exact .inr (.inr rfl)) (by decide +kernel) (by decide +kernel)) (va_cons (ve_var (i := 4) rfl (by first | exact .inl rfl | exact .inr (.inl rfl) | exact .inr (.inr rfl)) (by decide +kernel) (by decide +kernel)) va_nil (fun _ => rfl)) (fun _ => rfl)) (by decide +kernel) (fun _ => rfl) (fun _ => rfl)) (vg_tup (n := 4) (vgs_cons (vg_name (i := 11) rfl (by first | exact .inl rfl | exact .inr rfl) rfl (.inl rfl)) (vgs_cons (vg_name (i := 12) rfl (by first | exact .inl rfl | exact .inr rfl) rfl (.inl rfl)) (vgs_cons (vg_name (i := 13) rfl (by first | exact .inl rfl | exact .inr rfl) rfl (.inl rfl)) (vgs_cons (vg_name (i := 14) rfl (by first | exact .inl rfl | exact .inr rfl) rfl (.inl rfl)) vgs_nil (fun _ => rfl)) (fun _ => rfl)) (fun _ => rfl)) (fun _ => rfl)) (fun _ => rfl) (fun _ => rfl)) (fun _ => rfl) (fun env h => by cases env; cases h; rfl) (fun _ => rfl))
    (vss_cons (vs_set (i := 15) rfl (by first | exact .inl rfl | exact .inr rfl) rfl (ve_binop p2_addT (ve_mulL (ve_lst (va_cons (ve_var (i := 12) rfl (by first | exact .inl rfl | exact .inr (.inl rfl) | exact .inr (.inr rfl)) (by decide +kernel) (by decide +kernel)) (va_cons (ve_var (i := 12) rfl (by first | exact .inl rfl | exact .inr (.inl rfl) | exact .inr (.inr rfl)) (by decide +kernel) (by decide +kernel)) (va_cons (ve_ifExp (vt_plain (ve_var (i := 13) rfl (by first | exact .inl rfl | exact .inr (.inl rfl) | exact .inr (.inr rfl)) (by decide +kernel) (by decide +kernel)) (fun _ _ _ h => nomatch h) (fun _ _ => rfl)) ve_str (ve_var (i := 12) rfl (by first | exact .inl rfl | exact .inr (.inl rfl) | exact .inr (.inr rfl)) (by decide +kernel) (by decide +kernel))) (va_cons (ve_ifExp (vt_plain (ve_var (i := 13) rfl (by first | exact .inl rfl | exact .inr (.inl rfl) | exact .inr (.inr rfl)) (by decide +kernel) (by decide +kernel)) (fun _ _ _ h => nomatch h) (fun _ _ => rfl)) ve_str (ve_var (i := 12) rfl (by first | exact .inl rfl | exact .inr (.inl rfl) | exact .inr (.inr rfl)) (by decide +kernel) (by decide +kernel))) va_nil (fun _ => rfl)) (fun _ => rfl)) (fun _ => rfl)) (fun _ => rfl))) ve_int) (ve_slice (ve_var (i := 5) rfl (by first | exact .inl rfl | exact .inr (.inl rfl) | exact .inr (.inr rfl)) (by decide +kernel) (by decide +kernel)) vp_none (vp_some ve_int))) (.inl rfl) (fun _ => rfl))
    (vss_cons (vs_set (i := 10) rfl (by first | exact .inl rfl | exact .inr rfl) rfl (ve_tup (va_cons (ve_var (i := 11) rfl (by first | exact .inl rfl | exact .inr (.inl rfl) | exact .inr (.inr rfl)) (by decide +kernel) (by decide +kernel)) (va_cons (ve_call (io := [true, false]) A_law_pick rfl (va_cons (ve_var (i := 0) rfl (by first | exact .inl rfl | exact .inr (.inl rfl) | exact .inr (.inr rfl)) (by decide +kernel) (by decide +kernel)) (va_cons (ve_var (i := 15) rfl (by first | exact .inl rfl | exact .inr (.inl rfl) | exact .inr (.inr rfl)) (by decide +kernel) (by decide +kernel)) va_nil (fun _ => rfl)) (fun _ => rfl)) (by decide +kernel) (fun _ => rfl) (fun _ => rfl)) (va_cons ve_bl (va_cons ve_bl va_nil (fun _ => rfl)) (fun _ => rfl)) (fun _ => rfl)) (fun _ => rfl))) (.inl rfl) (fun _ => rfl))
    (vss_one (vs_set (i := 6) rfl (by first | exact .inl rfl | exact .inr rfl) rfl (ve_binop p2_addT (ve_var (i := 6) rfl (by first | exact .inl rfl | exact .inr (.inl rfl) | exact .inr (.inr rfl)) (by decide +kernel) (by decide +kernel)) (ve_mulL (ve_lst (va_cons (ve_var (i := 14) rfl (by first | exact .inl rfl | exact .inr (.inl rfl) | exact .inr (.inr rfl)) (by decide +kernel) (by decide +kernel)) va_nil (fun _ => rfl))) (ve_callTy pn_intG rfl T.g_int (by kernel_rfl) (va_cons (ve_cmp p2_gt (ve_call (io := [true, false]) A_law_take rfl (va_cons (ve_var (i := 0) rfl (by first | exact .inl rfl | exact .inr (.inl rfl) | exact .inr (.inr rfl)) (by decide +kernel) (by decide +kernel)) (va_cons ve_int va_nil (fun _ => rfl)) (fun _ => rfl)) (by decide +kernel) (fun _ => rfl) (fun _ => rfl)) ve_int (by with_unfolding_all rfl)) va_nil (fun _ => rfl)) (by decide +kernel) (by decide +kernel) (fun _ => rfl) (fun _ => rfl)))) (.inl rfl) (fun _ => rfl))))))
    vss_nil)
    (vss_one (vs_expr (ve_mu PySem.F.plainAttrs_list PySem.F.slot_list_append PySem.F.type_list_append pmu_append (ve_var (i := 8) rfl (by first | exact .inl rfl | exact .inr (.inl rfl) | exact .inr (.inr rfl)) (by decide +kernel) (by decide +kernel)) (va_cons (ve_var (i := 10) rfl (by first | exact .inl rfl | exact .inr (.inl rfl) | exact .inr (.inr rfl)) (by decide +kernel) (by decide +kernel)) va_nil (fun _ => rfl)) (fun _ => rfl) (fun _ => rfl) rfl (fun _ => rfl) (fun _ => rfl)) (fun _ => rfl)))))) (fun _ _ => rfl))
    (vss_cons (vs_setC (i := 6) rfl rfl rfl (ve_lc (own := [("k", 19), ("one", 20)]) (vi_enum (va_cons (ve_var (i := 6) rfl (by first | exact .inl rfl | exact .inr (.inl rfl) | exact .inr (.inr rfl)) (by decide +kernel) (by decide +kernel)) va_nil (fun _ => rfl)) rfl T.g_enumerate (fun _ => rfl) (fun _ => rfl)) (vg_tup (n := 2) (vgs_cons (vg_name (i := 19) rfl (by first | exact .inl rfl | exact .inr rfl) rfl (.inr rfl)) (vgs_cons (vg_name (i := 20) rfl (by first | exact .inl rfl | exact .inr rfl) rfl (.inr rfl)) vgs_nil (fun _ => rfl)) (fun _ => rfl)) (fun _ => rfl) (fun _ => rfl)) (vts_one (vt_and (vt_cmp p2_ne (ve_var (i := 20) rfl (by first | exact .inl rfl | exact .inr (.inl rfl) | exact .inr (.inr rfl)) (by decide +kernel) (by decide +kernel)) (ve_ix pix_GD (ve_var (i := 1) rfl (by first | exact .inl rfl | exact .inr (.inl rfl) | exact .inr (.inr rfl)) (by decide +kernel) (by decide +kernel)) (ve_var (i := 2) rfl (by first | exact .inl rfl | exact .inr (.inl rfl) | exact .inr (.inr rfl)) (by decide +kernel) (by decide +kernel)) (fun _ _ => rfl)) (by with_unfolding_all rfl)) (vt_and (vt_cmp p2_ninD (ve_var (i := 20) rfl (by first | exact .inl rfl | exact .inr (.inl rfl) | exact .inr (.inr rfl)) (by decide +kernel) (by decide +kernel)) (ve_slice (ve_var (i := 6) rfl (by first | exact .inl rfl | exact .inr (.inl rfl) | exact .inr (.inr rfl)) (by decide +kernel) (by decide +kernel)) vp_none (vp_some (ve_var (i := 19) rfl (by first | exact .inl rfl | exact .inr (.inl rfl) | exact .inr (.inr rfl)) (by decide +kernel) (by decide +kernel)))) (by with_unfolding_all rfl)) vt_and_nil))) (ve_var (i := 20) rfl (by first | exact .inl rfl | exact .inr (.inl rfl) | exact .inr (.inr rfl)) (by decide +kernel) (by decide +kernel)) ⟨rfl, by decide +kernel, by change ∀ p : Str × Nat, p ∈ _ → N_law_library_drawn[p.2]? = _; decide +kernel, by change ∀ y : Str × NameKind, y ∈ _ → _ → (List.lookup y.1 (defScope s_law_library_drawn).names = _ ∨ List.lookup y.1 (defScope s_law_library_drawn).names = _); decide +kernel, by change ∀ y : Str × NameKind, y ∈ _ → _ → (_ ∨ y.1 ∉ N_law_library_drawn); decide +kernel⟩ (by decide +kernel) (by change ∀ j : Nat, j ∈ _ → (fun i => decide (i ∈ ([0, 1, 2, 3, 4, 5] : List Nat))) j = _; decide +kernel) (fun _ _ => rfl)) rfl (fun _ h => sw_cell h))
    (vss_cons (vs_set (i := 16) rfl (by first | exact .inl rfl | exact .inr rfl) rfl (ve_call (io := [true, false, false, false, false]) A_law_gives_drawn rfl (va_cons (ve_var (i := 0) rfl (by first | exact .inl rfl | exact .inr (.inl rfl) | exact .inr (.inr rfl)) (by decide +kernel) (by decide +kernel)) (va_cons (ve_var (i := 1) rfl (by first | exact .inl rfl | exact .inr (.inl rfl) | exact .inr (.inr rfl)) (by decide +kernel) (by decide +kernel)) (va_cons (ve_var (i := 3) rfl (by first | exact .inl rfl | exact .inr (.inl rfl) | exact .inr (.inr rfl)) (by decide +kernel) (by decide +kernel)) (va_cons (ve_var (i := 8) rfl (by first | exact .inl rfl | exact .inr (.inl rfl) | exact .inr (.inr rfl)) (by decide +kernel) (by decide +kernel)) (va_cons (ve_var (i := 5) rfl (by first | exact .inl rfl | exact .inr (.inl rfl) | exact .inr (.inr rfl)) (by decide +kernel) (by decide +kernel)) va_nil (fun _ => rfl)) (fun _ => rfl)) (fun _ => rfl)) (fun _ => rfl)) (fun _ => rfl)) (by decide +kernel) (fun _ => rfl) (fun _ => rfl)) (.inl rfl) (fun _ => rfl))
    (vss_cons (vs_setLc (own := [("turn", 7)]) (i := 17) rfl rfl rfl (vi_range (va_cons ve_int va_nil (fun _ => rfl)) rfl T.g_range (fun _ => rfl) (fun _ => rfl)) (vg_name (i := 7) rfl (by first | exact .inl rfl | exact .inr rfl) rfl (.inr rfl)) vts_nil (ve_call (io := [true, false, false, false]) A_law_rows_drawn rfl (va_cons (ve_var (i := 0) rfl (by first | exact .inl rfl | exact .inr (.inl rfl) | exact .inr (.inr rfl)) (by decide +kernel) (by decide +kernel)) (va_cons (ve_var (i := 1) rfl (by first | exact .inl rfl | exact .inr (.inl rfl) | exact .inr (.inr rfl)) (by decide +kernel) (by decide +kernel)) (va_cons (ve_var (i := 3) rfl (by first | exact .inl rfl | exact .inr (.inl rfl) | exact .inr (.inr rfl)) (by decide +kernel) (by decide +kernel)) (va_cons (ve_var (i := 8) rfl (by first | exact .inl rfl | exact .inr (.inl rfl) | exact .inr (.inr rfl)) (by decide +kernel) (by decide +kernel)) va_nil (fun _ => rfl)) (fun _ => rfl)) (fun _ => rfl)) (fun _ => rfl)) (by decide +kernel) (fun _ => rfl) (fun _ => rfl)) ⟨rfl, by decide +kernel, by change ∀ p : Str × Nat, p ∈ _ → N_law_library_drawn[p.2]? = _; decide +kernel, by change ∀ y : Str × NameKind, y ∈ _ → _ → (List.lookup y.1 (defScope s_law_library_drawn).names = _ ∨ List.lookup y.1 (defScope s_law_library_drawn).names = _); decide +kernel, by change ∀ y : Str × NameKind, y ∈ _ → _ → (_ ∨ y.1 ∉ N_law_library_drawn); decide +kernel⟩ (by decide +kernel) (by change ∀ j : Nat, j ∈ _ → (fun i => decide (i ∈ ([0, 1, 2, 3, 4, 5] : List Nat))) j = _; decide +kernel) (fun _ _ => rfl) rfl rfl (by decide +kernel))
    (vss_cons (vs_set (i := 18) rfl (by first | exact .inl rfl | exact .inr rfl) rfl (ve_callTy pn_tuple rfl T.g_tuple (by kernel_rfl) (va_cons (ve_lc (own := [("mark", 21)]) (vi_val (ve_lst (va_cons ve_str (va_cons ve_str (va_cons ve_str va_nil (fun _ => rfl)) (fun _ => rfl)) (fun _ => rfl)))) (vg_name (i := 21) rfl (by first | exact .inl rfl | exact .inr rfl) rfl (.inr rfl)) (vts_one (vt_cmp p2_eq (ve_call (io := [true, false]) A_law_take rfl (va_cons (ve_var (i := 0) rfl (by first | exact .inl rfl | exact .inr (.inl rfl) | exact .inr (.inr rfl)) (by decide +kernel) (by decide +kernel)) (va_cons ve_int va_nil (fun _ => rfl)) (fun _ => rfl)) (by decide +kernel) (fun _ => rfl) (fun _ => rfl)) ve_int (by with_unfolding_all rfl))) (ve_var (i := 21) rfl (by first | exact .inl rfl | exact .inr (.inl rfl) | exact .inr (.inr rfl)) (by decide +kernel) (by decide +kernel)) ⟨rfl, by decide +kernel, by change ∀ p : Str × Nat, p ∈ _ → N_law_library_drawn[p.2]? = _; decide +kernel, by change ∀ y : Str × NameKind, y ∈ _ → _ → (List.lookup y.1 (defScope s_law_library_drawn).names = _ ∨ List.lookup y.1 (defScope s_law_library_drawn).names = _); decide +kernel, by change ∀ y : Str × NameKind, y ∈ _ → _ → (_ ∨ y.1 ∉ N_law_library_drawn); decide +kernel⟩ (by decide +kernel) (by change ∀ j : Nat, j ∈ _ → (fun i => decide (i ∈ ([0, 1, 2, 3, 4, 5] : List Nat))) j = _; decide +kernel) (fun _ _ => rfl)) va_nil (fun _ => rfl)) (by decide +kernel) (by decide +kernel) (fun _ => rfl) (fun _ => rfl)) (.inl rfl) (fun _ => rfl))
    (vss_one (vs_ret (ve_tup (va_cons (ve_ix pix_GD (ve_var (i := 1) rfl (by first | exact .inl rfl | exact .inr (.inl rfl) | exact .inr (.inr rfl)) (by decide +kernel) (by decide +kernel)) (ve_var (i := 2) rfl (by first | exact .inl rfl | exact .inr (.inl rfl) | exact .inr (.inr rfl)) (by decide +kernel) (by decide +kernel)) (fun _ _ => rfl)) (va_cons (ve_callTy pn_tuple rfl T.g_tuple (by kernel_rfl) (va_cons (ve_slice (ve_var (i := 6) rfl (by first | exact .inl rfl | exact .inr (.inl rfl) | exact .inr (.inr rfl)) (by decide +kernel) (by decide +kernel)) vp_none (vp_some ve_int)) va_nil (fun _ => rfl)) (by decide +kernel) (by decide +kernel) (fun _ => rfl) (fun _ => rfl)) (va_cons (ve_var (i := 16) rfl (by first | exact .inl rfl | exact .inr (.inl rfl) | exact .inr (.inr rfl)) (by decide +kernel) (by decide +kernel)) (va_cons (ve_callTy pn_tuple rfl T.g_tuple (by kernel_rfl) (va_cons (ve_var (i := 8) rfl (by first | exact .inl rfl | exact .inr (.inl rfl) | exact .inr (.inr rfl)) (by decide +kernel) (by decide +kernel)) va_nil (fun _ => rfl)) (by decide +kernel) (by decide +kernel) (fun _ => rfl) (fun _ => rfl)) (va_cons (ve_ix pix_GD (ve_var (i := 17) rfl (by first | exact .inl rfl | exact .inr (.inl rfl) | exact .inr (.inr rfl)) (by decide +kernel) (by decide +kernel)) ve_int (fun _ _ => rfl)) (va_cons (ve_ix pix_GD (ve_var (i := 17) rfl (by first | exact .inl rfl | exact .inr (.inl rfl) | exact .inr (.inr rfl)) (by decide +kernel) (by decide +kernel)) ve_int (fun _ _ => rfl)) (va_cons (ve_var (i := 18) rfl (by first | exact .inl rfl | exact .inr (.inl rfl) | exact .inr (.inr rfl)) (by decide +kernel) (by decide +kernel)) va_nil (fun _ => rfl)) (fun _ => rfl)) (fun _ => rfl)) (fun _ => rfl)) (fun _ => rfl)) (fun _ => rfl)) (fun _ => rfl)))))))))))))
theorem sc_law_library_drawn : FnScope N_law_library_drawn ["feed", "names", "at", "words", "given", "tags"] (defScope s_law_library_drawn) := ⟨rfl, rfl, rfl, by decide +kernel, rfl, by decide +kernel, by decide +kernel⟩
/-! _law_shelf -/
def N_law_shelf : List Str := ["feed", "most", "many", "names", "words", "tags", "found", "given", "at", "cells", "give"]
def g_law_shelf : Act Flw := (seqA (setA 2 (defA 2 F_law_pick [true, false] [] (consA (var 0) (consA (lstA (consA (var 1) (consA (op2 addGT (cst (.int 1)) (defA 2 F_law_take [true, false] [] (consA (var 0) (consA (var 1) (Act.ret []))))) (Act.ret [])))) (Act.ret [])))))
    (seqA (setA 3 (defA 2 F_law_unlike [true, false] [] (consA (var 0) (consA (var 2) (Act.ret [])))))
    (seqA (setA 4 (defA 2 F_law_unlike [true, false] [] (consA (var 0) (consA (cst (.int 4)) (Act.ret [])))))
    (seqA (setA 5 (defA 2 F_law_unlike [true, false] [] (consA (var 0) (consA (cst (.int 2)) (Act.ret [])))))
    (seqA (setA 6 (lstA (Act.ret [])))
    (seqA (setA 7 (lstA (Act.ret [])))
    (seqA (Act.bnd (range3A (consA (op2 subG (callA lenD (consA (var 3) (Act.ret []))) (cst (.int 1))) (consA (op1 negE (cst (.int 1))) (consA (op1 negE (cst (.int 1))) (Act.ret []))))) (forA (tgName 8)
    (seqA (setA 6 (op2 addGT (lstA (consA (defA 6 F_law_library_drawn [true, false, false, false, false, false] [] (consA (var 0) (consA (var 3) (consA (var 8) (consA (var 4) (consA (var 7) (consA (var 5) (Act.ret [])))))))) (Act.ret []))) (var 6)))
    (seqA (setA 9 (lcA [10] (tgName 10) (testA (defA 1 F_law_whole [false] [] (consA (op2 ixGD (var 10) (cst (.int 4))) (Act.ret [])))) (var 10) (iterA (op2 ixGD (op2 ixGD (var 6) (cst (.int 0))) (cst (.int 2))))))
    (setA 7 (op2 addGT (var 7) (lcA [10] (tgName 10) (Act.ret true) (op2 addGT (slA (var 10) (Act.ret none) (partA (cst (.int 3)))) (tupA (consA (op2 ixGD (var 3) (var 8)) (Act.ret [])))) (iterA (var 9)))))))))
    (retA (fun i => decide (i < 2)) (callA tupleD (consA (var 6) (Act.ret [])))))))))))
def F_law_shelf : FD := runB 11 2 (fun i => decide (i ∈ ([0, 1] : List Nat))) g_law_shelf
abbrev c_law_shelf (S : Sta) : VS.Ctx := { toSta := S, N := N_law_shelf, sc := defScope s_law_shelf, lvl := 6, fnn := fun _ => true, ro := fun i => decide (i ∈ ([0, 1] : List Nat)), np := 2 }
theorem ok_law_shelf {S : Sta} (T : Txt S) (A_law_take : FnAt S 6 "_law_take" 2 F_law_take []) (A_law_pick : FnAt S 6 "_law_pick" 2 F_law_pick []) (A_law_unlike : FnAt S 6 "_law_unlike" 2 F_law_unlike []) (A_law_library_drawn : FnAt S 6 "_law_library_drawn" 6 F_law_library_drawn []) (A_law_whole : FnAt S 6 "_law_whole" 1 F_law_whole []) : VSs (c_law_shelf S) (defBody s_law_shelf) g_law_shelf :=
  (vss_cons (vs_set (i := 2) rfl (by first | exact .inl rfl | exact .inr rfl) rfl (ve_call (io := [true, false]) A_law_pick rfl (va_cons (ve_var (i := 0) rfl (by first | exact .inl rfl | exact .inr (.inl rfl) | exact .inr (.inr rfl)) (by decide +kernel) (by decide +kernel)) (va_cons (ve_lst (va_cons (ve_var (i := 1) rfl (by first | exact .inl rfl | exact .inr (.inl rfl) | exact .inr (.inr rfl)) (by decide +kernel) (by decide +kernel)) (va_cons (ve_binop p2_addT ve_int (ve_call (io := [true, false]) A_law_take rfl (va_cons (ve_var (i := 0) rfl (by first | exact .inl rfl | exact .inr (.inl rfl) | exact .inr (.inr rfl)) (by decide +kernel) (by decide +kernel)) (va_cons (ve_var (i := 1) rfl (by first | exact .inl rfl | exact .inr (.inl rfl) | exact .inr (.inr rfl)) (by decide +kernel) (by decide +kernel)) va_nil (fun _ => rfl)) (fun _ => rfl)) (by decide +kernel) (fun _ => rfl) (fun _ => rfl))) va_nil (fun _ => rfl)) (fun _ => rfl))) va_nil (fun _ => rfl)) (fun _ => rfl)) (by decide +kernel) (fun _ => rfl) (fun _ => rfl)) (.inl rfl) (fun _ => rfl))
    (vss_cons (vs_set (i := 3) rfl (by first | exact .inl rfl | exact .inr rfl) rfl (ve_call (io := [true, false]) A_law_unlike rfl (va_cons (ve_var (i := 0) rfl (by first | exact .inl rfl | exact .inr (.inl rfl) | exact .inr (.inr rfl)) (by decide +kernel) (by decide +kernel)) (va_cons (ve_var (i := 2) rfl (by first | exact .inl rfl | exact .inr (.inl rfl) | exact .inr (.inr rfl)) (by decide +kernel) (by decide +kernel)) va_nil (fun _ => rfl)) (fun _ => rfl)) (by decide +kernel) (fun _ => rfl) (fun _ => rfl)) (.inl rfl) (fun _ => rfl))
    (vss_cons (vs_set (i := 4) rfl (by first | exact .inl rfl | exact .inr rfl) rfl (ve_call (io := [true, false]) A_law_unlike rfl (va_cons (ve_var (i := 0) rfl (by first | exact .inl rfl | exact .inr (.inl rfl) | exact .inr (.inr rfl)) (by decide +kernel) (by decide +kernel)) (va_cons ve_int va_nil (fun _ => rfl)) (fun _ => rfl)) (by decide +kernel) (fun _ => rfl) (fun _ => rfl)) (.inl rfl) (fun _ => rfl))
    (vss_cons (vs_set (i := 5) rfl (by first | exact .inl rfl | exact .inr rfl) rfl (ve_call (io := [true, false]) A_law_unlike rfl (va_cons (ve_var (i := 0) rfl (by first | exact .inl rfl | exact .inr (.inl rfl) | exact .inr (.inr rfl)) (by decide +kernel) (by decide +kernel)) (va_cons ve_int va_nil (fun _ => rfl)) (fun _ => rfl)) (by decide +kernel) (fun _ => rfl) (fun _ => rfl)) (.inl rfl) (fun _ => rfl))
    (vss_cons (vs_set (i := 6) rfl (by first | exact .inl rfl | exact .inr rfl) rfl (ve_lst va_nil) (.inl rfl) (fun _ => rfl))
    (vss_cons (vs_set (i := 7) rfl (by first | exact .inl rfl | exact .inr rfl) rfl (ve_lst va_nil) (.inl rfl) (fun _ => rfl))
    (vss_cons (vs_for (vi_range3 (va_cons (ve_binop p2_sub (ve_callB pn_len rfl T.g_len (by kernel_rfl) (va_cons (ve_var (i := 3) rfl (by first | exact .inl rfl | exact .inr (.inl rfl) | exact .inr (.inr rfl)) (by decide +kernel) (by decide +kernel)) va_nil (fun _ => rfl)) (by decide +kernel) (by decide +kernel) (fun _ => rfl) (fun _ => rfl)) ve_int) (va_cons (ve_neg ve_int) (va_cons (ve_neg ve_int) va_nil (fun _ => rfl)) (fun _ => rfl)) (fun _ => rfl)) rfl T.g_range (fun _ => rfl) (fun _ => rfl)) (vg_name (i := 8) rfl (by first | exact .inl rfl | exact .inr rfl) rfl (.inl rfl))
    (vss_cons (vs_set (i := 6) rfl (by first | exact .inl rfl | exact .inr rfl) rfl (ve_binop p2_addT (ve_lst (va_cons (ve_call (io := [true, false, false, false, false, false]) A_law_library_drawn rfl (va_cons (ve_var (i := 0) rfl (by first | exact .inl rfl | exact .inr (.inl rfl) | exact .inr (.inr rfl)) (by decide +kernel) (by decide +kernel)) (va_cons (ve_var (i := 3) rfl (by first | exact .inl rfl | exact .inr (.inl rfl) | exact .inr (.inr rfl)) (by decide +kernel) (by decide +kernel)) (va_cons (ve_var (i := 8) rfl (by first | exact .inl rfl | exact .inr (.inl rfl) | exact .inr (.inr rfl)) (by decide +kernel) (by decide +kernel)) (va_cons (ve_var (i := 4) rfl (by first | exact .inl rfl | exact .inr (.inl rfl) | exact .inr (.inr rfl)) (by decide +kernel) (by decide +kernel)) (va_cons (ve_var (i := 7) rfl (by first | exact .inl rfl | exact .inr (.inl rfl) | exact .inr (.inr rfl)) (by decide +kernel) (by decide +kernel)) (va_cons (ve_var (i := 5) rfl (by first | exact .inl rfl | exact .inr (.inl rfl) | exact .inr (.inr rfl)) (by decide +kernel) (by decide +kernel)) va_nil (fun _ => rfl)) (fun _ => rfl)) (fun _ => rfl)) (fun _ => rfl)) (fun _ => rfl)) (fun _ => rfl)) (by decide +kernel) (fun _ => rfl) (fun _ => rfl)) va_nil (fun _ => rfl))) (ve_var (i := 6) rfl (by first | exact .inl rfl | exact .inr (.inl rfl) | exact .inr (.inr rfl)) (by decide +kernel) (by decide +kernel))) (.inl rfl) (fun _ => rfl))
    (vss_cons (vs_setLc (own := [("give", 10)]) (i := 9) rfl rfl rfl (vi_val (ve_ix pix_GD (ve_ix pix_GD (ve_var (i := 6) rfl (by first | exact .inl rfl | exact .inr (.inl rfl) | exact .inr (.inr rfl)) (by decide +kernel) (by decide +kernel)) ve_int (fun _ _ => rfl)) ve_int (fun _ _ => rfl))) (vg_name (i := 10) rfl (by first | exact .inl rfl | exact .inr rfl) rfl (.inr rfl)) (vts_one (vt_plain (ve_call (io := [false]) A_law_whole rfl (va_cons (ve_ix pix_GD (ve_var (i := 10) rfl (by first | exact .inl rfl | exact .inr (.inl rfl) | exact .inr (.inr rfl)) (by decide +kernel) (by decide +kernel)) ve_int (fun _ _ => rfl)) va_nil (fun _ => rfl)) (by decide +kernel) (fun _ => rfl) (fun _ => rfl)) (fun _ _ _ h => nomatch h) (fun _ _ => rfl))) (ve_var (i := 10) rfl (by first | exact .inl rfl | exact .inr (.inl rfl) | exact .inr (.inr rfl)) (by decide +kernel) (by decide +kernel)) ⟨rfl, by decide +kernel, by change ∀ p : Str × Nat, p ∈ _ → N_law_shelf[p.2]? = _; decide +kernel, by change ∀ y : Str × NameKind, y ∈ _ → _ → (List.lookup y.1 (defScope s_law_shelf).names = _ ∨ List.lookup y.1 (defScope s_law_shelf).names = _); decide +kernel, by change ∀ y : Str × NameKind, y ∈ _ → _ → (_ ∨ y.1 ∉ N_law_shelf); decide +kernel⟩ (by decide +kernel) (by change ∀ j : Nat, j ∈ _ → (fun i => decide (i ∈ ([0, 1] : List Nat))) j = _; decide +kernel) (fun _ _ => rfl) rfl rfl (by decide +kernel))
    (vss_one (vs_set (i := 7) rfl (by first | exact .inl rfl | exact .inr rfl) rfl (ve_binop p2_addT (ve_var (i := 7) rfl (by first | exact .inl rfl | exact .inr (.inl rfl) | exact .inr (.inr rfl)) (by decide +kernel) (by decide +kernel)) (ve_lc (own := [("give", 10)]) (vi_val (ve_var (i := 9) rfl (by first | exact .inl rfl | exact .inr (.inl rfl) | exact .inr (.inr rfl)) (by decide +kernel) (by decide +kernel))) (vg_name (i := 10) rfl (by first | exact .inl rfl | exact .inr rfl) rfl (.inr rfl)) vts_nil (ve_binop p2_addT (ve_slice (ve_var (i := 10) rfl (by first | exact .inl rfl | exact .inr (.inl rfl) | exact .inr (.inr rfl)) (by decide +kernel) (by decide +kernel)) vp_none (vp_some ve_int)) (ve_tup (va_cons (ve_ix pix_GD (ve_var (i := 3) rfl (by first | exact .inl rfl | exact .inr (.inl rfl) | exact .inr (.inr rfl)) (by decide +kernel) (by decide +kernel)) (ve_var (i := 8) rfl (by first | exact .inl rfl | exact .inr (.inl rfl) | exact .inr (.inr rfl)) (by decide +kernel) (by decide +kernel)) (fun _ _ => rfl)) va_nil (fun _ => rfl)))) ⟨rfl, by decide +kernel, by change ∀ p : Str × Nat, p ∈ _ → N_law_shelf[p.2]? = _; decide +kernel, by change ∀ y : Str × NameKind, y ∈ _ → _ → (List.lookup y.1 (defScope s_law_shelf).names = _ ∨ List.lookup y.1 (defScope s_law_shelf).names = _); decide +kernel, by change ∀ y : Str × NameKind, y ∈ _ → _ → (_ ∨ y.1 ∉ N_law_shelf); decide +kernel⟩ (by decide +kernel) (by change ∀ j : Nat, j ∈ _ → (fun i => decide (i ∈ ([0, 1] : List Nat))) j = _; decide +kernel) (fun _ _ => rfl))) (.inl rfl) (fun _ => rfl))))) (fun _ _ => rfl))
    (vss_one (vs_ret (ve_callTy pn_tuple rfl T.g_tuple (by kernel_rfl) (va_cons (ve_var (i := 6) rfl (by first | exact .inl rfl | exact .inr (.inl rfl) | exact .inr (.inr rfl)) (by decide +kernel) (by decide +kernel)) va_nil (fun _ => rfl)) (by decide +kernel) (by decide +kernel) (fun _ => rfl) (fun _ => rfl)))))))))))
theorem sc_law_shelf : FnScope N_law_shelf ["feed", "most"] (defScope s_law_shelf) := ⟨rfl, rfl, rfl, by decide +kernel, rfl, by decide +kernel, by decide +kernel⟩
/-! chain_of -/
def N_chain_of : List Str := ["library", "buckets", "place", "k", "give"]
def g_chain_of : Act Flw := (retA (fun i => decide (i < 3)) (callA tupleD (consA (lcA [3, 4] (tgTup 2 (tgCons (tgName 3) (tgCons (tgName 4) tgNil))) (testA (op2 eqE (op2 modG (defA 1 F_word_number [false] [] (consA (op2 ixGD (var 4) (cst (.int 0))) (Act.ret []))) (var 1)) (var 2))) (var 3) (enumA (consA (op2 ixGD (var 0) (cst (.int 2))) (Act.ret [])))) (Act.ret []))))
def F_chain_of : FD := runB 5 3 (fun i => decide (i ∈ ([0, 1, 2] : List Nat))) g_chain_of
abbrev c_chain_of (S : Sta) : VS.Ctx := { toSta := S, N := N_chain_of, sc := defScope s_chain_of, lvl := 1, fnn := fun _ => true, ro := fun i => decide (i ∈ ([0, 1, 2] : List Nat)), np := 3 }
theorem ok_chain_of {S : Sta} (T : Txt S) (A_word_number : FnAt S 1 "word_number" 1 F_word_number []) : VSs (c_chain_of S) (defBody s_chain_of) g_chain_of :=
  (vss_one (vs_ret (ve_callTy pn_tuple rfl T.g_tuple (by kernel_rfl) (va_cons (ve_lc (own := [("k", 3), ("give", 4)]) (vi_enum (va_cons (ve_ix pix_GD (ve_var (i := 0) rfl (by first | exact .inl rfl | exact .inr (.inl rfl) | exact .inr (.inr rfl)) (by decide +kernel) (by decide +kernel)) ve_int (fun _ _ => rfl)) va_nil (fun _ => rfl)) rfl T.g_enumerate (fun _ => rfl) (fun _ => rfl)) (vg_tup (n := 2) (vgs_cons (vg_name (i := 3) rfl (by first | exact .inl rfl | exact .inr rfl) rfl (.inr rfl)) (vgs_cons (vg_name (i := 4) rfl (by first | exact .inl rfl | exact .inr rfl) rfl (.inr rfl)) vgs_nil (fun _ => rfl)) (fun _ => rfl)) (fun _ => rfl) (fun _ => rfl)) (vts_one (vt_cmp p2_eq (ve_binop p2_mod (ve_call (io := [false]) A_word_number rfl (va_cons (ve_ix pix_GD (ve_var (i := 4) rfl (by first | exact .inl rfl | exact .inr (.inl rfl) | exact .inr (.inr rfl)) (by decide +kernel) (by decide +kernel)) ve_int (fun _ _ => rfl)) va_nil (fun _ => rfl)) (by decide +kernel) (fun _ => rfl) (fun _ => rfl)) (ve_var (i := 1) rfl (by first | exact .inl rfl | exact .inr (.inl rfl) | exact .inr (.inr rfl)) (by decide +kernel) (by decide +kernel))) (ve_var (i := 2) rfl (by first | exact .inl rfl | exact .inr (.inl rfl) | exact .inr (.inr rfl)) (by decide +kernel) (by decide +kernel)) (by with_unfolding_all rfl))) (ve_var (i := 3) rfl (by first | exact .inl rfl | exact .inr (.inl rfl) | exact .inr (.inr rfl)) (by decide +kernel) (by decide +kernel)) ⟨rfl, by decide +kernel, by change ∀ p : Str × Nat, p ∈ _ → N_chain_of[p.2]? = _; decide +kernel, by change ∀ y : Str × NameKind, y ∈ _ → _ → (List.lookup y.1 (defScope s_chain_of).names = _ ∨ List.lookup y.1 (defScope s_chain_of).names = _); decide +kernel, by change ∀ y : Str × NameKind, y ∈ _ → _ → (_ ∨ y.1 ∉ N_chain_of); decide +kernel⟩ (by decide +kernel) (by change ∀ j : Nat, j ∈ _ → (fun i => decide (i ∈ ([0, 1, 2] : List Nat))) j = _; decide +kernel) (fun _ _ => rfl)) va_nil (fun _ => rfl)) (by decide +kernel) (by decide +kernel) (fun _ => rfl) (fun _ => rfl))))
theorem sc_chain_of : FnScope N_chain_of ["library", "buckets", "place"] (defScope s_chain_of) := ⟨rfl, rfl, rfl, by decide +kernel, rfl, by decide +kernel, by decide +kernel⟩
/-! bits_of -/
def N_bits_of : List Str := ["word", "width", "number"]
def g_bits_of : Act Flw := (seqA (setA 2 (defA 1 F_word_number [false] [] (consA (var 0) (Act.ret []))))
    (retA (fun i => decide (i < 2)) (callA sortG (consA (setW (op2 modG (var 2) (var 1)) (op2 modG (op2 divG (var 2) (cst (.int 32))) (var 1))) (Act.ret [])))))
def F_bits_of : FD := runB 3 2 (fun i => decide (i ∈ ([0, 1] : List Nat))) g_bits_of
abbrev c_bits_of (S : Sta) : VS.Ctx := { toSta := S, N := N_bits_of, sc := defScope s_bits_of, lvl := 1, fnn := fun _ => true, ro := fun i => decide (i ∈ ([0, 1] : List Nat)), np := 2 }
theorem ok_bits_of {S : Sta} (T : Txt S) (A_word_number : FnAt S 1 "word_number" 1 F_word_number []) : VSs (c_bits_of S) (defBody s_bits_of) g_bits_of :=
  (vss_cons (vs_set (i := 2) rfl (by first | exact .inl rfl | exact .inr rfl) rfl (ve_call (io := [false]) A_word_number rfl (va_cons (ve_var (i := 0) rfl (by first | exact .inl rfl | exact .inr (.inl rfl) | exact .inr (.inr rfl)) (by decide +kernel) (by decide +kernel)) va_nil (fun _ => rfl)) (by decide +kernel) (fun _ => rfl) (fun _ => rfl)) (.inl rfl) (fun _ => rfl))
    (vss_one (vs_ret (ve_callB pn_sortG rfl T.g_sorted (by kernel_rfl) (va_cons (ve_set2 (ve_binop p2_mod (ve_var (i := 2) rfl (by first | exact .inl rfl | exact .inr (.inl rfl) | exact .inr (.inr rfl)) (by decide +kernel) (by decide +kernel)) (ve_var (i := 1) rfl (by first | exact .inl rfl | exact .inr (.inl rfl) | exact .inr (.inr rfl)) (by decide +kernel) (by decide +kernel))) (ve_binop p2_mod (ve_binop p2_div (ve_var (i := 2) rfl (by first | exact .inl rfl | exact .inr (.inl rfl) | exact .inr (.inr rfl)) (by decide +kernel) (by decide +kernel)) (ve_glob (v := .int 32) rfl T.g_NEXT.choose_spec ⟨_, rfl⟩ (fun _ _ => .int _) (by decide +kernel))) (ve_var (i := 1) rfl (by first | exact .inl rfl | exact .inr (.inl rfl) | exact .inr (.inr rfl)) (by decide +kernel) (by decide +kernel))) (fun _ => rfl)) va_nil (fun _ => rfl)) (by decide +kernel) (by decide +kernel) (fun _ => rfl) (fun _ => rfl)))))
theorem sc_bits_of : FnScope N_bits_of ["word", "width"] (defScope s_bits_of) := ⟨rfl, rfl, rfl, by decide +kernel, rfl, by decide +kernel, by decide +kernel⟩
/-! sieve_of -/
def N_sieve_of : List Str := ["library", "width", "found", "bit", "give"]
def g_sieve_of : Act Flw := (seqA (setA 2 (cst (.int 0)))
    (seqA (Act.bnd (iterA (callA sortG (consA (twS [4, 3] (tgName 4) (Act.ret true) (iterA (defA 2 F_bits_of [false, false] [] (consA (op2 ixGD (var 4) (cst (.int 0))) (consA (var 1) (Act.ret []))))) (tgName 3) (Act.ret true) (var 3) (iterA (op2 ixGD (var 0) (cst (.int 2))))) (Act.ret [])))) (forA (tgName 3)
    (setA 2 (op2 borG (var 2) (op2 shlG (cst (.int 1)) (var 3))))))
    (retA (fun i => decide (i < 2)) (var 2))))
def F_sieve_of : FD := runB 5 2 (fun i => decide (i ∈ ([0, 1] : List Nat))) g_sieve_of
abbrev c_sieve_of (S : Sta) : VS.Ctx := { toSta := S, N := N_sieve_of, sc := defScope s_sieve_of, lvl := 2, fnn := fun _ => true, ro := fun i => decide (i ∈ ([0, 1] : List Nat)), np := 2 }
theorem ok_sieve_of {S : Sta} (T : Txt S) (A_bits_of : FnAt S 2 "bits_of" 2 F_bits_of []) : VSs (c_sieve_of S) (defBody s_sieve_of) g_sieve_of :=
  (vss_cons (vs_set (i := 2) rfl (by first | exact .inl rfl | exact .inr rfl) rfl ve_int (.inl rfl) (fun _ => rfl))
    (vss_cons (vs_for (vi_val (ve_callB pn_sortG rfl T.g_sorted (by kernel_rfl) (va_cons (ve_ts (own := [("give", 4), ("bit", 3)]) (vi_val (ve_ix pix_GD (ve_var (i := 0) rfl (by first | exact .inl rfl | exact .inr (.inl rfl) | exact .inr (.inr rfl)) (by decide +kernel) (by decide +kernel)) ve_int (fun _ _ => rfl))) (vg_name (i := 4) rfl (by first | exact .inl rfl | exact .inr rfl) rfl (.inr rfl)) vts_nil (vi_val (ve_call (io := [false, false]) A_bits_of rfl (va_cons (ve_ix pix_GD (ve_var (i := 4) rfl (by first | exact .inl rfl | exact .inr (.inl rfl) | exact .inr (.inr rfl)) (by decide +kernel) (by decide +kernel)) ve_int (fun _ _ => rfl)) (va_cons (ve_var (i := 1) rfl (by first | exact .inl rfl | exact .inr (.inl rfl) | exact .inr (.inr rfl)) (by decide +kernel) (by decide +kernel)) va_nil (fun _ => rfl)) (fun _ => rfl)) (by decide +kernel) (fun _ => rfl) (fun _ => rfl))) (vg_name (i := 3) rfl (by first | exact .inl rfl | exact .inr rfl) rfl (.inr rfl)) vts_nil (ve_var (i := 3) rfl (by first | exact .inl rfl | exact .inr (.inl rfl) | exact .inr (.inr rfl)) (by decide +kernel) (by decide +kernel)) ⟨rfl, by decide +kernel, by change ∀ p : Str × Nat, p ∈ _ → N_sieve_of[p.2]? = _; decide +kernel, by change ∀ y : Str × NameKind, y ∈ _ → _ → (List.lookup y.1 (defScope s_sieve_of).names = _ ∨ List.lookup y.1 (defScope s_sieve_of).names = _); decide +kernel, by change ∀ y : Str × NameKind, y ∈ _ → _ → (_ ∨ y.1 ∉ N_sieve_of); decide +kernel⟩ (by decide +kernel) (by decide +kernel) (by change ∀ j : Nat, j ∈ _ → (fun i => decide (i ∈ ([0, 1] : List Nat))) j = _; decide +kernel) (fun _ _ => rfl) (fun _ _ => rfl)) va_nil (fun _ => rfl)) (by decide +kernel) (by decide +kernel) (fun _ => rfl) (fun _ => rfl))) (vg_name (i := 3) rfl (by first | exact .inl rfl | exact .inr rfl) rfl (.inl rfl))
    (vss_one (vs_aug (i := 2) i2_or rfl (by first | exact .inl rfl | exact .inr rfl) rfl (ve_binop p2_shl ve_int (ve_var (i := 3) rfl (by first | exact .inl rfl | exact .inr (.inl rfl) | exact .inr (.inr rfl)) (by decide +kernel) (by decide +kernel))) (.inl rfl))) (fun _ _ => rfl))
    (vss_one (vs_ret (ve_var (i := 2) rfl (by first | exact .inl rfl | exact .inr (.inl rfl) | exact .inr (.inr rfl)) (by decide +kernel) (by decide +kernel))))))
theorem sc_sieve_of : FnScope N_sieve_of ["library", "width"] (defScope s_sieve_of) := ⟨rfl, rfl, rfl, by decide +kernel, rfl, by decide +kernel, by decide +kernel⟩
/-! table_of -/
def N_table_of : List Str := ["library", "buckets", "width", "chains", "place"]
def g_table_of : Act Flw := (seqA (setA 3 (callA tupleD (consA (lcA [4] (tgName 4) (Act.ret true) (defA 3 F_chain_of [false, false, false] [] (consA (var 0) (consA (var 1) (consA (var 4) (Act.ret []))))) (rangeA (consA (var 1) (Act.ret [])))) (Act.ret []))))
    (retA (fun i => decide (i < 3)) (tupA (consA (var 1) (consA (var 2) (consA (var 3) (consA (defA 2 F_sieve_of [false, false] [] (consA (var 0) (consA (var 2) (Act.ret [])))) (Act.ret []))))))))
def F_table_of : FD := runB 5 3 (fun i => decide (i ∈ ([0, 1, 2] : List Nat))) g_table_of
abbrev c_table_of (S : Sta) : VS.Ctx := { toSta := S, N := N_table_of, sc := defScope s_table_of, lvl := 3, fnn := fun _ => true, ro := fun i => decide (i ∈ ([0, 1, 2] : List Nat)), np := 3 }
theorem ok_table_of {S : Sta} (T : Txt S) (A_chain_of : FnAt S 3 "chain_of" 3 F_chain_of []) (A_sieve_of : FnAt S 3 "sieve_of" 2 F_sieve_of []) : VSs (c_table_of S) (defBody s_table_of) g_table_of :=
  (vss_cons (vs_set (i := 3) rfl (by first | exact .inl rfl | exact .inr rfl) rfl (ve_callTy pn_tuple rfl T.g_tuple (by kernel_rfl) (va_cons (ve_lc (own := [("place", 4)]) (vi_range (va_cons (ve_var (i := 1) rfl (by first | exact .inl rfl | exact .inr (.inl rfl) | exact .inr (.inr rfl)) (by decide +kernel) (by decide +kernel)) va_nil (fun _ => rfl)) rfl T.g_range (fun _ => rfl) (fun _ => rfl)) (vg_name (i := 4) rfl (by first | exact .inl rfl | exact .inr rfl) rfl (.inr rfl)) vts_nil (ve_call (io := [false, false, false]) A_chain_of rfl (va_cons (ve_var (i := 0) rfl (by first | exact .inl rfl | exact .inr (.inl rfl) | exact .inr (.inr rfl)) (by decide +kernel) (by decide +kernel)) (va_cons (ve_var (i := 1) rfl (by first | exact .inl rfl | exact .inr (.inl rfl) | exact .inr (.inr rfl)) (by decide +kernel) (by decide +kernel)) (va_cons (ve_var (i := 4) rfl (by first | exact .inl rfl | exact .inr (.inl rfl) | exact .inr (.inr rfl)) (by decide +kernel) (by decide +kernel)) va_nil (fun _ => rfl)) (fun _ => rfl)) (fun _ => rfl)) (by decide +kernel) (fun _ => rfl) (fun _ => rfl)) ⟨rfl, by decide +kernel, by change ∀ p : Str × Nat, p ∈ _ → N_table_of[p.2]? = _; decide +kernel, by change ∀ y : Str × NameKind, y ∈ _ → _ → (List.lookup y.1 (defScope s_table_of).names = _ ∨ List.lookup y.1 (defScope s_table_of).names = _); decide +kernel, by change ∀ y : Str × NameKind, y ∈ _ → _ → (_ ∨ y.1 ∉ N_table_of); decide +kernel⟩ (by decide +kernel) (by change ∀ j : Nat, j ∈ _ → (fun i => decide (i ∈ ([0, 1, 2] : List Nat))) j = _; decide +kernel) (fun _ _ => rfl)) va_nil (fun _ => rfl)) (by decide +kernel) (by decide +kernel) (fun _ => rfl) (fun _ => rfl)) (.inl rfl) (fun _ => rfl))
    (vss_one (vs_ret (ve_tup (va_cons (ve_var (i := 1) rfl (by first | exact .inl rfl | exact .inr (.inl rfl) | exact .inr (.inr rfl)) (by decide +kernel) (by decide +kernel)) (va_cons (ve_var (i := 2) rfl (by first | exact .inl rfl | exact .inr (.inl rfl) | exact .inr (.inr rfl)) (by decide +kernel) (by decide +kernel)) (va_cons (ve_var (i := 3) rfl (by first | exact .inl rfl | exact .inr (.inl rfl) | exact .inr (.inr rfl)) (by decide +kernel) (by decide +kernel)) (va_cons (ve_call (io := [false, false]) A_sieve_of rfl (va_cons (ve_var (i := 0) rfl (by first | exact .inl rfl | exact .inr (.inl rfl) | exact .inr (.inr rfl)) (by decide +kernel) (by decide +kernel)) (va_cons (ve_var (i := 2) rfl (by first | exact .inl rfl | exact .inr (.inl rfl) | exact .inr (.inr rfl)) (by decide +kernel) (by decide +kernel)) va_nil (fun _ => rfl)) (fun _ => rfl)) (by decide +kernel) (fun _ => rfl) (fun _ => rfl)) va_nil (fun _ => rfl)) (fun _ => rfl)) (fun _ => rfl)) (fun _ => rfl))))))
theorem sc_table_of : FnScope N_table_of ["library", "buckets", "width"] (defScope s_table_of) := ⟨rfl, rfl, rfl, by decide +kernel, rfl, by decide +kernel, by decide +kernel⟩
/-! _law_table -/
def N_law_table : List Str := ["library", "many", "span", "gives", "numbers", "rows", "at", "some", "bits", "give", "bit", "k"]
def g_law_table : Act Flw := (seqA (setA 3 (op2 ixGD (var 0) (cst (.int 2))))
    (seqA (setA 4 (lcA [9] (tgName 9) (Act.ret true) (defA 1 F_law_of_word [false] [] (consA (op2 ixGD (var 9) (cst (.int 0))) (Act.ret []))) (iterA (var 3))))
    (seqA (setA 5 (lstA (Act.ret [])))
    (seqA (Act.bnd (rangeA (consA (var 1) (Act.ret []))) (forA (tgName 6)
    (seqA (setA 7 (lcA [11] (tgName 11) (testA (op2 eqE (op2 modG (op2 ixGD (var 4) (var 11)) (var 1)) (var 6))) (var 11) (rangeA (consA (callA lenD (consA (var 3) (Act.ret []))) (Act.ret [])))))
    (dropA (muA "list" appendM (var 5) (consA (callA tupleD (consA (var 7) (Act.ret []))) (Act.ret [])))))))
    (seqA (setA 8 (lstA (Act.ret [])))
    (seqA (Act.bnd (iterA (var 3)) (forA (tgName 9)
    (Act.bnd (iterA (lstA (consA (op2 modG (defA 1 F_law_of_word [false] [] (consA (op2 ixGD (var 9) (cst (.int 0))) (Act.ret []))) (var 2)) (consA (op2 modG (op2 divG (defA 1 F_law_of_word [false] [] (consA (op2 ixGD (var 9) (cst (.int 0))) (Act.ret []))) (cst (.int 32))) (var 2)) (Act.ret []))))) (forA (tgName 10)
    (setA 8 (op2 addGT (var 8) (mulLA (lstA (consA (var 10) (Act.ret []))) (callA intG (consA (op2 ninGD (var 10) (var 8)) (Act.ret []))))))))))
    (retA (fun i => decide (i < 3)) (tupA (consA (var 1) (consA (var 2) (consA (callA tupleD (consA (var 5) (Act.ret []))) (consA (callA sumD (consA (lcA [10] (tgName 10) (Act.ret true) (op2 shlG (cst (.int 1)) (var 10)) (iterA (var 8))) (Act.ret []))) (Act.ret [])))))))))))))
def F_law_table : FD := runB 12 3 (fun i => decide (i ∈ ([0, 1, 2] : List Nat))) g_law_table
abbrev c_law_table (S : Sta) : VS.Ctx := { toSta := S, N := N_law_table, sc := defScope s_law_table, lvl := 1, fnn := fun _ => true, ro := fun i => decide (i ∈ ([0, 1, 2] : List Nat)), np := 3 }
theorem ok_law_table {S : Sta} (T : Txt S) (A_law_of_word : FnAt S 1 "_law_of_word" 1 F_law_of_word []) : VSs (c_law_table S) (defBody s_law_table) g_law_table :=
  (vss_cons (vs_set (i := 3) rfl (by first | exact .inl rfl | exact .inr rfl) rfl (ve_ix pix_GD (ve_var (i := 0) rfl (by first | exact .inl rfl | exact .inr (.inl rfl) | exact .inr (.inr rfl)) (by decide +kernel) (by decide +kernel)) ve_int (fun _ _ => rfl)) (.inl rfl) (fun _ => rfl))
    (vss_cons (vs_setC (i := 4) rfl rfl rfl (ve_lc (own := [("give", 9)]) (vi_val (ve_var (i := 3) rfl (by first | exact .inl rfl | exact .inr (.inl rfl) | exact .inr (.inr rfl)) (by decide +kernel) (by decide +kernel))) (vg_name (i := 9) rfl (by first | exact .inl rfl | exact .inr rfl) rfl (.inr rfl)) vts_nil (ve_call (io := [false]) A_law_of_word rfl (va_cons (ve_ix pix_GD (ve_var (i := 9) rfl (by first | exact .inl rfl | exact .inr (.inl rfl) | exact .inr (.inr rfl)) (by decide +kernel) (by decide +kernel)) ve_int (fun _ _ => rfl)) va_nil (fun _ => rfl)) (by decide +kernel) (fun _ => rfl) (fun _ => rfl)) ⟨rfl, by decide +kernel, by change ∀ p : Str × Nat, p ∈ _ → N_law_table[p.2]? = _; decide +kernel, by change ∀ y : Str × NameKind, y ∈ _ → _ → (List.lookup y.1 (defScope s_law_table).names = _ ∨ List.lookup y.1 (defScope s_law_table).names = _); decide +kernel, by change ∀ y : Str × NameKind, y ∈ _ → _ → (_ ∨ y.1 ∉ N_law_table); decide +kernel⟩ (by decide +kernel) (by change ∀ j : Nat, j ∈ _ → (fun i => decide (i ∈ ([0, 1, 2] : List Nat))) j = _; decide +kernel) (fun _ _ => rfl)) rfl (fun _ h => sw_cell h))
    (vss_cons (vs_set (i := 5) rfl (by first | exact .inl rfl | exact .inr rfl) rfl (ve_lst va_nil) (.inl rfl) (fun _ => rfl))
    (vss_cons (vs_for (vi_range (va_cons (ve_var (i := 1) rfl (by first | exact .inl rfl | exact .inr (.inl rfl) | exact .inr (.inr rfl)) (by decide +kernel) (by decide +kernel)) va_nil (fun _ => rfl)) rfl T.g_range (fun _ => rfl) (fun _ => rfl)) (vg_name (i := 6) rfl (by first | exact .inl rfl | exact .inr rfl) rfl (.inl rfl))
    (vss_cons (vs_setLc (own := [("k", 11)]) (i := 7) rfl rfl rfl (vi_range (va_cons (ve_callB pn_len rfl T.g_len (by kernel_rfl) (va_cons (ve_var (i := 3) rfl (by first | exact .inl rfl | exact .inr (.inl rfl) | exact .inr (.inr rfl)) (by decide +kernel) (by decide +kernel)) va_nil (fun _ => rfl)) (by decide +kernel) (by decide +kernel) (fun _ => rfl) (fun _ => rfl)) va_nil (fun _ => rfl)) rfl T.g_range (fun _ => rfl) (fun _ => rfl)) (vg_name (i := 11) rfl (by first | exact .inl rfl | exact .inr rfl) rfl (.inr rfl)) (vts_one (vt_cmp p2_eq (ve_binop p2_mod (ve_ix pix_GD (ve_var (i := 4) rfl (by first | exact .inl rfl | exact .inr (.inl rfl) | exact .inr (.inr rfl)) (by decide +kernel) (by decide +kernel)) (ve_var (i := 11) rfl (by first | exact .inl rfl | exact .inr (.inl rfl) | exact .inr (.inr rfl)) (by decide +kernel) (by decide +kernel)) (fun _ _ => rfl)) (ve_var (i := 1) rfl (by first | exact .inl rfl | exact .inr (.inl rfl) | exact .inr (.inr rfl)) (by decide +kernel) (by decide +kernel))) (ve_var (i := 6) rfl (by first | exact .inl rfl | exact .inr (.inl rfl) | exact .inr (.inr rfl)) (by decide +kernel) (by decide +kernel)) (by with_unfolding_all rfl))) (ve_var (i := 11) rfl (by first | exact .inl rfl | exact .inr (.inl rfl) | exact .inr (.inr rfl)) (by decide +kernel) (by decide +kernel)) ⟨rfl, by decide +kernel, by change ∀ p : Str × Nat, p ∈ _ → N_law_table[p.2]? = _; decide +kernel, by change ∀ y : Str × NameKind, y ∈ _ → _ → (List.lookup y.1 (defScope s_law_table).names = _ ∨ List.lookup y.1 (defScope s_law_table).names = _); decide +kernel, by change ∀ y : Str × NameKind, y ∈ _ → _ → (_ ∨ y.1 ∉ N_law_table); decide +kernel⟩ (by decide +kernel) (by change ∀ j : Nat, j ∈ _ → (fun i => decide (i ∈ ([0, 1, 2] : List Nat))) j = _; decide +kernel) (fun _ _ => rfl) rfl rfl (by decide +kernel))
    (vss_one (vs_expr (ve_mu PySem.F.plainAttrs_list PySem.F.slot_list_append PySem.F.type_list_append pmu_append (ve_var (i := 5) rfl (by first | exact .inl rfl | exact .inr (.inl rfl) | exact .inr (.inr rfl)) (by decide +kernel) (by decide +kernel)) (va_cons (ve_callTy pn_tuple rfl T.g_tuple (by kernel_rfl) (va_cons (ve_var (i := 7) rfl (by first | exact .inl rfl | exact .inr (.inl rfl) | exact .inr (.inr rfl)) (by decide +kernel) (by decide +kernel)) va_nil (fun _ => rfl)) (by decide +kernel) (by decide +kernel) (fun _ => rfl) (fun _ => rfl)) va_nil (fun _ => rfl)) (fun _ => rfl) (fun _ => rfl) rfl (fun _ => rfl) (fun _ => rfl)) (fun _ => rfl)))) (fun _ _ => rfl))
    (vss_cons (vs_set (i := 8) rfl (by first | exact .inl rfl | exact .inr rfl) rfl (ve_lst va_nil) (.inl rfl) (fun _ => rfl))
    (vss_cons (vs_for (vi_val (ve_var (i := 3) rfl (by first | exact .inl rfl | exact .inr (.inl rfl) | exact .inr (.inr rfl)) (by decide +kernel) (by decide +kernel))) (vg_name (i := 9) rfl (by first | exact .inl rfl | exact .inr rfl) rfl (.inl rfl))
    (vss_one (vs_for (vi_val (ve_lst (va_cons (ve_binop p2_mod (ve_call (io := [false]) A_law_of_word rfl (va_cons (ve_ix pix_GD (ve_var (i := 9) rfl (by first | exact .inl rfl | exact .inr (.inl rfl) | exact .inr (.inr rfl)) (by decide +kernel) (by decide +kernel)) ve_int (fun _ _ => rfl)) va_nil (fun _ => rfl)) (by decide +kernel) (fun _ => rfl) (fun _ => rfl)) (ve_var (i := 2) rfl (by first | exact .inl rfl | exact .inr (.inl rfl) | exact .inr (.inr rfl)) (by decide +kernel) (by decide +kernel))) (va_cons (ve_binop p2_mod (ve_binop p2_div (ve_call (io := [false]) A_law_of_word rfl (va_cons (ve_ix pix_GD (ve_var (i := 9) rfl (by first | exact .inl rfl | exact .inr (.inl rfl) | exact .inr (.inr rfl)) (by decide +kernel) (by decide +kernel)) ve_int (fun _ _ => rfl)) va_nil (fun _ => rfl)) (by decide +kernel) (fun _ => rfl) (fun _ => rfl)) ve_int) (ve_var (i := 2) rfl (by first | exact .inl rfl | exact .inr (.inl rfl) | exact .inr (.inr rfl)) (by decide +kernel) (by decide +kernel))) va_nil (fun _ => rfl)) (fun _ => rfl)))) (vg_name (i := 10) rfl (by first | exact .inl rfl | exact .inr rfl) rfl (.inl rfl))
    (vss_one (vs_set (i := 8) rfl (by first | exact .inl rfl | exact .inr rfl) rfl (ve_binop p2_addT (ve_var (i := 8) rfl (by first | exact .inl rfl | exact .inr (.inl rfl) | exact .inr (.inr rfl)) (by decide +kernel) (by decide +kernel)) (ve_mulL (ve_lst (va_cons (ve_var (i := 10) rfl (by first | exact .inl rfl | exact .inr (.inl rfl) | exact .inr (.inr rfl)) (by decide +kernel) (by decide +kernel)) va_nil (fun _ => rfl))) (ve_callTy pn_intG rfl T.g_int (by kernel_rfl) (va_cons (ve_cmp p2_ninD (ve_var (i := 10) rfl (by first | exact .inl rfl | exact .inr (.inl rfl) | exact .inr (.inr rfl)) (by decide +kernel) (by decide +kernel)) (ve_var (i := 8) rfl (by first | exact .inl rfl | exact .inr (.inl rfl) | exact .inr (.inr rfl)) (by decide +kernel) (by decide +kernel)) (by with_unfolding_all rfl)) va_nil (fun _ => rfl)) (by decide +kernel) (by decide +kernel) (fun _ => rfl) (fun _ => rfl)))) (.inl rfl) (fun _ => rfl))) (fun _ _ => rfl))) (fun _ _ => rfl))
    (vss_one (vs_ret (ve_tup (va_cons (ve_var (i := 1) rfl (by first | exact .inl rfl | exact .inr (.inl rfl) | exact .inr (.inr rfl)) (by decide +kernel) (by decide +kernel)) (va_cons (ve_var (i := 2) rfl (by first | exact .inl rfl | exact .inr (.inl rfl) | exact .inr (.inr rfl)) (by decide +kernel) (by decide +kernel)) (va_cons (ve_callTy pn_tuple rfl T.g_tuple (by kernel_rfl) (va_cons (ve_var (i := 5) rfl (by first | exact .inl rfl | exact .inr (.inl rfl) | exact .inr (.inr rfl)) (by decide +kernel) (by decide +kernel)) va_nil (fun _ => rfl)) (by decide +kernel) (by decide +kernel) (fun _ => rfl) (fun _ => rfl)) (va_cons (ve_callB pn_sum rfl T.g_sum (by kernel_rfl) (va_cons (ve_lc (own := [("bit", 10)]) (vi_val (ve_var (i := 8) rfl (by first | exact .inl rfl | exact .inr (.inl rfl) | exact .inr (.inr rfl)) (by decide +kernel) (by decide +kernel))) (vg_name (i := 10) rfl (by first | exact .inl rfl | exact .inr rfl) rfl (.inr rfl)) vts_nil (ve_binop p2_shl ve_int (ve_var (i := 10) rfl (by first | exact .inl rfl | exact .inr (.inl rfl) | exact .inr (.inr rfl)) (by decide +kernel) (by decide +kernel))) ⟨rfl, by decide +kernel, by change ∀ p : Str × Nat, p ∈ _ → N_law_table[p.2]? = _; decide +kernel, by change ∀ y : Str × NameKind, y ∈ _ → _ → (List.lookup y.1 (defScope s_law_table).names = _ ∨ List.lookup y.1 (defScope s_law_table).names = _); decide +kernel, by change ∀ y : Str × NameKind, y ∈ _ → _ → (_ ∨ y.1 ∉ N_law_table); decide +kernel⟩ (by decide +kernel) (by change ∀ j : Nat, j ∈ _ → (fun i => decide (i ∈ ([0, 1, 2] : List Nat))) j = _; decide +kernel) (fun _ _ => rfl)) va_nil (fun _ => rfl)) (by decide +kernel) (by decide +kernel) (fun _ => rfl) (fun _ => rfl)) va_nil (fun _ => rfl)) (fun _ => rfl)) (fun _ => rfl)) (fun _ => rfl)))))))))))
theorem sc_law_table : FnScope N_law_table ["library", "many", "span"] (defScope s_law_table) := ⟨rfl, rfl, rfl, by decide +kernel, rfl, by decide +kernel, by decide +kernel⟩
/-! _law_kinds -/
def N_law_kinds : List Str := ["told", "chain", "k"]
def g_law_kinds : Act Flw := (seqA (iteA (orA (notA (testA (callA isiD (consA (var 0) (consA (cst (.ty "tuple")) (Act.ret [])))))) (orA (notA (testA (callA allD (consA (lcA [2] (tgName 2) (Act.ret true) (defA 1 F_law_whole [false] [] (consA (op2 ixGD (var 0) (var 2)) (Act.ret []))) (iterA (lstA (consA (cst (.int 0)) (consA (cst (.int 1)) (consA (cst (.int 3)) (Act.ret []))))))) (Act.ret []))))) (Act.ret false)))
    (retA (fun i => decide (i < 1)) (cst (.bl false)))
    (Act.ret .nx))
    (seqA (Act.bnd (iterA (op2 ixGD (var 0) (cst (.int 2)))) (forA (tgName 1)
    (iteA (orA (notA (testA (callA isiD (consA (var 1) (consA (cst (.ty "tuple")) (Act.ret [])))))) (orA (notA (testA (callA allD (consA (lcA [2] (tgName 2) (Act.ret true) (defA 1 F_law_whole [false] [] (consA (var 2) (Act.ret []))) (iterA (var 1))) (Act.ret []))))) (Act.ret false)))
    (retA (fun i => decide (i < 1)) (cst (.bl false)))
    (Act.ret .nx))))
    (retA (fun i => decide (i < 1)) (callA isiD (consA (op2 ixGD (var 0) (cst (.int 2))) (consA (cst (.ty "tuple")) (Act.ret [])))))))
def F_law_kinds : FD := runB 3 1 (fun i => decide (i ∈ ([0] : List Nat))) g_law_kinds
abbrev c_law_kinds (S : Sta) : VS.Ctx := { toSta := S, N := N_law_kinds, sc := defScope s_law_kinds, lvl := 1, fnn := fun _ => true, ro := fun i => decide (i ∈ ([0] : List Nat)), np := 1 }
theorem ok_law_kinds {S : Sta} (T : Txt S) (A_law_whole : FnAt S 1 "_law_whole" 1 F_law_whole []) : VSs (c_law_kinds S) (defBody s_law_kinds) g_law_kinds :=
  (vss_cons (vs_if (vt_or (vt_not (vt_plain (ve_callB pn_isi rfl T.g_isinstance (by kernel_rfl) (va_cons (ve_var (i := 0) rfl (by first | exact .inl rfl | exact .inr (.inl rfl) | exact .inr (.inr rfl)) (by decide +kernel) (by decide +kernel)) (va_cons (ve_ty (Ty := "tuple") rfl T.g_tuple (by kernel_rfl) (by decide +kernel) (by decide +kernel)) va_nil (fun _ => rfl)) (fun _ => rfl)) (by decide +kernel) (by decide +kernel) (fun _ => rfl) (fun _ => rfl)) (fun _ _ _ h => nomatch h) (fun _ _ => rfl))) (vt_or (vt_not (vt_plain (ve_callB pn_all rfl T.g_all (by kernel_rfl) (va_cons (ve_lc (own := [("k", 2)]) (vi_val (ve_lst (va_cons ve_int (va_cons ve_int (va_cons ve_int va_nil (fun _ => rfl)) (fun _ => rfl)) (fun _ => rfl)))) (vg_name (i := 2) rfl (by first | exact .inl rfl | exact .inr rfl) rfl (.inr rfl)) vts_nil (ve_call (io := [false]) A_law_whole rfl (va_cons (ve_ix pix_GD (ve_var (i := 0) rfl (by first | exact .inl rfl | exact .inr (.inl rfl) | exact .inr (.inr rfl)) (by decide +kernel) (by decide +kernel)) (ve_var (i := 2) rfl (by first | exact .inl rfl | exact .inr (.inl rfl) | exact .inr (.inr rfl)) (by decide +kernel) (by decide +kernel)) (fun _ _ => rfl)) va_nil (fun _ => rfl)) (by decide +kernel) (fun _ => rfl) (fun _ => rfl)) ⟨rfl, by decide +kernel, by change ∀ p : Str × Nat, p ∈ _ → N_law_kinds[p.2]? = _; decide +kernel, by change ∀ y : Str × NameKind, y ∈ _ → _ → (List.lookup y.1 (defScope s_law_kinds).names = _ ∨ List.lookup y.1 (defScope s_law_kinds).names = _); decide +kernel, by change ∀ y : Str × NameKind, y ∈ _ → _ → (_ ∨ y.1 ∉ N_law_kinds); decide +kernel⟩ (by decide +kernel) (by change ∀ j : Nat, j ∈ _ → (fun i => decide (i ∈ ([0] : List Nat))) j = _; decide +kernel) (fun _ _ => rfl)) va_nil (fun _ => rfl)) (by decide +kernel) (by decide +kernel) (fun _ => rfl) (fun _ => rfl)) (fun _ _ _ h => nomatch h) (fun _ _ => rfl))) vt_or_nil))
    (vss_one (vs_ret ve_bl))
    vss_nil)
    (vss_cons (vs_for (vi_val (ve_ix pix_GD (ve_var (i := 0) rfl (by first | exact .inl rfl | exact .inr (.inl rfl) | exact .inr (.inr rfl)) (by decide +kernel) (by decide +kernel)) ve_int (fun _ _ => rfl))) (vg_name (i := 1) rfl (by first | exact .inl rfl | exact .inr rfl) rfl (.inl rfl))
    (vss_one (vs_if (vt_or (vt_not (vt_plain (ve_callB pn_isi rfl T.g_isinstance (by kernel_rfl) (va_cons (ve_var (i := 1) rfl (by first | exact .inl rfl | exact .inr (.inl rfl) | exact .inr (.inr rfl)) (by decide +kernel) (by decide +kernel)) (va_cons (ve_ty (Ty := "tuple") rfl T.g_tuple (by kernel_rfl) (by decide +kernel) (by decide +kernel)) va_nil (fun _ => rfl)) (fun _ => rfl)) (by decide +kernel) (by decide +kernel) (fun _ => rfl) (fun _ => rfl)) (fun _ _ _ h => nomatch h) (fun _ _ => rfl))) (vt_or (vt_not (vt_plain (ve_callB pn_all rfl T.g_all (by kernel_rfl) (va_cons (ve_lc (own := [("k", 2)]) (vi_val (ve_var (i := 1) rfl (by first | exact .inl rfl | exact .inr (.inl rfl) | exact .inr (.inr rfl)) (by decide +kernel) (by decide +kernel))) (vg_name (i := 2) rfl (by first | exact .inl rfl | exact .inr rfl) rfl (.inr rfl)) vts_nil (ve_call (io := [false]) A_law_whole rfl (va_cons (ve_var (i := 2) rfl (by first | exact .inl rfl | exact .inr (.inl rfl) | exact .inr (.inr rfl)) (by decide +kernel) (by decide +kernel)) va_nil (fun _ => rfl)) (by decide +kernel) (fun _ => rfl) (fun _ => rfl)) ⟨rfl, by decide +kernel, by change ∀ p : Str × Nat, p ∈ _ → N_law_kinds[p.2]? = _; decide +kernel, by change ∀ y : Str × NameKind, y ∈ _ → _ → (List.lookup y.1 (defScope s_law_kinds).names = _ ∨ List.lookup y.1 (defScope s_law_kinds).names = _); decide +kernel, by change ∀ y : Str × NameKind, y ∈ _ → _ → (_ ∨ y.1 ∉ N_law_kinds); decide +kernel⟩ (by decide +kernel) (by change ∀ j : Nat, j ∈ _ → (fun i => decide (i ∈ ([0] : List Nat))) j = _; decide +kernel) (fun _ _ => rfl)) va_nil (fun _ => rfl)) (by decide +kernel) (by decide +kernel) (fun _ => rfl) (fun _ => rfl)) (fun _ _ _ h => nomatch h) (fun _ _ => rfl))) vt_or_nil))
    (vss_one (vs_ret ve_bl))
    vss_nil)) (fun _ _ => rfl))
    (vss_one (vs_ret (ve_callB pn_isi rfl T.g_isinstance (by kernel_rfl) (va_cons (ve_ix pix_GD (ve_var (i := 0) rfl (by first | exact .inl rfl | exact .inr (.inl rfl) | exact .inr (.inr rfl)) (by decide +kernel) (by decide +kernel)) ve_int (fun _ _ => rfl)) (va_cons (ve_ty (Ty := "tuple") rfl T.g_tuple (by kernel_rfl) (by decide +kernel) (by decide +kernel)) va_nil (fun _ => rfl)) (fun _ => rfl)) (by decide +kernel) (by decide +kernel) (fun _ => rfl) (fun _ => rfl))))))
theorem sc_law_kinds : FnScope N_law_kinds ["told"] (defScope s_law_kinds) := ⟨rfl, rfl, rfl, by decide +kernel, rfl, by decide +kernel, by decide +kernel⟩
/-! law -/
def N_law : List Str := ["script", "feed", "turn", "word", "k", "told", "library", "many", "span"]
def g_law : Act Flw := (seqA (setA 1 (defA 2 F_law_feed [false, false] [] (consA (var 0) (consA (cst (.int 0)) (Act.ret [])))))
    (seqA (Act.bnd (rangeA (consA (cst (.int 5)) (Act.ret []))) (forA (tgName 2)
    (seqA (setA 3 (cst (.str "")))
    (seqA (Act.bnd (rangeA (consA (op2 addGT (cst (.int 1)) (defA 2 F_law_take [true, false] [] (consA (var 1) (consA (cst (.int 8)) (Act.ret []))))) (Act.ret []))) (forA (tgName 4)
    (setA 3 (op2 addGT (var 3) (defA 2 F_law_pick [true, false] [] (consA (var 1) (consA (callA listD (consA (cst (.str "abcdefghijklmnopqrstuvwxyz")) (Act.ret []))) (Act.ret []))))))))
    (seqA (setA 5 (defA 1 F_word_number [false] [] (consA (var 3) (Act.ret []))))
    (iteA (orA (notA (testA (defA 1 F_law_whole [false] [] (consA (var 5) (Act.ret []))))) (orA (testA (op2 neE (var 5) (defA 1 F_law_of_word [false] [] (consA (var 3) (Act.ret []))))) (Act.ret false)))
    (retA (fun i => decide (i < 1)) (cst (.bl false)))
    (Act.ret .nx)))))))
    (seqA (Act.bnd (iterA (defA 2 F_law_shelf [true, false] [] (consA (var 1) (consA (cst (.int 6)) (Act.ret []))))) (forA (tgName 6)
    (seqA (setA 7 (op2 addGT (cst (.int 1)) (defA 2 F_law_take [true, false] [] (consA (var 1) (consA (cst (.int 16)) (Act.ret []))))))
    (seqA (setA 8 (op2 addGT (cst (.int 1)) (defA 2 F_law_take [true, false] [] (consA (var 1) (consA (cst (.int 64)) (Act.ret []))))))
    (seqA (setA 5 (defK 3 1 2 F_table_of [false, false, false] [.inl 1, .inl 0] (consA (var 6) (Act.ret [])) (consA (var 8) (consA (var 7) (Act.ret [])))))
    (seqA (iteA (orA (notA (testA (defA 1 F_law_kinds [false] [] (consA (var 5) (Act.ret []))))) (orA (testA (op2 neE (var 5) (defA 3 F_law_table [false, false, false] [] (consA (var 6) (consA (var 7) (consA (var 8) (Act.ret []))))))) (Act.ret false)))
    (retA (fun i => decide (i < 1)) (cst (.bl false)))
    (Act.ret .nx))
    (seqA (iteA (testA (op2 neE (defA 3 F_table_of [false, false, false] [(.int 4), (.int 32)] (consA (var 6) (Act.ret []))) (defA 3 F_law_table [false, false, false] [] (consA (var 6) (consA (cst (.int 4)) (consA (cst (.int 32)) (Act.ret [])))))))
    (retA (fun i => decide (i < 1)) (cst (.bl false)))
    (Act.ret .nx))
    (iteA (testA (op2 neE (defK 3 1 1 F_table_of [false, false, false] [.inl 0, .inr (.int 32)] (consA (var 6) (Act.ret [])) (consA (var 7) (Act.ret []))) (defA 3 F_law_table [false, false, false] [] (consA (var 6) (consA (var 7) (consA (cst (.int 32)) (Act.ret [])))))))
    (retA (fun i => decide (i < 1)) (cst (.bl false)))
    (Act.ret .nx)))))))))
    (retA (fun i => decide (i < 1)) (cst (.bl true))))))
def F_law : FD := runB 9 1 (fun i => decide (i ∈ ([0] : List Nat))) g_law
abbrev c_law (S : Sta) : VS.Ctx := { toSta := S, N := N_law, sc := defScope s_law, lvl := 7, fnn := fun _ => true, ro := fun i => decide (i ∈ ([0] : List Nat)), np := 1 }
theorem ok_law {S : Sta} (T : Txt S) (A_law_feed : FnAt S 7 "_law_feed" 2 F_law_feed []) (A_law_take : FnAt S 7 "_law_take" 2 F_law_take []) (A_law_pick : FnAt S 7 "_law_pick" 2 F_law_pick []) (A_word_number : FnAt S 7 "word_number" 1 F_word_number []) (A_law_of_word : FnAt S 7 "_law_of_word" 1 F_law_of_word []) (A_law_whole : FnAt S 7 "_law_whole" 1 F_law_whole []) (A_law_shelf : FnAt S 7 "_law_shelf" 2 F_law_shelf []) (A_table_of_width_buckets : FnAtK S 7 "table_of" 3 F_table_of 1 ["width", "buckets"] [.inl 1, .inl 0]) (A_law_table : FnAt S 7 "_law_table" 3 F_law_table []) (A_law_kinds : FnAt S 7 "_law_kinds" 1 F_law_kinds []) (A_table_of : FnAt S 7 "table_of" 3 F_table_of [(.int 4), (.int 32)]) (A_table_of_buckets : FnAtK S 7 "table_of" 3 F_table_of 1 ["buckets"] [.inl 0, .inr (.int 32)]) : VSs (c_law S) (defBody s_law) g_law :=
  (vss_cons (vs_set (i := 1) rfl (by first | exact .inl rfl | exact .inr rfl) rfl (ve_call (io := [false, false]) A_law_feed rfl (va_cons (ve_var (i := 0) rfl (by first | exact .inl rfl | exact .inr (.inl rfl) | exact .inr (.inr rfl)) (by decide +kernel) (by decide +kernel)) (va_cons ve_int va_nil (fun _ => rfl)) (fun _ => rfl)) (by decide +kernel) (fun _ => rfl) (fun _ => rfl)) (.inl rfl) (fun _ => rfl))
    (vss_cons (vs_for (vi_range (va_cons ve_int va_nil (fun _ => rfl)) rfl T.g_range (fun _ => rfl) (fun _ => rfl)) (vg_name (i := 2) rfl (by first | exact .inl rfl | exact .inr rfl) rfl (.inl rfl))
    (vss_cons (vs_set (i := 3) rfl (by first | exact .inl rfl | exact .inr rfl) rfl ve_str (.inl rfl) (fun _ => rfl))
    (vss_cons (vs_for (vi_range (va_cons (ve_binop p2_addT ve_int (ve_call (io := [true, false]) A_law_take rfl (va_cons (ve_var (i := 1) rfl (by first | exact .inl rfl | exact .inr (.inl rfl) | exact .inr (.inr rfl)) (by decide +kernel) (by decide +kernel)) (va_cons ve_int va_nil (fun _ => rfl)) (fun _ => rfl)) (by decide +kernel) (fun _ => rfl) (fun _ => rfl))) va_nil (fun _ => rfl)) rfl T.g_range (fun _ => rfl) (fun _ => rfl)) (vg_name (i := 4) rfl (by first | exact .inl rfl | exact .inr rfl) rfl (.inl rfl))
    (vss_one (vs_set (i := 3) rfl (by first | exact .inl rfl | exact .inr rfl) rfl (ve_binop p2_addT (ve_var (i := 3) rfl (by first | exact .inl rfl | exact .inr (.inl rfl) | exact .inr (.inr rfl)) (by decide +kernel) (by decide +kernel)) (ve_call (io := [true, false]) A_law_pick rfl (va_cons (ve_var (i := 1) rfl (by first | exact .inl rfl | exact .inr (.inl rfl) | exact .inr (.inr rfl)) (by decide +kernel) (by decide +kernel)) (va_cons (ve_callTy pn_list rfl T.g_list (by kernel_rfl) (va_cons ve_str va_nil (fun _ => rfl)) (by decide +kernel) (by decide +kernel) (fun _ => rfl) (fun _ => rfl)) va_nil (fun _ => rfl)) (fun _ => rfl)) (by decide +kernel) (fun _ => rfl) (fun _ => rfl))) (.inl rfl) (fun _ => rfl))) (fun _ _ => rfl))
    (vss_cons (vs_set (i := 5) rfl (by first | exact .inl rfl | exact .inr rfl) rfl (ve_call (io := [false]) A_word_number rfl (va_cons (ve_var (i := 3) rfl (by first | exact .inl rfl | exact .inr (.inl rfl) | exact .inr (.inr rfl)) (by decide +kernel) (by decide +kernel)) va_nil (fun _ => rfl)) (by decide +kernel) (fun _ => rfl) (fun _ => rfl)) (.inl rfl) (fun _ => rfl))
    (vss_one (vs_if (vt_or (vt_not (vt_plain (ve_call (io := [false]) A_law_whole rfl (va_cons (ve_var (i := 5) rfl (by first | exact .inl rfl | exact .inr (.inl rfl) | exact .inr (.inr rfl)) (by decide +kernel) (by decide +kernel)) va_nil (fun _ => rfl)) (by decide +kernel) (fun _ => rfl) (fun _ => rfl)) (fun _ _ _ h => nomatch h) (fun _ _ => rfl))) (vt_or (vt_cmp p2_ne (ve_var (i := 5) rfl (by first | exact .inl rfl | exact .inr (.inl rfl) | exact .inr (.inr rfl)) (by decide +kernel) (by decide +kernel)) (ve_call (io := [false]) A_law_of_word rfl (va_cons (ve_var (i := 3) rfl (by first | exact .inl rfl | exact .inr (.inl rfl) | exact .inr (.inr rfl)) (by decide +kernel) (by decide +kernel)) va_nil (fun _ => rfl)) (by decide +kernel) (fun _ => rfl) (fun _ => rfl)) (by with_unfolding_all rfl)) vt_or_nil))
    (vss_one (vs_ret ve_bl))
    vss_nil))))) (fun _ _ => rfl))
    (vss_cons (vs_for (vi_val (ve_call (io := [true, false]) A_law_shelf rfl (va_cons (ve_var (i := 1) rfl (by first | exact .inl rfl | exact .inr (.inl rfl) | exact .inr (.inr rfl)) (by decide +kernel) (by decide +kernel)) (va_cons ve_int va_nil (fun _ => rfl)) (fun _ => rfl)) (by decide +kernel) (fun _ => rfl) (fun _ => rfl))) (vg_name (i := 6) rfl (by first | exact .inl rfl | exact .inr rfl) rfl (.inl rfl))
    (vss_cons (vs_set (i := 7) rfl (by first | exact .inl rfl | exact .inr rfl) rfl (ve_binop p2_addT ve_int (ve_call (io := [true, false]) A_law_take rfl (va_cons (ve_var (i := 1) rfl (by first | exact .inl rfl | exact .inr (.inl rfl) | exact .inr (.inr rfl)) (by decide +kernel) (by decide +kernel)) (va_cons ve_int va_nil (fun _ => rfl)) (fun _ => rfl)) (by decide +kernel) (fun _ => rfl) (fun _ => rfl))) (.inl rfl) (fun _ => rfl))
    (vss_cons (vs_set (i := 8) rfl (by first | exact .inl rfl | exact .inr rfl) rfl (ve_binop p2_addT ve_int (ve_call (io := [true, false]) A_law_take rfl (va_cons (ve_var (i := 1) rfl (by first | exact .inl rfl | exact .inr (.inl rfl) | exact .inr (.inr rfl)) (by decide +kernel) (by decide +kernel)) (va_cons ve_int va_nil (fun _ => rfl)) (fun _ => rfl)) (by decide +kernel) (fun _ => rfl) (fun _ => rfl))) (.inl rfl) (fun _ => rfl))
    (vss_cons (vs_set (i := 5) rfl (by first | exact .inl rfl | exact .inr rfl) rfl (ve_callK (io := [false, false, false]) (sel := [.inl 1, .inl 0]) A_table_of_width_buckets rfl rfl (va_cons (ve_var (i := 6) rfl (by first | exact .inl rfl | exact .inr (.inl rfl) | exact .inr (.inr rfl)) (by decide +kernel) (by decide +kernel)) va_nil (fun _ => rfl)) (vk_cons (ve_var (i := 8) rfl (by first | exact .inl rfl | exact .inr (.inl rfl) | exact .inr (.inr rfl)) (by decide +kernel) (by decide +kernel)) (vk_cons (ve_var (i := 7) rfl (by first | exact .inl rfl | exact .inr (.inl rfl) | exact .inr (.inr rfl)) (by decide +kernel) (by decide +kernel)) vk_nil)) (by decide +kernel) (fun _ => rfl) (fun _ => rfl) (fun _ => rfl) (fun _ => rfl)) (.inl rfl) (fun _ => rfl))
    (vss_cons (vs_if (vt_or (vt_not (vt_plain (ve_call (io := [false]) A_law_kinds rfl (va_cons (ve_var (i := 5) rfl (by first | exact .inl rfl | exact .inr (.inl rfl) | exact .inr (.inr rfl)) (by decide +kernel) (by decide +kernel)) va_nil (fun _ => rfl)) (by decide +kernel) (fun _ => rfl) (fun _ => rfl)) (fun _ _ _ h => nomatch h) (fun _ _ => rfl))) (vt_or (vt_cmp p2_ne (ve_var (i := 5) rfl (by first | exact .inl rfl | exact .inr (.inl rfl) | exact .inr (.inr rfl)) (by decide +kernel) (by decide +kernel)) (ve_call (io := [false, false, false]) A_law_table rfl (va_cons (ve_var (i := 6) rfl (by first | exact .inl rfl | exact .inr (.inl rfl) | exact .inr (.inr rfl)) (by decide +kernel) (by decide +kernel)) (va_cons (ve_var (i := 7) rfl (by first | exact .inl rfl | exact .inr (.inl rfl) | exact .inr (.inr rfl)) (by decide +kernel) (by decide +kernel)) (va_cons (ve_var (i := 8) rfl (by first | exact .inl rfl | exact .inr (.inl rfl) | exact .inr (.inr rfl)) (by decide +kernel) (by decide +kernel)) va_nil (fun _ => rfl)) (fun _ => rfl)) (fun _ => rfl)) (by decide +kernel) (fun _ => rfl) (fun _ => rfl)) (by with_unfolding_all rfl)) vt_or_nil))
    (vss_one (vs_ret ve_bl))
    vss_nil)
    (vss_cons (vs_if (vt_cmp p2_ne (ve_call (io := [false, false, false]) A_table_of rfl (va_cons (ve_var (i := 6) rfl (by first | exact .inl rfl | exact .inr (.inl rfl) | exact .inr (.inr rfl)) (by decide +kernel) (by decide +kernel)) va_nil (fun _ => rfl)) (by decide +kernel) (fun _ => rfl) (fun _ => rfl)) (ve_call (io := [false, false, false]) A_law_table rfl (va_cons (ve_var (i := 6) rfl (by first | exact .inl rfl | exact .inr (.inl rfl) | exact .inr (.inr rfl)) (by decide +kernel) (by decide +kernel)) (va_cons ve_int (va_cons ve_int va_nil (fun _ => rfl)) (fun _ => rfl)) (fun _ => rfl)) (by decide +kernel) (fun _ => rfl) (fun _ => rfl)) (by with_unfolding_all rfl))
    (vss_one (vs_ret ve_bl))
    vss_nil)
    (vss_one (vs_if (vt_cmp p2_ne (ve_callK (io := [false, false, false]) (sel := [.inl 0, .inr (.int 32)]) A_table_of_buckets rfl rfl (va_cons (ve_var (i := 6) rfl (by first | exact .inl rfl | exact .inr (.inl rfl) | exact .inr (.inr rfl)) (by decide +kernel) (by decide +kernel)) va_nil (fun _ => rfl)) (vk_cons (ve_var (i := 7) rfl (by first | exact .inl rfl | exact .inr (.inl rfl) | exact .inr (.inr rfl)) (by decide +kernel) (by decide +kernel)) vk_nil) (by decide +kernel) (fun _ => rfl) (fun _ => rfl) (fun _ => rfl) (fun _ => rfl)) (ve_call (io := [false, false, false]) A_law_table rfl (va_cons (ve_var (i := 6) rfl (by first | exact .inl rfl | exact .inr (.inl rfl) | exact .inr (.inr rfl)) (by decide +kernel) (by decide +kernel)) (va_cons (ve_var (i := 7) rfl (by first | exact .inl rfl | exact .inr (.inl rfl) | exact .inr (.inr rfl)) (by decide +kernel) (by decide +kernel)) (va_cons ve_int va_nil (fun _ => rfl)) (fun _ => rfl)) (fun _ => rfl)) (by decide +kernel) (fun _ => rfl) (fun _ => rfl)) (by with_unfolding_all rfl))
    (vss_one (vs_ret ve_bl))
    vss_nil))))))) (fun _ _ => rfl))
    (vss_one (vs_ret ve_bl)))))
theorem sc_law : FnScope N_law ["script"] (defScope s_law) := ⟨rfl, rfl, rfl, by decide +kernel, rfl, by decide +kernel, by decide +kernel⟩
theorem all_mk (hF : ∀ ns : List Int, ns.length ≤ 63 → ∃ outs ob, F_law [.fr (intsD ns)] [] = some (.ok (.fr (.bl true)) outs ob))
    {P : Program} {w : World} {K : PySem.W.Frag} {h : Heap} {mg : Str → Option Value} {fa f_law_feed f_law_take f_law_pick f_word_number f_law_of_word f_law_whole f_law_unlike f_law_number f_law_rows_drawn f_law_gives_drawn f_law_library_drawn f_law_shelf f_chain_of f_bits_of f_sieve_of f_table_of f_law_table f_law_kinds f_law : Addr} (X : K.In h) (G : h.Ns mainGlobals mg) (hfa : mg "law" = some (.ref fa))
    {od_law_feed an_law_feed od_law_take an_law_take od_law_pick an_law_pick od_word_number an_word_number od_law_of_word an_law_of_word od_law_whole an_law_whole od_law_unlike an_law_unlike od_law_number an_law_number od_law_rows_drawn an_law_rows_drawn od_law_gives_drawn an_law_gives_drawn od_law_library_drawn an_law_library_drawn od_law_shelf an_law_shelf od_chain_of an_chain_of od_bits_of an_bits_of od_sieve_of an_sieve_of od_table_of an_table_of od_law_table an_law_table od_law_kinds an_law_kinds od_law an_law : Option Addr} {sl_law_feed sl_law_take sl_law_pick sl_word_number sl_law_of_word sl_law_whole sl_law_unlike sl_law_number sl_law_rows_drawn sl_law_gives_drawn sl_law_library_drawn sl_law_shelf sl_chain_of sl_bits_of sl_sieve_of sl_table_of sl_law_table sl_law_kinds sl_law : Array (Option Value)} {oc_law_feed kV_law_feed dc_law_feed pm_law_feed cd_law_feed ct_law_feed oc_law_take kV_law_take dc_law_take pm_law_take cd_law_take ct_law_take oc_law_pick kV_law_pick dc_law_pick pm_law_pick cd_law_pick ct_law_pick oc_word_number kV_word_number dc_word_number pm_word_number cd_word_number ct_word_number oc_law_of_word kV_law_of_word dc_law_of_word pm_law_of_word cd_law_of_word ct_law_of_word oc_law_whole kV_law_whole dc_law_whole pm_law_whole cd_law_whole ct_law_whole oc_law_unlike kV_law_unlike dc_law_unlike pm_law_unlike cd_law_unlike ct_law_unlike oc_law_number kV_law_number dc_law_number pm_law_number cd_law_number ct_law_number oc_law_rows_drawn kV_law_rows_drawn dc_law_rows_drawn pm_law_rows_drawn cd_law_rows_drawn ct_law_rows_drawn oc_law_gives_drawn kV_law_gives_drawn dc_law_gives_drawn pm_law_gives_drawn cd_law_gives_drawn ct_law_gives_drawn oc_law_library_drawn kV_law_library_drawn dc_law_library_drawn pm_law_library_drawn cd_law_library_drawn ct_law_library_drawn oc_law_shelf kV_law_shelf dc_law_shelf pm_law_shelf cd_law_shelf ct_law_shelf oc_chain_of kV_chain_of dc_chain_of pm_chain_of cd_chain_of ct_chain_of oc_bits_of kV_bits_of dc_bits_of pm_bits_of cd_bits_of ct_bits_of oc_sieve_of kV_sieve_of dc_sieve_of pm_sieve_of cd_sieve_of ct_sieve_of oc_table_of dc_table_of pm_table_of cd_table_of ct_table_of oc_law_table kV_law_table dc_law_table pm_law_table cd_law_table ct_law_table oc_law_kinds kV_law_kinds dc_law_kinds pm_law_kinds cd_law_kinds ct_law_kinds oc_law kV_law dc_law pm_law cd_law ct_law : Value} {t_STEP t_LETTERS t_WORD_SPAN t_NEXT : Tok} {D_table_of : Addr} {t_table_of_buckets : Tok} {t_table_of_width : Tok}
    (a_law_feed : PySem.W.nsIn K mainGlobals "_law_feed" = some (some (.ref f_law_feed))) (l_law_feed : K.lookup f_law_feed = some ⟨oc_law_feed, od_law_feed, .func (PySem.W.fnOf "_law_feed" "_law_feed" (defArgs s_law_feed) (defBody s_law_feed) (defScope s_law_feed) .none kV_law_feed dc_law_feed pm_law_feed an_law_feed cd_law_feed ct_law_feed), sl_law_feed⟩) (d_law_feed : PySem.W.codeIn K cd_law_feed "_law_feed" = true) (k_law_feed : PySem.W.keepIn K (.ref f_law_feed) = true)
    (a_law_take : PySem.W.nsIn K mainGlobals "_law_take" = some (some (.ref f_law_take))) (l_law_take : K.lookup f_law_take = some ⟨oc_law_take, od_law_take, .func (PySem.W.fnOf "_law_take" "_law_take" (defArgs s_law_take) (defBody s_law_take) (defScope s_law_take) .none kV_law_take dc_law_take pm_law_take an_law_take cd_law_take ct_law_take), sl_law_take⟩) (d_law_take : PySem.W.codeIn K cd_law_take "_law_take" = true) (k_law_take : PySem.W.keepIn K (.ref f_law_take) = true)
    (a_law_pick : PySem.W.nsIn K mainGlobals "_law_pick" = some (some (.ref f_law_pick))) (l_law_pick : K.lookup f_law_pick = some ⟨oc_law_pick, od_law_pick, .func (PySem.W.fnOf "_law_pick" "_law_pick" (defArgs s_law_pick) (defBody s_law_pick) (defScope s_law_pick) .none kV_law_pick dc_law_pick pm_law_pick an_law_pick cd_law_pick ct_law_pick), sl_law_pick⟩) (d_law_pick : PySem.W.codeIn K cd_law_pick "_law_pick" = true) (k_law_pick : PySem.W.keepIn K (.ref f_law_pick) = true)
    (a_word_number : PySem.W.nsIn K mainGlobals "word_number" = some (some (.ref f_word_number))) (l_word_number : K.lookup f_word_number = some ⟨oc_word_number, od_word_number, .func (PySem.W.fnOf "word_number" "word_number" (defArgs s_word_number) (defBody s_word_number) (defScope s_word_number) .none kV_word_number dc_word_number pm_word_number an_word_number cd_word_number ct_word_number), sl_word_number⟩) (d_word_number : PySem.W.codeIn K cd_word_number "word_number" = true) (k_word_number : PySem.W.keepIn K (.ref f_word_number) = true)
    (a_law_of_word : PySem.W.nsIn K mainGlobals "_law_of_word" = some (some (.ref f_law_of_word))) (l_law_of_word : K.lookup f_law_of_word = some ⟨oc_law_of_word, od_law_of_word, .func (PySem.W.fnOf "_law_of_word" "_law_of_word" (defArgs s_law_of_word) (defBody s_law_of_word) (defScope s_law_of_word) .none kV_law_of_word dc_law_of_word pm_law_of_word an_law_of_word cd_law_of_word ct_law_of_word), sl_law_of_word⟩) (d_law_of_word : PySem.W.codeIn K cd_law_of_word "_law_of_word" = true) (k_law_of_word : PySem.W.keepIn K (.ref f_law_of_word) = true)
    (a_law_whole : PySem.W.nsIn K mainGlobals "_law_whole" = some (some (.ref f_law_whole))) (l_law_whole : K.lookup f_law_whole = some ⟨oc_law_whole, od_law_whole, .func (PySem.W.fnOf "_law_whole" "_law_whole" (defArgs s_law_whole) (defBody s_law_whole) (defScope s_law_whole) .none kV_law_whole dc_law_whole pm_law_whole an_law_whole cd_law_whole ct_law_whole), sl_law_whole⟩) (d_law_whole : PySem.W.codeIn K cd_law_whole "_law_whole" = true) (k_law_whole : PySem.W.keepIn K (.ref f_law_whole) = true)
    (a_law_unlike : PySem.W.nsIn K mainGlobals "_law_unlike" = some (some (.ref f_law_unlike))) (l_law_unlike : K.lookup f_law_unlike = some ⟨oc_law_unlike, od_law_unlike, .func (PySem.W.fnOf "_law_unlike" "_law_unlike" (defArgs s_law_unlike) (defBody s_law_unlike) (defScope s_law_unlike) .none kV_law_unlike dc_law_unlike pm_law_unlike an_law_unlike cd_law_unlike ct_law_unlike), sl_law_unlike⟩) (d_law_unlike : PySem.W.codeIn K cd_law_unlike "_law_unlike" = true) (k_law_unlike : PySem.W.keepIn K (.ref f_law_unlike) = true)
    (a_law_number : PySem.W.nsIn K mainGlobals "_law_number" = some (some (.ref f_law_number))) (l_law_number : K.lookup f_law_number = some ⟨oc_law_number, od_law_number, .func (PySem.W.fnOf "_law_number" "_law_number" (defArgs s_law_number) (defBody s_law_number) (defScope s_law_number) .none kV_law_number dc_law_number pm_law_number an_law_number cd_law_number ct_law_number), sl_law_number⟩) (d_law_number : PySem.W.codeIn K cd_law_number "_law_number" = true) (k_law_number : PySem.W.keepIn K (.ref f_law_number) = true)
    (a_law_rows_drawn : PySem.W.nsIn K mainGlobals "_law_rows_drawn" = some (some (.ref f_law_rows_drawn))) (l_law_rows_drawn : K.lookup f_law_rows_drawn = some ⟨oc_law_rows_drawn, od_law_rows_drawn, .func (PySem.W.fnOf "_law_rows_drawn" "_law_rows_drawn" (defArgs s_law_rows_drawn) (defBody s_law_rows_drawn) (defScope s_law_rows_drawn) .none kV_law_rows_drawn dc_law_rows_drawn pm_law_rows_drawn an_law_rows_drawn cd_law_rows_drawn ct_law_rows_drawn), sl_law_rows_drawn⟩) (d_law_rows_drawn : PySem.W.codeIn K cd_law_rows_drawn "_law_rows_drawn" = true) (k_law_rows_drawn : PySem.W.keepIn K (.ref f_law_rows_drawn) = true)
    (a_law_gives_drawn : PySem.W.nsIn K mainGlobals "_law_gives_drawn" = some (some (.ref f_law_gives_drawn))) (l_law_gives_drawn : K.lookup f_law_gives_drawn = some ⟨oc_law_gives_drawn, od_law_gives_drawn, .func (PySem.W.fnOf "_law_gives_drawn" "_law_gives_drawn" (defArgs s_law_gives_drawn) (defBody s_law_gives_drawn) (defScope s_law_gives_drawn) .none kV_law_gives_drawn dc_law_gives_drawn pm_law_gives_drawn an_law_gives_drawn cd_law_gives_drawn ct_law_gives_drawn), sl_law_gives_drawn⟩) (d_law_gives_drawn : PySem.W.codeIn K cd_law_gives_drawn "_law_gives_drawn" = true) (k_law_gives_drawn : PySem.W.keepIn K (.ref f_law_gives_drawn) = true)
    (a_law_library_drawn : PySem.W.nsIn K mainGlobals "_law_library_drawn" = some (some (.ref f_law_library_drawn))) (l_law_library_drawn : K.lookup f_law_library_drawn = some ⟨oc_law_library_drawn, od_law_library_drawn, .func (PySem.W.fnOf "_law_library_drawn" "_law_library_drawn" (defArgs s_law_library_drawn) (defBody s_law_library_drawn) (defScope s_law_library_drawn) .none kV_law_library_drawn dc_law_library_drawn pm_law_library_drawn an_law_library_drawn cd_law_library_drawn ct_law_library_drawn), sl_law_library_drawn⟩) (d_law_library_drawn : PySem.W.codeIn K cd_law_library_drawn "_law_library_drawn" = true) (k_law_library_drawn : PySem.W.keepIn K (.ref f_law_library_drawn) = true)
    (a_law_shelf : PySem.W.nsIn K mainGlobals "_law_shelf" = some (some (.ref f_law_shelf))) (l_law_shelf : K.lookup f_law_shelf = some ⟨oc_law_shelf, od_law_shelf, .func (PySem.W.fnOf "_law_shelf" "_law_shelf" (defArgs s_law_shelf) (defBody s_law_shelf) (defScope s_law_shelf) .none kV_law_shelf dc_law_shelf pm_law_shelf an_law_shelf cd_law_shelf ct_law_shelf), sl_law_shelf⟩) (d_law_shelf : PySem.W.codeIn K cd_law_shelf "_law_shelf" = true) (k_law_shelf : PySem.W.keepIn K (.ref f_law_shelf) = true)
    (a_chain_of : PySem.W.nsIn K mainGlobals "chain_of" = some (some (.ref f_chain_of))) (l_chain_of : K.lookup f_chain_of = some ⟨oc_chain_of, od_chain_of, .func (PySem.W.fnOf "chain_of" "chain_of" (defArgs s_chain_of) (defBody s_chain_of) (defScope s_chain_of) .none kV_chain_of dc_chain_of pm_chain_of an_chain_of cd_chain_of ct_chain_of), sl_chain_of⟩) (d_chain_of : PySem.W.codeIn K cd_chain_of "chain_of" = true) (k_chain_of : PySem.W.keepIn K (.ref f_chain_of) = true)
    (a_bits_of : PySem.W.nsIn K mainGlobals "bits_of" = some (some (.ref f_bits_of))) (l_bits_of : K.lookup f_bits_of = some ⟨oc_bits_of, od_bits_of, .func (PySem.W.fnOf "bits_of" "bits_of" (defArgs s_bits_of) (defBody s_bits_of) (defScope s_bits_of) .none kV_bits_of dc_bits_of pm_bits_of an_bits_of cd_bits_of ct_bits_of), sl_bits_of⟩) (d_bits_of : PySem.W.codeIn K cd_bits_of "bits_of" = true) (k_bits_of : PySem.W.keepIn K (.ref f_bits_of) = true)
    (a_sieve_of : PySem.W.nsIn K mainGlobals "sieve_of" = some (some (.ref f_sieve_of))) (l_sieve_of : K.lookup f_sieve_of = some ⟨oc_sieve_of, od_sieve_of, .func (PySem.W.fnOf "sieve_of" "sieve_of" (defArgs s_sieve_of) (defBody s_sieve_of) (defScope s_sieve_of) .none kV_sieve_of dc_sieve_of pm_sieve_of an_sieve_of cd_sieve_of ct_sieve_of), sl_sieve_of⟩) (d_sieve_of : PySem.W.codeIn K cd_sieve_of "sieve_of" = true) (k_sieve_of : PySem.W.keepIn K (.ref f_sieve_of) = true)
    (a_table_of : PySem.W.nsIn K mainGlobals "table_of" = some (some (.ref f_table_of))) (l_table_of : K.lookup f_table_of = some ⟨oc_table_of, od_table_of, .func (PySem.W.fnOf "table_of" "table_of" (defArgs s_table_of) (defBody s_table_of) (defScope s_table_of) .none (.ref D_table_of) dc_table_of pm_table_of an_table_of cd_table_of ct_table_of), sl_table_of⟩) (d_table_of : PySem.W.codeIn K cd_table_of "table_of" = true) (k_table_of : PySem.W.keepIn K (.ref f_table_of) = true)
    (n_table_of_buckets : PySem.W.nsIn K D_table_of "buckets" = some (some (.int 4 t_table_of_buckets)))
    (n_table_of_width : PySem.W.nsIn K D_table_of "width" = some (some (.int 32 t_table_of_width)))
    (a_law_table : PySem.W.nsIn K mainGlobals "_law_table" = some (some (.ref f_law_table))) (l_law_table : K.lookup f_law_table = some ⟨oc_law_table, od_law_table, .func (PySem.W.fnOf "_law_table" "_law_table" (defArgs s_law_table) (defBody s_law_table) (defScope s_law_table) .none kV_law_table dc_law_table pm_law_table an_law_table cd_law_table ct_law_table), sl_law_table⟩) (d_law_table : PySem.W.codeIn K cd_law_table "_law_table" = true) (k_law_table : PySem.W.keepIn K (.ref f_law_table) = true)
    (a_law_kinds : PySem.W.nsIn K mainGlobals "_law_kinds" = some (some (.ref f_law_kinds))) (l_law_kinds : K.lookup f_law_kinds = some ⟨oc_law_kinds, od_law_kinds, .func (PySem.W.fnOf "_law_kinds" "_law_kinds" (defArgs s_law_kinds) (defBody s_law_kinds) (defScope s_law_kinds) .none kV_law_kinds dc_law_kinds pm_law_kinds an_law_kinds cd_law_kinds ct_law_kinds), sl_law_kinds⟩) (d_law_kinds : PySem.W.codeIn K cd_law_kinds "_law_kinds" = true) (k_law_kinds : PySem.W.keepIn K (.ref f_law_kinds) = true)
    (a_law : PySem.W.nsIn K mainGlobals "law" = some (some (.ref f_law))) (l_law : K.lookup f_law = some ⟨oc_law, od_law, .func (PySem.W.fnOf "law" "law" (defArgs s_law) (defBody s_law) (defScope s_law) .none kV_law dc_law pm_law an_law cd_law ct_law), sl_law⟩) (d_law : PySem.W.codeIn K cd_law "law" = true) (k_law : PySem.W.keepIn K (.ref f_law) = true)
    (z_len : PySem.W.nsIn K mainGlobals "len" = some none)
    (z_abs : PySem.W.nsIn K mainGlobals "abs" = some none)
    (z_STEP : PySem.W.nsIn K mainGlobals "STEP" = some (some (.int 33 t_STEP)))
    (z_LETTERS : PySem.W.nsIn K mainGlobals "LETTERS" = some (some (.str "abcdefghijklmnopqrstuvwxyz" t_LETTERS)))
    (z_WORD_SPAN : PySem.W.nsIn K mainGlobals "WORD_SPAN" = some (some (.int 4294967296 t_WORD_SPAN)))
    (z_int : PySem.W.nsIn K mainGlobals "int" = some none)
    (z_isinstance : PySem.W.nsIn K mainGlobals "isinstance" = some none)
    (z_bool : PySem.W.nsIn K mainGlobals "bool" = some none)
    (z_range : PySem.W.nsIn K mainGlobals "range" = some none)
    (z_tuple : PySem.W.nsIn K mainGlobals "tuple" = some none)
    (z_enumerate : PySem.W.nsIn K mainGlobals "enumerate" = some none)
    (z_NEXT : PySem.W.nsIn K mainGlobals "NEXT" = some (some (.int 32 t_NEXT)))
    (z_sorted : PySem.W.nsIn K mainGlobals "sorted" = some none)
    (z_sum : PySem.W.nsIn K mainGlobals "sum" = some none)
    (z_all : PySem.W.nsIn K mainGlobals "all" = some none)
    (z_list : PySem.W.nsIn K mainGlobals "list" = some none)
    : ∃ fd : FuncData, (∀ (s : Shared) (v : Value), BindsTo s fd ⟨[v], []⟩ [("script", v)]) ∧ ∀ base : Heap, K.In base → base.Ns mainGlobals mg → FnG P w K mg base (CX P w) 8 fa fd ["script"] (spLaw K) := by
  have ef : f_law = fa := by
    have e := hfa.symm.trans (PySem.W.mg_of X G a_law)
    cases e; rfl
  subst ef
  have b_law_feed := (fun_mk (st := s_law_feed) l_law_feed d_law_feed k_law_feed).binds (ps := ["script", "k"]) fun _ _ _ _ _ _ us hl => match us, hl with | [_, _], _ => rfl
  have b_law_take := (fun_mk (st := s_law_take) l_law_take d_law_take k_law_take).binds (ps := ["feed", "many"]) fun _ _ _ _ _ _ us hl => match us, hl with | [_, _], _ => rfl
  have b_law_pick := (fun_mk (st := s_law_pick) l_law_pick d_law_pick k_law_pick).binds (ps := ["feed", "some"]) fun _ _ _ _ _ _ us hl => match us, hl with | [_, _], _ => rfl
  have b_word_number := (fun_mk (st := s_word_number) l_word_number d_word_number k_word_number).binds (ps := ["word"]) fun _ _ _ _ _ _ us hl => match us, hl with | [_], _ => rfl
  have b_law_of_word := (fun_mk (st := s_law_of_word) l_law_of_word d_law_of_word k_law_of_word).binds (ps := ["word"]) fun _ _ _ _ _ _ us hl => match us, hl with | [_], _ => rfl
  have b_law_whole := (fun_mk (st := s_law_whole) l_law_whole d_law_whole k_law_whole).binds (ps := ["found"]) fun _ _ _ _ _ _ us hl => match us, hl with | [_], _ => rfl
  have b_law_unlike := (fun_mk (st := s_law_unlike) l_law_unlike d_law_unlike k_law_unlike).binds (ps := ["feed", "many"]) fun _ _ _ _ _ _ us hl => match us, hl with | [_, _], _ => rfl
  have b_law_number := (fun_mk (st := s_law_number) l_law_number d_law_number k_law_number).binds (ps := ["feed"]) fun _ _ _ _ _ _ us hl => match us, hl with | [_], _ => rfl
  have b_law_rows_drawn := (fun_mk (st := s_law_rows_drawn) l_law_rows_drawn d_law_rows_drawn k_law_rows_drawn).binds (ps := ["feed", "names", "words", "uses"]) fun _ _ _ _ _ _ us hl => match us, hl with | [_, _, _, _], _ => rfl
  have b_law_gives_drawn := (fun_mk (st := s_law_gives_drawn) l_law_gives_drawn d_law_gives_drawn k_law_gives_drawn).binds (ps := ["feed", "names", "words", "uses", "tags"]) fun _ _ _ _ _ _ us hl => match us, hl with | [_, _, _, _, _], _ => rfl
  have b_law_library_drawn := (fun_mk (st := s_law_library_drawn) l_law_library_drawn d_law_library_drawn k_law_library_drawn).binds (ps := ["feed", "names", "at", "words", "given", "tags"]) fun _ _ _ _ _ _ us hl => match us, hl with | [_, _, _, _, _, _], _ => rfl
  have b_law_shelf := (fun_mk (st := s_law_shelf) l_law_shelf d_law_shelf k_law_shelf).binds (ps := ["feed", "most"]) fun _ _ _ _ _ _ us hl => match us, hl with | [_, _], _ => rfl
  have b_chain_of := (fun_mk (st := s_chain_of) l_chain_of d_chain_of k_chain_of).binds (ps := ["library", "buckets", "place"]) fun _ _ _ _ _ _ us hl => match us, hl with | [_, _, _], _ => rfl
  have b_bits_of := (fun_mk (st := s_bits_of) l_bits_of d_bits_of k_bits_of).binds (ps := ["word", "width"]) fun _ _ _ _ _ _ us hl => match us, hl with | [_, _], _ => rfl
  have b_sieve_of := (fun_mk (st := s_sieve_of) l_sieve_of d_sieve_of k_sieve_of).binds (ps := ["library", "width"]) fun _ _ _ _ _ _ us hl => match us, hl with | [_, _], _ => rfl
  have FD_table_of : FunD K "table_of" "table_of" (defArgs s_table_of) (defBody s_table_of) (defScope s_table_of) [] [("buckets", (.int 4)), ("width", (.int 32))] f_table_of (PySem.W.fnOf "table_of" "table_of" (defArgs s_table_of) (defBody s_table_of) (defScope s_table_of) .none (.ref D_table_of) dc_table_of pm_table_of an_table_of cd_table_of ct_table_of) := ⟨⟨_, _, .none, .ref D_table_of, _, _, _, _, _, _, rfl, l_table_of, d_table_of, .inl ⟨rfl, rfl⟩, .inr ⟨D_table_of, rfl, fun q hq => by
    simp only [List.mem_cons, List.not_mem_nil, or_false] at hq
    rcases hq with rfl | rfl
    · exact ⟨_, n_table_of_buckets, ⟨_, rfl⟩⟩
    · exact ⟨_, n_table_of_width, ⟨_, rfl⟩⟩⟩⟩, k_table_of⟩
  obtain ⟨ds_table_of, hv_table_of, b_table_of⟩ := FD_table_of.binds0 (ps := ["library", "buckets", "width"]) 1 (by simp) rfl fun _ _ _ _ _ _ us ks h1 h2 => match us, ks, h1, h2 with | [_], [_, _], _, _ => ⟨_, _, _, _, _, _, rfl, rfl, ⟨_, _, _, _, _, _, rfl, rfl, rfl⟩⟩
  have b_law_table := (fun_mk (st := s_law_table) l_law_table d_law_table k_law_table).binds (ps := ["library", "many", "span"]) fun _ _ _ _ _ _ us hl => match us, hl with | [_, _, _], _ => rfl
  have b_law_kinds := (fun_mk (st := s_law_kinds) l_law_kinds d_law_kinds k_law_kinds).binds (ps := ["told"]) fun _ _ _ _ _ _ us hl => match us, hl with | [_], _ => rfl
  have b_law := (fun_mk (st := s_law) l_law d_law k_law).binds (ps := ["script"]) fun _ _ _ _ _ _ us hl => match us, hl with | [_], _ => rfl
  refine ⟨PySem.W.fnOf "law" "law" (defArgs s_law) (defBody s_law) (defScope s_law) .none kV_law dc_law pm_law an_law cd_law ct_law, fun s v => .of_eq rfl, fun base _ _ => ?_⟩
  have T : Txt (sta P w K mg base) := ⟨PySem.W.mg_none_of X G z_len, PySem.W.mg_none_of X G z_abs, ⟨_, PySem.W.mg_of X G z_STEP⟩, ⟨_, PySem.W.mg_of X G z_LETTERS⟩, ⟨_, PySem.W.mg_of X G z_WORD_SPAN⟩, PySem.W.mg_none_of X G z_int, PySem.W.mg_none_of X G z_isinstance, PySem.W.mg_none_of X G z_bool, PySem.W.mg_none_of X G z_range, PySem.W.mg_none_of X G z_tuple, PySem.W.mg_none_of X G z_enumerate, ⟨_, PySem.W.mg_of X G z_NEXT⟩, PySem.W.mg_none_of X G z_sorted, PySem.W.mg_none_of X G z_sum, PySem.W.mg_none_of X G z_all, PySem.W.mg_none_of X G z_list⟩
  have R_law_feed : FnG P w K mg base (CX P w) 1 f_law_feed (PySem.W.fnOf "_law_feed" "_law_feed" (defArgs s_law_feed) (defBody s_law_feed) (defScope s_law_feed) .none kV_law_feed dc_law_feed pm_law_feed an_law_feed cd_law_feed ct_law_feed) ["script", "k"] (spV (sta P w K mg base) 2 F_law_feed) := fn_vs (c := c_law_feed (sta P w K mg base)) l_law_feed d_law_feed sc_law_feed rfl rfl (ok_law_feed T )
  have R_law_take : FnG P w K mg base (CX P w) 1 f_law_take (PySem.W.fnOf "_law_take" "_law_take" (defArgs s_law_take) (defBody s_law_take) (defScope s_law_take) .none kV_law_take dc_law_take pm_law_take an_law_take cd_law_take ct_law_take) ["feed", "many"] (spV (sta P w K mg base) 2 F_law_take) := fn_vs (c := c_law_take (sta P w K mg base)) l_law_take d_law_take sc_law_take rfl rfl (ok_law_take T )
  have R_law_pick : FnG P w K mg base (CX P w) 2 f_law_pick (PySem.W.fnOf "_law_pick" "_law_pick" (defArgs s_law_pick) (defBody s_law_pick) (defScope s_law_pick) .none kV_law_pick dc_law_pick pm_law_pick an_law_pick cd_law_pick ct_law_pick) ["feed", "some"] (spV (sta P w K mg base) 2 F_law_pick) := fn_vs (c := c_law_pick (sta P w K mg base)) l_law_pick d_law_pick sc_law_pick rfl rfl (ok_law_pick T (fnAt_mk (PySem.W.mg_of X G a_law_take) k_law_take R_law_take (Nat.le_of_ble_eq_true rfl) b_law_take))
  have R_word_number : FnG P w K mg base (CX P w) 1 f_word_number (PySem.W.fnOf "word_number" "word_number" (defArgs s_word_number) (defBody s_word_number) (defScope s_word_number) .none kV_word_number dc_word_number pm_word_number an_word_number cd_word_number ct_word_number) ["word"] (spV (sta P w K mg base) 1 F_word_number) := fn_vs (c := c_word_number (sta P w K mg base)) l_word_number d_word_number sc_word_number rfl rfl (ok_word_number T )
  have R_law_of_word : FnG P w K mg base (CX P w) 1 f_law_of_word (PySem.W.fnOf "_law_of_word" "_law_of_word" (defArgs s_law_of_word) (defBody s_law_of_word) (defScope s_law_of_word) .none kV_law_of_word dc_law_of_word pm_law_of_word an_law_of_word cd_law_of_word ct_law_of_word) ["word"] (spV (sta P w K mg base) 1 F_law_of_word) := fn_vs (c := c_law_of_word (sta P w K mg base)) l_law_of_word d_law_of_word sc_law_of_word rfl rfl (ok_law_of_word T )
  have R_law_whole : FnG P w K mg base (CX P w) 1 f_law_whole (PySem.W.fnOf "_law_whole" "_law_whole" (defArgs s_law_whole) (defBody s_law_whole) (defScope s_law_whole) .none kV_law_whole dc_law_whole pm_law_whole an_law_whole cd_law_whole ct_law_whole) ["found"] (spV (sta P w K mg base) 1 F_law_whole) := fn_vs (c := c_law_whole (sta P w K mg base)) l_law_whole d_law_whole sc_law_whole rfl rfl (ok_law_whole T )
  have R_law_unlike : FnG P w K mg base (CX P w) 2 f_law_unlike (PySem.W.fnOf "_law_unlike" "_law_unlike" (defArgs s_law_unlike) (defBody s_law_unlike) (defScope s_law_unlike) .none kV_law_unlike dc_law_unlike pm_law_unlike an_law_unlike cd_law_unlike ct_law_unlike) ["feed", "many"] (spV (sta P w K mg base) 2 F_law_unlike) := fn_vs (c := c_law_unlike (sta P w K mg base)) l_law_unlike d_law_unlike sc_law_unlike rfl rfl (ok_law_unlike T (fnAt_mk (PySem.W.mg_of X G a_law_take) k_law_take R_law_take (Nat.le_of_ble_eq_true rfl) b_law_take))
  have R_law_number : FnG P w K mg base (CX P w) 3 f_law_number (PySem.W.fnOf "_law_number" "_law_number" (defArgs s_law_number) (defBody s_law_number) (defScope s_law_number) .none kV_law_number dc_law_number pm_law_number an_law_number cd_law_number ct_law_number) ["feed"] (spV (sta P w K mg base) 1 F_law_number) := fn_vs (c := c_law_number (sta P w K mg base)) l_law_number d_law_number sc_law_number rfl rfl (ok_law_number T (fnAt_mk (PySem.W.mg_of X G a_law_take) k_law_take R_law_take (Nat.le_of_ble_eq_true rfl) b_law_take) (fnAt_mk (PySem.W.mg_of X G a_law_pick) k_law_pick R_law_pick (Nat.le_of_ble_eq_true rfl) b_law_pick))
  have R_law_rows_drawn : FnG P w K mg base (CX P w) 4 f_law_rows_drawn (PySem.W.fnOf "_law_rows_drawn" "_law_rows_drawn" (defArgs s_law_rows_drawn) (defBody s_law_rows_drawn) (defScope s_law_rows_drawn) .none kV_law_rows_drawn dc_law_rows_drawn pm_law_rows_drawn an_law_rows_drawn cd_law_rows_drawn ct_law_rows_drawn) ["feed", "names", "words", "uses"] (spV (sta P w K mg base) 4 F_law_rows_drawn) := fn_vs (c := c_law_rows_drawn (sta P w K mg base)) l_law_rows_drawn d_law_rows_drawn sc_law_rows_drawn rfl rfl (ok_law_rows_drawn T (fnAt_mk (PySem.W.mg_of X G a_law_pick) k_law_pick R_law_pick (Nat.le_of_ble_eq_true rfl) b_law_pick) (fnAt_mk (PySem.W.mg_of X G a_law_number) k_law_number R_law_number (Nat.le_of_ble_eq_true rfl) b_law_number) (fnAt_mk (PySem.W.mg_of X G a_law_take) k_law_take R_law_take (Nat.le_of_ble_eq_true rfl) b_law_take))
  have R_law_gives_drawn : FnG P w K mg base (CX P w) 5 f_law_gives_drawn (PySem.W.fnOf "_law_gives_drawn" "_law_gives_drawn" (defArgs s_law_gives_drawn) (defBody s_law_gives_drawn) (defScope s_law_gives_drawn) .none kV_law_gives_drawn dc_law_gives_drawn pm_law_gives_drawn an_law_gives_drawn cd_law_gives_drawn ct_law_gives_drawn) ["feed", "names", "words", "uses", "tags"] (spV (sta P w K mg base) 5 F_law_gives_drawn) := fn_vs (c := c_law_gives_drawn (sta P w K mg base)) l_law_gives_drawn d_law_gives_drawn sc_law_gives_drawn rfl rfl (ok_law_gives_drawn T (fnAt_mk (PySem.W.mg_of X G a_law_take) k_law_take R_law_take (Nat.le_of_ble_eq_true rfl) b_law_take) (fnAt_mk (PySem.W.mg_of X G a_law_pick) k_law_pick R_law_pick (Nat.le_of_ble_eq_true rfl) b_law_pick) (fnAt_mk (PySem.W.mg_of X G a_law_number) k_law_number R_law_number (Nat.le_of_ble_eq_true rfl) b_law_number) (fnAt_mk (PySem.W.mg_of X G a_law_rows_drawn) k_law_rows_drawn R_law_rows_drawn (Nat.le_of_ble_eq_true rfl) b_law_rows_drawn))
  have R_law_library_drawn : FnG P w K mg base (CX P w) 6 f_law_library_drawn (PySem.W.fnOf "_law_library_drawn" "_law_library_drawn" (defArgs s_law_library_drawn) (defBody s_law_library_drawn) (defScope s_law_library_drawn) .none kV_law_library_drawn dc_law_library_drawn pm_law_library_drawn an_law_library_drawn cd_law_library_drawn ct_law_library_drawn) ["feed", "names", "at", "words", "given", "tags"] (spV (sta P w K mg base) 6 F_law_library_drawn) := fn_vs (c := c_law_library_drawn (sta P w K mg base)) l_law_library_drawn d_law_library_drawn sc_law_library_drawn rfl rfl (ok_law_library_drawn T (fnAt_mk (PySem.W.mg_of X G a_law_take) k_law_take R_law_take (Nat.le_of_ble_eq_true rfl) b_law_take) (fnAt_mk (PySem.W.mg_of X G a_law_pick) k_law_pick R_law_pick (Nat.le_of_ble_eq_true rfl) b_law_pick) (fnAt_mk (PySem.W.mg_of X G a_law_gives_drawn) k_law_gives_drawn R_law_gives_drawn (Nat.le_of_ble_eq_true rfl) b_law_gives_drawn) (fnAt_mk (PySem.W.mg_of X G a_law_rows_drawn) k_law_rows_drawn R_law_rows_drawn (Nat.le_of_ble_eq_true rfl) b_law_rows_drawn))
  have R_law_shelf : FnG P w K mg base (CX P w) 7 f_law_shelf (PySem.W.fnOf "_law_shelf" "_law_shelf" (defArgs s_law_shelf) (defBody s_law_shelf) (defScope s_law_shelf) .none kV_law_shelf dc_law_shelf pm_law_shelf an_law_shelf cd_law_shelf ct_law_shelf) ["feed", "most"] (spV (sta P w K mg base) 2 F_law_shelf) := fn_vs (c := c_law_shelf (sta P w K mg base)) l_law_shelf d_law_shelf sc_law_shelf rfl rfl (ok_law_shelf T (fnAt_mk (PySem.W.mg_of X G a_law_take) k_law_take R_law_take (Nat.le_of_ble_eq_true rfl) b_law_take) (fnAt_mk (PySem.W.mg_of X G a_law_pick) k_law_pick R_law_pick (Nat.le_of_ble_eq_true rfl) b_law_pick) (fnAt_mk (PySem.W.mg_of X G a_law_unlike) k_law_unlike R_law_unlike (Nat.le_of_ble_eq_true rfl) b_law_unlike) (fnAt_mk (PySem.W.mg_of X G a_law_library_drawn) k_law_library_drawn R_law_library_drawn (Nat.le_of_ble_eq_true rfl) b_law_library_drawn) (fnAt_mk (PySem.W.mg_of X G a_law_whole) k_law_whole R_law_whole (Nat.le_of_ble_eq_true rfl) b_law_whole))
  have R_chain_of : FnG P w K mg base (CX P w) 2 f_chain_of (PySem.W.fnOf "chain_of" "chain_of" (defArgs s_chain_of) (defBody s_chain_of) (defScope s_chain_of) .none kV_chain_of dc_chain_of pm_chain_of an_chain_of cd_chain_of ct_chain_of) ["library", "buckets", "place"] (spV (sta P w K mg base) 3 F_chain_of) := fn_vs (c := c_chain_of (sta P w K mg base)) l_chain_of d_chain_of sc_chain_of rfl rfl (ok_chain_of T (fnAt_mk (PySem.W.mg_of X G a_word_number) k_word_number R_word_number (Nat.le_of_ble_eq_true rfl) b_word_number))
  have R_bits_of : FnG P w K mg base (CX P w) 2 f_bits_of (PySem.W.fnOf "bits_of" "bits_of" (defArgs s_bits_of) (defBody s_bits_of) (defScope s_bits_of) .none kV_bits_of dc_bits_of pm_bits_of an_bits_of cd_bits_of ct_bits_of) ["word", "width"] (spV (sta P w K mg base) 2 F_bits_of) := fn_vs (c := c_bits_of (sta P w K mg base)) l_bits_of d_bits_of sc_bits_of rfl rfl (ok_bits_of T (fnAt_mk (PySem.W.mg_of X G a_word_number) k_word_number R_word_number (Nat.le_of_ble_eq_true rfl) b_word_number))
  have R_sieve_of : FnG P w K mg base (CX P w) 3 f_sieve_of (PySem.W.fnOf "sieve_of" "sieve_of" (defArgs s_sieve_of) (defBody s_sieve_of) (defScope s_sieve_of) .none kV_sieve_of dc_sieve_of pm_sieve_of an_sieve_of cd_sieve_of ct_sieve_of) ["library", "width"] (spV (sta P w K mg base) 2 F_sieve_of) := fn_vs (c := c_sieve_of (sta P w K mg base)) l_sieve_of d_sieve_of sc_sieve_of rfl rfl (ok_sieve_of T (fnAt_mk (PySem.W.mg_of X G a_bits_of) k_bits_of R_bits_of (Nat.le_of_ble_eq_true rfl) b_bits_of))
  have R_table_of : FnG P w K mg base (CX P w) 4 f_table_of (PySem.W.fnOf "table_of" "table_of" (defArgs s_table_of) (defBody s_table_of) (defScope s_table_of) .none (.ref D_table_of) dc_table_of pm_table_of an_table_of cd_table_of ct_table_of) ["library", "buckets", "width"] (spV (sta P w K mg base) 3 F_table_of) := fn_vs (c := c_table_of (sta P w K mg base)) l_table_of d_table_of sc_table_of rfl rfl (ok_table_of T (fnAt_mk (PySem.W.mg_of X G a_chain_of) k_chain_of R_chain_of (Nat.le_of_ble_eq_true rfl) b_chain_of) (fnAt_mk (PySem.W.mg_of X G a_sieve_of) k_sieve_of R_sieve_of (Nat.le_of_ble_eq_true rfl) b_sieve_of))
  have R_law_table : FnG P w K mg base (CX P w) 2 f_law_table (PySem.W.fnOf "_law_table" "_law_table" (defArgs s_law_table) (defBody s_law_table) (defScope s_law_table) .none kV_law_table dc_law_table pm_law_table an_law_table cd_law_table ct_law_table) ["library", "many", "span"] (spV (sta P w K mg base) 3 F_law_table) := fn_vs (c := c_law_table (sta P w K mg base)) l_law_table d_law_table sc_law_table rfl rfl (ok_law_table T (fnAt_mk (PySem.W.mg_of X G a_law_of_word) k_law_of_word R_law_of_word (Nat.le_of_ble_eq_true rfl) b_law_of_word))
  have R_law_kinds : FnG P w K mg base (CX P w) 2 f_law_kinds (PySem.W.fnOf "_law_kinds" "_law_kinds" (defArgs s_law_kinds) (defBody s_law_kinds) (defScope s_law_kinds) .none kV_law_kinds dc_law_kinds pm_law_kinds an_law_kinds cd_law_kinds ct_law_kinds) ["told"] (spV (sta P w K mg base) 1 F_law_kinds) := fn_vs (c := c_law_kinds (sta P w K mg base)) l_law_kinds d_law_kinds sc_law_kinds rfl rfl (ok_law_kinds T (fnAt_mk (PySem.W.mg_of X G a_law_whole) k_law_whole R_law_whole (Nat.le_of_ble_eq_true rfl) b_law_whole))
  have Q_table_of_width_buckets : FnAtK (sta P w K mg base) 7 "table_of" 3 F_table_of 1 ["width", "buckets"] [.inl 1, .inl 0] := by
    obtain ⟨mv, kb⟩ := FD_table_of.kbinds0 (ps := ["library", "buckets", "width"]) 1 ["width", "buckets"] [] (fun vs mz zs => vs ++ ((zs.drop 1).take 1 ++ ((zs.drop 0).take 1 ++ []))) (by simp) (fun q hq => nomatch hq) (fun r1 r2 r3 => r1.append (Vals.append ((r3.drop 1).take 1) (Vals.append ((r3.drop 0).take 1) .nil))) fun _ _ _ _ _ _ us mv ws h1 h2 h3 => match us, mv, ws, h1, h2, h3 with | [_], [], [_, _], _, _, _ => rfl
    exact ⟨f_table_of, _, _, _, _, _, [.inl 1, .inl 0], PySem.W.mg_of X G a_table_of, k_table_of, R_table_of, Nat.le_of_ble_eq_true rfl, kb, fun vs zs _ h => match zs, h with | [_, _], _ => rfl, (.kw (by decide) (.kw (by decide) .nil))⟩
  have Q_table_of_buckets : FnAtK (sta P w K mg base) 7 "table_of" 3 F_table_of 1 ["buckets"] [.inl 0, .inr (.int 32)] := by
    obtain ⟨mv, kb⟩ := FD_table_of.kbinds0 (ps := ["library", "buckets", "width"]) 1 ["buckets"] [("width", (.int 32))] (fun vs mz zs => vs ++ ((zs.drop 0).take 1 ++ ((mz.drop 0).take 1 ++ []))) (by simp) (fun q hq => by
    simp only [List.mem_cons, List.not_mem_nil, or_false] at hq
    rcases hq with rfl <;> simp) (fun r1 r2 r3 => r1.append (Vals.append ((r3.drop 0).take 1) (Vals.append ((r2.drop 0).take 1) .nil))) fun _ _ _ _ _ _ us mv ws h1 h2 h3 => match us, mv, ws, h1, h2, h3 with | [_], [_], [_], _, _, _ => ⟨_, _, _, _, _, _, rfl, rfl, (by first | rfl | with_unfolding_all rfl)⟩
    exact ⟨f_table_of, _, _, _, _, _, [.inl 0, .inr (.int 32)], PySem.W.mg_of X G a_table_of, k_table_of, R_table_of, Nat.le_of_ble_eq_true rfl, kb, fun vs zs _ h => match zs, h with | [_], _ => rfl, (.kw (by decide) (.df (fun _ => .int _) .nil))⟩
  have R_law : FnG P w K mg base (CX P w) 8 f_law (PySem.W.fnOf "law" "law" (defArgs s_law) (defBody s_law) (defScope s_law) .none kV_law dc_law pm_law an_law cd_law ct_law) ["script"] (spV (sta P w K mg base) 1 F_law) := fn_vs (c := c_law (sta P w K mg base)) l_law d_law sc_law rfl rfl (ok_law T (fnAt_mk (PySem.W.mg_of X G a_law_feed) k_law_feed R_law_feed (Nat.le_of_ble_eq_true rfl) b_law_feed) (fnAt_mk (PySem.W.mg_of X G a_law_take) k_law_take R_law_take (Nat.le_of_ble_eq_true rfl) b_law_take) (fnAt_mk (PySem.W.mg_of X G a_law_pick) k_law_pick R_law_pick (Nat.le_of_ble_eq_true rfl) b_law_pick) (fnAt_mk (PySem.W.mg_of X G a_word_number) k_word_number R_word_number (Nat.le_of_ble_eq_true rfl) b_word_number) (fnAt_mk (PySem.W.mg_of X G a_law_of_word) k_law_of_word R_law_of_word (Nat.le_of_ble_eq_true rfl) b_law_of_word) (fnAt_mk (PySem.W.mg_of X G a_law_whole) k_law_whole R_law_whole (Nat.le_of_ble_eq_true rfl) b_law_whole) (fnAt_mk (PySem.W.mg_of X G a_law_shelf) k_law_shelf R_law_shelf (Nat.le_of_ble_eq_true rfl) b_law_shelf) Q_table_of_width_buckets (fnAt_mk (PySem.W.mg_of X G a_law_table) k_law_table R_law_table (Nat.le_of_ble_eq_true rfl) b_law_table) (fnAt_mk (PySem.W.mg_of X G a_law_kinds) k_law_kinds R_law_kinds (Nat.le_of_ble_eq_true rfl) b_law_kinds) ⟨f_table_of, _, _, _, ds_table_of, _, PySem.W.mg_of X G a_table_of, k_table_of, R_table_of, Nat.le_of_ble_eq_true rfl, b_table_of, hv_table_of, fun _ => (.cons (.int _) (.cons (.int _) .nil))⟩ Q_table_of_buckets)
  exact fnok_imp R_law (law_sp (S := sta P w K mg base) hF)
end K26

namespace K26
open PySem VS L2
/-! the drawing -/
def fdD (f : Int × Int) : Dat := .lst [.int f.1, .int f.2]
theorem take_w {f : Int × Int} {m : Int} {ob : List OVal} {K : FOut → Prop} (h0 : 0 < m) (h1 : m < 2 ^ 256) (h : ∀ x f', 0 ≤ x → x < m → K (.ok (.fr (.int x)) [.ow (fdD f'), .fr (.int m)] ob)) : WF F_law_take [.ow (fdD f), .fr (.int m)] ob K := by
  obtain ⟨a, b⟩ := f
  unfold F_law_take g_law_take fdD
  simp -dsimp
  split
  · rename_i ha
    simp -dsimp [x_mod h0, x_div h0 h1]
    exact h _ (a / m, b) (Int.emod_nonneg _ (by omega)) (Int.emod_lt_of_pos _ h0)
  · simp -dsimp [x_mod, x_div, x_mulS]
    rw [x_mod h0]
    simp -dsimp
    exact h _ (a, (b * 48271 + 12345) % 2305843009213693951) (Int.emod_nonneg _ (by omega)) (Int.emod_lt_of_pos _ h0)
theorem pick_w {f : Int × Int} {ds : List Dat} {ob : List OVal} {K : FOut → Prop} (h0 : ds ≠ []) (h1 : ds.length ≤ 1000000) (h : ∀ d f', d ∈ ds → K (.ok (.fr d) [.ow (fdD f'), .fr (.lst ds)] ob)) : WF F_law_pick [.ow (fdD f), .fr (.lst ds)] ob K := by
  have hl : 0 < ds.length := List.length_pos_iff.mpr h0
  unfold F_law_pick g_law_pick
  simp -dsimp
  refine take_w (by omega) (by omega) fun x f' x0 x1 => ?_
  simp -dsimp
  refine OQ_atD x0 x1 fun d _ hd => ?_
  simp -dsimp
  exact h d f' hd
theorem pickM_w {β : Type} {enc : β → Dat} {f : Int × Int} {xs : List β} {ob : List OVal} {K : FOut → Prop} (h0 : xs ≠ []) (h1 : xs.length ≤ 1000000) (h : ∀ x f', x ∈ xs → K (.ok (.fr (enc x)) [.ow (fdD f'), .fr (.lst (xs.map enc))] ob)) : WF F_law_pick [.ow (fdD f), .fr (.lst (xs.map enc))] ob K := by
  refine pick_w (by simpa using h0) (by simpa using h1) fun d f' hd => ?_
  obtain ⟨x, hx, rfl⟩ := List.mem_map.mp hd
  exact h x f' hx
theorem at_ints (ns : List Int) (k : Nat) (h : k < ns.length) : L2.atI (ns.map Dat.int) (k : Int) = some (.int ns[k]) := by
  rw [x_atI_cast]
  simp [h]
/-- _law_feed with its great numbers as variables -/
def gf (m1 m2 m3 m4 : Int) : Act Flw := (seqA (setA 2 (op2 addGT (op2 mulGS (cst (.int 67)) (var 1)) (cst (.int 19))))
    (seqA (iteA (testA (op2 ltG (var 1) (callA lenD (consA (var 0) (Act.ret [])))))
    (setA 2 (op2 ixGD (var 0) (var 1)))
    (Act.ret .nx))
    (seqA (setA 3 (cst (.int 0)))
    (seqA (iteA (testA (op2 geG (callA absD (consA (var 2) (Act.ret []))) (op2 powG (cst (.int 10)) (cst (.int 18)))))
    (setA 3 (op2 subG (callA absD (consA (var 2) (Act.ret []))) (op2 powG (cst (.int 10)) (cst (.int 18)))))
    (Act.ret .nx))
    (retA (fun i => decide (i < 2)) (lstA (consA (var 3) (consA (op2 modG (op2 addGT (op2 addGT (op2 mulGS (var 2) (cst (.int m1))) (op2 mulGS (cst (.int m2)) (var 1))) (cst (.int m3))) (cst (.int m4))) (Act.ret [])))))))))
theorem g_feed_eq : g_law_feed = gf 6364136223846793005 7919 1442695040888963407 2305843009213693951 := rfl
theorem gf_w (m1 m2 m3 m4 : Int) (S : Dat) (k l A : Int) (one : Int) (h1 : ∀ x, mulGS (.int x) (.int m1) = some (.fr (.int (x * m1)))) (h2 : mulGS (.int m2) (.int k) = some (.fr (.int (m2 * k)))) (h67 : mulGS (.int 67) (.int k) = some (.fr (.int (67 * k)))) (h4 : ∀ x, modG (.int x) (.int m4) = some (.fr (.int (x % m4))))
    (hl : lenD [S] = some (.fr (.int l))) (hp : powG (.int 10) (.int 18) = some (.fr (.int A))) (hx : k < l → ixGD S (.int k) = some (.fr (.int one))) (ob : List OVal) {Q : Flw → VS.St → Prop} {E : XQ} (h : ∀ a b x2 x3, Q (.rt (.tp (.lst [.int a, .int b]))) ⟨[some (.fr S), some (.fr (.int k)), x2, x3], ob⟩) :
    WP (gf m1 m2 m3 m4) ⟨[some (.fr S), some (.fr (.int k)), none, none], ob⟩ Q E := by
  have ha : ∀ i, absD [.int i] = some (.fr (.int (if i < 0 then -i else i))) := fun i => rfl
  have z2 : 2 ≤ sizeLine := by decide
  unfold gf
  simp -dsimp [h67, hl, ha, hp]
  by_cases hc : k < l
  · simp -dsimp [hc, hx hc, ha, hp]
    repeat' split
    all_goals (simp -dsimp [ha, hp, h1, h2, h4, z2]; repeat' split)
    all_goals exact h _ _ _ _
  · simp -dsimp [hc, ha, hp]
    repeat' split
    all_goals (simp -dsimp [ha, hp, h1, h2, h4, z2]; repeat' split)
    all_goals exact h _ _ _ _
theorem feed_w {ns : List Int} {k : Int} {ob : List OVal} {K : FOut → Prop} (h0 : 0 ≤ k) (h1 : k < 2 ^ 60) (h : ∀ f, K (.ok (.tp (fdD f)) [.fr (intsD ns), .fr (.int k)] ob)) : WF F_law_feed [.fr (intsD ns), .fr (.int k)] ob K := by
  have hl : lenD [intsD ns] = some (.fr (.int (ns.length : Int))) := by
    show some (ER.fr (.int ((ns.map Dat.int).length : Nat))) = _
    rw [List.length_map]
  have hp : powG (.int 10) (.int 18) = some (.fr (.int 1000000000000000000)) := by rw [powG_int, if_pos (by decide)]; rfl
  have hx : k < (ns.length : Int) → ixGD (intsD ns) (.int k) = some (.fr (.int (ns.getD k.toNat 0))) := fun hk => by
    obtain ⟨n, rfl⟩ : ∃ n : Nat, k = (n : Int) := ⟨k.toNat, by omega⟩
    show ixGD (.lst (ns.map Dat.int)) (.int (n : Int)) = _
    have hn : n < ns.length := by omega
    rw [ixGD_lst, at_ints ns n hn]
    simp [hn]
  unfold F_law_feed
  rw [g_feed_eq, wf_runB]
  refine ⟨rfl, rfl, gf_w _ _ _ _ (intsD ns) k _ _ _ (fun x => x_mulS (.inr (by decide))) (x_mulS (.inl (by decide))) (x_mulS (.inl (by decide))) (fun x => x_mod (by decide)) hl hp hx ob fun a b x2 x3 => ?_⟩
  rw [rK_rt]
  exact ⟨_, rfl, h (a, b)⟩
/-! letters, texts -/
theorem Tx.app {n m : Nat} {x y : Str} (hx : Tx n x) (hy : Tx m y) : Tx (n + m) (x ++ y) := by
  refine ⟨by rw [strLen_append]; have := hx.1; have := hy.1; omega, fun c hc => ?_⟩
  have hc : c ∈ (x.cps ++ y.cps).toList := hc
  rw [Array.toList_append, List.mem_append] at hc
  rcases hc with hc | hc
  · exact hx.2 c hc
  · exact hy.2 c hc
theorem repS_len (x : Str) (k : Nat) : (repS x k).length = k * x.length := by
  show (List.replicate k x.cps.toList).flatten.toArray.size = _
  simp
  rfl
theorem Tx.rep {n : Nat} {x : Str} (hx : Tx n x) (k : Nat) : Tx (k * n) (repS x k) := by
  refine ⟨by rw [repS_len]; exact Nat.mul_le_mul_left k hx.1, fun c hc => ?_⟩
  have hc : c ∈ (List.replicate k x.cps.toList).flatten := by simpa [repS] using hc
  rw [List.mem_flatten] at hc
  obtain ⟨l, hl, hc⟩ := hc
  have := (List.mem_replicate.mp hl).2
  subst this
  exact hx.2 c hc
theorem tx_of {s : Str} (h : s.cps.toList.all (fun c => decide (c < 128)) = true) : Tx s.length s := ⟨Nat.le_refl _, fun c hc => by simpa using List.all_eq_true.mp h c hc⟩
theorem letter {i : Int} (h0 : 0 ≤ i) (h1 : i < 26) : ∃ x, ixS (.str "abcdefghijklmnopqrstuvwxyz") (.int i) = some (.fr (.str x)) ∧ Tx 1 x ∧ x.length = 1 := by
  have hlen : (Str.ofString "abcdefghijklmnopqrstuvwxyz").cps.toList.length = 26 := by decide +kernel
  have hall : (Str.ofString "abcdefghijklmnopqrstuvwxyz").cps.toList.all (fun c => decide (c < 128)) = true := by decide +kernel
  have hs : (Str.ofString "abcdefghijklmnopqrstuvwxyz").length ≤ sizeLine := by decide +kernel
  have e : ixS (.str "abcdefghijklmnopqrstuvwxyz") (.int i) = if (Str.ofString "abcdefghijklmnopqrstuvwxyz").length ≤ sizeLine then (atI (Str.ofString "abcdefghijklmnopqrstuvwxyz").cps.toList i).map fun k => ER.fr (.str ⟨#[k]⟩) else none := rfl
  rw [e, if_pos hs]
  generalize (Str.ofString "abcdefghijklmnopqrstuvwxyz").cps.toList = l at hlen hall
  rw [atI_nat _ _ h0]
  have hi : i.toNat < l.length := by omega
  rw [List.getElem?_eq_getElem hi]
  refine ⟨_, rfl, ⟨Nat.le_refl _, fun c hc => ?_⟩, rfl⟩
  have : c = l[i.toNat] := by simpa using hc
  subst this
  simpa using List.all_eq_true.mp hall _ (List.getElem_mem hi)
end K26

namespace K26
open PySem VS L2
/-! names that differ at a drawn place -/
def Az (x : Str) : Prop := ∀ c ∈ x.cps.toList, 97 ≤ c ∧ c ≤ 122
structure Nm (x : Str) : Prop where
  l0 : 1 ≤ x.length
  l1 : x.length ≤ 8
  az : Az x
theorem Nm.tx {x : Str} (h : Nm x) : Tx 8 x := ⟨h.l1, fun c hc => by have := h.az c hc; omega⟩
theorem Az.app {x y : Str} (hx : Az x) (hy : Az y) : Az (x ++ y) := fun c hc => by
  have hc : c ∈ (x.cps ++ y.cps).toList := hc
  rw [Array.toList_append, List.mem_append] at hc
  rcases hc with hc | hc
  · exact hx c hc
  · exact hy c hc
theorem Az.rep {x : Str} (hx : Az x) (k : Nat) : Az (repS x k) := fun c hc => by
  have hc : c ∈ (List.replicate k x.cps.toList).flatten := by simpa [repS] using hc
  rw [List.mem_flatten] at hc
  obtain ⟨l, hl, hc⟩ := hc
  have := (List.mem_replicate.mp hl).2
  subst this
  exact hx c hc
def azB (x : Str) : Bool := x.cps.toList.all fun c => decide (97 ≤ c) && decide (c ≤ 122)
theorem az_of {x : Str} (h : azB x = true) : Az x := fun c hc => by
  have := List.all_eq_true.mp h c hc
  simpa using this
/-- a sign of a text of letters -/
theorem sign_at {r : Str} (hr : Az r) (hl : r.length ≤ 100) {i : Int} (h0 : 0 ≤ i) (h1 : i < r.length) : ∃ x, ixS (.str r) (.int i) = some (.fr (.str x)) ∧ Az x ∧ x.length = 1 := by
  have e : ixS (.str r) (.int i) = if r.length ≤ sizeLine then (atI r.cps.toList i).map fun k => ER.fr (.str ⟨#[k]⟩) else none := rfl
  have hlen : r.cps.toList.length = r.length := by simp [Str.length]
  rw [e, if_pos (by rw [sizeLine_eq]; omega), atI_nat _ _ h0]
  have hi : i.toNat < r.cps.toList.length := by omega
  rw [List.getElem?_eq_getElem hi]
  refine ⟨_, rfl, fun c hc => ?_, rfl⟩
  have : c = r.cps.toList[i.toNat] := by simpa using hc
  subst this
  exact hr _ (List.getElem_mem hi)
def fillB (k : Nat) : Bool := match (Str.ofString "abcefghijklmnopqrstuvwxyz").cps.toList[k]? with
  | some c => (let r := Txt.replace (Str.ofString "abcdefghijklmnopqrstuvwxyz") ⟨#[c]⟩ ""; azB r && decide (r.length = 25)) && azB ⟨#[c]⟩
  | none => false
theorem fill_all : (List.range 25).all fillB = true := by decide +kernel
theorem fill {i : Int} (h0 : 0 ≤ i) (h1 : i < 25) : ∃ x, ixS (.str "abcefghijklmnopqrstuvwxyz") (.int i) = some (.fr (.str x)) ∧ Az x ∧ x.length = 1 ∧ Az (Txt.replace "abcdefghijklmnopqrstuvwxyz" x "") ∧ (Txt.replace "abcdefghijklmnopqrstuvwxyz" x "").length = 25 := by
  obtain ⟨n, rfl⟩ : ∃ n : Nat, i = n := ⟨i.toNat, by omega⟩
  have h := List.all_eq_true.mp fill_all n (List.mem_range.mpr (by omega))
  have hs : (Str.ofString "abcefghijklmnopqrstuvwxyz").length ≤ sizeLine := by decide +kernel
  have e : ixS (.str "abcefghijklmnopqrstuvwxyz") (.int (n : Int)) = if (Str.ofString "abcefghijklmnopqrstuvwxyz").length ≤ sizeLine then (atI (Str.ofString "abcefghijklmnopqrstuvwxyz").cps.toList (n : Int)).map fun k => ER.fr (.str ⟨#[k]⟩) else none := rfl
  rw [e, if_pos hs, atI_nat _ _ h0, Int.toNat_natCast]
  unfold fillB at h
  generalize (Str.ofString "abcefghijklmnopqrstuvwxyz").cps.toList[n]? = o at h
  cases o with
  | none => cases h
  | some c =>
    simp only [Bool.and_eq_true, decide_eq_true_eq] at h
    exact ⟨_, rfl, az_of h.2, rfl, az_of h.1.1, h.1.2⟩
theorem unlike_w {f : Int × Int} {m : Int} {ob : List OVal} {K : FOut → Prop} (m0 : 0 ≤ m) (m1 : m ≤ 100) (h : ∀ f' (ns : List Str), ns.length = m.toNat → (∀ x ∈ ns, Nm x) → K (.ok (.tp (.lst (ns.map .str))) [.ow (fdD f'), .fr (.int m)] ob)) : WF F_law_unlike [.ow (fdD f), .fr (.int m)] ob K := by
  have z6 : 6 ≤ sizeLine := by decide
  have hz : sizeLine = 16777216 := sizeLine_eq
  have h26 : (Str.ofString "abcdefghijklmnopqrstuvwxyz").length ≤ 1000 := by decide +kernel
  unfold F_law_unlike g_law_unlike
  simp -dsimp
  refine take_w (by decide) (by decide) fun a f1 a0 a1 => ?_
  obtain ⟨fl, e1, q1, q2, q3, q4⟩ := fill a0 a1
  simp -dsimp [e1, h26, q2]
  generalize hr : Txt.replace (Str.ofString "abcdefghijklmnopqrstuvwxyz") fl "" = r at q3 q4
  refine take_w (by decide) (by decide) fun fst f2 b0 b1 => ?_
  simp -dsimp
  refine take_w (by decide) (by decide) fun place f3 p0 p1 => ?_
  simp -dsimp [z6]
  refine take_w (by decide) (by decide) fun s f4 s0 s1 => ?_
  simp -dsimp
  obtain ⟨stride, est, st0, st1⟩ : ∃ k : Int, L2.atI [Dat.int 1, .int 2, .int 3, .int 4, .int 6, .int 7] s = some (.int k) ∧ 0 ≤ k ∧ k ≤ 7 := by
    have : s = 0 ∨ s = 1 ∨ s = 2 ∨ s = 3 ∨ s = 4 ∨ s = 5 := by omega
    rcases this with rfl | rfl | rfl | rfl | rfl | rfl
    all_goals exact ⟨_, rfl, by omega, by omega⟩
  simp -dsimp [est]
  refine OQ_range (by omega) (by omega) ?_
  simp -dsimp [noOwn]
  refine lc_st1 (enc := fun n : Nat => Dat.int (n : Int)) (fun _ : Unit => _) (c0 := ()) Dat.str (fun _ y => Az y ∧ y.length = 1) (fun k hk _ => ?_) fun sg _ sl sP => ?_
  · obtain ⟨x, e2, x1, x2⟩ := sign_at q3 (by omega) (i := (fst + stride * (k : Int)) % 25) (Int.emod_nonneg _ (by decide)) (by rw [q4]; exact Int.emod_lt_of_pos _ (by decide))
    simp -dsimp [x_mulS (i := stride) (j := (k : Int)) (.inl (by omega)), x_mod (show (0 : Int) < 25 by decide), e2]
    exact ⟨_, (), ⟨x1, x2⟩, rfl, rfl⟩
  have hsl : sg.length ≤ 100 := by simp at sl; omega
  simp -dsimp
  refine ⟨by omega, ?_⟩
  try simp -dsimp [noOwn]
  refine lc_st1 (enc := Dat.str) (fun f : Int × Int => ⟨[some (.ow (fdD f)), some (.fr (.int m)), some (.fr (.str "abcdefghijklmnopqrstuvwxyz")), some (.fr (.str fl)), some (.fr (.lst (sg.map .str))), some (.fr (.int fst)), some (.fr (.int place)), some (.fr (.int stride)), none, none], ob⟩) (c0 := f4) Dat.str (fun _ y => Nm y) (fun x hx f => ?_) fun ns f5 nl nP => ?_
  · have hx := (sP x hx).elim fun _ z => z.2
    have k1 := repS_len fl place.toNat
    rw [q2, Nat.mul_one] at k1
    simp -dsimp [q2]
    refine ⟨by omega, ?_⟩
    have l1 : (repS fl place.toNat ++ x).length = place.toNat + 1 := by rw [strLen_append, k1, hx.2]
    refine ⟨by rw [k1, hx.2]; omega, ?_⟩
    refine take_w (by omega) (by omega) fun t f6 t0 t1 => ?_
    have k2 := repS_len fl t.toNat
    rw [q2, Nat.mul_one] at k2
    simp -dsimp [q2]
    refine ⟨by omega, by rw [l1, k2]; omega, ?_⟩
    exact ⟨_, f6, ⟨by rw [strLen_append, l1, k2]; omega, by rw [strLen_append, l1, k2]; omega, ((q1.rep _).app hx.1).app (q1.rep _)⟩, rfl, rfl⟩
  simp -dsimp
  refine ⟨by omega, ?_⟩
  exact h f5 ns (by rw [nl]; simpa using sl) fun x hx => (nP x hx).elim fun _ z => z.2
end K26

namespace K26
open PySem VS L2
/-! libraries as data; rows -/
def strsD (ws : List Str) : Dat := .lst (ws.map .str)
structure Use where
  w : Str
  v : Str
  ce : Bool
  mu : Bool
def useD (u : Use) : Dat := .tup [.str u.w, .str u.v, .bl u.ce, .bl u.mu]
def usD (us : List Use) : Dat := .lst (us.map useD)
inductive Rw where
  | tell (n : Int)
  | lib (w x : Str)
  | ask (x w : Str)
  | call (k : Nat)
  | cell (w : Str) (k : Nat)
  | cnum (w : Str) (k : Nat) (n : Int)
def rowD : Rw → Dat
  | .tell n => .tup [.str "tell", .int n]
  | .lib w x => .tup [.str w, .str x]
  | .ask x w => .tup [.str "ask", .str x, .str w]
  | .call k => .tup [.str "call", .int (k : Int)]
  | .cell w k => .tup [.str w, .int (k : Int)]
  | .cnum w k n => .tup [.str w, .int (k : Int), .int n]
def NumOk (n : Int) : Prop := n.natAbs < 10 ^ 40
def RwOk (us : List Use) : Rw → Prop
  | .tell n => NumOk n
  | .lib w x => (w = "drop" ∨ w = "bring" ∨ w = "share") ∧ Nm x
  | .ask x w => Nm x ∧ Nm w
  | .call k => ∃ u, us[k]? = some u ∧ u.ce = false
  | .cell w k => (w = "show" ∨ w = "skip") ∧ ∃ u, us[k]? = some u ∧ u.ce = true
  | .cnum w k n => (w = "put" ∨ w = "add") ∧ NumOk n ∧ ∃ u, us[k]? = some u ∧ u.ce = true
theorem len_strs (xs : List Str) : lenD [strsD xs] = some (.fr (.int (xs.length : Int))) := by
  show some (ER.fr (.int ((xs.map Dat.str).length : Nat))) = _
  rw [List.length_map]
theorem len_us (us : List Use) : lenD [usD us] = some (.fr (.int (us.length : Int))) := by
  show some (ER.fr (.int ((us.map useD).length : Nat))) = _
  rw [List.length_map]
theorem at_nat {β : Type} {enc : β → Dat} {xs : List β} {n : Nat} (h : n < xs.length) : L2.atI (xs.map enc) (n : Int) = some (enc xs[n]) := by
  rw [x_atI_cast]
  simp [h]
theorem at_strs {xs : List Str} {n : Nat} (h : n < xs.length) : ixGD (strsD xs) (.int (n : Int)) = some (.fr (.str xs[n])) := by
  unfold strsD
  rw [ixGD_lst, at_nat h]
  rfl
theorem at_us {us : List Use} {n : Nat} (h : n < us.length) : ixGD (usD us) (.int (n : Int)) = some (.fr (useD us[n])) := by
  unfold usD
  rw [ixGD_lst, at_nat h]
  rfl
theorem pickS_w {f : Int × Int} {xs : List Str} {ob : List OVal} {K : FOut → Prop} (h0 : xs ≠ []) (h1 : xs.length ≤ 1000000) (h : ∀ x f', x ∈ xs → K (.ok (.fr (.str x)) [.ow (fdD f'), .fr (strsD xs)] ob)) : WF F_law_pick [.ow (fdD f), .fr (strsD xs)] ob K := pickM_w h0 h1 h
theorem number_w {f : Int × Int} {ob : List OVal} {K : FOut → Prop} (h : ∀ f' n, NumOk n → K (.ok (.fr (.int n)) [.ow (fdD f')] ob)) : WF F_law_number [.ow (fdD f)] ob K := by
  have z5 : 5 ≤ sizeLine := by decide
  have p8 : powG (.int 10) (.int 8) = some (.fr (.int 100000000)) := by rw [powG_int, if_pos (by decide)]; rfl
  have p9 : powG (.int 10) (.int 9) = some (.fr (.int 1000000000)) := by rw [powG_int, if_pos (by decide)]; rfl
  unfold F_law_number g_law_number
  simp -dsimp
  refine take_w (by decide) (by decide) fun a f1 a0 a1 => ?_
  simp -dsimp [p8, p9, x_mulS (i := 5) (j := 100000000) (.inl (by decide))]
  refine take_w (by decide) (by decide) fun b f2 b0 b1 => ?_
  simp -dsimp [z5]
  refine pick_w (by simp) (by simp) fun d f3 hd => ?_
  simp -dsimp
  simp only [List.mem_cons, List.not_mem_nil, or_false] at hd
  rcases hd with rfl | rfl | rfl | rfl | rfl
  all_goals exact h f3 _ (by unfold NumOk; omega)
/-- a list that may still be changed, or not any more -/
def Ls (s : VS.Slot) (d : Dat) : Prop := s = .ow d ∨ s = .fr d
def stR (ob : List OVal) (names ws : List Str) (us : List Use) (f : Int × Int) (ss : List Rw) (x5 x6 : Option VS.Slot) : VS.St := ⟨[some (.ow (fdD f)), some (.fr (strsD names)), some (.fr (strsD ws)), some (.fr (usD us)), some (.ow (.lst (ss.map rowD))), x5, x6, none, none], ob⟩
theorem rows_w {f : Int × Int} {names ws : List Str} {us : List Use} {ob : List OVal} {K : FOut → Prop} (n0 : names ≠ []) (n1 : names.length ≤ 1000) (hn : ∀ x ∈ names, Nm x) (w0 : ws ≠ []) (w1 : ws.length ≤ 1000) (hw : ∀ x ∈ ws, Nm x) (u1 : us.length ≤ 8)
    (h : ∀ f' (rs : List Rw), (∀ r ∈ rs, RwOk us r) → rs.length ≤ 8 → K (.ok (.fr (.tup (rs.map rowD))) [.ow (fdD f'), .fr (strsD names), .fr (strsD ws), .fr (usD us)] ob)) :
    WF F_law_rows_drawn [.ow (fdD f), .fr (strsD names), .fr (strsD ws), .fr (usD us)] ob K := by
  have hz : sizeLine = 16777216 := sizeLine_eq
  have z1 : 1 ≤ sizeLine := by decide
  have z2 : 2 ≤ sizeLine := by decide
  have z3 : 3 ≤ sizeLine := by decide
  have z4 : 4 ≤ sizeLine := by decide
  unfold F_law_rows_drawn g_law_rows_drawn
  simp -dsimp
  refine number_w fun f1 n1' hn1 => ?_
  simp -dsimp [z2]
  refine pickS_w n0 (by omega) fun a f2 ha => ?_
  simp -dsimp [z2]
  refine pickS_w n0 (by omega) fun b f3 hb => ?_
  simp -dsimp [z2, z3]
  refine pickS_w n0 (by omega) fun c f4 hc => ?_
  simp -dsimp [z2]
  refine pickS_w n0 (by omega) fun d f5 hd => ?_
  simp -dsimp
  refine pickS_w w0 (by omega) fun e f6 he => ?_
  simp -dsimp [z2, z3, len_us]
  refine ⟨by omega, ?_⟩
  refine OQ_range (by omega) (by omega) ?_
  refine wp_for (enc := fun n : Nat => Dat.int (n : Int)) (fun done ς => ∃ f' ss x5 x6, ((∀ r ∈ ss, RwOk us r) ∧ ss.length ≤ 5 + 4 * done.length ∧ ss ≠ []) ∧ ς = stR ob names ws us f' ss x5 x6) ⟨f6, [.tell n1', .lib "drop" a, .lib "bring" b, .lib "share" c, .ask d e], none, none, ⟨?_, by simp, by simp⟩, rfl⟩ ?_ ?_
  · intro r hr
    simp only [List.mem_cons, List.not_mem_nil, or_false] at hr
    rcases hr with rfl | rfl | rfl | rfl | rfl
    · exact hn1
    · exact ⟨.inl rfl, hn a ha⟩
    · exact ⟨.inr (.inl rfl), hn b hb⟩
    · exact ⟨.inr (.inr rfl), hn c hc⟩
    · exact ⟨hn d hd, hw e he⟩
  · rintro done k rest _ e ⟨f', ss, x5, x6, ⟨hs, hl, h0⟩, rfl⟩
    have hk : k < us.length := by
      have : k ∈ List.range (us.length : Int).toNat := by rw [e]; simp
      simpa using this
    have hdl : done.length ≤ 8 := by
      have := congrArg List.length e
      simp at this
      omega
    have hu : us[k]? = some us[k] := List.getElem?_eq_getElem hk
    unfold stR
    have ec : ixGD (useD us[k]) (.int 2) = some (.fr (.bl us[k].ce)) := rfl
    simp -dsimp [z2, z1, at_us hk, ec]
    cases hce : us[k].ce with
    | false =>
      simp -dsimp
      refine ⟨by omega, f', ss ++ [.call k], _, _, ⟨fun r hr => ?_, by simp; omega, by simp⟩, by rw [List.map_append]; rfl⟩
      rcases List.mem_append.mp hr with hr | hr
      · exact hs r hr
      · rw [List.mem_singleton.mp hr]; exact ⟨_, hu, hce⟩
    | true =>
      simp -dsimp [z2]
      refine number_w fun f7 n7 h7 => ?_
      simp -dsimp [z3]
      refine number_w fun f8 n8 h8 => ?_
      simp -dsimp [z3, z4]
      refine ⟨by omega, by omega, f8, ss ++ [.cell "show" k, .cell "skip" k, .cnum "put" k n7, .cnum "add" k n8], _, _, ⟨fun r hr => ?_, by simp; omega, by simp⟩, by rw [List.map_append]; rfl⟩
      rcases List.mem_append.mp hr with hr | hr
      · exact hs r hr
      · simp only [List.mem_cons, List.not_mem_nil, or_false] at hr
        rcases hr with rfl | rfl | rfl | rfl
        · exact ⟨.inl rfl, _, hu, hce⟩
        · exact ⟨.inr rfl, _, hu, hce⟩
        · exact ⟨.inl rfl, h7, _, hu, hce⟩
        · exact ⟨.inr rfl, h8, _, hu, hce⟩
  · rintro _ ⟨f', ss, x5, x6, ⟨hs, hl, h0⟩, rfl⟩
    have hsl : ss.length ≤ 100 := by simp at hl; omega
    unfold stR
    simp -dsimp
    refine take_w (by decide) (by decide) fun a f7 a0 a1 => ?_
    simp -dsimp
    refine take_w (by decide) (by decide) fun b f8 b0 b1 => ?_
    simp -dsimp
    refine take_w (by decide) (by decide) fun c f9 c0 c1 => ?_
    simp -dsimp [z4]
    refine pick_w (by simp) (by simp) fun d f10 hd => ?_
    obtain ⟨n, rfl, n0', n1'⟩ : ∃ n : Int, d = .int n ∧ 0 ≤ n ∧ n ≤ 8 := by
      simp only [List.mem_cons, List.not_mem_nil, or_false] at hd
      rcases hd with rfl | rfl | rfl | rfl
      all_goals exact ⟨_, rfl, by omega, by omega⟩
    simp -dsimp
    refine OQ_range (by omega) (by omega) ?_
    have fin : ∀ (rs : List Rw) f', (∀ r ∈ rs, r ∈ ss) → rs.length ≤ 8 → K (.ok (.fr (.tup (rs.map rowD))) [.ow (fdD f'), .fr (strsD names), .fr (strsD ws), .fr (usD us)] ob) := fun rs f' hr hl => h f' rs (fun r hr' => hs r (hr r hr')) hl
    simp -dsimp [noOwn]
    refine lc_st1 (enc := fun n : Nat => Dat.int (n : Int)) (fun c : (Int × Int) × {s : VS.Slot // Ls s (.lst (ss.map rowD))} => ⟨[some (.ow (fdD c.1)), some (.fr (strsD names)), some (.fr (strsD ws)), some (.fr (usD us)), some c.2.1, x5, x6, some (.fr (.int n)), none], ob⟩) (c0 := (f10, ⟨_, .inl rfl⟩)) rowD (fun _ r => r ∈ ss) (fun k hk c => ?_) fun rs c rl rP => ?_
    · obtain ⟨f, s, hs⟩ := c
      rcases hs with rfl | rfl
      all_goals
        simp -dsimp
        refine pickM_w h0 (by omega) fun r f11 hr => ?_
        simp -dsimp
        exact ⟨r, (f11, ⟨_, .inr rfl⟩), hr, rfl, rfl⟩
    · obtain ⟨f, s, hs⟩ := c
      have hrl : rs.length ≤ 8 := by simp at rl; omega
      have := fin rs f (fun r hr => (rP r hr).elim fun _ z => z.2) hrl
      simp -dsimp
      exact ⟨by omega, this⟩
end K26

namespace K26
open PySem VS L2
structure Give where
  w : Str
  v : Str
  ch : Bool
  fa : Bool
  wh : Int ⊕ List Rw
def whD : Int ⊕ List Rw → Dat
  | .inl i => .int i
  | .inr rs => .tup (rs.map rowD)
def cellB : Int ⊕ List Rw → Bool
  | .inl _ => true
  | .inr _ => false
def giveD (g : Give) : Dat := .tup [.str g.w, .str g.v, .bl g.ch, .bl g.fa, whD g.wh]
def WhOk (us : List Use) : Int ⊕ List Rw → Prop
  | .inl n => NumOk n
  | .inr rs => (∀ r ∈ rs, RwOk us r) ∧ rs.length ≤ 8
def Vn (v : Str) : Prop := v = "" ∨ Nm v
theorem Vn.tx {v : Str} (h : Vn v) : Tx 8 v := by
  rcases h with rfl | h
  · exact (tx_of (s := "") (by decide +kernel)).mono (by decide +kernel)
  · exact h.tx
structure GiveOk (us : List Use) (g : Give) : Prop where
  w : Nm g.w
  v : Vn g.v
  ch : g.v = "" → g.ch = true
  wh : WhOk us g.wh
theorem sh_tx {k : Nat} {x : Str} (h : Tx 8 x) : Sh k 82 (.str x) := sh_str h
theorem lit8 {k : Nat} {s : String} (h : (Str.ofString s).cps.toList.all (fun c => decide (c < 128)) = true) (n : (Str.ofString s).length ≤ 8) : Sh k 82 (.str (Str.ofString s)) := sh_str ((tx_of h).mono n)
theorem sh_all3 {k : Nat} {ds : List Dat} (h : ∀ d ∈ ds, Sh k 82 d) (n : ds.length ≤ 3) : Sh (k + 1) 255 (.tup ds) := (sh_tup h).mono (Nat.le_refl _) (by omega)
theorem sh_num {k : Nat} {n : Int} (h : NumOk n) : Sh k 82 (.int n) := (sh_int (k := k) (by unfold NumOk at h; omega)).mono (Nat.le_refl _) (by omega)
theorem sh_row {us : List Use} (hu : us.length ≤ 100) {r : Rw} (h : RwOk us r) : Sh 1 255 (rowD r) := by
  have nat : ∀ {k : Nat} {u : Use}, us[k]? = some u → Sh 0 82 (.int (k : Int)) := fun {k u} e => (sh_int (k := 0) (by have := (List.getElem?_eq_some_iff.mp e).1; omega)).mono (Nat.le_refl _) (by omega)
  have wd : ∀ w : Str, (w = "drop" ∨ w = "bring" ∨ w = "share") → Sh 0 82 (.str w) := fun w hw => by
    rcases hw with rfl | rfl | rfl
    all_goals exact lit8 (by decide +kernel) (by decide +kernel)
  cases r with
  | tell n => exact sh_all3 (by simp only [List.forall_mem_cons, List.not_mem_nil, false_implies, implies_true, and_true]; exact ⟨lit8 (by decide +kernel) (by decide +kernel), sh_num h⟩) (by simp)
  | lib w x => exact sh_all3 (by simp only [List.forall_mem_cons, List.not_mem_nil, false_implies, implies_true, and_true]; exact ⟨wd w h.1, sh_tx h.2.tx⟩) (by simp)
  | ask x w => exact sh_all3 (by simp only [List.forall_mem_cons, List.not_mem_nil, false_implies, implies_true, and_true]; exact ⟨lit8 (by decide +kernel) (by decide +kernel), sh_tx h.1.tx, sh_tx h.2.tx⟩) (by simp)
  | call k =>
    obtain ⟨u, e, _⟩ := h
    exact sh_all3 (by simp only [List.forall_mem_cons, List.not_mem_nil, false_implies, implies_true, and_true]; exact ⟨lit8 (by decide +kernel) (by decide +kernel), nat e⟩) (by simp)
  | cell w k =>
    obtain ⟨hw, u, e, _⟩ := h
    have : Sh 0 82 (.str w) := by rcases hw with rfl | rfl <;> exact lit8 (by decide +kernel) (by decide +kernel)
    exact sh_all3 (by simp only [List.forall_mem_cons, List.not_mem_nil, false_implies, implies_true, and_true]; exact ⟨this, nat e⟩) (by simp)
  | cnum w k n =>
    obtain ⟨hw, hn, u, e, _⟩ := h
    have : Sh 0 82 (.str w) := by rcases hw with rfl | rfl <;> exact lit8 (by decide +kernel) (by decide +kernel)
    exact sh_all3 (by simp only [List.forall_mem_cons, List.not_mem_nil, false_implies, implies_true, and_true]; exact ⟨this, nat e, sh_num hn⟩) (by simp)
theorem sh_rows {us : List Use} (hu : us.length ≤ 100) {rs : List Rw} (h : ∀ r ∈ rs, RwOk us r) (n : rs.length ≤ 8) : Sh 2 2059 (.tup (rs.map rowD)) := by
  refine (sh_tup (k := 1) (N := 255) fun d hd => ?_).mono (Nat.le_refl _) (by rw [List.length_map]; omega)
  obtain ⟨r, hr, rfl⟩ := List.mem_map.mp hd
  exact sh_row hu (h r hr)
theorem sh_wh {us : List Use} (hu : us.length ≤ 100) {w : Int ⊕ List Rw} (h : WhOk us w) : Sh 2 2059 (whD w) := by
  cases w with
  | inl n => exact (sh_num h).mono (Nat.le_refl _) (by omega)
  | inr rs => exact sh_rows hu h.1 h.2
theorem sh_give {us : List Use} (hu : us.length ≤ 100) {g : Give} (h : GiveOk us g) : Sh 3 10308 (giveD g) := by
  refine sh_tup (k := 2) (N := 2059) ?_
  simp only [List.forall_mem_cons, List.not_mem_nil, false_implies, implies_true, and_true]
  exact ⟨(sh_tx h.w.tx).mono (Nat.le_refl _) (by omega), (sh_tx h.v.tx).mono (Nat.le_refl _) (by omega), (sh_bl _).mono (Nat.le_refl _) (by omega), (sh_bl _).mono (Nat.le_refl _) (by omega), sh_wh hu h.wh⟩
theorem add_strs (a : List Dat) (xs : List Str) : addGT (.lst a) (strsD xs) = lstCat (.lst a) (.lst (xs.map .str)) := addGT_lst _ _
def gG1 : Act Flw := iteA (andA (testA (op2 eqE (var 10) (lstA (Act.ret [])))) (andA (testA (op2 ltG (callA lenD (consA (var 5) (Act.ret []))) (cst (.int 8)))) (Act.ret true)))
    (seqA (setA 11 (defA 1 F_law_number [true] [] (consA (var 0) (Act.ret []))))
    (seqA (iteA (testA (op2 eqE (op2 inGD (var 7) (slA (var 2) (Act.ret none) (partA (cst (.int 2))))) (op2 eqE (defA 2 F_law_take [true, false] [] (consA (var 0) (consA (cst (.int 9)) (Act.ret [])))) (cst (.int 0)))))
    (setA 11 (defA 4 F_law_rows_drawn [true, false, false, false] [] (consA (var 0) (consA (var 1) (consA (var 2) (consA (var 3) (Act.ret [])))))))
    (Act.ret .nx))
    (dropA (muA "list" appendM (var 5) (consA (tupA (consA (var 7) (consA (var 8) (consA (var 9) (consA (op2 eqE (defA 2 F_law_take [true, false] [] (consA (var 0) (consA (cst (.int 4)) (Act.ret [])))) (cst (.int 0))) (consA (var 11) (Act.ret []))))))) (Act.ret []))))))
    (Act.ret .nx)
def gG0 : Act Flw := seqA (setA 10 (lcAO 5 [12] (tgName 12) (testA (op2 eqE (op2 ixGD (var 12) (cst (.int 0))) (var 7))) (var 12)))
    (seqA (setA 10 (lcA [12] (tgName 12) (orA (testA (op2 eqE (op2 ixGD (var 12) (cst (.int 1))) (var 8))) (orA (andA (testA (op2 ixGD (var 12) (cst (.int 2)))) (andA (testA (var 9)) (Act.ret true))) (Act.ret false))) (var 12) (iterA (var 10))))
    gG1)
def gGives : Act Flw := seqA (setA 5 (lstA (Act.ret [])))
    (seqA (Act.bnd (rangeA (consA (defA 2 F_law_pick [true, false] [] (consA (var 0) (consA (lstA (consA (defA 2 F_law_take [true, false] [] (consA (var 0) (consA (cst (.int 5)) (Act.ret [])))) (consA (cst (.int 2)) (consA (defA 2 F_law_take [true, false] [] (consA (var 0) (consA (cst (.int 13)) (Act.ret [])))) (Act.ret []))))) (Act.ret [])))) (Act.ret []))) (forA (tgName 6)
    (seqA (setA 7 (defA 2 F_law_pick [true, false] [] (consA (var 0) (consA (var 2) (Act.ret [])))))
    (seqA (setA 8 (defA 2 F_law_pick [true, false] [] (consA (var 0) (consA (op2 addGT (lstA (consA (cst (.str "")) (consA (cst (.str "")) (Act.ret [])))) (var 4)) (Act.ret [])))))
    (seqA (setA 9 (orV (op2 eqE (var 8) (cst (.str ""))) (op2 eqE (defA 2 F_law_take [true, false] [] (consA (var 0) (consA (cst (.int 2)) (Act.ret [])))) (cst (.int 0)))))
    gG0)))))
    (retA (fun i => decide (i < 5)) (callA tupleD (consA (var 5) (Act.ret [])))))
theorem gGives_eq : g_law_gives_drawn = gGives := rfl
def stG (ob : List OVal) (names ws vs : List Str) (us : List Use) (f : Int × Int) (gs : List Give) (x6 x7 x8 x9 x10 x11 : Option VS.Slot) : VS.St := ⟨[some (.ow (fdD f)), some (.fr (strsD names)), some (.fr (strsD ws)), some (.fr (usD us)), some (.fr (strsD vs)), some (.ow (.lst (gs.map giveD))), x6, x7, x8, x9, x10, x11, none], ob⟩
section
variable {f : Int × Int} {names ws vs : List Str} {us : List Use} {ob : List OVal} {x6 x7 x8 x9 x10 x11 : Option VS.Slot} {w v : Str} {b : Bool} {gs there : List Give} {Q : Flw → VS.St → Prop} {E : XQ}
theorem gG1_w (n0 : names ≠ []) (n1 : names.length ≤ 1000) (hn : ∀ x ∈ names, Nm x) (w0 : ws ≠ []) (w1 : ws.length ≤ 1000) (hws : ∀ x ∈ ws, Nm x) (u1 : us.length ≤ 8) (hw : Nm w) (hv : Vn v) (hb : v = "" → b = true) (hl : gs.length ≤ 8) (ht : ∀ g ∈ there, GiveOk us g)
    (h : ∀ f' gs' x10 x11, (gs' = gs ∨ gs.length < 8 ∧ ∃ g, GiveOk us g ∧ gs' = gs ++ [g]) → Q .nx (stG ob names ws vs us f' gs' x6 (some (.fr (.str w))) (some (.fr (.str v))) (some (.fr (.bl b))) x10 x11)) :
    WP gG1 (stG ob names ws vs us f gs x6 (some (.fr (.str w))) (some (.fr (.str v))) (some (.fr (.bl b))) (some (.ow (.lst (there.map giveD)))) x11) Q E := by
  have hz : sizeLine = 16777216 := sizeLine_eq
  have z0 : 0 ≤ sizeLine := by decide
  have z5 : 5 ≤ sizeLine := by decide
  have hno := fun f' x10 x11 => h f' gs x10 x11 (.inl rfl)
  have he := eqEm_nil (xs := there) (enc := giveD) fun g hg => (sh_give (by omega) (ht g hg)).s (by omega) (by omega)
  have hlen : lenD [.lst (gs.map giveD)] = some (.fr (.int (gs.length : Int))) := by rw [x_len_lst, List.length_map]
  have hin : ∃ i, inGD (.str w) (.lst ((ws.map Dat.str).take 2)) = some (.fr (.bl i)) := by
    rw [← List.map_take]
    exact ⟨_, in_strs (n := 8) (by omega) hw.tx fun x hx => (hws x (List.mem_of_mem_take hx)).tx⟩
  obtain ⟨i, hin⟩ := hin
  unfold gG1
  unfold stG at h hno ⊢
  simp -dsimp [z0, he]
  by_cases c1 : there = []
  · simp -dsimp [c1, hlen]
    by_cases c2 : gs.length < 8
    · have c2' : (gs.length : Int) < 8 := by omega
      have fin : ∀ (f' : Int × Int) (k : Int) (wh : Int ⊕ List Rw) x10, WhOk us wh → Q .nx ⟨[some (.ow (fdD f')), some (.fr (strsD names)), some (.fr (strsD ws)), some (.fr (usD us)), some (.fr (strsD vs)), some (.ow (.lst (gs.map giveD ++ [.tup [.str w, .str v, .bl b, .bl (decide (k = 0)), whD wh]]))), x6, some (.fr (.str w)), some (.fr (.str v)), some (.fr (.bl b)), x10, some (.fr (whD wh)), none], ob⟩ := fun f' k wh x10 hs => by
        have := h f' (gs ++ [⟨w, v, b, decide (k = 0), wh⟩]) x10 (some (.fr (whD wh))) (.inr ⟨c2, ⟨w, v, b, decide (k = 0), wh⟩, ⟨hw, hv, hb, hs⟩, rfl⟩)
        rwa [List.map_append] at this
      simp -dsimp [c2', c2]
      refine number_w fun f1 n hn' => ?_
      unfold strsD at *
      simp -dsimp [hin]
      refine take_w (by decide) (by decide) fun y f2 y0 y1 => ?_
      simp -dsimp
      split
      · refine rows_w n0 n1 hn w0 w1 hws u1 fun f3 rs hrs hrl => ?_
        unfold strsD
        simp -dsimp
        refine take_w (by decide) (by decide) fun t f4 t0 t1 => ?_
        simp -dsimp [z5]
        exact ⟨by omega, fin f4 t (.inr rs) _ ⟨hrs, hrl⟩⟩
      · refine take_w (by decide) (by decide) fun t f4 t0 t1 => ?_
        simp -dsimp [z5]
        exact ⟨by omega, fin f4 t (.inl n) _ hn'⟩
    · have c2' : ¬ (gs.length : Int) < 8 := by omega
      simp -dsimp [c2', c2]
      exact hno _ _ _
  · simp -dsimp [c1]
    exact hno _ _ _
theorem gG0_w (n0 : names ≠ []) (n1 : names.length ≤ 1000) (hn : ∀ x ∈ names, Nm x) (w0 : ws ≠ []) (w1 : ws.length ≤ 1000) (hws : ∀ x ∈ ws, Nm x) (u1 : us.length ≤ 8) (hw : Nm w) (hv : Vn v) (hb : v = "" → b = true) (hl : gs.length ≤ 8) (hg : ∀ g ∈ gs, GiveOk us g)
    (h : ∀ f' gs' x10 x11, (gs' = gs ∨ gs.length < 8 ∧ ∃ g, GiveOk us g ∧ gs' = gs ++ [g]) → Q .nx (stG ob names ws vs us f' gs' x6 (some (.fr (.str w))) (some (.fr (.str v))) (some (.fr (.bl b))) x10 x11)) :
    WP gG0 (stG ob names ws vs us f gs x6 (some (.fr (.str w))) (some (.fr (.str v))) (some (.fr (.bl b))) x10 x11) Q E := by
  have hz : sizeLine = 16777216 := sizeLine_eq
  have hG1 := fun there (ht : ∀ g ∈ there, GiveOk us g) => gG1_w (f := f) (names := names) (ws := ws) (vs := vs) (us := us) (ob := ob) (x6 := x6) (x11 := x11) (w := w) (v := v) (b := b) (gs := gs) (there := there) (Q := Q) (E := E) n0 n1 hn w0 w1 hws u1 hw hv hb hl ht h
  unfold gG0
  unfold stG at *
  generalize gG1 = G at hG1
  simp -dsimp [noOwn]
  refine lcG_map (enc := giveD) (fun g => decide (g.w = w)) giveD rfl (fun g hg => ?_) ?_
  · obtain ⟨gw, gv, gch, gfa, gwh⟩ := g
    simp -dsimp [giveD]
  · generalize hm : List.filter _ _ = there
    have hml : there.length ≤ gs.length := by rw [← hm]; exact List.length_filter_le _ _
    have hmm : ∀ g ∈ there, GiveOk us g := fun g hg' => hg g (by rw [← hm] at hg'; exact (List.mem_filter.mp hg').1)
    simp -dsimp
    refine ⟨by omega, ?_⟩
    try simp -dsimp [noOwn]
    refine lc_map (enc := giveD) (fun g => decide (g.v = v) || (g.ch && b)) giveD (fun g hg => ?_) ?_
    · obtain ⟨gw, gv, gch, gfa, gwh⟩ := g
      simp -dsimp [giveD]
      by_cases hv : gv = v <;> cases gch <;> cases b <;> simp [hv]
    · generalize hm2 : List.filter _ _ = left
      have hml2 : left.length ≤ there.length := by rw [← hm2]; exact List.length_filter_le _ _
      have hmm2 : ∀ g ∈ left, GiveOk us g := fun g hg' => hmm g (by rw [← hm2] at hg'; exact (List.mem_filter.mp hg').1)
      simp -dsimp
      refine ⟨by omega, ?_⟩
      exact hG1 left hmm2
theorem gives_w (n0 : names ≠ []) (n1 : names.length ≤ 1000) (hn : ∀ x ∈ names, Nm x) (w0 : ws ≠ []) (w1 : ws.length ≤ 1000) (hws : ∀ x ∈ ws, Nm x) (u1 : us.length ≤ 8) (v1 : vs.length ≤ 1000) (hvs : ∀ x ∈ vs, Nm x) {K : FOut → Prop}
    (h : ∀ f' (gs : List Give), (∀ g ∈ gs, GiveOk us g) → gs.length ≤ 8 → K (.ok (.fr (.tup (gs.map giveD))) [.ow (fdD f'), .fr (strsD names), .fr (strsD ws), .fr (usD us), .fr (strsD vs)] ob)) :
    WF F_law_gives_drawn [.ow (fdD f), .fr (strsD names), .fr (strsD ws), .fr (usD us), .fr (strsD vs)] ob K := by
  have hz : sizeLine = 16777216 := sizeLine_eq
  have z2 : 2 ≤ sizeLine := by decide
  have z3 : 3 ≤ sizeLine := by decide
  unfold F_law_gives_drawn
  rw [gGives_eq]
  unfold gGives
  simp -dsimp
  refine take_w (by decide) (by decide) fun a f1 a0 a1 => ?_
  simp -dsimp
  refine take_w (by decide) (by decide) fun b f2 b0 b1 => ?_
  simp -dsimp [z3]
  refine pick_w (by simp) (by simp) fun d f3 hd => ?_
  obtain ⟨n, rfl, n0', n1'⟩ : ∃ n : Int, d = .int n ∧ 0 ≤ n ∧ n ≤ 12 := by
    simp only [List.mem_cons, List.not_mem_nil, or_false] at hd
    rcases hd with rfl | rfl | rfl
    all_goals exact ⟨_, rfl, by omega, by omega⟩
  simp -dsimp
  refine OQ_range (by omega) (by omega) ?_
  refine wp_for (enc := fun n : Nat => Dat.int (n : Int)) (fun done ς => ∃ f' gs x6 x7 x8 x9 x10 x11, ((∀ g ∈ gs, GiveOk us g) ∧ gs.length ≤ 8) ∧ ς = stG ob names ws vs us f' gs x6 x7 x8 x9 x10 x11) ⟨f3, [], _, _, _, _, _, _, ⟨(fun _ h => nomatch h), by simp⟩, rfl⟩ ?_ ?_
  · rintro done x rest _ e ⟨f', gs, x6, x7, x8, x9, x10, x11, ⟨hg, hl⟩, rfl⟩
    unfold stG
    simp -dsimp
    refine pickS_w w0 (by omega) fun w f4 hw => ?_
    simp -dsimp [z2, add_strs]
    refine ⟨by omega, ?_⟩
    refine pick_w (by simp) (by simp; omega) fun d f5 hd => ?_
    obtain ⟨v, rfl, hv⟩ : ∃ v, d = .str v ∧ Vn v := by
      simp at hd
      rcases hd with rfl | ⟨v, hv', rfl⟩
      · exact ⟨_, rfl, .inl rfl⟩
      · exact ⟨_, rfl, .inr (hvs v hv')⟩
    have fin : ∀ f' gs' (x7 x8 x9 x10 x11 : Option VS.Slot), (gs' = gs ∨ gs.length < 8 ∧ ∃ g, GiveOk us g ∧ gs' = gs ++ [g]) → ∃ f'' gs'' y6 y7 y8 y9 y10 y11, ((∀ g ∈ gs'', GiveOk us g) ∧ gs''.length ≤ 8) ∧ stG ob names ws vs us f' gs' (some (.fr (.int (x : Int)))) x7 x8 x9 x10 x11 = stG ob names ws vs us f'' gs'' y6 y7 y8 y9 y10 y11 := fun f' gs' x7 x8 x9 x10 x11 hgs => by
      rcases hgs with rfl | ⟨hlt, g, hgo, rfl⟩
      · exact ⟨f', gs', _, _, _, _, _, _, ⟨hg, hl⟩, rfl⟩
      · refine ⟨f', gs ++ [g], _, _, _, _, _, _, ⟨fun g' hg' => ?_, by simp; omega⟩, rfl⟩
        rcases List.mem_append.mp hg' with hg' | hg'
        · exact hg g' hg'
        · rw [List.mem_singleton.mp hg']; exact hgo
    have hG := fun f' (b : Bool) (hb : v = "" → b = true) x10 x11 Q E => gG0_w (f := f') (names := names) (ws := ws) (vs := vs) (us := us) (ob := ob) (x6 := some (.fr (.int (x : Int)))) (x10 := x10) (x11 := x11) (w := w) (v := v) (b := b) (gs := gs) (Q := Q) (E := E) n0 n1 hn w0 w1 hws u1 (hws w hw) hv hb hl hg
    unfold stG at hG fin
    generalize gG0 = G at hG
    simp -dsimp
    split
    · refine hG _ _ (fun e => by simp [e]) _ _ _ _ fun f' gs' x10 x11 hgs => ?_
      simp -dsimp
      exact ⟨fin _ _ _ _ _ _ _ hgs⟩
    · rename_i hve
      refine take_w (by decide) (by decide) fun y f7 y0 y1 => ?_
      simp -dsimp
      refine hG _ _ (fun e => absurd e hve) _ _ _ _ fun f' gs' x10 x11 hgs => ?_
      simp -dsimp
      exact ⟨fin _ _ _ _ _ _ _ hgs⟩
  · rintro _ ⟨f', gs, x6, x7, x8, x9, x10, x11, ⟨hg, hl⟩, rfl⟩
    unfold stG
    simp -dsimp
    exact h f' gs hg hl
end
end K26

namespace K26
open PySem VS L2
structure Lib where
  nm : Str
  needs : List Str
  gs : List Give
  us : List Use
  a : List Rw
  b : List Rw
  marks : List Str
def rowsD (rs : List Rw) : Dat := .tup (rs.map rowD)
def libD (l : Lib) : Dat := .tup [.str l.nm, .tup (l.needs.map .str), .tup (l.gs.map giveD), .tup (l.us.map useD), rowsD l.a, rowsD l.b, .tup (l.marks.map .str)]
structure UseOk (u : Use) : Prop where
  w : Nm u.w
  v : Vn u.v
structure LibOk (l : Lib) : Prop where
  nm : Nm l.nm
  needs : ∀ x ∈ l.needs, Nm x
  needsN : l.needs.length ≤ 6
  gs : ∀ g ∈ l.gs, GiveOk l.us g
  gsN : l.gs.length ≤ 8
  us : ∀ u ∈ l.us, UseOk u
  usN : l.us.length ≤ 8
  a : ∀ r ∈ l.a, RwOk l.us r
  aN : l.a.length ≤ 8
  b : ∀ r ∈ l.b, RwOk l.us r
  bN : l.b.length ≤ 8
  marks : ∀ x ∈ l.marks, x = "early" ∨ x = "own" ∨ x = "stays"
  marksN : l.marks.length ≤ 3
theorem sh_use {u : Use} (h : UseOk u) : Sh 1 339 (useD u) := by
  refine sh_tup (k := 0) (N := 82) ?_
  simp only [List.forall_mem_cons, List.not_mem_nil, false_implies, implies_true, and_true]
  exact ⟨sh_tx h.w.tx, sh_tx h.v.tx, (sh_bl _).mono (Nat.le_refl _) (by omega), (sh_bl _).mono (Nat.le_refl _) (by omega)⟩
theorem sh_texts {k : Nat} {ws : List Str} (h : ∀ x ∈ ws, Tx 8 x) (n : ws.length ≤ 6) : Sh (k + 1) 507 (.tup (ws.map .str)) := by
  refine (sh_tup (k := k) (N := 82) fun d hd => ?_).mono (Nat.le_refl _) (by rw [List.length_map]; omega)
  obtain ⟨x, hx, rfl⟩ := List.mem_map.mp hd
  exact sh_tx (h x hx)
theorem mark_tx {x : Str} (h : x = "early" ∨ x = "own" ∨ x = "stays") : Tx 8 x := by
  rcases h with rfl | rfl | rfl
  all_goals exact (tx_of (by decide +kernel)).mono (by decide +kernel)
theorem sh_lib {l : Lib} (h : LibOk l) : Sh 5 577398 (libD l) := by
  have hu := h.usN
  refine (sh_tup (k := 4) (N := 82483) fun d hd => ?_).mono (Nat.le_refl _) (by simp)
  simp only [List.mem_cons, List.not_mem_nil, or_false] at hd
  rcases hd with rfl | rfl | rfl | rfl | rfl | rfl | rfl
  · exact (sh_tx h.nm.tx).mono (Nat.le_refl _) (by decide)
  · exact (sh_texts (k := 0) (fun x hx => (h.needs x hx).tx) h.needsN).mono (by decide) (by decide)
  rotate_left 2
  · exact (sh_rows (Nat.le_trans hu (by decide)) h.a h.aN).mono (by omega) (by omega)
  · exact (sh_rows (Nat.le_trans hu (by decide)) h.b h.bN).mono (by omega) (by omega)
  · exact (sh_texts (k := 0) (fun x hx => mark_tx (h.marks x hx)) (by have := h.marksN; omega)).mono (by omega) (by omega)
  · refine (sh_tup (k := 3) (N := 10308) fun d hd => ?_).mono (by omega) (by rw [List.length_map]; have := h.gsN; omega)
    obtain ⟨x, hx, rfl⟩ := List.mem_map.mp hd
    exact sh_give (by omega) (h.gs x hx)
  · refine (sh_tup (k := 1) (N := 339) fun d hd => ?_).mono (by omega) (by rw [List.length_map]; omega)
    obtain ⟨x, hx, rfl⟩ := List.mem_map.mp hd
    exact sh_use (h.us x hx)
/-! _law_library_drawn -/
def gL0 : Act Flw := Act.bnd (rangeA (consA (defA 2 F_law_take [true, false] [] (consA (var 0) (consA (cst (.int 4)) (Act.ret [])))) (Act.ret []))) (forA (tgName 7)
    (dropA (muA "list" appendM (var 6) (consA (op2 ixGD (var 1) (defA 2 F_law_pick [true, false] [] (consA (var 0) (consA (lstA (consA (defA 2 F_law_take [true, false] [] (consA (var 0) (consA (callA lenD (consA (var 1) (Act.ret []))) (Act.ret [])))) (consA (op2 modG (op2 addGT (var 2) (cst (.int 1))) (callA lenD (consA (var 1) (Act.ret [])))) (Act.ret [])))) (Act.ret []))))) (Act.ret [])))))
def gLu : Act Flw := seqA (asgT (tgTup 4 (tgCons (tgName 11) (tgCons (tgName 12) (tgCons (tgName 13) (tgCons (tgName 14) tgNil))))) (defA 2 F_law_pick [true, false] [] (consA (var 0) (consA (var 4) (Act.ret [])))))
    (seqA (setA 15 (op2 addGT (mulLA (lstA (consA (var 12) (consA (var 12) (consA (iteA (testA (var 13)) (cst (.str "")) (var 12)) (consA (iteA (testA (var 13)) (cst (.str "")) (var 12)) (Act.ret [])))))) (cst (.int 3))) (slA (var 5) (Act.ret none) (partA (cst (.int 1))))))
    (seqA (setA 10 (tupA (consA (var 11) (consA (defA 2 F_law_pick [true, false] [] (consA (var 0) (consA (var 15) (Act.ret [])))) (consA (cst (.bl true)) (consA (cst (.bl true)) (Act.ret [])))))))
    (setA 6 (op2 addGT (var 6) (mulLA (lstA (consA (var 14) (Act.ret []))) (callA intG (consA (op2 gtG (defA 2 F_law_take [true, false] [] (consA (var 0) (consA (cst (.int 9)) (Act.ret [])))) (cst (.int 0))) (Act.ret []))))))))
def gL1 : Act Flw := Act.bnd (rangeA (consA (defA 2 F_law_pick [true, false] [] (consA (var 0) (consA (lstA (consA (defA 2 F_law_take [true, false] [] (consA (var 0) (consA (cst (.int 5)) (Act.ret [])))) (consA (cst (.int 2)) (consA (defA 2 F_law_take [true, false] [] (consA (var 0) (consA (cst (.int 9)) (Act.ret [])))) (Act.ret []))))) (Act.ret [])))) (Act.ret []))) (forA (tgName 7)
    (seqA (setA 9 (defA 2 F_law_pick [true, false] [] (consA (var 0) (consA (op2 addGT (lstA (consA (cst (.str "")) (consA (cst (.str "")) (consA (cst (.str "")) (Act.ret []))))) (var 5)) (Act.ret [])))))
    (seqA (setA 10 (tupA (consA (defA 2 F_law_pick [true, false] [] (consA (var 0) (consA (var 3) (Act.ret [])))) (consA (var 9) (consA (cst (.bl false)) (consA (op2 eqE (defA 2 F_law_take [true, false] [] (consA (var 0) (consA (cst (.int 4)) (Act.ret [])))) (cst (.int 0))) (Act.ret [])))))))
    (seqA (iteA (andA (testA (op2 neE (var 4) (lstA (Act.ret [])))) (andA (testA (op2 eqE (defA 2 F_law_take [true, false] [] (consA (var 0) (consA (cst (.int 3)) (Act.ret [])))) (cst (.int 0)))) (Act.ret true)))
    gLu
    (Act.ret .nx))
    (dropA (muA "list" appendM (var 8) (consA (var 10) (Act.ret []))))))))
def gL2 : Act Flw := seqA (setA 6 (lcA [19, 20] (tgTup 2 (tgCons (tgName 19) (tgCons (tgName 20) tgNil))) (andA (testA (op2 neE (var 20) (op2 ixGD (var 1) (var 2)))) (andA (testA (op2 ninGD (var 20) (slA (var 6) (Act.ret none) (partA (var 19))))) (Act.ret true))) (var 20) (enumA (consA (var 6) (Act.ret [])))))
    (seqA (setA 16 (defA 5 F_law_gives_drawn [true, false, false, false, false] [] (consA (var 0) (consA (var 1) (consA (var 3) (consA (var 8) (consA (var 5) (Act.ret []))))))))
    (seqA (setA 17 (lcA [7] (tgName 7) (Act.ret true) (defA 4 F_law_rows_drawn [true, false, false, false] [] (consA (var 0) (consA (var 1) (consA (var 3) (consA (var 8) (Act.ret [])))))) (rangeA (consA (cst (.int 2)) (Act.ret [])))))
    (seqA (setA 18 (callA tupleD (consA (lcA [21] (tgName 21) (testA (op2 eqE (defA 2 F_law_take [true, false] [] (consA (var 0) (consA (cst (.int 8)) (Act.ret [])))) (cst (.int 0)))) (var 21) (iterA (lstA (consA (cst (.str "early")) (consA (cst (.str "own")) (consA (cst (.str "stays")) (Act.ret []))))))) (Act.ret []))))
    (retA (fun i => decide (i < 6)) (tupA (consA (op2 ixGD (var 1) (var 2)) (consA (callA tupleD (consA (slA (var 6) (Act.ret none) (partA (cst (.int 6)))) (Act.ret []))) (consA (var 16) (consA (callA tupleD (consA (var 8) (Act.ret []))) (consA (op2 ixGD (var 17) (cst (.int 0))) (consA (op2 ixGD (var 17) (cst (.int 1))) (consA (var 18) (Act.ret [])))))))))))))
theorem gL_eq : g_law_library_drawn = seqA (setA 6 (lstA (Act.ret []))) (seqA gL0 (seqA (setA 8 (lstA (Act.ret []))) (seqA gL1 gL2))) := rfl
/-- what is given so far: a word, its version, whether it is chosen, who gives it -/
structure Gv where
  w : Str
  v : Str
  ch : Bool
  by_ : Str
def gvD (g : Gv) : Dat := .tup [.str g.w, .str g.v, .bl g.ch, .str g.by_]
def gvsD (ps : List Gv) : Dat := .lst (ps.map gvD)
structure GvOk (g : Gv) : Prop where
  w : Nm g.w
  v : Vn g.v
  b : Nm g.by_
theorem sh_gv {g : Gv} (h : GvOk g) : Shs (gvD g) := (sh_tup (k := 0) (N := 82) (by
  simp only [List.forall_mem_cons, List.not_mem_nil, false_implies, implies_true, and_true]
  exact ⟨sh_tx h.w.tx, sh_tx h.v.tx, (sh_bl _).mono (Nat.le_refl _) (by omega), sh_tx h.b.tx⟩)).s (by omega) (by simp)
theorem ne_gvs {ps : List Gv} (h : ∀ p ∈ ps, GvOk p) : neE (gvsD ps) (.lst []) = some (.fr (.bl (!decide (ps = [])))) := neEm_nil fun p hp => sh_gv (h p hp)
structure Base where
  ob : List OVal
  ns : List Str
  at_ : Nat
  ws : List Str
  gv : List Gv
  vs : List Str
structure BaseOk (B : Base) : Prop where
  n1 : B.ns.length ≤ 100
  hn : ∀ x ∈ B.ns, Nm x
  ha : B.at_ < B.ns.length
  w0 : B.ws ≠ []
  w1 : B.ws.length ≤ 100
  hw : ∀ x ∈ B.ws, Nm x
  v1 : B.vs.length ≤ 100
  hv : ∀ x ∈ B.vs, Nm x
  g1 : B.gv.length ≤ 1000
  hg : ∀ p ∈ B.gv, GvOk p
/-- no list of one's own -/
def Nw (x : Option VS.Slot) : Prop := ∀ d, x ≠ some (.ow d)
theorem nw_none : Nw none := fun d h => by cases h
theorem nw_fr (d : Dat) : Nw (some (.fr d)) := fun e h => by cases h
def stL (B : Base) (f : Int × Int) (needs : List Str) (x7 x8 x9 x10 x11 x12 x13 x14 x15 : Option VS.Slot) : VS.St := ⟨[some (.ow (fdD f)), some (.fr (strsD B.ns)), some (.fr (.int (B.at_ : Int))), some (.fr (strsD B.ws)), some (.fr (gvsD B.gv)), some (.fr (strsD B.vs)), some (.ow (.lst (needs.map .str))), x7, x8, x9, x10, x11, x12, x13, x14, x15, none, none, none, none, none, none], B.ob⟩
theorem all_app {β : Type} {P : β → Prop} {l : List β} {y : β} (h : ∀ x ∈ l, P x) (hy : P y) : ∀ x ∈ l ++ [y], P x := fun x hx => by
  rcases List.mem_append.mp hx with hx | hx
  · exact h x hx
  · rw [List.mem_singleton.mp hx]; exact hy
section
variable {B : Base} {f : Int × Int} {Q : Flw → VS.St → Prop} {E : XQ}
theorem gL0_w (b : BaseOk B) {x7 x8 x9 x10 x11 x12 x13 x14 x15 : Option VS.Slot} (h7 : Nw x7) (h : ∀ f' needs x7, Nw x7 → (∀ x ∈ needs, Nm x) → needs.length ≤ 3 → Q .nx (stL B f' needs x7 x8 x9 x10 x11 x12 x13 x14 x15)) : WP gL0 (stL B f [] x7 x8 x9 x10 x11 x12 x13 x14 x15) Q E := by
  have hz : sizeLine = 16777216 := sizeLine_eq
  have z2 : 2 ≤ sizeLine := by decide
  unfold gL0
  unfold stL at h ⊢
  have hb := b.ha
  have hb1 := b.n1
  simp -dsimp
  refine take_w (by decide) (by decide) fun n f1 n0 n1 => ?_
  simp -dsimp
  refine OQ_range (by omega) (by omega) ?_
  refine wp_for (enc := fun n : Nat => Dat.int (n : Int)) (fun done ς => ∃ f' needs x7, (Nw x7 ∧ (∀ x ∈ needs, Nm x) ∧ needs.length = done.length) ∧ ς = stL B f' needs x7 x8 x9 x10 x11 x12 x13 x14 x15) ⟨f1, [], _, ⟨h7, (fun _ h => nomatch h), rfl⟩, rfl⟩ ?_ ?_
  · rintro done x rest _ e ⟨f', needs, x7, ⟨h7', hg, hl⟩, rfl⟩
    have hl1 : needs.length < 1000 := by
      have := congrArg List.length e
      simp at this
      omega
    unfold stL
    simp -dsimp [len_strs]
    refine take_w (by omega) (by omega) fun a f2 a0 a1 => ?_
    simp -dsimp [len_strs, z2, x_mod (show 0 < (B.ns.length : Int) by omega)]
    refine pick_w (by simp) (by simp) fun d f3 hd => ?_
    obtain ⟨i, rfl, hi⟩ : ∃ i : Nat, d = .int (i : Int) ∧ i < B.ns.length := by
      simp only [List.mem_cons, List.not_mem_nil, or_false] at hd
      rcases hd with rfl | rfl
      · exact ⟨a.toNat, by rw [Int.toNat_of_nonneg a0], by omega⟩
      · have h1 := Int.emod_nonneg ((B.at_ : Int) + 1) (show (B.ns.length : Int) ≠ 0 by omega)
        have h2 := Int.emod_lt_of_pos ((B.at_ : Int) + 1) (show 0 < (B.ns.length : Int) by omega)
        exact ⟨(((B.at_ : Int) + 1) % (B.ns.length : Int)).toNat, by rw [Int.toNat_of_nonneg h1], by omega⟩
    simp -dsimp [at_strs hi]
    refine ⟨by omega, f3, needs ++ [B.ns[i]], _, ⟨nw_fr _, all_app hg (b.hn _ (List.getElem_mem hi)), by simp [hl]⟩, by rw [List.map_append]; rfl⟩
  · rintro _ ⟨f', needs, x7, ⟨h7', hg, hl⟩, rfl⟩
    exact h f' needs x7 h7' hg (by simp at hl; omega)
theorem gLu_w (b : BaseOk B) {needs : List Str} {us : List Use} {x7 x8 x9 x10 x11 x12 x13 x14 x15 : Option VS.Slot} (hn : ∀ x ∈ needs, Nm x) (nl : needs.length ≤ 100) (hgv : B.gv ≠ [])
    (h : ∀ f' needs' (u : Use) x11 x12 x13 x14 x15, (∀ x ∈ needs', Nm x) → needs'.length ≤ needs.length + 1 → UseOk u → Q .nx (stL B f' needs' x7 x8 x9 (some (.fr (useD u))) x11 x12 x13 x14 x15)) : WP gLu (stL B f needs x7 x8 x9 x10 x11 x12 x13 x14 x15) Q E := by
  have hz : sizeLine = 16777216 := sizeLine_eq
  have z1 : 1 ≤ sizeLine := by decide
  have z4 : 4 ≤ sizeLine := by decide
  have hv1 := b.v1
  unfold gLu
  unfold stL at h ⊢
  simp -dsimp
  refine pickM_w hgv (by have := b.g1; omega) fun p f6 hp => ?_
  have hp := b.hg p hp
  obtain ⟨pw, pv, pc, pb⟩ := p
  have hst : slD (strsD B.vs) none (some 1) = some (.tp (.lst ((B.vs.take 1).map .str))) := by
    show some (ER.tp (.lst (cutD (B.vs.map .str) none (some 1)))) = _
    rw [cut_to _ (by decide), ← List.map_take]
    rfl
  have fin : ∀ (f' : Int × Int) (v : Str), Vn v → ∀ (x12 x13 x14 x15 : Option VS.Slot), Q .nx ⟨[some (.ow (fdD f')), some (.fr (strsD B.ns)), some (.fr (.int (B.at_ : Int))), some (.fr (strsD B.ws)), some (.fr (gvsD B.gv)), some (.fr (strsD B.vs)), some (.ow (.lst (needs.map .str))), x7, x8, x9, some (.fr (.tup [.str pw, .str v, .bl true, .bl true])), some (.fr (.str pw)), x12, x13, x14, x15, none, none, none, none, none, none], B.ob⟩ ∧ Q .nx ⟨[some (.ow (fdD f')), some (.fr (strsD B.ns)), some (.fr (.int (B.at_ : Int))), some (.fr (strsD B.ws)), some (.fr (gvsD B.gv)), some (.fr (strsD B.vs)), some (.ow (.lst (needs.map .str ++ [.str pb]))), x7, x8, x9, some (.fr (.tup [.str pw, .str v, .bl true, .bl true])), some (.fr (.str pw)), x12, x13, x14, x15, none, none, none, none, none, none], B.ob⟩ := fun f' v hv x12 x13 x14 x15 => by
    refine ⟨h f' needs ⟨pw, v, true, true⟩ _ _ _ _ _ hn (by omega) ⟨hp.w, hv⟩, ?_⟩
    have := h f' (needs ++ [pb]) ⟨pw, v, true, true⟩ (some (.fr (.str pw))) x12 x13 x14 x15 (all_app hn hp.b) (by simp) ⟨hp.w, hv⟩
    rwa [List.map_append] at this
  have vs1 : ∀ d ∈ (B.vs.take 1).map Dat.str, ∃ v, d = .str v ∧ Vn v := fun d hd => by
    obtain ⟨v, hv, rfl⟩ := List.mem_map.mp hd
    exact ⟨v, rfl, .inr (b.hv v (List.mem_of_mem_take hv))⟩
  have hl1 : ((B.vs.take 1).map Dat.str).length ≤ 1 := by simp; omega
  generalize (B.vs.take 1).map Dat.str = V1 at *
  simp -dsimp [gvD]
  cases pc
  · simp -dsimp [z4, hst]
    refine ⟨by omega, pick_w (by simp) (by simp; omega) fun d f7 hd => ?_⟩
    have hd : ∃ v, d = .str v ∧ Vn v := by
      simp at hd
      rcases hd with rfl | hd
      · exact ⟨_, rfl, hp.v⟩
      · exact vs1 d hd
    obtain ⟨v, rfl, hv⟩ := hd
    simp -dsimp [z4, z1]
    refine take_w (by decide) (by decide) fun y f8 y0 y1 => ?_
    simp -dsimp
    by_cases hy : 0 < y
    · simp -dsimp [hy]
      exact ⟨by omega, (fin f8 v hv _ _ _ _).2⟩
    · simp -dsimp [hy]
      exact ⟨by omega, (fin f8 v hv _ _ _ _).1⟩
  · simp -dsimp [z4, hst]
    refine ⟨by omega, pick_w (by simp) (by simp; omega) fun d f7 hd => ?_⟩
    have hd : ∃ v, d = .str v ∧ Vn v := by
      simp at hd
      repeat' (first | exact vs1 d hd | exact ⟨_, rfl, hp.v⟩ | exact ⟨_, rfl, .inl rfl⟩ | rcases hd with rfl | hd)
    obtain ⟨v, rfl, hv⟩ := hd
    simp -dsimp [z4, z1]
    refine take_w (by decide) (by decide) fun y f8 y0 y1 => ?_
    simp -dsimp
    by_cases hy : 0 < y
    · simp -dsimp [hy]
      exact ⟨by omega, (fin f8 v hv _ _ _ _).2⟩
    · simp -dsimp [hy]
      exact ⟨by omega, (fin f8 v hv _ _ _ _).1⟩
end
end K26

namespace K26
open PySem VS L2
section
variable {B : Base} {f : Int × Int} {Q : Flw → VS.St → Prop} {E : XQ}
theorem gL1_w (b : BaseOk B) {needs : List Str} {x7 x9 x10 x11 x12 x13 x14 x15 : Option VS.Slot} (hn : ∀ x ∈ needs, Nm x) (nl : needs.length ≤ 3) (h7 : Nw x7) (h : ∀ f' needs (us : List Use) x7 x9 x10 x11 x12 x13 x14 x15, Nw x7 → (∀ x ∈ needs, Nm x) → needs.length ≤ 11 → (∀ u ∈ us, UseOk u) → us.length ≤ 8 → Q .nx (stL B f' needs x7 (some (.ow (usD us))) x9 x10 x11 x12 x13 x14 x15)) : WP gL1 (stL B f needs x7 (some (.ow (.lst []))) x9 x10 x11 x12 x13 x14 x15) Q E := by
  have hz : sizeLine = 16777216 := sizeLine_eq
  have hw := b.w1
  have hv := b.v1
  have z3 : 3 ≤ sizeLine := by decide
  have z4 : 4 ≤ sizeLine := by decide
  unfold gL1
  have hgLu := fun (needs : List Str) (us : List Use) (x7 x8 x9 x10 x11 x12 x13 x14 x15 : Option VS.Slot) (f : Int × Int) (hn : ∀ x ∈ needs, Nm x) (nl : needs.length ≤ 100) (hgv : B.gv ≠ []) (Q : Flw → VS.St → Prop) (E : XQ) (h : ∀ f' needs' (u : Use) x11 x12 x13 x14 x15, (∀ x ∈ needs', Nm x) → needs'.length ≤ needs.length + 1 → UseOk u → Q .nx (stL B f' needs' x7 x8 x9 (some (.fr (useD u))) x11 x12 x13 x14 x15)) => gLu_w (f := f) (x10 := x10) (x11 := x11) (x12 := x12) (x13 := x13) (x14 := x14) (x15 := x15) (E := E) b (us := us) hn nl hgv h
  generalize gLu = G at hgLu
  unfold stL at h ⊢
  simp -dsimp
  refine take_w (by decide) (by decide) fun a f1 a0 a1 => ?_
  simp -dsimp
  refine take_w (by decide) (by decide) fun c f2 c0 c1 => ?_
  simp -dsimp [z3]
  refine pick_w (by simp) (by simp) fun d f3 hd => ?_
  obtain ⟨n, rfl, n0', n1'⟩ : ∃ n : Int, d = .int n ∧ 0 ≤ n ∧ n ≤ 8 := by
    simp only [List.mem_cons, List.not_mem_nil, or_false] at hd
    rcases hd with rfl | rfl | rfl
    all_goals exact ⟨_, rfl, by omega, by omega⟩
  simp -dsimp
  refine OQ_range (by omega) (by omega) ?_
  refine wp_for (enc := fun n : Nat => Dat.int (n : Int)) (fun done ς => ∃ f' needs us x7 x9 x10 x11 x12 x13 x14 x15, (Nw x7 ∧ (∀ x ∈ needs, Nm x) ∧ needs.length ≤ 3 + done.length ∧ (∀ u ∈ us, UseOk u) ∧ us.length = done.length) ∧ ς = stL B f' needs x7 (some (.ow (.lst (us.map useD)))) x9 x10 x11 x12 x13 x14 x15) ⟨f3, needs, [], _, _, _, _, _, _, _, _, ⟨h7, hn, by simpa using nl, (fun _ h => nomatch h), rfl⟩, rfl⟩ ?_ ?_
  · rintro done x rest _ e ⟨f', needs, us, x7, x9, x10, x11, x12, x13, x14, x15, ⟨h7', hg, hl, hu, hul⟩, rfl⟩
    have hl1 : us.length < 8 := by
      have := congrArg List.length e
      simp at this
      omega
    have hl2 : us.length < sizeLine := by omega
    unfold stL at hgLu ⊢
    simp -dsimp [add_strs, z3]
    refine ⟨by omega, ?_⟩
    refine pick_w (by simp) (by simp; omega) fun d f4 hd => ?_
    obtain ⟨v, rfl, hv'⟩ : ∃ v, d = .str v ∧ Vn v := by
      simp at hd
      rcases hd with rfl | ⟨v, hv', rfl⟩
      · exact ⟨_, rfl, .inl rfl⟩
      · exact ⟨_, rfl, .inr (b.hv v hv')⟩
    have fin : ∀ f' needs' (u : Use) (x7 x9 x10 x11 x12 x13 x14 x15 : Option VS.Slot), Nw x7 → (∀ x ∈ needs', Nm x) → needs'.length ≤ 3 + (done.length + 1) → UseOk u → us.length + 1 ≤ sizeLine ∧ ∃ (f'' : Int × Int) (needs'' : List Str) (us' : List Use) (y7 y9 y10 y11 y12 y13 y14 y15 : Option VS.Slot), (Nw y7 ∧ (∀ x ∈ needs'', Nm x) ∧ needs''.length ≤ 3 + (done ++ [x]).length ∧ (∀ u ∈ us', UseOk u) ∧ us'.length = (done ++ [x]).length) ∧ stL B f' needs' x7 (some (.ow (.lst (us.map useD ++ [useD u])))) x9 x10 x11 x12 x13 x14 x15 = stL B f'' needs'' y7 (some (.ow (.lst (us'.map useD)))) y9 y10 y11 y12 y13 y14 y15 := fun f' needs' u x7 x9 x10 x11 x12 x13 x14 x15 h0 h1 h2 h3 =>
      ⟨by omega, f', needs', us ++ [u], _, _, _, _, _, _, _, _, ⟨h0, h1, by simp; omega, all_app hu h3, by simp [hul]⟩, by rw [List.map_append]; rfl⟩
    simp -dsimp
    refine pickS_w b.w0 (by omega) fun w f5 hW => ?_
    have hW := b.hw w hW
    simp -dsimp
    refine take_w (by decide) (by decide) fun y f6 y0 y1 => ?_
    by_cases hgv : B.gv = []
    · have e0 : neE (gvsD B.gv) (.lst []) = some (.fr (.bl false)) := by rw [ne_gvs b.hg]; simp [hgv]
      simp -dsimp [z4, e0]
      exact (fin f6 needs ⟨w, v, false, decide (y = 0)⟩ _ _ _ _ _ _ _ _ (nw_fr _) hg (by omega) ⟨hW, hv'⟩).imp id At.mk
    · have e0 : neE (gvsD B.gv) (.lst []) = some (.fr (.bl true)) := by rw [ne_gvs b.hg]; simp [hgv]
      simp -dsimp [z4, e0]
      refine take_w (by decide) (by decide) fun c f7 c0 c1 => ?_
      simp -dsimp
      by_cases hc : c = 0
      · simp -dsimp [hc]
        refine hgLu needs us _ _ _ _ _ _ _ _ _ _ hg (by omega) hgv _ _ fun f8 needs' u x11 x12 x13 x14 x15 hn' hl' hu' => ?_
        simp -dsimp
        exact (fin f8 needs' u _ _ _ _ _ _ _ _ (nw_fr _) hn' (by omega) hu').imp id At.mk
      · simp -dsimp [hc]
        exact (fin f7 needs ⟨w, v, false, decide (y = 0)⟩ _ _ _ _ _ _ _ _ (nw_fr _) hg (by omega) ⟨hW, hv'⟩).imp id At.mk
  · rintro _ ⟨f', needs, us, x7, x9, x10, x11, x12, x13, x14, x15, ⟨h7', hg, hl, hu, hul⟩, rfl⟩
    simp at hl hul
    exact h f' needs us x7 x9 x10 x11 x12 x13 x14 x15 h7' hg (by omega) hu (by omega)
end
end K26

namespace K26
open PySem VS L2
section
variable {B : Base} {f : Int × Int} {Q : Flw → VS.St → Prop} {E : XQ}
def needIx (p : Str × Nat) : Dat := .tup [.int (p.2 : Int), .str p.1]
theorem enum_strs (ws : List Str) : enumD (ws.map .str) = ws.zipIdx.map needIx := enumD_map ws
theorem library_w (b : BaseOk B) {K : FOut → Prop} (h : ∀ f' l, LibOk l → l.nm = B.ns[B.at_]'b.ha → K (.ok (.fr (libD l)) [.ow (fdD f'), .fr (strsD B.ns), .fr (.int (B.at_ : Int)), .fr (strsD B.ws), .fr (gvsD B.gv), .fr (strsD B.vs)] B.ob)) :
    WF F_law_library_drawn [.ow (fdD f), .fr (strsD B.ns), .fr (.int (B.at_ : Int)), .fr (strsD B.ws), .fr (gvsD B.gv), .fr (strsD B.vs)] B.ob K := by
  have hz : sizeLine = 16777216 := sizeLine_eq
  have hw := b.w1
  have hv := b.v1
  have ha := b.ha
  have hn1 := b.n1
  have n0 : B.ns ≠ [] := fun e => by rw [e] at ha; simp at ha
  have z3 : 3 ≤ sizeLine := by decide
  have z7 : 7 ≤ sizeLine := by decide
  unfold F_law_library_drawn
  rw [gL_eq]
  simp -dsimp
  refine gL0_w b nw_none fun f0 needs x7 h7 hn nl => ?_
  unfold stL
  simp -dsimp
  refine gL1_w b hn nl h7 fun f1 needs us x7 x9 x10 x11 x12 x13 x14 x15 h7 hn nl hu ul => ?_
  unfold stL gL2
  simp -dsimp [enum_strs, noOwn]
  refine lc_st (enc := needIx) (fun _ : Unit => _) (c0 := ()) Dat.str (fun p y => y = p.1) (fun p hp _ => ?_) fun ys _ yl yP => ?_
  · have hp1 : p.1 ∈ needs := by
      have := List.mem_zipIdx hp
      rw [this.2.2]
      exact List.getElem_mem _
    simp -dsimp [needIx, at_strs ha]
    obtain ⟨t, ht⟩ : ∃ t, ninGD (.str p.1) (.lst ((needs.map Dat.str).take p.2)) = some (.fr (.bl t)) := by
      rw [← List.map_take]
      exact ⟨_, nin_strs (n := 8) (by omega) (hn _ hp1).tx fun x hx => (hn x (List.mem_of_mem_take hx)).tx⟩
    by_cases c1 : p.1 = B.ns[B.at_]
    · simp -dsimp [c1]
      exact ⟨(), rfl⟩
    · simp -dsimp [c1, ht]
      cases t
      · simp -dsimp
        exact ⟨(), rfl⟩
      · simp -dsimp
        exact ⟨_, (), rfl, rfl, rfl⟩
  have yT : ∀ y ∈ ys, Nm y := fun y hy => by
    obtain ⟨p, hp, rfl⟩ := yP y hy
    have := List.mem_zipIdx hp
    rw [this.2.2]
    exact hn _ (List.getElem_mem _)
  have yl' : ys.length ≤ 11 := by simp at yl; omega
  simp -dsimp
  refine ⟨by omega, ?_⟩
  refine gives_w n0 (by omega) b.hn b.w0 (by omega) b.hw (by omega) (by omega) b.hv fun f2 gs hg gl => ?_
  simp -dsimp
  refine OQ_range (by decide) (by decide) ?_
  simp -dsimp [noOwn]
  refine ⟨by
    split
    · rename_i d he
      exact absurd (Option.some.inj he) (h7 d)
    · rfl, ?_⟩
  refine lc_st1 (enc := fun n : Nat => Dat.int (n : Int)) (fun f : Int × Int => ⟨[some (.ow (fdD f)), some (.fr (strsD B.ns)), some (.fr (.int (B.at_ : Int))), some (.fr (strsD B.ws)), some (.fr (gvsD B.gv)), some (.fr (strsD B.vs)), some (.ow (.lst (ys.map .str))), none, some (.fr (usD us)), x9, x10, x11, x12, x13, x14, x15, some (.fr (.tup (gs.map giveD))), none, none, none, none, none], B.ob⟩) (c0 := f2) rowsD (fun _ rs => (∀ r ∈ rs, RwOk us r) ∧ rs.length ≤ 8) (fun k hk f => ?_) fun rs f3 rl rP => ?_
  · simp -dsimp
    refine rows_w n0 (by omega) b.hn b.w0 (by omega) b.hw ul fun f2 ds hds hdl => ?_
    simp -dsimp
    exact ⟨_, _, ⟨hds, hdl⟩, rfl, rfl⟩
  obtain ⟨r0, r1, rfl⟩ : ∃ r0 r1, rs = [r0, r1] := by
    match rs, rl with
    | [r0, r1], _ => exact ⟨r0, r1, rfl⟩
  have hr0 := (rP r0 (by simp)).elim fun _ z => z.2
  have hr1 := (rP r1 (by simp)).elim fun _ z => z.2
  simp -dsimp
  refine ⟨by decide, by decide, ?_⟩
  try simp -dsimp [noOwn]
  rw [show [Dat.str "early", Dat.str "own", Dat.str "stays"] = (["early", "own", "stays"] : List Str).map Dat.str from rfl]
  refine lc_st (enc := Dat.str) (fun f : Int × Int => ⟨[some (.ow (fdD f)), some (.fr (strsD B.ns)), some (.fr (.int (B.at_ : Int))), some (.fr (strsD B.ws)), some (.fr (gvsD B.gv)), some (.fr (strsD B.vs)), some (.ow (.lst (ys.map .str))), x7, some (.fr (usD us)), x9, x10, x11, x12, x13, x14, x15, some (.fr (.tup (gs.map giveD))), some (.ow (.lst [rowsD r0, rowsD r1])), none, none, none, none], B.ob⟩) (c0 := f3) Dat.str (fun x y => y = x) (fun x hx f => ?_) fun ms f4 ml mP => ?_
  · simp -dsimp
    refine take_w (by decide) (by decide) fun y f5 y0 y1 => ?_
    simp -dsimp
    split
    · exact ⟨_, _, rfl, rfl, rfl⟩
    · exact ⟨_, rfl⟩
  have ml' : ms.length ≤ 3 := ml
  have hms : ∀ m ∈ ms, m = "early" ∨ m = "own" ∨ m = "stays" := fun m hm => by
    obtain ⟨x, hx, rfl⟩ := mP m hm
    simpa only [List.mem_cons, List.not_mem_nil, or_false] using hx
  simp -dsimp [at_strs ha, z7]
  refine ⟨by omega, ?_⟩
  unfold usD
  simp -dsimp [z7]
  rw [← List.map_take]
  exact h f4 ⟨B.ns[B.at_], ys.take 6, gs, us, r0, r1, ms⟩ ⟨b.hn _ (List.getElem_mem ha), fun x hx => yT x (List.mem_of_mem_take hx), by simp; omega, hg, gl, hu, ul, hr0.1, hr0.2, hr1.1, hr1.2, hms, ml'⟩ rfl
end
end K26

namespace K26
open PySem VS L2
theorem down {m : Nat} (h : m ≤ 12) : range3F [.int ((m : Int) - 1), .int (-1), .int (-1)] = some ((List.range m).reverse.map fun (n : Nat) => Dat.int (n : Int)) := by
  obtain rfl | rfl | rfl | rfl | rfl | rfl | rfl | rfl | rfl | rfl | rfl | rfl | rfl : m = 0 ∨ m = 1 ∨ m = 2 ∨ m = 3 ∨ m = 4 ∨ m = 5 ∨ m = 6 ∨ m = 7 ∨ m = 8 ∨ m = 9 ∨ m = 10 ∨ m = 11 ∨ m = 12 := by omega
  all_goals rfl
theorem whole_int {i : Int} {ob : List OVal} {K : FOut → Prop} (h : K (.ok (.fr (.bl true)) [.fr (.int i)] ob)) : WF F_law_whole [.fr (.int i)] ob K := by
  have q1 : isiB "int" "int" = some true := by decide
  have q2 : isiB "int" "bool" = some false := by decide
  have e1 : isiD [.int i, .ty "int"] = some (.fr (.bl true)) := by simp [isiD, tyN, q1]
  have e2 : isiD [.int i, .ty "bool"] = some (.fr (.bl false)) := by simp [isiD, tyN, q2]
  unfold F_law_whole g_law_whole
  simp -dsimp [e1, e2]
  exact h
theorem whole_w {w : Int ⊕ List Rw} {ob : List OVal} {K : FOut → Prop} (h : K (.ok (.fr (.bl (cellB w))) [.fr (whD w)] ob)) : WF F_law_whole [.fr (whD w)] ob K := by
  cases w with
  | inl i => exact whole_int h
  | inr ds =>
    have q3 : isiB "tuple" "int" = some false := by decide
    have e3 : ∀ ds, isiD [.tup ds, .ty "int"] = some (.fr (.bl false)) := fun i => by simp [isiD, tyN, q3]
    unfold F_law_whole g_law_whole
    simp -dsimp [whD, e3]
    exact h
/-- what a library gives of cells, to be used by others -/
def giv (nm : Str) (gs : List Give) : List Gv := (gs.filter fun g => cellB g.wh).map fun g => ⟨g.w, g.v, g.ch, nm⟩
def owfr (b : Bool) (d : Dat) : VS.Slot := if b then .fr d else .ow d
def stS (b : Bool) (ob : List OVal) (most : Nat) (ns ws vs : List Str) (f : Int × Int) (m : Nat) (ls : List Lib) (gv : List Gv) (x8 x9 : Option VS.Slot) : VS.St := ⟨[some (.ow (fdD f)), some (.fr (.int (most : Int))), some (.fr (.int (m : Int))), some (owfr b (strsD ns)), some (owfr b (strsD ws)), some (owfr b (strsD vs)), some (.ow (.lst (ls.map libD))), some (.ow (gvsD gv)), x8, x9, none], ob⟩
theorem ix_gs (l : Lib) : ixGD (libD l) (.int 2) = some (.fr (.tup (l.gs.map giveD))) := rfl
theorem ix_us (l : Lib) : ixGD (libD l) (.int 3) = some (.fr (.tup (l.us.map useD))) := rfl
theorem g0 (g : Give) : ixGD (giveD g) (.int 0) = some (.fr (.str g.w)) := rfl
theorem g1 (g : Give) : ixGD (giveD g) (.int 1) = some (.fr (.str g.v)) := rfl
theorem g2 (g : Give) : ixGD (giveD g) (.int 2) = some (.fr (.bl g.ch)) := rfl
theorem g3 (g : Give) : ixGD (giveD g) (.int 3) = some (.fr (.bl g.fa)) := rfl
theorem g4 (g : Give) : ixGD (giveD g) (.int 4) = some (.fr (whD g.wh)) := rfl
theorem add_gvs (ps : List Gv) (xs : List Dat) : addGT (gvsD ps) (.lst xs) = lstCat (.lst (ps.map gvD)) (.lst xs) := addGT_lst _ _
theorem sl_give (g : Give) : slD (giveD g) none (some 3) = some (.fr (.tup [.str g.w, .str g.v, .bl g.ch])) := rfl
theorem shelf_w {f : Int × Int} {most : Nat} {ob : List OVal} {K : FOut → Prop} (hm0 : 1 ≤ most) (hm1 : most ≤ 12) (h : ∀ f' ls, (∀ l ∈ ls, LibOk l) → ls ≠ [] → ls.length ≤ most → K (.ok (.fr (.tup (ls.map libD))) [.ow (fdD f'), .fr (.int (most : Int))] ob)) : WF F_law_shelf [.ow (fdD f), .fr (.int (most : Int))] ob K := by
  have hz : sizeLine = 16777216 := sizeLine_eq
  have z1 : 1 ≤ sizeLine := by decide
  have z2 : 2 ≤ sizeLine := by decide
  have z4 : 4 ≤ sizeLine := by decide
  unfold F_law_shelf g_law_shelf
  simp -dsimp
  refine take_w (by omega) (by omega) fun y f1 y0 y1 => ?_
  simp -dsimp [z2]
  refine pick_w (by simp) (by simp) fun d f2 hd => ?_
  obtain ⟨m, rfl, hm0', hm8⟩ : ∃ m : Nat, d = .int (m : Int) ∧ 1 ≤ m ∧ m ≤ most := by
    simp only [List.mem_cons, List.not_mem_nil, or_false] at hd
    rcases hd with rfl | rfl
    · exact ⟨most, rfl, by omega, by omega⟩
    · exact ⟨(1 + y).toNat, by rw [Int.toNat_of_nonneg (by omega)], by omega, by omega⟩
  simp -dsimp
  refine unlike_w (by omega) (by omega) fun f3 ns nl hn => ?_
  simp -dsimp
  refine unlike_w (by omega) (by omega) fun f4 ws wl hw => ?_
  simp -dsimp
  refine unlike_w (by omega) (by omega) fun f5 vs vl hv => ?_
  simp at nl wl vl
  have w0 : ws ≠ [] := fun e => by rw [e] at wl; simp at wl
  have hnl : (ns.length : Int) = (m : Int) := by omega
  simp -dsimp [hnl, down (show m ≤ 12 by omega)]
  rw [← List.map_reverse]
  refine wp_for (enc := fun n : Nat => Dat.int (n : Int)) (fun done ς => ∃ b f' ls gv x8 x9, ((∀ l ∈ ls, LibOk l) ∧ ls.length = done.length ∧ gv.length ≤ 8 * done.length ∧ ∀ p ∈ gv, GvOk p) ∧ ς = stS b ob most ns ws vs f' m ls gv x8 x9) ⟨false, f5, [], [], _, _, ⟨(fun _ h => nomatch h), rfl, by simp, (fun _ h => nomatch h)⟩, rfl⟩ ?_ ?_
  · rintro done x rest _ e ⟨b, f', ls, gv, x8, x9, ⟨hl, hll, hgl, hg⟩, rfl⟩
    have hx : x < m := by
      have : x ∈ (List.range m).reverse := by rw [e]; simp
      simpa using this
    have hdl : done.length < m := by
      have := congrArg List.length e
      simp at this
      omega
    have hxn : x < ns.length := by omega
    have hB : BaseOk ⟨ob, ns, x, ws, gv, vs⟩ := ⟨by show ns.length ≤ 100; omega, hn, hxn, w0, by show ws.length ≤ 100; omega, hw, by show vs.length ≤ 100; omega, hv, by show gv.length ≤ 1000; omega, hg⟩
    unfold stS owfr
    cases b
    · simp -dsimp
      refine library_w hB fun f6 l hlo hnm => ?_
      have hgl4 := hlo.gsN
      simp -dsimp [z1]
      refine ⟨by omega, ?_⟩
      simp -dsimp [noOwn, ix_gs]
      refine lc_map (enc := giveD) (fun g => cellB g.wh) giveD (fun g hg => ?_) ?_
      · simp -dsimp [g4]
        refine whole_w ?_
        simp -dsimp
      simp -dsimp
      try simp -dsimp [noOwn]
      refine ⟨Nat.le_trans (List.length_filter_le _ _) (by omega), ?_⟩
      refine lc_map (enc := giveD) (fun _ => true) (fun g => gvD ⟨g.w, g.v, g.ch, ns[x]⟩) (fun g hg => ?_) ?_
      · simp -dsimp [sl_give, at_strs hxn]
        exact ⟨by omega, by omega, rfl⟩
      have hgl : (giv ns[x] l.gs).length ≤ 8 := by
        unfold giv
        rw [List.length_map]
        exact Nat.le_trans (List.length_filter_le _ _) hgl4
      rw [show (List.map (fun g => gvD { w := g.w, v := g.v, ch := g.ch, by_ := ns[x] }) (List.filter (fun _ => true) (List.filter (fun g => cellB g.wh) l.gs))) = (giv ns[x] l.gs).map gvD by
        unfold giv
        rw [List.map_map, List.filter_eq_self.mpr (by simp)]
        rfl]
      simp -dsimp [add_gvs]
      refine ⟨by omega, by omega, ?_⟩
      refine ⟨true, f6, l :: ls, gv ++ giv ns[x] l.gs, some (.fr (.int (x : Int))), some (.fr (.lst ((l.gs.filter fun g => cellB g.wh).map giveD))), ⟨?_, ?_, ?_, ?_⟩, by simp only [gvsD, List.map_append, List.map_cons, stS, owfr]; rfl⟩
      · intro l' hl'
        rcases List.mem_cons.mp hl' with rfl | hl'
        · exact hlo
        · exact hl l' hl'
      · simp [hll]
      · simp; omega
      · intro p hp
        rcases List.mem_append.mp hp with hp | hp
        · exact hg p hp
        · unfold giv at hp
          obtain ⟨g, hgm, rfl⟩ := List.mem_map.mp hp
          exact ⟨(hlo.gs g (List.mem_filter.mp hgm).1).w, (hlo.gs g (List.mem_filter.mp hgm).1).v, hn _ (List.getElem_mem hxn)⟩
    · simp -dsimp
      refine library_w hB fun f6 l hlo hnm => ?_
      have hgl4 := hlo.gsN
      simp -dsimp [z1]
      refine ⟨by omega, ?_⟩
      simp -dsimp [noOwn, ix_gs]
      refine lc_map (enc := giveD) (fun g => cellB g.wh) giveD (fun g hg => ?_) ?_
      · simp -dsimp [g4]
        refine whole_w ?_
        simp -dsimp
      simp -dsimp
      try simp -dsimp [noOwn]
      refine ⟨Nat.le_trans (List.length_filter_le _ _) (by omega), ?_⟩
      refine lc_map (enc := giveD) (fun _ => true) (fun g => gvD ⟨g.w, g.v, g.ch, ns[x]⟩) (fun g hg => ?_) ?_
      · simp -dsimp [sl_give, at_strs hxn]
        exact ⟨by omega, by omega, rfl⟩
      have hgl : (giv ns[x] l.gs).length ≤ 8 := by
        unfold giv
        rw [List.length_map]
        exact Nat.le_trans (List.length_filter_le _ _) hgl4
      rw [show (List.map (fun g => gvD { w := g.w, v := g.v, ch := g.ch, by_ := ns[x] }) (List.filter (fun _ => true) (List.filter (fun g => cellB g.wh) l.gs))) = (giv ns[x] l.gs).map gvD by
        unfold giv
        rw [List.map_map, List.filter_eq_self.mpr (by simp)]
        rfl]
      simp -dsimp [add_gvs]
      refine ⟨by omega, by omega, ?_⟩
      refine ⟨true, f6, l :: ls, gv ++ giv ns[x] l.gs, some (.fr (.int (x : Int))), some (.fr (.lst ((l.gs.filter fun g => cellB g.wh).map giveD))), ⟨?_, ?_, ?_, ?_⟩, by simp only [gvsD, List.map_append, List.map_cons, stS, owfr]; rfl⟩
      · intro l' hl'
        rcases List.mem_cons.mp hl' with rfl | hl'
        · exact hlo
        · exact hl l' hl'
      · simp [hll]
      · simp; omega
      · intro p hp
        rcases List.mem_append.mp hp with hp | hp
        · exact hg p hp
        · unfold giv at hp
          obtain ⟨g, hgm, rfl⟩ := List.mem_map.mp hp
          exact ⟨(hlo.gs g (List.mem_filter.mp hgm).1).w, (hlo.gs g (List.mem_filter.mp hgm).1).v, hn _ (List.getElem_mem hxn)⟩
  · rintro _ ⟨b, f', ls, gv, x8, x9, ⟨hl, hll, hgl, hg⟩, rfl⟩
    unfold stS
    simp -dsimp
    simp at hll
    exact h f' ls hl (fun e => by subst e; simp at hll; omega) (by omega)
end K26

namespace K26
open PySem VS L2
/-! the numbers of words -/
def lno (c : Nat) : Nat := match Builtin.Str.occurrences (Str.ofString "abcdefghijklmnopqrstuvwxyz") ⟨#[c]⟩ 0 (Str.ofString "abcdefghijklmnopqrstuvwxyz").length 1 with
  | i :: _ => i
  | [] => 0
theorem let_mem : (List.range 26).all (fun k => decide (97 + k ∈ (Str.ofString "abcdefghijklmnopqrstuvwxyz").cps.toList)) = true := by decide +kernel
theorem let_len : (Str.ofString "abcdefghijklmnopqrstuvwxyz").length = 26 := by decide +kernel
theorem occ_gen {L : Str} {c : Nat} (hm : c ∈ L.cps.toList) : ∃ i r, Builtin.Str.occurrences L ⟨#[c]⟩ 0 L.length 1 = i :: r ∧ i ≤ L.length := by
  have hf := StrLaws.found_one L c
  have hs := StrLaws.occ_spec L ⟨#[c]⟩ 0 L.length 1
  generalize Builtin.Str.occurrences L ⟨#[c]⟩ 0 L.length 1 = o at *
  cases o with
  | nil => rw [decide_eq_true hm] at hf; cases hf
  | cons i r => exact ⟨i, r, rfl, by have := (hs i (by simp)).1; omega⟩
theorem lno_index {c : Nat} (h0 : 97 ≤ c) (h1 : c ≤ 122) : indexD [.str (Str.ofString "abcdefghijklmnopqrstuvwxyz"), .str ⟨#[c]⟩] = some (.fr (.int (lno c : Int))) ∧ lno c ≤ 26 := by
  have hm : c ∈ (Str.ofString "abcdefghijklmnopqrstuvwxyz").cps.toList := by
    have := List.all_eq_true.mp let_mem (c - 97) (List.mem_range.mpr (by omega))
    rw [decide_eq_true_eq] at this
    rwa [show 97 + (c - 97) = c by omega] at this
  obtain ⟨i, r, q, hl⟩ := occ_gen hm
  rw [let_len] at hl
  have e : lno c = i := by unfold lno; rw [q]
  rw [e]
  exact ⟨by unfold indexD; simp only [q], hl⟩
def wstep (a : Int) (c : Nat) : Int := (a * 33 + (lno c : Int) + 1) % 4294967296
def wno (w : Str) : Int := w.cps.toList.foldl wstep 0
theorem wstep_b (a : Int) (c : Nat) : 0 ≤ wstep a c ∧ wstep a c < 4294967296 := ⟨Int.emod_nonneg _ (by decide), Int.emod_lt_of_pos _ (by decide)⟩
theorem wfold_b : ∀ (l : List Nat) (a : Int), 0 ≤ a ∧ a < 4294967296 → 0 ≤ l.foldl wstep a ∧ l.foldl wstep a < 4294967296
  | [], a, h => h
  | c :: l, a, _ => wfold_b l _ (wstep_b a c)
theorem wno_b (w : Str) : 0 ≤ wno w ∧ wno w < 4294967296 := wfold_b _ _ (by decide)
def gW : Act Flw := seqA (setA 1 (cst (.int 0)))
    (seqA (Act.bnd (iterA (var 0)) (forA (tgName 2)
    (setA 1 (op2 modG (op2 addGT (op2 addGT (op2 mulGS (var 1) (cst (.int 33))) (mthA "str" indexD (cst (.str "abcdefghijklmnopqrstuvwxyz")) (consA (var 2) (Act.ret [])))) (cst (.int 1))) (cst (.int 4294967296))))))
    (retA (fun i => decide (i < 1)) (var 1)))
theorem gW1 : g_word_number = gW := rfl
theorem gW2 : g_law_of_word = gW := rfl
def stW (w : Str) (a : Int) (x2 : Option VS.Slot) (ob : List OVal) : VS.St := ⟨[some (.fr (.str w)), some (.fr (.int a)), x2], ob⟩
theorem gW_w {w : Str} (hw : Az w) {ob : List OVal} {K : FOut → Prop} (h : K (.ok (.fr (.int (wno w))) [.fr (.str w)] ob)) : WF (runB 3 1 (fun i => decide (i ∈ ([0] : List Nat))) gW) [.fr (.str w)] ob K := by
  unfold gW
  simp -dsimp
  refine wp_for (enc := fun c : Nat => Dat.str ⟨#[c]⟩) (fun done ς => ∃ x2, ς = stW w (done.foldl wstep 0) x2 ob) ⟨_, rfl⟩ ?_ ?_
  · rintro done c rest _ e ⟨x2, rfl⟩
    have hc : c ∈ w.cps.toList := by rw [e]; simp
    have hb := wfold_b done 0 (by decide)
    have hc := hw c hc
    have hi := (lno_index hc.1 hc.2).1
    unfold stW
    simp -dsimp [x_mulS (show (-(2 ^ 64) < done.foldl wstep 0 ∧ done.foldl wstep 0 < 2 ^ 64) ∨ (-(2 ^ 64) < (33 : Int) ∧ (33 : Int) < 2 ^ 64) by omega), hi, x_mod (show (0 : Int) < 4294967296 by decide)]
    exact ⟨_, by rw [List.foldl_append]; rfl⟩
  · rintro _ ⟨x2, rfl⟩
    unfold stW
    simp -dsimp
    rw [← Array.foldl_toList]
    exact h
theorem word_w {w : Str} (hw : Az w) {ob : List OVal} {K : FOut → Prop} (h : K (.ok (.fr (.int (wno w))) [.fr (.str w)] ob)) : WF F_word_number [.fr (.str w)] ob K := by
  unfold F_word_number
  rw [gW1]
  exact gW_w hw h
theorem ofword_w {w : Str} (hw : Az w) {ob : List OVal} {K : FOut → Prop} (h : K (.ok (.fr (.int (wno w))) [.fr (.str w)] ob)) : WF F_law_of_word [.fr (.str w)] ob K := by
  unfold F_law_of_word
  rw [gW2]
  exact gW_w hw h
end K26

namespace K26
open PySem VS L2
/-! bits, chains, sieves -/
theorem insS_len (i : Int) : ∀ l, (insS i l).length ≤ l.length + 1
  | [] => by simp [insS]
  | j :: l => by
    have := insS_len i l
    unfold insS
    split
    · simp
    · split
      · simp
      · simp; omega
theorem canon_len : ∀ l : List Int, (canon l).length ≤ l.length
  | [] => Nat.le_refl _
  | i :: l => Nat.le_trans (insS_len i (canon l)) (Nat.succ_le_succ (canon_len l))
def bitsL (w : Str) (m : Nat) : List Int := canon [wno w % (m : Int), wno w / 32 % (m : Int)]
theorem bitsL_len (w : Str) (m : Nat) : (bitsL w m).length ≤ 2 := canon_len _
theorem bits_w {w : Str} (hw : Az w) {m : Nat} (hm : 0 < m) {ob : List OVal} {K : FOut → Prop} (h : K (.ok (.tp (.lst ((bitsL w m).map .int))) [.fr (.str w), .fr (.int (m : Int))] ob)) : WF F_bits_of [.fr (.str w), .fr (.int (m : Int))] ob K := by
  have hl := bitsL_len w m
  unfold F_bits_of g_bits_of
  simp -dsimp
  refine word_w hw ?_
  unfold bitsL at *
  simp -dsimp [x_mod (show (0 : Int) < (m : Int) by omega), x_div (show (0 : Int) < 32 by decide) (by decide), sortG_set _ (show (canon [wno w % (m : Int), wno w / 32 % (m : Int)]).length < 64 by omega) (canon_sorted _)]
  exact h
theorem l0 (l : Lib) : ixGD (libD l) (.int 2) = some (.fr (.tup (l.gs.map giveD))) := rfl
def giveIx (p : Give × Nat) : Dat := .tup [.int (p.2 : Int), giveD p.1]
def chainL (gs : List Give) (m k : Nat) : List Nat := (gs.zipIdx.filter fun p => decide (wno p.1.w % (m : Int) = (k : Int))).map (·.2)
def chainD (gs : List Give) (m k : Nat) : Dat := .tup ((chainL gs m k).map fun n : Nat => Dat.int (n : Int))
theorem enum_gs (gs : List Give) : enumD (gs.map giveD) = gs.zipIdx.map giveIx := enumD_map gs
theorem chain_w {l : Lib} (hl : LibOk l) {m k : Nat} (hm : 0 < m) {ob : List OVal} {K : FOut → Prop} (h : K (.ok (.fr (chainD l.gs m k)) [.fr (libD l), .fr (.int (m : Int)), .fr (.int (k : Int))] ob)) : WF F_chain_of [.fr (libD l), .fr (.int (m : Int)), .fr (.int (k : Int))] ob K := by
  have hz : sizeLine = 16777216 := sizeLine_eq
  unfold F_chain_of g_chain_of
  simp -dsimp [l0, enum_gs, noOwn]
  refine lc_map (enc := giveIx) (fun p => decide (wno p.1.w % (m : Int) = (k : Int))) (fun p => .int (p.2 : Int)) (fun p hp => ?_) ?_
  · have hg := hl.gs p.1 (by
      have := List.mem_zipIdx hp
      rw [this.2.2]
      exact List.getElem_mem _)
    simp -dsimp [giveIx, g0]
    refine word_w hg.w.az ?_
    simp -dsimp [x_mod (show (0 : Int) < (m : Int) by omega)]
    try (split <;> simp)
  · have hg8 := hl.gsN
    simp -dsimp
    refine ⟨?_, ?_⟩
    · refine Nat.le_trans (List.length_filter_le _ _) (by simp; omega)
    · unfold chainD chainL at h
      rw [List.map_map] at h
      exact h
end K26

namespace K26
open PySem VS L2
/-! the sieve, the table -/
def allL (gs : List Give) (m : Nat) : List Int := gs.flatMap fun g => bitsL g.w m
theorem allL_len : ∀ (gs : List Give) (m : Nat), (allL gs m).length ≤ 2 * gs.length
  | [], m => Nat.le_refl _
  | g :: gs, m => by
    have h1 := allL_len gs m
    have h2 := bitsL_len g.w m
    unfold allL at *
    rw [List.flatMap_cons, List.length_append, List.length_cons]
    omega
theorem bitsL_nn {w : Str} {m : Nat} (hm : 0 < m) {b : Int} (h : b ∈ bitsL w m) : 0 ≤ b ∧ b < m := by
  have h := (canon_mem b _).mp h
  simp only [List.mem_cons, List.not_mem_nil, or_false] at h
  rcases h with rfl | rfl
  all_goals exact ⟨Int.emod_nonneg _ (by omega), Int.emod_lt_of_pos _ (by omega)⟩
theorem allL_nn {gs : List Give} {m : Nat} (hm : 0 < m) {b : Int} (h : b ∈ allL gs m) : 0 ≤ b ∧ b < m := by
  obtain ⟨g, _, h⟩ := List.mem_flatMap.mp h
  exact bitsL_nn hm h
def sumB (l : List Int) : Int := (l.map fun b => (2 : Int) ^ b.toNat).sum
theorem sumB_app (l : List Int) (x : Int) : sumB (l ++ [x]) = sumB l + 2 ^ x.toNat := by
  unfold sumB
  rw [List.map_append, List.sum_append]
  simp
def sieveN (gs : List Give) (m : Nat) : Int := sumB (canon (allL gs m))
theorem pow_nn (n : Nat) : (0 : Int) < 2 ^ n := Int.pow_pos (by decide)
theorem pow_step {x : Int} {n : Nat} (h : x < (n : Int)) (h0 : 0 ≤ x) : (2 : Int) ^ x.toNat + 2 ^ x.toNat ≤ 2 ^ n := by
  obtain ⟨k, rfl⟩ : ∃ k, n = x.toNat + 1 + k := ⟨n - x.toNat - 1, by omega⟩
  have h1 : (2 : Int) ^ (x.toNat + 1) ≤ 2 ^ (x.toNat + 1 + k) := by
    rw [Int.pow_add (2 : Int) (x.toNat + 1) k]
    have := pow_nn k
    have h2 := pow_nn (x.toNat + 1)
    have : (1 : Int) ≤ 2 ^ k := this
    have := Int.mul_le_mul_of_nonneg_left this (Int.le_of_lt h2)
    omega
  rw [Int.pow_succ] at h1
  omega
def stV (l : Lib) (m : Nat) (a : Int) (x3 : Option VS.Slot) (ob : List OVal) : VS.St := ⟨[some (.fr (libD l)), some (.fr (.int (m : Int))), some (.fr (.int a)), x3, none], ob⟩
theorem sieve_w {l : Lib} (hl : LibOk l) {m : Nat} (hm : 0 < m) (hm1 : m ≤ 1000) {ob : List OVal} {K : FOut → Prop} (h : K (.ok (.fr (.int (sieveN l.gs m))) [.fr (libD l), .fr (.int (m : Int))] ob)) : WF F_sieve_of [.fr (libD l), .fr (.int (m : Int))] ob K := by
  have hz : sizeLine = 16777216 := sizeLine_eq
  have hg8 := hl.gsN
  have hal := allL_len l.gs m
  unfold F_sieve_of g_sieve_of
  simp -dsimp [l0, noOwn]
  refine tw_inv (enc := giveD) (fun done out ς => out = (allL done m).map Dat.int ∧ ∃ x3 x4, ς = ⟨[some (.fr (libD l)), some (.fr (.int (m : Int))), some (.fr (.int 0)), x3, x4], ob⟩) ⟨rfl, _, _, rfl⟩ ?_ ?_
  · rintro done g rest out _ e ⟨rfl, x3, x4, rfl⟩
    have hg := hl.gs g (by rw [e]; simp)
    simp -dsimp [g0]
    refine bits_w hg.w.az hm ?_
    simp -dsimp
    refine lc_inv (fun dn out ς' => out = dn.map Dat.int ∧ ∃ x3, ς' = ⟨[some (.fr (libD l)), some (.fr (.int (m : Int))), some (.fr (.int 0)), x3, some (.fr (giveD g))], ob⟩) ⟨rfl, _, rfl⟩ (fun dn x rs out' ς' e2 h2 => ?_) (fun out' ς' h2 => ?_)
    · obtain ⟨rfl, x3, rfl⟩ := h2
      simp -dsimp
      exact ⟨by simp, _, rfl⟩
    · obtain ⟨rfl, x3, rfl⟩ := h2
      simp -dsimp
      exact ⟨by unfold allL; simp, _, _, rfl⟩
  · rintro out _ ⟨rfl, x3, x4, rfl⟩
    have hcl := canon_len (allL l.gs m)
    have hnn : ∀ b ∈ canon (allL l.gs m), 0 ≤ b ∧ b < m := fun b hb => allL_nn hm ((canon_mem b _).mp hb)
    have hsr := canon_sorted (allL l.gs m)
    unfold sieveN at h
    simp -dsimp [intsOf_map, sortG_set _ (show (canon (allL l.gs m)).length < 64 by omega) hsr]
    refine ⟨by omega, ?_⟩
    generalize canon (allL l.gs m) = L at *
    refine wp_for (enc := Dat.int) (fun done ς => ∃ x3, (0 ≤ sumB done ∧ ∀ n : Nat, (∀ b ∈ done, b < (n : Int)) → sumB done < 2 ^ n) ∧ ς = stV l m (sumB done) x3 ob) ⟨_, ⟨by decide, fun n _ => pow_nn n⟩, rfl⟩ ?_ ?_
    · rintro done x rest _ e ⟨x3, ⟨h0, h1⟩, rfl⟩
      have hx := hnn x (by rw [e]; simp)
      have hd : ∀ b ∈ done, b < ((x.toNat : Nat) : Int) := fun b hb => by
        rw [e, List.pairwise_append] at hsr
        have := hsr.2.2 b hb x (by simp)
        omega
      have h2 := h1 x.toNat hd
      have hp := pow_nn x.toNat
      have hs : shlG (.int 1) (.int x) = some (.fr (.int (2 ^ x.toNat))) := by
        show (if powC 1 x = true then some (ER.fr (.int (1 * 2 ^ x.toNat))) else _) = _
        rw [if_pos (by unfold powC; simp; omega), Int.one_mul]
      have hb : borG (.int (sumB done)) (.int (2 ^ x.toNat)) = some (.fr (.int (sumB (done ++ [x])))) := by
        have hj := Bits.bitOr_join (b := 1) h0 h2 (by decide)
        rw [Int.one_mul] at hj
        show some (ER.fr (.int (Builtin.bitOr _ _))) = _
        rw [hj, sumB_app]
      unfold stV
      simp -dsimp [hs, hb]
      refine ⟨_, ⟨by rw [sumB_app]; omega, fun n hn => ?_⟩, rfl⟩
      have := pow_step (hn x (by simp)) hx.1
      rw [sumB_app]
      omega
    · rintro _ ⟨x3, _, rfl⟩
      unfold stV
      simp -dsimp
      exact h
def tableD (l : Lib) (m s : Nat) : Dat := .tup [.int (m : Int), .int (s : Int), .tup ((List.range m).map fun k => chainD l.gs m k), .int (sieveN l.gs s)]
theorem table_w {l : Lib} (hl : LibOk l) {m s : Nat} (hm : 0 < m) (hm1 : m ≤ 1000) (hs : 0 < s) (hs1 : s ≤ 1000) {ob : List OVal} {K : FOut → Prop} (h : K (.ok (.fr (tableD l m s)) [.fr (libD l), .fr (.int (m : Int)), .fr (.int (s : Int))] ob)) : WF F_table_of [.fr (libD l), .fr (.int (m : Int)), .fr (.int (s : Int))] ob K := by
  have hz : sizeLine = 16777216 := sizeLine_eq
  have z4 : 4 ≤ sizeLine := by decide
  unfold F_table_of g_table_of
  simp -dsimp
  refine OQ_range (by omega) (by omega) ?_
  simp -dsimp [noOwn]
  refine lc_map (enc := fun n : Nat => Dat.int (n : Int)) (fun _ => true) (fun k => chainD l.gs m k) (fun k hk => ?_) ?_
  · simp -dsimp
    refine chain_w hl hm ?_
    simp -dsimp
  · rw [List.filter_eq_self.mpr (by simp)]
    simp -dsimp
    refine ⟨by omega, ?_⟩
    refine sieve_w hl hs hs1 ?_
    simp -dsimp [z4]
    exact h
end K26

namespace K26
open PySem VS L2
/-! the law's own table -/
theorem zip_range (W : List Int) : W.zipIdx = (List.range W.length).map fun i => (W.getD i 0, i) := by
  refine List.ext_getElem (by simp) fun i h1 h2 => ?_
  have hi : i < W.length := by simpa using h1
  simp [List.getElem_zipIdx, hi]
theorem chain_eq (gs : List Give) (m k : Nat) : chainL gs m k = (List.range gs.length).filter fun i => decide ((gs.map fun g => wno g.w).getD i 0 % (m : Int) = (k : Int)) := by
  have h : chainL gs m k = ((gs.map fun g => wno g.w).zipIdx.filter fun p => decide (p.1 % (m : Int) = (k : Int))).map (·.2) := by
    unfold chainL
    rw [List.zipIdx_map, List.filter_map, List.map_map]
    rfl
  rw [h, zip_range, List.filter_map, List.map_map, List.length_map]
  have e : ((fun x : Int × Nat => x.2) ∘ fun i => ((gs.map fun g => wno g.w).getD i 0, i)) = id := rfl
  rw [e, List.map_id]
  rfl
theorem sumB_perm {l m : List Int} (h : l.Perm m) : sumB l = sumB m := by
  unfold sumB
  induction h with
  | nil => rfl
  | cons x _ ih => simp only [List.map_cons, List.sum_cons, ih]
  | swap x y l => simp only [List.map_cons, List.sum_cons]; omega
  | trans _ _ h1 h2 => rw [h1, h2]
theorem sumB_eq {gs : List Give} {s : Nat} {bs : List Int} (hn : bs.Nodup) (h : ∀ b, b ∈ bs ↔ b ∈ allL gs s) : sumB bs = sieveN gs s := by
  unfold sieveN
  refine sumB_perm ((List.perm_ext_iff_of_nodup hn ((canon_sorted _).imp fun h => Int.ne_of_lt h)).mpr fun b => ?_)
  rw [h, canon_mem]
def addB (bs : List Int) (b : Int) : List Int := if b ∈ bs then bs else bs ++ [b]
theorem addB_nd {bs : List Int} {b : Int} (h : bs.Nodup) : (addB bs b).Nodup := by
  unfold addB
  split
  · exact h
  · rename_i hb
    rw [List.nodup_append]
    exact ⟨h, by simp, fun x hx y hy => by
      rw [List.mem_singleton.mp hy]
      exact fun e => hb (e ▸ hx)⟩
theorem addB_mem {bs : List Int} {b x : Int} : x ∈ addB bs b ↔ x ∈ bs ∨ x = b := by
  unfold addB
  split
  · rename_i hb
    exact ⟨.inl, fun h => h.elim id fun e => e ▸ hb⟩
  · simp
theorem addB_len (bs : List Int) (b : Int) : (addB bs b).length ≤ bs.length + 1 := by
  unfold addB
  split
  · omega
  · simp
def gT1 : Act Flw := Act.bnd (rangeA (consA (var 1) (Act.ret []))) (forA (tgName 6)
    (seqA (setA 7 (lcA [11] (tgName 11) (testA (op2 eqE (op2 modG (op2 ixGD (var 4) (var 11)) (var 1)) (var 6))) (var 11) (rangeA (consA (callA lenD (consA (var 3) (Act.ret []))) (Act.ret [])))))
    (dropA (muA "list" appendM (var 5) (consA (callA tupleD (consA (var 7) (Act.ret []))) (Act.ret []))))))
def gT2 : Act Flw := Act.bnd (iterA (var 3)) (forA (tgName 9)
    (Act.bnd (iterA (lstA (consA (op2 modG (defA 1 F_law_of_word [false] [] (consA (op2 ixGD (var 9) (cst (.int 0))) (Act.ret []))) (var 2)) (consA (op2 modG (op2 divG (defA 1 F_law_of_word [false] [] (consA (op2 ixGD (var 9) (cst (.int 0))) (Act.ret []))) (cst (.int 32))) (var 2)) (Act.ret []))))) (forA (tgName 10)
    (setA 8 (op2 addGT (var 8) (mulLA (lstA (consA (var 10) (Act.ret []))) (callA intG (consA (op2 ninGD (var 10) (var 8)) (Act.ret [])))))))))
theorem gT_eq : g_law_table = seqA (setA 3 (op2 ixGD (var 0) (cst (.int 2))))
    (seqA (setA 4 (lcA [9] (tgName 9) (Act.ret true) (defA 1 F_law_of_word [false] [] (consA (op2 ixGD (var 9) (cst (.int 0))) (Act.ret []))) (iterA (var 3))))
    (seqA (setA 5 (lstA (Act.ret [])))
    (seqA gT1
    (seqA (setA 8 (lstA (Act.ret [])))
    (seqA gT2
    (retA (fun i => decide (i < 3)) (tupA (consA (var 1) (consA (var 2) (consA (callA tupleD (consA (var 5) (Act.ret []))) (consA (callA sumD (consA (lcA [10] (tgName 10) (Act.ret true) (op2 shlG (cst (.int 1)) (var 10)) (iterA (var 8))) (Act.ret []))) (Act.ret [])))))))))))) := rfl
def wnD (gs : List Give) : Dat := .lst (gs.map fun g => Dat.int (wno g.w))
theorem at_w {gs : List Give} {i : Nat} (h : i < gs.length) : ixGD (wnD gs) (.int (i : Int)) = some (.fr (.int ((gs.map fun g => wno g.w).getD i 0))) := by
  unfold wnD
  rw [ixGD_lst, at_nat h]
  simp [h]
def stT (l : Lib) (m s : Nat) (rows : List Dat) (x6 x7 x8 x9 x10 : Option VS.Slot) (ob : List OVal) : VS.St := ⟨[some (.fr (libD l)), some (.fr (.int (m : Int))), some (.fr (.int (s : Int))), some (.fr (.tup (l.gs.map giveD))), some (.ow (wnD l.gs)), some (.ow (.lst rows)), x6, x7, x8, x9, x10, none], ob⟩
section
variable {l : Lib} {m s : Nat} {ob : List OVal} {Q : Flw → VS.St → Prop} {E : XQ}
theorem gT1_w (hl : LibOk l) (hm : 0 < m) (hm1 : m ≤ 1000) {x8 x9 x10 : Option VS.Slot} (h : ∀ x6 x7, Q .nx (stT l m s ((List.range m).map fun k => chainD l.gs m k) x6 x7 x8 x9 x10 ob)) : WP gT1 (stT l m s [] none none x8 x9 x10 ob) Q E := by
  have hz : sizeLine = 16777216 := sizeLine_eq
  have hg8 := hl.gsN
  unfold gT1
  unfold stT at h ⊢
  simp -dsimp
  refine OQ_range (by omega) (by omega) ?_
  refine wp_for (enc := fun n : Nat => Dat.int (n : Int)) (fun done ς => ∃ x6 x7, ς = stT l m s (done.map fun k => chainD l.gs m k) x6 x7 x8 x9 x10 ob) ⟨_, _, rfl⟩ ?_ ?_
  · rintro done k rest _ e ⟨x6, x7, rfl⟩
    have hd : done.length < 1000 := by
      have := congrArg List.length e
      simp at this
      omega
    unfold stT
    simp -dsimp [noOwn]
    refine OQ_range (by omega) (by omega) ?_
    simp -dsimp [noOwn]
    refine lc_map (enc := fun n : Nat => Dat.int (n : Int)) (fun i => decide ((l.gs.map fun g => wno g.w).getD i 0 % (m : Int) = (k : Int))) (fun i => Dat.int (i : Int)) (fun i hi => ?_) ?_
    · have hi : i < l.gs.length := List.mem_range.mp hi
      simp -dsimp [at_w hi, x_mod (show (0 : Int) < (m : Int) by omega)]
    · rw [← chain_eq]
      have hc : (chainL l.gs m k).length ≤ 8 := by
        rw [chain_eq]
        exact Nat.le_trans (List.length_filter_le _ _) (by simpa using hg8)
      simp -dsimp
      refine ⟨by omega, ?_⟩
      exact ⟨by omega, ⟨_, _, by rw [List.map_append]; rfl⟩⟩
  · rintro _ ⟨x6, x7, rfl⟩
    unfold stT
    simp at h ⊢
    exact h _ _
theorem gT2_w (hl : LibOk l) (hs : 0 < s) (hs1 : s ≤ 1000) {rows : List Dat} {x6 x7 : Option VS.Slot} (h : ∀ (bs : List Int) x9 x10, Nw x10 → bs.Nodup → (∀ b, b ∈ bs ↔ b ∈ allL l.gs s) → Q .nx (stT l m s rows x6 x7 (some (.ow (.lst (bs.map .int)))) x9 x10 ob)) : WP gT2 (stT l m s rows x6 x7 (some (.ow (.lst []))) none none ob) Q E := by
  have hz : sizeLine = 16777216 := sizeLine_eq
  have z1 : 1 ≤ sizeLine := by decide
  have z2 : 2 ≤ sizeLine := by decide
  have hg8 := hl.gsN
  unfold gT2
  unfold stT at h ⊢
  simp -dsimp
  refine wp_for (enc := giveD) (fun done ς => ∃ (bs : List Int) (x9 x10 : Option VS.Slot), (Nw x10 ∧ bs.Nodup ∧ (∀ b, b ∈ bs ↔ b ∈ allL done s) ∧ bs.length ≤ 2 * done.length) ∧ ς = stT l m s rows x6 x7 (some (.ow (.lst (bs.map .int)))) x9 x10 ob) ⟨[], _, _, ⟨nw_none, List.nodup_nil, (fun b => Iff.rfl), by simp⟩, rfl⟩ ?_ ?_
  · rintro done g rest _ e ⟨bs, x9, x10, ⟨hx, hn, hb, hbl⟩, rfl⟩
    have hd : done.length < 8 := by
      have := congrArg List.length e
      simp at this
      omega
    have hg := hl.gs g (by rw [e]; simp)
    have hdn : ∀ b ∈ allL done s, 0 ≤ b ∧ b < s := fun b h => allL_nn hs h
    unfold stT
    simp -dsimp [g0]
    refine ofword_w hg.w.az ?_
    simp -dsimp [g0, x_mod (show (0 : Int) < (s : Int) by omega)]
    refine ofword_w hg.w.az ?_
    simp -dsimp [x_mod (show (0 : Int) < (s : Int) by omega), x_div (show (0 : Int) < 32 by decide) (by decide), z2]
    rw [show [Dat.int (wno g.w % (s : Int)), Dat.int (wno g.w / 32 % (s : Int))] = [wno g.w % (s : Int), wno g.w / 32 % (s : Int)].map Dat.int from rfl]
    refine wp_for (enc := Dat.int) (fun dn ς => ∃ (bs : List Int) (x10 : Option VS.Slot), (Nw x10 ∧ bs.Nodup ∧ (∀ b, b ∈ bs ↔ b ∈ allL done s ∨ b ∈ dn) ∧ bs.length ≤ 2 * done.length + dn.length) ∧ ς = stT l m s rows x6 x7 (some (.ow (.lst (bs.map .int)))) (some (.fr (giveD g))) x10 ob) ⟨bs, _, ⟨hx, hn, by simpa using hb, by simpa using hbl⟩, rfl⟩ ?_ ?_
    · rintro dn x rs _ e2 ⟨bs, x10, ⟨hx, hn, hb, hbl⟩, rfl⟩
      have hdl : dn.length < 2 := by
        have := congrArg List.length e2
        simp at this
        omega
      have hin : ∀ y ∈ [wno g.w % (s : Int), wno g.w / 32 % (s : Int)], 0 ≤ y ∧ y < s := fun y hy => by
        simp only [List.mem_cons, List.not_mem_nil, or_false] at hy
        rcases hy with rfl | rfl
        all_goals exact ⟨Int.emod_nonneg _ (by omega), Int.emod_lt_of_pos _ (by omega)⟩
      have hxb := hin x (by rw [e2]; simp)
      have hbb : ∀ b ∈ bs, b.natAbs < 10 ^ 60 := fun b hb' => by
        rcases (hb b).mp hb' with h | h
        · have := hdn b h; omega
        · have := hin b (by rw [e2]; simp [h]); omega
      have hni := (in_ints x bs (by omega) hbb).2
      have hl2 := addB_len bs x
      unfold stT
      have fin : ∃ (bs' : List Int) (x10 : Option VS.Slot), (Nw x10 ∧ bs'.Nodup ∧ (∀ b, b ∈ bs' ↔ b ∈ allL done s ∨ b ∈ dn ++ [x]) ∧ bs'.length ≤ 2 * done.length + (dn ++ [x]).length) ∧ stT l m s rows x6 x7 (some (.ow (.lst ((addB bs x).map .int)))) (some (.fr (giveD g))) (some (.fr (.int x))) ob = stT l m s rows x6 x7 (some (.ow (.lst (bs'.map .int)))) (some (.fr (giveD g))) x10 ob :=
        ⟨addB bs x, _, ⟨nw_fr _, addB_nd hn, fun b => by rw [addB_mem, hb]; simp only [List.mem_append, List.mem_singleton, or_assoc], by simp; omega⟩, rfl⟩
      unfold addB stT at fin
      by_cases hm : x ∈ bs
      · rw [decide_eq_true hm] at hni
        rw [if_pos hm] at fin
        simp -dsimp [hni, z1]
        exact ⟨by omega, ⟨fin⟩⟩
      · rw [decide_eq_false hm] at hni
        rw [if_neg hm] at fin
        simp -dsimp [hni, z1]
        rw [List.map_append] at fin
        exact ⟨by omega, ⟨fin⟩⟩
    · rintro _ ⟨bs, x10, ⟨hx, hn, hb, hbl⟩, rfl⟩
      unfold stT
      simp -dsimp
      refine ⟨bs, _, _, ⟨hx, hn, fun b => ?_, by simp at hbl ⊢; omega⟩, rfl⟩
      rw [hb]
      unfold allL
      rw [List.flatMap_append, List.mem_append]
      simp [bitsL, canon_mem]
  · rintro _ ⟨bs, x9, x10, ⟨hx, hn, hb, hbl⟩, rfl⟩
    exact h bs x9 x10 hx hn hb
theorem lawtable_w (hl : LibOk l) (hm : 0 < m) (hm1 : m ≤ 1000) (hs : 0 < s) (hs1 : s ≤ 1000) {K : FOut → Prop} (h : K (.ok (.fr (tableD l m s)) [.fr (libD l), .fr (.int (m : Int)), .fr (.int (s : Int))] ob)) : WF F_law_table [.fr (libD l), .fr (.int (m : Int)), .fr (.int (s : Int))] ob K := by
  have hz : sizeLine = 16777216 := sizeLine_eq
  have z4 : 4 ≤ sizeLine := by decide
  have hg8 := hl.gsN
  unfold F_law_table
  rw [gT_eq]
  have hgT1 := fun (Q : Flw → VS.St → Prop) (E : XQ) => gT1_w (m := m) (s := s) (ob := ob) (Q := Q) (E := E) hl hm hm1 (x8 := none) (x9 := none) (x10 := none)
  have hgT2 := fun (Q : Flw → VS.St → Prop) (E : XQ) (rows : List Dat) (x6 x7 : Option VS.Slot) => gT2_w (m := m) (ob := ob) (Q := Q) (E := E) hl hs hs1 (rows := rows) (x6 := x6) (x7 := x7)
  generalize gT1 = G1 at hgT1
  generalize gT2 = G2 at hgT2
  unfold stT wnD at hgT1 hgT2
  simp -dsimp [l0, noOwn]
  refine lc_map (enc := giveD) (fun _ => true) (fun g => Dat.int (wno g.w)) (fun g hg => ?_) ?_
  · simp -dsimp [g0]
    refine ofword_w (hl.gs g hg).w.az ?_
    simp -dsimp
  · rw [List.filter_eq_self.mpr (by simp)]
    simp -dsimp
    refine ⟨by omega, ?_⟩
    refine hgT1 _ _ fun x6 x7 => ?_
    simp -dsimp
    refine hgT2 _ _ _ _ _ fun bs x9 x10 hx hn hb => ?_
    have hbl : bs.length ≤ 16 := by
      have h1 : bs.length = (canon (allL l.gs s)).length := ((List.perm_ext_iff_of_nodup hn ((canon_sorted _).imp fun h => Int.ne_of_lt h)).mpr fun b => by rw [hb, canon_mem]).length_eq
      have h2 := canon_len (allL l.gs s)
      have h3 := allL_len l.gs s
      omega
    have hnn : ∀ b ∈ bs, 0 ≤ b ∧ b < s := fun b h => allL_nn hs ((hb b).mp h)
    have hsum := sumB_eq hn hb
    simp -dsimp [noOwn]
    refine ⟨by
      split
      · rename_i d he
        exact absurd (Option.some.inj he) (hx d)
      · rfl, ?_⟩
    refine lc_map (enc := Dat.int) (fun _ => true) (fun b => Dat.int (2 ^ b.toNat)) (fun b hbm => ?_) ?_
    · have hs : shlG (.int 1) (.int b) = some (.fr (.int (2 ^ b.toNat))) := by
        have := hnn b hbm
        show (if powC 1 b = true then some (ER.fr (.int (1 * 2 ^ b.toNat))) else _) = _
        rw [if_pos (by unfold powC; simp; omega), Int.one_mul]
      simp -dsimp [hs]
    · rw [List.filter_eq_self.mpr (by simp), show (bs.map fun b => Dat.int (2 ^ b.toNat)) = (bs.map fun b => (2 : Int) ^ b.toNat).map Dat.int by rw [List.map_map]; rfl]
      have hsm : sumD [.lst ((bs.map fun b => (2 : Int) ^ b.toNat).map Dat.int)] = some (.fr (.int (sieveN l.gs s))) := by
        show (intsOf _).map _ = _
        rw [intsOf_map, ← hsum]
        rfl
      rw [List.map_map] at hsm
      simp -dsimp [hsm, z4]
      exact ⟨by omega, h⟩
end
end K26

namespace K26
open PySem VS L2
/-! the whole law -/
theorem sh_nat {k n : Nat} (h : n < 10 ^ 60) : Sh k 61 (.int (n : Int)) := sh_int (by omega)
theorem sumB_d : ∀ {L : List Int}, L.Pairwise (· > ·) → (∀ b ∈ L, 0 ≤ b) → ∀ n : Nat, (∀ b ∈ L, b < (n : Int)) → 0 ≤ sumB L ∧ sumB L < 2 ^ n
  | [], _, _ => fun n _ => ⟨by decide, pow_nn n⟩
  | x :: l, hs, h0 => fun n hn => by
    rw [List.pairwise_cons] at hs
    have := sumB_d hs.2 (fun b hb => h0 b (by simp [hb])) x.toNat fun b hb => by
      have := hs.1 b hb
      omega
    have h1 := pow_step (hn x (by simp)) (h0 x (by simp))
    have h2 := pow_nn x.toNat
    have e : sumB (x :: l) = 2 ^ x.toNat + sumB l := by unfold sumB; rw [List.map_cons, List.sum_cons]
    rw [e]
    omega
theorem sumB_b {L : List Int} (hs : L.Pairwise (· < ·)) (h0 : ∀ b ∈ L, 0 ≤ b) (n : Nat) (hn : ∀ b ∈ L, b < (n : Int)) : 0 ≤ sumB L ∧ sumB L < 2 ^ n := by
  rw [sumB_perm (List.reverse_perm L).symm]
  exact sumB_d (List.pairwise_reverse.mpr hs) (fun b hb => h0 b (by simpa using hb)) n fun b hb => hn b (by simpa using hb)
theorem sieve_b (gs : List Give) {s : Nat} (h0 : 0 < s) (h1 : s ≤ 64) : 0 ≤ sieveN gs s ∧ sieveN gs s < 2 ^ 64 := by
  refine sumB_b (canon_sorted _) (fun b hb => (allL_nn h0 ((canon_mem b _).mp hb)).1) 64 fun b hb => ?_
  have := (allL_nn h0 ((canon_mem b _).mp hb)).2
  omega
theorem chain_mem {gs : List Give} {m k n : Nat} (h : n ∈ chainL gs m k) : n < gs.length := by
  rw [chain_eq] at h
  exact List.mem_range.mp (List.mem_filter.mp h).1
theorem chain_len (gs : List Give) (m k : Nat) : (chainL gs m k).length ≤ gs.length := by
  rw [chain_eq]
  exact Nat.le_trans (List.length_filter_le _ _) (by simp)
theorem pl_table {l : Lib} (hl : LibOk l) {m s : Nat} (hm1 : m ≤ 64) (hs : 0 < s) (hs1 : s ≤ 64) : Pl (tableD l m s) := by
  have hg8 := hl.gsN
  have hsv := sieve_b l.gs hs hs1
  refine (sh_tup (k := 2) (N := 100000) fun d hd => ?_).pl (by omega)
  simp only [List.mem_cons, List.not_mem_nil, or_false] at hd
  rcases hd with rfl | rfl | rfl | rfl
  · exact (sh_nat (by omega)).mono (Nat.le_refl _) (by decide)
  · exact (sh_nat (by omega)).mono (Nat.le_refl _) (by decide)
  · refine (sh_tup (k := 1) (N := 1000) fun d hd => ?_).mono (Nat.le_refl _) (by simp; omega)
    obtain ⟨k, hk, rfl⟩ := List.mem_map.mp hd
    refine (sh_tup (k := 0) (N := 61) fun d hd => ?_).mono (Nat.le_refl _) (by have := chain_len l.gs m k; simp; omega)
    obtain ⟨n, hn, rfl⟩ := List.mem_map.mp hd
    exact sh_nat (by have := chain_mem hn; omega)
  · exact (sh_int (by omega)).mono (Nat.le_refl _) (by decide)
theorem ne_table {l : Lib} (hl : LibOk l) {m s : Nat} (hm1 : m ≤ 64) (hs : 0 < s) (hs1 : s ≤ 64) : neE (tableD l m s) (tableD l m s) = some (.fr (.bl false)) := (eq_refl (pl_table hl hm1 hs hs1)).2
theorem isi_tup (ds : List Dat) : isiD [.tup ds, .ty "tuple"] = some (.fr (.bl true)) := by
  have q : isiB "tuple" "tuple" = some true := by decide
  simp [isiD, tyN, q]
theorem kinds_w {l : Lib} (hl : LibOk l) {m s : Nat} {ob : List OVal} {K : FOut → Prop} (h : K (.ok (.fr (.bl true)) [.fr (tableD l m s)] ob)) : WF F_law_kinds [.fr (tableD l m s)] ob K := by
  have hz : sizeLine = 16777216 := sizeLine_eq
  have z3 : 3 ≤ sizeLine := by decide
  have t0 : ixGD (tableD l m s) (.int 0) = some (.fr (.int (m : Int))) := rfl
  have t1 : ixGD (tableD l m s) (.int 1) = some (.fr (.int (s : Int))) := rfl
  have t2 : ixGD (tableD l m s) (.int 2) = some (.fr (.tup ((List.range m).map fun k => chainD l.gs m k))) := rfl
  have t3 : ixGD (tableD l m s) (.int 3) = some (.fr (.int (sieveN l.gs s))) := rfl
  have i0 : isiD [tableD l m s, .ty "tuple"] = some (.fr (.bl true)) := isi_tup _
  unfold F_law_kinds g_law_kinds
  simp -dsimp [i0, z3, noOwn]
  rw [show [Dat.int 0, Dat.int 1, Dat.int 3] = [(0 : Int), 1, 3].map Dat.int from rfl]
  refine lc_map (enc := Dat.int) (fun _ => true) (fun _ => Dat.bl true) (fun k hk => ?_) ?_
  · simp only [List.mem_cons, List.not_mem_nil, or_false] at hk
    rcases hk with rfl | rfl | rfl
    · simp -dsimp [t0]
      refine whole_int ?_
      simp -dsimp
    · simp -dsimp [t1]
      refine whole_int ?_
      simp -dsimp
    · simp -dsimp [t3]
      refine whole_int ?_
      simp -dsimp
  · rw [List.filter_eq_self.mpr (by simp)]
    have ha : allD [.lst [.bl true, .bl true, .bl true]] = some (.fr (.bl true)) := rfl
    simp -dsimp [ha, t2, z3]
    refine wp_for (enc := fun k : Nat => chainD l.gs m k) (fun done ς => ∃ x1, ς = ⟨[some (.fr (tableD l m s)), x1, none], ob⟩) ⟨_, rfl⟩ ?_ ?_
    · rintro done k rest _ e ⟨x1, rfl⟩
      have i1 : isiD [chainD l.gs m k, .ty "tuple"] = some (.fr (.bl true)) := isi_tup _
      have w1 : walkD (chainD l.gs m k) = some ((chainL l.gs m k).map fun n : Nat => Dat.int (n : Int)) := rfl
      simp -dsimp [i1, w1, noOwn]
      refine lc_map (enc := fun n : Nat => Dat.int (n : Int)) (fun _ => true) (fun _ => Dat.bl true) (fun k hk => ?_) ?_
      · simp -dsimp
        refine whole_int ?_
        simp -dsimp
      · rw [List.filter_eq_self.mpr (by simp)]
        have hc := chain_len l.gs m k
        have ha : allD [.lst ((chainL l.gs m k).map fun _ => Dat.bl true)] = some (.fr (.bl true)) := by
          rw [allM (fun _ => true)]
          simp
        simp -dsimp [ha]
        exact ⟨by have := hl.gsN; omega, ⟨_, rfl⟩⟩
    · rintro _ ⟨x1, rfl⟩
      have i2 := isi_tup ((List.range m).map fun k => chainD l.gs m k)
      simp -dsimp [t2, i2]
      exact h
end K26

namespace K26
open PySem VS L2
theorem let_list : (Str.ofString "abcdefghijklmnopqrstuvwxyz").cps.toList = (List.range 26).map (97 + ·) := by decide +kernel
def sgn (k : Nat) : Dat := .str ⟨#[97 + k]⟩
theorem list_let : listD [.str (Str.ofString "abcdefghijklmnopqrstuvwxyz")] = some (.tp (.lst ((List.range 26).map sgn))) := by
  have e : signsD (Str.ofString "abcdefghijklmnopqrstuvwxyz") = (List.range 26).map sgn := by
    unfold signsD
    rw [let_list, List.map_map]
    rfl
  rw [← e]
  rfl
def gM1 : Act Flw := Act.bnd (rangeA (consA (cst (.int 5)) (Act.ret []))) (forA (tgName 2)
    (seqA (setA 3 (cst (.str "")))
    (seqA (Act.bnd (rangeA (consA (op2 addGT (cst (.int 1)) (defA 2 F_law_take [true, false] [] (consA (var 1) (consA (cst (.int 8)) (Act.ret []))))) (Act.ret []))) (forA (tgName 4)
    (setA 3 (op2 addGT (var 3) (defA 2 F_law_pick [true, false] [] (consA (var 1) (consA (callA listD (consA (cst (.str "abcdefghijklmnopqrstuvwxyz")) (Act.ret []))) (Act.ret []))))))))
    (seqA (setA 5 (defA 1 F_word_number [false] [] (consA (var 3) (Act.ret []))))
    (iteA (orA (notA (testA (defA 1 F_law_whole [false] [] (consA (var 5) (Act.ret []))))) (orA (testA (op2 neE (var 5) (defA 1 F_law_of_word [false] [] (consA (var 3) (Act.ret []))))) (Act.ret false)))
    (retA (fun i => decide (i < 1)) (cst (.bl false)))
    (Act.ret .nx))))))
def gM2 : Act Flw := seqA (setA 7 (op2 addGT (cst (.int 1)) (defA 2 F_law_take [true, false] [] (consA (var 1) (consA (cst (.int 16)) (Act.ret []))))))
    (seqA (setA 8 (op2 addGT (cst (.int 1)) (defA 2 F_law_take [true, false] [] (consA (var 1) (consA (cst (.int 64)) (Act.ret []))))))
    (seqA (setA 5 (defK 3 1 2 F_table_of [false, false, false] [.inl 1, .inl 0] (consA (var 6) (Act.ret [])) (consA (var 8) (consA (var 7) (Act.ret [])))))
    (seqA (iteA (orA (notA (testA (defA 1 F_law_kinds [false] [] (consA (var 5) (Act.ret []))))) (orA (testA (op2 neE (var 5) (defA 3 F_law_table [false, false, false] [] (consA (var 6) (consA (var 7) (consA (var 8) (Act.ret []))))))) (Act.ret false)))
    (retA (fun i => decide (i < 1)) (cst (.bl false)))
    (Act.ret .nx))
    (seqA (iteA (testA (op2 neE (defA 3 F_table_of [false, false, false] [(.int 4), (.int 32)] (consA (var 6) (Act.ret []))) (defA 3 F_law_table [false, false, false] [] (consA (var 6) (consA (cst (.int 4)) (consA (cst (.int 32)) (Act.ret [])))))))
    (retA (fun i => decide (i < 1)) (cst (.bl false)))
    (Act.ret .nx))
    (iteA (testA (op2 neE (defK 3 1 1 F_table_of [false, false, false] [.inl 0, .inr (.int 32)] (consA (var 6) (Act.ret [])) (consA (var 7) (Act.ret []))) (defA 3 F_law_table [false, false, false] [] (consA (var 6) (consA (var 7) (consA (cst (.int 32)) (Act.ret [])))))))
    (retA (fun i => decide (i < 1)) (cst (.bl false)))
    (Act.ret .nx))))))
theorem gM_eq : g_law = seqA (setA 1 (defA 2 F_law_feed [false, false] [] (consA (var 0) (consA (cst (.int 0)) (Act.ret [])))))
    (seqA gM1 (seqA (Act.bnd (iterA (defA 2 F_law_shelf [true, false] [] (consA (var 1) (consA (cst (.int 6)) (Act.ret []))))) (forA (tgName 6) gM2))
    (retA (fun i => decide (i < 1)) (cst (.bl true))))) := rfl
def stM (ns : List Int) (f : Int × Int) (x2 x3 x4 x5 x6 x7 x8 : Option VS.Slot) : VS.St := ⟨[some (.fr (intsD ns)), some (.ow (fdD f)), x2, x3, x4, x5, x6, x7, x8], []⟩
section
variable {ns : List Int} {f : Int × Int} {Q : Flw → VS.St → Prop} {E : XQ}
theorem gM1_w {x2 x3 x4 x5 x6 x7 x8 : Option VS.Slot} (h : ∀ f' x2 x3 x4 x5, Q .nx (stM ns f' x2 x3 x4 x5 x6 x7 x8)) : WP gM1 (stM ns f x2 x3 x4 x5 x6 x7 x8) Q E := by
  have hz : sizeLine = 16777216 := sizeLine_eq
  unfold gM1
  unfold stM at h ⊢
  simp -dsimp
  refine OQ_range (by omega) (by omega) ?_
  refine wp_for (enc := fun n : Nat => Dat.int (n : Int)) (fun done ς => ∃ f' x2 x3 x4 x5, ς = stM ns f' x2 x3 x4 x5 x6 x7 x8) ⟨_, _, _, _, _, rfl⟩ ?_ ?_
  · rintro done k rest _ e ⟨f', x2, x3, x4, x5, rfl⟩
    unfold stM
    simp -dsimp
    refine take_w (by omega) (by omega) fun y f1 y0 y1 => ?_
    obtain ⟨n, rfl⟩ : ∃ n : Nat, y = n := ⟨y.toNat, by omega⟩
    simp -dsimp
    refine OQ_range (by omega) (by omega) ?_
    refine wp_for (enc := fun n : Nat => Dat.int (n : Int)) (fun dn ς => ∃ f' w x4, (Az w ∧ w.length ≤ dn.length) ∧ ς = stM ns f' (some (.fr (.int (k : Int)))) (some (.fr (.str w))) x4 x5 x6 x7 x8) ⟨f1, Str.ofString "", _, ⟨az_of (by decide +kernel), by decide +kernel⟩, rfl⟩ ?_ ?_
    · rintro dn j rs _ e2 ⟨f', w, x4, ⟨hw, hwl⟩, rfl⟩
      have hdl : dn.length < 20 := by
        have := congrArg List.length e2
        simp at this
        omega
      unfold stM
      simp -dsimp [list_let]
      refine pickM_w (by decide) (by decide) fun c f2 hc => ?_
      have hc := List.mem_range.mp hc
      simp -dsimp [sgn]
      have ha : Az (⟨#[97 + c]⟩ : Str) := fun d hd => by
        have : d = 97 + c := by simpa using hd
        omega
      have hla : (w ++ (⟨#[97 + c]⟩ : Str)).length = w.length + 1 := by
        show (w.cps ++ #[97 + c]).size = _
        rw [Array.size_append]
        rfl
      have h1 : (⟨#[97 + c]⟩ : Str).length = 1 := rfl
      refine ⟨by omega, f2, w ++ ⟨#[97 + c]⟩, _, ⟨hw.app ha, ?_⟩, rfl⟩
      rw [hla, List.length_append, List.length_singleton]
      omega
    · rintro _ ⟨f', w, x4, ⟨hw, hwl⟩, rfl⟩
      unfold stM
      simp -dsimp
      refine word_w hw ?_
      simp -dsimp
      refine whole_int ?_
      simp -dsimp
      refine ofword_w hw ?_
      simp -dsimp
      exact ⟨_, _, _, _, _, rfl⟩
  · rintro _ ⟨f', x2, x3, x4, x5, rfl⟩
    exact h _ _ _ _ _
theorem gM2_w {l : Lib} (hl : LibOk l) {x2 x3 x4 x5 x7 x8 : Option VS.Slot} (h : ∀ f' x5 x7 x8, Q .nx (stM ns f' x2 x3 x4 x5 (some (.fr (libD l))) x7 x8)) : WP gM2 (stM ns f x2 x3 x4 x5 (some (.fr (libD l))) x7 x8) Q E := by
  have hz : sizeLine = 16777216 := sizeLine_eq
  unfold gM2
  unfold stM at h ⊢
  simp -dsimp
  refine take_w (by omega) (by omega) fun y f1 y0 y1 => ?_
  obtain ⟨m, hm⟩ : ∃ n : Nat, 1 + y = n := ⟨(1 + y).toNat, by omega⟩
  simp -dsimp [hm]
  refine take_w (by omega) (by omega) fun y f2 y0 y1 => ?_
  obtain ⟨s, hs⟩ : ∃ n : Nat, 1 + y = n := ⟨(1 + y).toNat, by omega⟩
  simp -dsimp [hs]
  refine table_w hl (by omega) (by omega) (by omega) (by omega) ?_
  simp -dsimp
  refine kinds_w hl ?_
  simp -dsimp
  refine lawtable_w hl (by omega) (by omega) (by omega) (by omega) ?_
  simp -dsimp [ne_table hl (show m ≤ 64 by omega) (show 0 < s by omega) (show s ≤ 64 by omega)]
  refine table_w (m := 4) (s := 32) hl (by omega) (by omega) (by omega) (by omega) ?_
  simp -dsimp
  refine lawtable_w (m := 4) (s := 32) hl (by omega) (by omega) (by omega) (by omega) ?_
  simp -dsimp [ne_table hl (show 4 ≤ 64 by omega) (show 0 < 32 by omega) (show 32 ≤ 64 by omega)]
  refine table_w (m := m) (s := 32) hl (by omega) (by omega) (by omega) (by omega) ?_
  simp -dsimp
  refine lawtable_w (m := m) (s := 32) hl (by omega) (by omega) (by omega) (by omega) ?_
  simp -dsimp [ne_table hl (show m ≤ 64 by omega) (show 0 < 32 by omega) (show 32 ≤ 64 by omega)]
  exact h _ _ _ _
end
theorem main (ns : List Int) (hns : ns.length ≤ 63) : ∃ outs ob, F_law [.fr (intsD ns)] [] = some (.ok (.fr (.bl true)) outs ob) := by
  suffices h : WF F_law [.fr (intsD ns)] [] (fun o => ∃ outs ob, o = .ok (.fr (.bl true)) outs ob) by
    obtain ⟨o, e, outs, ob, rfl⟩ := h.get
    exact ⟨outs, ob, e⟩
  unfold F_law
  rw [gM_eq]
  have hG1 := fun f x2 x3 x4 x5 x6 x7 x8 Q E => gM1_w (ns := ns) (f := f) (x2 := x2) (x3 := x3) (x4 := x4) (x5 := x5) (x6 := x6) (x7 := x7) (x8 := x8) (Q := Q) (E := E)
  have hG2 := fun f x2 x3 x4 x5 x7 x8 Q E l hl => gM2_w (ns := ns) (f := f) (x2 := x2) (x3 := x3) (x4 := x4) (x5 := x5) (x7 := x7) (x8 := x8) (Q := Q) (E := E) (l := l) hl
  generalize gM1 = G1 at hG1
  generalize gM2 = G2 at hG2
  unfold stM at hG1 hG2
  simp -dsimp
  refine feed_w (by decide) (by decide) fun f => ?_
  simp -dsimp
  refine hG1 _ _ _ _ _ _ _ _ _ _ fun f x2 x3 x4 x5 => ?_
  simp -dsimp
  refine shelf_w (most := 6) (by decide) (by decide) fun f1 ls hls _ _ => ?_
  simp -dsimp
  refine wp_for (enc := libD) (fun done ς => ∃ f x5 x6 x7 x8, ς = stM ns f x2 x3 x4 x5 x6 x7 x8) ⟨_, _, _, _, _, rfl⟩ ?_ ?_
  · rintro done l rest _ e ⟨f', x5, x6, x7, x8, rfl⟩
    have hlo := hls l (by rw [e]; simp)
    unfold stM
    simp -dsimp
    refine hG2 _ _ _ _ _ _ _ _ _ l hlo fun f x5 x7 x8 => ?_
    simp -dsimp
    exact ⟨_, _, _, _, _, rfl⟩
  · rintro _ ⟨f', x5, x6, x7, x8, rfl⟩
    unfold stM
    simp -dsimp
end K26

open PySem PySem.W PyProof.Rows in
set_option maxRecDepth 100000 in
set_option maxHeartbeats 0 in
theorem PySem.Challenge.cw_latehall_k26_words_and_tables_holds : PySem.Challenge.rw_latehall_k26_words_and_tables.Holds := by
  w_on; o_law; k_head; (case hw => w_witness2)
  k_fill
  refine VS.law_walk (l := PySem.Challenge.rw_latehall_k26_words_and_tables) (k := 8) rfl rfl ⟨rfl, by decide, by decide⟩ (fun w h Y => PySem.W.kIn_of Y) ?F
  case F =>
    intro w mg fa h KX G hmg
    refine' K26.all_mk K26.main (P := PySem.Challenge.pw_latehall_k26_words_and_tables) KX G hmg ?a_law_feed ?l_law_feed ?d_law_feed ?k_law_feed ?a_law_take ?l_law_take ?d_law_take ?k_law_take ?a_law_pick ?l_law_pick ?d_law_pick ?k_law_pick ?a_word_number ?l_word_number ?d_word_number ?k_word_number ?a_law_of_word ?l_law_of_word ?d_law_of_word ?k_law_of_word ?a_law_whole ?l_law_whole ?d_law_whole ?k_law_whole ?a_law_unlike ?l_law_unlike ?d_law_unlike ?k_law_unlike ?a_law_number ?l_law_number ?d_law_number ?k_law_number ?a_law_rows_drawn ?l_law_rows_drawn ?d_law_rows_drawn ?k_law_rows_drawn ?a_law_gives_drawn ?l_law_gives_drawn ?d_law_gives_drawn ?k_law_gives_drawn ?a_law_library_drawn ?l_law_library_drawn ?d_law_library_drawn ?k_law_library_drawn ?a_law_shelf ?l_law_shelf ?d_law_shelf ?k_law_shelf ?a_chain_of ?l_chain_of ?d_chain_of ?k_chain_of ?a_bits_of ?l_bits_of ?d_bits_of ?k_bits_of ?a_sieve_of ?l_sieve_of ?d_sieve_of ?k_sieve_of ?a_table_of ?l_table_of ?d_table_of ?k_table_of ?n_table_of_buckets ?n_table_of_width ?a_law_table ?l_law_table ?d_law_table ?k_law_table ?a_law_kinds ?l_law_kinds ?d_law_kinds ?k_law_kinds ?a_law ?l_law ?d_law ?k_law ?z_len ?z_abs ?z_STEP ?z_LETTERS ?z_WORD_SPAN ?z_int ?z_isinstance ?z_bool ?z_range ?z_tuple ?z_enumerate ?z_NEXT ?z_sorted ?z_sum ?z_all ?z_list
    (case a_law_feed => k_is)
    (case l_law_feed => k_is)
    (case d_law_feed => k_is)
    (case k_law_feed => k_is)
    (case a_law_take => k_is)
    (case l_law_take => k_is)
    (case d_law_take => k_is)
    (case k_law_take => k_is)
    (case a_law_pick => k_is)
    (case l_law_pick => k_is)
    (case d_law_pick => k_is)
    (case k_law_pick => k_is)
    (case a_word_number => k_is)
    (case l_word_number => k_is)
    (case d_word_number => k_is)
    (case k_word_number => k_is)
    (case a_law_of_word => k_is)
    (case l_law_of_word => k_is)
    (case d_law_of_word => k_is)
    (case k_law_of_word => k_is)
    (case a_law_whole => k_is)
    (case l_law_whole => k_is)
    (case d_law_whole => k_is)
    (case k_law_whole => k_is)
    (case a_law_unlike => k_is)
    (case l_law_unlike => k_is)
    (case d_law_unlike => k_is)
    (case k_law_unlike => k_is)
    (case a_law_number => k_is)
    (case l_law_number => k_is)
    (case d_law_number => k_is)
    (case k_law_number => k_is)
    (case a_law_rows_drawn => k_is)
    (case l_law_rows_drawn => k_is)
    (case d_law_rows_drawn => k_is)
    (case k_law_rows_drawn => k_is)
    (case a_law_gives_drawn => k_is)
    (case l_law_gives_drawn => k_is)
    (case d_law_gives_drawn => k_is)
    (case k_law_gives_drawn => k_is)
    (case a_law_library_drawn => k_is)
    (case l_law_library_drawn => k_is)
    (case d_law_library_drawn => k_is)
    (case k_law_library_drawn => k_is)
    (case a_law_shelf => k_is)
    (case l_law_shelf => k_is)
    (case d_law_shelf => k_is)
    (case k_law_shelf => k_is)
    (case a_chain_of => k_is)
    (case l_chain_of => k_is)
    (case d_chain_of => k_is)
    (case k_chain_of => k_is)
    (case a_bits_of => k_is)
    (case l_bits_of => k_is)
    (case d_bits_of => k_is)
    (case k_bits_of => k_is)
    (case a_sieve_of => k_is)
    (case l_sieve_of => k_is)
    (case d_sieve_of => k_is)
    (case k_sieve_of => k_is)
    (case a_table_of => k_is)
    (case l_table_of => k_is)
    (case d_table_of => k_is)
    (case k_table_of => k_is)
    (case n_table_of_buckets => k_is)
    (case n_table_of_width => k_is)
    (case a_law_table => k_is)
    (case l_law_table => k_is)
    (case d_law_table => k_is)
    (case k_law_table => k_is)
    (case a_law_kinds => k_is)
    (case l_law_kinds => k_is)
    (case d_law_kinds => k_is)
    (case k_law_kinds => k_is)
    (case a_law => k_is)
    (case l_law => k_is)
    (case d_law => k_is)
    (case k_law => k_is)
    (case z_len => k_is)
    (case z_abs => k_is)
    (case z_STEP => k_is)
    (case z_LETTERS => k_is)
    (case z_WORD_SPAN => k_is)
    (case z_int => k_is)
    (case z_isinstance => k_is)
    (case z_bool => k_is)
    (case z_range => k_is)
    (case z_tuple => k_is)
    (case z_enumerate => k_is)
    (case z_NEXT => k_is)
    (case z_sorted => k_is)
    (case z_sum => k_is)
    (case z_all => k_is)
    (case z_list => k_is)
#print axioms PySem.Challenge.cw_latehall_k26_words_and_tables_holds
