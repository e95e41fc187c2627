import PyProof.Rows.All
import Wide.All
import OpenK.AllK
import Wide.FinOn
import HandS.ForMost
import HandS.Exc
import HandS.TryOnly
import HandS.ExcOwn
import HandS.WordsExc
import HandS.ExcField
import HandS.ExcInit
import HandS.IsInst
import HandS.Deep
import HandS.Flow
import HandS.Style
import HandS.Defaults
import HandS.StrMore
import HandS.Conv
import HandS.More
import HandS.Iter
import HandS.TryMany
import KE.KStateDown
import HandS.HeadEnd
import HandS.HeadHook2
import HandS.Head2
import HandS.Ends
import HandS.Words
import HandS.Text
import PySem.Challenge.RW_askworlds_k05_positions_and_marks
set_option Elab.async false
set_option linter.all false
set_option maxRecDepth 100000
set_option maxHeartbeats 4000000
/-! A store machine in plain Lean: values with abstract references, a store that is a list of objects; what runs on it is related to the heap by a partial map of addresses. -/
namespace Mm
open PySem L2

/-- an object of the store -/
inductive MO where
  | lst (xs : List V) | tup (xs : List V) | dct (kvs : List (Key × V))
  | frz (xs : List V) | lck (kvs : List (Key × V)) | xd (fs : List (Str × V)) | exn (c : Str) (d : Nat)
  | klst (nm : Option Str) (xs : List V) | ktup (nm : Str) (xs : List V) | kobj (nm : Str) | gone
def MO.trk : MO → Bool
  | .lst _ | .tup _ | .dct _ | .frz _ | .lck _ | .xd _ => true
  | _ => false
structure Sto where
  o : List MO
def Sto.n (S : Sto) : Nat := S.o.length
def Sto.g (S : Sto) (a : Nat) : Option MO := S.o[a]?
def Sto.put (S : Sto) (x : MO) : Sto := ⟨S.o ++ [x]⟩
def Sto.set (S : Sto) (a : Nat) (x : MO) : Sto := ⟨S.o.set a x⟩
def Sto.calm (S : Sto) : Sto := ⟨S.o.map fun x => match x with | .exn _ _ => .gone | y => y⟩
inductive Res (α : Type) where
  | ok (a : α) (S : Sto) | exc (c : Str) (d : Nat) (S : Sto) | bad
def Res.bind {α β : Type} (r : Res α) (k : α → Sto → Res β) : Res β := match r with
  | .ok a S => k a S
  | .exc c d S => .exc c d S
  | .bad => .bad

/-! ### the relation -/
abbrev Mp := Nat → Option Addr
def Mp.ex (R R' : Mp) : Prop := ∀ a p, R a = some p → R' a = some p
theorem Mp.ex.refl (R : Mp) : R.ex R := fun _ _ h => h
theorem Mp.ex.trans {R R1 R2 : Mp} (a : R.ex R1) (b : R1.ex R2) : R.ex R2 := fun x p h => b x p (a x p h)
def VR (R : Mp) (v w : V) : Prop := match v with
  | .ref a => ∃ p, R a = some p ∧ w = .ref p
  | v => w = v
abbrev VRs (R : Mp) : List V → List V → Prop := Paired (VR R)
def OR (R : Mp) : Option V → Option V → Prop
  | some v, o => ∃ w, o = some w ∧ VR R v w
  | none, _ => True
abbrev SR (R : Mp) : List (Option V) → List (Option V) → Prop := Paired (OR R)
abbrev KR {κ : Type} (R : Mp) : List (κ × V) → List (κ × V) → Prop := Paired fun p q => q.1 = p.1 ∧ VR R p.2 q.2
theorem VR.mono {R R' : Mp} (e : R.ex R') {v w : V} (h : VR R v w) : VR R' v w := by
  cases v with
  | ref a => obtain ⟨p, h1, h2⟩ := h; exact ⟨p, e _ _ h1, h2⟩
  | _ => exact h
theorem VRs.mono {R R' : Mp} (e : R.ex R') {v w : List V} (h : VRs R v w) : VRs R' v w := Paired.mapP h fun _ _ q => q.mono e
theorem OR.mono {R R' : Mp} (e : R.ex R') {v w : Option V} (h : OR R v w) : OR R' v w := by
  cases v with
  | none => exact True.intro
  | some v => obtain ⟨u, h1, h2⟩ := h; exact ⟨u, h1, h2.mono e⟩
theorem SR.mono {R R' : Mp} (e : R.ex R') {v w : List (Option V)} (h : SR R v w) : SR R' v w := Paired.mapP h fun _ _ q => q.mono e
theorem KR.mono {κ : Type} {R R' : Mp} (e : R.ex R') {v w : List (κ × V)} (h : KR R v w) : KR R' v w := Paired.mapP h fun _ _ q => ⟨q.1, q.2.mono e⟩
/-- what is caught: the exception's address, its class, its dict -/
structure Xi where
  ex : Addr → Option (Value × Option Addr)
  lk : Addr → Option (Obj × HO)
abbrev noE : Addr → Option (Value × Option Addr) := fun _ => none
section
variable (K : PySem.W.Frag) (cA : Str → Addr) (xi : Xi)
def OkO (R : Mp) (H : Hp) (p : Addr) : MO → Prop
  | .lst xs => ∃ ys, VRs R xs ys ∧ H p = some (.lst ys)
  | .tup xs => ∃ ys, VRs R xs ys ∧ H p = some (.tup ys)
  | .dct kvs => ∃ kws, KR R kvs kws ∧ H p = some (.dK kws)
  | .frz xs => ∃ ys o, VRs R xs ys ∧ H p = some (.frz o (.lst ys))
  | .lck kvs => ∃ kws o, KR R kvs kws ∧ H p = some (.frz o (.dK kws)) ∧ xi.lk p = some (o, .dK kws)
  | .xd fs => ∃ gs, KR R fs gs ∧ H p = some (.xd gs)
  | .exn c d => ∃ dp, R d = some dp ∧ xi.ex p = some (.ref (cA c), some dp)
  | .klst nm xs => (∀ x, nm = some x → p = cA x) ∧ ∃ ys, VRs R xs ys ∧ ∀ H', SqL K H' p ys
  | .ktup nm xs => p = cA nm ∧ ∃ ys, VRs R xs ys ∧ ∀ H', SqT K H' p ys
  | .kobj nm => p = cA nm
  | .gone => True
structure Rel (R : Mp) (S : Sto) (H : Hp) : Prop where
  dom : ∀ a p, R a = some p → a < S.n
  inj : ∀ a b p oa ob, R a = some p → R b = some p → S.g a = some oa → S.g b = some ob → oa.trk = true → ob.trk = true → a = b
  ok : ∀ a o, S.g a = some o → ∃ p, R a = some p ∧ OkO K cA xi R H p o
end
section
variable {K : PySem.W.Frag} {cA : Str → Addr} {xi : Xi} {R R' : Mp} {S : Sto} {H H' : Hp} {a p : Nat} {o u : MO} {w : HO}
theorem OkO.some (h : OkO K cA xi R H p o) (t : o.trk = true) : ∃ w, H p = some w := by
  cases o with
  | lst xs => obtain ⟨_, _, e⟩ := h; exact ⟨_, e⟩
  | tup xs => obtain ⟨_, _, e⟩ := h; exact ⟨_, e⟩
  | dct xs => obtain ⟨_, _, e⟩ := h; exact ⟨_, e⟩
  | frz xs => obtain ⟨_, _, _, e⟩ := h; exact ⟨_, e⟩
  | lck xs => obtain ⟨_, _, _, e, _⟩ := h; exact ⟨_, e⟩
  | xd xs => obtain ⟨_, _, e⟩ := h; exact ⟨_, e⟩
  | exn c d => cases t
  | klst nm xs => cases t
  | ktup nm xs => cases t
  | kobj nm => cases t
  | gone => cases t
/-- the map grows; the heap is the same at p (if that matters) -/
theorem OkO.mono (e : R.ex R') (h : OkO K cA xi R H p o) (k : o.trk = true → H' p = H p) : OkO K cA xi R' H' p o := by
  cases o with
  | lst xs => obtain ⟨y, r, q⟩ := h; exact ⟨y, r.mono e, (k rfl).trans q⟩
  | tup xs => obtain ⟨y, r, q⟩ := h; exact ⟨y, r.mono e, (k rfl).trans q⟩
  | dct xs => obtain ⟨y, r, q⟩ := h; exact ⟨y, r.mono e, (k rfl).trans q⟩
  | frz xs => obtain ⟨y, z, r, q⟩ := h; exact ⟨y, z, r.mono e, (k rfl).trans q⟩
  | lck xs => obtain ⟨y, z, r, q, l⟩ := h; exact ⟨y, z, r.mono e, (k rfl).trans q, l⟩
  | xd xs => obtain ⟨y, r, q⟩ := h; exact ⟨y, r.mono e, (k rfl).trans q⟩
  | exn c d => obtain ⟨dp, r, q⟩ := h; exact ⟨dp, e _ _ r, q⟩
  | klst nm xs => obtain ⟨z, y, r, q⟩ := h; exact ⟨z, y, r.mono e, q⟩
  | ktup nm xs => obtain ⟨z, y, r, q⟩ := h; exact ⟨z, y, r.mono e, q⟩
  | kobj nm => exact h
  | gone => exact True.intro
def Mp.put (R : Mp) (a : Nat) (p : Addr) : Mp := fun b => if b = a then some p else R b
theorem Mp.put_at : R.put a p a = some p := if_pos rfl
theorem Mp.put_ne {b : Nat} (h : b ≠ a) : R.put a p b = R b := if_neg h
theorem Sto.g_put_new : (S.put o).g S.n = some o := by simp [Sto.put, Sto.g, Sto.n]
theorem Sto.g_put_old (h : S.g a = some u) : (S.put o).g a = some u := by
  unfold Sto.put Sto.g at *
  rw [List.getElem?_append_left (List.getElem?_eq_some_iff.mp h).1]
  exact h
theorem Sto.g_lt (h : S.g a = some u) : a < S.n := (List.getElem?_eq_some_iff.mp h).1
theorem Sto.g_put_inv (h : (S.put o).g a = some u) : (a = S.n ∧ u = o) ∨ (a ≠ S.n ∧ S.g a = some u) := by
  by_cases e : a = S.n
  · subst e; rw [Sto.g_put_new] at h; cases h; exact .inl ⟨rfl, rfl⟩
  · refine .inr ⟨e, ?_⟩
    have l := Sto.g_lt h
    have l2 : a < S.o.length := by simp [Sto.put, Sto.n] at l e; omega
    unfold Sto.put Sto.g at h
    rw [List.getElem?_append_left l2] at h
    exact h
theorem Sto.n_put : (S.put o).n = S.n + 1 := by simp [Sto.put, Sto.n]
theorem Sto.n_set : (S.set a o).n = S.n := by simp [Sto.set, Sto.n]
theorem Sto.g_set_same (h : a < S.n) : (S.set a o).g a = some o := by
  unfold Sto.set Sto.g
  rw [List.getElem?_set_self h]
theorem Sto.g_set_ne {b : Nat} (h : b ≠ a) : (S.set a o).g b = S.g b := by
  unfold Sto.set Sto.g
  rw [List.getElem?_set_ne (fun e => h e.symm)]
/-- a new object -/
theorem Rel.put (r : Rel K cA xi R S H) (hp : H p = none) (ho : OkO K cA xi (R.put S.n p) (upd H p w) p o) : Rel K cA xi (R.put S.n p) (S.put o) (upd H p w) := by
  have ex : R.ex (R.put S.n p) := fun b q h => by
    rw [Mp.put_ne (Nat.ne_of_lt (r.dom _ _ h))]; exact h
  refine ⟨fun b q h => ?_, fun b c q ob oc hb hc gb gc tb tc => ?_, fun b ob gb => ?_⟩
  · rw [Sto.n_put]
    by_cases e : b = S.n
    · omega
    · rw [Mp.put_ne e] at h; have := r.dom _ _ h; omega
  · rcases Sto.g_put_inv gb with ⟨e1, f1⟩ | ⟨e1, f1⟩ <;> rcases Sto.g_put_inv gc with ⟨e2, f2⟩ | ⟨e2, f2⟩
    · rw [e1, e2]
    · subst e1; rw [Mp.put_at] at hb; cases hb
      rw [Mp.put_ne e2] at hc
      obtain ⟨q', h1, h2⟩ := r.ok _ _ f2
      rw [hc] at h1; cases h1
      obtain ⟨w', z⟩ := h2.some tc
      rw [hp] at z; cases z
    · subst e2; rw [Mp.put_at] at hc; cases hc
      rw [Mp.put_ne e1] at hb
      obtain ⟨q', h1, h2⟩ := r.ok _ _ f1
      rw [hb] at h1; cases h1
      obtain ⟨w', z⟩ := h2.some tb
      rw [hp] at z; cases z
    · rw [Mp.put_ne e1] at hb; rw [Mp.put_ne e2] at hc
      exact r.inj _ _ _ _ _ hb hc f1 f2 tb tc
  · rcases Sto.g_put_inv gb with ⟨e1, f1⟩ | ⟨e1, f1⟩
    · subst e1 f1; exact ⟨p, Mp.put_at, ho⟩
    · obtain ⟨q, h1, h2⟩ := r.ok _ _ f1
      refine ⟨q, ex _ _ h1, h2.mono ex fun t => ?_⟩
      obtain ⟨w', z⟩ := h2.some t
      exact upd_ne (ne_of_none z hp)
theorem Rel.put_ex (r : Rel K cA xi R S H) : R.ex (R.put S.n p) := fun b q h => by
  rw [Mp.put_ne (Nat.ne_of_lt (r.dom _ _ h))]; exact h
/-- an object changed -/
theorem Rel.set (r : Rel K cA xi R S H) (ha : S.g a = some u) (tu : u.trk = true) (hr : R a = some p) (ho : OkO K cA xi R (upd H p w) p o) : Rel K cA xi R (S.set a o) (upd H p w) := by
  have la := Sto.g_lt ha
  have inv : ∀ b ob, (S.set a o).g b = some ob → (b = a ∧ ob = o) ∨ (b ≠ a ∧ S.g b = some ob) := fun b ob gb => by
    by_cases e : b = a
    · subst e; rw [Sto.g_set_same la] at gb; cases gb; exact .inl ⟨rfl, rfl⟩
    · rw [Sto.g_set_ne e] at gb; exact .inr ⟨e, gb⟩
  refine ⟨fun b q h => by rw [Sto.n_set]; exact r.dom _ _ h, fun b c q ob oc hb hc gb gc tb tc => ?_, fun b ob gb => ?_⟩
  · rcases inv _ _ gb with ⟨e1, f1⟩ | ⟨e1, f1⟩ <;> rcases inv _ _ gc with ⟨e2, f2⟩ | ⟨e2, f2⟩
    · rw [e1, e2]
    · rw [e1]; rw [e1] at hb; exact r.inj _ _ _ _ _ hb hc ha f2 tu tc
    · rw [e2]; rw [e2] at hc; exact r.inj _ _ _ _ _ hb hc f1 ha tb tu
    · exact r.inj _ _ _ _ _ hb hc f1 f2 tb tc
  · rcases inv _ _ gb with ⟨e1, f1⟩ | ⟨e1, f1⟩
    · subst e1 f1; exact ⟨p, hr, ho⟩
    · obtain ⟨q, h1, h2⟩ := r.ok _ _ f1
      refine ⟨q, h1, h2.mono (Mp.ex.refl R) fun t => upd_ne fun z => ?_⟩
      subst z
      exact e1 (r.inj _ _ _ _ _ h1 hr f1 ha t tu)

/-! ### outcomes -/
/-- what is wanted of an outcome: rel relates what is given out -/
def Acc {α β : Type} (K : PySem.W.Frag) (cA : Str → Addr) (xi : Xi) (rel : Mp → α → β → Prop) (R : Mp) (W : WX) (σ : L2.St) (Q : β → Hp → Prop) : Res α → Prop
  | .ok a S => ∀ R' H b, R.ex R' → Rel K cA xi R' S H → rel R' a b → Q b H
  | .exc c d S => ∀ R' H p, R.ex R' → Rel K cA xi R' S H → R' d = some p → W (.ref (cA c)) (some p) σ H
  | .bad => False
variable {α β γ δ : Type} {rel : Mp → α → β → Prop} {rel2 : Mp → γ → δ → Prop} {W : WX} {σ : L2.St} {Q Q' : β → Hp → Prop} {Q2 : δ → Hp → Prop}
theorem Acc.imp {r : Res α} (h : Acc K cA xi rel R W σ Q r) (q : ∀ b H, Q b H → Q' b H) : Acc K cA xi rel R W σ Q' r := by
  cases r with
  | ok a S => exact fun R' H b e rl v => q _ _ (h R' H b e rl v)
  | exc c d S => exact h
  | bad => exact h
theorem Acc.mono {r : Res α} (e : R.ex R') (h : Acc K cA xi rel R W σ Q r) : Acc K cA xi rel R' W σ Q r := by
  cases r with
  | ok a S => exact fun R2 H b e2 rl v => h R2 H b (e.trans e2) rl v
  | exc c d S => exact fun R2 H p e2 rl v => h R2 H p (e.trans e2) rl v
  | bad => exact h
theorem Acc.bind {r : Res α} {k : α → Sto → Res γ} (h : Acc K cA xi rel2 R W σ Q2 (r.bind k)) :
    Acc K cA xi rel R W σ (fun b H => ∃ R' S' a, R.ex R' ∧ Rel K cA xi R' S' H ∧ rel R' a b ∧ Acc K cA xi rel2 R' W σ Q2 (k a S')) r := by
  cases r with
  | ok a S => exact fun R' H b e rl v => ⟨R', S, a, e, rl, v, Acc.mono e h⟩
  | exc c d S => exact h
  | bad => exact h
end

/-! ### readings -/
abbrev ME := L2.St → Sto → Res V
abbrev MT := L2.St → Sto → Res Bool
abbrev MA := L2.St → Sto → Res (List V)
abbrev relB : Mp → Bool → Bool → Prop := fun _ a b => b = a
section
variable (K : PySem.W.Frag) (cA : Str → Addr) (xi : Xi) (W : WX)
def tG {α β : Type} (rel : Mp → α → β → Prop) (m : L2.St → Sto → Res α) : L2.St → Hp → (β → Hp → Prop) → Prop := fun σ H Q =>
  ∃ R S σa, Rel K cA xi R S H ∧ SR R σa σ ∧ Acc K cA xi rel R W σ Q (m σa S)
abbrev tM (m : ME) : TE := tG K cA xi W VR m
abbrev tMT (m : MT) : TT := tG K cA xi W relB m
abbrev tMA (m : MA) : TA := tG K cA xi W VRs m
end
/-- the context at hand: its class addresses, what is caught, what is wanted of an exception -/
structure Cw where
  cA : Str → Addr
  xi : Xi
  W : WX
abbrev SE (X : Cx) (c : Cw) (e : Expr) (m : ME) : Prop := PE X e (tM X.K c.cA c.xi c.W m)
abbrev ST (X : Cx) (c : Cw) (e : Expr) (m : MT) : Prop := PT X e (tMT X.K c.cA c.xi c.W m)
abbrev SW (X : Cx) (c : Cw) (e : Expr) (m : MT) : Prop := PW X e (tMT X.K c.cA c.xi c.W m)
abbrev SA (X : Cx) (c : Cw) (es : List Expr) (m : MA) : Prop := PA X es (tMA X.K c.cA c.xi c.W m)
theorem PE.imp {X : Cx} {e : Expr} {t t' : TE} (h : PE X e t) (i : ∀ σ H Q, t' σ H Q → t σ H Q) : PE X e t' := ⟨fun pins s σ H Q I q => h.run pins s σ H Q I (i _ _ _ q)⟩
theorem PT.imp {X : Cx} {e : Expr} {t t' : TT} (h : PT X e t) (i : ∀ σ H Q, t' σ H Q → t σ H Q) : PT X e t' := ⟨fun pins s σ H Q I q => h.run pins s σ H Q I (i _ _ _ q)⟩
theorem PW.imp {X : Cx} {e : Expr} {t t' : TT} (h : PW X e t) (i : ∀ σ H Q, t' σ H Q → t σ H Q) : PW X e t' := ⟨fun wh pins s σ H Q I q => h.run wh pins s σ H Q I (i _ _ _ q)⟩
theorem PA.imp {X : Cx} {e : List Expr} {t t' : TA} (h : PA X e t) (i : ∀ σ H Q, t' σ H Q → t σ H Q) : PA X e t' := ⟨fun pos pins s σ H Q I q => h.run pos pins s σ H Q I (i _ _ _ q)⟩
theorem PS.imp {X : Cx} {e : Stmt} {t t' : TS} (h : PS X e t) (i : ∀ D σ H, t' D σ H → t D σ H) : PS X e t' := ⟨fun pins s σ H D I q => h.run pins s σ H D I (i _ _ _ q)⟩
theorem PSs.imp {X : Cx} {e : List Stmt} {t t' : TS} (h : PSs X e t) (i : ∀ D σ H, t' D σ H → t D σ H) : PSs X e t' := ⟨fun pins s σ H D I q => h.run pins s σ H D I (i _ _ _ q)⟩
end Mm

namespace Mm
open PySem L2
/-! ### reading the store -/
def Sto.ls (S : Sto) (a : Nat) : Option (List V) := match S.g a with
  | some (.lst xs) | some (.frz xs) | some (.klst _ xs) => some xs
  | _ => none
def Sto.tp (S : Sto) (a : Nat) : Option (List V) := match S.g a with
  | some (.tup xs) | some (.ktup _ xs) => some xs
  | _ => none
def Sto.dk (S : Sto) (a : Nat) : Option (List (Key × V)) := match S.g a with
  | some (.dct xs) | some (.lck xs) => some xs
  | _ => none
def Sto.sq (S : Sto) (a : Nat) : Option (List V) := match S.ls a with
  | some xs => some xs
  | none => S.tp a
abbrev sz : Nat := 16777216
section
variable {K : PySem.W.Frag} {cA : Str → Addr} {xi : Xi} {R : Mp} {S : Sto} {H : Hp} {a : Nat} {xs : List V} {kvs : List (Key × V)}
theorem Rel.ls (r : Rel K cA xi R S H) (h : S.ls a = some xs) : ∃ p ys, R a = some p ∧ VRs R xs ys ∧ SqL K H p ys := by
  unfold Sto.ls at h
  split at h <;> first | cases h | skip
  all_goals
    rename_i xs' e
    obtain ⟨p, hp, o⟩ := r.ok _ _ e
  · obtain ⟨ys, v, q⟩ := o
    exact ⟨p, ys, hp, v, SqL.of q⟩
  · obtain ⟨ys, ob, v, q⟩ := o
    exact ⟨p, ys, hp, v, .inl (.inr ⟨ob, q⟩)⟩
  · obtain ⟨_, ys, v, q⟩ := o
    exact ⟨p, ys, hp, v, q H⟩
theorem Rel.tp (r : Rel K cA xi R S H) (h : S.tp a = some xs) : ∃ p ys, R a = some p ∧ VRs R xs ys ∧ SqT K H p ys := by
  unfold Sto.tp at h
  split at h <;> first | cases h | skip
  all_goals
    rename_i xs' e
    obtain ⟨p, hp, o⟩ := r.ok _ _ e
  · obtain ⟨ys, v, q⟩ := o
    exact ⟨p, ys, hp, v, SqT.of q⟩
  · obtain ⟨_, ys, v, q⟩ := o
    exact ⟨p, ys, hp, v, q H⟩
theorem Rel.dk (r : Rel K cA xi R S H) (h : S.dk a = some kvs) : ∃ p ys, R a = some p ∧ KR R kvs ys ∧ Rd H p (.dK ys) := by
  unfold Sto.dk at h
  split at h <;> first | cases h | skip
  all_goals
    rename_i xs' e
    obtain ⟨p, hp, o⟩ := r.ok _ _ e
  · obtain ⟨ys, v, q⟩ := o
    exact ⟨p, ys, hp, v, .inl q⟩
  · obtain ⟨ys, ob, v, q⟩ := o
    exact ⟨p, ys, hp, v, .inr ⟨ob, q.1⟩⟩
theorem Rel.sq (r : Rel K cA xi R S H) (h : S.sq a = some xs) : ∃ p ys, R a = some p ∧ VRs R xs ys ∧ (SqL K H p ys ∨ SqT K H p ys) := by
  unfold Sto.sq at h
  split at h
  · cases h
    rename_i e
    obtain ⟨p, ys, h1, h2, h3⟩ := r.ls e
    exact ⟨p, ys, h1, h2, .inl h3⟩
  · obtain ⟨p, ys, h1, h2, h3⟩ := r.tp h
    exact ⟨p, ys, h1, h2, .inr h3⟩
theorem VRs.len {ys : List V} (h : VRs R xs ys) : xs.length = ys.length := Paired.length h
theorem pget {α β : Type} {F : α → β → Prop} : ∀ {xs : List α} {ys : List β} {i : Nat} {x : α}, Paired F xs ys → xs[i]? = some x → ∃ y, ys[i]? = some y ∧ F x y
  | _, _, _, _, .nil, e => by simp at e
  | _, _, 0, x, .cons r _, e => by simp at e; subst e; exact ⟨_, rfl, r⟩
  | _, _, i + 1, x, .cons _ t, e => by
    obtain ⟨u, h1, h2⟩ := pget (i := i) (x := x) t (by simpa using e)
    exact ⟨u, by simpa using h1, h2⟩
theorem pset {α β : Type} {F : α → β → Prop} {x : α} {y : β} (r : F x y) : ∀ {xs : List α} {ys : List β} (i : Nat), Paired F xs ys → Paired F (xs.set i x) (ys.set i y)
  | _, _, _, .nil => .nil
  | _, _, 0, .cons _ t => .cons r t
  | _, _, i + 1, .cons q t => .cons q (pset r i t)
theorem papp {α β : Type} {F : α → β → Prop} : ∀ {xs zs : List α} {ys ws : List β}, Paired F xs ys → Paired F zs ws → Paired F (xs ++ zs) (ys ++ ws)
  | _, _, _, _, .nil, s => s
  | _, _, _, _, .cons r t, s => .cons r (papp t s)
theorem ptake {α β : Type} {F : α → β → Prop} : ∀ {xs : List α} {ys : List β} (n : Nat), Paired F xs ys → Paired F (xs.take n) (ys.take n)
  | _, _, 0, _ => by simpa using .nil
  | _, _, _ + 1, .nil => .nil
  | _, _, n + 1, .cons r t => .cons r (ptake n t)
theorem pdrop {α β : Type} {F : α → β → Prop} : ∀ {xs : List α} {ys : List β} (n : Nat), Paired F xs ys → Paired F (xs.drop n) (ys.drop n)
  | _, _, 0, r => r
  | _, _, _ + 1, .nil => .nil
  | _, _, n + 1, .cons _ t => pdrop n t
theorem prev {α β : Type} {F : α → β → Prop} {xs : List α} {ys : List β} (h : Paired F xs ys) : Paired F xs.reverse ys.reverse := by
  induction h with
  | nil => exact .nil
  | cons r t ih => rw [List.reverse_cons, List.reverse_cons]; exact papp ih (.cons r .nil)
theorem VR.flat {x y : V} (h : VR R x y) (f : flatV x = true) : y = x := by
  cases x with
  | ref a => cases f
  | _ => exact h
theorem VRs.flat {ys : List V} (h : VRs R xs ys) (f : xs.all flatV = true) : ys = xs := by
  induction h with
  | nil => rfl
  | cons r t ih =>
    rw [List.all_cons, Bool.and_eq_true] at f
    rw [r.flat f.1, ih f.2]
theorem VR.same {x y : V} (h : ∀ a, x ≠ .ref a) (r : VR R x y) : y = x := by
  cases x with
  | ref a => exact absurd rfl (h a)
  | _ => exact r
theorem ints_of {ns : List Int} {ys : List V} (h : VRs R (ns.map V.int) ys) : ys = ns.map V.int := VRs.flat h (by simp [flatV])
/-- of an outcome .ok: what follows -/
theorem Acc.ok' {α β : Type} {rel : Mp → α → β → Prop} {W : WX} {σ : L2.St} {Q : β → Hp → Prop} {v : α} {w : β} (a : Acc K cA xi rel R W σ Q (.ok v S)) (r : Rel K cA xi R S H) (h : rel R v w) : Q w H := a R H w (Mp.ex.refl R) r h
/-- .. with a new object -/
theorem Acc.new {α β : Type} {rel : Mp → α → β → Prop} {W : WX} {σ : L2.St} {Q : β → Hp → Prop} {v : α} {w : β} {o : MO} {p : Addr} {u : HO} (a : Acc K cA xi rel R W σ Q (.ok v (S.put o))) (r : Rel K cA xi R S H) (hp : H p = none)
    (ho : OkO K cA xi (R.put S.n p) (upd H p u) p o) (h : rel (R.put S.n p) v w) : Q w (upd H p u) := a _ _ w r.put_ex (r.put hp ho) h
theorem VR.new {p : Addr} : VR (R.put S.n p) (.ref S.n) (.ref p) := ⟨p, Mp.put_at, rfl⟩
theorem OkO.newL {p : Addr} {ys : List V} (h : VRs R xs ys) (r : Rel K cA xi R S H) : OkO K cA xi (R.put S.n p) (upd H p (.lst ys)) p (.lst xs) := ⟨ys, h.mono r.put_ex, upd_same⟩
theorem OkO.newT {p : Addr} {ys : List V} (h : VRs R xs ys) (r : Rel K cA xi R S H) : OkO K cA xi (R.put S.n p) (upd H p (.tup ys)) p (.tup xs) := ⟨ys, h.mono r.put_ex, upd_same⟩
end
theorem sz_of {n : Nat} (h : n ≤ sz) : n ≤ sizeLine := by rw [sizeLine_eq]; exact h
theorem sz_lt {n : Nat} (h : n < sz) : n < sizeLine := by rw [sizeLine_eq]; exact h

/-! ### two-place operations -/
def rM (K : PySem.W.Frag) (c : Cw) (f : V → V → Sto → Res V) : R2 := fun x' y' H Q => ∃ R S x y W σ, Rel K c.cA c.xi R S H ∧ VR R x x' ∧ VR R y y' ∧ Acc K c.cA c.xi VR R W σ Q (f x y S)
def mBin (f : V → V → Sto → Res V) (a b : ME) : ME := fun σ S => (a σ S).bind fun x S1 => (b σ S1).bind fun y S2 => f x y S2
section
variable {K : PySem.W.Frag} {c : Cw} {ma mb : ME} {σ : L2.St} {H : Hp}
theorem tG.step {α β γ δ : Type} {rel : Mp → α → β → Prop} {rel2 : Mp → γ → δ → Prop} {cA : Str → Addr} {xi : Xi} {W : WX} {m : L2.St → Sto → Res α} {k : L2.St → α → Sto → Res γ} {Q : δ → Hp → Prop}
    (h : tG K cA xi W rel2 (fun σ S => (m σ S).bind (k σ)) σ H Q) : tG K cA xi W rel m σ H (fun b H1 => ∃ R S σa a, Rel K cA xi R S H1 ∧ SR R σa σ ∧ rel R a b ∧ Acc K cA xi rel2 R W σ Q (k σa a S)) := by
  obtain ⟨R, S, σa, rl, sr, q⟩ := h
  exact ⟨R, S, σa, rl, sr, (Acc.bind q).imp fun b H ⟨R', S', a, e, rl', v, q'⟩ => ⟨R', S', σa, a, rl', sr.mono e, v, q'⟩⟩
/-- from what a step leaves: the next step -/
theorem tG.next {α β γ δ : Type} {rel : Mp → α → β → Prop} {rel2 : Mp → γ → δ → Prop} {cA : Str → Addr} {xi : Xi} {W : WX} {m : L2.St → Sto → Res α} {k : α → Sto → Res γ} {Q : δ → Hp → Prop} {R : Mp} {S : Sto} {σa : L2.St}
    (rl : Rel K cA xi R S H) (sr : SR R σa σ) (h : Acc K cA xi rel2 R W σ Q ((m σa S).bind k)) : tG K cA xi W rel m σ H (fun b H1 => ∃ R' S' a, R.ex R' ∧ Rel K cA xi R' S' H1 ∧ rel R' a b ∧ Acc K cA xi rel2 R' W σ Q (k a S')) :=
  ⟨R, S, σa, rl, sr, Acc.bind h⟩
theorem tG.imp {α β : Type} {rel : Mp → α → β → Prop} {cA : Str → Addr} {xi : Xi} {W : WX} {m : L2.St → Sto → Res α} {Q Q' : β → Hp → Prop} (h : tG K cA xi W rel m σ H Q) (q : ∀ b H, Q b H → Q' b H) : tG K cA xi W rel m σ H Q' := by
  obtain ⟨R, S, σa, rl, sr, a⟩ := h
  exact ⟨R, S, σa, rl, sr, a.imp q⟩
theorem bin_sim {f : V → V → Sto → Res V} {Q : VK} (h : tM K c.cA c.xi c.W (mBin f ma mb) σ H Q) : tM K c.cA c.xi c.W ma σ H fun x H1 => tM K c.cA c.xi c.W mb σ H1 fun y H2 => rM K c f x y H2 Q := by
  refine (tG.step (rel := VR) h).imp fun x' H1 ⟨R, S, σa, x, rl, sr, vx, q⟩ => ?_
  refine (tG.next (rel := VR) rl sr q).imp fun y' H2 ⟨R2, S2, y, e2, rl2, vy, q2⟩ => ?_
  exact ⟨R2, S2, x, y, _, _, rl2, vx.mono e2, vy, q2⟩
variable {X : Cx} {a b : Expr} {pos : Pos} {f : V → V → Sto → Res V}
theorem se_bin {op : Operator} (ho : OpR X (binaryOp op) (rM X.K c f)) (ha : SE X c a ma) (hb : SE X c b mb) : SE X c (.BinOp a op b pos) (mBin f ma mb) :=
  PE.imp (pe_op ho ha hb) fun σ H Q h => bin_sim h
theorem se_cmp {op : CmpOp} (ho : OpR X (compareOp op) (rM X.K c f)) (ha : SE X c a ma) (hb : SE X c b mb) (hm : behindInMarks op b = false) : SE X c (.Compare a [op] [b] pos) (mBin f ma mb) :=
  PE.imp (pe_cmpR ho ha hb hm) fun σ H Q h => bin_sim h
theorem se_ix (ho : IxR X (rM X.K c f)) (ha : SE X c a ma) (hb : SE X c b mb) (hs : PlainIx b) : SE X c (.Subscript a b pos) (mBin f ma mb) :=
  PE.imp (pe_ix ho ha hb hs) fun σ H Q h => bin_sim h
end
/-! the operations -/
def vAdd : V → V → Sto → Res V
  | .int i, .int j, S => .ok (.int (i + j)) S
  | .str x, .str y, S => if x.length + y.length ≤ sz then .ok (.str (x ++ y)) S else .bad
  | .ref a, .ref b, S => match S.g a, S.g b with
    | some (.lst xs), some (.lst ys) => if xs.length + ys.length ≤ sz then .ok (.ref S.n) (S.put (.lst (xs ++ ys))) else .bad
    | _, _ => .bad
  | _, _, _ => .bad
def vSub : V → V → Sto → Res V
  | .int i, .int j, S => .ok (.int (i - j)) S
  | _, _, _ => .bad
def two64 : Int := 18446744073709551616
def vMul : V → V → Sto → Res V
  | .int i, .int j, S => if (-two64 < i ∧ i < two64) ∨ (-two64 < j ∧ j < two64) then .ok (.int (i * j)) S else .bad
  | .str x, .int n, S => if n < 1000000 ∧ x.length * n.toNat ≤ sz ∧ -1000000 < n then .ok (.str ⟨(List.replicate n.toNat x.cps.toList).flatten.toArray⟩) S else .bad
  | .ref a, .int n, S => match S.g a with
    | some (.lst xs) => if -1000000 < n ∧ n < 1000000 ∧ xs.length * n.toNat ≤ sz then .ok (.ref S.n) (S.put (.lst (List.replicate n.toNat xs).flatten)) else .bad
    | _ => .bad
  | _, _, _ => .bad
def vDiv : V → V → Sto → Res V
  | .int i, .int j, S => if j ≠ 0 ∧ j.natAbs < 1073741824 then .ok (.int (i.fdiv j)) S else .bad
  | _, _, _ => .bad
def vMod : V → V → Sto → Res V
  | .int i, .int j, S => if j ≠ 0 then .ok (.int (i.fmod j)) S else .bad
  | _, _, _ => .bad
def vPow : V → V → Sto → Res V
  | .int i, .int j, S => if 0 ≤ j ∧ j ≤ 1000000 ∧ i.natAbs < 18446744073709551616 then .ok (.int (i ^ j.toNat)) S else .bad
  | _, _, _ => .bad
def vICmp (p : Int → Int → Bool) : V → V → Sto → Res V
  | .int i, .int j, S => .ok (.bl (p i j)) S
  | _, _, _ => .bad
def vLt := vICmp fun i j => decide (i < j)
def vLe := vICmp fun i j => decide (i ≤ j)
def vGt := vICmp fun i j => decide (j < i)
def vGe := vICmp fun i j => decide (j ≤ i)
def allSome {α : Type} : List (Option α) → Option (List α)
  | [] => some []
  | some x :: r => (allSome r).map (x :: ·)
  | none :: _ => none
/-- the data that a value is -/
def toD : Nat → Sto → V → Option PyData
  | _, _, .non => some .none
  | _, _, .bl b => some (.bool b)
  | _, _, .int i => some (.int i)
  | _, _, .str x => some (.str x)
  | n + 1, S, .ref a => match S.ls a with
    | some xs => (allSome (xs.map (toD n S))).map .list
    | none => match S.tp a with
      | some xs => (allSome (xs.map (toD n S))).map .tuple
      | none => none
  | _, _, _ => none
def vEqB (x y : V) (S : Sto) : Option Bool := if scal x y = true then some (decide (x = y)) else match toD 8 S x, toD 8 S y with
  | some d, some e => if SeqAt.shaped d = true ∧ SeqAt.shaped e = true then some (PyData.eqv d e) else none
  | _, _ => none
def vEq (x y : V) (S : Sto) : Res V := match vEqB x y S with
  | some b => .ok (.bl b) S
  | none => .bad
def vNe (x y : V) (S : Sto) : Res V := match vEqB x y S with
  | some b => .ok (.bl (!b)) S
  | none => .bad
def keyOf : V → Option Key
  | .int i => some (.inl i)
  | .str x => some (.inr x)
  | _ => none
def vInB (x y : V) (S : Sto) : Option Bool := match y with
  | .str z => match x with
    | .str s => match s.cps.toList with
      | [c] => some (decide (c ∈ z.cps.toList))
      | _ => some (!(Builtin.Str.occurrences z s 0 z.length 1).isEmpty)
    | _ => none
  | .ref b => match S.dk b with
    | some kvs => (keyOf x).map fun k => (valV kvs k).isSome
    | none => match S.sq b with
      | some xs => if flatV x = true ∧ xs.all flatV = true then some (inV x xs) else match S.ls b with
        | some _ => match toD 8 S x, toD 8 S y with
          | some d, some (.list ds) => if SeqAt.shaped d = true ∧ SeqAt.shaped (.list ds) = true then some (ds.any fun z => PyData.eqv z d) else none
          | _, _ => none
        | none => none
      | none => none
  | _ => none
def vIn (x y : V) (S : Sto) : Res V := match vInB x y S with
  | some b => .ok (.bl b) S
  | none => .bad
def vNotIn (x y : V) (S : Sto) : Res V := match vInB x y S with
  | some b => .ok (.bl (!b)) S
  | none => .bad
def vIsB : V → V → Option Bool
  | x, .non => some (decide (x = .non))
  | .bl a, .bl b => some (decide (a = b))
  | _, _ => none
def vIs (x y : V) (S : Sto) : Res V := match vIsB x y with
  | some b => .ok (.bl b) S
  | none => .bad
def vIsNot (x y : V) (S : Sto) : Res V := match vIsB x y with
  | some b => .ok (.bl (!b)) S
  | none => .bad
def vIx : V → V → Sto → Res V
  | .str z, .int i, S => if z.length ≤ sz then match atI z.cps.toList i with
    | some c => .ok (.str ⟨#[c]⟩) S
    | none => .bad
    else .bad
  | .ref a, y, S => match S.dk a with
    | some kvs => match keyOf y with
      | some k => match valV kvs k with
        | some v => .ok v S
        | none => .bad
      | none => .bad
    | none => match y with
      | .int i => match S.sq a with
        | some xs => match atI xs i with
          | some v => .ok v S
          | none => .bad
        | none => .bad
      | _ => .bad
  | _, _, _ => .bad
section
variable {X : Cx} {c : Cw}
theorem VR.ref {R : Mp} {a : Nat} {y : V} (h : VR R (.ref a) y) : ∃ p, R a = some p ∧ y = .ref p := h
theorem om_add : OpR X (binaryOp .Add) (rM X.K c vAdd) := by
  intro pins s σ H x' y' v u Q I rx ry h
  obtain ⟨R, S, x, y, W, σ', rl, vx, vy, a⟩ := h
  cases x <;> cases y <;> first
    | exact (show False from a).elim
    | skip
  · obtain rfl := vx; obtain rfl := vy
    exact op_add pins s σ H _ _ v u Q I rx ry ⟨_, _, rfl, rfl, Acc.ok' a rl rfl⟩
  · obtain rfl := vx; obtain rfl := vy
    simp only [vAdd] at a
    split at a
    · rename_i hl
      exact op_add_str pins s σ H _ _ v u Q I rx ry ⟨_, _, rfl, rfl, sz_of hl, Acc.ok' a rl rfl⟩
    · exact (show False from a).elim
  · rename_i i j
    simp only [vAdd] at a
    obtain ⟨p, hp, rfl⟩ := vx; obtain ⟨q, hq, rfl⟩ := vy
    split at a
    · rename_i xs ys e1 e2
      split at a
      · rename_i hl
        obtain ⟨p', h1, zs, r1, k1⟩ := rl.ok _ _ e1
        obtain ⟨q', h2, ws, r2, k2⟩ := rl.ok _ _ e2
        rw [hp] at h1; cases h1
        rw [hq] at h2; cases h2
        refine op_cat pins s σ H _ _ v u Q I rx ry ⟨_, _, zs, ws, rfl, rfl, k1, k2, ?_, fun l hl => Acc.new a rl hl (OkO.newL (papp r1 r2) rl) VR.new⟩
        rw [← r1.len, ← r2.len]; exact sz_of hl
      · exact (show False from a).elim
    · exact (show False from a).elim
theorem om_int {f : V → V → Sto → Res V} {op : Value → Value → Sem Value} (C : Int → Int → Prop) (g : Int → Int → V) (ho : OpR X op (rI C g))
    (hf : ∀ x y S, (∃ i j, x = .int i ∧ y = .int j ∧ C i j ∧ f x y S = .ok (g i j) S ∧ (∀ a, g i j ≠ .ref a)) ∨ f x y S = .bad) : OpR X op (rM X.K c f) := by
  intro pins s σ H x' y' v u Q I rx ry h
  obtain ⟨R, S, x, y, W, σ', rl, vx, vy, a⟩ := h
  rcases hf x y S with ⟨i, j, rfl, rfl, hc, e, nr⟩ | e
  · obtain rfl := vx; obtain rfl := vy
    rw [e] at a
    refine ho pins s σ H _ _ v u Q I rx ry ⟨_, _, rfl, rfl, hc, Acc.ok' a rl ?_⟩
    cases q : g i j with
    | ref z => exact absurd q (nr z)
    | _ => rfl
  · rw [e] at a; exact (show False from a).elim
theorem rI_of {op : Value → Value → Sem Value} {g : Int → Int → V} (ho : OpR X op (rI0 g)) : OpR X op (rI (fun _ _ => True) g) := fun pins s σ H x y v u Q I rx ry ⟨i, j, e1, e2, _, q⟩ => ho pins s σ H x y v u Q I rx ry ⟨i, j, e1, e2, q⟩
theorem om_sub : OpR X (binaryOp .Sub) (rM X.K c vSub) := om_int (fun _ _ => True) _ (rI_of op_sub) fun x y S => by
  cases x <;> cases y <;> first | exact .inr rfl | exact .inl ⟨_, _, rfl, rfl, trivial, rfl, fun a => V.noConfusion⟩
theorem om_div : OpR X (binaryOp .FloorDiv) (rM X.K c vDiv) := om_int _ _ op_fdivN fun x y S => by
  cases x <;> cases y <;> first
    | exact .inr rfl
    | (rename_i i j
       by_cases e : j ≠ 0 ∧ j.natAbs < 1073741824
       · exact .inl ⟨_, _, rfl, rfl, e, if_pos e, fun a => V.noConfusion⟩
       · exact .inr (if_neg e))
theorem om_mod : OpR X (binaryOp .Mod) (rM X.K c vMod) := om_int _ _ op_modN fun x y S => by
  cases x <;> cases y <;> first
    | exact .inr rfl
    | (rename_i i j
       by_cases e : j ≠ 0
       · exact .inl ⟨_, _, rfl, rfl, e, if_pos e, fun a => V.noConfusion⟩
       · exact .inr (if_neg e))
theorem om_pow : OpR X (binaryOp .Pow) (rM X.K c vPow) := om_int _ _ op_pow fun x y S => by
  cases x <;> cases y <;> first
    | exact .inr rfl
    | (rename_i i j
       by_cases e : 0 ≤ j ∧ j ≤ 1000000 ∧ i.natAbs < 18446744073709551616
       · exact .inl ⟨_, _, rfl, rfl, e, if_pos e, fun a => V.noConfusion⟩
       · exact .inr (if_neg e))
theorem om_icmp {op : CmpOp} {p : Int → Int → Bool} (ho : OpR X (compareOp op) (rI0 fun i j => .bl (p i j))) : OpR X (compareOp op) (rM X.K c (vICmp p)) := om_int (fun _ _ => True) _ (rI_of ho) fun x y S => by
  cases x <;> cases y <;> first | exact .inr rfl | exact .inl ⟨_, _, rfl, rfl, trivial, rfl, fun a => V.noConfusion⟩
theorem om_lt : OpR X (compareOp .Lt) (rM X.K c vLt) := om_icmp op_lt
theorem om_le : OpR X (compareOp .LtE) (rM X.K c vLe) := om_icmp op_le
theorem om_gt : OpR X (compareOp .Gt) (rM X.K c vGt) := om_icmp op_gt
theorem om_ge : OpR X (compareOp .GtE) (rM X.K c vGe) := om_icmp op_ge
theorem rep_arr (n : Nat) (a : Array Nat) : (List.replicate n a).foldl (· ++ ·) #[] = ((List.replicate n a.toList).flatten).toArray := by
  have h : ∀ (m : Nat) (acc : Array Nat), (List.replicate m a).foldl (· ++ ·) acc = acc ++ ((List.replicate m a.toList).flatten).toArray := by
    intro m
    induction m with
    | zero => intro acc; simp
    | succ m ih => intro acc; rw [List.replicate_succ, List.foldl_cons, ih, List.replicate_succ, List.flatten_cons]; apply Array.ext'; simp
  rw [h]; simp
theorem op_mul_str : OpR X (binaryOp .Mult) (fun x y H Q => ∃ z n, x = .str z ∧ y = .int n ∧ n < 1000000 ∧ -1000000 < n ∧ z.length * n.toNat ≤ sz ∧ Q (.str ⟨(List.replicate n.toNat z.cps.toList).flatten.toArray⟩) H) := by
  intro pins s σ H x y v u Q I rx ry h
  obtain ⟨z, n, rfl, rfl, h1, h2, h3, q⟩ := h
  obtain ⟨t, rfl⟩ := rx
  obtain ⟨t', rfl⟩ := ry
  have hsz : sz = 16777216 := rfl
  refine PySem.P.mul_str ?_ ?_ ?_ ?_
  · rw [decide_eq_false (by omega), decide_eq_false (by omega)]; rfl
  · intro a b e
    have hz : z.length ≤ sz := by
      have : z.length * 1 ≤ z.length * n.toNat := Nat.mul_le_mul_left _ (by omega)
      omega
    have e2 : (2 ^ 63 - 1 : Int) / n < (z.length : Int) := e
    have : (16777216 : Int) ≤ (2 ^ 63 - 1) / n := by
      refine (Int.le_ediv_iff_mul_le (by omega)).mpr ?_
      have : (16777216 : Int) * n ≤ 16777216 * 1000000 := Int.mul_le_mul_of_nonneg_left (by omega) (by omega)
      omega
    omega
  · intro a b
    show decide (_ > sizeLine) = false
    refine decide_eq_false ?_
    rw [sizeLine_eq]; omega
  · by_cases a : n < 1
    · rw [if_pos a]
      have e0 : n.toNat = 0 := by omega
      rw [e0] at q
      exact ⟨by decide, .str _, H, I.tok _, ⟨_, rfl⟩, q⟩
    · rw [if_neg a]
      by_cases b : (n == 1 || z.length == 0) = true
      · rw [if_pos b]
        have e : (⟨(List.replicate n.toNat z.cps.toList).flatten.toArray⟩ : Str) = z := by
          rcases Bool.or_eq_true_iff.mp b with b | b
          · have : n = 1 := by simpa using b
            subst this
            simp
          · have : z.cps = #[] := by
              have h0 : z.cps.size = 0 := by simpa [Str.length] using b
              exact Array.eq_empty_of_size_eq_zero h0
            obtain ⟨zc⟩ := z
            simp at this
            subst this
            simp
        rw [e] at q
        exact ⟨.str z, H, I, ⟨_, rfl⟩, q⟩
      · rw [if_neg b, rep_arr]
        refine ⟨?_, .str _, H, I.tok _, ⟨_, rfl⟩, q⟩
        show Str.length _ ≤ sizeLine
        rw [sizeLine_eq]
        have : (Str.length ⟨(List.replicate n.toNat z.cps.toList).flatten.toArray⟩) = z.length * n.toNat := by
          simp [Str.length, List.length_flatten, Nat.mul_comm]
        rw [this]; omega
theorem om_mul : OpR X (binaryOp .Mult) (rM X.K c vMul) := by
  intro pins s σ H x' y' v u Q I rx ry h
  obtain ⟨R, S, x, y, W, σ', rl, vx, vy, a⟩ := h
  cases x <;> cases y <;> first
    | exact (show False from a).elim
    | skip
  · obtain rfl := vx; obtain rfl := vy
    simp only [vMul] at a
    split at a
    · rename_i hl
      exact op_mul pins s σ H _ _ v u Q I rx ry ⟨_, _, rfl, rfl, hl, Acc.ok' a rl rfl⟩
    · exact (show False from a).elim
  · obtain rfl := vx; obtain rfl := vy
    simp only [vMul] at a
    split at a
    · rename_i hl
      exact op_mul_str pins s σ H _ _ v u Q I rx ry ⟨_, _, rfl, rfl, hl.1, hl.2.2, hl.2.1, Acc.ok' a rl rfl⟩
    · exact (show False from a).elim
  · obtain ⟨p, hp, rfl⟩ := vx; obtain rfl := vy
    simp only [vMul] at a
    split at a
    · rename_i xs e1
      split at a
      · rename_i hl
        obtain ⟨p', h1, zs, r1, k1⟩ := rl.ok _ _ e1
        rw [hp] at h1; cases h1
        refine op_rep pins s σ H _ _ v u Q I rx ry ⟨_, _, zs, rfl, rfl, k1, by omega, by omega, ?_, fun l hl => Acc.new a rl hl (OkO.newL ?_ rl) VR.new⟩
        · rw [← r1.len]; exact sz_of hl.2.2
        · have : ∀ m : Nat, VRs R (List.replicate m xs).flatten (List.replicate m zs).flatten := fun m => by
            induction m with
            | zero => exact .nil
            | succ m ih => rw [List.replicate_succ, List.flatten_cons, List.replicate_succ, List.flatten_cons]; exact papp r1 ih
          exact this _
      · exact (show False from a).elim
    · exact (show False from a).elim
theorem scal_flat {x y : V} (h : scal x y = true) : (∀ a, x ≠ .ref a) ∧ ∀ a, y ≠ .ref a := by
  constructor
  · rintro a rfl; cases y <;> cases h
  · rintro a rfl; cases x <;> cases h
theorem toD_dp {K : PySem.W.Frag} {cA : Str → Addr} {xi : Xi} {R : Mp} {S : Sto} {H : Hp} (rl : Rel K cA xi R S H) : ∀ (n : Nat) (x y : V) (d : PyData), toD n S x = some d → VR R x y → Dp K H y d := by
  have base : ∀ (n : Nat) (x y : V) (d : PyData), (∀ a, x ≠ .ref a) → toD n S x = some d → VR R x y → Dp K H y d := by
    intro n x y d nr h r
    obtain rfl := VR.same nr r
    cases y with
    | non => unfold toD at h; cases h; exact .non
    | bl b => unfold toD at h; cases h; exact .bl b
    | int i => unfold toD at h; cases h; exact .int i
    | str z => unfold toD at h; cases h; exact .str z
    | ref a => exact absurd rfl (nr a)
    | byt b => unfold toD at h; cases h
    | flt b => unfold toD at h; cases h
    | ty b => unfold toD at h; cases h
  intro n
  induction n with
  | zero =>
    intro x y d h r
    refine base 0 x y d ?_ h r
    rintro a rfl
    unfold toD at h; cases h
  | succ n ih =>
    intro x y d h r
    by_cases nr : ∀ a, x ≠ .ref a
    · exact base _ x y d nr h r
    · have ⟨a, e⟩ : ∃ a, x = .ref a := Classical.byContradiction fun z => nr fun a e => z ⟨a, e⟩
      subst e
      have al : ∀ (xs ys : List V) (ds : List PyData), allSome (xs.map (toD n S)) = some ds → VRs R xs ys → DpAll K H ys ds := by
        intro xs
        induction xs with
        | nil => intro ys ds h r; cases r; cases h; exact .nil
        | cons x xs ihx =>
          intro ys ds h r
          cases r with
          | cons r1 r2 =>
            rw [List.map_cons] at h
            cases q : toD n S x with
            | none => rw [q] at h; cases h
            | some d0 =>
              rw [q] at h
              have h' : (allSome (xs.map (toD n S))).map (d0 :: ·) = some ds := h
              obtain ⟨ds', h1, h2⟩ := Option.map_eq_some_iff.mp h'
              subst h2
              exact .cons (ih _ _ _ q r1) (ihx _ _ h1 r2)
      obtain ⟨p, hp, rfl⟩ := r
      have h' : (match S.ls a with
        | some xs => (allSome (xs.map (toD n S))).map PyData.list
        | none => match S.tp a with
          | some xs => (allSome (xs.map (toD n S))).map PyData.tuple
          | none => none) = some d := h
      cases e1 : S.ls a with
      | some xs =>
        rw [e1] at h'
        obtain ⟨ds, h1, h2⟩ := Option.map_eq_some_iff.mp h'
        subst h2
        obtain ⟨p', ys, hp', r1, k1⟩ := rl.ls e1
        rw [hp] at hp'; cases hp'
        exact .lst k1 (al _ _ _ h1 r1)
      | none =>
        rw [e1] at h'
        cases e2 : S.tp a with
        | some xs =>
          rw [e2] at h'
          obtain ⟨ds, h1, h2⟩ := Option.map_eq_some_iff.mp h'
          subst h2
          obtain ⟨p', ys, hp', r1, k1⟩ := rl.tp e2
          rw [hp] at hp'; cases hp'
          exact .tup k1 (al _ _ _ h1 r1)
        | none => rw [e2] at h'; cases h'
/-- two values compared: both ways -/
theorem eqB_cases {K : PySem.W.Frag} {cA : Str → Addr} {xi : Xi} {R : Mp} {S : Sto} {H : Hp} (rl : Rel K cA xi R S H) {x y x' y' : V} {b : Bool} (h : vEqB x y S = some b) (vx : VR R x x') (vy : VR R y y') :
    (scal x' y' = true ∧ b = decide (x' = y')) ∨ ∃ d e, Dp K H x' d ∧ Dp K H y' e ∧ SeqAt.shaped d = true ∧ SeqAt.shaped e = true ∧ b = PyData.eqv d e := by
  unfold vEqB at h
  split at h
  · rename_i hs
    obtain ⟨n1, n2⟩ := scal_flat hs
    obtain rfl := VR.same n1 vx
    obtain rfl := VR.same n2 vy
    cases h
    exact .inl ⟨hs, rfl⟩
  · split at h
    · rename_i d e h1 h2
      split at h
      · rename_i hs
        cases h
        exact .inr ⟨d, e, toD_dp rl _ _ _ _ h1 vx, toD_dp rl _ _ _ _ h2 vy, hs.1, hs.2, rfl⟩
      · cases h
    · cases h
theorem om_eq (hu : X.A.units + 64 < cLine) : OpR X (compareOp .Eq) (rM X.K c vEq) := by
  intro pins s σ H x' y' v u Q I rx ry h
  obtain ⟨R, S, x, y, W, σ', rl, vx, vy, a⟩ := h
  unfold vEq at a
  split at a
  · rename_i b eb
    rcases eqB_cases rl eb vx vy with ⟨h1, h2⟩ | ⟨d, e, h1, h2, h3, h4, h5⟩
    · subst h2; exact op_eq pins s σ H _ _ v u Q I rx ry ⟨h1, Acc.ok' a rl rfl⟩
    · subst h5; exact op_eqD hu pins s σ H _ _ v u Q I rx ry ⟨d, e, h1, h2, h3, h4, Acc.ok' a rl rfl⟩
  · exact (show False from a).elim
theorem om_ne (hu : X.A.units + 64 < cLine) : OpR X (compareOp .NotEq) (rM X.K c vNe) := by
  intro pins s σ H x' y' v u Q I rx ry h
  obtain ⟨R, S, x, y, W, σ', rl, vx, vy, a⟩ := h
  unfold vNe at a
  split at a
  · rename_i b eb
    rcases eqB_cases rl eb vx vy with ⟨h1, h2⟩ | ⟨d, e, h1, h2, h3, h4, h5⟩
    · subst h2; exact op_ne pins s σ H _ _ v u Q I rx ry ⟨h1, Acc.ok' a rl rfl⟩
    · subst h5; exact op_neD hu pins s σ H _ _ v u Q I rx ry ⟨d, e, h1, h2, h3, h4, Acc.ok' a rl rfl⟩
  · exact (show False from a).elim
theorem om_is : OpR X (compareOp .Is) (rM X.K c vIs) := by
  intro pins s σ H x' y' v u Q I rx ry h
  obtain ⟨R, S, x, y, W, σ', rl, vx, vy, a⟩ := h
  have dn : decide (x' = V.non) = decide (x = .non) := by
    cases x with
    | ref z => obtain ⟨p, _, rfl⟩ := vx; rfl
    | _ => obtain rfl := vx; rfl
  cases y with
  | non =>
    obtain rfl := vy
    have a' : Acc X.K c.cA c.xi VR R W σ' Q (.ok (.bl (decide (x = .non))) S) := by cases x <;> exact a
    refine op_isN pins s σ H _ _ v u Q I rx ry ⟨rfl, ?_⟩
    rw [dn]; exact Acc.ok' a' rl rfl
  | bl b =>
    cases x with
    | bl d =>
      obtain rfl := vx; obtain rfl := vy
      exact op_isBl pins s σ H _ _ v u Q I rx ry ⟨_, _, rfl, rfl, Acc.ok' a rl rfl⟩
    | _ => exact (show False from a).elim
  | _ => cases x <;> exact (show False from a).elim
theorem om_isnot : OpR X (compareOp .IsNot) (rM X.K c vIsNot) := by
  intro pins s σ H x' y' v u Q I rx ry h
  obtain ⟨R, S, x, y, W, σ', rl, vx, vy, a⟩ := h
  have dn : decide (x' = V.non) = decide (x = .non) := by
    cases x with
    | ref z => obtain ⟨p, _, rfl⟩ := vx; rfl
    | _ => obtain rfl := vx; rfl
  cases y with
  | non =>
    obtain rfl := vy
    have a' : Acc X.K c.cA c.xi VR R W σ' Q (.ok (.bl (!decide (x = .non))) S) := by cases x <;> exact a
    refine op_notN pins s σ H _ _ v u Q I rx ry ⟨rfl, ?_⟩
    rw [dn]; exact Acc.ok' a' rl rfl
  | bl b =>
    cases x with
    | bl d =>
      obtain rfl := vx; obtain rfl := vy
      exact op_notBl pins s σ H _ _ v u Q I rx ry ⟨_, _, rfl, rfl, Acc.ok' a rl rfl⟩
    | _ => exact (show False from a).elim
  | _ => cases x <;> exact (show False from a).elim
theorem keyOf_kV {x : V} {k : Key} (h : keyOf x = some k) : x = kV k := by
  cases x <;> cases h <;> rfl
theorem keyOf_flat {x : V} {k : Key} (h : keyOf x = some k) : ∀ a, x ≠ .ref a := by
  rintro a rfl; cases h
theorem KR.val {R : Mp} {kvs kws : List (Key × V)} (h : KR R kvs kws) (k : Key) : (valV kvs k = none ∧ valV kws k = none) ∨ ∃ v w, valV kvs k = some v ∧ valV kws k = some w ∧ VR R v w := by
  induction h with
  | nil => exact .inl ⟨rfl, rfl⟩
  | @cons p q l1 l2 r t ih =>
    by_cases e : p.1 = k
    · exact .inr ⟨p.2, q.2, valV_pos e, valV_pos (r.1.trans e), r.2⟩
    · rw [valV_neg e, valV_neg (fun z => e (r.1.symm.trans z))]; exact ih
theorem KR.isSome {R : Mp} {kvs kws : List (Key × V)} (h : KR R kvs kws) (k : Key) : (valV kws k).isSome = (valV kvs k).isSome := by
  rcases h.val k with ⟨a, b⟩ | ⟨v, w, a, b, _⟩
  · rw [a, b]
  · rw [a, b]; rfl
/-- in: which of the rules -/
inductive InC (K : PySem.W.Frag) (H : Hp) : V → V → Bool → Prop
  | sign (c : Nat) (z : Str) : InC K H (.str ⟨#[c]⟩) (.str z) (decide (c ∈ z.cps.toList))
  | str (x z : Str) : InC K H (.str x) (.str z) (!(Builtin.Str.occurrences z x 0 z.length 1).isEmpty)
  | dk {p : Addr} {kws : List (Key × V)} {k : Key} (h : Rd H p (.dK kws)) : InC K H (kV k) (.ref p) (valV kws k).isSome
  | sq {p : Addr} {xs : List V} {x : V} (h : SqL K H p xs ∨ SqT K H p xs) (f : flatV x = true) (g : xs.all flatV = true) : InC K H x (.ref p) (inV x xs)
  | dat {x y : V} {d : PyData} {ds : List PyData} (h1 : Dp K H x d) (h2 : Dp K H y (.list ds)) (s1 : SeqAt.shaped d = true) (s2 : SeqAt.shaped (.list ds) = true) : InC K H x y (ds.any fun z => PyData.eqv z d)
theorem inB_cases {K : PySem.W.Frag} {cA : Str → Addr} {xi : Xi} {R : Mp} {S : Sto} {H : Hp} (rl : Rel K cA xi R S H) {x y x' y' : V} {b : Bool} (h : vInB x y S = some b) (vx : VR R x x') (vy : VR R y y') : InC K H x' y' b := by
  unfold vInB at h
  split at h
  · rename_i z
    obtain rfl := vy
    split at h
    · rename_i s
      obtain rfl := vx
      split at h
      · rename_i c e
        have : s = ⟨#[c]⟩ := by
          obtain ⟨sc⟩ := s
          have e' : sc.toList = [c] := e
          congr 1
          rw [← Array.toArray_toList (xs := sc), e']
        subst this
        cases h
        exact .sign c z
      · cases h
        exact .str s z
    · cases h
  · rename_i bb
    obtain ⟨p, hp, rfl⟩ := vy
    split at h
    · rename_i kvs e
      obtain ⟨p', kws, hp', r, k1⟩ := rl.dk e
      rw [hp] at hp'; cases hp'
      obtain ⟨k, h1, h2⟩ := Option.map_eq_some_iff.mp h
      obtain rfl := VR.same (keyOf_flat h1) vx
      rw [keyOf_kV h1, ← h2, ← r.isSome]
      exact .dk k1
    · split at h
      · rename_i xs e
        obtain ⟨p', ys, hp', r, k1⟩ := rl.sq e
        rw [hp] at hp'; cases hp'
        split at h
        · rename_i f
          cases h
          obtain rfl := VR.flat vx f.1
          obtain rfl := VRs.flat r f.2
          exact .sq k1 f.1 f.2
        · split at h
          · split at h
            · rename_i d ds h1 h2
              split at h
              · rename_i hs
                cases h
                exact .dat (toD_dp rl _ _ _ _ h1 vx) (toD_dp rl _ _ _ _ h2 ⟨p, hp, rfl⟩) hs.1 hs.2
              · cases h
            · cases h
          · cases h
      · cases h
  · cases h
theorem om_in (hu : X.A.units + 65 < cLine) : OpR X (compareOp .In) (rM X.K c vIn) := by
  intro pins s σ H x' y' v u Q I rx ry h
  obtain ⟨R, S, x, y, W, σ', rl, vx, vy, a⟩ := h
  unfold vIn at a
  split at a
  · rename_i b e
    have q : Q (.bl b) H := Acc.ok' a rl rfl
    cases inB_cases rl e vx vy with
    | sign z => exact op_in_sign pins s σ H _ _ v u Q I rx ry ⟨_, _, rfl, rfl, q⟩
    | str x z => exact op_in_str pins s σ H _ _ v u Q I rx ry ⟨_, _, rfl, rfl, q⟩
    | dk h =>
      cases (show u = Value.ref _ from ry)
      exact d_in (by omega) I (.inl ⟨_, _, h, rfl, rfl⟩) rx fun s' J => ⟨.bl _, H, J, rfl, q⟩
    | sq h f g => exact op_in_seq pins s σ H _ _ v u Q I rx ry ⟨_, _, rfl, h, f, g, q⟩
    | dat h1 h2 s1 s2 => exact op_inD hu pins s σ H _ _ v u Q I rx ry ⟨_, _, h1, h2, s1, s2, q⟩
  · exact (show False from a).elim
theorem om_notin (hu : X.A.units + 65 < cLine) : OpR X (compareOp .NotIn) (rM X.K c vNotIn) := by
  intro pins s σ H x' y' v u Q I rx ry h
  obtain ⟨R, S, x, y, W, σ', rl, vx, vy, a⟩ := h
  unfold vNotIn at a
  split at a
  · rename_i b e
    have q : Q (.bl (!b)) H := Acc.ok' a rl rfl
    cases inB_cases rl e vx vy with
    | sign z => exact op_notIn_sign pins s σ H _ _ v u Q I rx ry ⟨_, _, rfl, rfl, q⟩
    | str x z => exact op_notin_str pins s σ H _ _ v u Q I rx ry ⟨_, _, rfl, rfl, q⟩
    | dk h =>
      cases (show u = Value.ref _ from ry)
      exact d_notIn (by omega) I (.inl ⟨_, _, h, rfl, rfl⟩) rx fun s' J => ⟨.bl _, H, J, rfl, q⟩
    | sq h f g => exact op_notIn_seq pins s σ H _ _ v u Q I rx ry ⟨_, _, rfl, h, f, g, q⟩
    | dat h1 h2 s1 s2 => exact op_notInD hu pins s σ H _ _ v u Q I rx ry ⟨_, _, h1, h2, s1, s2, q⟩
  · exact (show False from a).elim
theorem atI_rel {R : Mp} {xs ys : List V} {i : Int} {x : V} (r : VRs R xs ys) (h : atI xs i = some x) : ∃ y, atI ys i = some y ∧ VR R x y := by
  unfold atI at h ⊢
  rw [← r.len]
  cases e : ixN xs.length i with
  | none => rw [e] at h; cases h
  | some j => rw [e] at h; exact pget r h
theorem ix_dict (hu : X.A.units + 1 < cLine) : IxR X (fun x y H Q => ∃ a v, x = .ref a ∧ DGet H a y (some v) ∧ Q v H) := by
  intro value slice pins s σ H x y v u Q I rx ry h hs
  obtain ⟨a, z, rfl, g, q⟩ := h
  cases (show v = Value.ref a from rx)
  exact PyProof.Rows.tail_any (dict_typeIs I g) PySem.F.slot_dict_getitem.lookup (d_getItem hu I g ry fun w' s3 I3 rw' => ⟨z, H, I3, rw', q⟩) hs
theorem om_ix (hu : X.A.units + 1 < cLine) : IxR X (rM X.K c vIx) := by
  intro value slice pins s σ H x' y' v u Q I rx ry h hs
  obtain ⟨R, S, x, y, W, σ', rl, vx, vy, a⟩ := h
  cases x with
  | str z =>
    cases y with
    | int i =>
      obtain rfl := vx; obtain rfl := vy
      simp only [vIx] at a
      split at a
      · rename_i hz
        split at a
        · rename_i ch e
          exact ix_str value slice pins s σ H _ _ v u Q I rx ry ⟨_, _, _, rfl, rfl, sz_of hz, e, Acc.ok' a rl rfl⟩ hs
        · exact (show False from a).elim
      · exact (show False from a).elim
    | _ => exact (show False from a).elim
  | ref b =>
    obtain ⟨p, hp, rfl⟩ := vx
    simp only [vIx] at a
    split at a
    · rename_i kvs e
      obtain ⟨p', kws, hp', r, k1⟩ := rl.dk e
      rw [hp] at hp'; cases hp'
      split at a
      · rename_i k ek
        obtain rfl := VR.same (keyOf_flat ek) vy
        rcases r.val k with ⟨e1, e2⟩ | ⟨v1, w1, e1, e2, rv⟩
        · rw [e1] at a; exact (show False from a).elim
        · rw [e1] at a
          exact ix_dict hu value slice pins s σ H _ _ v u Q I rx ry ⟨p, w1, rfl, .inl ⟨_, k, k1, keyOf_kV ek, e2.symm⟩, Acc.ok' a rl rv⟩ hs
      · exact (show False from a).elim
    · split at a
      · rename_i i
        obtain rfl := vy
        split at a
        · rename_i xs e
          obtain ⟨p', ys, hp', r, k1⟩ := rl.sq e
          rw [hp] at hp'; cases hp'
          split at a
          · rename_i z ez
            obtain ⟨w, ew, rw'⟩ := atI_rel r ez
            have q := Acc.ok' a rl rw'
            rcases k1 with k1 | k1
            · exact ix_list value slice pins s σ H _ _ v u Q I rx ry ⟨p, ys, i, w, rfl, rfl, k1, ew, q⟩ hs
            · exact ix_tup value slice pins s σ H _ _ v u Q I rx ry ⟨p, ys, i, w, rfl, rfl, k1, ew, q⟩ hs
          · exact (show False from a).elim
        · exact (show False from a).elim
      · exact (show False from a).elim
  | _ => cases y <;> exact (show False from a).elim
end
end Mm

namespace Mm
open PySem L2
section
variable {X : Cx} {c : Cw} {x : Str} {pos : Pos} {e : Expr} {es : List Expr}
/-! ### names, constants -/
def mVar (i : Nat) : ME := fun σ S => match σ[i]? with
  | some (some v) => .ok v S
  | _ => .bad
theorem se_var (i : Nat) (hN : X.N[i]? = some x := by rfl) (hv : Vis X.env.scope x := by first | exact Or.inl rfl | exact Or.inr (Or.inl rfl) | exact Or.inr (Or.inr rfl)) (hd : (x == ("__debug__" : Str)) = false := by decide)
    (hcd : (x == ("__classdict__" : Str)) = false := by decide) : SE X c (.Name x pos) (mVar i) := PE.imp (pe_var hN hv hd hcd) fun σ H Q h => by
  obtain ⟨R, S, σa, rl, sr, q⟩ := h
  simp only [mVar] at q
  split at q
  · rename_i v ev
    obtain ⟨o, h1, w, h2, h3⟩ := pget sr ev
    exact ⟨w, by rw [h1, h2], Acc.ok' q rl h3⟩
  · exact (show False from q).elim
def mC (v : V) : ME := fun _ S => .ok v S
theorem mC_sim {v : V} (nr : ∀ a, v ≠ .ref a) {σ : L2.St} {H : Hp} {Q : VK} (h : tM X.K c.cA c.xi c.W (mC v) σ H Q) : tC v σ H Q := by
  obtain ⟨R, S, σa, rl, sr, q⟩ := h
  exact Acc.ok' (w := v) q rl (by cases v <;> first | rfl | exact absurd rfl (nr _))
theorem se_int {i j} : SE X c (.Constant (.int i) j pos) (mC (.int i)) := PE.imp pe_int fun σ H Q h => mC_sim (fun a => V.noConfusion) h
theorem se_str {i j} : SE X c (.Constant (.str i) j pos) (mC (.str i)) := PE.imp pe_str fun σ H Q h => mC_sim (fun a => V.noConfusion) h
theorem se_bl {i j} : SE X c (.Constant (.bool i) j pos) (mC (.bl i)) := PE.imp pe_bl fun σ H Q h => mC_sim (fun a => V.noConfusion) h
theorem se_non {j} : SE X c (.Constant .none j pos) (mC .non) := PE.imp pe_non fun σ H Q h => mC_sim (fun a => V.noConfusion) h
theorem se_globC {v : V} {u : Value} (hg : Gl X x) (hm : X.mg x = some u) (r : RelV v u) (nr : ∀ a, v ≠ .ref a) (hd : (x == ("__debug__" : Str)) = false := by decide) : SE X c (.Name x pos) (mC v) :=
  PE.imp (pe_glob hg hm r hd) fun σ H Q h => mC_sim nr h
theorem se_ty {n : String} (hg : Gl X x) (hm : X.mg x = none) (hv : bootBuiltins x = some (.type n)) (hn : x ≠ "__name__" := by decide) (hd : (x == ("__debug__" : Str)) = false := by decide) : SE X c (.Name x pos) (mC (.ty n)) :=
  PE.imp (pe_bltn hg hm hv (v := .ty n) rfl hn hd) fun σ H Q h => mC_sim (fun a => V.noConfusion) h
def Sto.kn (S : Sto) (a : Nat) : Option Str := match S.g a with
  | some (.ktup nm _) | some (.kobj nm) => some nm
  | some (.klst nm _) => nm
  | _ => none
def mKon (nm : Str) (a : Nat) : ME := fun _ S => if S.kn a = some nm then .ok (.ref a) S else .bad
theorem Rel.kn {K : PySem.W.Frag} {cA : Str → Addr} {xi : Xi} {R : Mp} {S : Sto} {H : Hp} {a : Nat} {nm : Str} (r : Rel K cA xi R S H) (h : S.kn a = some nm) : R a = some (cA nm) := by
  unfold Sto.kn at h
  split at h
  · rename_i e; cases h; obtain ⟨p, hp, o⟩ := r.ok _ _ e; obtain ⟨z, _⟩ := o; rw [hp, z]
  · rename_i e; cases h; obtain ⟨p, hp, o⟩ := r.ok _ _ e; rw [hp]; exact congrArg some o
  · rename_i e; obtain ⟨p, hp, o⟩ := r.ok _ _ e; obtain ⟨z, _⟩ := o; rw [hp, z _ h]
  · cases h
theorem se_kon {a : Nat} (hg : Gl X x) (hm : X.mg x = some (.ref (c.cA x))) (hd : (x == ("__debug__" : Str)) = false := by decide) : SE X c (.Name x pos) (mKon x a) :=
  PE.imp (pe_glob (v := .ref (c.cA x)) hg hm rfl hd) fun σ H Q h => by
    obtain ⟨R, S, σa, rl, sr, q⟩ := h
    simp only [mKon] at q
    split at q
    · rename_i e
      exact Acc.ok' q rl ⟨_, rl.kn e, rfl⟩
    · exact (show False from q).elim
/-! ### argument lists, displays -/
def mNil : MA := fun _ S => .ok [] S
def mCons (m : ME) (r : MA) : MA := fun σ S => (m σ S).bind fun x S1 => (r σ S1).bind fun xs S2 => .ok (x :: xs) S2
theorem sa_nil : SA X c [] mNil := PA.imp pa_nil fun σ H Q h => by
  obtain ⟨R, S, σa, rl, sr, q⟩ := h
  exact Acc.ok' q rl .nil
theorem sa_cons {m : ME} {r : MA} (ha : SE X c e m) (hr : SA X c es r) (hs : starEach (e :: es) X.env = (false, eval e X.env) :: starEach es X.env := by rfl) : SA X c (e :: es) (mCons m r) :=
  PA.imp (pa_cons ha hr hs) fun σ H Q h => by
    refine (tG.step (rel := VR) h).imp fun x' H1 ⟨R, S, σa, x, rl, sr, vx, q⟩ => ?_
    refine (tG.next (rel := VRs) rl sr q).imp fun y' H2 ⟨R2, S2, y, e2, rl2, vy, q2⟩ => ?_
    exact Acc.ok' q2 rl2 (.cons (vx.mono e2) vy)
def mTup (t : MA) : ME := fun σ S => (t σ S).bind fun vs S1 => if vs.length ≤ sz then .ok (.ref S1.n) (S1.put (.tup vs)) else .bad
def mLst (t : MA) : ME := fun σ S => (t σ S).bind fun vs S1 => if vs.length ≤ sz then .ok (.ref S1.n) (S1.put (.lst vs)) else .bad
theorem se_tup {t : MA} {k} (h : SA X c es t) : SE X c (.Tuple es k pos) (mTup t) := PE.imp (pe_tup h) fun σ H Q h => by
  refine (tG.step (rel := VRs) h).imp fun xs H1 ⟨R, S, σa, x, rl, sr, vx, q⟩ => ?_
  split at q
  · rename_i hl
    exact ⟨by rw [← vx.len]; exact sz_of hl, fun p hp => Acc.new q rl hp (OkO.newT vx rl) VR.new⟩
  · exact (show False from q).elim
theorem se_lst {t : MA} (h : SA X c es t) : SE X c (.List es pos) (mLst t) := PE.imp (pe_lst h) fun σ H Q h => by
  refine (tG.step (rel := VRs) h).imp fun xs H1 ⟨R, S, σa, x, rl, sr, vx, q⟩ => ?_
  split at q
  · rename_i hl
    exact ⟨by rw [← vx.len]; exact sz_of hl, fun p hp => Acc.new q rl hp (OkO.newL vx rl) VR.new⟩
  · exact (show False from q).elim
/-! ### truth, and, or, not -/
def vTru (S : Sto) : V → Option Bool
  | .non => some false
  | .bl b => some b
  | .int i => some (i != 0)
  | .str y => if y.length ≤ sz then some ((y.length : Int) != 0) else none
  | .ref a => match S.sq a with
    | some xs => some (!xs.isEmpty)
    | none => match S.g a with
      | some (.dct kvs) => some (!kvs.isEmpty)
      | _ => none
  | _ => none
theorem isE {α β : Type} {F : α → β → Prop} {xs : List α} {ys : List β} (h : Paired F xs ys) : ys.isEmpty = xs.isEmpty := by cases h <;> rfl
theorem vTru_ok {K : PySem.W.Frag} {cA : Str → Addr} {xi : Xi} {R : Mp} {S : Sto} {H : Hp} (rl : Rel K cA xi R S H) {x y : V} {b : Bool} (h : vTru S x = some b) (r : VR R x y) : TruV K y H b := by
  cases x with
  | non => obtain rfl := r; cases h; rfl
  | bl z => obtain rfl := r; cases h; rfl
  | int i => obtain rfl := r; cases h; rfl
  | str z =>
    obtain rfl := r
    simp only [vTru] at h
    split at h
    · rename_i hl; cases h; exact ⟨sz_of hl, rfl⟩
    · cases h
  | ref a =>
    obtain ⟨p, hp, rfl⟩ := r
    simp only [vTru] at h
    split at h
    · rename_i xs e
      cases h
      obtain ⟨p', ys, hp', r1, k1⟩ := rl.sq e
      rw [hp] at hp'; cases hp'
      rcases k1 with k1 | k1
      · exact .inl ⟨ys, k1, by rw [isE r1]⟩
      · exact .inr (.inl ⟨ys, k1, by rw [isE r1]⟩)
    · split at h
      · rename_i kvs e
        cases h
        obtain ⟨p', hp', kws, r1, k1⟩ := rl.ok _ _ e
        rw [hp] at hp'; cases hp'
        exact .inr (.inr ⟨kws, k1, by rw [isE r1]⟩)
      · cases h
  | _ => cases h
def tru (x : V) (S : Sto) : Res Bool := match vTru S x with
  | some b => .ok b S
  | none => .bad
def mTru (m : ME) : MT := fun σ S => (m σ S).bind tru
theorem st_truth {m : ME} (h : SE X c e m) (he : ∀ whole, isTrue e X.env whole = (do let v ← whole; standAt e.pos; holding [v] (truthy v)) := by intro _; rfl) : ST X c e (mTru m) := PT.imp (pt_truth h he) fun σ H Q h => by
  refine (tG.step (rel := VR) h).imp fun x' H1 ⟨R, S, σa, x, rl, sr, vx, q⟩ => ?_
  simp only [tru] at q
  split at q
  · rename_i b eb
    exact ⟨b, vTru_ok rl eb vx, Acc.ok' q rl rfl⟩
  · exact (show False from q).elim
def mBl (m : ME) : MT := fun σ S => (m σ S).bind fun x S1 => match x with
  | .bl b => .ok b S1
  | _ => .bad
theorem mBl_sim {m : ME} {t : TE} {σ : L2.St} {H : Hp} {Q : Bool → Hp → Prop} (i : ∀ Q, tM X.K c.cA c.xi c.W m σ H Q → t σ H Q) (h : tMT X.K c.cA c.xi c.W (mBl m) σ H Q) : tTest t σ H Q :=
  i _ ((tG.step (rel := VR) h).imp fun x' H1 ⟨R, S, σa, x, rl, sr, vx, q⟩ => by
    cases x with
    | bl b => obtain rfl := vx; exact ⟨b, rfl, Acc.ok' q rl rfl⟩
    | _ => exact (show False from q).elim)
variable {a b d : Expr} {ma mb md : ME}
theorem st_cmp {op : CmpOp} {f : V → V → Sto → Res V} (ho : OpR X (compareOp op) (rM X.K c f)) (ha : SE X c a ma) (hb : SE X c b mb) (hm : behindInMarks op b = false) : ST X c (.Compare a [op] [b] pos) (mBl (mBin f ma mb)) :=
  PT.imp (pt_cmpR ho ha hb hm) fun σ H Q h => mBl_sim (fun Q h => bin_sim h) h
def mChain (f g : V → V → Sto → Res V) (a b d : ME) : ME := fun σ S => (a σ S).bind fun x S1 => (b σ S1).bind fun y S2 => (f x y S2).bind fun z S3 => match z with
  | .bl true => (d σ S3).bind fun w S4 => g y w S4
  | .bl false => .ok (.bl false) S3
  | _ => .bad
theorem chain_sim {f g : V → V → Sto → Res V} {σ : L2.St} {H : Hp} {Q : VK} (h : tM X.K c.cA c.xi c.W (mChain f g ma mb md) σ H Q) :
    tChain (rM X.K c f) (rM X.K c g) (tM X.K c.cA c.xi c.W ma) (tM X.K c.cA c.xi c.W mb) (tM X.K c.cA c.xi c.W md) σ H Q := by
  refine (tG.step (rel := VR) h).imp fun x' H1 ⟨R, S, σa, x, rl, sr, vx, q⟩ => ?_
  refine (tG.next (rel := VR) rl sr q).imp fun y' H2 ⟨R2, S2, y, e2, rl2, vy, q2⟩ => ?_
  refine ⟨R2, S2, x, y, _, _, rl2, vx.mono e2, vy, (Acc.bind (rel := VR) q2).imp fun z' H3 ⟨R3, S3, z, e3, rl3, vz, q3⟩ => ?_⟩
  cases z with
  | bl k =>
    obtain rfl := vz
    refine ⟨k, rfl, ?_⟩
    cases k with
    | true =>
      rw [if_pos rfl]
      refine (tG.next (rel := VR) rl3 (sr.mono (e2.trans e3)) q3).imp fun w' H4 ⟨R4, S4, w, e4, rl4, vw, q4⟩ => ?_
      exact ⟨R4, S4, y, w, _, _, rl4, vy.mono (e3.trans e4), vw, q4⟩
    | false =>
      rw [if_neg (by decide)]
      exact Acc.ok' q3 rl3 rfl
  | _ => exact (show False from q3).elim
theorem se_chain {op op' : CmpOp} {f g : V → V → Sto → Res V} (ho : OpR X (compareOp op) (rM X.K c f)) (ho' : OpR X (compareOp op') (rM X.K c g)) (ha : SE X c a ma) (hb : SE X c b mb) (hd : SE X c d md)
    (hm : lastMarks [op, op'] [b, d] = false := by with_unfolding_all rfl) : SE X c (.Compare a [op, op'] [b, d] pos) (mChain f g ma mb md) := PE.imp (pe_chain ho ho' ha hb hd hm) fun σ H Q h => chain_sim h
theorem st_chain {op op' : CmpOp} {f g : V → V → Sto → Res V} (ho : OpR X (compareOp op) (rM X.K c f)) (ho' : OpR X (compareOp op') (rM X.K c g)) (ha : SE X c a ma) (hb : SE X c b mb) (hd : SE X c d md)
    (hm : lastMarks [op, op'] [b, d] = false := by with_unfolding_all rfl) : ST X c (.Compare a [op, op'] [b, d] pos) (mBl (mChain f g ma mb md)) :=
  PT.imp (pt_chain ho ho' ha hb hd hm) fun σ H Q h => mBl_sim (fun Q h => chain_sim h) h
variable {ta tb : MT} {rest : List Expr}
def mAnd (t u : MT) : MT := fun σ S => (t σ S).bind fun b S1 => if b = true then u σ S1 else .ok false S1
def mOr (t u : MT) : MT := fun σ S => (t σ S).bind fun b S1 => if b = true then .ok true S1 else u σ S1
def mNot (t : MT) : MT := fun σ S => (t σ S).bind fun b S1 => .ok (!b) S1
theorem sw_and1 (ha : ST X c a ta) : SW X c (.BoolOp .And [a] pos) ta := pw_and1 ha
theorem sw_or1 (ha : ST X c a ta) : SW X c (.BoolOp .Or [a] pos) ta := pw_or1 ha
theorem sw_and (ha : ST X c a ta) (hb : SW X c (.BoolOp .And (b :: rest) pos) tb) : SW X c (.BoolOp .And (a :: b :: rest) pos) (mAnd ta tb) := PW.imp (pw_and ha hb) fun σ H Q h => by
  refine (tG.step (rel := relB) h).imp fun x' H1 ⟨R, S, σa, x, rl, sr, vx, q⟩ => ?_
  obtain rfl := vx
  cases x' with
  | true => rw [if_pos rfl]; exact ⟨R, S, σa, rl, sr, q⟩
  | false => rw [if_neg (by decide)]; exact Acc.ok' q rl rfl
theorem sw_or (ha : ST X c a ta) (hb : SW X c (.BoolOp .Or (b :: rest) pos) tb) : SW X c (.BoolOp .Or (a :: b :: rest) pos) (mOr ta tb) := PW.imp (pw_or ha hb) fun σ H Q h => by
  refine (tG.step (rel := relB) h).imp fun x' H1 ⟨R, S, σa, x, rl, sr, vx, q⟩ => ?_
  obtain rfl := vx
  cases x' with
  | true => rw [if_pos rfl]; exact Acc.ok' q rl rfl
  | false => rw [if_neg (by decide)]; exact ⟨R, S, σa, rl, sr, q⟩
theorem st_w {t : MT} (h : SW X c e t) : ST X c e t := PW.pt h
theorem st_not (ha : ST X c a ta) : ST X c (.UnaryOp .Not a pos) (mNot ta) := PT.imp (pt_not ha) fun σ H Q h => by
  refine (tG.step (rel := relB) h).imp fun x' H1 ⟨R, S, σa, x, rl, sr, vx, q⟩ => ?_
  obtain rfl := vx
  exact Acc.ok' q rl rfl
def mAndV (a b : ME) : ME := fun σ S => (a σ S).bind fun x S1 => (tru x S1).bind fun k S2 => if k = true then b σ S2 else .ok x S2
def mOrV (a b : ME) : ME := fun σ S => (a σ S).bind fun x S1 => (tru x S1).bind fun k S2 => if k = true then .ok x S2 else b σ S2
def mNotV (a : ME) : ME := fun σ S => (a σ S).bind fun x S1 => (tru x S1).bind fun k S2 => .ok (.bl (!k)) S2
theorem se_one {op} (h : SE X c a ma) : SE X c (.BoolOp op [a] pos) ma := pe_one h
theorem se_and (ha : SE X c a ma) (hb : SE X c (.BoolOp .And (b :: rest) pos) mb) : SE X c (.BoolOp .And (a :: b :: rest) pos) (mAndV ma mb) := PE.imp (pe_andT ha hb) fun σ H Q h => by
  refine (tG.step (rel := VR) h).imp fun x' H1 ⟨R, S, σa, x, rl, sr, vx, q⟩ => ?_
  simp only [tru] at q
  split at q
  · rename_i k ek
    refine ⟨k, vTru_ok rl ek vx, ?_⟩
    cases k with
    | true => rw [if_pos rfl]; exact ⟨R, S, σa, rl, sr, q⟩
    | false => rw [if_neg (by decide)]; exact Acc.ok' q rl vx
  · exact (show False from q).elim
theorem se_or (ha : SE X c a ma) (hb : SE X c (.BoolOp .Or (b :: rest) pos) mb) : SE X c (.BoolOp .Or (a :: b :: rest) pos) (mOrV ma mb) := PE.imp (pe_orT ha hb) fun σ H Q h => by
  refine (tG.step (rel := VR) h).imp fun x' H1 ⟨R, S, σa, x, rl, sr, vx, q⟩ => ?_
  simp only [tru] at q
  split at q
  · rename_i k ek
    refine ⟨k, vTru_ok rl ek vx, ?_⟩
    cases k with
    | true => rw [if_pos rfl]; exact Acc.ok' q rl vx
    | false => rw [if_neg (by decide)]; exact ⟨R, S, σa, rl, sr, q⟩
  · exact (show False from q).elim
theorem se_not (ha : SE X c a ma) : SE X c (.UnaryOp .Not a pos) (mNotV ma) := PE.imp (pe_notT ha) fun σ H Q h => by
  refine (tG.step (rel := VR) h).imp fun x' H1 ⟨R, S, σa, x, rl, sr, vx, q⟩ => ?_
  simp only [tru] at q
  split at q
  · rename_i k ek
    exact ⟨k, vTru_ok rl ek vx, Acc.ok' q rl rfl⟩
  · exact (show False from q).elim
def mIfE (t : MT) (a b : ME) : ME := fun σ S => (t σ S).bind fun k S1 => if k = true then a σ S1 else b σ S1
theorem se_if (ht : ST X c d ta) (ha : SE X c a ma) (hb : SE X c b mb) : SE X c (.IfExp d a b pos) (mIfE ta ma mb) := PE.imp (pe_ifExp ht ha hb) fun σ H Q h => by
  refine (tG.step (rel := relB) h).imp fun x' H1 ⟨R, S, σa, x, rl, sr, vx, q⟩ => ?_
  obtain rfl := vx
  cases x' with
  | true => rw [if_pos rfl]; exact ⟨R, S, σa, rl, sr, q⟩
  | false => rw [if_neg (by decide)]; exact ⟨R, S, σa, rl, sr, q⟩
def vNeg : V → Sto → Res V
  | .int i, S => .ok (.int (-i)) S
  | _, _ => .bad
def mUn (f : V → Sto → Res V) (m : ME) : ME := fun σ S => (m σ S).bind f
theorem se_neg (ha : SE X c a ma) : SE X c (.UnaryOp .USub a pos) (mUn vNeg ma) := PE.imp (pe_un un_neg ha) fun σ H Q h => by
  refine (tG.step (rel := VR) h).imp fun x' H1 ⟨R, S, σa, x, rl, sr, vx, q⟩ => ?_
  cases x with
  | int i => obtain rfl := vx; exact ⟨i, rfl, Acc.ok' q rl rfl⟩
  | _ => exact (show False from q).elim
/-! ### slices -/
abbrev MO' := L2.St → Sto → Res (Option Int)
abbrev relO : Mp → Option Int → Option Int → Prop := fun _ a b => b = a
abbrev SO (X : Cx) (c : Cw) (e : Option Expr) (m : MO') : Prop := PO X e (tG X.K c.cA c.xi c.W relO m)
theorem PO.imp {X : Cx} {e : Option Expr} {t t' : TO} (h : PO X e t) (i : ∀ σ H Q, t' σ H Q → t σ H Q) : PO X e t' := ⟨fun pins s σ H Q I q => h.run pins s σ H Q I (i _ _ _ q)⟩
def mNoPart : MO' := fun _ S => .ok none S
def mPart (m : ME) : MO' := fun σ S => (m σ S).bind fun x S1 => match x with
  | .int i => .ok (some i) S1
  | _ => .bad
theorem so_none : SO X c none mNoPart := PO.imp po_none fun σ H Q h => by
  obtain ⟨R, S, σa, rl, sr, q⟩ := h
  exact Acc.ok' q rl rfl
theorem so_some {m : ME} (h : SE X c e m) : SO X c (some e) (mPart m) := PO.imp (po_some h) fun σ H Q h => by
  refine (tG.step (rel := VR) h).imp fun x' H1 ⟨R, S, σa, x, rl, sr, vx, q⟩ => ?_
  cases x with
  | int i => obtain rfl := vx; exact ⟨i, rfl, Acc.ok' q rl rfl⟩
  | _ => exact (show False from q).elim
/-- s[lo:hi] -/
def cut {α : Type} (xs : List α) (lo hi : Option Int) : List α := (xs.drop (HT.sIx xs.length 0 lo)).take (HT.sIx xs.length xs.length hi - HT.sIx xs.length 0 lo)
def cutStr (z : Str) (lo hi : Option Int) : Str := ⟨(cut z.cps.toList lo hi).toArray⟩
def vSl (x : V) (lo hi : Option Int) (S : Sto) : Res V := match x with
  | .str z => if z.length ≤ sz then .ok (.str (cutStr z lo hi)) S else .bad
  | .ref a => match S.ls a with
    | some xs => .ok (.ref S.n) (S.put (.lst (cut xs lo hi)))
    | none => match S.tp a with
      | some xs => if HT.sIx xs.length 0 lo = 0 ∧ HT.sIx xs.length xs.length hi = xs.length then .bad else .ok (.ref S.n) (S.put (.tup (cut xs lo hi)))
      | none => .bad
  | _ => .bad
theorem SlR.or' {X : Cx} {r r' : V → Option Int → Option Int → Hp → VK → Prop} (h : SlR X r) (h' : SlR X r') : SlR X (fun x lo hi H Q => r x lo hi H Q ∨ r' x lo hi H Q) := SlR.or h h'
theorem cut_rel {R : Mp} {xs ys : List V} {lo hi : Option Int} (r : VRs R xs ys) : VRs R (cut xs lo hi) (cutV ys lo hi) := by
  unfold cut cutV
  rw [← r.len]
  exact ptake _ (pdrop _ r)
def rSM (K : PySem.W.Frag) (c : Cw) : V → Option Int → Option Int → Hp → VK → Prop := fun x' lo hi H Q => ∃ R S x W σ, Rel K c.cA c.xi R S H ∧ VR R x x' ∧ Acc K c.cA c.xi VR R W σ Q (vSl x lo hi S)
theorem om_sl : SlR X (rSM X.K c) := by
  intro pins s σ H x' v vl vu lo hi sl Q I rx hs pl pu h
  obtain ⟨R, S, x, W, σ', rl, vx, a⟩ := h
  cases x with
  | str z =>
    obtain rfl := vx
    simp only [vSl] at a
    split at a
    · rename_i hl
      refine sl_str pins s σ H _ v vl vu lo hi sl Q I rx hs pl pu ⟨z, rfl, sz_of hl, ?_⟩
      have e : cutStr z lo hi = cutS z lo hi := rfl
      rw [← e]; exact Acc.ok' a rl rfl
    · exact (show False from a).elim
  | ref b =>
    obtain ⟨p, hp, rfl⟩ := vx
    simp only [vSl] at a
    split at a
    · rename_i xs e
      obtain ⟨p', ys, hp', r, k1⟩ := rl.ls e
      rw [hp] at hp'; cases hp'
      exact sl_list pins s σ H _ v vl vu lo hi sl Q I rx hs pl pu ⟨p, ys, rfl, k1, fun l hl => Acc.new a rl hl (OkO.newL (cut_rel r) rl) VR.new⟩
    · split at a
      · rename_i xs e
        obtain ⟨p', ys, hp', r, k1⟩ := rl.tp e
        rw [hp] at hp'; cases hp'
        split at a
        · exact (show False from a).elim
        · rename_i hw
          exact sl_tup pins s σ H _ v vl vu lo hi sl Q I rx hs pl pu ⟨p, ys, rfl, k1, by rw [← r.len]; exact hw, fun l hl => Acc.new a rl hl (OkO.newT (cut_rel r) rl) VR.new⟩
      · exact (show False from a).elim
  | _ => exact (show False from a).elim
def mSl (m : ME) (lo hi : MO') : ME := fun σ S => (m σ S).bind fun x S1 => (lo σ S1).bind fun l S2 => (hi σ S2).bind fun h S3 => vSl x l h S3
theorem se_slice {m : ME} {lo hi : Option Expr} {ml mh : MO'} {p2 : Pos} (h : SE X c e m) (hl : SO X c lo ml) (hh : SO X c hi mh) : SE X c (.Subscript e (.Slice lo hi none p2) pos) (mSl m ml mh) := PE.imp (pe_slice om_sl h hl hh) fun σ H Q h => by
  refine (tG.step (rel := VR) h).imp fun x' H1 ⟨R, S, σa, x, rl, sr, vx, q⟩ => ?_
  refine (tG.next (rel := relO) rl sr q).imp fun l' H2 ⟨R2, S2, l, e2, rl2, vl, q2⟩ => ?_
  obtain rfl := vl
  refine (tG.next (rel := relO) rl2 (sr.mono e2) q2).imp fun h' H3 ⟨R3, S3, h, e3, rl3, vh, q3⟩ => ?_
  obtain rfl := vh
  exact ⟨R3, S3, x, _, _, rl3, (vx.mono e2).mono e3, q3⟩
/-! ### calls of builtins by name, of builtin methods -/
def rMc (K : PySem.W.Frag) (c : Cw) (f : List V → Sto → Res V) : List V → Hp → VK → Prop := fun vs' H Q => ∃ R S vs W σ, Rel K c.cA c.xi R S H ∧ VRs R vs vs' ∧ Acc K c.cA c.xi VR R W σ Q (f vs S)
def mCB (f : List V → Sto → Res V) (t : MA) : ME := fun σ S => (t σ S).bind f
variable {f : List V → Sto → Res V} {t : MA} {id T : String} {p : Pos}
theorem cb_sim {σ : L2.St} {H : Hp} {Q : VK} (h : tM X.K c.cA c.xi c.W (mCB f t) σ H Q) : tCB (rMc X.K c f) (tMA X.K c.cA c.xi c.W t) σ H Q :=
  (tG.step (rel := VRs) h).imp fun xs H1 ⟨R, S, σa, x, rl, sr, vx, q⟩ => ⟨R, S, x, _, _, rl, vx, q⟩
theorem se_callB (hc : CallR X (.builtin id) (rMc X.K c f)) (hg : Gl X x) (hm : X.mg x = none) (hv : bootBuiltins x = some (.builtin id)) (ha : SA X c (e :: es) t) (hn : x ≠ "__name__" := by decide) (hdb : (x == ("__debug__" : Str)) = false := by decide)
    (he : starEach (e :: es) X.env = (false, eval e X.env) :: starEach es X.env := by rfl) (hpl : (backTo pos (starEach es X.env)).any (·.1) = false := by rfl) : SE X c (.Call (.Name x p) (e :: es) [] pos) (mCB f t) :=
  PE.imp (pe_callB hc hg hm hv ha hn hdb he hpl) fun σ H Q h => cb_sim h
theorem se_callTy (hc : CallR X (.type T) (rMc X.K c f)) (hg : Gl X x) (hm : X.mg x = none) (hv : bootBuiltins x = some (.type T)) (ha : SA X c (e :: es) t) (hn : x ≠ "__name__" := by decide) (hdb : (x == ("__debug__" : Str)) = false := by decide)
    (he : starEach (e :: es) X.env = (false, eval e X.env) :: starEach es X.env := by rfl) (hpl : (backTo pos (starEach es X.env)).any (·.1) = false := by rfl) : SE X c (.Call (.Name x p) (e :: es) [] pos) (mCB f t) :=
  PE.imp (pe_callTy hc hg hm hv ha hn hdb he hpl) fun σ H Q h => cb_sim h
end
end Mm

namespace Mm
open PySem L2
/-! ### built-in functions -/
inductive Ty where | non | bool | int | str | list | tuple | dict
  deriving DecidableEq
def Ty.nm : Ty → String
  | .non => "NoneType" | .bool => "bool" | .int => "int" | .str => "str" | .list => "list" | .tuple => "tuple" | .dict => "dict"
def tyC (n : String) : Option Ty := if n = "bool" then some .bool else if n = "int" then some .int else if n = "str" then some .str else if n = "list" then some .list else if n = "tuple" then some .tuple else if n = "dict" then some .dict else none
def isiB (a b : Ty) : Bool := decide (a = b) || (decide (a = .bool) && decide (b = .int))
def tyN (S : Sto) : V → Option Ty
  | .non => some .non | .bl _ => some .bool | .int _ => some .int | .str _ => some .str
  | .ref a => match S.g a with
    | some (.lst _) | some (.frz _) | some (.klst _ _) => some .list
    | some (.tup _) | some (.ktup _ _) => some .tuple
    | some (.dct _) | some (.lck _) => some .dict
    | _ => none
  | _ => none
def tyCs : List V → Option (List Ty)
  | [] => some []
  | .ty n :: r => match tyC n with
    | some t => (tyCs r).map (t :: ·)
    | none => none
  | _ :: _ => none
def vIsi (vs : List V) (S : Sto) : Res V := match vs with
  | [x, .ty n] => match tyN S x, tyC n with
    | some a, some b => .ok (.bl (isiB a b)) S
    | _, _ => .bad
  | [x, .ref q] => match S.g q with
    | some (.tup cs) => match tyN S x, tyCs cs with
      | some a, some bs => .ok (.bl (bs.any fun b => isiB a b)) S
      | _, _ => .bad
    | _ => .bad
  | _ => .bad
def vLen (vs : List V) (S : Sto) : Res V := match vs with
  | [.str y] => if y.length ≤ sz then .ok (.int y.length) S else .bad
  | [.ref a] => match S.sq a with
    | some xs => .ok (.int xs.length) S
    | none => match S.dk a with
      | some kvs => .ok (.int kvs.length) S
      | none => .bad
  | _ => .bad
def vAbs (vs : List V) (S : Sto) : Res V := match vs with
  | [.int i] => .ok (.int (if i < 0 then -i else i)) S
  | _ => .bad
def vInt (vs : List V) (S : Sto) : Res V := match vs with
  | [.int i] => .ok (.int i) S
  | [.bl k] => .ok (.int (if k then 1 else 0)) S
  | _ => .bad
def vMax2 (vs : List V) (S : Sto) : Res V := match vs with
  | [.int i, .int j] => .ok (.int (if j > i then j else i)) S
  | _ => .bad
def vMin2 (vs : List V) (S : Sto) : Res V := match vs with
  | [.int i, .int j] => .ok (.int (if j < i then j else i)) S
  | _ => .bad
def intOf : V → Option Int
  | .int i => some i
  | _ => none
def intsOf : List V → Option (List Int)
  | [] => some []
  | .int i :: r => (intsOf r).map (i :: ·)
  | _ :: _ => none
def blsOf : List V → Option (List Bool)
  | [] => some []
  | .bl i :: r => (blsOf r).map (i :: ·)
  | _ :: _ => none
def strsOf : List V → Option (List Str)
  | [] => some []
  | .str i :: r => (strsOf r).map (i :: ·)
  | _ :: _ => none
def vSum (vs : List V) (S : Sto) : Res V := match vs with
  | [.ref a] => match (S.ls a).bind intsOf with
    | some ns => .ok (.int ns.sum) S
    | none => .bad
  | _ => .bad
def vAll (vs : List V) (S : Sto) : Res V := match vs with
  | [.ref a] => match (S.ls a).bind blsOf with
    | some ns => .ok (.bl (ns.all id)) S
    | none => .bad
  | _ => .bad
def vAny (vs : List V) (S : Sto) : Res V := match vs with
  | [.ref a] => match (S.ls a).bind blsOf with
    | some ns => .ok (.bl (ns.any id)) S
    | none => .bad
  | _ => .bad
def vList (vs : List V) (S : Sto) : Res V := match vs with
  | [.ref a] => match S.sq a with
    | some xs => .ok (.ref S.n) (S.put (.lst xs))
    | none => .bad
  | _ => .bad
def vTuple (vs : List V) (S : Sto) : Res V := match vs with
  | [.ref a] => match S.ls a with
    | some xs => .ok (.ref S.n) (S.put (.tup xs))
    | none => match S.tp a with
      | some xs => .ok (.ref a) S
      | none => .bad
  | _ => .bad
section
variable {X : Cx} {c : Cw}
theorem VRs.nil_inv {R : Mp} {ys : List V} (h : VRs R [] ys) : ys = [] := by cases h; rfl
theorem VRs.one_inv {R : Mp} {x : V} {ys : List V} (h : VRs R [x] ys) : ∃ y, ys = [y] ∧ VR R x y := by
  cases h with | cons r t => cases t; exact ⟨_, rfl, r⟩
theorem VRs.two_inv {R : Mp} {x y : V} {ys : List V} (h : VRs R [x, y] ys) : ∃ a b, ys = [a, b] ∧ VR R x a ∧ VR R y b := by
  cases h with | cons r t => cases t with | cons r2 t => cases t; exact ⟨_, _, rfl, r, r2⟩
theorem bad_elim {K : PySem.W.Frag} {cA : Str → Addr} {xi : Xi} {α β : Type} {rel : Mp → α → β → Prop} {R : Mp} {W : WX} {σ : L2.St} {Q : β → Hp → Prop} {P : Prop} (h : Acc K cA xi rel R W σ Q .bad) : P := False.elim h
theorem cm_abs : CallR X (.builtin "abs") (rMc X.K c vAbs) := by
  intro pins s σ H xs us Q I r h
  obtain ⟨R, S, vs, W, σ', rl, rv, a⟩ := h
  unfold vAbs at a
  split at a
  · obtain ⟨y, rfl, e⟩ := rv.one_inv
    obtain rfl := e
    exact call_abs pins s σ H _ us Q I r ⟨_, rfl, Acc.ok' a rl rfl⟩
  · exact bad_elim a
theorem cm_int : CallR X (.type "int") (rMc X.K c vInt) := by
  intro pins s σ H xs us Q I r h
  obtain ⟨R, S, vs, W, σ', rl, rv, a⟩ := h
  unfold vInt at a
  split at a
  · obtain ⟨y, rfl, e⟩ := rv.one_inv
    obtain rfl := e
    exact call_int1 pins s σ H _ us Q I r (.inl ⟨_, rfl, Acc.ok' a rl rfl⟩)
  · obtain ⟨y, rfl, e⟩ := rv.one_inv
    obtain rfl := e
    exact call_int1 pins s σ H _ us Q I r (.inr ⟨_, rfl, Acc.ok' a rl rfl⟩)
  · exact bad_elim a
theorem cm_max2 (hc : X.calm = true) : CallR X (.builtin "max") (rMc X.K c vMax2) := by
  intro pins s σ H xs us Q I r h
  obtain ⟨R, S, vs, W, σ', rl, rv, a⟩ := h
  unfold vMax2 at a
  split at a
  · obtain ⟨y, z, rfl, e, e2⟩ := rv.two_inv
    obtain rfl := e
    obtain rfl := e2
    exact call_max2 hc pins s σ H _ us Q I r ⟨_, _, rfl, Acc.ok' a rl rfl⟩
  · exact bad_elim a
theorem cm_min2 (hc : X.calm = true) : CallR X (.builtin "min") (rMc X.K c vMin2) := by
  intro pins s σ H xs us Q I r h
  obtain ⟨R, S, vs, W, σ', rl, rv, a⟩ := h
  unfold vMin2 at a
  split at a
  · obtain ⟨y, z, rfl, e, e2⟩ := rv.two_inv
    obtain rfl := e
    obtain rfl := e2
    exact call_min2 hc pins s σ H _ us Q I r ⟨_, _, rfl, Acc.ok' a rl rfl⟩
  · exact bad_elim a
theorem intsOf_eq : ∀ {xs : List V} {ns : List Int}, intsOf xs = some ns → xs = ns.map V.int
  | [], _, h => by cases h; rfl
  | x :: xs, ns, h => by
    cases x with
    | int i =>
      obtain ⟨m, h1, h2⟩ := Option.map_eq_some_iff.mp (show (intsOf xs).map (i :: ·) = some ns from h)
      subst h2
      rw [intsOf_eq h1]; rfl
    | _ => cases h
theorem blsOf_eq : ∀ {xs : List V} {ns : List Bool}, blsOf xs = some ns → xs = ns.map V.bl
  | [], _, h => by cases h; rfl
  | x :: xs, ns, h => by
    cases x with
    | bl i =>
      obtain ⟨m, h1, h2⟩ := Option.map_eq_some_iff.mp (show (blsOf xs).map (i :: ·) = some ns from h)
      subst h2
      rw [blsOf_eq h1]; rfl
    | _ => cases h
theorem strsOf_eq : ∀ {xs : List V} {ns : List Str}, strsOf xs = some ns → xs = ns.map V.str
  | [], _, h => by cases h; rfl
  | x :: xs, ns, h => by
    cases x with
    | str i =>
      obtain ⟨m, h1, h2⟩ := Option.map_eq_some_iff.mp (show (strsOf xs).map (i :: ·) = some ns from h)
      subst h2
      rw [strsOf_eq h1]; rfl
    | _ => cases h
theorem flat_map {α : Type} {f : α → V} (h : ∀ x, flatV (f x) = true) (l : List α) : (l.map f).all flatV = true := by simp [h]
theorem cm_sum (hc : X.calm = true) : CallR X (.builtin "sum") (rMc X.K c vSum) := by
  intro pins s σ H xs us Q I r h
  obtain ⟨R, S, vs, W, σ', rl, rv, a⟩ := h
  unfold vSum at a
  split at a
  · obtain ⟨y, rfl, p, hp, rfl⟩ := rv.one_inv
    split at a
    · rename_i ns e
      obtain ⟨zs, e1, e2⟩ := Option.bind_eq_some_iff.mp e
      obtain ⟨p', ys, hp', r1, k1⟩ := rl.ls e1
      rw [hp] at hp'; cases hp'
      rw [intsOf_eq e2] at r1
      obtain rfl := VRs.flat r1 (flat_map (fun _ => rfl) _)
      exact cr_sum hc pins s σ H _ us Q I r ⟨_, _, rfl, k1, Acc.ok' a rl rfl⟩
    · exact bad_elim a
  · exact bad_elim a
theorem cm_all (hc : X.calm = true) : CallR X (.builtin "all") (rMc X.K c vAll) := by
  intro pins s σ H xs us Q I r h
  obtain ⟨R, S, vs, W, σ', rl, rv, a⟩ := h
  unfold vAll at a
  split at a
  · obtain ⟨y, rfl, p, hp, rfl⟩ := rv.one_inv
    split at a
    · rename_i ns e
      obtain ⟨zs, e1, e2⟩ := Option.bind_eq_some_iff.mp e
      obtain ⟨p', ys, hp', r1, k1⟩ := rl.ls e1
      rw [hp] at hp'; cases hp'
      rw [blsOf_eq e2] at r1
      obtain rfl := VRs.flat r1 (flat_map (fun _ => rfl) _)
      exact cr_all hc pins s σ H _ us Q I r ⟨_, _, rfl, k1, Acc.ok' a rl rfl⟩
    · exact bad_elim a
  · exact bad_elim a
theorem cm_any (hc : X.calm = true) : CallR X (.builtin "any") (rMc X.K c vAny) := by
  intro pins s σ H xs us Q I r h
  obtain ⟨R, S, vs, W, σ', rl, rv, a⟩ := h
  unfold vAny at a
  split at a
  · obtain ⟨y, rfl, p, hp, rfl⟩ := rv.one_inv
    split at a
    · rename_i ns e
      obtain ⟨zs, e1, e2⟩ := Option.bind_eq_some_iff.mp e
      obtain ⟨p', ys, hp', r1, k1⟩ := rl.ls e1
      rw [hp] at hp'; cases hp'
      rw [blsOf_eq e2] at r1
      obtain rfl := VRs.flat r1 (flat_map (fun _ => rfl) _)
      exact cr_any hc pins s σ H _ us Q I r ⟨_, _, rfl, k1, Acc.ok' a rl rfl⟩
    · exact bad_elim a
  · exact bad_elim a
theorem cm_list : CallR X (.type "list") (rMc X.K c vList) := by
  intro pins s σ H xs us Q I r h
  obtain ⟨R, S, vs, W, σ', rl, rv, a⟩ := h
  unfold vList at a
  split at a
  · obtain ⟨y, rfl, p, hp, rfl⟩ := rv.one_inv
    split at a
    · rename_i zs e
      obtain ⟨p', ys, hp', r1, k1⟩ := rl.sq e
      rw [hp] at hp'; cases hp'
      exact call_list_of pins s σ H _ us Q I r ⟨p, ys, rfl, k1, fun l hl => Acc.new a rl hl (OkO.newL r1 rl) VR.new⟩
    · exact bad_elim a
  · exact bad_elim a
theorem cm_tuple : CallR X (.type "tuple") (rMc X.K c vTuple) := by
  intro pins s σ H xs us Q I r h
  obtain ⟨R, S, vs, W, σ', rl, rv, a⟩ := h
  unfold vTuple at a
  split at a
  · obtain ⟨y, rfl, p, hp, rfl⟩ := rv.one_inv
    split at a
    · rename_i zs e
      obtain ⟨p', ys, hp', r1, k1⟩ := rl.ls e
      rw [hp] at hp'; cases hp'
      exact call_tuple_of pins s σ H _ us Q I r ⟨p, ys, rfl, .inl ⟨k1, fun l hl => Acc.new a rl hl (OkO.newT r1 rl) VR.new⟩⟩
    · split at a
      · rename_i zs e
        obtain ⟨p', ys, hp', r1, k1⟩ := rl.tp e
        rw [hp] at hp'; cases hp'
        exact call_tuple_of pins s σ H _ us Q I r ⟨p, ys, rfl, .inr ⟨k1, Acc.ok' a rl ⟨p, hp, rfl⟩⟩⟩
      · exact bad_elim a
  · exact bad_elim a
theorem cm_len : CallR X (.builtin "len") (rMc X.K c vLen) := by
  intro pins s σ H xs us Q I r h
  obtain ⟨R, S, vs, W, σ', rl, rv, a⟩ := h
  unfold vLen at a
  split at a
  · obtain ⟨y, rfl, e⟩ := rv.one_inv
    obtain rfl := e
    split at a
    · rename_i hl
      exact call_len pins s σ H _ us Q I r ⟨_, _, rfl, ⟨sz_of hl, rfl⟩, Acc.ok' a rl rfl⟩
    · exact bad_elim a
  · obtain ⟨y, rfl, p, hp, rfl⟩ := rv.one_inv
    split at a
    · rename_i zs e
      obtain ⟨p', ys, hp', r1, k1⟩ := rl.sq e
      rw [hp] at hp'; cases hp'
      have q := Acc.ok' (w := .int ys.length) a rl (by show V.int _ = V.int _; rw [r1.len])
      rcases k1 with k1 | k1
      · exact call_len pins s σ H _ us Q I r ⟨_, ys.length, rfl, .inl ⟨ys, k1, rfl⟩, q⟩
      · exact call_len pins s σ H _ us Q I r ⟨_, ys.length, rfl, .inr ⟨ys, k1, rfl⟩, q⟩
    · split at a
      · rename_i kvs e
        obtain ⟨p', kws, hp', r1, k1⟩ := rl.dk e
        rw [hp] at hp'; cases hp'
        obtain ⟨u, rfl, ru⟩ := vals1 r
        cases (show u = Value.ref p from ru)
        refine d_len I k1 fun t s' J => ⟨.int kws.length, H, J, ⟨t, rfl⟩, Acc.ok' a rl ?_⟩
        show V.int _ = V.int _
        rw [Paired.length r1]
      · exact bad_elim a
  · exact bad_elim a
theorem kit_isi (K : PySem.W.Frag) (a b : Ty) : b ≠ .non → PySem.W.kitOne K (.type a.nm) (.type b.nm) = some (isiB a b) := by
  intro hb
  refine kit_ty ?_
  cases b <;> first
    | exact absurd rfl hb
    | (cases a <;> decide +kernel)
theorem tyC_nm {n : String} {t : Ty} (h : tyC n = some t) : n = t.nm ∧ t ≠ .non := by
  unfold tyC at h
  repeat' split at h
  all_goals first
    | (cases h; rename_i e; subst e; exact ⟨rfl, by decide⟩)
    | cases h
theorem sqK {K : PySem.W.Frag} {p : Addr} {ys : List V} (h : ∀ H', SqL K H' p ys) : ∃ o, K.lookup p = some o ∧ o.cls = .type "list" := by
  rcases h (fun _ => none) with z | z
  · rcases z with z | ⟨o, z⟩ <;> cases z
  · obtain ⟨o, its, n, h1, h2, _⟩ := z
    exact ⟨o, h1, h2⟩
theorem stK {K : PySem.W.Frag} {p : Addr} {ys : List V} (h : ∀ H', SqT K H' p ys) : ∃ o, K.lookup p = some o ∧ o.cls = .type "tuple" := by
  rcases h (fun _ => none) with z | z
  · rcases z with z | ⟨o, z⟩ <;> cases z
  · obtain ⟨o, its, n, h1, h2, _⟩ := z
    exact ⟨o, h1, h2⟩
theorem tyN_ok {K : PySem.W.Frag} {cA : Str → Addr} {xi : Xi} {R : Mp} {S : Sto} {H : Hp} (rl : Rel K cA xi R S H) {x y : V} {t : Ty} (h : tyN S x = some t) (r : VR R x y) : TyX K H y (.type t.nm) := by
  cases x with
  | non => obtain rfl := r; cases h; exact .base .non
  | bl b => obtain rfl := r; cases h; exact .base (.bl b)
  | int b => obtain rfl := r; cases h; exact .base (.int b)
  | str b => obtain rfl := r; cases h; exact .base (.str b)
  | ref a =>
    obtain ⟨p, hp, rfl⟩ := r
    simp only [tyN] at h
    split at h <;> first
      | cases h
      | skip
    all_goals
      rename_i e
      obtain ⟨p', hp', o⟩ := rl.ok _ _ e
      rw [hp] at hp'; cases hp'
    · obtain ⟨ys, _, k⟩ := o; exact .base (.lst k)
    · obtain ⟨ys, ob, _, k⟩ := o; exact .base (.frz k)
    · obtain ⟨_, ys, _, k⟩ := o
      obtain ⟨o, h1, h2⟩ := sqK k
      exact .kList h1 h2
    · obtain ⟨ys, _, k⟩ := o; exact .base (.tup k)
    · obtain ⟨_, ys, _, k⟩ := o
      obtain ⟨o, h1, h2⟩ := stK k
      exact .kTuple h1 h2
    · obtain ⟨ys, _, k⟩ := o; exact .base (.dK k)
    · obtain ⟨ys, ob, _, k⟩ := o; exact .fDict k.1
  | _ => cases h
theorem tyCs_ok {K : PySem.W.Frag} {a : Ty} : ∀ {cs : List V} {bs : List Ty}, tyCs cs = some bs → ∃ us, Paired ClsV cs us ∧ PySem.W.kitAny K (.type a.nm) us = some (bs.any fun b => isiB a b)
  | [], bs, h => by cases h; exact ⟨[], .nil, kitAny_nil⟩
  | x :: cs, bs, h => by
    cases x with
    | ty n =>
      have h' : (match tyC n with
        | some t => (tyCs cs).map (t :: ·)
        | none => none) = some bs := h
      cases e : tyC n with
      | none => rw [e] at h'; cases h'
      | some t =>
        rw [e] at h'
        obtain ⟨rs, h1, h2⟩ := Option.map_eq_some_iff.mp h'
        subst h2
        obtain ⟨us, p, k⟩ := tyCs_ok (K := K) (a := a) h1
        obtain ⟨rfl, nn⟩ := tyC_nm e
        refine ⟨_, .cons (.ty _) p, kitAny_cons (kit_isi K a t nn) (fun hb => ?_) fun hb => ?_⟩
        · rw [k, List.any_cons, hb]; rfl
        · rw [List.any_cons, hb]; rfl
    | _ => cases h
theorem VRs.noref {R : Mp} {xs ys : List V} (h : ∀ x ∈ xs, ∀ a, x ≠ .ref a) (r : VRs R xs ys) : ys = xs := by
  induction r with
  | nil => rfl
  | cons r t ih => rw [VR.same (h _ List.mem_cons_self) r, ih fun x hx => h x (List.mem_cons_of_mem _ hx)]
theorem tyCs_noref : ∀ {cs : List V} {bs : List Ty}, tyCs cs = some bs → ∀ x ∈ cs, ∀ a, x ≠ .ref a
  | [], _, _ => fun x hx => by cases hx
  | x :: cs, bs, h => by
    cases x with
    | ty n =>
      have h' : (match tyC n with
        | some t => (tyCs cs).map (t :: ·)
        | none => none) = some bs := h
      cases e : tyC n with
      | none => rw [e] at h'; cases h'
      | some t =>
        rw [e] at h'
        obtain ⟨rs, h1, h2⟩ := Option.map_eq_some_iff.mp h'
        intro x hx a
        rcases List.mem_cons.mp hx with rfl | hx
        · exact V.noConfusion
        · exact tyCs_noref h1 x hx a
    | _ => cases h
theorem cm_isi : CallR X (.builtin "isinstance") (rMc X.K c vIsi) := by
  intro pins s σ H xs us Q I r h
  obtain ⟨R, S, vs, W, σ', rl, rv, a⟩ := h
  unfold vIsi at a
  split at a
  · rename_i x n
    obtain ⟨y, z, rfl, r1, r2⟩ := rv.two_inv
    obtain rfl := r2
    split at a
    · rename_i t b e1 e2
      obtain ⟨rfl, nn⟩ := tyC_nm e2
      exact call_isi pins s σ H _ us Q I r ⟨y, _, _, _, _, rfl, .ty _, tyN_ok rl e1 r1, kit_isi _ _ _ nn, Acc.ok' a rl rfl⟩
    · exact bad_elim a
  · rename_i x q
    obtain ⟨y, z, rfl, r1, p, hp, rfl⟩ := rv.two_inv
    split at a
    · rename_i cs e
      split at a
      · rename_i t bs e1 e2
        obtain ⟨p', hp', ys, ry, k1⟩ := rl.ok _ _ e
        rw [hp] at hp'; cases hp'
        obtain ⟨ws, pw, kw⟩ := tyCs_ok (K := X.K) (a := t) e2
        have ec : ys = cs := VRs.noref (tyCs_noref e2) ry
        rw [ec] at k1
        exact call_isiT pins s σ H _ us Q I r ⟨y, p, cs, _, ws, _, rfl, k1, pw, tyN_ok rl e1 r1, kw, Acc.ok' a rl rfl⟩
      · exact bad_elim a
    · exact bad_elim a
  · exact bad_elim a
end
end Mm

namespace Mm
open PySem L2
/-! ### methods of built-in types -/
def tyOk (T : String) (S : Sto) : V → Bool
  | .str _ => decide (T = "str")
  | .ref a => match S.g a with
    | some (.lst _) | some (.frz _) | some (.klst _ _) => decide (T = "list")
    | some (.dct _) => decide (T = "dict")
    | _ => false
  | _ => false
def mMeth (T : String) (f : V → List V → Sto → Res V) (o : ME) (t : MA) : ME := fun σ S => (o σ S).bind fun x S1 => if tyOk T S1 x = true then (t σ S1).bind fun vs S2 => f x vs S2 else .bad
def mMeth0 (T : String) (f : V → List V → Sto → Res V) (o : ME) : ME := fun σ S => (o σ S).bind fun x S1 => if tyOk T S1 x = true then f x [] S1 else .bad
def rMm (K : PySem.W.Frag) (c : Cw) (f : V → List V → Sto → Res V) : V → List V → Hp → VK → Prop := fun x' vs' H Q => ∃ R S x vs W σ, Rel K c.cA c.xi R S H ∧ VR R x x' ∧ VRs R vs vs' ∧ Acc K c.cA c.xi VR R W σ Q (f x vs S)
def wAppend (x : V) (vs : List V) (S : Sto) : Res V := match x, vs with
  | .ref a, [y] => match S.g a with
    | some (.lst xs) => if xs.length < sz then .ok .non (S.set a (.lst (xs ++ [y]))) else .bad
    | _ => .bad
  | _, _ => .bad
def wExtend (x : V) (vs : List V) (S : Sto) : Res V := match x, vs with
  | .ref a, [.ref b] => match S.g a, S.g b with
    | some (.lst xs), some (.lst ys) => if xs.length + ys.length ≤ sz then .ok .non (S.set a (.lst (xs ++ ys))) else .bad
    | _, _ => .bad
  | _, _ => .bad
def wPop (x : V) (vs : List V) (S : Sto) : Res V := match x, vs with
  | .ref a, [] => match S.g a with
    | some (.lst xs) => match xs[xs.length - 1]? with
      | some y => .ok y (S.set a (.lst xs.dropLast))
      | none => .bad
    | _ => .bad
  | .ref a, [.int i] => match S.g a with
    | some (.lst xs) => if -1000000000 < i ∧ i < 1000000000 then match seqIndex? i xs.length with
      | some k => match xs[k]? with
        | some y => .ok y (S.set a (.lst (xs.eraseIdx k)))
        | none => .bad
      | none => .bad
      else .bad
    | _ => .bad
  | _, _ => .bad
def wInsert (x : V) (vs : List V) (S : Sto) : Res V := match x, vs with
  | .ref a, [.int i, y] => match S.g a with
    | some (.lst xs) => if xs.length < sz ∧ 0 ≤ i ∧ i < 1000000000 then .ok .non (S.set a (.lst (xs.take i.toNat ++ [y] ++ xs.drop i.toNat))) else .bad
    | _ => .bad
  | _, _ => .bad
def wReverse (x : V) (vs : List V) (S : Sto) : Res V := match x, vs with
  | .ref a, [] => match S.g a with
    | some (.lst xs) => .ok .non (S.set a (.lst xs.reverse))
    | _ => .bad
  | _, _ => .bad
/-- the first place of d -/
def firstD (d : PyData) : List PyData → Option Nat
  | [] => none
  | z :: r => if PyData.eqv z d = true then some 0 else (firstD d r).map (· + 1)
def wIndex (x : V) (vs : List V) (S : Sto) : Res V := match vs with
  | [y] => match toD 8 S x, toD 8 S y with
    | some (.list ds), some d => if SeqAt.shaped (.list ds) = true ∧ SeqAt.shaped d = true then match firstD d ds with
      | some j => .ok (.int (j : Nat)) S
      | none => .bad
      else .bad
    | _, _ => .bad
  | _ => .bad
def wJoin (x : V) (vs : List V) (S : Sto) : Res V := match x, vs with
  | .str a, [.ref b] => match (S.sq b).bind strsOf with
    | some ys => if (ys.map (·.length)).sum + ys.length * a.length ≤ sz then .ok (.str (Txt.join a ys)) S else .bad
    | none => .bad
  | _, _ => .bad
def wSplit (x : V) (vs : List V) (S : Sto) : Res V := match x, vs with
  | .str a, [.str b] => if b.length ≠ 0 ∧ a.length + 2 ≤ sz then .ok (.ref S.n) (S.put (.lst ((Txt.split a b).map V.str))) else .bad
  | _, _ => .bad
section
variable {X : Cx} {c : Cw} {pos cpos apos : Pos} {o e : Expr} {es : List Expr} {mo : ME} {t : MA} {f : V → List V → Sto → Res V} {T id : String} {name : Str}
theorem tyOk_ok {K : PySem.W.Frag} {cA : Str → Addr} {xi : Xi} {R : Mp} {S : Sto} {H : Hp} (rl : Rel K cA xi R S H) {x y : V} (h : tyOk T S x = true) (r : VR R x y) : tyV K T y H := by
  cases x with
  | str z => obtain rfl := r; exact (of_decide_eq_true (p := T = "str") h)
  | ref a =>
    obtain ⟨p, hp, rfl⟩ := r
    simp only [tyOk] at h
    split at h <;> first
      | cases h; done
      | skip
    all_goals
      rename_i e
      obtain ⟨p', hp', o⟩ := rl.ok _ _ e
      rw [hp] at hp'; cases hp'
    · obtain ⟨ys, _, k⟩ := o; exact .inl ⟨of_decide_eq_true h, ys, SqL.of k⟩
    · obtain ⟨ys, ob, _, k⟩ := o; exact .inl ⟨of_decide_eq_true h, ys, .inl (.inr ⟨ob, k⟩)⟩
    · obtain ⟨_, ys, _, k⟩ := o; exact .inl ⟨of_decide_eq_true h, ys, k H⟩
    · obtain ⟨ys, _, k⟩ := o; exact .inr (.inr (.inl ⟨of_decide_eq_true h, .inl ⟨_, k⟩⟩))
  | _ => cases h
theorem se_meth (pa : PlainAttrs T) (slot : Slot T name id) (hty : typeOf (.builtin id) = pure (.type "method_descriptor")) (hm : MtR X id (rMm X.K c f)) (ho : SE X c o mo) (ha : SA X c (e :: es) t)
    (hbase : attributeBase o name X.env (eval o X.env) = eval o X.env := by rfl)
    (hfew : ((backTo cpos (starEach (e :: es) X.env)).all (fun x => !x.1) && (backToKw cpos (keywordEach [] X.env)).all (fun x => x.1.isSome)
      && decide ((e :: es).length + ([] : List Keyword).length + (if ([] : List Keyword).isEmpty then 0 else 1) < 30)) = true := by rfl)
    (hline : (apos.endLine == cpos.line) = true := by rfl) (hs : starEach (e :: es) X.env = (false, eval e X.env) :: starEach es X.env := by rfl) (hplain : (backTo cpos (starEach es X.env)).any (·.1) = false := by rfl) :
    SE X c (.Call (.Attribute o name apos) (e :: es) [] cpos) (mMeth T f mo t) := PE.imp (pe_bm pa slot hty hm ho ha hbase hfew hline hs hplain) fun σ H Q h => by
  refine (tG.step (rel := VR) h).imp fun x' H1 ⟨R, S, σa, x, rl, sr, vx, q⟩ => ?_
  split at q
  · rename_i ht
    refine ⟨tyOk_ok rl ht vx, (tG.next (rel := VRs) rl sr q).imp fun vs' H2 ⟨R2, S2, vs, e2, rl2, vy, q2⟩ => ?_⟩
    exact ⟨R2, S2, x, vs, _, _, rl2, vx.mono e2, vy, q2⟩
  · exact bad_elim q
theorem se_meth0 (pa : PlainAttrs T) (slot : Slot T name id) (hty : typeOf (.builtin id) = pure (.type "method_descriptor")) (hm : MtR X id (rMm X.K c f)) (ho : SE X c o mo)
    (hbase : attributeBase o name X.env (eval o X.env) = eval o X.env := by rfl) (hline : (apos.endLine == cpos.line) = true := by rfl) : SE X c (.Call (.Attribute o name apos) [] [] cpos) (mMeth0 T f mo) :=
  PE.imp (pe_bm0 pa slot hty hm ho hbase hline) fun σ H Q h => by
    refine (tG.step (rel := VR) h).imp fun x' H1 ⟨R, S, σa, x, rl, sr, vx, q⟩ => ?_
    split at q
    · rename_i ht
      exact ⟨tyOk_ok rl ht vx, R, S, x, [], _, _, rl, vx, .nil, q⟩
    · exact bad_elim q
/-- a list changed -/
theorem Acc.setL {K : PySem.W.Frag} {cA : Str → Addr} {xi : Xi} {α β : Type} {rel : Mp → α → β → Prop} {R : Mp} {S : Sto} {H : Hp} {W : WX} {σ : L2.St} {Q : β → Hp → Prop} {v : α} {w : β} {b : Nat} {p : Addr} {xs ys zs : List V}
    (a : Acc K cA xi rel R W σ Q (.ok v (S.set b (.lst ys)))) (rl : Rel K cA xi R S H) (hb : S.g b = some (.lst xs)) (hr : R b = some p) (h : VRs R ys zs) (hv : rel R v w) : Q w (upd H p (.lst zs)) :=
  a _ _ w (Mp.ex.refl R) (rl.set hb rfl hr ⟨zs, h, upd_same⟩) hv
theorem lst_of {K : PySem.W.Frag} {cA : Str → Addr} {xi : Xi} {R : Mp} {S : Sto} {H : Hp} {b : Nat} {p : Addr} {xs : List V} (rl : Rel K cA xi R S H) (hb : S.g b = some (.lst xs)) (hr : R b = some p) : ∃ ys, VRs R xs ys ∧ H p = some (.lst ys) := by
  obtain ⟨p', hp', ys, r, k⟩ := rl.ok _ _ hb
  rw [hr] at hp'; cases hp'
  exact ⟨ys, r, k⟩
theorem mm_append : MtR X "list.append" (rMm X.K c wAppend) := by
  intro pins s σ H x' vs' v us Q I rx rvs h
  obtain ⟨R, S, x, vs, W, σ', rl, vx, vr, a⟩ := h
  unfold wAppend at a
  split at a
  · obtain ⟨p, hp, rfl⟩ := vx
    obtain ⟨y', rfl, ry⟩ := vr.one_inv
    split at a
    · rename_i xs e
      split at a
      · rename_i hl
        obtain ⟨ys, r1, k1⟩ := lst_of rl e hp
        exact mt_append pins s σ H _ _ v us Q I rx rvs ⟨p, ys, y', rfl, rfl, k1, by rw [← r1.len]; exact sz_lt hl, Acc.setL a rl e hp (papp r1 (.cons ry .nil)) rfl⟩
      · exact bad_elim a
    · exact bad_elim a
  · exact bad_elim a
theorem mm_extend : MtR X "list.extend" (rMm X.K c wExtend) := by
  intro pins s σ H x' vs' v us Q I rx rvs h
  obtain ⟨R, S, x, vs, W, σ', rl, vx, vr, a⟩ := h
  unfold wExtend at a
  split at a
  · obtain ⟨p, hp, rfl⟩ := vx
    obtain ⟨y', rfl, q, hq, rfl⟩ := vr.one_inv
    split at a
    · rename_i xs ys e e2
      split at a
      · rename_i hl
        obtain ⟨zs, r1, k1⟩ := lst_of rl e hp
        obtain ⟨ws, r2, k2⟩ := lst_of rl e2 hq
        exact mt_extend pins s σ H _ _ v us Q I rx rvs ⟨p, q, zs, ws, rfl, rfl, k1, k2, by rw [← r1.len, ← r2.len]; exact sz_of hl, Acc.setL a rl e hp (papp r1 r2) rfl⟩
      · exact bad_elim a
    · exact bad_elim a
  · exact bad_elim a
theorem pdropLast {α β : Type} {F : α → β → Prop} {xs : List α} {ys : List β} (h : Paired F xs ys) : Paired F xs.dropLast ys.dropLast := by
  rw [List.dropLast_eq_take, List.dropLast_eq_take, Paired.length h]; exact ptake _ h
theorem perase {α β : Type} {F : α → β → Prop} : ∀ {xs : List α} {ys : List β} (i : Nat), Paired F xs ys → Paired F (xs.eraseIdx i) (ys.eraseIdx i)
  | _, _, _, .nil => .nil
  | _, _, 0, .cons _ t => t
  | _, _, i + 1, .cons q t => .cons q (perase i t)
theorem mm_pop : MtR X "list.pop" (rMm X.K c wPop) := by
  intro pins s σ H x' vs' v us Q I rx rvs h
  obtain ⟨R, S, x, vs, W, σ', rl, vx, vr, a⟩ := h
  unfold wPop at a
  split at a
  · obtain ⟨p, hp, rfl⟩ := vx
    obtain rfl := vr.nil_inv
    split at a
    · rename_i xs e
      split at a
      · rename_i y ey
        obtain ⟨zs, r1, k1⟩ := lst_of rl e hp
        obtain ⟨y', ey', ry⟩ := pget r1 ey
        rw [r1.len] at ey'
        exact mt_pop pins s σ H _ _ v us Q I rx rvs ⟨p, zs, y', rfl, rfl, k1, ey', Acc.setL a rl e hp (pdropLast r1) ry⟩
      · exact bad_elim a
    · exact bad_elim a
  · obtain ⟨p, hp, rfl⟩ := vx
    obtain ⟨y', rfl, e1⟩ := vr.one_inv
    obtain rfl := e1
    split at a
    · rename_i xs e
      split at a
      · rename_i hl
        split at a
        · rename_i k ek
          split at a
          · rename_i y ey
            obtain ⟨zs, r1, k1⟩ := lst_of rl e hp
            obtain ⟨y', ey', ry⟩ := pget r1 ey
            exact mt_popAt pins s σ H _ _ v us Q I rx rvs ⟨p, zs, _, k, y', rfl, rfl, k1, by omega, by omega, by rw [← r1.len]; exact ek, ey', Acc.setL a rl e hp (perase _ r1) ry⟩
          · exact bad_elim a
        · exact bad_elim a
      · exact bad_elim a
    · exact bad_elim a
  · exact bad_elim a
theorem mm_insert : MtR X "list.insert" (rMm X.K c wInsert) := by
  intro pins s σ H x' vs' v us Q I rx rvs h
  obtain ⟨R, S, x, vs, W, σ', rl, vx, vr, a⟩ := h
  unfold wInsert at a
  split at a
  · obtain ⟨p, hp, rfl⟩ := vx
    obtain ⟨y1, y', rfl, e1, ry⟩ := vr.two_inv
    obtain rfl := e1
    split at a
    · rename_i xs e
      split at a
      · rename_i hl
        obtain ⟨zs, r1, k1⟩ := lst_of rl e hp
        exact mt_insert pins s σ H _ _ v us Q I rx rvs ⟨p, zs, _, y', rfl, rfl, k1, by rw [← r1.len]; exact sz_lt hl.1, hl.2.1, by omega, Acc.setL a rl e hp (papp (papp (ptake _ r1) (.cons ry .nil)) (pdrop _ r1)) rfl⟩
      · exact bad_elim a
    · exact bad_elim a
  · exact bad_elim a
theorem mm_reverse : MtR X "list.reverse" (rMm X.K c wReverse) := by
  intro pins s σ H x' vs' v us Q I rx rvs h
  obtain ⟨R, S, x, vs, W, σ', rl, vx, vr, a⟩ := h
  unfold wReverse at a
  split at a
  · obtain ⟨p, hp, rfl⟩ := vx
    obtain rfl := vr.nil_inv
    split at a
    · rename_i xs e
      obtain ⟨zs, r1, k1⟩ := lst_of rl e hp
      exact mt_reverse pins s σ H _ _ v us Q I rx rvs ⟨p, zs, rfl, rfl, k1, Acc.setL a rl e hp (prev r1) rfl⟩
    · exact bad_elim a
  · exact bad_elim a
theorem firstD_ok {d : PyData} : ∀ {ds : List PyData} {j : Nat}, firstD d ds = some j → ∃ z, ds[j]? = some z ∧ PyData.eqv z d = true ∧ ∀ (m : Nat) (z' : PyData), m < j → ds[m]? = some z' → PyData.eqv z' d = false
  | [], _, h => by cases h
  | z :: r, j, h => by
    unfold firstD at h
    split at h
    · rename_i e
      cases h
      exact ⟨z, rfl, e, fun m z' hm => absurd hm (Nat.not_lt_zero _)⟩
    · rename_i e
      obtain ⟨i, h1, h2⟩ := Option.map_eq_some_iff.mp h
      subst h2
      obtain ⟨w, e1, e2, e3⟩ := firstD_ok h1
      refine ⟨w, by simpa using e1, e2, fun m z' hm hz => ?_⟩
      cases m with
      | zero =>
        have : z = z' := by simpa using hz
        subst this
        exact Bool.eq_false_iff.mpr e
      | succ m => exact e3 m z' (by omega) (by simpa using hz)
theorem mm_index (hu : X.A.units + 65 < cLine) : MtR X "list.index" (rMm X.K c wIndex) := by
  intro pins s σ H x' vs' v us Q I rx rvs h
  obtain ⟨R, S, x, vs, W, σ', rl, vx, vr, a⟩ := h
  unfold wIndex at a
  split at a
  · obtain ⟨y', rfl, ry⟩ := vr.one_inv
    split at a
    · rename_i ds d e1 e2
      split at a
      · rename_i hs
        split at a
        · rename_i j ej
          obtain ⟨z, z1, z2, z3⟩ := firstD_ok ej
          have dx := toD_dp rl _ _ _ _ e1 vx
          have ⟨b, eb⟩ : ∃ b, x' = .ref b := by cases dx; exact ⟨_, rfl⟩
          subst eb
          exact mt_indexD hu pins s σ H _ _ v us Q I rx rvs ⟨b, y', d, ds, j, z, rfl, rfl, dx, toD_dp rl _ _ _ _ e2 ry, hs.1, hs.2, z1, z2, z3, Acc.ok' a rl rfl⟩
        · exact bad_elim a
      · exact bad_elim a
    · exact bad_elim a
  · exact bad_elim a
theorem mm_join : MtR X "str.join" (rMm X.K c wJoin) := by
  intro pins s σ H x' vs' v us Q I rx rvs h
  obtain ⟨R, S, x, vs, W, σ', rl, vx, vr, a⟩ := h
  unfold wJoin at a
  split at a
  · obtain rfl := vx
    obtain ⟨y', rfl, p, hp, rfl⟩ := vr.one_inv
    split at a
    · rename_i ys e
      split at a
      · rename_i hl
        obtain ⟨zs, e1, e2⟩ := Option.bind_eq_some_iff.mp e
        obtain ⟨p', ws, hp', r1, k1⟩ := rl.sq e1
        rw [hp] at hp'; cases hp'
        rw [strsOf_eq e2] at r1
        obtain rfl := VRs.flat r1 (flat_map (fun _ => rfl) _)
        exact mt_join pins s σ H _ _ v us Q I rx rvs ⟨_, p, ys, rfl, rfl, k1, hl, Acc.ok' a rl rfl⟩
      · exact bad_elim a
    · exact bad_elim a
  · exact bad_elim a
theorem mm_split : MtR X "str.split" (rMm X.K c wSplit) := by
  intro pins s σ H x' vs' v us Q I rx rvs h
  obtain ⟨R, S, x, vs, W, σ', rl, vx, vr, a⟩ := h
  unfold wSplit at a
  split at a
  · obtain rfl := vx
    obtain ⟨y', rfl, e1⟩ := vr.one_inv
    obtain rfl := e1
    split at a
    · rename_i hl
      refine mt_split pins s σ H _ _ v us Q I rx rvs ⟨_, _, rfl, rfl, ?_, sz_of hl.2, fun l hl => Acc.new a rl hl (OkO.newL ?_ rl) VR.new⟩
      · exact beq_eq_false_iff_ne.mpr hl.1
      · have : ∀ zs : List Str, VRs R (zs.map V.str) (zs.map V.str) := fun zs => by
          induction zs with
          | nil => exact .nil
          | cons z zs ih => exact .cons rfl ih
        exact this _
    · exact bad_elim a
  · exact bad_elim a
/-! ### dicts -/
def mDNew : ME := fun _ S => .ok (.ref S.n) (S.put (.dct []))
theorem se_dnew : SE X c (.Dict [] [] pos) mDNew := PE.imp pe_dnewK fun σ H Q h => by
  obtain ⟨R, S, σa, rl, sr, q⟩ := h
  exact fun p hp => Acc.new q rl hp ⟨[], .nil, upd_same⟩ VR.new
def mPairs : List (ME × ME) → L2.St → Sto → Res (List (V × V))
  | [], _, S => .ok [] S
  | (k, v) :: r, σ, S => (k σ S).bind fun x S1 => (v σ S1).bind fun y S2 => (mPairs r σ S2).bind fun l S3 => .ok ((x, y) :: l) S3
def keysOf : List (V × V) → Option (List (Key × V))
  | [] => some []
  | (x, y) :: r => match keyOf x, keysOf r with
    | some k, some l => some ((k, y) :: l)
    | _, _ => none
def mDisp (ps : List (ME × ME)) : ME := fun σ S => (mPairs ps σ (S.put (.dct []))).bind fun l S2 => match S2.g S.n, keysOf l with
  | some (.dct []), some kvs => if kvs.length ≤ 15 then .ok (.ref S.n) (S2.set S.n (.dct (mergeK [] kvs))) else .bad
  | _, _ => .bad
abbrev relP : Mp → List (V × V) → List (V × V) → Prop := fun R => Paired fun p q => VR R p.1 q.1 ∧ VR R p.2 q.2
def trsOf (K : PySem.W.Frag) (c : Cw) (ps : List (ME × ME)) : List (TE × TE) := ps.map fun p => (tM K c.cA c.xi c.W p.1, tM K c.cA c.xi c.W p.2)
abbrev SPs (X : Cx) (c : Cw) (pos : Pos) (ks : List (Option Expr)) (vs : List Expr) (ps : List (ME × ME)) : Prop := PPs X pos ks vs (trsOf X.K c ps)
theorem sp_nil : SPs X c pos [] [] [] := pps_nil
theorem sp_cons {k v : Expr} {ks : List (Option Expr)} {vs : List Expr} {mk mv : ME} {ps : List (ME × ME)} (hk : SE X c k mk) (hv : SE X c v mv) (hr : SPs X c pos ks vs ps) : SPs X c pos (some k :: ks) (v :: vs) ((mk, mv) :: ps) := pps_cons hk hv hr
theorem pairs_sim {K : PySem.W.Frag} {σ : L2.St} : ∀ {ps : List (ME × ME)} {R : Mp} {S : Sto} {H : Hp} {σa : L2.St} {Q : List (V × V) → Hp → Prop}, Rel K c.cA c.xi R S H → SR R σa σ → Acc K c.cA c.xi relP R c.W σ Q (mPairs ps σa S) → tPairs (trsOf K c ps) σ H Q
  | [], R, S, H, σa, Q, rl, sr, q => Acc.ok' q rl .nil
  | (mk, mv) :: ps, R, S, H, σa, Q, rl, sr, q => by
    refine (tG.next (rel := VR) rl sr q).imp fun x' H1 ⟨R1, S1, x, e1, rl1, vx, q1⟩ => ?_
    refine (tG.next (rel := VR) rl1 (sr.mono e1) q1).imp fun y' H2 ⟨R2, S2, y, e2, rl2, vy, q2⟩ => ?_
    refine pairs_sim rl2 ((sr.mono e1).mono e2) ((Acc.bind (rel := relP) q2).imp fun l' H3 ⟨R3, S3, l, e3, rl3, vl, q3⟩ => ?_)
    exact Acc.ok' q3 rl3 (.cons ⟨(vx.mono e2).mono e3, vy.mono e3⟩ vl)
theorem keysOf_ok {R : Mp} : ∀ {l l' : List (V × V)} {kvs : List (Key × V)}, relP R l l' → keysOf l = some kvs → ∃ kws, l' = kws.map (fun kv => (kV kv.1, kv.2)) ∧ KR R kvs kws
  | [], _, kvs, .nil, h => by cases h; exact ⟨[], rfl, .nil⟩
  | (x, y) :: r, _, kvs, .cons (b := q) (l₂ := l₂) p t, h => by
    have h' : (match keyOf x, keysOf r with
      | some k, some l => some ((k, y) :: l)
      | _, _ => none) = some kvs := h
    cases e1 : keyOf x with
    | none => rw [e1] at h'; cases h'
    | some k =>
      cases e2 : keysOf r with
      | none => rw [e1, e2] at h'; cases h'
      | some l =>
        rw [e1, e2] at h'
        cases h'
        obtain ⟨kws, h1, h2⟩ := keysOf_ok t e2
        obtain ⟨q1, q2⟩ := q
        refine ⟨(k, q2) :: kws, ?_, .cons ⟨rfl, p.2⟩ h2⟩
        have := VR.same (keyOf_flat e1) p.1
        have e3 : q1 = kV k := this.trans (keyOf_kV e1)
        rw [List.map_cons, h1, e3]
theorem KR.repl {R : Mp} {kvs kws : List (Key × V)} (h : KR R kvs kws) (k : Key) {y w : V} (r : VR R y w) : KR R (kvs.map fun kv => if kv.1 = k then (kv.1, y) else kv) (kws.map fun kv => if kv.1 = k then (kv.1, w) else kv) := by
  induction h with
  | nil => exact .nil
  | @cons p q l1 l2 e t ih =>
    rw [List.map_cons, List.map_cons]
    refine .cons ?_ ih
    rw [e.1]
    split
    · exact ⟨rfl, r⟩
    · exact e
theorem KR.put {R : Mp} {kvs kws : List (Key × V)} (h : KR R kvs kws) (k : Key) {y w : V} (r : VR R y w) : KR R (putK kvs k y) (putK kws k w) := by
  have any : (kws.any fun kv => decide (kv.1 = k)) = kvs.any fun kv => decide (kv.1 = k) := by
    rw [valV_any, valV_any, h.isSome]
  unfold putK
  rw [any]
  split
  · exact h.repl k r
  · exact papp h (.cons ⟨rfl, r⟩ .nil)
theorem KR.merge {R : Mp} : ∀ {more mws kvs kws : List (Key × V)}, KR R more mws → KR R kvs kws → KR R (mergeK kvs more) (mergeK kws mws)
  | [], _, kvs, kws, .nil, h => h
  | p :: l, _, kvs, kws, .cons (b := q) e t, h => by
    show KR R (mergeK (putK kvs p.1 p.2) l) (mergeK (putK kws q.1 q.2) _)
    rw [e.1]
    exact KR.merge t (h.put _ e.2)
theorem se_disp {keys : List (Option Expr)} {values : List Expr} {ps : List (ME × ME)} (h : SPs X c pos keys values ps) (hall : keys.all (·.isSome) = true) (hl : keys.length = values.length) (h0 : keys ≠ []) (h15 : keys.length ≤ 15) :
    SE X c (.Dict keys values pos) (mDisp ps) := PE.imp (pe_disp h hall hl h0 h15) fun σ H Q h => by
  obtain ⟨R, S, σa, rl, sr, q⟩ := h
  intro p hp
  have rl2 := rl.put (w := .dK []) (o := .dct []) hp ⟨[], .nil, upd_same⟩
  refine pairs_sim rl2 (sr.mono rl.put_ex) ((Acc.bind (rel := relP) (Acc.mono rl.put_ex q)).imp fun l' H2 ⟨R2, S2, l, e2, rl3, vl, q2⟩ => ?_)
  split at q2
  · rename_i kvs g1 g2
    split at q2
    · rename_i hl
      obtain ⟨kws, h1, h2⟩ := keysOf_ok vl g2
      have hR : R2 S.n = some p := e2 _ _ Mp.put_at
      obtain ⟨p', hp', ys, r1, k1⟩ := rl3.ok _ _ g1
      rw [hR] at hp'; cases hp'
      have : ys = [] := by cases r1; rfl
      subst this
      refine ⟨k1, kws, h1, by rw [← Paired.length h2]; exact hl, ?_⟩
      refine q2 _ _ _ (Mp.ex.refl _) (rl3.set g1 rfl hR ⟨_, KR.merge h2 .nil, upd_same⟩) ⟨p, hR, rfl⟩
    · exact bad_elim q2
  · exact bad_elim q2
end
end Mm

namespace Mm
open PySem L2
/-! ### statements -/
inductive RS where
  | nx (σ : L2.St) (S : Sto) | rt (v : V) (S : Sto) | bk (σ : L2.St) (S : Sto) | ct (σ : L2.St) (S : Sto) | exc (c : Str) (d : Nat) (σ : L2.St) (S : Sto) | bad
abbrev MS := L2.St → Sto → RS
def Res.toS {α : Type} (r : Res α) (σ : L2.St) (k : α → Sto → RS) : RS := match r with
  | .ok a S => k a S
  | .exc c d S => .exc c d σ S
  | .bad => .bad
section
variable (K : PySem.W.Frag) (cA : Str → Addr) (xi : Xi) (W : WX)
def AccS (R : Mp) (D : Ends) : RS → Prop
  | .nx σ S => ∀ R' H σc, R.ex R' → Rel K cA xi R' S H → SR R' σ σc → D.nx σc H
  | .rt v S => ∀ R' H w, R.ex R' → Rel K cA xi R' S H → VR R' v w → D.rt w H
  | .bk σ S => ∀ R' H σc, R.ex R' → Rel K cA xi R' S H → SR R' σ σc → D.bk σc H
  | .ct σ S => ∀ R' H σc, R.ex R' → Rel K cA xi R' S H → SR R' σ σc → D.ct σc H
  | .exc c d σ S => ∀ R' H σc p, R.ex R' → Rel K cA xi R' S H → SR R' σ σc → R' d = some p → W (.ref (cA c)) (some p) σc H
  | .bad => False
def tS (m : MS) : TS := fun D σ H => ∃ R S σa, Rel K cA xi R S H ∧ SR R σa σ ∧ AccS K cA xi W R D (m σa S)
end
abbrev SS (X : Cx) (c : Cw) (st : Stmt) (m : MS) : Prop := PS X st (tS X.K c.cA c.xi c.W m)
abbrev SSs (X : Cx) (c : Cw) (st : List Stmt) (m : MS) : Prop := PSs X st (tS X.K c.cA c.xi c.W m)
section
variable {K : PySem.W.Frag} {cA : Str → Addr} {xi : Xi} {W : WX} {R R' : Mp} {S : Sto} {H : Hp} {D : Ends} {σ : L2.St}
theorem AccS.mono {r : RS} (e : R.ex R') (h : AccS K cA xi W R D r) : AccS K cA xi W R' D r := by
  cases r with
  | nx σ S => exact fun R2 H b e2 rl v => h R2 H b (e.trans e2) rl v
  | rt σ S => exact fun R2 H b e2 rl v => h R2 H b (e.trans e2) rl v
  | bk σ S => exact fun R2 H b e2 rl v => h R2 H b (e.trans e2) rl v
  | ct σ S => exact fun R2 H b e2 rl v => h R2 H b (e.trans e2) rl v
  | exc c d σ S => exact fun R2 H b p e2 rl v => h R2 H b p (e.trans e2) rl v
  | bad => exact h
/-- an expression, then a statement's rest -/
theorem tS.step {α β : Type} {rel : Mp → α → β → Prop} {m : L2.St → Sto → Res α} {k : L2.St → α → Sto → RS}
    (h : tS K cA xi W (fun σ S => (m σ S).toS σ (k σ)) D σ H) : tG K cA xi W rel m σ H (fun b H1 => ∃ R S σa a, Rel K cA xi R S H1 ∧ SR R σa σ ∧ rel R a b ∧ AccS K cA xi W R D (k σa a S)) := by
  obtain ⟨R, S, σa, rl, sr, q⟩ := h
  refine ⟨R, S, σa, rl, sr, ?_⟩
  have q : AccS K cA xi W R D ((m σa S).toS σa (k σa)) := q
  cases e : m σa S with
  | ok a S1 => rw [e] at q; exact fun R' H b ex rl' v => ⟨R', S1, σa, a, rl', sr.mono ex, v, AccS.mono ex q⟩
  | exc c d S1 => rw [e] at q; exact fun R' H p ex rl' v => q R' H σ p ex rl' (sr.mono ex) v
  | bad => rw [e] at q; exact q
theorem tS.next {α β : Type} {rel : Mp → α → β → Prop} {m : L2.St → Sto → Res α} {k : α → Sto → RS} {σa : L2.St}
    (rl : Rel K cA xi R S H) (sr : SR R σa σ) (q : AccS K cA xi W R D ((m σa S).toS σa k)) : tG K cA xi W rel m σ H (fun b H1 => ∃ R' S1 a, R.ex R' ∧ Rel K cA xi R' S1 H1 ∧ rel R' a b ∧ AccS K cA xi W R' D (k a S1)) := by
  refine ⟨R, S, σa, rl, sr, ?_⟩
  cases e : m σa S with
  | ok a S1 => rw [e] at q; exact fun R' H b ex rl' v => ⟨R', S1, a, ex, rl', v, AccS.mono ex q⟩
  | exc c d S1 => rw [e] at q; exact fun R' H p ex rl' v => q R' H σ p ex rl' (sr.mono ex) v
  | bad => rw [e] at q; exact q
theorem AccS.nx' {σa : L2.St} (q : AccS K cA xi W R D (.nx σa S)) (rl : Rel K cA xi R S H) (sr : SR R σa σ) : D.nx σ H := q R H σ (Mp.ex.refl R) rl sr
theorem AccS.rt' {v w : V} (q : AccS K cA xi W R D (.rt v S)) (rl : Rel K cA xi R S H) (r : VR R v w) : D.rt w H := q R H w (Mp.ex.refl R) rl r
end
section
variable {X : Cx} {c : Cw} {pos : Pos} {e : Expr} {m : ME} {st : Stmt} {rest : List Stmt} {a b : MS}
def mNext : MS := fun σ S => .nx σ S
def mSeq (a b : MS) : MS := fun σ S => match a σ S with
  | .nx σ' S' => b σ' S'
  | r => r
theorem sss_nil : SSs X c [] mNext := PSs.imp pss_nil fun D σ H h => by
  obtain ⟨R, S, σa, rl, sr, q⟩ := h
  exact q.nx' rl sr
theorem sss_one (h : SS X c st a) : SSs X c [st] a := pss_one h
theorem sss_cons (h1 : SS X c st a) (h2 : SSs X c rest b) : SSs X c (st :: rest) (mSeq a b) := PSs.imp (pss_cons h1 h2) fun D σ H h => by
  obtain ⟨R, S, σa, rl, sr, q⟩ := h
  refine ⟨R, S, σa, rl, sr, ?_⟩
  unfold mSeq at q
  cases e : a σa S with
  | nx σ' S' => rw [e] at q; exact fun R' H σc ex rl' sr' => ⟨R', S', σ', rl', sr', AccS.mono ex q⟩
  | rt v S' => rw [e] at q; exact q
  | bk σ' S' => rw [e] at q; exact q
  | ct σ' S' => rw [e] at q; exact q
  | exc c d σ' S' => rw [e] at q; exact q
  | bad => rw [e] at q; exact q
theorem ss_pass : SS X c (.Pass pos) mNext := PS.imp ps_pass fun D σ H h => by
  obtain ⟨R, S, σa, rl, sr, q⟩ := h
  exact q.nx' rl sr
theorem ss_doc {x j pos'} : SS X c (.Expr (.Constant (.str x) j pos) pos') mNext := PS.imp ps_doc fun D σ H h => by
  obtain ⟨R, S, σa, rl, sr, q⟩ := h
  exact q.nx' rl sr
def mBreak : MS := fun σ S => .bk σ S
def mCont : MS := fun σ S => .ct σ S
theorem ss_break : SS X c (.Break pos) mBreak := PS.imp ps_break fun D σ H h => by
  obtain ⟨R, S, σa, rl, sr, q⟩ := h
  exact q R H σ (Mp.ex.refl R) rl sr
theorem ss_continue : SS X c (.Continue pos) mCont := PS.imp ps_continue fun D σ H h => by
  obtain ⟨R, S, σa, rl, sr, q⟩ := h
  exact q R H σ (Mp.ex.refl R) rl sr
def mDrop (m : ME) : MS := fun σ S => (m σ S).toS σ fun _ S1 => .nx σ S1
theorem ss_expr (he : SE X c e m) (hs : swapsWith e none pos.line X.env = pure false := by rfl) : SS X c (.Expr e pos) (mDrop m) := PS.imp (ps_expr he hs) fun D σ H h => by
  refine (tS.step (rel := VR) (k := fun σ _ S1 => .nx σ S1) h).imp fun x' H1 ⟨R, S, σa, x, rl, sr, vx, q⟩ => q.nx' rl sr
def mRet (m : ME) : MS := fun σ S => (m σ S).toS σ fun v S1 => .rt v S1
theorem ss_ret (he : SE X c e m) : SS X c (.Return (some e) pos) (mRet m) := PS.imp (ps_ret he) fun D σ H h => by
  refine (tS.step (rel := VR) (k := fun _ v S1 => .rt v S1) h).imp fun x' H1 ⟨R, S, σa, x, rl, sr, vx, q⟩ => q.rt' rl vx
def mRetN : MS := fun _ S => .rt .non S
theorem ss_retN : SS X c (.Return none pos) mRetN := PS.imp ps_retN fun D σ H h => by
  obtain ⟨R, S, σa, rl, sr, q⟩ := h
  exact q.rt' rl rfl
def mIf (t : MT) (a b : MS) : MS := fun σ S => (t σ S).toS σ fun k S1 => if k = true then a σ S1 else b σ S1
theorem ss_if {d : Expr} {t : MT} {sa sb : List Stmt} (ht : ST X c d t) (ha : SSs X c sa a) (hb : SSs X c sb b) : SS X c (.If d sa sb pos) (mIf t a b) := PS.imp (ps_if ht ha hb) fun D σ H h => by
  refine (tS.step (rel := relB) (k := fun σ k S1 => if k = true then a σ S1 else b σ S1) h).imp fun x' H1 ⟨R, S, σa, x, rl, sr, vx, q⟩ => ?_
  obtain rfl := vx
  cases x' with
  | true => rw [if_pos rfl] at q ⊢; exact ⟨R, S, σa, rl, sr, q⟩
  | false => rw [if_neg (by decide)] at q ⊢; exact ⟨R, S, σa, rl, sr, q⟩
def mSet (i : Nat) (m : ME) : MS := fun σ S => (m σ S).toS σ fun v S1 => .nx (σ.set i (some v)) S1
theorem sr_set {R : Mp} {σa σ : L2.St} {i : Nat} {v w : V} (sr : SR R σa σ) (r : VR R v w) : SR R (σa.set i (some v)) (σ.set i (some w)) := pset (F := OR R) (x := some v) (y := some w) (show ∃ u, some w = some u ∧ VR R v u from ⟨w, rfl, r⟩) i sr
theorem ss_set {i : Nat} {x : Str} {pos' : Pos} (hN : X.N.Nodup) (hi : X.N[i]? = some x) (hx : Loc X.env.scope x) (he : SE X c e m) (hs : swapsWith e (some (.Name x pos')) pos.line X.env = pure false := by rfl)
    (hf : X.fn x = true ∨ X.env.scope.names.lookup x = some .local := by first | exact .inl rfl | exact .inr rfl | assumption) : SS X c (.Assign [.Name x pos'] e pos) (mSet i m) := PS.imp (ps_set hN hi hx he hs hf) fun D σ H h => by
  refine (tS.step (rel := VR) (k := fun σ v S1 => .nx (σ.set i (some v)) S1) h).imp fun x' H1 ⟨R, S, σa, x, rl, sr, vx, q⟩ => ?_
  exact q.nx' rl (sr_set sr vx)
/-! targets: a name; a tuple of names -/
inductive Tgt where
  | nm (i : Nat) | tup (is : List Nat)
def gAll : List Nat → TGs
  | [] => gNil
  | i :: r => gCons (gName i) (gAll r)
def Tgt.g (K : PySem.W.Frag) : Tgt → TG
  | .nm i => gName i
  | .tup is => gTup K is.length (gAll is)
def setAll : List Nat → List V → L2.St → L2.St
  | i :: is, v :: vs, σ => setAll is vs (σ.set i (some v))
  | _, _, σ => σ
def Tgt.mm : Tgt → V → L2.St → Sto → Option L2.St
  | .nm i, v, σ, _ => some (σ.set i (some v))
  | .tup is, .ref a, σ, S => match S.tp a with
    | some xs => if xs.length = is.length then some (setAll is xs σ) else none
    | none => none
  | _, _, _, _ => none
def Tgt.own : Tgt → List Nat
  | .nm i => [i]
  | .tup is => is
theorem wipe_set {σ : L2.St} {i : Nat} {v : Option V} : ∀ {vs : List Nat}, i ∈ vs → wipe (σ.set i v) vs = wipe σ vs
  | j :: vs, h => by
    unfold wipe
    by_cases hi : i ∈ vs
    · rw [wipe_set hi]
    · have e : i = j := by rcases List.mem_cons.mp h with h | h; exact h; exact absurd h hi
      subst e
      have : ∀ {vs : List Nat} {τ : L2.St}, i ∉ vs → wipe (τ.set i v) vs = (wipe τ vs).set i v := by
        intro vs
        induction vs with
        | nil => intro τ _; rfl
        | cons k vs ih =>
          intro τ hk
          unfold wipe
          rw [ih (fun z => hk (List.mem_cons_of_mem _ z)), List.set_comm]
          intro z; subst z; exact hk List.mem_cons_self
      rw [this hi, List.set_set]
theorem setAll_wipe {vs : List Nat} : ∀ {is : List Nat} {xs : List V} {σ : L2.St}, (∀ i ∈ is, i ∈ vs) → wipe (setAll is xs σ) vs = wipe σ vs
  | [], _, σ, _ => by unfold setAll; rfl
  | i :: is, [], σ, _ => by unfold setAll; rfl
  | i :: is, v :: xs, σ, h => by
    show wipe (setAll is xs (σ.set i (some v))) vs = wipe σ vs
    rw [setAll_wipe fun j hj => h j (List.mem_cons_of_mem _ hj), wipe_set (h i List.mem_cons_self)]
theorem setAll_sr {R : Mp} : ∀ {is : List Nat} {xs ys : List V} {σa σ : L2.St}, SR R σa σ → VRs R xs ys → SR R (setAll is xs σa) (setAll is ys σ)
  | [], _, _, _, _, sr, _ => by unfold setAll; exact sr
  | i :: is, [], [], _, _, sr, _ => by unfold setAll; exact sr
  | i :: is, x :: xs, y :: ys, σa, σ, sr, .cons r t => setAll_sr (is := is) (sr_set sr r) t
theorem gAll_of {Q : L2.St → Hp → Prop} {H : Hp} : ∀ {is : List Nat} {ys : List V} {σ : L2.St}, ys.length = is.length → Q (setAll is ys σ) H → gAll is ys σ H Q
  | [], [], σ, _, q => ⟨rfl, q⟩
  | i :: is, y :: ys, σ, h, q => ⟨y, ys, rfl, gAll_of (is := is) (by simpa using h) q⟩
theorem Tgt.sim {K : PySem.W.Frag} {cA : Str → Addr} {xi : Xi} {R : Mp} {S : Sto} {H : Hp} {t : Tgt} {v w : V} {σa σ τ : L2.St} (rl : Rel K cA xi R S H) (sr : SR R σa σ) (r : VR R v w) (h : t.mm v σa S = some τ) :
    ∃ τc, SR R τ τc ∧ (∀ vs, (∀ i ∈ t.own, i ∈ vs) → wipe τc vs = wipe σ vs) ∧ ∀ Q : L2.St → Hp → Prop, Q τc H → t.g K w σ H Q := by
  cases t with
  | nm i =>
    cases h
    exact ⟨_, sr_set sr r, fun vs hv => wipe_set (hv i List.mem_cons_self), fun Q q => q⟩
  | tup is =>
    cases v with
    | ref a =>
      have h' : (match S.tp a with
        | some xs => if xs.length = is.length then some (setAll is xs σa) else none
        | none => none) = some τ := h
      cases e : S.tp a with
      | none => rw [e] at h'; cases h'
      | some xs =>
        rw [e] at h'
        have h2 : (if xs.length = is.length then some (setAll is xs σa) else none) = some τ := h'
        split at h2
        · rename_i hl
          cases h2
          obtain ⟨p, hp, rfl⟩ := r
          obtain ⟨p', ys, hp', r1, k1⟩ := rl.tp e
          rw [hp] at hp'; cases hp'
          exact ⟨setAll is ys σ, setAll_sr sr r1, fun vs hv => setAll_wipe hv, fun Q q => ⟨p, ys, rfl, k1, by rw [← r1.len]; exact hl, gAll_of (by rw [← r1.len]; exact hl) q⟩⟩
        · cases h2
    | _ => cases h
abbrev SG (X : Cx) (tg : Expr) (t : Tgt) : Prop := PG X tg (t.g X.K)
theorem sg_name {i : Nat} {x : Str} (hN : X.N.Nodup) (hi : X.N[i]? = some x) (hx : Loc X.env.scope x) (hf : X.fn x = true ∨ X.env.scope.names.lookup x = some .local := by first | exact .inl rfl | exact .inr rfl | assumption) : SG X (.Name x pos) (.nm i) := pg_name hN hi hx hf
theorem sg_tup {es : List Expr} {k : Nat} {is : List Nat} (hc : X.calm = true) (h : PGs X es (gAll is)) (hn : (assignEach es X.env).length = is.length := by rfl) (hst : (assignEach es X.env).findIdx? (·.1) = none := by rfl) : SG X (.Tuple es k pos) (.tup is) := pg_tup hc h hn hst
theorem sgs_nil : PGs X [] (gAll []) := pgs_nil
theorem sgs_cons {i : Nat} {is : List Nat} {e : Expr} {es : List Expr} (h1 : SG X e (.nm i)) (h2 : PGs X es (gAll is)) (hs : (assignEach (e :: es) X.env).map (·.2) = assign e X.env :: (assignEach es X.env).map (·.2) := by rfl) : PGs X (e :: es) (gAll (i :: is)) := pgs_cons h1 h2 hs
def mAsg (m : ME) (t : Tgt) : MS := fun σ S => (m σ S).toS σ fun v S1 => match t.mm v σ S1 with
  | some τ => .nx τ S1
  | none => .bad
theorem ss_asg {tg : Expr} {t : Tgt} (he : SE X c e m) (hg : SG X tg t) (hs : swapsWithSole [tg] e pos.line X.env = pure false := by rfl) (hw : swappedStores [tg] e X.env = pure none := by rfl)
    (h1 : (assignEach [tg] X.env).map (·.2) = [assign tg X.env] := by rfl) : SS X c (.Assign [tg] e pos) (mAsg m t) := PS.imp (ps_asg he hg hs hw h1) fun D σ H h => by
  refine (tS.step (rel := VR) (k := fun σ v S1 => match t.mm v σ S1 with
  | some τ => .nx τ S1
  | none => .bad) h).imp fun x' H1 ⟨R, S, σa, x, rl, sr, vx, q⟩ => ?_
  split at q
  · rename_i τ et
    obtain ⟨τc, s1, _, s3⟩ := Tgt.sim rl sr vx et
    exact s3 _ (q.nx' rl s1)
  · exact (show False from q).elim
/-- a, b = x, y by names alone -/
def mPar (is : List Nat) (t : MA) : MS := fun σ S => (t σ S).toS σ fun vs S1 => if vs.length = is.length then .nx (setAll is vs σ) S1 else .bad
theorem ss_par {i j : Nat} {x y : Str} {a b : Expr} {ta : MA} {px py pt : Pos} {kt k2 pt2} (hc : X.calm = true) (hN : X.N.Nodup) (hi : X.N[i]? = some x) (hj : X.N[j]? = some y) (hij : i ≠ j)
    (hx : X.env.scope.names.lookup x = some .local) (hy : X.env.scope.names.lookup y = some .local) (ha : SA X c [a, b] ta)
    (hw : swappedStores [.Tuple [.Name x px, .Name y py] kt pt] (.Tuple [a, b] k2 pt2) X.env = pure (some [x, y]))
    (hs : swapsWithSole [.Tuple [.Name x px, .Name y py] kt pt] (.Tuple [a, b] k2 pt2) pos.line X.env = pure false := by rfl) :
    SS X c (.Assign [.Tuple [.Name x px, .Name y py] kt pt] (.Tuple [a, b] k2 pt2) pos) (mPar [i, j] ta) := PS.imp (L2.ps_par hc hN hi hj hij hx hy ha hw hs) fun D σ H h => by
  refine (tS.step (rel := VRs) (k := fun σ vs S1 => if vs.length = [i, j].length then .nx (setAll [i, j] vs σ) S1 else .bad) h).imp fun x' H1 ⟨R, S, σa, x, rl, sr, vx, q⟩ => ?_
  split at q
  · rename_i hl
    match x, vx with
    | [u, v], .cons r1 (.cons r2 .nil) =>
      exact ⟨_, _, rfl, q.nx' rl (sr_set (sr_set sr r1) r2)⟩
  · exact (show False from q).elim
theorem ss_par3 {i j l : Nat} {x y z : Str} {a b d : Expr} {ta : MA} {px py pz pt pos : Pos} {kt k2 pt2} (hc : X.calm = true) (hN : X.N.Nodup) (hi : X.N[i]? = some x) (hj : X.N[j]? = some y) (hl : X.N[l]? = some z) (hij : i ≠ j) (hil : i ≠ l) (hjl : j ≠ l)
    (hx : X.env.scope.names.lookup x = some .local) (hy : X.env.scope.names.lookup y = some .local) (hz : X.env.scope.names.lookup z = some .local) (ha : SA X c [a, b, d] ta)
    (hw : swappedStores [.Tuple [.Name x px, .Name y py, .Name z pz] kt pt] (.Tuple [a, b, d] k2 pt2) X.env = pure (some [x, y, z]))
    (hs : swapsWithSole [.Tuple [.Name x px, .Name y py, .Name z pz] kt pt] (.Tuple [a, b, d] k2 pt2) pos.line X.env = pure false := by rfl) :
    SS X c (.Assign [.Tuple [.Name x px, .Name y py, .Name z pz] kt pt] (.Tuple [a, b, d] k2 pt2) pos) (mPar [i, j, l] ta) := PS.imp (L2.ps_par3 hc hN hi hj hl hij hil hjl hx hy hz ha hw hs) fun D σ H h => by
  refine (tS.step (rel := VRs) (k := fun σ vs S1 => if vs.length = [i, j, l].length then .nx (setAll [i, j, l] vs σ) S1 else .bad) h).imp fun x' H1 ⟨R, S, σa, x, rl, sr, vx, q⟩ => ?_
  split at q
  · rename_i hl
    match x, vx with
    | [u, v, w], .cons r1 (.cons r2 (.cons r3 .nil)) =>
      exact ⟨_, _, _, rfl, q.nx' rl (sr_set (sr_set (sr_set sr r1) r2) r3)⟩
  · exact (show False from q).elim
/-! o[i] = v -/
def vPut (o i v : V) (S : Sto) : Res Unit := match o with
  | .ref a => match S.g a with
    | some (.lst xs) => match i with
      | .int k => match ixN xs.length k with
        | some j => .ok () (S.set a (.lst (xs.set j v)))
        | none => .bad
      | _ => .bad
    | some (.dct kvs) => match keyOf i with
      | some k => if kvs.length < sz then .ok () (S.set a (.dct (putK kvs k v))) else .bad
      | none => .bad
    | _ => .bad
  | _ => .bad
def mPut (m o i : ME) : MS := fun σ S => (m σ S).toS σ fun v S1 => (o σ S1).toS σ fun x S2 => (i σ S2).toS σ fun y S3 => (vPut x y v S3).toS σ fun _ S4 => .nx σ S4
def rPutM (K : PySem.W.Frag) (c : Cw) : TSet := fun o' i' v' H Q => ∃ R S o i v σa σ W D, Rel K c.cA c.xi R S H ∧ VR R o o' ∧ VR R i i' ∧ VR R v v' ∧ SR R σa σ ∧ AccS K c.cA c.xi W R D ((vPut o i v S).toS σa fun _ S4 => .nx σa S4) ∧ (∀ H', D.nx σ H' → Q H')
theorem pset_M (hu : X.A.units + 1 < cLine) : PSet X (rPutM X.K c) := by
  intro pins s σ H o' i' v' ov iv u Q I ro ri rv h
  obtain ⟨R, S, o, i, v, σa, σc, W, D, rl, vo, vi, vv, sr, q, k⟩ := h
  cases o with
  | ref a =>
    obtain ⟨p, hp, rfl⟩ := vo
    simp only [vPut] at q
    split at q
    · rename_i xs e
      obtain ⟨ys, r1, k1⟩ := lst_of rl e hp
      split at q
      · rename_i z
        obtain rfl := vi
        split at q
        · rename_i j ej
          refine set_list pins s σ H _ _ _ ov iv u Q I ro ri rv ⟨p, ys, z, j, rfl, rfl, k1, by rw [← r1.len]; exact ej, k _ ?_⟩
          exact q R _ σc (Mp.ex.refl R) (rl.set e rfl hp ⟨_, pset vv _ r1, upd_same⟩) sr
        · exact (show False from q).elim
      · exact (show False from q).elim
    · rename_i kvs e
      obtain ⟨p', hp', kws, r1, k1⟩ := rl.ok _ _ e
      rw [hp] at hp'; cases hp'
      split at q
      · rename_i key ek
        obtain rfl := VR.same (keyOf_flat ek) vi
        split at q
        · rename_i hl
          cases (show ov = Value.ref p from ro)
          have hk := keyOf_kV ek
          subst hk
          refine d_setItem hu I (DPut.k (v := v') k1 (by rw [← Paired.length r1]; exact sz_lt hl)) ri rv fun s' J => ⟨_, J, k _ ?_⟩
          exact q R _ σc (Mp.ex.refl R) (rl.set e rfl hp ⟨_, r1.put _ vv, upd_same⟩) sr
        · exact (show False from q).elim
      · exact (show False from q).elim
    · exact (show False from q).elim
  | _ => exact (show False from q).elim
theorem ss_put {o i : Expr} {mo mi : ME} {pos' : Pos} (hu : X.A.units + 1 < cLine) (he : SE X c e m) (ho : SE X c o mo) (hi : SE X c i mi)
    (ha : ∀ v, assign (.Subscript o i pos') X.env v = (do
      let ov ← holding [v] (eval o X.env)
      let iv ← holding [v, ov] (eval i X.env)
      standAt pos'
      holding [v, ov, iv] (setItem ov iv v)
      release [v, ov, iv] []) := by intro _; rfl)
    (hs : swapsWithSole [.Subscript o i pos'] e pos.line X.env = pure false := by rfl) (hw : swappedStores [.Subscript o i pos'] e X.env = pure none := by rfl)
    (h1 : (assignEach [.Subscript o i pos'] X.env).map (·.2) = [assign (.Subscript o i pos') X.env] := by rfl) : SS X c (.Assign [.Subscript o i pos'] e pos) (mPut m mo mi) :=
  PS.imp (ps_asg he (pg_sub ho hi (pset_M (c := c) hu) ha) hs hw h1) fun D σ H h => by
    refine (tS.step (rel := VR) (k := fun σ v S1 => (mo σ S1).toS σ fun x S2 => (mi σ S2).toS σ fun y S3 => (vPut x y v S3).toS σ fun _ S4 => .nx σ S4) h).imp fun v' H1 ⟨R, S, σa, v, rl, sr, vv, q⟩ => ?_
    refine (tS.next (rel := VR) rl sr q).imp fun o' H2 ⟨R2, S2, o, e2, rl2, vo, q2⟩ => ?_
    refine (tS.next (rel := VR) rl2 (sr.mono e2) q2).imp fun i' H3 ⟨R3, S3, i, e3, rl3, vi, q3⟩ => ?_
    exact ⟨R3, S3, o, i, v, σa, σ, c.W, D, rl3, vo.mono e3, vi, (vv.mono e2).mono e3, (sr.mono e2).mono e3, q3, fun H' z => z⟩
end
end Mm

namespace Mm
open PySem L2
/-! ### while -/
def mWhile (t : MT) (b : MS) : Nat → MS
  | 0, _, _ => .bad
  | n + 1, σ, S => (t σ S).toS σ fun k S1 => if k = true then (match b σ S1 with
    | .nx σ' S' | .ct σ' S' => mWhile t b n σ' S'
    | .bk σ' S' => .nx σ' S'
    | r => r) else .nx σ S1
/-! ### what is walked -/
inductive Yd where
  | one (v : V) | tup (vs : List V)
structure Src where
  items : List Yd
  ok : Sto → Bool
abbrev MI := L2.St → Sto → Res Src
def YOk (R : Mp) (y : Yd) (v' : V) (H H' : Hp) : Prop := match y with
  | .one v => H' = H ∧ VR R v v'
  | .tup vs => ∃ p ws, v' = .ref p ∧ H p = none ∧ H' = upd H p (.tup ws) ∧ VRs R vs ws
structure Drv (K : PySem.W.Frag) (cA : Str → Addr) (xi : Xi) (R0 : Mp) (s : Src) (J : It) : Prop where
  stop : ∀ R S H, R0.ex R → Rel K cA xi R S H → s.ok S = true → J.stop s.items.length H
  go : ∀ R S H i, R0.ex R → Rel K cA xi R S H → s.ok S = true → i < s.items.length → J.go i H
  yld : ∀ R S H i y v' H', R0.ex R → Rel K cA xi R S H → s.ok S = true → s.items[i]? = some y → J.yld i H v' H' → YOk R y v' H H'
def Yd.pull : Yd → Sto → V × Sto
  | .one v, S => (v, S)
  | .tup vs, S => (.ref S.n, S.put (.tup vs))
theorem YOk.pull {K : PySem.W.Frag} {cA : Str → Addr} {xi : Xi} {R : Mp} {S : Sto} {H H' : Hp} {y : Yd} {v' : V} (rl : Rel K cA xi R S H) (h : YOk R y v' H H') : ∃ R', R.ex R' ∧ Rel K cA xi R' (y.pull S).2 H' ∧ VR R' (y.pull S).1 v' := by
  cases y with
  | one v => obtain ⟨rfl, r⟩ := h; exact ⟨R, Mp.ex.refl R, rl, r⟩
  | tup vs =>
    obtain ⟨p, ws, rfl, hp, rfl, r⟩ := h
    exact ⟨_, rl.put_ex, rl.put hp (OkO.newT r rl), VR.new⟩
def forGo (ok : Sto → Bool) (t : Tgt) (b : MS) : List Yd → MS
  | [], σ, S => if ok S = true then .nx σ S else .bad
  | y :: r, σ, S => if ok S = true then (match t.mm (y.pull S).1 σ (y.pull S).2 with
    | some τ => (match b τ (y.pull S).2 with
      | .nx σ' S' | .ct σ' S' => forGo ok t b r σ' S'
      | .bk σ' S' => .nx σ' S'
      | q => q)
    | none => .bad) else .bad
def mFor (ms : MI) (t : Tgt) (b : MS) : MS := fun σ S => (ms σ S).toS σ fun s S1 => forGo s.ok t b s.items σ S1
section
variable {X : Cx} {c : Cw} {pos : Pos}
abbrev relI (K : PySem.W.Frag) (c : Cw) : Mp → Src → It → Prop := fun R s J => Drv K c.cA c.xi R s J
abbrev SI (X : Cx) (c : Cw) (tg iter : Expr) (ms : MI) : Prop := PI X tg iter (tG X.K c.cA c.xi c.W (relI X.K c) ms)
theorem PI.imp {X : Cx} {tg iter : Expr} {t t' : TI} (h : PI X tg iter t) (i : ∀ σ H R, t' σ H R → t σ H R) : PI X tg iter t' := ⟨fun pins s σ H R I q => h.run pins s σ H R I (i _ _ _ q)⟩
theorem ss_while {d : Expr} {body : List Stmt} {t : MT} {b : MS} (n : Nat) (hp : PassesOwn (model X.prog X.w) X.A X.env X.xe) (hc : ST X c d t) (hb : SSs X c body b) : SS X c (.While d body [] pos) (mWhile t b n) :=
  PS.imp (ps_while hp hc hb) fun D σ H h => by
    refine ⟨fun m σ H => ∃ R S σa, Rel X.K c.cA c.xi R S H ∧ SR R σa σ ∧ AccS X.K c.cA c.xi c.W R D (mWhile t b m σa S), ⟨n, h⟩, ?_⟩
    rintro m σ H ⟨R, S, σa, rl, sr, q⟩
    cases m with
    | zero => exact (show False from q).elim
    | succ m =>
      refine (tS.next (rel := relB) rl sr q).imp fun k' H1 ⟨R1, S1, k, e1, rl1, vk, q1⟩ => ?_
      obtain rfl := vk
      cases k' with
      | false => rw [if_neg (by decide)] at q1 ⊢; exact q1.nx' rl1 (sr.mono e1)
      | true =>
        rw [if_pos rfl] at q1 ⊢
        refine ⟨fun σ H => ∃ R S σa, Rel X.K c.cA c.xi R S H ∧ SR R σa σ ∧ AccS X.K c.cA c.xi c.W R D (mWhile t b m σa S), fun σ' H' z => ⟨m, Nat.lt_succ_self m, z⟩, R1, S1, σa, rl1, sr.mono e1, ?_⟩
        cases e : b σa S1 with
        | nx σ' S' => rw [e] at q1; exact fun R' H σc ex rl' sr' => ⟨R', S', σ', rl', sr', AccS.mono ex q1⟩
        | ct σ' S' => rw [e] at q1; exact fun R' H σc ex rl' sr' => ⟨R', S', σ', rl', sr', AccS.mono ex q1⟩
        | bk σ' S' => rw [e] at q1; exact q1
        | rt v S' => rw [e] at q1; exact q1
        | exc a d σ' S' => rw [e] at q1; exact q1
        | bad => rw [e] at q1; exact q1
theorem ss_for {tg iter : Expr} {body : List Stmt} {ms : MI} {t : Tgt} {b : MS} (hp : PassesOwn (model X.prog X.w) X.A X.env X.xe) (hc : X.calm = true) (hi : SI X c tg iter ms) (hg : SG X tg t) (hb : SSs X c body b)
    (hs : ∀ x, foldedSetIterable iter X.env x = pure x := by intro _; rfl) : SS X c (.For tg iter body [] pos) (mFor ms t b) := PS.imp (ps_for hp hc hi hg hb hs) fun D σ H h => by
  refine (tS.step (rel := relI X.K c) (k := fun σ s S1 => forGo s.ok t b s.items σ S1) h).imp fun J H1 ⟨R0, S0, σ0, s, rl0, sr0, dv, q0⟩ => ?_
  refine ⟨fun i m σ H => m = s.items.length - i ∧ i ≤ s.items.length ∧ ∃ R S σa, R0.ex R ∧ Rel X.K c.cA c.xi R S H ∧ SR R σa σ ∧ AccS X.K c.cA c.xi c.W R D (forGo s.ok t b (s.items.drop i) σa S), ⟨s.items.length, by simp, Nat.zero_le _, R0, S0, σ0, Mp.ex.refl _, rl0, sr0, q0⟩, ?_⟩
  rintro i m σ H ⟨rfl, hi, R, S, σa, ex, rl, sr, q⟩
  by_cases hlt : i < s.items.length
  · have ed := List.drop_eq_getElem_cons hlt
    rw [ed] at q
    unfold forGo at q
    split at q
    · rename_i hok
      refine .inr ⟨dv.go R S H i ex rl hok hlt, fun σ H => ∃ R S σa, R0.ex R ∧ Rel X.K c.cA c.xi R S H ∧ SR R σa σ ∧ AccS X.K c.cA c.xi c.W R D (forGo s.ok t b (s.items.drop (i + 1)) σa S), fun σ' H' p' => ⟨s.items.length - (i + 1), by omega, rfl, hlt, p'⟩, fun x H' y => ?_⟩
      have yo := dv.yld R S H i _ x H' ex rl hok (List.getElem?_eq_getElem hlt) y
      obtain ⟨R1, ex1, rl1, vx⟩ := yo.pull rl
      split at q
      · rename_i τ et
        obtain ⟨τc, s1, _, s3⟩ := Tgt.sim rl1 (sr.mono ex1) vx et
        refine s3 _ ⟨R1, _, τ, rl1, s1, ?_⟩
        have q := AccS.mono ex1 q
        cases e : b τ (s.items[i].pull S).2 with
        | nx σ' S' => rw [e] at q; exact fun R' H σc ex' rl' sr' => ⟨R', S', σ', (ex.trans ex1).trans ex', rl', sr', AccS.mono ex' q⟩
        | ct σ' S' => rw [e] at q; exact fun R' H σc ex' rl' sr' => ⟨R', S', σ', (ex.trans ex1).trans ex', rl', sr', AccS.mono ex' q⟩
        | bk σ' S' => rw [e] at q; exact q
        | rt v S' => rw [e] at q; exact q
        | exc a d σ' S' => rw [e] at q; exact q
        | bad => rw [e] at q; exact q
      · exact (show False from q).elim
    · exact (show False from q).elim
  · have e : i = s.items.length := by omega
    subst e
    rw [List.drop_length] at q
    unfold forGo at q
    split at q
    · rename_i hok
      exact .inl ⟨dv.stop R S H ex rl hok, q.nx' rl sr⟩
    · exact (show False from q).elim
/-! ### sources -/
/-- a list or a tuple -/
def mSq (m : ME) : MI := fun σ S => (m σ S).bind fun x S1 => match x with
  | .ref a => match S1.ls a with
    | some xs => .ok ⟨xs.map .one, fun S => decide (S.ls a = some xs)⟩ S1
    | none => match S1.tp a with
      | some xs => .ok ⟨xs.map .one, fun S => decide (S.tp a = some xs)⟩ S1
      | none => .bad
  | _ => .bad
def iSq (K : PySem.W.Frag) (tl : TE) : TI := fun σ H R => tl σ H fun x H1 => ∃ a, x = .ref a ∧ (((∃ xs, SqL K H1 a xs) ∧ R (Itl K a) H1) ∨ ((∃ xs, SqT K H1 a xs) ∧ R (Itt K a) H1))
open PySem.Spec PyProof.Rows in
theorem pi_sq {tg l : Expr} {tl : TE} (hl : PE X l tl) : PI X tg l (iSq X.K tl) := by
  refine ⟨fun pins s σ H R I h => ?_⟩
  refine thn (hl.run pins s σ H _ I h) fun v s1 ⟨x, H1, I1, r1, q1⟩ => ?_
  obtain ⟨a, e, q1⟩ := q1
  subst e
  cases r1
  rcases q1 with ⟨⟨xs, hq⟩, q⟩ | ⟨⟨xs, hq⟩, q⟩
  · obtain ⟨its, rv, p, hz⟩ := I1.list hq
    refine wpAny_pyIter_list p.isList ?_
    refine ⟨s1.heap.objs.size, [s1.heap.objs.size], _, _, H1, rfl, I1.kept (t' := s1.toks) fun b o e => Heap.get?_push_of_some _ e, turn_list a _, ⟨_, Heap.get?_push_size _ rfl, rfl, rfl⟩, fun b hb => ?_, q⟩
    have e : b = s1.heap.objs.size := by simpa using hb
    subst e
    exact I1.fpOk (Nat.le_refl _) (I1.hok.fresh (Nat.le_refl _))
  · obtain ⟨its, rv, p, hz⟩ := I1.tuple hq
    refine wpAny_pyIter_tuple (show s1.heap.IsTuple a its.toArray from p) ?_
    refine ⟨s1.heap.objs.size, [s1.heap.objs.size], _, _, H1, rfl, I1.kept (t' := s1.toks) fun b o e => Heap.get?_push_of_some _ e, turn_tuple a _, ⟨_, Heap.get?_push_size _ rfl, rfl, rfl⟩, fun b hb => ?_, q⟩
    have e : b = s1.heap.objs.size := by simpa using hb
    subst e
    exact I1.fpOk (Nat.le_refl _) (I1.hok.fresh (Nat.le_refl _))
theorem si_sq {tg l : Expr} {m : ME} (h : SE X c l m) : SI X c tg l (mSq m) := PI.imp (pi_sq h) fun σ H Rk h => by
  refine (tG.step (rel := VR) h).imp fun x' H1 ⟨R, S, σa, x, rl, sr, vx, q⟩ => ?_
  cases x with
  | ref a =>
    obtain ⟨p, hp, rfl⟩ := vx
    have q : Acc X.K c.cA c.xi (relI X.K c) R c.W σ Rk (match S.ls a with
    | some xs => .ok ⟨xs.map .one, fun S => decide (S.ls a = some xs)⟩ S
    | none => match S.tp a with
      | some xs => .ok ⟨xs.map .one, fun S => decide (S.tp a = some xs)⟩ S
      | none => .bad) := q
    split at q
    · rename_i xs e
      obtain ⟨p', ys, hp', r1, k1⟩ := rl.ls e
      rw [hp] at hp'; cases hp'
      refine ⟨p, rfl, .inl ⟨⟨ys, k1⟩, Acc.ok' q rl ?_⟩⟩
      have key : ∀ R' S' H', R.ex R' → Rel X.K c.cA c.xi R' S' H' → decide (S'.ls a = some xs) = true → ∃ zs, VRs R' xs zs ∧ SqL X.K H' p zs := fun R' S' H' ex rl' hk => by
        obtain ⟨p', zs, hp', r2, k2⟩ := rl'.ls (of_decide_eq_true hk)
        rw [ex _ _ hp] at hp'; cases hp'
        exact ⟨zs, r2, k2⟩
      refine ⟨fun R' S' H' ex rl' hk => ?_, fun R' S' H' i ex rl' hk hi => ?_, fun R' S' H' i y v' H'' ex rl' hk hy yl => ?_⟩
      · obtain ⟨zs, r2, k2⟩ := key R' S' H' ex rl' hk
        exact ⟨zs, k2, by rw [List.length_map, r2.len]; exact Nat.le_refl _⟩
      · obtain ⟨zs, r2, k2⟩ := key R' S' H' ex rl' hk
        have hl : i < zs.length := by rw [← r2.len]; simpa using hi
        exact ⟨zs, zs[i], k2, List.getElem?_eq_getElem hl⟩
      · obtain ⟨zs, r2, k2⟩ := key R' S' H' ex rl' hk
        obtain ⟨rfl, hv⟩ := yl
        obtain ⟨v, hv1, rfl⟩ : ∃ v, xs[i]? = some v ∧ y = .one v := by
          have : (xs.map Yd.one)[i]? = some y := hy
          rw [List.getElem?_map] at this
          obtain ⟨v, a, b⟩ := Option.map_eq_some_iff.mp this
          exact ⟨v, a, b.symm⟩
        obtain ⟨w, w1, w2⟩ := pget r2 hv1
        have := hv zs k2
        rw [w1] at this; cases this
        exact ⟨rfl, w2⟩
    · split at q
      · rename_i xs e
        obtain ⟨p', ys, hp', r1, k1⟩ := rl.tp e
        rw [hp] at hp'; cases hp'
        refine ⟨p, rfl, .inr ⟨⟨ys, k1⟩, Acc.ok' q rl ?_⟩⟩
        have key : ∀ R' S' H', R.ex R' → Rel X.K c.cA c.xi R' S' H' → decide (S'.tp a = some xs) = true → ∃ zs, VRs R' xs zs ∧ SqT X.K H' p zs := fun R' S' H' ex rl' hk => by
          obtain ⟨p', zs, hp', r2, k2⟩ := rl'.tp (of_decide_eq_true hk)
          rw [ex _ _ hp] at hp'; cases hp'
          exact ⟨zs, r2, k2⟩
        refine ⟨fun R' S' H' ex rl' hk => ?_, fun R' S' H' i ex rl' hk hi => ?_, fun R' S' H' i y v' H'' ex rl' hk hy yl => ?_⟩
        · obtain ⟨zs, r2, k2⟩ := key R' S' H' ex rl' hk
          exact ⟨zs, k2, by rw [List.length_map, r2.len]; exact Nat.le_refl _⟩
        · obtain ⟨zs, r2, k2⟩ := key R' S' H' ex rl' hk
          have hl : i < zs.length := by rw [← r2.len]; simpa using hi
          exact ⟨zs, zs[i], k2, List.getElem?_eq_getElem hl⟩
        · obtain ⟨zs, r2, k2⟩ := key R' S' H' ex rl' hk
          obtain ⟨rfl, hv⟩ := yl
          obtain ⟨v, hv1, rfl⟩ : ∃ v, xs[i]? = some v ∧ y = .one v := by
            have : (xs.map Yd.one)[i]? = some y := hy
            rw [List.getElem?_map] at this
            obtain ⟨v, a, b⟩ := Option.map_eq_some_iff.mp this
            exact ⟨v, a, b.symm⟩
          obtain ⟨w, w1, w2⟩ := pget r2 hv1
          have := hv zs k2
          rw [w1] at this; cases this
          exact ⟨rfl, w2⟩
      · exact bad_elim q
  | _ => exact bad_elim q
def intsFrom (lo : Int) (n : Nat) : List Yd := (List.range n).map fun (i : Nat) => .one (.int (lo + (i : Int)))
theorem drv_range {K : PySem.W.Frag} {cA : Str → Addr} {xi : Xi} {R : Mp} (lo : Int) (n : Nat) : Drv K cA xi R ⟨intsFrom lo n, fun _ => true⟩ (Itr lo n) := by
  have hl : (intsFrom lo n).length = n := by simp [intsFrom]
  refine ⟨fun R' S' H' ex rl' hk => ?_, fun R' S' H' i ex rl' hk hi => ?_, fun R' S' H' i y v' H'' ex rl' hk hy yl => ?_⟩
  · show n ≤ (intsFrom lo n).length
    rw [hl]; exact Nat.le_refl _
  · show i < n
    rw [← hl]; exact hi
  · obtain ⟨rfl, rfl⟩ := yl
    have hy' : (intsFrom lo n)[i]? = some y := hy
    unfold intsFrom at hy'
    rw [List.getElem?_map] at hy'
    obtain ⟨v, a, b⟩ := Option.map_eq_some_iff.mp hy'
    subst b
    have : v = i := by
      rw [List.getElem?_range (by have := (List.getElem?_eq_some_iff.mp a).1; simpa using this)] at a
      cases a; rfl
    subst this
    exact ⟨rfl, rfl⟩
abbrev two62 : Int := 4611686018427387904
def mRg1 (t : MA) : MI := fun σ S => (t σ S).bind fun vs S1 => match vs with
  | [.int j] => if -two62 ≤ j ∧ j < two62 then .ok ⟨intsFrom 0 j.toNat, fun _ => true⟩ S1 else .bad
  | _ => .bad
def mRg2 (t : MA) : MI := fun σ S => (t σ S).bind fun vs S1 => match vs with
  | [.int i, .int j] => if (-two62 ≤ i ∧ i < two62) ∧ -two62 ≤ j ∧ j < two62 then .ok ⟨intsFrom i (j - i).toNat, fun _ => true⟩ S1 else .bad
  | _ => .bad
theorem si_rg1 {tg a : Expr} {t : MA} {p : Pos} (hg : Gl X "range") (hm : X.mg "range" = none) (ha : SA X c [a] t) (hs : starEach [a] X.env = [(false, eval a X.env)] := by rfl) : SI X c tg (.Call (.Name "range" p) [a] [] pos) (mRg1 t) :=
  PI.imp (pi_range1 hg hm ha hs) fun σ H Rk h => by
    refine (tG.step (rel := VRs) h).imp fun xs H1 ⟨R, S, σa, vs, rl, sr, vx, q⟩ => ?_
    split at q
    · rename_i j
      split at q
      · rename_i hj
        obtain ⟨y, rfl, e⟩ := vx.one_inv
        obtain rfl := e
        exact ⟨j, rfl, hj.1, hj.2, Acc.ok' q rl (drv_range 0 _)⟩
      · exact bad_elim q
    · exact bad_elim q
theorem si_rg2 {tg a b : Expr} {t : MA} {p : Pos} (hg : Gl X "range") (hm : X.mg "range" = none) (ha : SA X c [a, b] t) (hs : starEach [a, b] X.env = [(false, eval a X.env), (false, eval b X.env)] := by rfl) (hs2 : starEach [b] X.env = [(false, eval b X.env)] := by rfl) :
    SI X c tg (.Call (.Name "range" p) [a, b] [] pos) (mRg2 t) :=
  PI.imp (pi_range2 hg hm ha hs hs2) fun σ H Rk h => by
    refine (tG.step (rel := VRs) h).imp fun xs H1 ⟨R, S, σa, vs, rl, sr, vx, q⟩ => ?_
    split at q
    · rename_i i j
      split at q
      · rename_i hj
        obtain ⟨y, z, rfl, e, e2⟩ := vx.two_inv
        obtain rfl := e
        obtain rfl := e2
        exact ⟨i, j, rfl, ⟨hj.1.1, hj.1.2, hj.2.1, hj.2.2⟩, Acc.ok' q rl (drv_range i _)⟩
      · exact bad_elim q
    · exact bad_elim q
def enumFrom' : Nat → List V → List Yd
  | _, [] => []
  | n, x :: r => .tup [.int (n : Nat), x] :: enumFrom' (n + 1) r
theorem enum_at : ∀ {xs : List V} {n i : Nat}, (enumFrom' n xs)[i]? = xs[i]?.map fun x => .tup [.int ((n + i : Nat) : Int), x]
  | [], n, i => by simp [enumFrom']
  | x :: xs, n, 0 => by simp [enumFrom']
  | x :: xs, n, i + 1 => by
    have := enum_at (xs := xs) (n := n + 1) (i := i)
    simp only [enumFrom', List.getElem?_cons_succ]
    rw [this]
    congr 1
    funext y
    have : n + 1 + i = n + (i + 1) := by omega
    rw [this]
theorem enum_len : ∀ {xs : List V} {n : Nat}, (enumFrom' n xs).length = xs.length
  | [], n => rfl
  | x :: xs, n => by simp [enumFrom', enum_len]
def mEnum (t : MA) : MI := fun σ S => (t σ S).bind fun vs S1 => match vs with
  | [.ref a] => match S1.ls a with
    | some xs => .ok ⟨enumFrom' 0 xs, fun S => decide (S.ls a = some xs)⟩ S1
    | none => .bad
  | _ => .bad
theorem si_enum {e : Expr} {t : MA} {p tpos : Pos} {elts : List Expr} {kk : Nat} (hg : Gl X "enumerate") (hm : X.mg "enumerate" = none) (ha : SA X c [e] t) (hs : starEach [e] X.env = [(false, eval e X.env)] := by rfl) :
    SI X c (.Tuple elts kk tpos) (.Call (.Name "enumerate" p) [e] [] pos) (mEnum t) := PI.imp (pi_enum hg hm ha hs) fun σ H Rk h => by
  refine (tG.step (rel := VRs) h).imp fun ys' H1 ⟨R, S, σa, vs, rl, sr, vx, q⟩ => ?_
  split at q
  · rename_i a
    obtain ⟨y, rfl, p, hp, rfl⟩ := vx.one_inv
    split at q
    · rename_i xs e
      obtain ⟨p', ys, hp', r1, k1⟩ := rl.ls e
      rw [hp] at hp'; cases hp'
      refine ⟨p, ys, rfl, k1, Acc.ok' q rl ?_⟩
      have key : ∀ R' S' H', R.ex R' → Rel X.K c.cA c.xi R' S' H' → decide (S'.ls a = some xs) = true → ∃ zs, VRs R' xs zs ∧ SqL X.K H' p zs := fun R' S' H' ex rl' hk => by
        obtain ⟨p', zs, hp', r2, k2⟩ := rl'.ls (of_decide_eq_true hk)
        rw [ex _ _ hp] at hp'; cases hp'
        exact ⟨zs, r2, k2⟩
      refine ⟨fun R' S' H' ex rl' hk => ?_, fun R' S' H' i ex rl' hk hi => ?_, fun R' S' H' i y v' H'' ex rl' hk hy yl => ?_⟩
      · obtain ⟨zs, r2, k2⟩ := key R' S' H' ex rl' hk
        exact ⟨zs, k2, by rw [enum_len, r2.len]; exact Nat.le_refl _⟩
      · obtain ⟨zs, r2, k2⟩ := key R' S' H' ex rl' hk
        have hl : i < zs.length := by rw [← r2.len, ← enum_len (n := 0)]; exact hi
        exact ⟨zs, zs[i], k2, List.getElem?_eq_getElem hl⟩
      · obtain ⟨zs, r2, k2⟩ := key R' S' H' ex rl' hk
        obtain ⟨T, x, rfl, hT, rfl, hv⟩ := yl
        have hy' : (enumFrom' 0 xs)[i]? = some y := hy
        rw [enum_at] at hy'
        obtain ⟨v, v1, rfl⟩ := Option.map_eq_some_iff.mp hy'
        obtain ⟨w, w1, w2⟩ := pget r2 v1
        have := hv zs k2
        rw [w1] at this; cases this
        refine ⟨T, _, rfl, hT, rfl, .cons ?_ (.cons w2 .nil)⟩
        show V.int _ = V.int _
        rw [Nat.zero_add]
    · exact bad_elim q
  · exact bad_elim q
end
end Mm

/-! several except clauses, with names or without: HandS's rules for one clause with a name and for several without, put together -/
namespace L2
open PySem PySem.Spec PyProof.Rows
def endsNone (i : Nat) (D : Ends) : Ends := { nx := fun σ' H' => D.nx (σ'.set i none) H', rt := D.rt, bk := fun σ' H' => D.bk (σ'.set i none) H', ct := fun σ' H' => D.ct (σ'.set i none) H' }
def wManyA (K : PySem.W.Frag) (Wout : WX) (D : Ends) : List (Value × Option Nat × (Addr → Value → Option Addr → TS)) → WX
  | [] => Wout
  | (c, io, ts) :: r => fun cls d σ H => ∃ b, PySem.W.exmOne K cls c = some b ∧ (b = true → ∀ a, H a = none → match io with
      | none => ts a cls d D σ H
      | some i => ts a cls d (endsNone i D) (σ.set i (some (.ref a))) H) ∧ (b = false → wManyA K Wout D r cls d σ H)
inductive HdsOkA (X : Cx) : List ExceptHandler → List (Value × Option Nat × (Addr → Value → Option Addr → TS)) → Prop
  | nil : HdsOkA X [] []
  | plain {x : Str} {c : Value} {ts : Addr → Value → Option Addr → TS} {b₀ : Stmt} {suite : List Stmt} {np pos' : Pos} {hds : List ExceptHandler} {l : List (Value × Option Nat × (Addr → Value → Option Addr → TS))} (hc : Names X x c)
      (hsu : ∀ (a : Addr) (oe : Obj) (cls : Value) (d : Option Addr) (pn : List (Addr × Obj)), Zc cls d oe → (∃ vs, oe.data = .fields vs) → PSs (X.suite a ((a, oe) :: pn)) (b₀ :: suite) (ts a cls d)) (r : HdsOkA X hds l) :
      HdsOkA X (.ExceptHandler (some (.Name x np)) none (b₀ :: suite) pos' :: hds) ((c, none, ts) :: l)
  | named {x n : Str} {i : Nat} {c : Value} {ts : Addr → Value → Option Addr → TS} {b₀ : Stmt} {suite : List Stmt} {np pos' : Pos} {hds : List ExceptHandler} {l : List (Value × Option Nat × (Addr → Value → Option Addr → TS))} (hN : X.N.Nodup) (hi : X.N[i]? = some n) (hln : X.env.kindOf n = some .local) (hc : Names X x c)
      (hsu : ∀ (a : Addr) (oe : Obj) (cls : Value) (d : Option Addr) (pn : List (Addr × Obj)), Zc cls d oe → (∃ vs, oe.data = .fields vs) → PSs (X.suite a ((a, oe) :: pn)) (b₀ :: suite) (ts a cls d)) (r : HdsOkA X hds l) :
      HdsOkA X (.ExceptHandler (some (.Name x np)) (some n) (b₀ :: suite) pos' :: hds) ((c, some i, ts) :: l)
section
variable {X : Cx} {body : List Stmt} {h₀ : ExceptHandler} {hds : List ExceptHandler} {l : List (Value × Option Nat × (Addr → Value → Option Addr → TS))} {pos : Pos} {tb : WX → TS} {Wout : WX}
theorem ps_try_manyA (hs : X.stack = X.env :: X.outer) (hf : X.env.frame = some X.env.locals) (tk : Takes X Wout)
    (hb : ∀ (W : WX) (pn : List (Addr × Obj)) (xe : Value → Shared → Prop), Takes (X.tr pn xe) W → PassesOwn (model X.prog X.w) X.A X.env xe → PSs (X.tr pn xe) body (tb W))
    (hh : HdsOkA X (h₀ :: hds) l) : PS X (.Try body (h₀ :: hds) [] [] pos) (fun D σ H => tb (wManyA X.K Wout D l) D σ H) := by
  refine ⟨fun pins s σ H D I h => ?_⟩
  have ok := I.ok
  have hfr : X.A.frames = some (X.env :: X.outer) := by rw [ok.frames, hs]
  refine wpAny_Try_except ?_
  refine wpAny_mono ((hb (wManyA X.K Wout D l) (X.pn ++ pins) (fun e s₁ => wpAny (model X.prog X.w) X.A (noteFrame e X.env) (fun _ s₂ => wpAny (model X.prog X.w) X.A (setFlight e none) (fun _ s₃ =>
    wpAny (model X.prog X.w) X.A (handleBy e X.env (h₀ :: hds)) (SP X pins D) X.xe s₃) X.xe s₂) X.xe s₁) (fun u s' xx => ?_) PassesOwn.looking).run [] s σ H D (I.toTry _) h) (fun f s1 hsp => ?_) (fun e s1 he => he)
  · -- the catch
    obtain ⟨a, B, sI, pins', σ', H', cls, d, rfl, J', nb, up, sky, na, os, ag, w⟩ := xx
    have J : Inv X pins σ' H' sI := J'.ofTry ok
    have sky' : Sky B (X.env :: X.outer) a (Zc cls d) X.env.locals s'.heap := by rw [← hs]; exact sky
    show wpAny (model X.prog X.w) X.A (noteFrame (.ref a) X.env) _ _ _
    refine Sky.land Zc.steady hfr hf sky' fun h3 fl3 up3 => ?_
    have J3 : Inv X pins σ' H' { s' with heap := h3 } := J.landed nb fl3.1 (up.trans up3) os ag
    obtain ⟨oe3, vs3, he3, hz3, hd3⟩ := fl3.there
    have notFr : ∀ {h : Heap} {o : Obj} {vs : Array Value}, h.FunFrames B (X.env :: X.outer) → h.get? a = some o → o.data = .fields vs → a ∉ frs (X.env :: X.outer) := fun {h o vs} ff e dd hm => by
      obtain ⟨_, o', e', hnf⟩ := ff.mem hm
      rw [e] at e'; cases e'
      exact hnf _ dd
    have nfr := notFr fl3.2.2.1 he3 hd3
    have nL : a ≠ X.env.locals := fun z => nfr (List.mem_filterMap.mpr ⟨X.env, List.mem_cons_self, by rw [hf, z]⟩)
    have nF : a ∉ X.fs := fun hm => by
      obtain ⟨e, he, q⟩ := List.mem_filterMap.mp hm
      exact nfr (List.mem_filterMap.mpr ⟨e, List.mem_cons_of_mem _ he, q⟩)
    have S3 := J3.suite he3 hd3 na nL nF
    have LT : PySem.W.Looks (model X.prog X.w) h3 (typeOf (.ref a)) cls := fun A Q E s k q => wpAny_typeOf_ref (k _ _ he3) (by rw [hz3.1]; exact q)
    have test : ∀ {x : Str} {c : Value} {np : Pos} {Q : Value → Shared → Prop} {E : Value → Shared → Prop}, Names X x c → Q c { s' with heap := h3 } → wpAny (model X.prog X.w) (X.A.mark (some (.ref a))) (eval (.Name x np) X.env) Q E { s' with heap := h3 } := fun {x c np Q E} hc q => by
      obtain ⟨hg, hdbg, hm | ⟨hm, hv, hnn⟩⟩ := hc
      · exact ld_glob (X := X.suite a ((a, oe3) :: (X.pn ++ pins))) S3 hg hm q hdbg
      · exact ld_blt (X := X.suite a ((a, oe3) :: (X.pn ++ pins))) S3 hg hm hv q hnn hdbg
    have go : ∀ {hds' : List ExceptHandler} {l' : List (Value × Option Nat × (Addr → Value → Option Addr → TS))}, HdsOkA X hds' l' → wManyA X.K Wout D l' cls d σ' H' →
        wpAny (model X.prog X.w) X.A (handleBy (.ref a) X.env hds') (SP X pins D) X.xe { s' with heap := h3 } := by
      intro hds' l' hk
      induction hk with
      | nil =>
        intro w
        refine wpAny_handleBy_nil ?_
        obtain ⟨k1, k2, k3, oe, vs, T, oT, ts', he, hz, hd, h1, hr⟩ := id fl3
        unfold PySem.passOn
        refine wpAny_bind (wpAny_field he hd h1 ?_)
        rw [if_neg (show ¬ ((Value.ref T == Value.none) = true) from by simp)]
        have fin : wpAny (model X.prog X.w) X.A (setFlight (.ref a) X.env.frame) (fun _ s4 => wpAny (model X.prog X.w) X.A (throw (.ref a) : Sem Flow) (SP X pins D) X.xe s4) X.xe { s' with heap := h3 } := by
          rw [hf]
          refine HandSPX.setFlight_upZ fl3 fun h4 hh4 up4 => wpAny_throw (tk _ _ ?_)
          exact ⟨a, B, sI, pins, σ', H', cls, d, rfl, J, nb, (up.trans up3).trans up4, .inr (.inr (by rw [hs]; exact hh4)), na, os, ag, w⟩
        first
          | exact wpAny_bind (wpAny_pure (wpAny_bind fin))
          | exact wpAny_bind fin
      | @plain x c ts b₀ suite np pos' hds2 l2 hc hsu r ih =>
        intro w
        obtain ⟨b, hb1, hyes, hno⟩ := w
        refine wpAny_handleBy_cons (codeAny_handlers_test ?_) (by intro q; cases q)
        have LM := PySem.W.exm_one (M := model X.prog X.w) (J3.kIn) LT hb1
        refine test hc (LM.here ?_)
        cases b with
        | true =>
          refine codeAny_handlers_suite ?_
          refine HandSPX.lands_againZ fl3 fun h4 fl4 up4 => ?_
          have J4 : Inv X pins σ' H' { s' with heap := h4 } := J.landed nb fl4.1 ((up.trans up3).trans up4) os ag
          obtain ⟨oe4, vs4, he4, hz4, hd4⟩ := fl4.there
          have S4 := J4.suite he4 hd4 na nL nF
          refine wpAny_mono ((hsu a oe4 cls d (X.pn ++ pins) hz4 ⟨_, hd4⟩).run [] _ _ H' _ S4 (hyes rfl a na)) (fun f s6 hsp => ?_) (fun _ _ z => False.elim z)
          cases f with
          | next =>
            obtain ⟨σ6, H6, S6, q6⟩ := hsp
            exact ⟨_, _, S6.unsuite ok, q6⟩
          | brk =>
            obtain ⟨σ6, H6, S6, q6⟩ := hsp
            exact ⟨_, _, S6.unsuite ok, q6⟩
          | cont =>
            obtain ⟨σ6, H6, S6, q6⟩ := hsp
            exact ⟨_, _, S6.unsuite ok, q6⟩
          | ret u =>
            obtain ⟨v6, σ6, H6, S6, r6, q6⟩ := hsp
            exact ⟨_, _, _, S6.unsuite ok, r6, q6⟩
        | false =>
          show wpAny _ X.A (handleBy (.ref a) X.env hds2) _ _ _
          exact ih (hno rfl)
      | @named x n i c ts b₀ suite np pos' hds2 l2 hN hi hln hc hsu r ih =>
        intro w
        obtain ⟨b, hb1, hyes, hno⟩ := w
        have hloc : Loc X.env.scope n := .inl hln
        refine wpAny_handleBy_cons (codeAny_handlers_test ?_) (by intro q; cases q)
        have LM := PySem.W.exm_one (M := model X.prog X.w) (J3.kIn) LT hb1
        refine test hc (LM.here ?_)
        cases b with
        | true =>
          refine codeAny_handlers_suite_as ?_
          refine HandSPX.lands_againZ fl3 fun h4 fl4 up4 => ?_
          have J4 : Inv X pins σ' H' { s' with heap := h4 } := J.landed nb fl4.1 ((up.trans up3).trans up4) os ag
          obtain ⟨oe4, vs4, he4, hz4, hd4⟩ := fl4.there
          have S4 := J4.suite he4 hd4 na nL nF
          refine store_ok (X := X.suite a ((a, oe4) :: (X.pn ++ pins))) (v := .ref a) S4 hN hi hloc rfl (fun s5 S5 => ?_) (.inr hln)
          refine wpAny_mono ((hsu a oe4 cls d (X.pn ++ pins) hz4 ⟨_, hd4⟩).run [] s5 _ H' _ S5 (hyes rfl a na)) (fun f s6 hsp => ?_) (fun _ _ z => False.elim z)
          have end_ : ∀ {σ6 : St} {H6 : Hp} {Q : Shared → Prop}, Inv (X.suite a ((a, oe4) :: (X.pn ++ pins))) [] σ6 H6 s6 → (∀ s7, Inv X pins (σ6.set i none) H6 s7 → Q s7) →
              wpAny (model X.prog X.w) X.A (do bindName X.env n .none; unbindBehindTheSuite X.env n pos') (fun _ s7 => Q s7) X.xe s6 := fun {σ6 H6 Q} S6 hq => gone_ok (S6.unsuite ok) hN hi hln hq
          cases f with
          | next =>
            obtain ⟨σ6, H6, S6, q6⟩ := hsp
            exact end_ S6 fun s7 J7 => ⟨_, _, J7, q6⟩
          | brk =>
            obtain ⟨σ6, H6, S6, q6⟩ := hsp
            exact end_ S6 fun s7 J7 => ⟨_, _, J7, q6⟩
          | cont =>
            obtain ⟨σ6, H6, S6, q6⟩ := hsp
            exact end_ S6 fun s7 J7 => ⟨_, _, J7, q6⟩
          | ret u =>
            obtain ⟨v6, σ6, H6, S6, r6, q6⟩ := hsp
            exact end_ S6 fun s7 J7 => ⟨_, _, _, J7, r6, q6⟩
        | false =>
          show wpAny _ X.A (handleBy (.ref a) X.env hds2) _ _ _
          exact ih (hno rfl)
    exact go hh w
  · cases f with
    | next =>
      obtain ⟨σ', H', J', q⟩ := hsp
      exact wpAny_execs_nil ⟨σ', H', J'.ofTry ok, q⟩
    | brk =>
      obtain ⟨σ', H', J', q⟩ := hsp
      exact ⟨σ', H', J'.ofTry ok, q⟩
    | cont =>
      obtain ⟨σ', H', J', q⟩ := hsp
      exact ⟨σ', H', J'.ofTry ok, q⟩
    | ret u =>
      obtain ⟨v, σ', H', J', r, q⟩ := hsp
      exact ⟨v, σ', H', J'.ofTry ok, r, q⟩
end
/-! ### calls with keywords, what is raised wished for at the caller's slots -/
section
variable {X : Cx} {CX : CXT} {k : Nat} {f : Addr} {fd : FuncData} {ps ks : List Str} {sp : Sp} {E : St → XK} {x : Str} {p pos : Pos} {e : Expr} {es : List Expr} {kws : List Keyword} {t tk : TA} {g : List Value → List Value → List Value} {gV : List V → List V → List V} {n : Nat}
theorem run_fnkS {pins : List (Addr × Obj)} {σ : St} {H : Hp} {s : Shared} {Q : VK} {us ws : List Value} {vs zs : List V} (F : FnOk X.prog X.w X.K X.mg X.base CX k f fd ps sp) (hr : Room k X.A) (hb : KBn X.K fd ps n ks g gV) (hx : PassesAt CX X σ (E σ))
    (I : Inv X pins σ H s) (r : Vals vs us) (rz : Vals zs ws) (l1 : vs.length = n) (l2 : zs.length = ks.length) (h : sp (gV vs zs) H Q (E σ)) : wpAny (model X.prog X.w) X.A (call (.ref f) us (ks.zip ws)) (EP X pins σ Q) X.xe s := by
  have r2 := hb.rel r rz
  refine wpAny_call (codeAny_mono (F.run X.A X.stack s H ⟨us, ks.zip ws⟩ (g us ws) (gV vs zs) Q (E σ) hr I.env0 (hb.to s us ws I.kIn (r.length.symm.trans l1) (rz.length.symm.trans l2)) r2 h) fun r s' hq => ?_)
  cases r with
  | error e => exact hx pins H s e s' I hq
  | ok fl =>
    cases fl with
    | ret u => exact I.after hq
    | next => exact False.elim hq
    | brk => exact False.elim hq
    | cont => exact False.elim hq
def tCallKS (n m : Nat) (sp : Sp) (gV : List V → List V → List V) (E : St → XK) (t tk : TA) : TE := fun σ H Q => t σ H fun vs H1 => tk σ H1 fun zs H2 => vs.length = n ∧ zs.length = m ∧ sp (gV vs zs) H2 Q (E σ)
theorem pe_callKS0 (F : FnOk X.prog X.w X.K X.mg X.base CX k f fd ps sp) (hr : Room k X.A) (hg : Gl X x) (hm : X.mg x = some (.ref f)) (hk : PySem.W.keepIn X.K (.ref f) = true) (hb : KBn X.K fd ps 0 ks g gV) (hx : ∀ σ, PassesAt CX X σ (E σ))
    (hkw : PK X kws tk) (hall : (backToKw pos (keywordEach kws X.env)).all (·.1.isSome) = true := by rfl) (hks : (backToKw pos (keywordEach kws X.env)).filterMap (·.1) = ks := by rfl) (hdb : (x == ("__debug__" : Str)) = false := by decide)
    (hpl : ((backTo pos (starEach [] X.env)).any (·.1) || (backToKw pos (keywordEach kws X.env)).any (·.1.isNone)) = false := by rfl) :
    PE X (.Call (.Name x p) [] kws pos) (tCallKS 0 ks.length sp gV E tNil tk) := by
  refine ⟨fun pins s σ H Q I h => ?_⟩
  refine wpAny_Call_Name_kw (ld_glob I hg hm ?_ hdb)
  refine PySem.W.callWith_KW0 (h₀ := X.base) I.ok.mod.kin hk hall ?_ hpl
  refine thn (hkw.run pos pins s σ H _ I h) fun ws s2 ⟨zs, H2, I2, rz, l1, l2, q2⟩ => ⟨I2.kIn, ?_⟩
  rw [hks]
  exact run_fnkS (us := []) (vs := []) F hr hb (hx σ) I2 .nil rz rfl l2 q2
theorem pe_callKS (F : FnOk X.prog X.w X.K X.mg X.base CX k f fd ps sp) (hr : Room k X.A) (hg : Gl X x) (hm : X.mg x = some (.ref f)) (hk : PySem.W.keepIn X.K (.ref f) = true) (hb : KBn X.K fd ps n ks g gV) (hx : ∀ σ, PassesAt CX X σ (E σ))
    (ha : PA X (e :: es) t) (hkw : PK X kws tk) (hall : (backToKw pos (keywordEach kws X.env)).all (·.1.isSome) = true := by rfl) (hks : (backToKw pos (keywordEach kws X.env)).filterMap (·.1) = ks := by rfl) (hdb : (x == ("__debug__" : Str)) = false := by decide)
    (he : starEach (e :: es) X.env = (false, eval e X.env) :: starEach es X.env := by rfl) (hpl : ((backTo pos (starEach (e :: es) X.env)).any (·.1) || (backToKw pos (keywordEach kws X.env)).any (·.1.isNone)) = false := by rfl) :
    PE X (.Call (.Name x p) (e :: es) kws pos) (tCallKS n ks.length sp gV E t tk) := by
  refine ⟨fun pins s σ H Q I h => ?_⟩
  refine wpAny_Call_Name_kw (ld_glob I hg hm ?_ hdb)
  refine PySem.W.callWith_KW (h₀ := X.base) I.ok.mod.kin hk hall (thn (ha.run pos pins s σ H _ I h) fun us s1 ⟨vs, H1, I1, r, q⟩ => ?_) hpl he
  refine thn (hkw.run pos pins s1 σ H1 _ I1 q) fun ws s2 ⟨zs, H2, I2, rz, l1, l2, q2⟩ => ⟨I2.kIn, ?_⟩
  rw [hks]
  exact run_fnkS F hr hb (hx σ) I2 r rz l1 l2 q2
/-- no defaults: keywords alone bind -/
theorem FunD.kbn {K : PySem.W.Frag} {qual : Str} {params : Arguments} {body : List Stmt} {scope : Scope} (F : FunD K x qual params body scope [] [] f fd) (n : Nat) (ks : List Str) (g : {α : Type} → List α → List α → List α)
    (hrel : ∀ {vs zs : List V} {us ws : List Value}, Vals vs us → Vals zs ws → Vals (g vs zs) (g us ws))
    (h : ∀ (kV doc pm : Value) (an : Option Addr) (cdv ct : Value) (us ws : List Value), us.length = n → ws.length = ks.length → bindArgs (PySem.W.fnOf x qual params body scope .none kV doc pm an cdv ct) ⟨us, ks.zip ws⟩ = pure (ps.zip (g us ws))) :
    KBn K fd ps n ks (fun us ws => g us ws) (fun vs zs => g vs zs) := by
  obtain ⟨oc, od, dV, kV, doc, pm, an, cdv, ct, osl, rfl, lk, hcd, hD, hK⟩ := F.ex
  rcases hD with ⟨_, rfl⟩ | ⟨e, _⟩
  · exact ⟨fun s us ws X l1 l2 => .of_eq (h kV doc pm an cdv ct us ws l1 l2), fun r1 r2 => hrel r1 r2⟩
  · exact absurd rfl e
end
end L2

namespace Mm
open PySem L2 PyProof.Rows
/-! ### comprehensions -/
def Res.noX {α : Type} : Res α → Res α
  | .exc _ _ _ => .bad
  | r => r
def lcGo (ok : Sto → Bool) (D : Nat) (t : Tgt) (tt : MT) (elt : ME) (σ : L2.St) : List Yd → Sto → Res Unit
  | [], S => if ok S = true then .ok () S else .bad
  | y :: r, S => if ok S = true then (match t.mm (y.pull S).1 σ (y.pull S).2 with
    | some τ => (tt τ (y.pull S).2).noX.bind fun b S1 => if b = true then (elt τ S1).noX.bind fun v S2 => (match S2.g D with
        | some (.lst acc) => if acc.length < sz then lcGo ok D t tt elt σ r (S2.set D (.lst (acc ++ [v]))) else .bad
        | _ => .bad) else lcGo ok D t tt elt σ r S1
    | none => .bad) else .bad
def mYes : MT := fun _ S => .ok true S
def mLc (ms : MI) (t : Tgt) (tt : MT) (elt : ME) (vs : List Nat) : ME := fun σ S => (ms σ S).bind fun s S1 => (lcGo s.ok S1.n t tt elt (wipe σ vs) s.items (S1.put (.lst []))).bind fun _ S2 => .ok (.ref S1.n) S2
/-- within a comprehension's block nothing is raised -/
abbrev Cw.blk (c : Cw) : Cw := { c with W := fun _ _ _ _ => False }
section
variable {X : Cx} {c : Cw} {pos : Pos}
theorem Acc.noX {K : PySem.W.Frag} {cA : Str → Addr} {xi : Xi} {α β γ δ : Type} {rel : Mp → α → β → Prop} {rel2 : Mp → γ → δ → Prop} {R : Mp} {W W' : WX} {σ σ' : L2.St} {Q : δ → Hp → Prop} {r : Res α} {k : α → Sto → Res γ} (h : Acc K cA xi rel2 R W σ Q (r.noX.bind k)) :
    Acc K cA xi rel R W' σ' (fun b H => ∃ R' S' a, R.ex R' ∧ Rel K cA xi R' S' H ∧ rel R' a b ∧ Acc K cA xi rel2 R' W σ Q (k a S')) r := by
  cases r with
  | ok a S => exact fun R' H b e rl v => ⟨R', S, a, e, rl, v, Acc.mono e h⟩
  | exc c d S => exact (show False from h).elim
  | bad => exact h
theorem sr_wipe {R : Mp} {σa σ : L2.St} (sr : SR R σa σ) : ∀ vs : List Nat, SR R (wipe σa vs) (wipe σ vs)
  | [] => sr
  | v :: vs => pset (F := OR R) (x := none) (y := none) True.intro v (sr_wipe sr vs)
theorem wipe_wipe {σ : L2.St} {us : List Nat} : ∀ {vs : List Nat}, (∀ i ∈ vs, i ∈ us) → wipe (wipe σ vs) us = wipe σ us
  | [], _ => rfl
  | v :: vs, h => by
    show wipe ((wipe σ vs).set v none) us = wipe σ us
    rw [wipe_set (h v List.mem_cons_self), wipe_wipe fun i hi => h i (List.mem_cons_of_mem _ hi)]
abbrev STs (X : Cx) (c : Cw) (ifs : List Expr) (m : MT) : Prop := PTs X ifs (tMT X.K c.cA c.xi c.W m)
theorem PTs.imp {X : Cx} {ifs : List Expr} {t t' : TT} (h : PTs X ifs t) (i : ∀ σ H Q, t' σ H Q → t σ H Q) : PTs X ifs t' := ⟨fun pins s σ H Q I q => h.run pins s σ H Q I (i _ _ _ q)⟩
theorem sts_nil : STs X c [] mYes := PTs.imp pts_nil fun σ H Q h => by
  obtain ⟨R, S, σa, rl, sr, q⟩ := h
  exact Acc.ok' q rl rfl
theorem sts_one {e : Expr} {m : MT} (h : ST X c e m) : STs X c [e] m := pts_one h
theorem lc_sim {ms : MI} {t : Tgt} {tt : MT} {elt : ME} {vs : List Nat} {σ : L2.St} {H : Hp} {Q : VK} (ho : ∀ i ∈ t.own, i ∈ vs) (h : tM X.K c.cA c.xi c.W (mLc ms t tt elt vs) σ H Q) :
    tLc (tG X.K c.cA c.xi c.W (relI X.K c) ms) (t.g X.K) (tMT X.K c.cA c.xi c.blk.W tt) (tM X.K c.cA c.xi c.blk.W elt) vs σ H Q := by
  refine (tG.step (rel := relI X.K c) h).imp fun J H1 ⟨R0, S0, σa, s, rl0, sr, dv, q0⟩ => ?_
  intro D hD
  have rl1 := rl0.put (w := .lst []) (o := .lst []) hD ⟨[], .nil, upd_same⟩
  have exD := rl0.put_ex (p := D)
  -- the invariant
  let R1 := R0.put S0.n D
  have q1 := Acc.mono exD q0
  refine ⟨fun i m H => m = s.items.length - i ∧ i ≤ s.items.length ∧ ∃ R S, R1.ex R ∧ Rel X.K c.cA c.xi R S H ∧ Acc X.K c.cA c.xi VR R c.W σ Q ((lcGo s.ok S0.n t tt elt (wipe σa vs) (s.items.drop i) S).bind fun _ S2 => .ok (.ref S0.n) S2),
    ⟨s.items.length, by simp, Nat.zero_le _, R1, _, Mp.ex.refl _, rl1, q1⟩, ?_⟩
  rintro i m H ⟨rfl, hi, R, S, ex, rl, q⟩
  have ex0 : R0.ex R := exD.trans ex
  have sr' : SR R (wipe σa vs) (wipe σ vs) := sr_wipe (sr.mono ex0) vs
  have hRD : R S0.n = some D := ex _ _ Mp.put_at
  by_cases hlt : i < s.items.length
  · rw [List.drop_eq_getElem_cons hlt] at q
    unfold lcGo at q
    split at q
    · rename_i hok
      refine .inr ⟨dv.go R S H i ex0 rl hok hlt, fun H => ∃ R S, R1.ex R ∧ Rel X.K c.cA c.xi R S H ∧ Acc X.K c.cA c.xi VR R c.W σ Q ((lcGo s.ok S0.n t tt elt (wipe σa vs) (s.items.drop (i + 1)) S).bind fun _ S2 => .ok (.ref S0.n) S2),
        fun H' p' => ⟨s.items.length - (i + 1), by omega, rfl, hlt, p'⟩, fun x H' y => ?_⟩
      have yo := dv.yld R S H i _ x H' ex0 rl hok (List.getElem?_eq_getElem hlt) y
      obtain ⟨R2, ex2, rl2, vx⟩ := yo.pull rl
      split at q
      · rename_i τ et
        obtain ⟨τc, s1, sw, s3⟩ := Tgt.sim rl2 (sr'.mono ex2) vx et
        refine s3 _ ⟨(sw vs ho).trans (wipe_wipe fun i hi => hi), ?_⟩
        have q : Acc X.K c.cA c.xi VR R2 c.W σ Q (((tt τ (s.items[i].pull S).2).noX.bind fun b S1 => if b = true then (elt τ S1).noX.bind fun v S2 => (match S2.g S0.n with
        | some (.lst acc) => if acc.length < sz then lcGo s.ok S0.n t tt elt (wipe σa vs) (s.items.drop (i + 1)) (S2.set S0.n (.lst (acc ++ [v]))) else .bad
        | _ => .bad) else lcGo s.ok S0.n t tt elt (wipe σa vs) (s.items.drop (i + 1)) S1).bind fun _ S2 => .ok (.ref S0.n) S2) := Acc.mono ex2 q
        have ba : ∀ {α β γ : Type} (r : Res α) (f : α → Sto → Res β) (g : β → Sto → Res γ), (r.bind f).bind g = r.bind fun a S => (f a S).bind g := fun r f g => by cases r <;> rfl
        rw [ba] at q
        refine ⟨R2, _, τ, rl2, s1, (Acc.noX (rel := relB) q).imp fun b H3 ⟨R3, S3, b', e3, rl3, vb, q3⟩ => ?_⟩
        obtain rfl := vb
        cases b with
        | false =>
          rw [if_neg (by decide)] at q3 ⊢
          exact ⟨R3, S3, (ex.trans ex2).trans e3, rl3, q3⟩
        | true =>
          rw [if_pos rfl] at q3 ⊢
          rw [ba] at q3
          refine ⟨R3, S3, τ, rl3, s1.mono e3, (Acc.noX (rel := VR) q3).imp fun y H4 ⟨R4, S4, v, e4, rl4, vv, q4⟩ => ?_⟩
          split at q4
          · rename_i acc ea
            split at q4
            · rename_i hl
              have hD4 : R4 S0.n = some D := e4 _ _ (e3 _ _ (ex2 _ _ hRD))
              obtain ⟨ys, r1, k1⟩ := lst_of rl4 ea hD4
              exact ⟨ys, k1, by rw [← r1.len]; exact sz_lt hl, R4, _, ((ex.trans ex2).trans e3).trans e4, rl4.set (o := .lst (acc ++ [v])) ea rfl hD4 ⟨_, papp r1 (.cons vv .nil), upd_same⟩, q4⟩
            · exact bad_elim q4
          · exact bad_elim q4
      · exact bad_elim q
    · exact bad_elim q
  · have e : i = s.items.length := by omega
    subst e
    rw [List.drop_length] at q
    unfold lcGo at q
    split at q
    · rename_i hok
      exact .inl ⟨dv.stop R S H ex0 rl hok, Acc.ok' q rl ⟨D, hRD, rfl⟩⟩
    · exact bad_elim q
theorem se_lc {elt tg iter : Expr} {ifs : List Expr} {scope : Scope} {own : List (Str × Nat)} {ms : MI} {t : Tgt} {tt : MT} {te : ME} (hc : X.calm = true) (hN : X.N.Nodup) (hi : SI X c tg iter ms) (ok : BlkOk X.N X.env.scope scope own) (ho : ∀ i ∈ t.own, i ∈ own.map (·.2))
    (hg : ∀ (s : Shared) (H : Hp) (C : Addr) (cl : List (Str × Addr)) (fp : List Addr), SG (X.blk s H scope (compEnvC scope cl C X.env) fp) tg t) (ht : ∀ (s : Shared) (H : Hp) (C : Addr) (cl : List (Str × Addr)) (fp : List Addr), STs (X.blk s H scope (compEnvC scope cl C X.env) fp) c.blk ifs tt)
    (he : ∀ (s : Shared) (H : Hp) (C : Addr) (cl : List (Str × Addr)) (fp : List Addr), SE (X.blk s H scope (compEnvC scope cl C X.env) fp) c.blk elt te) (hs : ∀ x, foldedSetIterable iter X.env x = pure x := by intro _; rfl) :
    SE X c (.ListComp elt [⟨tg, iter, ifs, 0⟩] scope pos) (mLc ms t tt te (own.map (·.2))) := PE.imp (pe_lc hc hN hi ok hg ht he hs) fun σ H Q h => lc_sim ho h
/-- name = [..] on one line -/
theorem ss_setLc {i : Nat} {y : Str} {py spos : Pos} {elt tg iter : Expr} {ifs : List Expr} {scope : Scope} {own : List (Str × Nat)} {ms : MI} {t : Tgt} {tt : MT} {te : ME} (hc : X.calm = true) (hN : X.N.Nodup) (hy : X.N[i]? = some y) (hyl : X.env.scope.names.lookup y = some .local)
    (hsw : swapsWith (.ListComp elt [⟨tg, iter, ifs, 0⟩] scope pos) (some (.Name y py)) spos.line X.env = pure true) (hi : SI X c tg iter ms) (ok : BlkOk X.N X.env.scope scope own) (ho : ∀ i ∈ t.own, i ∈ own.map (·.2))
    (hg : ∀ (s : Shared) (H : Hp) (C : Addr) (cl : List (Str × Addr)) (fp : List Addr), SG (X.blk s H scope (compEnvC scope cl C X.env) fp) tg t) (ht : ∀ (s : Shared) (H : Hp) (C : Addr) (cl : List (Str × Addr)) (fp : List Addr), STs (X.blk s H scope (compEnvC scope cl C X.env) fp) c.blk ifs tt)
    (he : ∀ (s : Shared) (H : Hp) (C : Addr) (cl : List (Str × Addr)) (fp : List Addr), SE (X.blk s H scope (compEnvC scope cl C X.env) fp) c.blk elt te) (hs : ∀ x, foldedSetIterable iter X.env x = pure x := by intro _; rfl) :
    SS X c (.Assign [.Name y py] (.ListComp elt [⟨tg, iter, ifs, 0⟩] scope pos) spos) (mSet i (mLc ms t tt te (own.map (·.2)))) := PS.imp (ps_setLc hc hN hy hyl hsw hi ok hg ht he hs) fun D σ H h => by
  have h2 : tM X.K c.cA c.xi c.W (mLc ms t tt te (own.map (·.2))) σ H (fun x H1 => D.nx (σ.set i (some x)) H1) := by
    refine (tS.step (rel := VR) (k := fun σ v S1 => .nx (σ.set i (some v)) S1) h).imp fun x' H1 ⟨R, S, σa, x, rl, sr, vx, q⟩ => ?_
    exact q.nx' rl (sr_set sr vx)
  exact lc_sim ho h2
end
/-! ### defs -/
abbrev MF := List V → Sto → Res V
def mFn (n np : Nat) (b : MS) : MF := fun vs S => if vs.length = np then (match b (vs.map some ++ List.replicate (n - vs.length) none) S with
  | .nx _ S' => .ok .non S'
  | .rt v S' => .ok v S'
  | .exc c d _ S' => .exc c d S'
  | _ => .bad) else .bad
def spM (K : PySem.W.Frag) (cA : Str → Addr) (m : MF) : Sp := fun vs' H Q E => ∃ lk R S vs, Rel K cA ⟨noE, lk⟩ R S H ∧ VRs R vs vs' ∧ Acc K cA ⟨noE, lk⟩ VR R (fun cls d _ H => E cls d H) [] Q (m vs S)
/-- the context of a def's body -/
abbrev cwOf (cA : Str → Addr) (lk : Addr → Option (Obj × HO)) (E : XK) : Cw := ⟨cA, ⟨noE, lk⟩, fun cls d _ H => E cls d H⟩
theorem paired_some {R : Mp} : ∀ {vs vs' : List V}, VRs R vs vs' → SR R (vs.map some) (vs'.map some)
  | _, _, .nil => .nil
  | _, _, .cons r t => .cons ⟨_, rfl, r⟩ (paired_some t)
theorem paired_none {R : Mp} : ∀ n : Nat, SR R (List.replicate n none) (List.replicate n none)
  | 0 => .nil
  | n + 1 => .cons True.intro (paired_none n)
section
variable {P : Program} {w : World} {K : PySem.W.Frag} {mg : Str → Option Value} {base : Heap} {x qual : Str} {params : Arguments} {body : List Stmt} {scope : Scope} {f : Addr} {fd : FuncData} {N ps : List Str} {k : Nat}
theorem fn_ok (F : FunD K x qual params body scope [] [] f fd) (Sc : FnScope N ps scope) (cA : Str → Addr) {b : MS}
    (h : ∀ (cdv : Value) (A : Around) (outer : List Env) (s : Shared) (H : Hp) (E : XK), Room k (A.deeper (envOfC qual scope s.heap.objs.size f cdv)) → ∀ lk, SSs (cxOf (L2.CX P w) P w K mg base N qual scope f cdv A outer s H E) (cwOf cA lk E) body b) :
    FnOk P w K mg base (L2.CX P w) (k + 1) f fd ps (spM K cA (mFn N.length ps.length b)) := by
  have len : ∀ {vs' : List V} {H : Hp} {Q : VK} {E : XK}, spM K cA (mFn N.length ps.length b) vs' H Q E → vs'.length = ps.length := fun {vs' H Q E} ⟨lk, R, S, vs, rl, rv, q⟩ => by
    rw [← rv.len]
    unfold mFn at q
    split at q
    · assumption
    · exact bad_elim q
  refine F.ok Sc (fun vs H Q E h => len h) (fun cdv A outer s H vs Q E hr ⟨lk, hsp⟩ => ⟨_, h cdv A outer s H E hr lk, ?_⟩)
  obtain ⟨R, S, as, rl, rv, q⟩ := hsp
  refine ⟨R, S, as.map some ++ List.replicate (N.length - as.length) none, rl, ?_, ?_⟩
  · unfold L2.start
    rw [← rv.len]
    exact papp (paired_some rv) (paired_none _)
  · unfold mFn at q
    split at q
    · cases e : b (as.map some ++ List.replicate (N.length - as.length) none) S with
      | nx σ' S' => rw [e] at q; exact fun R' H' σc ex rl' sr' => q R' H' .non ex rl' rfl
      | rt v S' => rw [e] at q; exact fun R' H' u ex rl' r => q R' H' u ex rl' r
      | bk σ' S' => rw [e] at q; exact bad_elim q
      | ct σ' S' => rw [e] at q; exact bad_elim q
      | exc c d σ' S' => rw [e] at q; exact fun R' H' σc p ex rl' sr' hp => q R' H' p ex rl' hp
      | bad => rw [e] at q; exact q
    · exact bad_elim q
end
section
variable {X : Cx} {cA : Str → Addr} {lk : Addr → Option (Obj × HO)} {W : WX} {k : Nat} {f : Addr} {fd : FuncData} {ps ks : List Str} {m : MF} {x : Str} {p pos : Pos} {e : Expr} {es : List Expr} {t tk' : MA} {kws : List Keyword}
theorem Acc.reW {K : PySem.W.Frag} {xi : Xi} {α β : Type} {rel : Mp → α → β → Prop} {R : Mp} {σ : L2.St} {Q : β → Hp → Prop} {r : Res α} (h : Acc K cA xi rel R W σ Q r) : Acc K cA xi rel R (fun cls d _ H => WE W σ cls d H) [] Q r := by
  cases r with
  | ok a S => exact h
  | exc c d S => exact h
  | bad => exact h
/-- a call of a def of the text -/
theorem se_call (tk : Takes X W) (F : FnOk X.prog X.w X.K X.mg X.base (L2.CX X.prog X.w) k f fd ps (spM X.K cA m)) (hr : Room k X.A) (hg : Gl X x) (hm : X.mg x = some (.ref f)) (hk : PySem.W.keepIn X.K (.ref f) = true) (hb : Binds X.K fd ps [])
    (ha : SA X ⟨cA, ⟨noE, lk⟩, W⟩ (e :: es) t) (hdb : (x == ("__debug__" : Str)) = false := by decide) (he : starEach (e :: es) X.env = (false, eval e X.env) :: starEach es X.env := by rfl) (hpl : (backTo pos (starEach es X.env)).any (·.1) = false := by rfl) :
    SE X ⟨cA, ⟨noE, lk⟩, W⟩ (.Call (.Name x p) (e :: es) [] pos) (mCB m t) := PE.imp (pe_callS F hr hg hm hk hb (fun σ => passAt tk σ) ha hdb he hpl) fun σ H Q h => by
  refine (tG.step (rel := VRs) h).imp fun xs H1 ⟨R, S, σa, vs, rl, sr, vx, q⟩ => ?_
  exact ⟨lk, R, S, vs, rl, vx, Acc.reW q⟩
abbrev SK (X : Cx) (c : Cw) (kws : List Keyword) (m : MA) : Prop := PK X kws (tMA X.K c.cA c.xi c.W m)
theorem PK.imp {X : Cx} {kws : List Keyword} {t t' : TA} (h : PK X kws t) (i : ∀ σ H Q, t' σ H Q → t σ H Q) : PK X kws t' := ⟨fun pos pins s σ H Q I q => h.run pos pins s σ H Q I (i _ _ _ q)⟩
theorem sk_nil {c : Cw} : SK X c [] mNil := PK.imp pk_nil fun σ H Q h => by
  obtain ⟨R, S, σa, rl, sr, q⟩ := h
  exact Acc.ok' q rl .nil
theorem sk_cons {c : Cw} {nm : Option Str} {kpos : Pos} {m : ME} {r : MA} (ha : SE X c e m) (hr : SK X c kws r) : SK X c (⟨nm, e, kpos⟩ :: kws) (mCons m r) := PK.imp (pk_cons ha hr) fun σ H Q h => by
  refine (tG.step (rel := VR) h).imp fun x' H1 ⟨R, S, σa, x, rl, sr, vx, q⟩ => ?_
  refine (tG.next (rel := VRs) rl sr q).imp fun y' H2 ⟨R2, S2, y, e2, rl2, vy, q2⟩ => ?_
  exact Acc.ok' q2 rl2 (.cons (vx.mono e2) vy)
/-- keywords alone: g puts their values in the parameters' order -/
def mCallK (m : MF) (n : Nat) (g : List V → List V) (t : MA) : ME := fun σ S => (t σ S).bind fun zs S1 => if zs.length = n then m (g zs) S1 else .bad
theorem se_callK0 {g : {α : Type} → List α → List α → List α} (hgr : ∀ {R : Mp} {zs zs' : List V}, zs.length = ks.length → VRs R zs zs' → VRs R (g [] zs) (g [] zs')) (tk : Takes X W) (F : FnOk X.prog X.w X.K X.mg X.base (L2.CX X.prog X.w) k f fd ps (spM X.K cA m)) (hr : Room k X.A) (hg : Gl X x)
    (hm : X.mg x = some (.ref f)) (hk : PySem.W.keepIn X.K (.ref f) = true) (hb : KBn X.K fd ps 0 ks (fun us ws => g us ws) (fun vs zs => g vs zs)) (hkw : SK X ⟨cA, ⟨noE, lk⟩, W⟩ kws tk')
    (hall : (backToKw pos (keywordEach kws X.env)).all (·.1.isSome) = true := by rfl) (hks : (backToKw pos (keywordEach kws X.env)).filterMap (·.1) = ks := by rfl) (hdb : (x == ("__debug__" : Str)) = false := by decide)
    (hpl : ((backTo pos (starEach [] X.env)).any (·.1) || (backToKw pos (keywordEach kws X.env)).any (·.1.isNone)) = false := by rfl) :
    SE X ⟨cA, ⟨noE, lk⟩, W⟩ (.Call (.Name x p) [] kws pos) (mCallK m ks.length (fun zs => g [] zs) tk') := PE.imp (pe_callKS0 F hr hg hm hk hb (fun σ => passAt tk σ) hkw hall hks hdb hpl) fun σ H Q h => by
  show tMA X.K cA ⟨noE, lk⟩ W tk' σ H _
  refine (tG.step (rel := VRs) h).imp fun xs H1 ⟨R, S, σa, vs, rl, sr, vx, q⟩ => ?_
  split at q
  · rename_i hl
    exact ⟨rfl, by rw [← vx.len]; exact hl, lk, R, S, _, rl, hgr hl vx, Acc.reW q⟩
  · exact bad_elim q
/-! ### raise -/
/-- the promise of an error's __init__(self, f1, ..): it keeps its arguments -/
def spInit (K : PySem.W.Frag) (fs : List Str) : Sp := fun vs H Q _ => ∃ (a C : Addr) (ys : List V), vs = .ref a :: ys ∧ ys.length = fs.length ∧ OexC K C ∧ (∀ f ∈ fs, PySem.W.findIn K (.ref C) f = some none) ∧ H a = some (exo a C none) ∧
  ∀ dx, H dx = none → dx ≠ a → Q .non (upd (upd H dx (exd dx (fs.zip ys).reverse)) a (exo a C (some dx)))
def mRaise (cn : Str) (fs : List Str) (t : MA) : MS := fun σ S => (t σ S).toS σ fun vs S1 => if vs.length = fs.length ∧ vs.length ≤ 900 then .exc cn S1.n σ (S1.put (.xd (fs.zip vs).reverse)) else .bad
structure ExC (K : PySem.W.Frag) (C fI : Addr) (fs : List Str) : Prop where
  oex : OexC K C
  ini : PySem.W.findIn K (.ref C) "__init__" = some (some (.ref fI))
  fn : PySem.W.typeIn K (.ref fI) = some (.type "function")
  no : ∀ f ∈ fs, PySem.W.findIn K (.ref C) f = some none
theorem zip_rel {R : Mp} : ∀ {fs : List Str} {vs vs' : List V}, VRs R vs vs' → KR R (fs.zip vs) (fs.zip vs')
  | [], _, _, _ => by simp only [List.zip_nil_left]; exact .nil
  | f :: fs, _, _, .nil => .nil
  | f :: fs, _, _, .cons r t => .cons ⟨rfl, r⟩ (zip_rel (fs := fs) t)
theorem ss_raise {fs : List Str} {fI : Addr} {pos2 : Pos} (hc : X.calm = true) (tk : Takes X W) (T : ExC X.K (cA x) fI fs) (F : FnOk X.prog X.w X.K X.mg X.base (L2.CX X.prog X.w) k fI fd ps (spInit X.K fs)) (hr : Room (k + 1) X.A) (hb : Binds X.K fd ps []) (hg : Gl X x) (hm : X.mg x = some (.ref (cA x)))
    (ha : SA X ⟨cA, ⟨noE, lk⟩, W⟩ (e :: es) t) (hdb : (x == ("__debug__" : Str)) = false := by decide) (he : starEach (e :: es) X.env = (false, eval e X.env) :: starEach es X.env := by rfl) (hpl : (backTo pos (starEach es X.env)).any (·.1) = false := by rfl) :
    SS X ⟨cA, ⟨noE, lk⟩, W⟩ (.Raise (some (.Call (.Name x p) (e :: es) [] pos)) none pos2) (mRaise x fs t) :=
  PS.imp (ps_raise hc tk (pmk_oex T.oex T.ini T.fn F hr hb .nil passL hg hm ha hdb he hpl)) fun D σ H h => by
    refine (tS.step (rel := VRs) (k := fun σ vs S1 => if vs.length = fs.length ∧ vs.length ≤ 900 then .exc x S1.n σ (S1.put (.xd (fs.zip vs).reverse)) else .bad) h).imp fun vs' H1 ⟨R, S, σa, vs, rl, sr, vx, q⟩ => ?_
    split at q
    · rename_i hl
      refine ⟨by rw [← vx.len]; omega, fun a ha => ?_⟩
      refine ⟨a, cA x, vs', by rw [List.append_nil], by rw [← vx.len]; exact hl.1, T.oex, T.no, upd_same, fun dx hdx hne => ?_⟩
      have hdx1 : H1 dx = none := by rw [upd_ne hne] at hdx; exact hdx
      refine ⟨rfl, dx, _, upd_same, by rw [upd_ne hne, upd_same], hdx1, ?_⟩
      have eH : upd (del (upd (upd (upd H1 a (exo a (cA x) none)) dx (exd dx (fs.zip vs').reverse)) a (exo a (cA x) (some dx))) a) dx (.xd (fs.zip vs').reverse) = upd H1 dx (.xd (fs.zip vs').reverse) := by
        funext b
        by_cases hb : b = dx
        · subst hb; rw [upd_same, upd_same]
        · rw [upd_ne hb, upd_ne hb]
          by_cases hba : b = a
          · subst hba; rw [del_same, ha]
          · rw [del_ne hba, upd_ne hba, upd_ne hb, upd_ne hba]
      rw [eH]
      exact q _ _ σ dx rl.put_ex (rl.put hdx1 ⟨_, KR.mono rl.put_ex (prev (zip_rel vx)), upd_same⟩) (sr.mono rl.put_ex) Mp.put_at
    · exact (show False from q).elim
end
end Mm

namespace Mm
open PySem L2 PyProof.Rows
/-! ### __init__(self, f): self.f = f -/
section
variable {P : Program} {w : World} {K : PySem.W.Frag} {mg : Str → Option Value} {base : Heap} {x qual : Str} {params : Arguments} {scope : Scope} {f : Addr} {fd : FuncData} {k : Nat} {fl se : Str} {p1 p2 p3 p4 : Pos}
theorem init_ok (F : FunD K x qual params [.Assign [.Attribute (.Name se p1) fl p2] (.Name fl p3) p4] scope [] [] f fd) (Sc : FnScope [se, fl] [se, fl] scope) (ls : Vis scope se) (lf : Vis scope fl)
    (h1 : (se == ("__debug__" : Str)) = false := by decide) (h2 : (fl == ("__debug__" : Str)) = false := by decide) (h3 : (se == ("__classdict__" : Str)) = false := by decide) (h4 : (fl == ("__classdict__" : Str)) = false := by decide) :
    FnOk P w K mg base (L2.CX P w) (k + 1) f fd [se, fl] (spInit K [fl]) := by
  refine F.ok Sc (fun vs H Q E ⟨a, C, ys, e, l, _⟩ => by rw [e]; simp at l ⊢; exact l) (fun cdv A outer s H vs Q E hr hsp => ⟨tOst K fl (L2.tVar 0) (L2.tVar 1), ?_, ?_⟩)
  · refine pss_one (ps_ost (pe_var (i := 0) rfl ls h1 h3) (pe_var (i := 1) rfl lf h2 h4))
  · obtain ⟨a, C, ys, e, l, T, hno, ha, q⟩ := hsp
    subst e
    obtain ⟨y, rfl⟩ : ∃ y, ys = [y] := by
      cases ys with
      | nil => cases l
      | cons y r => cases r with
        | nil => exact ⟨y, rfl⟩
        | cons z r => cases l
    exact ⟨y, rfl, .ref a, rfl, a, C, rfl, T, hno _ List.mem_cons_self, .inl ⟨ha, fun dx hd hne => q dx hd hne⟩⟩
end
/-! ### try -/
def xiOf (lk : Addr → Option (Obj × HO)) (a : Addr) (cls : Value) (d : Option Addr) : Xi := ⟨fun p => if p = a then some (cls, d) else none, lk⟩
abbrev WF : WX := fun _ _ _ _ => False
section
variable {K : PySem.W.Frag} {cA : Str → Addr} {xi : Xi} {R R' : Mp} {S : Sto} {H H' : Hp}
theorem OkO.reXi {xi' : Xi} {p : Addr} {o : MO} (h : OkO K cA xi R H p o) (hl : xi'.lk = xi.lk) (n : ∀ c d, o ≠ .exn c d) : OkO K cA xi' R H p o := by
  cases o with
  | exn c d => exact absurd rfl (n c d)
  | lck kvs => obtain ⟨a, b, r, q, l⟩ := h; exact ⟨a, b, r, q, by rw [hl]; exact l⟩
  | _ => exact h
theorem Rel.calm (r : Rel K cA xi R S H) : Rel K cA ⟨noE, xi.lk⟩ R S.calm H := by
  have gc : ∀ a o, S.calm.g a = some o → ∃ u, S.g a = some u ∧ ((∃ c d, u = .exn c d ∧ o = .gone) ∨ ((∀ c d, u ≠ .exn c d) ∧ o = u)) := fun a o h => by
    unfold Sto.calm Sto.g at h
    rw [List.getElem?_map] at h
    obtain ⟨u, e1, e2⟩ := Option.map_eq_some_iff.mp h
    refine ⟨u, e1, ?_⟩
    cases u with
    | exn c d => exact .inl ⟨c, d, rfl, e2.symm⟩
    | _ => exact .inr ⟨(fun _ _ h => by cases h), e2.symm⟩
  have hn : S.calm.n = S.n := by simp [Sto.calm, Sto.n]
  refine ⟨fun a p h => by rw [hn]; exact r.dom a p h, fun a b p oa ob ha hb ga gb ta tb => ?_, fun a o h => ?_⟩
  · obtain ⟨u, e1, q1⟩ := gc _ _ ga
    obtain ⟨v, e2, q2⟩ := gc _ _ gb
    rcases q1 with ⟨_, _, _, z⟩ | ⟨_, z⟩
    · subst z; cases ta
    · rcases q2 with ⟨_, _, _, z2⟩ | ⟨_, z2⟩
      · subst z2; cases tb
      · subst z z2; exact r.inj a b p _ _ ha hb e1 e2 ta tb
  · obtain ⟨u, e1, q1⟩ := gc _ _ h
    obtain ⟨p, h1, h2⟩ := r.ok _ _ e1
    refine ⟨p, h1, ?_⟩
    rcases q1 with ⟨_, _, _, z⟩ | ⟨n, z⟩
    · subst z; exact True.intro
    · subst z; exact h2.reXi rfl n
theorem Rel.caught {lk : Addr → Option (Obj × HO)} (r : Rel K cA ⟨noE, lk⟩ R S H) {a dp : Addr} {c : Str} {d : Nat} (ha : H a = none) (hd : R d = some dp) : Rel K cA (xiOf lk a (.ref (cA c)) (some dp)) (R.put S.n a) (S.put (.exn c d)) H := by
  have ex : R.ex (R.put S.n a) := r.put_ex
  refine ⟨fun b q h => ?_, fun b c2 q ob oc hb hc gb gc tb tc => ?_, fun b ob gb => ?_⟩
  · rw [Sto.n_put]
    by_cases e : b = S.n
    · omega
    · rw [Mp.put_ne e] at h; have := r.dom _ _ h; omega
  · rcases Sto.g_put_inv gb with ⟨e1, f1⟩ | ⟨e1, f1⟩
    · subst f1; cases tb
    · rcases Sto.g_put_inv gc with ⟨e2, f2⟩ | ⟨e2, f2⟩
      · subst f2; cases tc
      · rw [Mp.put_ne e1] at hb; rw [Mp.put_ne e2] at hc
        exact r.inj _ _ _ _ _ hb hc f1 f2 tb tc
  · rcases Sto.g_put_inv gb with ⟨e1, f1⟩ | ⟨e1, f1⟩
    · subst e1 f1; exact ⟨a, Mp.put_at, dp, ex _ _ hd, if_pos rfl⟩
    · obtain ⟨q, h1, h2⟩ := r.ok _ _ f1
      refine ⟨q, ex _ _ h1, (h2.reXi (xi' := xiOf lk a (.ref (cA c)) (some dp)) rfl fun c2 d2 z => ?_).mono ex fun _ => rfl⟩
      subst z
      obtain ⟨dq, _, z⟩ := h2
      cases z
end
/-- the clauses: a class, the slot of its name, the suite -/
abbrev MH := List (Str × Option Nat × MS)
def offS (io : Option Nat) (σ : L2.St) : L2.St := match io with
  | none => σ
  | some i => σ.set i none
def mOff (io : Option Nat) : RS → RS
  | .nx σ S => .nx (offS io σ) S.calm
  | .rt v S => .rt v S.calm
  | .bk σ S => .bk (offS io σ) S.calm
  | .ct σ S => .ct (offS io σ) S.calm
  | _ => .bad
def onS (io : Option Nat) (σ : L2.St) (n : Nat) : L2.St := match io with
  | none => σ
  | some i => σ.set i (some (.ref n))
def mHs (sub : Str → Str → Option Bool) (c : Str) (d : Nat) (σ : L2.St) (S : Sto) : MH → RS
  | [] => .exc c d σ S
  | (h, io, m) :: r => match sub c h with
    | some true => mOff io (m (onS io σ S.n) (S.put (.exn c d)))
    | some false => mHs sub c d σ S r
    | none => .bad
def mTry (sub : Str → Str → Option Bool) (b : MS) (hs : MH) : MS := fun σ S => match b σ S with
  | .exc c d σ' S' => mHs sub c d σ' S' hs
  | r => r
/-- a suite: its walk, whatever is caught -/
def Sui (X : Cx) (cA : Str → Addr) (lk : Addr → Option (Obj × HO)) (suite : List Stmt) (m : MS) : Prop := ∀ (a : Addr) (oe : Obj) (cls : Value) (d : Option Addr) (pn : List (Addr × Obj)), Zc cls d oe → (∃ vs, oe.data = .fields vs) → SSs (X.suite a ((a, oe) :: pn)) ⟨cA, xiOf lk a cls d, WF⟩ suite m
inductive SH (X : Cx) (cA : Str → Addr) (lk : Addr → Option (Obj × HO)) : List ExceptHandler → MH → Prop
  | nil : SH X cA lk [] []
  | plain {x : Str} {m : MS} {b₀ : Stmt} {suite : List Stmt} {np pos' : Pos} {hds : List ExceptHandler} {l : MH} (hc : Names X x (.ref (cA x))) (hsu : Sui X cA lk (b₀ :: suite) m) (r : SH X cA lk hds l) : SH X cA lk (.ExceptHandler (some (.Name x np)) none (b₀ :: suite) pos' :: hds) ((x, none, m) :: l)
  | named {x n : Str} {i : Nat} {m : MS} {b₀ : Stmt} {suite : List Stmt} {np pos' : Pos} {hds : List ExceptHandler} {l : MH} (hN : X.N.Nodup) (hi : X.N[i]? = some n) (hln : X.env.kindOf n = some .local) (hc : Names X x (.ref (cA x))) (hsu : Sui X cA lk (b₀ :: suite) m) (r : SH X cA lk hds l) :
      SH X cA lk (.ExceptHandler (some (.Name x np)) (some n) (b₀ :: suite) pos' :: hds) ((x, some i, m) :: l)
def hdsOf (K : PySem.W.Frag) (cA : Str → Addr) (lk : Addr → Option (Obj × HO)) (l : MH) : List (Value × Option Nat × (Addr → Value → Option Addr → TS)) := l.map fun h => (.ref (cA h.1), h.2.1, fun a cls d => tS K cA (xiOf lk a cls d) WF h.2.2)
theorem sr_off {R : Mp} {σa σ : L2.St} {i : Nat} (sr : SR R σa σ) : SR R (σa.set i none) (σ.set i none) := pset (F := OR R) (x := none) (y := none) True.intro i sr
section
variable {X : Cx} {cA : Str → Addr} {lk : Addr → Option (Obj × HO)} {W : WX} {body : List Stmt} {h₀ : ExceptHandler} {hds : List ExceptHandler} {l : MH} {mb : MS} {pos : Pos} {sub : Str → Str → Option Bool}
theorem SH.to {hds : List ExceptHandler} (h : SH X cA lk hds l) : HdsOkA X hds (hdsOf X.K cA lk l) := by
  induction h with
  | nil => exact .nil
  | plain hc hsu r ih => exact .plain hc hsu ih
  | named hN hi hln hc hsu r ih => exact .named hN hi hln hc hsu ih
theorem hs_walk {K : PySem.W.Frag} {D : Ends} {c : Str} {d : Nat} {R' : Mp} {H : Hp} {p : Addr} {σ' : L2.St} {S' : Sto} {σc : L2.St} (hsub : ∀ c h b, sub c h = some b → PySem.W.exmOne K (.ref (cA c)) (.ref (cA h)) = some b) (rl : Rel K cA ⟨noE, lk⟩ R' S' H) (sr : SR R' σ' σc) (hd : R' d = some p) :
    ∀ l : MH, AccS K cA ⟨noE, lk⟩ W R' D (mHs sub c d σ' S' l) → wManyA K W D (hdsOf K cA lk l) (.ref (cA c)) (some p) σc H
  | [], q => q R' H σc p (Mp.ex.refl R') rl sr hd
  | (h, io, m) :: r, q => by
    unfold mHs at q
    refine ⟨(sub c h).getD false, ?_⟩
    split at q
    · rename_i e
      rw [e]
      refine ⟨hsub _ _ _ e, fun _ a ha => ?_, fun z => by cases z⟩
      have rl2 := rl.caught (c := c) (a := a) ha hd
      cases io with
      | none =>
        refine ⟨R'.put S'.n a, _, σ', rl2, sr.mono rl.put_ex, ?_⟩
        have q : AccS K cA ⟨noE, lk⟩ W R' D (mOff none (m σ' (S'.put (.exn c d)))) := q
        show AccS _ _ _ _ _ _ (m σ' (S'.put (.exn c d)))
        cases em : m σ' (S'.put (.exn c d)) with
        | nx σ2 S2 => rw [em] at q; exact fun R2 H2 σ3 ex rl3 sr3 => q R2 H2 σ3 (rl.put_ex.trans ex) rl3.calm sr3
        | rt v S2 => rw [em] at q; exact fun R2 H2 w ex rl3 sr3 => q R2 H2 w (rl.put_ex.trans ex) rl3.calm sr3
        | bk σ2 S2 => rw [em] at q; exact fun R2 H2 σ3 ex rl3 sr3 => q R2 H2 σ3 (rl.put_ex.trans ex) rl3.calm sr3
        | ct σ2 S2 => rw [em] at q; exact fun R2 H2 σ3 ex rl3 sr3 => q R2 H2 σ3 (rl.put_ex.trans ex) rl3.calm sr3
        | exc c2 d2 σ2 S2 => rw [em] at q; exact (show False from q).elim
        | bad => rw [em] at q; exact (show False from q).elim
      | some i =>
        refine ⟨R'.put S'.n a, _, σ'.set i (some (.ref S'.n)), rl2, sr_set (sr.mono rl.put_ex) ⟨a, Mp.put_at, rfl⟩, ?_⟩
        have q : AccS K cA ⟨noE, lk⟩ W R' D (mOff (some i) (m (σ'.set i (some (.ref S'.n))) (S'.put (.exn c d)))) := q
        show AccS _ _ _ _ _ _ (m (σ'.set i (some (.ref S'.n))) (S'.put (.exn c d)))
        cases em : m (σ'.set i (some (.ref S'.n))) (S'.put (.exn c d)) with
        | nx σ2 S2 => rw [em] at q; exact fun R2 H2 σ3 ex rl3 sr3 => q R2 H2 _ (rl.put_ex.trans ex) rl3.calm (sr_off (i := i) sr3)
        | rt v S2 => rw [em] at q; exact fun R2 H2 w ex rl3 sr3 => q R2 H2 w (rl.put_ex.trans ex) rl3.calm sr3
        | bk σ2 S2 => rw [em] at q; exact fun R2 H2 σ3 ex rl3 sr3 => q R2 H2 _ (rl.put_ex.trans ex) rl3.calm (sr_off (i := i) sr3)
        | ct σ2 S2 => rw [em] at q; exact fun R2 H2 σ3 ex rl3 sr3 => q R2 H2 _ (rl.put_ex.trans ex) rl3.calm (sr_off (i := i) sr3)
        | exc c2 d2 σ2 S2 => rw [em] at q; exact (show False from q).elim
        | bad => rw [em] at q; exact (show False from q).elim
    · rename_i e
      rw [e]
      exact ⟨hsub _ _ _ e, (fun z => by cases z), fun _ => hs_walk hsub rl sr hd r q⟩
    · exact (show False from q).elim
theorem ss_try (hs : X.stack = X.env :: X.outer) (hf : X.env.frame = some X.env.locals) (tk : Takes X W) (hsub : ∀ c h b, sub c h = some b → PySem.W.exmOne X.K (.ref (cA c)) (.ref (cA h)) = some b)
    (hb : ∀ (W : WX) (pn : List (Addr × Obj)) (xe : Value → Shared → Prop), Takes (X.tr pn xe) W → PassesOwn (model X.prog X.w) X.A X.env xe → SSs (X.tr pn xe) ⟨cA, ⟨noE, lk⟩, W⟩ body mb)
    (hh : SH X cA lk (h₀ :: hds) l) : SS X ⟨cA, ⟨noE, lk⟩, W⟩ (.Try body (h₀ :: hds) [] [] pos) (mTry sub mb l) := PS.imp (ps_try_manyA hs hf tk (tb := fun W => tS X.K cA ⟨noE, lk⟩ W mb) hb hh.to) fun D σ H h => by
  obtain ⟨R, S, σa, rl, sr, q⟩ := h
  refine ⟨R, S, σa, rl, sr, ?_⟩
  unfold mTry at q
  cases e : mb σa S with
  | nx σ2 S2 => rw [e] at q; exact q
  | rt v S2 => rw [e] at q; exact q
  | bk σ2 S2 => rw [e] at q; exact q
  | ct σ2 S2 => rw [e] at q; exact q
  | exc c d σ2 S2 =>
    rw [e] at q
    exact fun R' H' σc p ex rl' sr' hd => hs_walk hsub rl' sr' hd l (AccS.mono ex q)
  | bad => rw [e] at q; exact q
end
/-- a caught error's field -/
def mXf (cs : List Str) (i : Nat) (f : Str) : ME := fun σ S => match σ[i]? with
  | some (some (.ref a)) => match S.g a with
    | some (.exn c d) => if c ∈ cs then (match S.g d with
      | some (.xd fs) => match fs.lookup f with
        | some v => .ok v S
        | none => .bad
      | _ => .bad) else .bad
    | _ => .bad
  | _ => .bad
section
variable {X : Cx} {cA : Str → Addr} {lk : Addr → Option (Obj × HO)} {W : WX} {a : Addr} {oe : Obj} {cls : Value} {d : Option Addr} {pn : List (Addr × Obj)} {x n : Str} {p pos : Pos}
theorem klook {κ : Type} [BEq κ] {R : Mp} {k : κ} : ∀ {fs gs : List (κ × V)}, KR R fs gs → ∀ {v : V}, fs.lookup k = some v → ∃ w, gs.lookup k = some w ∧ VR R v w
  | _, _, .nil, v, h => by cases h
  | (k1, v1) :: r, (k2, v2) :: r2, .cons ⟨e, rv⟩ t, v, h => by
    have e : k2 = k1 := e
    subst e
    rw [List.lookup_cons] at h ⊢
    split at h
    · cases h; exact ⟨v2, rfl, rv⟩
    · exact klook t h
theorem se_xf (i : Nat) (hz : Zc cls d oe) (hf : ∃ vs, oe.data = .fields vs) (cs : List Str) (T : ∀ c ∈ cs, XfC X.K (cA c) ∧ PySem.W.findIn X.K (.ref (cA c)) n = some none) (hN : X.N[i]? = some x := by rfl) (hv : Vis X.env.scope x := by first | exact Or.inl rfl | exact Or.inr (Or.inl rfl) | exact Or.inr (Or.inr rfl))
    (h1 : (x == ("__debug__" : Str)) = false := by decide) (h2 : (x == ("__classdict__" : Str)) = false := by decide) :
    SE (X.suite a ((a, oe) :: pn)) ⟨cA, xiOf lk a cls d, W⟩ (.Attribute (.Name x p) n pos) (mXf cs i n) := by
  refine ⟨fun pins s σ H Q I h => ?_⟩
  obtain ⟨R, S, σa, rl, sr, q⟩ := h
  unfold mXf at q
  split at q
  · rename_i b e1
    split at q
    · rename_i c dd e2
      split at q
      · rename_i hc
        obtain ⟨_, h3, _, rfl, w, q1, rfl⟩ := pget sr e1
        obtain ⟨q2, q3, dp, h5, h6⟩ := rl.ok _ _ e2
        rw [q1] at q3; cases q3
        have h6 : (if w = a then some (cls, d) else none) = some (Value.ref (cA c), some dp) := h6
        split at h6
        · rename_i ea
          cases h6
          subst ea
          split at q
          · rename_i fs e3
            split at q
            · rename_i v e4
              obtain ⟨q5, h7, gs, h8, h9⟩ := rl.ok _ _ e3
              rw [h5] at h7; cases h7
              obtain ⟨u, h10, h11⟩ := klook h8 e4
              obtain ⟨T1, T2⟩ := T c hc
              exact (pe_xf T1 T2 hz hf (pe_var (i := i) hN hv h1 h2)).run pins s σ H Q I ⟨_, h3, rfl, rfl, _, gs, u, rfl, h9, h10, Acc.ok' q rl h11⟩
            · exact bad_elim q
          · exact bad_elim q
        · cases h6
      · exact bad_elim q
    · exact bad_elim q
  · exact bad_elim q
end
end Mm

namespace Mm
open PySem L2 PyProof.Rows
/-! ### a dict locked while it is walked -/
theorem PE.or {X : Cx} {e : Expr} {t t' : TE} (h : PE X e t) (h' : PE X e t') : PE X e (fun σ H Q => t σ H Q ∨ t' σ H Q) := ⟨fun pins s σ H Q I q => q.elim (h.run pins s σ H Q I) (h'.run pins s σ H Q I)⟩
theorem PE.exi {X : Cx} {e : Expr} {ι : Type} {t : ι → TE} (h : ∀ i, PE X e (t i)) : PE X e (fun σ H Q => ∃ i, t i σ H Q) := ⟨fun pins s σ H Q I ⟨i, q⟩ => (h i).run pins s σ H Q I q⟩
theorem PS.or {X : Cx} {e : Stmt} {t t' : TS} (h : PS X e t) (h' : PS X e t') : PS X e (fun D σ H => t D σ H ∨ t' D σ H) := ⟨fun pins s σ H D I q => q.elim (h.run pins s σ H D I) (h'.run pins s σ H D I)⟩
theorem PS.exi {X : Cx} {e : Stmt} {ι : Type} {t : ι → TS} (h : ∀ i, PS X e (t i)) : PS X e (fun D σ H => ∃ i, t i D σ H) := ⟨fun pins s σ H D I ⟨i, q⟩ => (h i).run pins s σ H D I q⟩
abbrev Lk := Addr → Option (Obj × HO)
def Lk.on (lk : Lk) (p : Addr) (x : Obj × HO) : Lk := fun b => if b = p then some x else lk b
section
variable {K : PySem.W.Frag} {cA : Str → Addr} {ex : Addr → Option (Value × Option Addr)} {lk lk' : Lk} {R : Mp} {S : Sto} {H : Hp}
theorem Rel.reLk (r : Rel K cA ⟨ex, lk⟩ R S H) (h : ∀ a kvs p, S.g a = some (.lck kvs) → R a = some p → lk' p = lk p) : Rel K cA ⟨ex, lk'⟩ R S H := by
  refine ⟨r.dom, r.inj, fun a o g => ?_⟩
  obtain ⟨p, h1, h2⟩ := r.ok a o g
  refine ⟨p, h1, ?_⟩
  cases o with
  | lck kvs =>
    obtain ⟨kws, ob, r1, e1, e2⟩ := h2
    exact ⟨kws, ob, r1, e1, (h a kvs p g h1).trans e2⟩
  | _ => exact h2
theorem Rel.lockOn {a : Nat} {p : Addr} {kvs kws : List (Key × V)} {od : Obj} (r : Rel K cA ⟨ex, lk⟩ R S H) (ha : S.g a = some (.dct kvs)) (hr : R a = some p) (rk : KR R kvs kws) :
    Rel K cA ⟨ex, lk.on p (od, .dK kws)⟩ R (S.set a (.lck kvs)) (upd H p (.frz od (.dK kws))) := by
  have r2 : Rel K cA ⟨ex, lk.on p (od, .dK kws)⟩ R S H := r.reLk fun b kvs2 q hb hq => by
    unfold Lk.on
    rw [if_neg]
    intro e; subst e
    have := r.inj _ _ _ _ _ hr hq ha hb rfl rfl
    subst this
    rw [ha] at hb; cases hb
  exact r2.set ha rfl hr ⟨kws, od, rk, upd_same, if_pos rfl⟩
theorem Rel.lockOff {a : Nat} {p : Addr} {kvs : List (Key × V)} {kws : List (Key × V)} {od : Obj} (r : Rel K cA ⟨ex, lk.on p (od, .dK kws)⟩ R S H) (ha : S.g a = some (.lck kvs)) (hr : R a = some p) :
    H p = some (.frz od (.dK kws)) ∧ Rel K cA ⟨ex, lk⟩ R (S.set a (.dct kvs)) (upd H p (.dK kws)) := by
  obtain ⟨p', h1, kws2, o2, rk, e1, e2⟩ := r.ok _ _ ha
  rw [hr] at h1; cases h1
  have e2 : Lk.on lk p (od, .dK kws) p = some (o2, .dK kws2) := e2
  unfold Lk.on at e2
  rw [if_pos rfl] at e2
  cases e2
  have r2 : Rel K cA ⟨ex, lk.on p (od, .dK kws)⟩ R (S.set a (.dct kvs)) (upd H p (.dK kws)) := r.set ha rfl hr ⟨kws, rk, upd_same⟩
  refine ⟨e1, r2.reLk fun b kvs2 q hb hq => ?_⟩
  unfold Lk.on
  rw [if_neg]
  intro e; subst e
  have ga : (S.set a (.dct kvs)).g a = some (.dct kvs) := Sto.g_set_same (Sto.g_lt ha)
  have := r2.inj _ _ _ _ _ hr hq ga hb rfl rfl
  subst this
  rw [ga] at hb; cases hb
end
abbrev Ad := L2.St → Sto → Option Nat
def adV (i : Nat) : Ad := fun σ _ => match σ[i]? with
  | some (some (.ref a)) => some a
  | _ => none
def mLockE (ad : Ad) (m : ME) : ME := fun σ S => match ad σ S with
  | some a => (match S.g a with
    | some (.dct kvs) => (m σ (S.set a (.lck kvs))).noX.bind fun v S2 => (match S2.g a with
      | some (.lck kvs2) => .ok v (S2.set a (.dct kvs2))
      | _ => .bad)
    | _ => m σ S)
  | none => m σ S
def mUnl (a : Nat) (k : Sto → RS) (S2 : Sto) : RS := match S2.g a with
  | some (.lck kvs2) => k (S2.set a (.dct kvs2))
  | _ => .bad
def mLockS (ad : Ad) (m : MS) : MS := fun σ S => match ad σ S with
  | some a => (match S.g a with
    | some (.dct kvs) => (match m σ (S.set a (.lck kvs)) with
      | .nx σ2 S2 => mUnl a (.nx σ2) S2
      | .rt v S2 => mUnl a (.rt v) S2
      | .bk σ2 S2 => mUnl a (.bk σ2) S2
      | .ct σ2 S2 => mUnl a (.ct σ2) S2
      | _ => .bad)
    | _ => m σ S)
  | none => m σ S
section
variable {X : Cx} {cA : Str → Addr} {ex : Addr → Option (Value × Option Addr)} {lk : Lk} {W : WX}
theorem se_lock {e : Expr} {m : ME} (ad : Ad) (h : ∀ lk, SE X ⟨cA, ⟨ex, lk⟩, W⟩ e m) : SE X ⟨cA, ⟨ex, lk⟩, W⟩ e (mLockE ad m) :=
  PE.imp (PE.or (h lk) (pe_lock (PE.exi h))) fun σ H Q hq => by
    obtain ⟨R, S, σa, rl, sr, q⟩ := hq
    unfold mLockE at q
    split at q
    · rename_i a ea
      split at q
      · rename_i kvs ga
        obtain ⟨p, hp, kws, rk, hH⟩ := rl.ok _ _ ga
        refine .inr ⟨p, .dK kws, hH, True.intro, fun od => ⟨lk.on p (od, .dK kws), R, _, σa, rl.lockOn ga hp rk, sr, ?_⟩⟩
        cases em : m σa (S.set a (.lck kvs)) with
        | ok v S2 =>
          rw [em] at q
          have q : Acc X.K cA ⟨ex, lk⟩ VR R W σ Q (match S2.g a with
            | some (.lck kvs2) => .ok v (S2.set a (.dct kvs2))
            | _ => .bad) := q
          intro R' H' b e2 rl2 vb
          split at q
          · rename_i kvs2 g2
            obtain ⟨z1, z2⟩ := rl2.lockOff g2 (e2 _ _ hp)
            exact ⟨z1, q R' _ b e2 z2 vb⟩
          · exact bad_elim q
        | exc c d S2 => rw [em] at q; exact bad_elim q
        | bad => rw [em] at q; exact bad_elim q
      · exact .inl ⟨R, S, σa, rl, sr, q⟩
    · exact .inl ⟨R, S, σa, rl, sr, q⟩
theorem ss_lock {e : Stmt} {m : MS} (ad : Ad) (h : ∀ lk, SS X ⟨cA, ⟨ex, lk⟩, W⟩ e m) : SS X ⟨cA, ⟨ex, lk⟩, W⟩ e (mLockS ad m) :=
  PS.imp (PS.or (h lk) (ps_lock (PS.exi h))) fun D σ H hq => by
    obtain ⟨R, S, σa, rl, sr, q⟩ := hq
    unfold mLockS at q
    split at q
    · rename_i a ea
      split at q
      · rename_i kvs ga
        obtain ⟨p, hp, kws, rk, hH⟩ := rl.ok _ _ ga
        refine .inr ⟨p, .dK kws, hH, True.intro, fun od => ⟨lk.on p (od, .dK kws), R, _, σa, rl.lockOn ga hp rk, sr, ?_⟩⟩
        have un : ∀ {k : Sto → RS} {S2 : Sto} {R' : Mp} {H' : Hp}, R.ex R' → Rel X.K cA ⟨ex, lk.on p (od, .dK kws)⟩ R' S2 H' → AccS X.K cA ⟨ex, lk⟩ W R D (mUnl a k S2) →
            H' p = some (.frz od (.dK kws)) ∧ ∃ S3, AccS X.K cA ⟨ex, lk⟩ W R D (k S3) ∧ Rel X.K cA ⟨ex, lk⟩ R' S3 (upd H' p (.dK kws)) := fun {k S2 R' H'} e2 rl2 q => by
          unfold mUnl at q
          split at q
          · rename_i kvs2 g2
            obtain ⟨z1, z2⟩ := rl2.lockOff g2 (e2 _ _ hp)
            exact ⟨z1, _, q, z2⟩
          · exact (show False from q).elim
        show AccS _ _ _ _ _ _ (m σa (S.set a (.lck kvs)))
        cases em : m σa (S.set a (.lck kvs)) with
        | nx σ2 S2 =>
          rw [em] at q
          intro R' H' b e2 rl2 vb
          obtain ⟨z1, S3, z3, z2⟩ := un e2 rl2 q
          exact ⟨z1, z3 R' _ b e2 z2 vb⟩
        | rt v S2 =>
          rw [em] at q
          intro R' H' b e2 rl2 vb
          obtain ⟨z1, S3, z3, z2⟩ := un e2 rl2 q
          exact ⟨z1, z3 R' _ b e2 z2 vb⟩
        | bk σ2 S2 =>
          rw [em] at q
          intro R' H' b e2 rl2 vb
          obtain ⟨z1, S3, z3, z2⟩ := un e2 rl2 q
          exact ⟨z1, z3 R' _ b e2 z2 vb⟩
        | ct σ2 S2 =>
          rw [em] at q
          intro R' H' b e2 rl2 vb
          obtain ⟨z1, S3, z3, z2⟩ := un e2 rl2 q
          exact ⟨z1, z3 R' _ b e2 z2 vb⟩
        | exc c d σ2 S2 => rw [em] at q; exact (show False from q).elim
        | bad => rw [em] at q; exact (show False from q).elim
      · exact .inl ⟨R, S, σa, rl, sr, q⟩
    · exact .inl ⟨R, S, σa, rl, sr, q⟩
end
/-! ### dicts, strings walked -/
def Sto.lkd (S : Sto) (a : Nat) : Option (List (Key × V)) := match S.g a with
  | some (.lck xs) => some xs
  | _ => none
def mKv (y : Key × V → Yd) (m : ME) : MI := fun σ S => (m σ S).bind fun x S1 => match x with
  | .ref a => match S1.lkd a with
    | some kvs => .ok ⟨kvs.map y, fun S => decide (S.lkd a = some kvs)⟩ S1
    | none => .bad
  | _ => .bad
def mKeys : ME → MI := mKv fun kv => .one (kV kv.1)
def mVals : ME → MI := mKv fun kv => .one kv.2
def mItems : ME → MI := mKv fun kv => .tup [kV kv.1, kv.2]
def mStr (m : ME) : MI := fun σ S => (m σ S).bind fun x S1 => match x with
  | .str z => .ok ⟨z.cps.toList.map fun c => .one (.str ⟨#[c]⟩), fun _ => true⟩ S1
  | _ => .bad
section
variable {X : Cx} {c : Cw} {tg e : Expr} {m : ME} {pos apos cpos : Pos}
theorem Rel.lkd {K : PySem.W.Frag} {cA : Str → Addr} {xi : Xi} {R : Mp} {S : Sto} {H : Hp} {a : Nat} {kvs : List (Key × V)} (r : Rel K cA xi R S H) (h : S.lkd a = some kvs) : ∃ p kws o, R a = some p ∧ KR R kvs kws ∧ H p = some (.frz o (.dK kws)) ∧ xi.lk p = some (o, .dK kws) := by
  unfold Sto.lkd at h
  split at h
  · rename_i xs e
    cases h
    obtain ⟨p, h1, kws, o, h2, h3, h4⟩ := r.ok _ _ e
    exact ⟨p, kws, o, h1, h2, h3, h4⟩
  · cases h
theorem VR.kV {R : Mp} (k : Key) : VR R (kV k) (kV k) := by cases k <;> rfl
theorem kv_sim {σ : L2.St} {H : Hp} {Rk : It → Hp → Prop} {y : Key × V → Yd} {J : Addr → Obj → List (Key × V) → It} (h : tG X.K c.cA c.xi c.W (relI X.K c) (mKv y m) σ H Rk)
    (hJ : ∀ (R : Mp) (d : Addr) (o : Obj) (kvs kws : List (Key × V)), KR R kvs kws → ∀ i,
      (∀ H, H d = some (.frz o (.dK kws)) → kws.length ≤ i → (J d o kws).stop i H) ∧ (∀ H, H d = some (.frz o (.dK kws)) → i < kws.length → (J d o kws).go i H) ∧
      (∀ H v' H' kv, (J d o kws).yld i H v' H' → kvs[i]? = some kv → YOk R (y kv) v' H H')) :
    tM X.K c.cA c.xi c.W m σ H fun x H1 => ∃ d o kvs, x = .ref d ∧ H1 d = some (.frz o (.dK kvs)) ∧ Rk (J d o kvs) H1 := by
  refine (tG.step (rel := VR) h).imp fun x' H1 ⟨R, S, σa, x, rl, sr, vx, q⟩ => ?_
  split at q
  · rename_i a
    split at q
    · rename_i kvs ek
      obtain ⟨p, kws, o, hp, rk, hH, hlk⟩ := rl.lkd ek
      obtain ⟨p', hp', rfl⟩ := vx
      rw [hp] at hp'; cases hp'
      refine ⟨p, o, kws, rfl, hH, Acc.ok' q rl ?_⟩
      have key : ∀ R' S' H', R.ex R' → Rel X.K c.cA c.xi R' S' H' → decide (S'.lkd a = some kvs) = true → H' p = some (.frz o (.dK kws)) := fun R' S' H' ex rl' hk => by
        obtain ⟨p', zs, o', hp', r2, k2, k3⟩ := rl'.lkd (of_decide_eq_true hk)
        rw [ex _ _ hp] at hp'; cases hp'
        rw [hlk] at k3; cases k3
        exact k2
      refine ⟨fun R' S' H' ex rl' hk => ?_, fun R' S' H' i ex rl' hk hi => ?_, fun R' S' H' i z v' H'' ex rl' hk hy yl => ?_⟩
      · exact (hJ R' p o kvs kws (rk.mono ex) _).1 _ (key R' S' H' ex rl' hk) (by simp [Paired.length rk])
      · exact (hJ R' p o kvs kws (rk.mono ex) _).2.1 _ (key R' S' H' ex rl' hk) (by rw [← Paired.length rk]; simpa using hi)
      · have hy' : (kvs.map y)[i]? = some z := hy
        rw [List.getElem?_map] at hy'
        obtain ⟨kv, e1, rfl⟩ := Option.map_eq_some_iff.mp hy'
        exact (hJ R' p o kvs kws (rk.mono ex) i).2.2 _ _ _ _ yl e1
    · exact bad_elim q
  · exact bad_elim q
theorem si_keys (h : SE X c e m) : SI X c tg e (mKeys m) := PI.imp (pi_keys h) fun σ H Rk h => by
  refine (kv_sim (J := Itk) h fun R d o kvs kws rk i => ⟨fun H h1 h2 => ⟨h1, h2⟩, fun H h1 h2 => ⟨h1, h2⟩, fun H v' H' kv yl e => ?_⟩).imp fun x H1 ⟨d, o, kvs, e1, e2, q⟩ => ⟨d, o, e1, .inl ⟨kvs, e2, q⟩⟩
  obtain ⟨rfl, k, v, e1, rfl⟩ := yl
  obtain ⟨kw, e2, e3, e4⟩ := pget rk e
  rw [e1] at e2; cases e2
  cases e3
  exact ⟨rfl, VR.kV _⟩
theorem si_values (h : SE X c e m) (hbase : attributeBase e "values" X.env (eval e X.env) = eval e X.env := by rfl) (hline : (apos.endLine == cpos.line) = true := by rfl) : SI X c tg (.Call (.Attribute e "values" apos) [] [] cpos) (mVals m) :=
  PI.imp (pi_values h hbase hline) fun σ H Rk h => by
    refine (kv_sim (J := Itd) h fun R d o kvs kws rk i => ⟨fun H h1 h2 => ⟨h1, h2⟩, fun H h1 h2 => ⟨h1, h2⟩, fun H v' H' kv yl e => ?_⟩).imp fun x H1 ⟨d, o, kvs, e1, e2, q⟩ => ⟨d, o, kvs, e1, e2, q⟩
    obtain ⟨rfl, k, e1⟩ := yl
    obtain ⟨kw, e2, e3, e4⟩ := pget rk e
    rw [e1] at e2; cases e2
    exact ⟨rfl, e4⟩
theorem si_items {elts : List Expr} {kk : Nat} {tpos : Pos} (h : SE X c e m) (hbase : attributeBase e "items" X.env (eval e X.env) = eval e X.env := by rfl) (hline : (apos.endLine == cpos.line) = true := by rfl) : SI X c (.Tuple elts kk tpos) (.Call (.Attribute e "items" apos) [] [] cpos) (mItems m) :=
  PI.imp (pi_items h hbase hline) fun σ H Rk h => by
    refine (kv_sim (J := Iti) h fun R d o kvs kws rk i => ⟨fun H h1 h2 => ⟨h1, h2⟩, fun H h1 h2 => ⟨h1, h2⟩, fun H v' H' kv yl e => ?_⟩).imp fun x H1 ⟨d, o, kvs, e1, e2, q⟩ => ⟨d, o, kvs, e1, e2, q⟩
    obtain ⟨T, k, v, e1, rfl, hT, rfl⟩ := yl
    obtain ⟨kw, e2, e3, e4⟩ := pget rk e
    rw [e1] at e2; cases e2
    cases e3
    exact ⟨T, _, rfl, hT, rfl, .cons (VR.kV _) (.cons e4 .nil)⟩
theorem si_str (h : SE X c e m) : SI X c tg e (mStr m) := PI.imp (pi_str h) fun σ H Rk h => by
  refine (tG.step (rel := VR) h).imp fun x' H1 ⟨R, S, σa, x, rl, sr, vx, q⟩ => ?_
  split at q
  · rename_i z
    refine ⟨z, vx, Acc.ok' q rl ?_⟩
    refine ⟨fun R' S' H' ex rl' hk => ?_, fun R' S' H' i ex rl' hk hi => ?_, fun R' S' H' i y v' H'' ex rl' hk hy yl => ?_⟩
    · show z.cps.size ≤ _
      simp
    · show i < z.cps.size
      simpa using hi
    · obtain ⟨rfl, ch, e1, rfl⟩ := yl
      have hy' : (z.cps.toList.map fun c => Yd.one (.str ⟨#[c]⟩))[i]? = some y := hy
      rw [List.getElem?_map] at hy'
      obtain ⟨v, e2, rfl⟩ := Option.map_eq_some_iff.mp hy'
      rw [Array.getElem?_toList, e1] at e2
      cases e2
      exact ⟨rfl, rfl⟩
  · exact bad_elim q
end
/-! ### list(range(..)) -/
def mkRg (tup : Bool) (a b : Int) (S : Sto) : Res V := if -two62 ≤ a ∧ a < two62 ∧ -two62 ≤ b ∧ b < two62 ∧ (b - a).toNat ≤ 16777216 then .ok (.ref S.n) (S.put (if tup = true then .tup (rgV a b) else .lst (rgV a b))) else .bad
def mLRg1 (tup : Bool) (m : ME) : ME := fun σ S => (m σ S).bind fun x S1 => match x with
  | .int n => mkRg tup 0 n S1
  | _ => .bad
def mLRg2 (tup : Bool) (m m2 : ME) : ME := fun σ S => (m σ S).bind fun x S1 => (m2 σ S1).bind fun y S2 => match x, y with
  | .int a, .int b => mkRg tup a b S2
  | _, _ => .bad
section
variable {X : Cx} {c : Cw} {a b : Expr} {m m2 : ME} {pos : Pos} {p p2 pos2 : Pos}
theorem rg_vrs {R : Mp} (a b : Int) : VRs R (rgV a b) (rgV a b) := by
  unfold rgV
  induction List.range (b - a).toNat with
  | nil => exact .nil
  | cons i r ih => exact .cons rfl ih
theorem rg_sim {R : Mp} {S : Sto} {H : Hp} {σ : L2.St} {Q : VK} {W : WX} {a b : Int} {tup : Bool} (rl : Rel X.K c.cA c.xi R S H) (q : Acc X.K c.cA c.xi VR R W σ Q (mkRg tup a b S)) :
    RgOk a b ∧ ∀ p, H p = none → Q (.ref p) (upd H p (if tup = true then .tup (rgV a b) else .lst (rgV a b))) := by
  unfold mkRg at q
  split at q
  · rename_i h
    obtain ⟨h1, h2, h3, h4, h5⟩ := h
    refine ⟨⟨h1, h2, h3, h4, h5⟩, fun p hp => ?_⟩
    cases tup with
    | true => exact q _ _ _ rl.put_ex (rl.put hp ⟨_, rg_vrs a b, upd_same⟩) ⟨p, Mp.put_at, rfl⟩
    | false => exact q _ _ _ rl.put_ex (rl.put hp ⟨_, rg_vrs a b, upd_same⟩) ⟨p, Mp.put_at, rfl⟩
  · exact bad_elim q
theorem se_lrg1 (hc : X.calm = true) (hg : Gl X "list") (hm : X.mg "list" = none) (hg2 : Gl X "range") (hm2 : X.mg "range" = none) (ha : SE X c a m) (na : starEach [a] X.env = (false, eval a X.env) :: starEach [] X.env := by rfl)
    (na2 : starEach [.Call (.Name "range" p2) [a] [] pos2] X.env = (false, eval (.Call (.Name "range" p2) [a] [] pos2) X.env) :: starEach [] X.env := by rfl) : SE X c (.Call (.Name "list" p) [.Call (.Name "range" p2) [a] [] pos2] [] pos) (mLRg1 false m) :=
  PE.imp (pe_listRg hc hg hm (prg_1 hg2 hm2 ha na) na2) fun σ H Q h => by
    refine (tG.step (rel := VR) h).imp fun x' H1 ⟨R, S, σa, x, rl, sr, vx, q⟩ => ?_
    split at q
    · obtain ⟨h1, h2⟩ := rg_sim rl q
      exact ⟨_, vx, h1, h2⟩
    · exact bad_elim q
theorem se_lrg2 (hc : X.calm = true) (hg : Gl X "list") (hm : X.mg "list" = none) (hg2 : Gl X "range") (hm2 : X.mg "range" = none) (ha : SE X c a m) (hb : SE X c b m2) (na : starEach [a, b] X.env = (false, eval a X.env) :: starEach [b] X.env := by rfl) (nb : starEach [b] X.env = (false, eval b X.env) :: starEach [] X.env := by rfl)
    (hp : (backTo pos2 (starEach [b] X.env)).any (·.1) = false := by rfl) (na2 : starEach [.Call (.Name "range" p2) [a, b] [] pos2] X.env = (false, eval (.Call (.Name "range" p2) [a, b] [] pos2) X.env) :: starEach [] X.env := by rfl) :
    SE X c (.Call (.Name "list" p) [.Call (.Name "range" p2) [a, b] [] pos2] [] pos) (mLRg2 false m m2) :=
  PE.imp (pe_listRg hc hg hm (prg_2 hg2 hm2 ha hb na nb hp) na2) fun σ H Q h => by
    refine (tG.step (rel := VR) h).imp fun x' H1 ⟨R, S, σa, x, rl, sr, vx, q⟩ => ?_
    refine (tG.next (rel := VR) rl sr q).imp fun y' H2 ⟨R2, S2, y, e2, rl2, vy, q2⟩ => ?_
    split at q2
    · obtain ⟨h1, h2⟩ := rg_sim rl2 q2
      exact ⟨_, _, vx, vy, h1, h2⟩
    · exact bad_elim q2
theorem se_trg1 (hc : X.calm = true) (hg : Gl X "tuple") (hm : X.mg "tuple" = none) (hg2 : Gl X "range") (hm2 : X.mg "range" = none) (ha : SE X c a m) (na : starEach [a] X.env = (false, eval a X.env) :: starEach [] X.env := by rfl)
    (na2 : starEach [.Call (.Name "range" p2) [a] [] pos2] X.env = (false, eval (.Call (.Name "range" p2) [a] [] pos2) X.env) :: starEach [] X.env := by rfl) : SE X c (.Call (.Name "tuple" p) [.Call (.Name "range" p2) [a] [] pos2] [] pos) (mLRg1 true m) :=
  PE.imp (pe_tupRg hc hg hm (prg_1 hg2 hm2 ha na) na2) fun σ H Q h => by
    refine (tG.step (rel := VR) h).imp fun x' H1 ⟨R, S, σa, x, rl, sr, vx, q⟩ => ?_
    split at q
    · obtain ⟨h1, h2⟩ := rg_sim rl q
      exact ⟨_, vx, h1, h2⟩
    · exact bad_elim q
end
end Mm

namespace Mm
open PySem L2 PyProof.Rows He
/-! ### facts of the head -/
def oexB (K : PySem.W.Frag) (C : Addr) : Bool := (match K.lookup C with
  | some ⟨.type t, _, .cls cd, sl⟩ => (match cd.mro, sl.toList with
    | .ref C' :: bm, [_, _, _, _, some (.builtin n), _] => decide (t = "type") && decide (C' = C) && decide (n = "ValueError.__new__") && !cd.hasDel && cd.hasDict && PySem.HandSPX.refsVE bm
    | _, _ => false)
  | _ => false) && (decide (PySem.W.findIn K (.ref C) "__setattr__" = some (some (.builtin "object.__setattr__"))) && (decide (PySem.W.subIn K (.ref C) (.type "BaseException") = some true) && (decide (PySem.W.typeIn K (.ref C) = some (.type "type")) && PySem.W.keepIn K (.ref C))))
theorem oexB_ok {K : PySem.W.Frag} {C : Addr} (h : oexB K C = true) : OexC K C := by
  obtain ⟨q, h⟩ := ba h
  obtain ⟨h1, h⟩ := ba h
  obtain ⟨h2, h⟩ := ba h
  obtain ⟨h3, h4⟩ := ba h
  refine ⟨?_, of_decide_eq_true h1, of_decide_eq_true h2, of_decide_eq_true h3, h4⟩
  split at q
  · rename_i t dd cd sl ho
    split at q
    · rename_i C' bm k0 k1 k2 k3 n k5 hm hs
      simp only [Bool.and_eq_true, decide_eq_true_eq, Bool.not_eq_true'] at q
      obtain ⟨⟨⟨⟨⟨rfl, rfl⟩, rfl⟩, hdel⟩, hdict⟩, ht⟩ := q
      obtain ⟨nm, bs, mro, ns, qn, hd, sn, sub, ab, col, del⟩ := cd
      dsimp only at hm hdel hdict
      subst hm hdel hdict
      have hsl : sl = #[k0, k1, k2, k3, some (.builtin "ValueError.__new__"), k5] := by
        obtain ⟨l⟩ := sl
        simp only at hs
        rw [hs]
      subst hsl
      exact ⟨nm, qn, ns, bs, bm, sn, sub, ab, col, dd, k0, k1, k2, k3, k5, ho, ht⟩
    · cases q
  · cases q
/-- an own error class x, its __init__ (of the class y) keeps the fields fs -/
def exB (K : PySem.W.Frag) (x : Str) (fs : List Str) : Bool := oexB K (ga K x) && (fs.all fun f => decide (PySem.W.findIn K (.ref (ga K x)) f = some none))
def exI (K : PySem.W.Frag) (x y : Str) : Bool := decide (PySem.W.findIn K (.ref (ga K x)) "__init__" = some (some (.ref (ma K (ga K y) "__init__")))) && decide (PySem.W.typeIn K (.ref (ma K (ga K y) "__init__")) = some (.type "function"))
theorem exC_ok {K : PySem.W.Frag} {x y : Str} {fs : List Str} (h : exB K x fs = true) (h2 : exI K x y = true) : ExC K (ga K x) (ma K (ga K y) "__init__") fs := by
  obtain ⟨a, b⟩ := ba h
  obtain ⟨c, d⟩ := ba h2
  exact ⟨oexB_ok a, of_decide_eq_true c, of_decide_eq_true d, fun f hf => of_decide_eq_true (List.all_eq_true.mp b f hf)⟩
/-- what the Hook looks at besides -/
structure HX where
  ex : List (Str × List Str) := []
  ei : List (Str × Str) := []
  xf : List Str := []
  em : List (Str × Str × Bool) := []
  ts : List (Str × List Dv) := []
  ls : List (Str × List Dv) := []
  ks : List Str := []
def HX.b (x : HX) (K : PySem.W.Frag) : Bool := (x.ex.all fun p => exB K p.1 p.2) && ((x.ei.all fun p => exI K p.1 p.2) && ((x.xf.all fun p => xfB K (ga K p)) && ((x.em.all fun p => decide (PySem.W.exmOne K (.ref (ga K p.1)) (.ref (ga K p.2.1)) = some p.2.2)) && ((x.ts.all fun p => tupB K p.1 p.2) && (x.ls.all fun p => lstB K p.1 p.2)))))
section
variable {x : HX} {K : PySem.W.Frag} (h : x.b K = true)
include h
theorem HX.exOk (i : Nat) {p : Str × List Str} (e : x.ex[i]? = some p := by rfl) : exB K p.1 p.2 = true := List.all_eq_true.mp (ba h).1 p (List.mem_of_getElem? e)
theorem HX.eiOk (i : Nat) {p : Str × Str} (e : x.ei[i]? = some p := by rfl) : exI K p.1 p.2 = true := List.all_eq_true.mp (ba (ba h).2).1 p (List.mem_of_getElem? e)
theorem HX.xfOk (p : Str) (e : p ∈ x.xf) : XfC K (ga K p) := xfB_ok (List.all_eq_true.mp (ba (ba (ba h).2).2).1 p e)
theorem HX.emOk (p : Str × Str × Bool) (e : p ∈ x.em) : PySem.W.exmOne K (.ref (ga K p.1)) (.ref (ga K p.2.1)) = some p.2.2 := of_decide_eq_true (List.all_eq_true.mp (ba (ba (ba (ba h).2).2).2).1 p e)
theorem HX.tsOk (i : Nat) {p : Str × List Dv} (e : x.ts[i]? = some p := by rfl) : tupB K p.1 p.2 = true := List.all_eq_true.mp (ba (ba (ba (ba (ba h).2).2).2).2).1 p (List.mem_of_getElem? e)
theorem HX.lsOk (i : Nat) {p : Str × List Dv} (e : x.ls[i]? = some p := by rfl) : lstB K p.1 p.2 = true := List.all_eq_true.mp (ba (ba (ba (ba (ba h).2).2).2).2).2 p (List.mem_of_getElem? e)
end
def subOf (l : List (Str × Str × Bool)) (c h : Str) : Option Bool := (l.find? fun p => p.1 == c && p.2.1 == h).map (·.2.2)
theorem subOf_ok {K : PySem.W.Frag} {l : List (Str × Str × Bool)} (h : ∀ p ∈ l, PySem.W.exmOne K (.ref (ga K p.1)) (.ref (ga K p.2.1)) = some p.2.2) (c x : Str) (b : Bool) (e : subOf l c x = some b) : PySem.W.exmOne K (.ref (ga K c)) (.ref (ga K x)) = some b := by
  unfold subOf at e
  obtain ⟨p, e1, rfl⟩ := Option.map_eq_some_iff.mp e
  have e2 := List.find?_some e1
  have m := List.mem_of_find?_eq_some e1
  obtain ⟨z1, z2⟩ := ba e2
  have z := h p m
  rw [eq_of_beq z1, eq_of_beq z2] at z
  exact z
abbrev AlX : Type := Bool × AlD
def hookX (n : Nat) (fa : List Fa) (fn : List DefD) (x : HX) : PySem.W.Hook where
  α := AlX
  obs := fun s => (x.b (frG s.heap.get? (asD s.heap.get? n)), obsDG n fa fn s.heap.get?)
  val := fun _ => (true, valD fn)
  says := fun _ h => ∃ K : PySem.W.Frag, K.In h ∧ SaysD fa fn K ∧ x.b K = true
  of := fun _ _ e => ⟨_, frG_in, congrArg (fun z : AlX => z.2) e, congrArg (fun z : AlX => z.1) e⟩
  keeps := fun _ _ _ ⟨K, hK, c⟩ k => ⟨K, PySem.W.Frag.In.keeps hK k, c⟩
def obX (n : Nat) (fa : List Fa) (fn : List DefD) (x : HX) (s : PySem.W.SharedT) : AlX := (x.b (frG (HandSHeadRun.getT s) (asD (HandSHeadRun.getT s) n)), obsDG n fa fn (HandSHeadRun.getT s))
theorem obX_eq {n : Nat} {fa : List Fa} {fn : List DefD} {x : HX} (s : PySem.W.SharedT) : obX n fa fn x s = (hookX n fa fn x).obs s.abs := by
  have e : HandSHeadRun.getT s = s.abs.heap.get? := funext (HandSHeadRun.getT_eq s)
  unfold obX
  rw [e] <;> rfl
/-! ### a def of the text that keeps its mirror's promise -/
structure OkF (P : Program) (w : World) (K : PySem.W.Frag) (mg : Str → Option Value) (base : Heap) (k : Nat) (x : Str) (st : Stmt) (ps : List Str) (m : MF) : Prop where
  ex : ∃ fd, FunD K x x (defArgs st) (defBody st) (defScope st) [] [] (ga K x) fd ∧ FnOk P w K mg base (L2.CX P w) k (ga K x) fd ps (spM K (ga K) m) ∧ Binds K fd ps []
structure OkI (P : Program) (w : World) (K : PySem.W.Frag) (mg : Str → Option Value) (base : Heap) (k : Nat) (x : Str) (ps fs : List Str) : Prop where
  ex : ∃ fI fd, ExC K (ga K x) fI fs ∧ FnOk P w K mg base (L2.CX P w) k fI fd ps (spInit K fs) ∧ Binds K fd ps []
section
variable {P : Program} {w : World} {K : PySem.W.Frag} {mg : Str → Option Value} {base : Heap} {k j : Nat} {x : Str} {st : Stmt} {ps N fs : List Str} {m : MF}
theorem OkF.mono (h : OkF P w K mg base j x st ps m) (l : j ≤ k) : OkF P w K mg base k x st ps m := by
  obtain ⟨fd, F, G, B⟩ := h.ex
  exact ⟨fd, F, G.mono l, B⟩
theorem fn_bad {CX : CXT} {f : Addr} {fd : FuncData} {cA : Str → Addr} : FnOk P w K mg base CX k f fd ps (spM K cA fun _ _ => .bad) := ⟨fun vs H Q E ⟨lk, R, S, us, a, b, c⟩ => bad_elim c, fun A outer s H args us vs Q E hr e0 hb rv ⟨lk, R, S, us', a, b, c⟩ => bad_elim c⟩
theorem OkF.of {b : MS} (F : ∃ fd, FunD K x x (defArgs st) (defBody st) (defScope st) [] [] (ga K x) fd) (Sc : FnScope N ps (defScope st))
    (hb : ∀ (kV doc pm : Value) (an : Option Addr) (cdv ct : Value) (us : List Value), us.length = ps.length → bindArgs (PySem.W.fnOf x x (defArgs st) (defBody st) (defScope st) .none kV doc pm an cdv ct) ⟨us, []⟩ = pure (ps.zip us))
    (h : ∀ (f : Addr) (cdv : Value) (A : Around) (outer : List Env) (s : Shared) (H : Hp) (E : XK), Room k (A.deeper (envOfC x (defScope st) s.heap.objs.size f cdv)) → ∀ lk, SSs (cxOf (L2.CX P w) P w K mg base N x (defScope st) f cdv A outer s H E) (cwOf (ga K) lk E) (defBody st) b) :
    OkF P w K mg base (k + 1) x st ps (mFn N.length ps.length b) := by
  obtain ⟨fd, F⟩ := F
  exact ⟨fd, F, fn_ok F Sc (ga K) (h _), F.bindsN hb⟩
theorem OkF.bad (F : ∃ fd, FunD K x x (defArgs st) (defBody st) (defScope st) [] [] (ga K x) fd)
    (hb : ∀ (kV doc pm : Value) (an : Option Addr) (cdv ct : Value) (us : List Value), us.length = ps.length → bindArgs (PySem.W.fnOf x x (defArgs st) (defBody st) (defScope st) .none kV doc pm an cdv ct) ⟨us, []⟩ = pure (ps.zip us)) :
    OkF P w K mg base k x st ps (fun _ _ => .bad) := by
  obtain ⟨fd, F⟩ := F
  exact ⟨fd, F, fn_bad, F.bindsN hb⟩
end
section
variable {X : Cx} {lk : Lk} {W : WX} {k : Nat} {ps ks fs : List Str} {m : MF} {x : Str} {p pos : Pos} {e : Expr} {es : List Expr} {t tk' : MA} {kws : List Keyword} {st : Stmt}
theorem se_callF (tk : Takes X W) (O : OkF X.prog X.w X.K X.mg X.base k x st ps m) (hr : Room k X.A) (hg : Gl X x) (hm : X.mg x = some (.ref (ga X.K x)))
    (ha : SA X ⟨ga X.K, ⟨noE, lk⟩, W⟩ (e :: es) t) (hdb : (x == ("__debug__" : Str)) = false := by decide) (he : starEach (e :: es) X.env = (false, eval e X.env) :: starEach es X.env := by rfl) (hpl : (backTo pos (starEach es X.env)).any (·.1) = false := by rfl) :
    SE X ⟨ga X.K, ⟨noE, lk⟩, W⟩ (.Call (.Name x p) (e :: es) [] pos) (mCB m t) := by
  obtain ⟨fd, F, G, B⟩ := O.ex
  exact se_call tk G hr hg hm F.kp B ha hdb he hpl
theorem se_callKF {g : {α : Type} → List α → List α → List α} (ks : List Str) (hgr : ∀ {R : Mp} {zs zs' : List V}, zs.length = ks.length → VRs R zs zs' → VRs R (g [] zs) (g [] zs')) (hrel : ∀ {vs zs : List V} {us ws : List Value}, Vals vs us → Vals zs ws → Vals (g vs zs) (g us ws)) (tk : Takes X W) (O : OkF X.prog X.w X.K X.mg X.base k x st ps m) (hr : Room k X.A) (hg : Gl X x) (hm : X.mg x = some (.ref (ga X.K x)))
    (hb : ∀ (kV doc pm : Value) (an : Option Addr) (cdv ct : Value) (us ws : List Value), us.length = 0 → ws.length = ks.length → bindArgs (PySem.W.fnOf x x (defArgs st) (defBody st) (defScope st) .none kV doc pm an cdv ct) ⟨us, ks.zip ws⟩ = pure (ps.zip (g us ws)))
    (hkw : SK X ⟨ga X.K, ⟨noE, lk⟩, W⟩ kws tk')
    (hall : (backToKw pos (keywordEach kws X.env)).all (·.1.isSome) = true := by rfl) (hks : (backToKw pos (keywordEach kws X.env)).filterMap (·.1) = ks := by rfl) (hdb : (x == ("__debug__" : Str)) = false := by decide)
    (hpl : ((backTo pos (starEach [] X.env)).any (·.1) || (backToKw pos (keywordEach kws X.env)).any (·.1.isNone)) = false := by rfl) :
    SE X ⟨ga X.K, ⟨noE, lk⟩, W⟩ (.Call (.Name x p) [] kws pos) (mCallK m ks.length (fun zs => g [] zs) tk') := by
  obtain ⟨fd, F, G, B⟩ := O.ex
  exact se_callK0 (g := g) hgr tk G hr hg hm F.kp (F.kbn 0 ks g hrel hb) hkw hall hks hdb hpl
theorem ss_raiseF {pos2 : Pos} (hc : X.calm = true) (tk : Takes X W) (O : OkI X.prog X.w X.K X.mg X.base k x ps fs) (hr : Room (k + 1) X.A) (hg : Gl X x) (hm : X.mg x = some (.ref (ga X.K x)))
    (ha : SA X ⟨ga X.K, ⟨noE, lk⟩, W⟩ (e :: es) t) (hdb : (x == ("__debug__" : Str)) = false := by decide) (he : starEach (e :: es) X.env = (false, eval e X.env) :: starEach es X.env := by rfl) (hpl : (backTo pos (starEach es X.env)).any (·.1) = false := by rfl) :
    SS X ⟨ga X.K, ⟨noE, lk⟩, W⟩ (.Raise (some (.Call (.Name x p) (e :: es) [] pos)) none pos2) (mRaise x fs t) := by
  obtain ⟨fI, fd, T, G, B⟩ := O.ex
  exact ss_raise hc tk T G hr B hg hm ha hdb he hpl
theorem _root_.L2.Room.u64 {k : Nat} {A : Around} (r : Room k A) : A.units + 64 < cLine := by have := r.un; omega
theorem _root_.L2.Room.u65 {k : Nat} {A : Around} (r : Room k A) : A.units + 65 < cLine := by have := r.un; omega
theorem _root_.L2.Room.u1 {k : Nat} {A : Around} (r : Room k A) : A.units + 1 < cLine := by have := r.un; omega
theorem _root_.L2.Room.u0 {k : Nat} {A : Around} (r : Room k A) : A.units < cLine := by have := r.un; omega
end
/-! ### the start -/
def flatX : V → Bool
  | .ref _ => false
  | _ => true
def KOk (K : PySem.W.Frag) : MO → Prop
  | .ktup nm xs => xs.all flatX = true ∧ ∀ H, SqT K H (ga K nm) xs
  | .klst (some nm) xs => xs.all flatX = true ∧ ∀ H, SqL K H (ga K nm) xs
  | .kobj _ => True
  | _ => False
def kAd (K : PySem.W.Frag) : MO → Addr
  | .ktup nm _ => ga K nm
  | .klst (some nm) _ => ga K nm
  | .kobj nm => ga K nm
  | _ => 0
theorem flat_vrs {R : Mp} : ∀ {xs : List V}, xs.all flatX = true → VRs R xs xs
  | [], _ => .nil
  | x :: r, h => by
    rw [List.all_cons] at h
    obtain ⟨a, b⟩ := ba h
    refine .cons ?_ (flat_vrs b)
    cases x <;> first | rfl | cases a
theorem start_rel {K : PySem.W.Frag} {H : Hp} {a : Addr} {ns : List Int} {ks : List MO} (ko : ∀ o ∈ ks, KOk K o) (hO : Only H) (hS : SqL K H a (ns.map V.int)) :
    ∃ (o0 : MO) (R : Mp), (o0 = .frz (ns.map V.int) ∨ o0 = .klst none (ns.map V.int)) ∧ Rel K (ga K) ⟨noE, fun _ => none⟩ R ⟨o0 :: ks⟩ H ∧ R 0 = some a := by
  have fl : ∀ (R : Mp) (ns : List Int), VRs R (ns.map V.int) (ns.map V.int) := fun R ns => by
    induction ns with
    | nil => exact .nil
    | cons n r ih => exact .cons rfl ih
  have key : ∀ o0 : MO, (∀ R, OkO K (ga K) ⟨noE, fun _ => none⟩ R H a o0) → ∃ R : Mp, Rel K (ga K) ⟨noE, fun _ => none⟩ R ⟨o0 :: ks⟩ H ∧ R 0 = some a := fun o0 h0 => by
    refine ⟨fun b => match b with
      | 0 => some a
      | b + 1 => ks[b]?.map (kAd K), ⟨fun b p h => ?_, fun b c p ob oc hb hc gb gc tb tc => ?_, fun b o gb => ?_⟩, rfl⟩
    · cases b with
      | zero => simp [Sto.n]
      | succ b =>
        obtain ⟨o, e, _⟩ := Option.map_eq_some_iff.mp (show ks[b]?.map (kAd K) = some p from h)
        have := (List.getElem?_eq_some_iff.mp e).1
        simp [Sto.n]; omega
    · have nt : ∀ {i : Nat} {o : MO}, ks[i]? = some o → o.trk = true → False := fun {i o} e t => by
        have := ko o (List.mem_of_getElem? e)
        cases o <;> first | exact this | cases t
      cases b with
      | zero => cases c with
        | zero => rfl
        | succ c => exact (nt (show ks[c]? = some oc from gc) tc).elim
      | succ b => exact (nt (show ks[b]? = some ob from gb) tb).elim
    · cases b with
      | zero =>
        have e : some o0 = some o := gb
        cases e
        exact ⟨a, rfl, h0 _⟩
      | succ b =>
        have e : ks[b]? = some o := gb
        refine ⟨kAd K o, by show ks[b]?.map (kAd K) = _; rw [e]; rfl, ?_⟩
        have k1 := ko o (List.mem_of_getElem? e)
        cases o with
        | ktup nm xs => exact ⟨rfl, xs, flat_vrs k1.1, k1.2⟩
        | klst nm xs => cases nm with
          | none => exact k1.elim
          | some nm => exact ⟨fun x e => by cases e; rfl, xs, flat_vrs k1.1, k1.2⟩
        | kobj nm => exact rfl
        | _ => exact k1.elim
  rcases hS with (h | ⟨o, h⟩) | h
  · rcases hO a with z | ⟨_, _, z⟩ <;> rw [h] at z <;> cases z
  · obtain ⟨R, r1, r2⟩ := key (.frz (ns.map V.int)) fun R => ⟨_, o, fl R ns, h⟩
    exact ⟨_, R, .inl rfl, r1, r2⟩
  · obtain ⟨R, r1, r2⟩ := key (.klst none (ns.map V.int)) fun R => ⟨(fun x e => nomatch e), _, fl R ns, fun H' => Or.inr h⟩
    exact ⟨_, R, .inr rfl, r1, r2⟩
/-- the law's promise, of the plain law -/
theorem law_sp {K : PySem.W.Frag} {m : MF} {ks : List MO} {H : Hp} {a : Addr} {ns : List Int} {E : XK} (ko : ∀ o ∈ ks, KOk K o) (hO : Only H) (hS : SqL K H a (ns.map V.int))
    (pure : ∀ o0 : MO, (o0 = .frz (ns.map V.int) ∨ o0 = .klst none (ns.map V.int)) → ∃ S', m [.ref 0] ⟨o0 :: ks⟩ = .ok (.bl true) S') : spM K (ga K) m [.ref a] H (fun v _ => v = .bl true) E := by
  obtain ⟨o0, R, h0, rl, r0⟩ := start_rel ko hO hS
  obtain ⟨S', e⟩ := pure o0 h0
  refine ⟨_, R, _, [.ref 0], rl, .cons (show VR R (.ref 0) (.ref a) from ⟨a, r0, rfl⟩) .nil, ?_⟩
  rw [e]
  exact fun R' H' b ex rl' vb => vb
theorem FunD.uniq {K : PySem.W.Frag} {x qual : Str} {params : Arguments} {body : List Stmt} {scope : Scope} {f : Addr} {fd fd' : FuncData} (F : FunD K x qual params body scope [] [] f fd) (F' : FunD K x qual params body scope [] [] f fd') : fd' = fd := by
  obtain ⟨a1, a2, a3, a4, a5, a6, a7, a8, a9, a10, e1, l1, _⟩ := F.ex
  obtain ⟨b1, b2, b3, b4, b5, b6, b7, b8, b9, b10, e2, l2, _⟩ := F'.ex
  rw [l1] at l2
  cases l2
  rfl
theorem fn_cx0 {P : Program} {w : World} {K : PySem.W.Frag} {mg : Str → Option Value} {base : Heap} {k : Nat} {f : Addr} {fd : FuncData} {ps : List Str} {sp : Sp} (F : FnOk P w K mg base (L2.CX P w) k f fd ps sp) : FnOk P w K mg base CX0 k f fd ps (fun vs H Q _ => sp vs H Q fun _ _ _ => False) :=
  ⟨fun vs H Q E h => F.len _ _ _ _ h, fun A outer s H args us vs Q E hr e0 hb rv hsp => codeAny_mono (F.run A outer s H args us vs Q _ hr e0 hb rv hsp) fun r s' h => by
    cases r with
    | error e =>
      obtain ⟨a, B, H', cls, d, _, _, _, _, _, _, _, z⟩ := h
      exact z.elim
    | ok fl => cases fl <;> exact h⟩
theorem law_F {P : Program} {w : World} {K : PySem.W.Frag} {mg : Str → Option Value} {h : Heap} {k : Nat} {st : Stmt} {m : MF} {ks : List MO} {x p : Str} (KX : K.In h) (ok : ∀ base, OkF P w K mg base k x st [p] m) (ko : ∀ o ∈ ks, KOk K o) (F0 : ∃ fd, FunD K x x (defArgs st) (defBody st) (defScope st) [] [] (ga K x) fd)
    (hb : ∀ (kV doc pm : Value) (an : Option Addr) (cdv ct : Value) (us : List Value), us.length = [p].length → bindArgs (PySem.W.fnOf x x (defArgs st) (defBody st) (defScope st) .none kV doc pm an cdv ct) ⟨us, []⟩ = pure ([p].zip us))
    (pu : ∀ (ns : List Int) (o0 : MO), ns.length ≤ 63 → (o0 = .frz (ns.map V.int) ∨ o0 = .klst none (ns.map V.int)) → ∃ S', m [.ref 0] ⟨o0 :: ks⟩ = .ok (.bl true) S') :
    ∃ (K' : PySem.W.Frag) (fd : FuncData) (sp : Sp), K'.In h ∧ (∀ (s : Shared) (u : Value), BindsTo s fd ⟨[u], []⟩ [(p, u)]) ∧
        (∀ (H : Hp) (a : Addr) (ns : List Int), ns.length ≤ 63 → Only H → SqL K' H a (ns.map V.int) → sp [.ref a] H (fun v _ => v = .bl true) fun _ _ _ => False) ∧
        ∀ base : Heap, K'.In base → base.Ns mainGlobals mg → FnOk P w K' mg base CX0 k (ga K x) fd [p] sp := by
  obtain ⟨fd, F⟩ := F0
  refine ⟨K, fd, fun vs H Q _ => spM K (ga K) m vs H Q fun _ _ _ => False, KX, fun s u => F.bindsA hb s [u] rfl, fun H a ns hl hO hS => law_sp ko hO hS fun o0 h0 => pu ns o0 hl h0, fun base _ _ => ?_⟩
  obtain ⟨fd', F', G, _⟩ := (ok base).ex
  rw [FunD.uniq F F'] at G
  exact fn_cx0 G
theorem se_gC {X : Cx} {c : Cw} {x : Str} {pos : Pos} {v : V} (hg : Gl X x) (h : ∃ u, X.mg x = some u ∧ RelV v u) (nr : ∀ a, v ≠ .ref a) (hd : (x == ("__debug__" : Str)) = false := by decide) : SE X c (.Name x pos) (mC v) := by
  obtain ⟨u, h1, h2⟩ := h
  exact se_globC hg h1 h2 nr hd
def blkB (N : List Str) (sc scope : Scope) (own : List (Str × Nat)) : Bool :=
  (scope.names.all fun y => decide (scope.names.lookup y.1 = some y.2)) && ((own.all fun p => decide (N[p.2]? = some p.1)) && ((scope.names.all fun y => !decide (y.2 = .free) || (decide (sc.names.lookup y.1 = some .cell) || decide (sc.names.lookup y.1 = some .free))) &&
    (scope.names.all fun y => !(decide (y.2 = .local) || decide (y.2 = .cell)) || (decide (y.1 ∈ own.map (·.1)) || decide (y.1 ∉ N)))))
theorem blk_ok {N : List Str} {sc scope : Scope} {own : List (Str × Nat)} (k : scope.kind = .function) (h : blkB N sc scope own = true) : BlkOk N sc scope own := by
  obtain ⟨h1, h⟩ := ba h
  obtain ⟨h2, h⟩ := ba h
  obtain ⟨h3, h4⟩ := ba h
  refine ⟨k, fun y hy => of_decide_eq_true (List.all_eq_true.mp h1 y hy), fun p hp => of_decide_eq_true (List.all_eq_true.mp h2 p hp), fun y hy e => ?_, fun y hy e => ?_⟩
  · have z := List.all_eq_true.mp h3 y hy
    rw [e] at z
    simpa using z
  · have z := List.all_eq_true.mp h4 y hy
    have e' : (decide (y.2 = .local) || decide (y.2 = .cell)) = true := by simpa using e
    rw [e'] at z
    have z2 : (decide (y.1 ∈ own.map (·.1)) || decide (y.1 ∉ N)) = true := z
    rcases Bool.or_eq_true_iff.mp z2 with q | q
    · exact .inl (of_decide_eq_true q)
    · exact .inr (of_decide_eq_true q)
end Mm

/-! printed by gen.py of the law askworlds_k05_positions_and_marks -/
namespace K05
open PySem PySem.Spec PyProof.Rows L2 Mm He
def top (i : Nat) : Stmt := PySem.Challenge.pw_askworlds_k05_positions_and_marks.main.body.getD i (.Pass ⟨0, 0, 0, 0⟩)
def clsFn (s : Stmt) (i : Nat) : Stmt := match s with
  | .ClassDef _ _ _ b _ _ _ _ _ _ _ => b.getD i (.Pass ⟨0, 0, 0, 0⟩)
  | _ => .Pass ⟨0, 0, 0, 0⟩
abbrev s__law_box : Stmt := top 19
abbrev s__law_cell : Stmt := top 18
abbrev s__law_take : Stmt := top 20
abbrev s__law_pick : Stmt := top 21
abbrev s__law_text : Stmt := top 24
abbrev s_check_text : Stmt := top 9
abbrev s_is_integer : Stmt := top 7
abbrev s_is_between : Stmt := top 8
abbrev s_check_position : Stmt := top 12
abbrev s_index_of : Stmt := top 13
abbrev s_mark_below : Stmt := top 15
abbrev s_marked : Stmt := top 16
abbrev s_place_of : Stmt := top 10
abbrev s_position_of : Stmt := top 11
abbrev s__law_asked : Stmt := top 26
abbrev s__law_positions : Stmt := top 25
abbrev s__law_same : Stmt := top 22
abbrev s__law_kept : Stmt := top 23
abbrev s__law_refused : Stmt := top 27
abbrev s__law_text_right : Stmt := top 28
abbrev s__law_wrong_right : Stmt := top 29
abbrev s_law : Stmt := top 30
abbrev s_InvalidColumn_init : Stmt := clsFn (top 2) 0
abbrev s_InvalidIndex_init : Stmt := clsFn (top 3) 0
abbrev s_InvalidLine_init : Stmt := clsFn (top 4) 0
abbrev s_InvalidText_init : Stmt := clsFn (top 5) 0
def EM : List (Str × Str × Bool) := [("InvalidColumn", "AskError", true), ("InvalidColumn", "InvalidColumn", true), ("InvalidColumn", "InvalidIndex", false), ("InvalidColumn", "InvalidLine", false), ("InvalidColumn", "InvalidText", false), ("InvalidIndex", "AskError", true), ("InvalidIndex", "InvalidColumn", false), ("InvalidIndex", "InvalidIndex", true), ("InvalidIndex", "InvalidLine", false), ("InvalidIndex", "InvalidText", false), ("InvalidLine", "AskError", true), ("InvalidLine", "InvalidColumn", false), ("InvalidLine", "InvalidIndex", false), ("InvalidLine", "InvalidLine", true), ("InvalidLine", "InvalidText", false), ("InvalidText", "AskError", true), ("InvalidText", "InvalidColumn", false), ("InvalidText", "InvalidIndex", false), ("InvalidText", "InvalidLine", false), ("InvalidText", "InvalidText", true)]
def XF : List Str := ["InvalidColumn", "InvalidIndex", "InvalidLine", "InvalidText"]
abbrev fuel : Nat := 30
def perm_10 {α : Type} (_ : List α) (zs : List α) : List α := match zs with
  | [a0, a1] => [a1, a0]
  | _ => []
theorem perm_10_gen {α β : Type} {F : α → β → Prop} : ∀ {zs : List α} {ws : List β}, Paired F zs ws → ∀ (x : List α) (y : List β), Paired F (perm_10 x zs) (perm_10 y ws)
  | _, _, .nil, _, _ => .nil
  | _, _, .cons _ .nil, _, _ => .nil
  | _, _, .cons h0 (.cons h1 .nil), _, _ => .cons h1 (.cons h0 .nil)
  | _, _, .cons _ (.cons _ (.cons _ _)), _, _ => .nil
theorem perm_10_vr {R : Mp} {zs zs' : List V} (_ : zs.length = 2) (h : VRs R zs zs') : VRs R (perm_10 [] zs) (perm_10 [] zs') := perm_10_gen h _ _
theorem perm_10_va {vs zs : List V} {us ws : List Value} (_ : Vals vs us) (h : Vals zs ws) : Vals (perm_10 vs zs) (perm_10 us ws) := perm_10_gen h _ _
def perm_120 {α : Type} (_ : List α) (zs : List α) : List α := match zs with
  | [a0, a1, a2] => [a1, a2, a0]
  | _ => []
theorem perm_120_gen {α β : Type} {F : α → β → Prop} : ∀ {zs : List α} {ws : List β}, Paired F zs ws → ∀ (x : List α) (y : List β), Paired F (perm_120 x zs) (perm_120 y ws)
  | _, _, .nil, _, _ => .nil
  | _, _, .cons _ .nil, _, _ => .nil
  | _, _, .cons _ (.cons _ .nil), _, _ => .nil
  | _, _, .cons h0 (.cons h1 (.cons h2 .nil)), _, _ => .cons h1 (.cons h2 (.cons h0 .nil))
  | _, _, .cons _ (.cons _ (.cons _ (.cons _ _))), _, _ => .nil
theorem perm_120_vr {R : Mp} {zs zs' : List V} (_ : zs.length = 3) (h : VRs R zs zs') : VRs R (perm_120 [] zs) (perm_120 [] zs') := perm_120_gen h _ _
theorem perm_120_va {vs zs : List V} {us ws : List Value} (_ : Vals vs us) (h : Vals zs ws) : Vals (perm_120 vs zs) (perm_120 us ws) := perm_120_gen h _ _
def perm_201 {α : Type} (_ : List α) (zs : List α) : List α := match zs with
  | [a0, a1, a2] => [a2, a0, a1]
  | _ => []
theorem perm_201_gen {α β : Type} {F : α → β → Prop} : ∀ {zs : List α} {ws : List β}, Paired F zs ws → ∀ (x : List α) (y : List β), Paired F (perm_201 x zs) (perm_201 y ws)
  | _, _, .nil, _, _ => .nil
  | _, _, .cons _ .nil, _, _ => .nil
  | _, _, .cons _ (.cons _ .nil), _, _ => .nil
  | _, _, .cons h0 (.cons h1 (.cons h2 .nil)), _, _ => .cons h2 (.cons h0 (.cons h1 .nil))
  | _, _, .cons _ (.cons _ (.cons _ (.cons _ _))), _, _ => .nil
theorem perm_201_vr {R : Mp} {zs zs' : List V} (_ : zs.length = 3) (h : VRs R zs zs') : VRs R (perm_201 [] zs) (perm_201 [] zs') := perm_201_gen h _ _
theorem perm_201_va {vs zs : List V} {us ws : List Value} (_ : Vals vs us) (h : Vals zs ws) : Vals (perm_201 vs zs) (perm_201 us ws) := perm_201_gen h _ _
/-! ### the mirror -/
def m__law_box : MF := mFn 1 1 (mRet (mLst (mCons (mCB vAbs (mCons (mVar 0) mNil)) (mCons (mBin vGe (mCB vAbs (mCons (mVar 0) mNil)) (mBin vPow (mC (.int 10)) (mC (.int 18)))) (mCons (mBin vMod (mCB vInt (mCons (mCB vAbs (mCons (mVar 0) mNil)) mNil)) (mC (.int 2147483629))) (mCons (mC (.int 0)) mNil))))))
def m__law_cell : MF := mFn 2 2 (mRet (mIfE (mBl (mBin vLt (mVar 1) (mCB vLen (mCons (mVar 0) mNil)))) (mBin vIx (mVar 0) (mVar 1)) (mBin vAdd (mBin vMul (mC (.int 6211)) (mVar 1)) (mBin vMod (mCB vInt (mCons (mCB vSum (mCons (mSl (mVar 0) mNoPart (mPart (mC (.int 1)))) mNil)) mNil)) (mC (.int 1000037))))))
def m__law_take : MF := mFn 3 2 (mSeq (mIf ((mAnd (mTru (mBin vIx (mVar 0) (mC (.int 1)))) (mBl (mBin vGt (mBin vIx (mVar 0) (mC (.int 0))) (mC (.int 0))))))
    (mSeq (mSet 2 (mBin vMod (mCB vInt (mCons (mBin vIx (mVar 0) (mC (.int 0))) mNil)) (mVar 1)))
    (mSeq (mPut (mBin vDiv (mCB vInt (mCons (mBin vIx (mVar 0) (mC (.int 0))) mNil)) (mVar 1)) (mVar 0) (mC (.int 0)))
    (mRet (mVar 2))))
    mNext)
    (mSeq (mPut (mBin vAdd (mBin vIx (mVar 0) (mC (.int 3))) (mC (.int 1))) (mVar 0) (mC (.int 3)))
    (mSeq (mPut (mBin vMod (mCB vInt (mCons (mBin vAdd (mBin vAdd (mBin vMul (mBin vIx (mVar 0) (mC (.int 2))) (mC (.int 69621))) (mBin vMul (mC (.int 1451)) (mBin vIx (mVar 0) (mC (.int 3))))) (mC (.int 47))) mNil)) (mC (.int 2147483629))) (mVar 0) (mC (.int 2)))
    (mRet (mBin vMod (mBin vDiv (mBin vIx (mVar 0) (mC (.int 2))) (mC (.int 64))) (mVar 1))))))
def m__law_pick : MF := mFn 2 2 (mRet (mBin vIx (mVar 1) (mCB m__law_take (mCons (mVar 0) (mCons (mCB vLen (mCons (mVar 1) mNil)) mNil)))))
def m__law_text : MF := mFn 10 2 (mSeq (mSet 2 (mC (.str " !\"#$&'()*+,-./0123456789:;<=>?@ABCXYZ[\\]^_`abcxyz{|}~")))
    (mSeq (mSet 3 (mBin vIx (mLst (mCons (mBin vAdd (mC (.int 1)) (mCB m__law_take (mCons (mVar 0) (mCons (mC (.int 9)) mNil)))) (mCons (mBin vAdd (mC (.int 1)) (mCB m__law_take (mCons (mVar 0) (mCons (mC (.int 4)) mNil)))) (mCons (mBin vAdd (mC (.int 60)) (mCB m__law_take (mCons (mVar 0) (mCons (mC (.int 60)) mNil)))) (mCons (mBin vAdd (mC (.int 1)) (mCB m__law_take (mCons (mVar 0) (mCons (mC (.int 2)) mNil)))) mNil))))) (mVar 1)))
    (mSeq (mSet 4 (mLst mNil))
    (mSeq (mFor (mRg1 (mCons (mVar 3) mNil)) (.nm 5)
    (mSeq (mSet 6 (mBin vIx (mLst (mCons (mCB m__law_take (mCons (mVar 0) (mCons (mC (.int 10)) mNil))) (mCons (mCB m__law_take (mCons (mVar 0) (mCons (mC (.int 3)) mNil))) (mCons (mCB m__law_take (mCons (mVar 0) (mCons (mC (.int 40)) mNil))) (mCons (mBin vAdd (mC (.int 300)) (mCB m__law_take (mCons (mVar 0) (mCons (mC (.int 700)) mNil)))) mNil))))) (mVar 1)))
    (mSeq (mSet 7 (mCB m__law_take (mCons (mVar 0) (mCons (mC (.int 5)) mNil))))
    (mIf ((mAnd (mBl (mBin vEq (mVar 7) (mC (.int 0)))) (mBl (mBin vNe (mVar 4) (mLst mNil)))))
    (mDrop (mMeth "list" wAppend (mVar 4) (mCons (mCB m__law_pick (mCons (mVar 0) (mCons (mLst (mCons (mBin vIx (mVar 4) (mUn vNeg (mC (.int 1)))) (mCons (mBin vIx (mVar 4) (mC (.int 0))) (mCons (mC (.str "")) mNil)))) mNil))) mNil)))
    (mSeq (mSet 8 (mCB m__law_take (mCons (mVar 0) (mCons (mCB vLen (mCons (mVar 2) mNil)) mNil))))
    (mDrop (mMeth "list" wAppend (mVar 4) (mCons (mMeth "str" wJoin (mC (.str "")) (mCons (mLc (mRg1 (mCons (mVar 6) mNil)) (.nm 9) mYes (mBin vIx (mVar 2) (mBin vMod (mCB vInt (mCons (mBin vAdd (mVar 8) (mBin vMul (mVar 9) (mBin vAdd (mC (.int 1)) (mVar 7)))) mNil)) (mCB vLen (mCons (mVar 2) mNil)))) [9]) mNil)) mNil))))))))
    (mRet (mBin vAdd (mMeth "str" wJoin (mC (.str "\n")) (mCons (mVar 4) mNil)) (mBin vIx (mLst (mCons (mC (.str "")) (mCons (mC (.str "\n")) (mCons (mC (.str "")) (mCons (mC (.str "\n\n")) mNil))))) (mCB m__law_take (mCons (mVar 0) (mCons (mC (.int 4)) mNil))))))))))
def m_check_text : MF := mFn 1 1 (mIf (mNot (mTru (mCB vIsi (mCons (mVar 0) (mCons (mC (.ty "str")) mNil)))))
    (mRaise "InvalidText" ["given"] (mCons (mVar 0) mNil))
    mNext)
def m_is_integer : MF := mFn 1 1 (mRet ((mAndV (mCB vIsi (mCons (mVar 0) (mCons (mC (.ty "int")) mNil))) (mNotV (mCB vIsi (mCons (mVar 0) (mCons (mC (.ty "bool")) mNil)))))))
def m_is_between : MF := mFn 3 3 (mRet ((mAndV (mCB m_is_integer (mCons (mVar 0) mNil)) (mChain vLe vLe (mVar 1) (mVar 0) (mVar 2)))))
def m_check_position : MF := mFn 4 3 (mSeq (mDrop (mCB m_check_text (mCons (mVar 0) mNil)))
    (mSeq (mSet 3 (mMeth "str" wSplit (mVar 0) (mCons (mC (.str "\n")) mNil)))
    (mSeq (mIf (mNot (mTru (mCB m_is_between (mCons (mVar 1) (mCons (mC (.int 1)) (mCons (mCB vLen (mCons (mVar 3) mNil)) mNil))))))
    (mRaise "InvalidLine" ["given"] (mCons (mVar 1) mNil))
    mNext)
    (mIf (mNot (mTru (mCB m_is_between (mCons (mVar 2) (mCons (mC (.int 1)) (mCons (mBin vAdd (mCB vLen (mCons (mBin vIx (mVar 3) (mBin vSub (mVar 1) (mC (.int 1)))) mNil)) (mC (.int 1))) mNil))))))
    (mRaise "InvalidColumn" ["given"] (mCons (mVar 2) mNil))
    mNext))))
def m_index_of : MF := mFn 5 3 (mSeq (mDrop (mCB m_check_position (mCons (mVar 0) (mCons (mVar 1) (mCons (mVar 2) mNil)))))
    (mSeq (mSet 3 (mSl (mMeth "str" wSplit (mVar 0) (mCons (mC (.str "\n")) mNil)) mNoPart (mPart (mBin vSub (mVar 1) (mC (.int 1))))))
    (mRet (mBin vSub (mBin vAdd (mCB vSum (mCons (mLc (mSq (mVar 3)) (.nm 4) mYes (mBin vAdd (mCB vLen (mCons (mVar 4) mNil)) (mC (.int 1))) [4]) mNil)) (mVar 2)) (mC (.int 1))))))
def m_mark_below : MF := mFn 3 3 (mRet (mBin vAdd (mBin vAdd (mBin vAdd (mBin vIx (mMeth "str" wSplit (mVar 0) (mCons (mC (.str "\n")) mNil)) (mBin vSub (mVar 1) (mC (.int 1)))) (mC (.str "\n"))) (mBin vMul (mC (.str " ")) (mBin vSub (mVar 2) (mC (.int 1))))) (mC (.str "^"))))
def m_marked : MF := mFn 3 3 (mSeq (mDrop (mCB m_check_position (mCons (mVar 0) (mCons (mVar 1) (mCons (mVar 2) mNil)))))
    (mRet (mCB m_mark_below (mCons (mVar 0) (mCons (mVar 1) (mCons (mVar 2) mNil))))))
def m_place_of : MF := mFn 3 2 (mSeq (mSet 2 (mMeth "str" wSplit (mSl (mVar 0) mNoPart (mPart (mVar 1))) (mCons (mC (.str "\n")) mNil)))
    (mRet (mTup (mCons (mCB vLen (mCons (mVar 2) mNil)) (mCons (mBin vAdd (mCB vLen (mCons (mBin vIx (mVar 2) (mUn vNeg (mC (.int 1)))) mNil)) (mC (.int 1))) mNil)))))
def m_position_of : MF := mFn 2 2 (mSeq (mDrop (mCB m_check_text (mCons (mVar 0) mNil)))
    (mSeq (mIf (mNot (mTru (mCB m_is_between (mCons (mVar 1) (mCons (mC (.int 0)) (mCons (mCB vLen (mCons (mVar 0) mNil)) mNil))))))
    (mRaise "InvalidIndex" ["given"] (mCons (mVar 1) mNil))
    mNext)
    (mRet (mCB m_place_of (mCons (mVar 0) (mCons (mVar 1) mNil))))))
def m__law_asked : MF := mFn 4 3 (mTry (subOf EM) (mSeq (mIf (mBl (mBin vEq (mVar 0) (mC (.int 0))))
    (mRet (mLst (mCons (mC (.str "told")) (mCons (mIfE (mTru (mVar 2)) (mCallK m_position_of 2 (fun zs => perm_10 [] zs) (mCons (mBin vIx (mVar 1) (mC (.int 1))) (mCons (mBin vIx (mVar 1) (mC (.int 0))) mNil))) (mCB m_position_of (mCons (mBin vIx (mVar 1) (mC (.int 0))) (mCons (mBin vIx (mVar 1) (mC (.int 1))) mNil)))) mNil))))
    mNext)
    (mSeq (mIf (mBl (mBin vEq (mVar 0) (mC (.int 1))))
    (mRet (mLst (mCons (mC (.str "told")) (mCons (mIfE (mTru (mVar 2)) (mCallK m_index_of 3 (fun zs => perm_120 [] zs) (mCons (mBin vIx (mVar 1) (mC (.int 2))) (mCons (mBin vIx (mVar 1) (mC (.int 0))) (mCons (mBin vIx (mVar 1) (mC (.int 1))) mNil)))) (mCB m_index_of (mCons (mBin vIx (mVar 1) (mC (.int 0))) (mCons (mBin vIx (mVar 1) (mC (.int 1))) (mCons (mBin vIx (mVar 1) (mC (.int 2))) mNil))))) mNil))))
    mNext)
    (mRet (mLst (mCons (mC (.str "told")) (mCons (mIfE (mTru (mVar 2)) (mCallK m_marked 3 (fun zs => perm_201 [] zs) (mCons (mBin vIx (mVar 1) (mC (.int 1))) (mCons (mBin vIx (mVar 1) (mC (.int 2))) (mCons (mBin vIx (mVar 1) (mC (.int 0))) mNil)))) (mCB m_marked (mCons (mBin vIx (mVar 1) (mC (.int 0))) (mCons (mBin vIx (mVar 1) (mC (.int 1))) (mCons (mBin vIx (mVar 1) (mC (.int 2))) mNil))))) mNil)))))) [("InvalidText", some 3, (mRet (mLst (mCons (mC (.str "text")) (mCons (mXf XF 3 "given") mNil))))),
    ("InvalidIndex", some 3, (mRet (mLst (mCons (mC (.str "index")) (mCons (mXf XF 3 "given") mNil))))),
    ("InvalidLine", some 3, (mRet (mLst (mCons (mC (.str "line")) (mCons (mXf XF 3 "given") mNil))))),
    ("InvalidColumn", some 3, (mRet (mLst (mCons (mC (.str "column")) (mCons (mXf XF 3 "given") mNil))))),
    ("AskError", none, (mRet (mLst (mCons (mC (.str "other")) (mCons (mC .non) mNil)))))])
def m__law_positions : MF := mFn 5 1 (mSeq (mPar [2, 3, 4] (mCons (mLst mNil) (mCons (mC (.int 1)) (mCons (mC (.int 1)) mNil))))
    (mSeq (mFor (mRg1 (mCons (mCB vLen (mCons (mVar 0) mNil)) mNil)) (.nm 1)
    (mSeq (mDrop (mMeth "list" wAppend (mVar 2) (mCons (mTup (mCons (mVar 3) (mCons (mVar 4) mNil))) mNil)))
    (mAsg (mIfE (mBl (mBin vEq (mSl (mVar 0) (mPart (mVar 1)) (mPart (mBin vAdd (mVar 1) (mC (.int 1))))) (mC (.str "\n")))) (mTup (mCons (mBin vAdd (mVar 3) (mC (.int 1))) (mCons (mC (.int 1)) mNil))) (mTup (mCons (mVar 3) (mCons (mBin vAdd (mVar 4) (mC (.int 1))) mNil)))) (.tup [3, 4]))))
    (mRet (mBin vAdd (mVar 2) (mLst (mCons (mTup (mCons (mVar 3) (mCons (mVar 4) mNil))) mNil))))))
def m__law_same : Nat → MF
  | 0 => fun _ _ => .bad
  | n + 1 => mFn 4 2 (mSeq (mIf (mBl (mBin vIs (mVar 1) (mC .non)))
    (mRet (mBin vIs (mVar 0) (mC .non)))
    mNext)
    (mSeq (mIf (mTru (mCB vIsi (mCons (mVar 1) (mCons (mC (.ty "bool")) mNil))))
    (mRet ((mAndV (mCB vIsi (mCons (mVar 0) (mCons (mC (.ty "bool")) mNil))) (mBin vEq (mBin vIs (mVar 0) (mC (.bl true))) (mBin vIs (mVar 1) (mC (.bl true)))))))
    mNext)
    (mSeq (mIf (mTru (mCB vIsi (mCons (mVar 1) (mCons (mC (.ty "int")) mNil))))
    (mRet ((mAndV (mCB vIsi (mCons (mVar 0) (mCons (mC (.ty "int")) mNil))) (mAndV (mNotV (mCB vIsi (mCons (mVar 0) (mCons (mC (.ty "bool")) mNil)))) (mBin vEq (mVar 0) (mVar 1))))))
    mNext)
    (mSeq (mIf (mTru (mCB vIsi (mCons (mVar 1) (mCons (mC (.ty "str")) mNil))))
    (mRet ((mAndV (mCB vIsi (mCons (mVar 0) (mCons (mC (.ty "str")) mNil))) (mBin vEq (mVar 0) (mVar 1)))))
    mNext)
    (mSeq (mIf (mTru (mCB vIsi (mCons (mVar 1) (mCons (mC (.ty "dict")) mNil))))
    (mRet ((mAndV (mCB vIsi (mCons (mVar 0) (mCons (mC (.ty "dict")) mNil))) (mAndV (mBin vEq (mCB vLen (mCons (mVar 0) mNil)) (mCB vLen (mCons (mVar 1) mNil))) (mBin vEq (mLockE (adV 1) (mLc (mKeys (mVar 1)) (.nm 3) ((mOr (mBl (mBin vNotIn (mVar 3) (mVar 0))) (mNot (mTru (mCB (m__law_same n) (mCons (mBin vIx (mVar 0) (mVar 3)) (mCons (mBin vIx (mVar 1) (mVar 3)) mNil))))))) (mVar 3) [3])) (mLst mNil))))))
    mNext)
    (mSeq (mIf ((mOr (mNot (mTru (mCB vIsi (mCons (mVar 1) (mCons (mTup (mCons (mC (.ty "list")) (mCons (mC (.ty "tuple")) mNil))) mNil))))) (mNot (mTru (mCB vIsi (mCons (mVar 0) (mCons (mTup (mCons (mC (.ty "list")) (mCons (mC (.ty "tuple")) mNil))) mNil)))))))
    (mRet (mC (.bl false)))
    mNext)
    (mSeq (mIf ((mOr (mBl (mBin vNe (mCB vIsi (mCons (mVar 0) (mCons (mC (.ty "list")) mNil))) (mCB vIsi (mCons (mVar 1) (mCons (mC (.ty "list")) mNil))))) (mBl (mBin vNe (mCB vLen (mCons (mVar 0) mNil)) (mCB vLen (mCons (mVar 1) mNil))))))
    (mRet (mC (.bl false)))
    mNext)
    (mRet (mBin vEq (mLc (mRg1 (mCons (mCB vLen (mCons (mVar 1) mNil)) mNil)) (.nm 2) (mNot (mTru (mCB (m__law_same n) (mCons (mBin vIx (mVar 0) (mVar 2)) (mCons (mBin vIx (mVar 1) (mVar 2)) mNil))))) (mVar 2) [2]) (mLst mNil))))))))))
def m__law_kept : MF := mFn 2 2 (mSeq (mIf (mTru (mCB vIsi (mCons (mVar 1) (mCons (mC (.ty "list")) mNil))))
    (mDrop (mMeth "list" wAppend (mVar 1) (mCons (mC (.str "more")) mNil)))
    mNext)
    (mSeq (mIf (mTru (mCB vIsi (mCons (mVar 1) (mCons (mC (.ty "dict")) mNil))))
    (mPut (mC (.int 1)) (mVar 1) (mC (.str "more")))
    mNext)
    (mRet (mCB (m__law_same fuel) (mCons (mVar 0) (mCons (mVar 1) mNil))))))
def m__law_refused : MF := mFn 6 5 (mSeq (mSet 5 (mCB m__law_asked (mCons (mVar 0) (mCons (mVar 1) (mCons (mVar 4) mNil)))))
    (mRet ((mAndV (mBin vEq (mBin vIx (mVar 5) (mC (.int 0))) (mVar 2)) (mCB m__law_kept (mCons (mBin vIx (mVar 5) (mC (.int 1))) (mCons (mBin vIx (mVar 1) (mVar 3)) mNil)))))))
def m__law_text_right : MF := mFn 16 3 (mSeq (mAsg (mTup (mCons (mCB m__law_positions (mCons (mVar 1) mNil)) (mCons (mMeth "str" wSplit (mVar 1) (mCons (mC (.str "\n")) mNil)) mNil))) (.tup [8, 9]))
    (mSeq (mSet 3 (mIfE (mBl (mBin vLt (mCB vLen (mCons (mVar 8) mNil)) (mC (.int 150)))) (mLRg1 false (mCB vLen (mCons (mVar 8) mNil))) (mBin vAdd (mLst (mCons (mC (.int 0)) (mCons (mBin vSub (mCB vLen (mCons (mVar 1) mNil)) (mC (.int 1))) (mCons (mCB vLen (mCons (mVar 1) mNil)) mNil)))) (mLc (mRg1 (mCons (mC (.int 60)) mNil)) (.nm 15) mYes (mCB m__law_take (mCons (mVar 0) (mCons (mCB vLen (mCons (mVar 8) mNil)) mNil))) [15]))))
    (mSeq (mFor (mSq (mVar 3)) (.nm 4)
    (mSeq (mAsg (mBin vIx (mVar 8) (mVar 4)) (.tup [13, 14]))
    (mSeq (mSet 10 (mBin vAdd (mBin vAdd (mBin vAdd (mBin vIx (mVar 9) (mBin vSub (mVar 13) (mC (.int 1)))) (mC (.str "\n"))) (mBin vMul (mC (.str " ")) (mBin vSub (mVar 14) (mC (.int 1))))) (mC (.str "^"))))
    (mSeq (mSet 11 (mLst (mCons (mCB m__law_asked (mCons (mC (.int 0)) (mCons (mLst (mCons (mVar 1) (mCons (mVar 4) mNil))) (mCons (mVar 2) mNil)))) (mCons (mCB m__law_asked (mCons (mC (.int 1)) (mCons (mLst (mCons (mVar 1) (mCons (mVar 13) (mCons (mVar 14) mNil)))) (mCons (mNotV (mVar 2)) mNil)))) (mCons (mCB m__law_asked (mCons (mC (.int 2)) (mCons (mLst (mCons (mVar 1) (mCons (mVar 13) (mCons (mVar 14) mNil)))) (mCons (mVar 2) mNil)))) mNil)))))
    (mSeq (mIf (mNot (mTru (mCB (m__law_same fuel) (mCons (mVar 11) (mCons (mLst (mCons (mLst (mCons (mC (.str "told")) (mCons (mTup (mCons (mVar 13) (mCons (mVar 14) mNil))) mNil))) (mCons (mLst (mCons (mC (.str "told")) (mCons (mVar 4) mNil))) (mCons (mLst (mCons (mC (.str "told")) (mCons (mVar 10) mNil))) mNil)))) mNil)))))
    (mRet (mC (.bl false)))
    mNext)
    (mSet 2 (mNotV (mVar 2))))))))
    (mSeq (mSet 5 (mIfE (mBl (mBin vLt (mCB vLen (mCons (mVar 9) mNil)) (mC (.int 13)))) (mLRg1 false (mCB vLen (mCons (mVar 9) mNil))) (mBin vAdd (mLst (mCons (mC (.int 0)) (mCons (mBin vSub (mCB vLen (mCons (mVar 9) mNil)) (mC (.int 1))) mNil))) (mLc (mRg1 (mCons (mC (.int 8)) mNil)) (.nm 15) mYes (mCB m__law_take (mCons (mVar 0) (mCons (mCB vLen (mCons (mVar 9) mNil)) mNil))) [15]))))
    (mSeq (mFor (mSq (mVar 5)) (.nm 6)
    (mSeq (mSet 12 (mTup (mCons (mBin vAdd (mVar 6) (mC (.int 1))) (mCons (mBin vAdd (mCB vLen (mCons (mBin vIx (mVar 9) (mVar 6)) mNil)) (mC (.int 1))) mNil))))
    (mSeq (mIf (mNot (mTru (mCB (m__law_same fuel) (mCons (mCB m__law_asked (mCons (mC (.int 1)) (mCons (mLst (mCons (mVar 1) (mCons (mBin vIx (mVar 12) (mC (.int 0))) (mCons (mBin vIx (mVar 12) (mC (.int 1))) mNil)))) (mCons (mVar 2) mNil)))) (mCons (mLst (mCons (mC (.str "told")) (mCons (mMeth "list" wIndex (mVar 8) (mCons (mVar 12) mNil)) mNil))) mNil)))))
    (mRet (mC (.bl false)))
    mNext)
    (mSeq (mFor (mSq (mTup (mCons (mC (.int 1)) (mCons (mC (.int 2)) mNil)))) (.nm 7)
    (mIf ((mOr (mNot (mTru (mCB m__law_refused (mCons (mVar 7) (mCons (mLst (mCons (mVar 1) (mCons (mBin vAdd (mVar 6) (mC (.int 1))) (mCons (mBin vAdd (mCB vLen (mCons (mBin vIx (mVar 9) (mVar 6)) mNil)) (mC (.int 2))) mNil)))) (mCons (mC (.str "column")) (mCons (mC (.int 2)) (mCons (mVar 2) mNil)))))))) (mNot (mTru (mCB m__law_refused (mCons (mVar 7) (mCons (mLst (mCons (mVar 1) (mCons (mBin vAdd (mVar 6) (mC (.int 1))) (mCons (mC (.int 0)) mNil)))) (mCons (mC (.str "column")) (mCons (mC (.int 2)) (mCons (mNotV (mVar 2)) mNil))))))))))
    (mRet (mC (.bl false)))
    mNext))
    (mSet 2 (mNotV (mVar 2)))))))
    (mSeq (mFor (mSq (mTup (mCons (mC (.int 1)) (mCons (mC (.int 2)) mNil)))) (.nm 7)
    (mFor (mSq (mTup (mCons (mC (.int 0)) (mCons (mBin vAdd (mCB vLen (mCons (mVar 9) mNil)) (mC (.int 1))) (mCons (mUn vNeg (mC (.int 1))) mNil))))) (.nm 13)
    (mIf (mNot (mTru (mCB m__law_refused (mCons (mVar 7) (mCons (mLst (mCons (mVar 1) (mCons (mVar 13) (mCons (mCB m__law_pick (mCons (mVar 0) (mCons (mLst (mCons (mC (.int 1)) (mCons (mC (.int 0)) (mCons (mC .non) mNil)))) mNil))) mNil)))) (mCons (mC (.str "line")) (mCons (mC (.int 1)) (mCons (mVar 2) mNil))))))))
    (mRet (mC (.bl false)))
    mNext)))
    (mRet ((mAndV (mCB m__law_refused (mCons (mC (.int 0)) (mCons (mLst (mCons (mVar 1) (mCons (mBin vAdd (mCB vLen (mCons (mVar 1) mNil)) (mC (.int 1))) mNil))) (mCons (mC (.str "index")) (mCons (mC (.int 1)) (mCons (mVar 2) mNil)))))) (mCB m__law_refused (mCons (mC (.int 0)) (mCons (mLst (mCons (mVar 1) (mCons (mUn vNeg (mC (.int 1))) mNil))) (mCons (mC (.str "index")) (mCons (mC (.int 1)) (mCons (mNotV (mVar 2)) mNil)))))))))))))))
def m__law_wrong_right : MF := mFn 6 3 (mSeq (mFor (mRg1 (mCons (mC (.int 3)) mNil)) (.nm 3)
    (mSeq (mSet 4 (mCB m__law_pick (mCons (mVar 0) (mCons (mLst (mCons (mC .non) (mCons (mC (.int 5)) (mCons (mC (.bl true)) (mCons (mLst (mCons (mC (.str "a")) mNil)) (mCons (mTup (mCons (mC (.str "a")) (mCons (mC (.str "b")) mNil))) (mCons (mDisp [((mC (.str "a")), (mC (.int 1)))]) (mCons (mLst mNil) (mCons (mTup mNil) mNil))))))))) mNil))))
    (mSeq (mIf (mNot (mTru (mCB m__law_refused (mCons (mVar 3) (mCons (mLst (mCons (mVar 4) (mCons (mCB m__law_pick (mCons (mVar 0) (mCons (mLst (mCons (mC (.int 0)) (mCons (mC (.int 1)) (mCons (mC .non) (mCons (mUn vNeg (mC (.int 1))) mNil))))) mNil))) (mCons (mCB m__law_pick (mCons (mVar 0) (mCons (mLst (mCons (mC (.int 1)) (mCons (mC .non) mNil))) mNil))) mNil)))) (mCons (mC (.str "text")) (mCons (mC (.int 0)) (mCons (mVar 2) mNil))))))))
    (mRet (mC (.bl false)))
    mNext)
    (mSeq (mSet 5 (mCB m__law_pick (mCons (mVar 0) (mCons (mLst (mCons (mC .non) (mCons (mC (.bl true)) (mCons (mC (.bl false)) (mCons (mC (.str "1")) (mCons (mLst (mCons (mC (.int 1)) mNil)) (mCons (mTup (mCons (mC (.int 1)) mNil)) (mCons (mDisp [((mC (.str "1")), (mC (.int 1)))]) (mCons (mLst mNil) (mCons (mBin vPow (mC (.int 10)) (mC (.int 19))) (mCons (mUn vNeg (mBin vPow (mC (.int 10)) (mC (.int 19)))) mNil))))))))))) mNil))))
    (mSeq (mIf (mNot (mTru (mCB m__law_refused (mCons (mVar 3) (mCons (mLst (mCons (mVar 1) (mCons (mVar 5) (mCons (mCB m__law_pick (mCons (mVar 0) (mCons (mLst (mCons (mC (.int 1)) (mCons (mC (.int 0)) (mCons (mC .non) (mCons (mC (.str "1")) mNil))))) mNil))) mNil)))) (mCons (mIfE (mBl (mBin vEq (mVar 3) (mC (.int 0)))) (mC (.str "index")) (mC (.str "line"))) (mCons (mC (.int 1)) (mCons (mNotV (mVar 2)) mNil))))))))
    (mRet (mC (.bl false)))
    mNext)
    (mSeq (mSet 5 (mCB m__law_pick (mCons (mVar 0) (mCons (mLst (mCons (mC .non) (mCons (mC (.bl true)) (mCons (mC (.bl false)) (mCons (mC (.str "1")) (mCons (mLst (mCons (mC (.int 1)) mNil)) (mCons (mTup (mCons (mC (.int 1)) mNil)) (mCons (mDisp [((mC (.str "1")), (mC (.int 1)))]) (mCons (mLst mNil) (mCons (mBin vPow (mC (.int 10)) (mC (.int 19))) (mCons (mUn vNeg (mC (.int 1))) mNil))))))))))) mNil))))
    (mSeq (mIf ((mAnd (mBl (mBin vGt (mVar 3) (mC (.int 0)))) (mNot (mTru (mCB m__law_refused (mCons (mVar 3) (mCons (mLst (mCons (mVar 1) (mCons (mBin vAdd (mC (.int 1)) (mCB m__law_take (mCons (mVar 0) (mCons (mCB vLen (mCons (mMeth "str" wSplit (mVar 1) (mCons (mC (.str "\n")) mNil)) mNil)) mNil)))) (mCons (mVar 5) mNil)))) (mCons (mC (.str "column")) (mCons (mC (.int 2)) (mCons (mVar 2) mNil))))))))))
    (mRet (mC (.bl false)))
    mNext)
    (mSet 2 (mNotV (mVar 2))))))))))
    (mRet (mC (.bl true))))
def m_law : MF := mFn 6 1 (mSeq (mFor (mRg1 (mCons (mC (.int 2)) mNil)) (.nm 1)
    (mSeq (mSet 2 (mCB m__law_box (mCons (mCB m__law_cell (mCons (mVar 0) (mCons (mVar 1) mNil))) mNil)))
    (mSeq (mSet 3 (mBin vEq (mCB m__law_take (mCons (mVar 2) (mCons (mC (.int 2)) mNil))) (mC (.int 0))))
    (mFor (mRg1 (mCons (mC (.int 4)) mNil)) (.nm 4)
    (mSeq (mSet 5 (mIfE ((mAnd (mBl (mBin vEq (mVar 4) (mC (.int 3)))) (mBl (mBin vEq (mCB m__law_take (mCons (mVar 2) (mCons (mC (.int 3)) mNil))) (mC (.int 0)))))) (mC (.str "")) (mCB m__law_text (mCons (mVar 2) (mCons (mBin vIx (mLst (mCons (mC (.int 0)) (mCons (mC (.int 1)) (mCons (mC (.int 0)) (mCons (mCB m__law_pick (mCons (mVar 2) (mCons (mLst (mCons (mC (.int 0)) (mCons (mC (.int 2)) (mCons (mC (.int 3)) (mCons (mC (.int 1)) mNil))))) mNil))) mNil))))) (mVar 4)) mNil)))))
    (mSeq (mIf ((mOr (mNot (mTru (mCB m__law_text_right (mCons (mVar 2) (mCons (mVar 5) (mCons (mVar 3) mNil)))))) (mNot (mTru (mCB m__law_wrong_right (mCons (mVar 2) (mCons (mVar 5) (mCons (mNotV (mVar 3)) mNil))))))))
    (mRet (mC (.bl false)))
    mNext)
    (mSet 3 (mNotV (mVar 3)))))))))
    (mRet (mC (.bl true))))
end K05

namespace K05
open PySem PySem.Spec PyProof.Rows L2 Mm He
/-! ### what the walk leans on -/
structure G (K : PySem.W.Frag) (mg : Str → Option Value) : Prop where
  n_abs : mg "abs" = none
  n_bool : mg "bool" = none
  n_dict : mg "dict" = none
  n_int : mg "int" = none
  n_isinstance : mg "isinstance" = none
  n_len : mg "len" = none
  n_list : mg "list" = none
  n_range : mg "range" = none
  n_str : mg "str" = none
  n_sum : mg "sum" = none
  n_tuple : mg "tuple" = none
  o_AskError : mg "AskError" = some (.ref (ga K "AskError"))
  o_InvalidColumn : mg "InvalidColumn" = some (.ref (ga K "InvalidColumn"))
  o_InvalidIndex : mg "InvalidIndex" = some (.ref (ga K "InvalidIndex"))
  o_InvalidLine : mg "InvalidLine" = some (.ref (ga K "InvalidLine"))
  o_InvalidText : mg "InvalidText" = some (.ref (ga K "InvalidText"))
  o__law_asked : mg "_law_asked" = some (.ref (ga K "_law_asked"))
  o__law_box : mg "_law_box" = some (.ref (ga K "_law_box"))
  o__law_cell : mg "_law_cell" = some (.ref (ga K "_law_cell"))
  o__law_kept : mg "_law_kept" = some (.ref (ga K "_law_kept"))
  o__law_pick : mg "_law_pick" = some (.ref (ga K "_law_pick"))
  o__law_positions : mg "_law_positions" = some (.ref (ga K "_law_positions"))
  o__law_refused : mg "_law_refused" = some (.ref (ga K "_law_refused"))
  o__law_same : mg "_law_same" = some (.ref (ga K "_law_same"))
  o__law_take : mg "_law_take" = some (.ref (ga K "_law_take"))
  o__law_text : mg "_law_text" = some (.ref (ga K "_law_text"))
  o__law_text_right : mg "_law_text_right" = some (.ref (ga K "_law_text_right"))
  o__law_wrong_right : mg "_law_wrong_right" = some (.ref (ga K "_law_wrong_right"))
  o_check_position : mg "check_position" = some (.ref (ga K "check_position"))
  o_check_text : mg "check_text" = some (.ref (ga K "check_text"))
  o_index_of : mg "index_of" = some (.ref (ga K "index_of"))
  o_is_between : mg "is_between" = some (.ref (ga K "is_between"))
  o_is_integer : mg "is_integer" = some (.ref (ga K "is_integer"))
  o_law : mg "law" = some (.ref (ga K "law"))
  o_mark_below : mg "mark_below" = some (.ref (ga K "mark_below"))
  o_marked : mg "marked" = some (.ref (ga K "marked"))
  o_place_of : mg "place_of" = some (.ref (ga K "place_of"))
  o_position_of : mg "position_of" = some (.ref (ga K "position_of"))
  d__law_box : ∃ fd, FunD K "_law_box" "_law_box" (defArgs s__law_box) (defBody s__law_box) (defScope s__law_box) [] [] (ga K "_law_box") fd
  d__law_cell : ∃ fd, FunD K "_law_cell" "_law_cell" (defArgs s__law_cell) (defBody s__law_cell) (defScope s__law_cell) [] [] (ga K "_law_cell") fd
  d__law_take : ∃ fd, FunD K "_law_take" "_law_take" (defArgs s__law_take) (defBody s__law_take) (defScope s__law_take) [] [] (ga K "_law_take") fd
  d__law_pick : ∃ fd, FunD K "_law_pick" "_law_pick" (defArgs s__law_pick) (defBody s__law_pick) (defScope s__law_pick) [] [] (ga K "_law_pick") fd
  d__law_text : ∃ fd, FunD K "_law_text" "_law_text" (defArgs s__law_text) (defBody s__law_text) (defScope s__law_text) [] [] (ga K "_law_text") fd
  d_check_text : ∃ fd, FunD K "check_text" "check_text" (defArgs s_check_text) (defBody s_check_text) (defScope s_check_text) [] [] (ga K "check_text") fd
  d_is_integer : ∃ fd, FunD K "is_integer" "is_integer" (defArgs s_is_integer) (defBody s_is_integer) (defScope s_is_integer) [] [] (ga K "is_integer") fd
  d_is_between : ∃ fd, FunD K "is_between" "is_between" (defArgs s_is_between) (defBody s_is_between) (defScope s_is_between) [] [] (ga K "is_between") fd
  d_check_position : ∃ fd, FunD K "check_position" "check_position" (defArgs s_check_position) (defBody s_check_position) (defScope s_check_position) [] [] (ga K "check_position") fd
  d_index_of : ∃ fd, FunD K "index_of" "index_of" (defArgs s_index_of) (defBody s_index_of) (defScope s_index_of) [] [] (ga K "index_of") fd
  d_mark_below : ∃ fd, FunD K "mark_below" "mark_below" (defArgs s_mark_below) (defBody s_mark_below) (defScope s_mark_below) [] [] (ga K "mark_below") fd
  d_marked : ∃ fd, FunD K "marked" "marked" (defArgs s_marked) (defBody s_marked) (defScope s_marked) [] [] (ga K "marked") fd
  d_place_of : ∃ fd, FunD K "place_of" "place_of" (defArgs s_place_of) (defBody s_place_of) (defScope s_place_of) [] [] (ga K "place_of") fd
  d_position_of : ∃ fd, FunD K "position_of" "position_of" (defArgs s_position_of) (defBody s_position_of) (defScope s_position_of) [] [] (ga K "position_of") fd
  d__law_asked : ∃ fd, FunD K "_law_asked" "_law_asked" (defArgs s__law_asked) (defBody s__law_asked) (defScope s__law_asked) [] [] (ga K "_law_asked") fd
  d__law_positions : ∃ fd, FunD K "_law_positions" "_law_positions" (defArgs s__law_positions) (defBody s__law_positions) (defScope s__law_positions) [] [] (ga K "_law_positions") fd
  d__law_same : ∃ fd, FunD K "_law_same" "_law_same" (defArgs s__law_same) (defBody s__law_same) (defScope s__law_same) [] [] (ga K "_law_same") fd
  d__law_kept : ∃ fd, FunD K "_law_kept" "_law_kept" (defArgs s__law_kept) (defBody s__law_kept) (defScope s__law_kept) [] [] (ga K "_law_kept") fd
  d__law_refused : ∃ fd, FunD K "_law_refused" "_law_refused" (defArgs s__law_refused) (defBody s__law_refused) (defScope s__law_refused) [] [] (ga K "_law_refused") fd
  d__law_text_right : ∃ fd, FunD K "_law_text_right" "_law_text_right" (defArgs s__law_text_right) (defBody s__law_text_right) (defScope s__law_text_right) [] [] (ga K "_law_text_right") fd
  d__law_wrong_right : ∃ fd, FunD K "_law_wrong_right" "_law_wrong_right" (defArgs s__law_wrong_right) (defBody s__law_wrong_right) (defScope s__law_wrong_right) [] [] (ga K "_law_wrong_right") fd
  d_law : ∃ fd, FunD K "law" "law" (defArgs s_law) (defBody s_law) (defScope s_law) [] [] (ga K "law") fd
  i_InvalidColumn : ∃ fd, FunD K "__init__" "InvalidColumn.__init__" (defArgs s_InvalidColumn_init) (defBody s_InvalidColumn_init) (defScope s_InvalidColumn_init) [] [] (ma K (ga K "InvalidColumn") "__init__") fd
  i_InvalidIndex : ∃ fd, FunD K "__init__" "InvalidIndex.__init__" (defArgs s_InvalidIndex_init) (defBody s_InvalidIndex_init) (defScope s_InvalidIndex_init) [] [] (ma K (ga K "InvalidIndex") "__init__") fd
  i_InvalidLine : ∃ fd, FunD K "__init__" "InvalidLine.__init__" (defArgs s_InvalidLine_init) (defBody s_InvalidLine_init) (defScope s_InvalidLine_init) [] [] (ma K (ga K "InvalidLine") "__init__") fd
  i_InvalidText : ∃ fd, FunD K "__init__" "InvalidText.__init__" (defArgs s_InvalidText_init) (defBody s_InvalidText_init) (defScope s_InvalidText_init) [] [] (ma K (ga K "InvalidText") "__init__") fd
  x_InvalidColumn : ExC K (ga K "InvalidColumn") (ma K (ga K "InvalidColumn") "__init__") ["given"]
  x_InvalidIndex : ExC K (ga K "InvalidIndex") (ma K (ga K "InvalidIndex") "__init__") ["given"]
  x_InvalidLine : ExC K (ga K "InvalidLine") (ma K (ga K "InvalidLine") "__init__") ["given"]
  x_InvalidText : ExC K (ga K "InvalidText") (ma K (ga K "InvalidText") "__init__") ["given"]
  em : ∀ p ∈ EM, PySem.W.exmOne K (.ref (ga K p.1)) (.ref (ga K p.2.1)) = some p.2.2
  xf_given : ∀ c ∈ XF, XfC K (ga K c) ∧ PySem.W.findIn K (.ref (ga K c)) "given" = some none
section
variable {P : Program} {w : World} {K : PySem.W.Frag} {mg : Str → Option Value} {base : Heap}
/-! ### error classes -/
theorem I_InvalidColumn (g : G K mg) : OkI P w K mg base 1 "InvalidColumn" ["self", "given"] ["given"] := by
  obtain ⟨fd, F⟩ := g.i_InvalidColumn
  exact ⟨_, fd, g.x_InvalidColumn, init_ok (k := 0) F ⟨rfl, rfl, rfl, by decide +kernel, rfl, by decide +kernel, by decide +kernel⟩ (Or.inl rfl) (Or.inl rfl), F.bindsN fun _ _ _ _ _ _ us hl => match us, hl with | [_, _], _ => rfl⟩
theorem I_InvalidIndex (g : G K mg) : OkI P w K mg base 1 "InvalidIndex" ["self", "given"] ["given"] := by
  obtain ⟨fd, F⟩ := g.i_InvalidIndex
  exact ⟨_, fd, g.x_InvalidIndex, init_ok (k := 0) F ⟨rfl, rfl, rfl, by decide +kernel, rfl, by decide +kernel, by decide +kernel⟩ (Or.inl rfl) (Or.inl rfl), F.bindsN fun _ _ _ _ _ _ us hl => match us, hl with | [_, _], _ => rfl⟩
theorem I_InvalidLine (g : G K mg) : OkI P w K mg base 1 "InvalidLine" ["self", "given"] ["given"] := by
  obtain ⟨fd, F⟩ := g.i_InvalidLine
  exact ⟨_, fd, g.x_InvalidLine, init_ok (k := 0) F ⟨rfl, rfl, rfl, by decide +kernel, rfl, by decide +kernel, by decide +kernel⟩ (Or.inl rfl) (Or.inl rfl), F.bindsN fun _ _ _ _ _ _ us hl => match us, hl with | [_, _], _ => rfl⟩
theorem I_InvalidText (g : G K mg) : OkI P w K mg base 1 "InvalidText" ["self", "given"] ["given"] := by
  obtain ⟨fd, F⟩ := g.i_InvalidText
  exact ⟨_, fd, g.x_InvalidText, init_ok (k := 0) F ⟨rfl, rfl, rfl, by decide +kernel, rfl, by decide +kernel, by decide +kernel⟩ (Or.inl rfl) (Or.inl rfl), F.bindsN fun _ _ _ _ _ _ us hl => match us, hl with | [_, _], _ => rfl⟩
/-! ### the walk -/
theorem sc__law_box : FnScope ["great"] ["great"] (defScope s__law_box) := ⟨rfl, rfl, rfl, by decide +kernel, rfl, by decide +kernel, by decide +kernel⟩
theorem ok__law_box (g : G K mg)  : OkF P w K mg base 1 "_law_box" s__law_box ["great"] m__law_box := OkF.of (k := 0) g.d__law_box sc__law_box (fun _ _ _ _ _ _ us hl => match us, hl with | [_], _ => rfl) fun f cdv A outer s H E hr lk =>
    (sss_one (ss_ret (se_lst (sa_cons (se_callB cm_abs rfl g.n_abs boot_abs (sa_cons (se_var 0) sa_nil)) (sa_cons (se_cmp om_ge (se_callB cm_abs rfl g.n_abs boot_abs (sa_cons (se_var 0) sa_nil)) (se_bin om_pow (se_int) (se_int)) (nomark _)) (sa_cons (se_bin om_mod (se_callTy cm_int rfl g.n_int boot_int (sa_cons (se_callB cm_abs rfl g.n_abs boot_abs (sa_cons (se_var 0) sa_nil)) sa_nil)) (se_int)) (sa_cons (se_int) sa_nil)))))))
theorem sc__law_cell : FnScope ["script", "k"] ["script", "k"] (defScope s__law_cell) := ⟨rfl, rfl, rfl, by decide +kernel, rfl, by decide +kernel, by decide +kernel⟩
theorem ok__law_cell (g : G K mg)  : OkF P w K mg base 1 "_law_cell" s__law_cell ["script", "k"] m__law_cell := OkF.of (k := 0) g.d__law_cell sc__law_cell (fun _ _ _ _ _ _ us hl => match us, hl with | [_, _], _ => rfl) fun f cdv A outer s H E hr lk =>
    (sss_one (ss_ret (se_if (st_cmp om_lt (se_var 1) (se_callB cm_len rfl g.n_len boot_len (sa_cons (se_var 0) sa_nil)) (nomark _)) (se_ix (om_ix hr.u1) (se_var 0) (se_var 1) (fun _ _ => rfl)) (se_bin om_add (se_bin om_mul (se_int) (se_var 1)) (se_bin om_mod (se_callTy cm_int rfl g.n_int boot_int (sa_cons (se_callB (cm_sum rfl) rfl g.n_sum boot_sum (sa_cons (se_slice (se_var 0) so_none (so_some (se_int))) sa_nil)) sa_nil)) (se_int))))))
theorem sc__law_take : FnScope ["box", "many", "digit"] ["box", "many"] (defScope s__law_take) := ⟨rfl, rfl, rfl, by decide +kernel, rfl, by decide +kernel, by decide +kernel⟩
theorem ok__law_take (g : G K mg)  : OkF P w K mg base 1 "_law_take" s__law_take ["box", "many"] m__law_take := OkF.of (k := 0) g.d__law_take sc__law_take (fun _ _ _ _ _ _ us hl => match us, hl with | [_, _], _ => rfl) fun f cdv A outer s H E hr lk =>
    (sss_cons (ss_if (st_w (sw_and (st_truth (se_ix (om_ix hr.u1) (se_var 0) (se_int) (fun _ _ => rfl))) (sw_and1 (st_cmp om_gt (se_ix (om_ix hr.u1) (se_var 0) (se_int) (fun _ _ => rfl)) (se_int) (nomark _)))))
    (sss_cons (ss_set (i := 2) sc__law_take.nd rfl (Or.inl rfl) (se_bin om_mod (se_callTy cm_int rfl g.n_int boot_int (sa_cons (se_ix (om_ix hr.u1) (se_var 0) (se_int) (fun _ _ => rfl)) sa_nil)) (se_var 1)))
    (sss_cons (ss_put hr.u1 (se_bin om_div (se_callTy cm_int rfl g.n_int boot_int (sa_cons (se_ix (om_ix hr.u1) (se_var 0) (se_int) (fun _ _ => rfl)) sa_nil)) (se_var 1)) (se_var 0) (se_int))
    (sss_one (ss_ret (se_var 2)))))
    sss_nil)
    (sss_cons (ss_put hr.u1 (se_bin om_add (se_ix (om_ix hr.u1) (se_var 0) (se_int) (fun _ _ => rfl)) (se_int)) (se_var 0) (se_int))
    (sss_cons (ss_put hr.u1 (se_bin om_mod (se_callTy cm_int rfl g.n_int boot_int (sa_cons (se_bin om_add (se_bin om_add (se_bin om_mul (se_ix (om_ix hr.u1) (se_var 0) (se_int) (fun _ _ => rfl)) (se_int)) (se_bin om_mul (se_int) (se_ix (om_ix hr.u1) (se_var 0) (se_int) (fun _ _ => rfl)))) (se_int)) sa_nil)) (se_int)) (se_var 0) (se_int))
    (sss_one (ss_ret (se_bin om_mod (se_bin om_div (se_ix (om_ix hr.u1) (se_var 0) (se_int) (fun _ _ => rfl)) (se_int)) (se_var 1)))))))
theorem sc__law_pick : FnScope ["box", "items"] ["box", "items"] (defScope s__law_pick) := ⟨rfl, rfl, rfl, by decide +kernel, rfl, by decide +kernel, by decide +kernel⟩
theorem ok__law_pick (g : G K mg) (C__law_take : OkF P w K mg base 1 "_law_take" s__law_take ["box", "many"] m__law_take) : OkF P w K mg base 2 "_law_pick" s__law_pick ["box", "items"] m__law_pick := OkF.of (k := 1) g.d__law_pick sc__law_pick (fun _ _ _ _ _ _ us hl => match us, hl with | [_, _], _ => rfl) fun f cdv A outer s H E hr lk =>
    (sss_one (ss_ret (se_ix (om_ix hr.u1) (se_var 1) (se_callF (takes_of rfl rfl rfl rfl) C__law_take (hr.mono (by decide)) rfl g.o__law_take (sa_cons (se_var 0) (sa_cons (se_callB cm_len rfl g.n_len boot_len (sa_cons (se_var 1) sa_nil)) sa_nil))) (fun _ _ => rfl))))
theorem sc__law_text : FnScope ["box", "way", "signs", "many", "lines", "turn", "long", "kind", "at", "k"] ["box", "way"] (defScope s__law_text) := ⟨rfl, rfl, rfl, by decide +kernel, rfl, by decide +kernel, by decide +kernel⟩
theorem ok__law_text (g : G K mg) (C__law_pick : OkF P w K mg base 2 "_law_pick" s__law_pick ["box", "items"] m__law_pick) (C__law_take : OkF P w K mg base 1 "_law_take" s__law_take ["box", "many"] m__law_take) : OkF P w K mg base 3 "_law_text" s__law_text ["box", "way"] m__law_text := OkF.of (k := 2) g.d__law_text sc__law_text (fun _ _ _ _ _ _ us hl => match us, hl with | [_, _], _ => rfl) fun f cdv A outer s H E hr lk =>
    (sss_cons (ss_set (i := 2) sc__law_text.nd rfl (Or.inr rfl) (se_str))
    (sss_cons (ss_set (i := 3) sc__law_text.nd rfl (Or.inl rfl) (se_ix (om_ix hr.u1) (se_lst (sa_cons (se_bin om_add (se_int) (se_callF (takes_of rfl rfl rfl rfl) C__law_take (hr.mono (by decide)) rfl g.o__law_take (sa_cons (se_var 0) (sa_cons (se_int) sa_nil)))) (sa_cons (se_bin om_add (se_int) (se_callF (takes_of rfl rfl rfl rfl) C__law_take (hr.mono (by decide)) rfl g.o__law_take (sa_cons (se_var 0) (sa_cons (se_int) sa_nil)))) (sa_cons (se_bin om_add (se_int) (se_callF (takes_of rfl rfl rfl rfl) C__law_take (hr.mono (by decide)) rfl g.o__law_take (sa_cons (se_var 0) (sa_cons (se_int) sa_nil)))) (sa_cons (se_bin om_add (se_int) (se_callF (takes_of rfl rfl rfl rfl) C__law_take (hr.mono (by decide)) rfl g.o__law_take (sa_cons (se_var 0) (sa_cons (se_int) sa_nil)))) sa_nil))))) (se_var 1) (fun _ _ => rfl)))
    (sss_cons (ss_set (i := 4) sc__law_text.nd rfl (Or.inl rfl) (se_lst sa_nil))
    (sss_cons (ss_for (passes_of rfl) rfl (si_rg1 rfl g.n_range (sa_cons (se_var 3) sa_nil)) (sg_name sc__law_text.nd rfl (Or.inl rfl))
    (sss_cons (ss_set (i := 6) sc__law_text.nd rfl (Or.inl rfl) (se_ix (om_ix hr.u1) (se_lst (sa_cons (se_callF (takes_of rfl rfl rfl rfl) C__law_take (hr.mono (by decide)) rfl g.o__law_take (sa_cons (se_var 0) (sa_cons (se_int) sa_nil))) (sa_cons (se_callF (takes_of rfl rfl rfl rfl) C__law_take (hr.mono (by decide)) rfl g.o__law_take (sa_cons (se_var 0) (sa_cons (se_int) sa_nil))) (sa_cons (se_callF (takes_of rfl rfl rfl rfl) C__law_take (hr.mono (by decide)) rfl g.o__law_take (sa_cons (se_var 0) (sa_cons (se_int) sa_nil))) (sa_cons (se_bin om_add (se_int) (se_callF (takes_of rfl rfl rfl rfl) C__law_take (hr.mono (by decide)) rfl g.o__law_take (sa_cons (se_var 0) (sa_cons (se_int) sa_nil)))) sa_nil))))) (se_var 1) (fun _ _ => rfl)))
    (sss_cons (ss_set (i := 7) sc__law_text.nd rfl (Or.inr rfl) (se_callF (takes_of rfl rfl rfl rfl) C__law_take (hr.mono (by decide)) rfl g.o__law_take (sa_cons (se_var 0) (sa_cons (se_int) sa_nil))))
    (sss_one (ss_if (st_w (sw_and (st_cmp (om_eq hr.u64) (se_var 7) (se_int) (nomark _)) (sw_and1 (st_cmp (om_ne hr.u64) (se_var 4) (se_lst sa_nil) (nomark _)))))
    (sss_one (ss_expr (se_meth PySem.F.plainAttrs_list PySem.F.slot_list_append PySem.F.type_list_append mm_append (se_var 4) (sa_cons (se_callF (takes_of rfl rfl rfl rfl) C__law_pick (hr.mono (by decide)) rfl g.o__law_pick (sa_cons (se_var 0) (sa_cons (se_lst (sa_cons (se_ix (om_ix hr.u1) (se_var 4) (se_neg (se_int)) (fun _ _ => rfl)) (sa_cons (se_ix (om_ix hr.u1) (se_var 4) (se_int) (fun _ _ => rfl)) (sa_cons (se_str) sa_nil)))) sa_nil))) sa_nil))))
    (sss_cons (ss_set (i := 8) sc__law_text.nd rfl (Or.inr rfl) (se_callF (takes_of rfl rfl rfl rfl) C__law_take (hr.mono (by decide)) rfl g.o__law_take (sa_cons (se_var 0) (sa_cons (se_callB cm_len rfl g.n_len boot_len (sa_cons (se_var 2) sa_nil)) sa_nil))))
    (sss_one (ss_expr (se_meth PySem.F.plainAttrs_list PySem.F.slot_list_append PySem.F.type_list_append mm_append (se_var 4) (sa_cons (se_meth PySem.F.plainAttrs_str PySem.F.slot_str_join PySem.F.type_str_join mm_join (se_str) (sa_cons (se_lc (own := [("k", 9)]) rfl sc__law_text.nd (si_rg1 rfl g.n_range (sa_cons (se_var 6) sa_nil)) (blk_ok rfl rfl) (by decide) (fun _ _ _ _ _ => (sg_name sc__law_text.nd rfl (Or.inl rfl))) (fun _ _ _ _ _ => sts_nil) (fun _ _ _ _ _ => (se_ix (om_ix hr.u1) (se_var 2) (se_bin om_mod (se_callTy cm_int rfl g.n_int boot_int (sa_cons (se_bin om_add (se_var 8) (se_bin om_mul (se_var 9) (se_bin om_add (se_int) (se_var 7)))) sa_nil)) (se_callB cm_len rfl g.n_len boot_len (sa_cons (se_var 2) sa_nil))) (fun _ _ => rfl)))) sa_nil)) sa_nil))))))))))
    (sss_one (ss_ret (se_bin om_add (se_meth PySem.F.plainAttrs_str PySem.F.slot_str_join PySem.F.type_str_join mm_join (se_str) (sa_cons (se_var 4) sa_nil)) (se_ix (om_ix hr.u1) (se_lst (sa_cons (se_str) (sa_cons (se_str) (sa_cons (se_str) (sa_cons (se_str) sa_nil))))) (se_callF (takes_of rfl rfl rfl rfl) C__law_take (hr.mono (by decide)) rfl g.o__law_take (sa_cons (se_var 0) (sa_cons (se_int) sa_nil))) (fun _ _ => rfl)))))))))
theorem sc_check_text : FnScope ["text"] ["text"] (defScope s_check_text) := ⟨rfl, rfl, rfl, by decide +kernel, rfl, by decide +kernel, by decide +kernel⟩
theorem ok_check_text (g : G K mg)  : OkF P w K mg base 3 "check_text" s_check_text ["text"] m_check_text := OkF.of (k := 2) g.d_check_text sc_check_text (fun _ _ _ _ _ _ us hl => match us, hl with | [_], _ => rfl) fun f cdv A outer s H E hr lk =>
    (sss_one (ss_if (st_not (st_truth (se_callB cm_isi rfl g.n_isinstance boot_isinstance (sa_cons (se_var 0) (sa_cons (se_ty rfl g.n_str boot_str) sa_nil)))))
    (sss_one (ss_raiseF rfl (takes_of rfl rfl rfl rfl) (I_InvalidText g) (hr.mono (by decide)) rfl g.o_InvalidText (sa_cons (se_var 0) sa_nil)))
    sss_nil))
theorem sc_is_integer : FnScope ["value"] ["value"] (defScope s_is_integer) := ⟨rfl, rfl, rfl, by decide +kernel, rfl, by decide +kernel, by decide +kernel⟩
theorem ok_is_integer (g : G K mg)  : OkF P w K mg base 1 "is_integer" s_is_integer ["value"] m_is_integer := OkF.of (k := 0) g.d_is_integer sc_is_integer (fun _ _ _ _ _ _ us hl => match us, hl with | [_], _ => rfl) fun f cdv A outer s H E hr lk =>
    (sss_one (ss_ret ((se_and (se_callB cm_isi rfl g.n_isinstance boot_isinstance (sa_cons (se_var 0) (sa_cons (se_ty rfl g.n_int boot_int) sa_nil))) (se_one (se_not (se_callB cm_isi rfl g.n_isinstance boot_isinstance (sa_cons (se_var 0) (sa_cons (se_ty rfl g.n_bool boot_bool) sa_nil)))))))))
theorem sc_is_between : FnScope ["value", "least", "most"] ["value", "least", "most"] (defScope s_is_between) := ⟨rfl, rfl, rfl, by decide +kernel, rfl, by decide +kernel, by decide +kernel⟩
theorem ok_is_between (g : G K mg) (C_is_integer : OkF P w K mg base 1 "is_integer" s_is_integer ["value"] m_is_integer) : OkF P w K mg base 2 "is_between" s_is_between ["value", "least", "most"] m_is_between := OkF.of (k := 1) g.d_is_between sc_is_between (fun _ _ _ _ _ _ us hl => match us, hl with | [_, _, _], _ => rfl) fun f cdv A outer s H E hr lk =>
    (sss_one (ss_ret ((se_and (se_callF (takes_of rfl rfl rfl rfl) C_is_integer (hr.mono (by decide)) rfl g.o_is_integer (sa_cons (se_var 0) sa_nil)) (se_one (se_chain om_le om_le (se_var 1) (se_var 0) (se_var 2)))))))
theorem sc_check_position : FnScope ["text", "line", "column", "rows"] ["text", "line", "column"] (defScope s_check_position) := ⟨rfl, rfl, rfl, by decide +kernel, rfl, by decide +kernel, by decide +kernel⟩
theorem ok_check_position (g : G K mg) (C_check_text : OkF P w K mg base 3 "check_text" s_check_text ["text"] m_check_text) (C_is_between : OkF P w K mg base 2 "is_between" s_is_between ["value", "least", "most"] m_is_between) : OkF P w K mg base 4 "check_position" s_check_position ["text", "line", "column"] m_check_position := OkF.of (k := 3) g.d_check_position sc_check_position (fun _ _ _ _ _ _ us hl => match us, hl with | [_, _, _], _ => rfl) fun f cdv A outer s H E hr lk =>
    (sss_cons (ss_expr (se_callF (takes_of rfl rfl rfl rfl) C_check_text (hr.mono (by decide)) rfl g.o_check_text (sa_cons (se_var 0) sa_nil)))
    (sss_cons (ss_set (i := 3) sc_check_position.nd rfl (Or.inl rfl) (se_meth PySem.F.plainAttrs_str PySem.F.slot_str_split PySem.F.type_str_split mm_split (se_var 0) (sa_cons (se_str) sa_nil)))
    (sss_cons (ss_if (st_not (st_truth (se_callF (takes_of rfl rfl rfl rfl) C_is_between (hr.mono (by decide)) rfl g.o_is_between (sa_cons (se_var 1) (sa_cons (se_int) (sa_cons (se_callB cm_len rfl g.n_len boot_len (sa_cons (se_var 3) sa_nil)) sa_nil))))))
    (sss_one (ss_raiseF rfl (takes_of rfl rfl rfl rfl) (I_InvalidLine g) (hr.mono (by decide)) rfl g.o_InvalidLine (sa_cons (se_var 1) sa_nil)))
    sss_nil)
    (sss_one (ss_if (st_not (st_truth (se_callF (takes_of rfl rfl rfl rfl) C_is_between (hr.mono (by decide)) rfl g.o_is_between (sa_cons (se_var 2) (sa_cons (se_int) (sa_cons (se_bin om_add (se_callB cm_len rfl g.n_len boot_len (sa_cons (se_ix (om_ix hr.u1) (se_var 3) (se_bin om_sub (se_var 1) (se_int)) (fun _ _ => rfl)) sa_nil)) (se_int)) sa_nil))))))
    (sss_one (ss_raiseF rfl (takes_of rfl rfl rfl rfl) (I_InvalidColumn g) (hr.mono (by decide)) rfl g.o_InvalidColumn (sa_cons (se_var 2) sa_nil)))
    sss_nil)))))
theorem sc_index_of : FnScope ["text", "line", "column", "ahead", "row"] ["text", "line", "column"] (defScope s_index_of) := ⟨rfl, rfl, rfl, by decide +kernel, rfl, by decide +kernel, by decide +kernel⟩
theorem ok_index_of (g : G K mg) (C_check_position : OkF P w K mg base 4 "check_position" s_check_position ["text", "line", "column"] m_check_position) : OkF P w K mg base 5 "index_of" s_index_of ["text", "line", "column"] m_index_of := OkF.of (k := 4) g.d_index_of sc_index_of (fun _ _ _ _ _ _ us hl => match us, hl with | [_, _, _], _ => rfl) fun f cdv A outer s H E hr lk =>
    (sss_cons (ss_expr (se_callF (takes_of rfl rfl rfl rfl) C_check_position (hr.mono (by decide)) rfl g.o_check_position (sa_cons (se_var 0) (sa_cons (se_var 1) (sa_cons (se_var 2) sa_nil)))))
    (sss_cons (ss_set (i := 3) sc_index_of.nd rfl (Or.inl rfl) (se_slice (se_meth PySem.F.plainAttrs_str PySem.F.slot_str_split PySem.F.type_str_split mm_split (se_var 0) (sa_cons (se_str) sa_nil)) so_none (so_some (se_bin om_sub (se_var 1) (se_int)))))
    (sss_one (ss_ret (se_bin om_sub (se_bin om_add (se_callB (cm_sum rfl) rfl g.n_sum boot_sum (sa_cons (se_lc (own := [("row", 4)]) rfl sc_index_of.nd (si_sq (se_var 3)) (blk_ok rfl rfl) (by decide) (fun _ _ _ _ _ => (sg_name sc_index_of.nd rfl (Or.inl rfl))) (fun _ _ _ _ _ => sts_nil) (fun _ _ _ _ _ => (se_bin om_add (se_callB cm_len rfl g.n_len boot_len (sa_cons (se_var 4) sa_nil)) (se_int)))) sa_nil)) (se_var 2)) (se_int))))))
theorem sc_mark_below : FnScope ["text", "line", "column"] ["text", "line", "column"] (defScope s_mark_below) := ⟨rfl, rfl, rfl, by decide +kernel, rfl, by decide +kernel, by decide +kernel⟩
theorem ok_mark_below (g : G K mg)  : OkF P w K mg base 1 "mark_below" s_mark_below ["text", "line", "column"] m_mark_below := OkF.of (k := 0) g.d_mark_below sc_mark_below (fun _ _ _ _ _ _ us hl => match us, hl with | [_, _, _], _ => rfl) fun f cdv A outer s H E hr lk =>
    (sss_one (ss_ret (se_bin om_add (se_bin om_add (se_bin om_add (se_ix (om_ix hr.u1) (se_meth PySem.F.plainAttrs_str PySem.F.slot_str_split PySem.F.type_str_split mm_split (se_var 0) (sa_cons (se_str) sa_nil)) (se_bin om_sub (se_var 1) (se_int)) (fun _ _ => rfl)) (se_str)) (se_bin om_mul (se_str) (se_bin om_sub (se_var 2) (se_int)))) (se_str))))
theorem sc_marked : FnScope ["text", "line", "column"] ["text", "line", "column"] (defScope s_marked) := ⟨rfl, rfl, rfl, by decide +kernel, rfl, by decide +kernel, by decide +kernel⟩
theorem ok_marked (g : G K mg) (C_check_position : OkF P w K mg base 4 "check_position" s_check_position ["text", "line", "column"] m_check_position) (C_mark_below : OkF P w K mg base 1 "mark_below" s_mark_below ["text", "line", "column"] m_mark_below) : OkF P w K mg base 5 "marked" s_marked ["text", "line", "column"] m_marked := OkF.of (k := 4) g.d_marked sc_marked (fun _ _ _ _ _ _ us hl => match us, hl with | [_, _, _], _ => rfl) fun f cdv A outer s H E hr lk =>
    (sss_cons (ss_expr (se_callF (takes_of rfl rfl rfl rfl) C_check_position (hr.mono (by decide)) rfl g.o_check_position (sa_cons (se_var 0) (sa_cons (se_var 1) (sa_cons (se_var 2) sa_nil)))))
    (sss_one (ss_ret (se_callF (takes_of rfl rfl rfl rfl) C_mark_below (hr.mono (by decide)) rfl g.o_mark_below (sa_cons (se_var 0) (sa_cons (se_var 1) (sa_cons (se_var 2) sa_nil)))))))
theorem sc_place_of : FnScope ["text", "index", "rows"] ["text", "index"] (defScope s_place_of) := ⟨rfl, rfl, rfl, by decide +kernel, rfl, by decide +kernel, by decide +kernel⟩
theorem ok_place_of (g : G K mg)  : OkF P w K mg base 1 "place_of" s_place_of ["text", "index"] m_place_of := OkF.of (k := 0) g.d_place_of sc_place_of (fun _ _ _ _ _ _ us hl => match us, hl with | [_, _], _ => rfl) fun f cdv A outer s H E hr lk =>
    (sss_cons (ss_set (i := 2) sc_place_of.nd rfl (Or.inl rfl) (se_meth PySem.F.plainAttrs_str PySem.F.slot_str_split PySem.F.type_str_split mm_split (se_slice (se_var 0) so_none (so_some (se_var 1))) (sa_cons (se_str) sa_nil)))
    (sss_one (ss_ret (se_tup (sa_cons (se_callB cm_len rfl g.n_len boot_len (sa_cons (se_var 2) sa_nil)) (sa_cons (se_bin om_add (se_callB cm_len rfl g.n_len boot_len (sa_cons (se_ix (om_ix hr.u1) (se_var 2) (se_neg (se_int)) (fun _ _ => rfl)) sa_nil)) (se_int)) sa_nil))))))
theorem sc_position_of : FnScope ["text", "index"] ["text", "index"] (defScope s_position_of) := ⟨rfl, rfl, rfl, by decide +kernel, rfl, by decide +kernel, by decide +kernel⟩
theorem ok_position_of (g : G K mg) (C_check_text : OkF P w K mg base 3 "check_text" s_check_text ["text"] m_check_text) (C_is_between : OkF P w K mg base 2 "is_between" s_is_between ["value", "least", "most"] m_is_between) (C_place_of : OkF P w K mg base 1 "place_of" s_place_of ["text", "index"] m_place_of) : OkF P w K mg base 4 "position_of" s_position_of ["text", "index"] m_position_of := OkF.of (k := 3) g.d_position_of sc_position_of (fun _ _ _ _ _ _ us hl => match us, hl with | [_, _], _ => rfl) fun f cdv A outer s H E hr lk =>
    (sss_cons (ss_expr (se_callF (takes_of rfl rfl rfl rfl) C_check_text (hr.mono (by decide)) rfl g.o_check_text (sa_cons (se_var 0) sa_nil)))
    (sss_cons (ss_if (st_not (st_truth (se_callF (takes_of rfl rfl rfl rfl) C_is_between (hr.mono (by decide)) rfl g.o_is_between (sa_cons (se_var 1) (sa_cons (se_int) (sa_cons (se_callB cm_len rfl g.n_len boot_len (sa_cons (se_var 0) sa_nil)) sa_nil))))))
    (sss_one (ss_raiseF rfl (takes_of rfl rfl rfl rfl) (I_InvalidIndex g) (hr.mono (by decide)) rfl g.o_InvalidIndex (sa_cons (se_var 1) sa_nil)))
    sss_nil)
    (sss_one (ss_ret (se_callF (takes_of rfl rfl rfl rfl) C_place_of (hr.mono (by decide)) rfl g.o_place_of (sa_cons (se_var 0) (sa_cons (se_var 1) sa_nil)))))))
theorem sc__law_asked : FnScope ["way", "args", "named", "e"] ["way", "args", "named"] (defScope s__law_asked) := ⟨rfl, rfl, rfl, by decide +kernel, rfl, by decide +kernel, by decide +kernel⟩
theorem ok__law_asked (g : G K mg) (C_index_of : OkF P w K mg base 5 "index_of" s_index_of ["text", "line", "column"] m_index_of) (C_marked : OkF P w K mg base 5 "marked" s_marked ["text", "line", "column"] m_marked) (C_position_of : OkF P w K mg base 4 "position_of" s_position_of ["text", "index"] m_position_of) : OkF P w K mg base 6 "_law_asked" s__law_asked ["way", "args", "named"] m__law_asked := OkF.of (k := 5) g.d__law_asked sc__law_asked (fun _ _ _ _ _ _ us hl => match us, hl with | [_, _, _], _ => rfl) fun f cdv A outer s H E hr lk =>
    (sss_one (ss_try rfl rfl (takes_of rfl rfl rfl rfl) (subOf_ok g.em) (fun W pn xe tk po => (sss_cons (ss_if (st_cmp (om_eq hr.u64) (se_var 0) (se_int) (nomark _))
    (sss_one (ss_ret (se_lst (sa_cons (se_str) (sa_cons (se_if (st_truth (se_var 2)) (se_callKF (g := perm_10) ["index", "text"] perm_10_vr perm_10_va tk C_position_of (hr.mono (by decide)) rfl g.o_position_of (fun _ _ _ _ _ _ us ws h1 h2 => match us, ws, h1, h2 with | [], [_, _], _, _ => rfl) (sk_cons (se_ix (om_ix hr.u1) (se_var 1) (se_int) (fun _ _ => rfl)) (sk_cons (se_ix (om_ix hr.u1) (se_var 1) (se_int) (fun _ _ => rfl)) sk_nil))) (se_callF tk C_position_of (hr.mono (by decide)) rfl g.o_position_of (sa_cons (se_ix (om_ix hr.u1) (se_var 1) (se_int) (fun _ _ => rfl)) (sa_cons (se_ix (om_ix hr.u1) (se_var 1) (se_int) (fun _ _ => rfl)) sa_nil)))) sa_nil)))))
    sss_nil)
    (sss_cons (ss_if (st_cmp (om_eq hr.u64) (se_var 0) (se_int) (nomark _))
    (sss_one (ss_ret (se_lst (sa_cons (se_str) (sa_cons (se_if (st_truth (se_var 2)) (se_callKF (g := perm_120) ["column", "text", "line"] perm_120_vr perm_120_va tk C_index_of (hr.mono (by decide)) rfl g.o_index_of (fun _ _ _ _ _ _ us ws h1 h2 => match us, ws, h1, h2 with | [], [_, _, _], _, _ => rfl) (sk_cons (se_ix (om_ix hr.u1) (se_var 1) (se_int) (fun _ _ => rfl)) (sk_cons (se_ix (om_ix hr.u1) (se_var 1) (se_int) (fun _ _ => rfl)) (sk_cons (se_ix (om_ix hr.u1) (se_var 1) (se_int) (fun _ _ => rfl)) sk_nil)))) (se_callF tk C_index_of (hr.mono (by decide)) rfl g.o_index_of (sa_cons (se_ix (om_ix hr.u1) (se_var 1) (se_int) (fun _ _ => rfl)) (sa_cons (se_ix (om_ix hr.u1) (se_var 1) (se_int) (fun _ _ => rfl)) (sa_cons (se_ix (om_ix hr.u1) (se_var 1) (se_int) (fun _ _ => rfl)) sa_nil))))) sa_nil)))))
    sss_nil)
    (sss_one (ss_ret (se_lst (sa_cons (se_str) (sa_cons (se_if (st_truth (se_var 2)) (se_callKF (g := perm_201) ["line", "column", "text"] perm_201_vr perm_201_va tk C_marked (hr.mono (by decide)) rfl g.o_marked (fun _ _ _ _ _ _ us ws h1 h2 => match us, ws, h1, h2 with | [], [_, _, _], _, _ => rfl) (sk_cons (se_ix (om_ix hr.u1) (se_var 1) (se_int) (fun _ _ => rfl)) (sk_cons (se_ix (om_ix hr.u1) (se_var 1) (se_int) (fun _ _ => rfl)) (sk_cons (se_ix (om_ix hr.u1) (se_var 1) (se_int) (fun _ _ => rfl)) sk_nil)))) (se_callF tk C_marked (hr.mono (by decide)) rfl g.o_marked (sa_cons (se_ix (om_ix hr.u1) (se_var 1) (se_int) (fun _ _ => rfl)) (sa_cons (se_ix (om_ix hr.u1) (se_var 1) (se_int) (fun _ _ => rfl)) (sa_cons (se_ix (om_ix hr.u1) (se_var 1) (se_int) (fun _ _ => rfl)) sa_nil))))) sa_nil))))))))
    (SH.named sc__law_asked.nd (i := 3) rfl rfl ⟨rfl, by decide, Or.inl g.o_InvalidText⟩ (fun a oe cls d pn hz hf => (sss_one (ss_ret (se_lst (sa_cons (se_str) (sa_cons (se_xf 3 hz hf XF g.xf_given) sa_nil)))))) (SH.named sc__law_asked.nd (i := 3) rfl rfl ⟨rfl, by decide, Or.inl g.o_InvalidIndex⟩ (fun a oe cls d pn hz hf => (sss_one (ss_ret (se_lst (sa_cons (se_str) (sa_cons (se_xf 3 hz hf XF g.xf_given) sa_nil)))))) (SH.named sc__law_asked.nd (i := 3) rfl rfl ⟨rfl, by decide, Or.inl g.o_InvalidLine⟩ (fun a oe cls d pn hz hf => (sss_one (ss_ret (se_lst (sa_cons (se_str) (sa_cons (se_xf 3 hz hf XF g.xf_given) sa_nil)))))) (SH.named sc__law_asked.nd (i := 3) rfl rfl ⟨rfl, by decide, Or.inl g.o_InvalidColumn⟩ (fun a oe cls d pn hz hf => (sss_one (ss_ret (se_lst (sa_cons (se_str) (sa_cons (se_xf 3 hz hf XF g.xf_given) sa_nil)))))) (SH.plain ⟨rfl, by decide, Or.inl g.o_AskError⟩ (fun a oe cls d pn hz hf => (sss_one (ss_ret (se_lst (sa_cons (se_str) (sa_cons (se_non) sa_nil)))))) SH.nil)))))))
theorem sc__law_positions : FnScope ["text", "k", "found", "line", "column"] ["text"] (defScope s__law_positions) := ⟨rfl, rfl, rfl, by decide +kernel, rfl, by decide +kernel, by decide +kernel⟩
theorem ok__law_positions (g : G K mg)  : OkF P w K mg base 1 "_law_positions" s__law_positions ["text"] m__law_positions := OkF.of (k := 0) g.d__law_positions sc__law_positions (fun _ _ _ _ _ _ us hl => match us, hl with | [_], _ => rfl) fun f cdv A outer s H E hr lk =>
    (sss_cons (ss_par3 (i := 2) (j := 3) (l := 4) rfl sc__law_positions.nd rfl rfl rfl (by decide) (by decide) (by decide) rfl rfl rfl (sa_cons (se_lst sa_nil) (sa_cons (se_int) (sa_cons (se_int) sa_nil))) (by rfl))
    (sss_cons (ss_for (passes_of rfl) rfl (si_rg1 rfl g.n_range (sa_cons (se_callB cm_len rfl g.n_len boot_len (sa_cons (se_var 0) sa_nil)) sa_nil)) (sg_name sc__law_positions.nd rfl (Or.inl rfl))
    (sss_cons (ss_expr (se_meth PySem.F.plainAttrs_list PySem.F.slot_list_append PySem.F.type_list_append mm_append (se_var 2) (sa_cons (se_tup (sa_cons (se_var 3) (sa_cons (se_var 4) sa_nil))) sa_nil)))
    (sss_one (ss_asg (se_if (st_cmp (om_eq hr.u64) (se_slice (se_var 0) (so_some (se_var 1)) (so_some (se_bin om_add (se_var 1) (se_int)))) (se_str) (nomark _)) (se_tup (sa_cons (se_bin om_add (se_var 3) (se_int)) (sa_cons (se_int) sa_nil))) (se_tup (sa_cons (se_var 3) (sa_cons (se_bin om_add (se_var 4) (se_int)) sa_nil)))) (sg_tup rfl (sgs_cons (sg_name sc__law_positions.nd rfl (Or.inl rfl)) (sgs_cons (sg_name sc__law_positions.nd rfl (Or.inl rfl)) sgs_nil)))))))
    (sss_one (ss_ret (se_bin om_add (se_var 2) (se_lst (sa_cons (se_tup (sa_cons (se_var 3) (sa_cons (se_var 4) sa_nil))) sa_nil)))))))
theorem sc__law_same : FnScope ["told", "due", "k", "key"] ["told", "due"] (defScope s__law_same) := ⟨rfl, rfl, rfl, by decide +kernel, rfl, by decide +kernel, by decide +kernel⟩
theorem ok__law_same (g : G K mg)  : ∀ n, OkF P w K mg base (1 + n) "_law_same" s__law_same ["told", "due"] (m__law_same n)
  | 0 => OkF.bad g.d__law_same (fun _ _ _ _ _ _ us hl => match us, hl with | [_, _], _ => rfl)
  | n + 1 => have C__law_same := ok__law_same g  n; OkF.of (k := 1 + n) g.d__law_same sc__law_same (fun _ _ _ _ _ _ us hl => match us, hl with | [_, _], _ => rfl) fun f cdv A outer s H E hr lk =>
    (sss_cons (ss_if (st_cmp om_is (se_var 1) (se_non) (nomark _))
    (sss_one (ss_ret (se_cmp om_is (se_var 0) (se_non) (nomark _))))
    sss_nil)
    (sss_cons (ss_if (st_truth (se_callB cm_isi rfl g.n_isinstance boot_isinstance (sa_cons (se_var 1) (sa_cons (se_ty rfl g.n_bool boot_bool) sa_nil))))
    (sss_one (ss_ret ((se_and (se_callB cm_isi rfl g.n_isinstance boot_isinstance (sa_cons (se_var 0) (sa_cons (se_ty rfl g.n_bool boot_bool) sa_nil))) (se_one (se_cmp (om_eq hr.u64) (se_cmp om_is (se_var 0) (se_bl) (nomark _)) (se_cmp om_is (se_var 1) (se_bl) (nomark _)) (nomark _)))))))
    sss_nil)
    (sss_cons (ss_if (st_truth (se_callB cm_isi rfl g.n_isinstance boot_isinstance (sa_cons (se_var 1) (sa_cons (se_ty rfl g.n_int boot_int) sa_nil))))
    (sss_one (ss_ret ((se_and (se_callB cm_isi rfl g.n_isinstance boot_isinstance (sa_cons (se_var 0) (sa_cons (se_ty rfl g.n_int boot_int) sa_nil))) (se_and (se_not (se_callB cm_isi rfl g.n_isinstance boot_isinstance (sa_cons (se_var 0) (sa_cons (se_ty rfl g.n_bool boot_bool) sa_nil)))) (se_one (se_cmp (om_eq hr.u64) (se_var 0) (se_var 1) (nomark _))))))))
    sss_nil)
    (sss_cons (ss_if (st_truth (se_callB cm_isi rfl g.n_isinstance boot_isinstance (sa_cons (se_var 1) (sa_cons (se_ty rfl g.n_str boot_str) sa_nil))))
    (sss_one (ss_ret ((se_and (se_callB cm_isi rfl g.n_isinstance boot_isinstance (sa_cons (se_var 0) (sa_cons (se_ty rfl g.n_str boot_str) sa_nil))) (se_one (se_cmp (om_eq hr.u64) (se_var 0) (se_var 1) (nomark _)))))))
    sss_nil)
    (sss_cons (ss_if (st_truth (se_callB cm_isi rfl g.n_isinstance boot_isinstance (sa_cons (se_var 1) (sa_cons (se_ty rfl g.n_dict boot_dict) sa_nil))))
    (sss_one (ss_ret ((se_and (se_callB cm_isi rfl g.n_isinstance boot_isinstance (sa_cons (se_var 0) (sa_cons (se_ty rfl g.n_dict boot_dict) sa_nil))) (se_and (se_cmp (om_eq hr.u64) (se_callB cm_len rfl g.n_len boot_len (sa_cons (se_var 0) sa_nil)) (se_callB cm_len rfl g.n_len boot_len (sa_cons (se_var 1) sa_nil)) (nomark _)) (se_one (se_cmp (om_eq hr.u64) (se_lock (adV 1) (fun lk => se_lc (own := [("key", 3)]) rfl sc__law_same.nd (si_keys (se_var 1)) (blk_ok rfl rfl) (by decide) (fun _ _ _ _ _ => (sg_name sc__law_same.nd rfl (Or.inl rfl))) (fun _ _ _ _ _ => (sts_one (st_w (sw_or (st_cmp (om_notin hr.u65) (se_var 3) (se_var 0) (by with_unfolding_all rfl)) (sw_or1 (st_not (st_truth (se_callF takes0 C__law_same (hr.mono (by omega)) rfl g.o__law_same (sa_cons (se_ix (om_ix hr.u1) (se_var 0) (se_var 3) (fun _ _ => rfl)) (sa_cons (se_ix (om_ix hr.u1) (se_var 1) (se_var 3) (fun _ _ => rfl)) sa_nil)))))))))) (fun _ _ _ _ _ => (se_var 3)))) (se_lst sa_nil) (nomark _))))))))
    sss_nil)
    (sss_cons (ss_if (st_w (sw_or (st_not (st_truth (se_callB cm_isi rfl g.n_isinstance boot_isinstance (sa_cons (se_var 1) (sa_cons (se_tup (sa_cons (se_ty rfl g.n_list boot_list) (sa_cons (se_ty rfl g.n_tuple boot_tuple) sa_nil))) sa_nil))))) (sw_or1 (st_not (st_truth (se_callB cm_isi rfl g.n_isinstance boot_isinstance (sa_cons (se_var 0) (sa_cons (se_tup (sa_cons (se_ty rfl g.n_list boot_list) (sa_cons (se_ty rfl g.n_tuple boot_tuple) sa_nil))) sa_nil))))))))
    (sss_one (ss_ret (se_bl)))
    sss_nil)
    (sss_cons (ss_if (st_w (sw_or (st_cmp (om_ne hr.u64) (se_callB cm_isi rfl g.n_isinstance boot_isinstance (sa_cons (se_var 0) (sa_cons (se_ty rfl g.n_list boot_list) sa_nil))) (se_callB cm_isi rfl g.n_isinstance boot_isinstance (sa_cons (se_var 1) (sa_cons (se_ty rfl g.n_list boot_list) sa_nil))) (nomark _)) (sw_or1 (st_cmp (om_ne hr.u64) (se_callB cm_len rfl g.n_len boot_len (sa_cons (se_var 0) sa_nil)) (se_callB cm_len rfl g.n_len boot_len (sa_cons (se_var 1) sa_nil)) (nomark _)))))
    (sss_one (ss_ret (se_bl)))
    sss_nil)
    (sss_one (ss_ret (se_cmp (om_eq hr.u64) (se_lc (own := [("k", 2)]) rfl sc__law_same.nd (si_rg1 rfl g.n_range (sa_cons (se_callB cm_len rfl g.n_len boot_len (sa_cons (se_var 1) sa_nil)) sa_nil)) (blk_ok rfl rfl) (by decide) (fun _ _ _ _ _ => (sg_name sc__law_same.nd rfl (Or.inl rfl))) (fun _ _ _ _ _ => (sts_one (st_not (st_truth (se_callF takes0 C__law_same (hr.mono (by omega)) rfl g.o__law_same (sa_cons (se_ix (om_ix hr.u1) (se_var 0) (se_var 2) (fun _ _ => rfl)) (sa_cons (se_ix (om_ix hr.u1) (se_var 1) (se_var 2) (fun _ _ => rfl)) sa_nil))))))) (fun _ _ _ _ _ => (se_var 2))) (se_lst sa_nil) (nomark _)))))))))))
theorem sc__law_kept : FnScope ["given", "value"] ["given", "value"] (defScope s__law_kept) := ⟨rfl, rfl, rfl, by decide +kernel, rfl, by decide +kernel, by decide +kernel⟩
theorem ok__law_kept (g : G K mg) (C__law_same : OkF P w K mg base 31 "_law_same" s__law_same ["told", "due"] (m__law_same fuel)) : OkF P w K mg base 32 "_law_kept" s__law_kept ["given", "value"] m__law_kept := OkF.of (k := 31) g.d__law_kept sc__law_kept (fun _ _ _ _ _ _ us hl => match us, hl with | [_, _], _ => rfl) fun f cdv A outer s H E hr lk =>
    (sss_cons (ss_if (st_truth (se_callB cm_isi rfl g.n_isinstance boot_isinstance (sa_cons (se_var 1) (sa_cons (se_ty rfl g.n_list boot_list) sa_nil))))
    (sss_one (ss_expr (se_meth PySem.F.plainAttrs_list PySem.F.slot_list_append PySem.F.type_list_append mm_append (se_var 1) (sa_cons (se_str) sa_nil))))
    sss_nil)
    (sss_cons (ss_if (st_truth (se_callB cm_isi rfl g.n_isinstance boot_isinstance (sa_cons (se_var 1) (sa_cons (se_ty rfl g.n_dict boot_dict) sa_nil))))
    (sss_one (ss_put hr.u1 (se_int) (se_var 1) (se_str)))
    sss_nil)
    (sss_one (ss_ret (se_callF (takes_of rfl rfl rfl rfl) C__law_same (hr.mono (by decide)) rfl g.o__law_same (sa_cons (se_var 0) (sa_cons (se_var 1) sa_nil)))))))
theorem sc__law_refused : FnScope ["way", "args", "word", "at", "named", "told"] ["way", "args", "word", "at", "named"] (defScope s__law_refused) := ⟨rfl, rfl, rfl, by decide +kernel, rfl, by decide +kernel, by decide +kernel⟩
theorem ok__law_refused (g : G K mg) (C__law_asked : OkF P w K mg base 6 "_law_asked" s__law_asked ["way", "args", "named"] m__law_asked) (C__law_kept : OkF P w K mg base 32 "_law_kept" s__law_kept ["given", "value"] m__law_kept) : OkF P w K mg base 33 "_law_refused" s__law_refused ["way", "args", "word", "at", "named"] m__law_refused := OkF.of (k := 32) g.d__law_refused sc__law_refused (fun _ _ _ _ _ _ us hl => match us, hl with | [_, _, _, _, _], _ => rfl) fun f cdv A outer s H E hr lk =>
    (sss_cons (ss_set (i := 5) sc__law_refused.nd rfl (Or.inl rfl) (se_callF (takes_of rfl rfl rfl rfl) C__law_asked (hr.mono (by decide)) rfl g.o__law_asked (sa_cons (se_var 0) (sa_cons (se_var 1) (sa_cons (se_var 4) sa_nil)))))
    (sss_one (ss_ret ((se_and (se_cmp (om_eq hr.u64) (se_ix (om_ix hr.u1) (se_var 5) (se_int) (fun _ _ => rfl)) (se_var 2) (nomark _)) (se_one (se_callF (takes_of rfl rfl rfl rfl) C__law_kept (hr.mono (by decide)) rfl g.o__law_kept (sa_cons (se_ix (om_ix hr.u1) (se_var 5) (se_int) (fun _ _ => rfl)) (sa_cons (se_ix (om_ix hr.u1) (se_var 1) (se_var 3) (fun _ _ => rfl)) sa_nil)))))))))
theorem sc__law_text_right : FnScope ["box", "text", "named", "some", "index", "rows", "k", "way", "due", "lines", "shown", "told", "last", "line", "column", "turn"] ["box", "text", "named"] (defScope s__law_text_right) := ⟨rfl, rfl, rfl, by decide +kernel, rfl, by decide +kernel, by decide +kernel⟩
theorem ok__law_text_right (g : G K mg) (C__law_asked : OkF P w K mg base 6 "_law_asked" s__law_asked ["way", "args", "named"] m__law_asked) (C__law_pick : OkF P w K mg base 2 "_law_pick" s__law_pick ["box", "items"] m__law_pick) (C__law_positions : OkF P w K mg base 1 "_law_positions" s__law_positions ["text"] m__law_positions) (C__law_refused : OkF P w K mg base 33 "_law_refused" s__law_refused ["way", "args", "word", "at", "named"] m__law_refused) (C__law_same : OkF P w K mg base 31 "_law_same" s__law_same ["told", "due"] (m__law_same fuel)) (C__law_take : OkF P w K mg base 1 "_law_take" s__law_take ["box", "many"] m__law_take) : OkF P w K mg base 34 "_law_text_right" s__law_text_right ["box", "text", "named"] m__law_text_right := OkF.of (k := 33) g.d__law_text_right sc__law_text_right (fun _ _ _ _ _ _ us hl => match us, hl with | [_, _, _], _ => rfl) fun f cdv A outer s H E hr lk =>
    (sss_cons (ss_asg (se_tup (sa_cons (se_callF (takes_of rfl rfl rfl rfl) C__law_positions (hr.mono (by decide)) rfl g.o__law_positions (sa_cons (se_var 1) sa_nil)) (sa_cons (se_meth PySem.F.plainAttrs_str PySem.F.slot_str_split PySem.F.type_str_split mm_split (se_var 1) (sa_cons (se_str) sa_nil)) sa_nil))) (sg_tup rfl (sgs_cons (sg_name sc__law_text_right.nd rfl (Or.inr rfl)) (sgs_cons (sg_name sc__law_text_right.nd rfl (Or.inr rfl)) sgs_nil))))
    (sss_cons (ss_set (i := 3) sc__law_text_right.nd rfl (Or.inl rfl) (se_if (st_cmp om_lt (se_callB cm_len rfl g.n_len boot_len (sa_cons (se_var 8) sa_nil)) (se_int) (nomark _)) (se_lrg1 rfl rfl g.n_list rfl g.n_range (se_callB cm_len rfl g.n_len boot_len (sa_cons (se_var 8) sa_nil))) (se_bin om_add (se_lst (sa_cons (se_int) (sa_cons (se_bin om_sub (se_callB cm_len rfl g.n_len boot_len (sa_cons (se_var 1) sa_nil)) (se_int)) (sa_cons (se_callB cm_len rfl g.n_len boot_len (sa_cons (se_var 1) sa_nil)) sa_nil)))) (se_lc (own := [("turn", 15)]) rfl sc__law_text_right.nd (si_rg1 rfl g.n_range (sa_cons (se_int) sa_nil)) (blk_ok rfl rfl) (by decide) (fun _ _ _ _ _ => (sg_name sc__law_text_right.nd rfl (Or.inl rfl))) (fun _ _ _ _ _ => sts_nil) (fun _ _ _ _ _ => (se_callF takes0 C__law_take (hr.mono (by decide)) rfl g.o__law_take (sa_cons (se_var 0) (sa_cons (se_callB cm_len rfl g.n_len boot_len (sa_cons (se_var 8) sa_nil)) sa_nil))))))))
    (sss_cons (ss_for (passes_of rfl) rfl (si_sq (se_var 3)) (sg_name sc__law_text_right.nd rfl (Or.inl rfl))
    (sss_cons (ss_asg (se_ix (om_ix hr.u1) (se_var 8) (se_var 4) (fun _ _ => rfl)) (sg_tup rfl (sgs_cons (sg_name sc__law_text_right.nd rfl (Or.inl rfl)) (sgs_cons (sg_name sc__law_text_right.nd rfl (Or.inl rfl)) sgs_nil))))
    (sss_cons (ss_set (i := 10) sc__law_text_right.nd rfl (Or.inl rfl) (se_bin om_add (se_bin om_add (se_bin om_add (se_ix (om_ix hr.u1) (se_var 9) (se_bin om_sub (se_var 13) (se_int)) (fun _ _ => rfl)) (se_str)) (se_bin om_mul (se_str) (se_bin om_sub (se_var 14) (se_int)))) (se_str)))
    (sss_cons (ss_set (i := 11) sc__law_text_right.nd rfl (Or.inl rfl) (se_lst (sa_cons (se_callF (takes_of rfl rfl rfl rfl) C__law_asked (hr.mono (by decide)) rfl g.o__law_asked (sa_cons (se_int) (sa_cons (se_lst (sa_cons (se_var 1) (sa_cons (se_var 4) sa_nil))) (sa_cons (se_var 2) sa_nil)))) (sa_cons (se_callF (takes_of rfl rfl rfl rfl) C__law_asked (hr.mono (by decide)) rfl g.o__law_asked (sa_cons (se_int) (sa_cons (se_lst (sa_cons (se_var 1) (sa_cons (se_var 13) (sa_cons (se_var 14) sa_nil)))) (sa_cons (se_not (se_var 2)) sa_nil)))) (sa_cons (se_callF (takes_of rfl rfl rfl rfl) C__law_asked (hr.mono (by decide)) rfl g.o__law_asked (sa_cons (se_int) (sa_cons (se_lst (sa_cons (se_var 1) (sa_cons (se_var 13) (sa_cons (se_var 14) sa_nil)))) (sa_cons (se_var 2) sa_nil)))) sa_nil)))))
    (sss_cons (ss_if (st_not (st_truth (se_callF (takes_of rfl rfl rfl rfl) C__law_same (hr.mono (by decide)) rfl g.o__law_same (sa_cons (se_var 11) (sa_cons (se_lst (sa_cons (se_lst (sa_cons (se_str) (sa_cons (se_tup (sa_cons (se_var 13) (sa_cons (se_var 14) sa_nil))) sa_nil))) (sa_cons (se_lst (sa_cons (se_str) (sa_cons (se_var 4) sa_nil))) (sa_cons (se_lst (sa_cons (se_str) (sa_cons (se_var 10) sa_nil))) sa_nil)))) sa_nil)))))
    (sss_one (ss_ret (se_bl)))
    sss_nil)
    (sss_one (ss_set (i := 2) sc__law_text_right.nd rfl (Or.inl rfl) (se_not (se_var 2)))))))))
    (sss_cons (ss_set (i := 5) sc__law_text_right.nd rfl (Or.inl rfl) (se_if (st_cmp om_lt (se_callB cm_len rfl g.n_len boot_len (sa_cons (se_var 9) sa_nil)) (se_int) (nomark _)) (se_lrg1 rfl rfl g.n_list rfl g.n_range (se_callB cm_len rfl g.n_len boot_len (sa_cons (se_var 9) sa_nil))) (se_bin om_add (se_lst (sa_cons (se_int) (sa_cons (se_bin om_sub (se_callB cm_len rfl g.n_len boot_len (sa_cons (se_var 9) sa_nil)) (se_int)) sa_nil))) (se_lc (own := [("turn", 15)]) rfl sc__law_text_right.nd (si_rg1 rfl g.n_range (sa_cons (se_int) sa_nil)) (blk_ok rfl rfl) (by decide) (fun _ _ _ _ _ => (sg_name sc__law_text_right.nd rfl (Or.inl rfl))) (fun _ _ _ _ _ => sts_nil) (fun _ _ _ _ _ => (se_callF takes0 C__law_take (hr.mono (by decide)) rfl g.o__law_take (sa_cons (se_var 0) (sa_cons (se_callB cm_len rfl g.n_len boot_len (sa_cons (se_var 9) sa_nil)) sa_nil))))))))
    (sss_cons (ss_for (passes_of rfl) rfl (si_sq (se_var 5)) (sg_name sc__law_text_right.nd rfl (Or.inl rfl))
    (sss_cons (ss_set (i := 12) sc__law_text_right.nd rfl (Or.inl rfl) (se_tup (sa_cons (se_bin om_add (se_var 6) (se_int)) (sa_cons (se_bin om_add (se_callB cm_len rfl g.n_len boot_len (sa_cons (se_ix (om_ix hr.u1) (se_var 9) (se_var 6) (fun _ _ => rfl)) sa_nil)) (se_int)) sa_nil))))
    (sss_cons (ss_if (st_not (st_truth (se_callF (takes_of rfl rfl rfl rfl) C__law_same (hr.mono (by decide)) rfl g.o__law_same (sa_cons (se_callF (takes_of rfl rfl rfl rfl) C__law_asked (hr.mono (by decide)) rfl g.o__law_asked (sa_cons (se_int) (sa_cons (se_lst (sa_cons (se_var 1) (sa_cons (se_ix (om_ix hr.u1) (se_var 12) (se_int) (fun _ _ => rfl)) (sa_cons (se_ix (om_ix hr.u1) (se_var 12) (se_int) (fun _ _ => rfl)) sa_nil)))) (sa_cons (se_var 2) sa_nil)))) (sa_cons (se_lst (sa_cons (se_str) (sa_cons (se_meth PySem.F.plainAttrs_list PySem.F.slot_list_index PySem.F.type_list_index (mm_index hr.u65) (se_var 8) (sa_cons (se_var 12) sa_nil)) sa_nil))) sa_nil)))))
    (sss_one (ss_ret (se_bl)))
    sss_nil)
    (sss_cons (ss_for (passes_of rfl) rfl (si_sq (se_tup (sa_cons (se_int) (sa_cons (se_int) sa_nil)))) (sg_name sc__law_text_right.nd rfl (Or.inl rfl))
    (sss_one (ss_if (st_w (sw_or (st_not (st_truth (se_callF (takes_of rfl rfl rfl rfl) C__law_refused (hr.mono (by decide)) rfl g.o__law_refused (sa_cons (se_var 7) (sa_cons (se_lst (sa_cons (se_var 1) (sa_cons (se_bin om_add (se_var 6) (se_int)) (sa_cons (se_bin om_add (se_callB cm_len rfl g.n_len boot_len (sa_cons (se_ix (om_ix hr.u1) (se_var 9) (se_var 6) (fun _ _ => rfl)) sa_nil)) (se_int)) sa_nil)))) (sa_cons (se_str) (sa_cons (se_int) (sa_cons (se_var 2) sa_nil)))))))) (sw_or1 (st_not (st_truth (se_callF (takes_of rfl rfl rfl rfl) C__law_refused (hr.mono (by decide)) rfl g.o__law_refused (sa_cons (se_var 7) (sa_cons (se_lst (sa_cons (se_var 1) (sa_cons (se_bin om_add (se_var 6) (se_int)) (sa_cons (se_int) sa_nil)))) (sa_cons (se_str) (sa_cons (se_int) (sa_cons (se_not (se_var 2)) sa_nil)))))))))))
    (sss_one (ss_ret (se_bl)))
    sss_nil)))
    (sss_one (ss_set (i := 2) sc__law_text_right.nd rfl (Or.inl rfl) (se_not (se_var 2))))))))
    (sss_cons (ss_for (passes_of rfl) rfl (si_sq (se_tup (sa_cons (se_int) (sa_cons (se_int) sa_nil)))) (sg_name sc__law_text_right.nd rfl (Or.inl rfl))
    (sss_one (ss_for (passes_of rfl) rfl (si_sq (se_tup (sa_cons (se_int) (sa_cons (se_bin om_add (se_callB cm_len rfl g.n_len boot_len (sa_cons (se_var 9) sa_nil)) (se_int)) (sa_cons (se_neg (se_int)) sa_nil))))) (sg_name sc__law_text_right.nd rfl (Or.inl rfl))
    (sss_one (ss_if (st_not (st_truth (se_callF (takes_of rfl rfl rfl rfl) C__law_refused (hr.mono (by decide)) rfl g.o__law_refused (sa_cons (se_var 7) (sa_cons (se_lst (sa_cons (se_var 1) (sa_cons (se_var 13) (sa_cons (se_callF (takes_of rfl rfl rfl rfl) C__law_pick (hr.mono (by decide)) rfl g.o__law_pick (sa_cons (se_var 0) (sa_cons (se_lst (sa_cons (se_int) (sa_cons (se_int) (sa_cons (se_non) sa_nil)))) sa_nil))) sa_nil)))) (sa_cons (se_str) (sa_cons (se_int) (sa_cons (se_var 2) sa_nil))))))))
    (sss_one (ss_ret (se_bl)))
    sss_nil)))))
    (sss_one (ss_ret ((se_and (se_callF (takes_of rfl rfl rfl rfl) C__law_refused (hr.mono (by decide)) rfl g.o__law_refused (sa_cons (se_int) (sa_cons (se_lst (sa_cons (se_var 1) (sa_cons (se_bin om_add (se_callB cm_len rfl g.n_len boot_len (sa_cons (se_var 1) sa_nil)) (se_int)) sa_nil))) (sa_cons (se_str) (sa_cons (se_int) (sa_cons (se_var 2) sa_nil)))))) (se_one (se_callF (takes_of rfl rfl rfl rfl) C__law_refused (hr.mono (by decide)) rfl g.o__law_refused (sa_cons (se_int) (sa_cons (se_lst (sa_cons (se_var 1) (sa_cons (se_neg (se_int)) sa_nil))) (sa_cons (se_str) (sa_cons (se_int) (sa_cons (se_not (se_var 2)) sa_nil)))))))))))))))))
theorem sc__law_wrong_right : FnScope ["box", "text", "named", "way", "none", "bad"] ["box", "text", "named"] (defScope s__law_wrong_right) := ⟨rfl, rfl, rfl, by decide +kernel, rfl, by decide +kernel, by decide +kernel⟩
theorem ok__law_wrong_right (g : G K mg) (C__law_pick : OkF P w K mg base 2 "_law_pick" s__law_pick ["box", "items"] m__law_pick) (C__law_refused : OkF P w K mg base 33 "_law_refused" s__law_refused ["way", "args", "word", "at", "named"] m__law_refused) (C__law_take : OkF P w K mg base 1 "_law_take" s__law_take ["box", "many"] m__law_take) : OkF P w K mg base 34 "_law_wrong_right" s__law_wrong_right ["box", "text", "named"] m__law_wrong_right := OkF.of (k := 33) g.d__law_wrong_right sc__law_wrong_right (fun _ _ _ _ _ _ us hl => match us, hl with | [_, _, _], _ => rfl) fun f cdv A outer s H E hr lk =>
    (sss_cons (ss_for (passes_of rfl) rfl (si_rg1 rfl g.n_range (sa_cons (se_int) sa_nil)) (sg_name sc__law_wrong_right.nd rfl (Or.inl rfl))
    (sss_cons (ss_set (i := 4) sc__law_wrong_right.nd rfl (Or.inl rfl) (se_callF (takes_of rfl rfl rfl rfl) C__law_pick (hr.mono (by decide)) rfl g.o__law_pick (sa_cons (se_var 0) (sa_cons (se_lst (sa_cons (se_non) (sa_cons (se_int) (sa_cons (se_bl) (sa_cons (se_lst (sa_cons (se_str) sa_nil)) (sa_cons (se_tup (sa_cons (se_str) (sa_cons (se_str) sa_nil))) (sa_cons (se_disp (sp_cons (se_str) (se_int) sp_nil) rfl rfl (by simp) (by decide)) (sa_cons (se_lst sa_nil) (sa_cons (se_tup sa_nil) sa_nil))))))))) sa_nil))))
    (sss_cons (ss_if (st_not (st_truth (se_callF (takes_of rfl rfl rfl rfl) C__law_refused (hr.mono (by decide)) rfl g.o__law_refused (sa_cons (se_var 3) (sa_cons (se_lst (sa_cons (se_var 4) (sa_cons (se_callF (takes_of rfl rfl rfl rfl) C__law_pick (hr.mono (by decide)) rfl g.o__law_pick (sa_cons (se_var 0) (sa_cons (se_lst (sa_cons (se_int) (sa_cons (se_int) (sa_cons (se_non) (sa_cons (se_neg (se_int)) sa_nil))))) sa_nil))) (sa_cons (se_callF (takes_of rfl rfl rfl rfl) C__law_pick (hr.mono (by decide)) rfl g.o__law_pick (sa_cons (se_var 0) (sa_cons (se_lst (sa_cons (se_int) (sa_cons (se_non) sa_nil))) sa_nil))) sa_nil)))) (sa_cons (se_str) (sa_cons (se_int) (sa_cons (se_var 2) sa_nil))))))))
    (sss_one (ss_ret (se_bl)))
    sss_nil)
    (sss_cons (ss_set (i := 5) sc__law_wrong_right.nd rfl (Or.inl rfl) (se_callF (takes_of rfl rfl rfl rfl) C__law_pick (hr.mono (by decide)) rfl g.o__law_pick (sa_cons (se_var 0) (sa_cons (se_lst (sa_cons (se_non) (sa_cons (se_bl) (sa_cons (se_bl) (sa_cons (se_str) (sa_cons (se_lst (sa_cons (se_int) sa_nil)) (sa_cons (se_tup (sa_cons (se_int) sa_nil)) (sa_cons (se_disp (sp_cons (se_str) (se_int) sp_nil) rfl rfl (by simp) (by decide)) (sa_cons (se_lst sa_nil) (sa_cons (se_bin om_pow (se_int) (se_int)) (sa_cons (se_neg (se_bin om_pow (se_int) (se_int))) sa_nil))))))))))) sa_nil))))
    (sss_cons (ss_if (st_not (st_truth (se_callF (takes_of rfl rfl rfl rfl) C__law_refused (hr.mono (by decide)) rfl g.o__law_refused (sa_cons (se_var 3) (sa_cons (se_lst (sa_cons (se_var 1) (sa_cons (se_var 5) (sa_cons (se_callF (takes_of rfl rfl rfl rfl) C__law_pick (hr.mono (by decide)) rfl g.o__law_pick (sa_cons (se_var 0) (sa_cons (se_lst (sa_cons (se_int) (sa_cons (se_int) (sa_cons (se_non) (sa_cons (se_str) sa_nil))))) sa_nil))) sa_nil)))) (sa_cons (se_if (st_cmp (om_eq hr.u64) (se_var 3) (se_int) (nomark _)) (se_str) (se_str)) (sa_cons (se_int) (sa_cons (se_not (se_var 2)) sa_nil))))))))
    (sss_one (ss_ret (se_bl)))
    sss_nil)
    (sss_cons (ss_set (i := 5) sc__law_wrong_right.nd rfl (Or.inl rfl) (se_callF (takes_of rfl rfl rfl rfl) C__law_pick (hr.mono (by decide)) rfl g.o__law_pick (sa_cons (se_var 0) (sa_cons (se_lst (sa_cons (se_non) (sa_cons (se_bl) (sa_cons (se_bl) (sa_cons (se_str) (sa_cons (se_lst (sa_cons (se_int) sa_nil)) (sa_cons (se_tup (sa_cons (se_int) sa_nil)) (sa_cons (se_disp (sp_cons (se_str) (se_int) sp_nil) rfl rfl (by simp) (by decide)) (sa_cons (se_lst sa_nil) (sa_cons (se_bin om_pow (se_int) (se_int)) (sa_cons (se_neg (se_int)) sa_nil))))))))))) sa_nil))))
    (sss_cons (ss_if (st_w (sw_and (st_cmp om_gt (se_var 3) (se_int) (nomark _)) (sw_and1 (st_not (st_truth (se_callF (takes_of rfl rfl rfl rfl) C__law_refused (hr.mono (by decide)) rfl g.o__law_refused (sa_cons (se_var 3) (sa_cons (se_lst (sa_cons (se_var 1) (sa_cons (se_bin om_add (se_int) (se_callF (takes_of rfl rfl rfl rfl) C__law_take (hr.mono (by decide)) rfl g.o__law_take (sa_cons (se_var 0) (sa_cons (se_callB cm_len rfl g.n_len boot_len (sa_cons (se_meth PySem.F.plainAttrs_str PySem.F.slot_str_split PySem.F.type_str_split mm_split (se_var 1) (sa_cons (se_str) sa_nil)) sa_nil)) sa_nil)))) (sa_cons (se_var 5) sa_nil)))) (sa_cons (se_str) (sa_cons (se_int) (sa_cons (se_var 2) sa_nil)))))))))))
    (sss_one (ss_ret (se_bl)))
    sss_nil)
    (sss_one (ss_set (i := 2) sc__law_wrong_right.nd rfl (Or.inl rfl) (se_not (se_var 2)))))))))))
    (sss_one (ss_ret (se_bl))))
theorem sc_law : FnScope ["script", "k", "box", "named", "turn", "text"] ["script"] (defScope s_law) := ⟨rfl, rfl, rfl, by decide +kernel, rfl, by decide +kernel, by decide +kernel⟩
theorem ok_law (g : G K mg) (C__law_box : OkF P w K mg base 1 "_law_box" s__law_box ["great"] m__law_box) (C__law_cell : OkF P w K mg base 1 "_law_cell" s__law_cell ["script", "k"] m__law_cell) (C__law_pick : OkF P w K mg base 2 "_law_pick" s__law_pick ["box", "items"] m__law_pick) (C__law_take : OkF P w K mg base 1 "_law_take" s__law_take ["box", "many"] m__law_take) (C__law_text : OkF P w K mg base 3 "_law_text" s__law_text ["box", "way"] m__law_text) (C__law_text_right : OkF P w K mg base 34 "_law_text_right" s__law_text_right ["box", "text", "named"] m__law_text_right) (C__law_wrong_right : OkF P w K mg base 34 "_law_wrong_right" s__law_wrong_right ["box", "text", "named"] m__law_wrong_right) : OkF P w K mg base 35 "law" s_law ["script"] m_law := OkF.of (k := 34) g.d_law sc_law (fun _ _ _ _ _ _ us hl => match us, hl with | [_], _ => rfl) fun f cdv A outer s H E hr lk =>
    (sss_cons (ss_for (passes_of rfl) rfl (si_rg1 rfl g.n_range (sa_cons (se_int) sa_nil)) (sg_name sc_law.nd rfl (Or.inl rfl))
    (sss_cons (ss_set (i := 2) sc_law.nd rfl (Or.inl rfl) (se_callF (takes_of rfl rfl rfl rfl) C__law_box (hr.mono (by decide)) rfl g.o__law_box (sa_cons (se_callF (takes_of rfl rfl rfl rfl) C__law_cell (hr.mono (by decide)) rfl g.o__law_cell (sa_cons (se_var 0) (sa_cons (se_var 1) sa_nil))) sa_nil)))
    (sss_cons (ss_set (i := 3) sc_law.nd rfl (Or.inl rfl) (se_cmp (om_eq hr.u64) (se_callF (takes_of rfl rfl rfl rfl) C__law_take (hr.mono (by decide)) rfl g.o__law_take (sa_cons (se_var 2) (sa_cons (se_int) sa_nil))) (se_int) (nomark _)))
    (sss_one (ss_for (passes_of rfl) rfl (si_rg1 rfl g.n_range (sa_cons (se_int) sa_nil)) (sg_name sc_law.nd rfl (Or.inl rfl))
    (sss_cons (ss_set (i := 5) sc_law.nd rfl (Or.inl rfl) (se_if (st_w (sw_and (st_cmp (om_eq hr.u64) (se_var 4) (se_int) (nomark _)) (sw_and1 (st_cmp (om_eq hr.u64) (se_callF (takes_of rfl rfl rfl rfl) C__law_take (hr.mono (by decide)) rfl g.o__law_take (sa_cons (se_var 2) (sa_cons (se_int) sa_nil))) (se_int) (nomark _))))) (se_str) (se_callF (takes_of rfl rfl rfl rfl) C__law_text (hr.mono (by decide)) rfl g.o__law_text (sa_cons (se_var 2) (sa_cons (se_ix (om_ix hr.u1) (se_lst (sa_cons (se_int) (sa_cons (se_int) (sa_cons (se_int) (sa_cons (se_callF (takes_of rfl rfl rfl rfl) C__law_pick (hr.mono (by decide)) rfl g.o__law_pick (sa_cons (se_var 2) (sa_cons (se_lst (sa_cons (se_int) (sa_cons (se_int) (sa_cons (se_int) (sa_cons (se_int) sa_nil))))) sa_nil))) sa_nil))))) (se_var 4) (fun _ _ => rfl)) sa_nil)))))
    (sss_cons (ss_if (st_w (sw_or (st_not (st_truth (se_callF (takes_of rfl rfl rfl rfl) C__law_text_right (hr.mono (by decide)) rfl g.o__law_text_right (sa_cons (se_var 2) (sa_cons (se_var 5) (sa_cons (se_var 3) sa_nil)))))) (sw_or1 (st_not (st_truth (se_callF (takes_of rfl rfl rfl rfl) C__law_wrong_right (hr.mono (by decide)) rfl g.o__law_wrong_right (sa_cons (se_var 2) (sa_cons (se_var 5) (sa_cons (se_not (se_var 3)) sa_nil)))))))))
    (sss_one (ss_ret (se_bl)))
    sss_nil)
    (sss_one (ss_set (i := 3) sc_law.nd rfl (Or.inl rfl) (se_not (se_var 3)))))))))))
    (sss_one (ss_ret (se_bl))))
theorem ok_all (g : G K mg) : OkF P w K mg base 35 "law" s_law ["script"] m_law := by
  have C__law_box := ok__law_box (P := P) (w := w) (base := base) g 
  have C__law_cell := ok__law_cell (P := P) (w := w) (base := base) g 
  have C__law_take := ok__law_take (P := P) (w := w) (base := base) g 
  have C__law_pick := ok__law_pick (P := P) (w := w) (base := base) g C__law_take
  have C__law_text := ok__law_text (P := P) (w := w) (base := base) g C__law_pick C__law_take
  have C_check_text := ok_check_text (P := P) (w := w) (base := base) g 
  have C_is_integer := ok_is_integer (P := P) (w := w) (base := base) g 
  have C_is_between := ok_is_between (P := P) (w := w) (base := base) g C_is_integer
  have C_check_position := ok_check_position (P := P) (w := w) (base := base) g C_check_text C_is_between
  have C_index_of := ok_index_of (P := P) (w := w) (base := base) g C_check_position
  have C_mark_below := ok_mark_below (P := P) (w := w) (base := base) g 
  have C_marked := ok_marked (P := P) (w := w) (base := base) g C_check_position C_mark_below
  have C_place_of := ok_place_of (P := P) (w := w) (base := base) g 
  have C_position_of := ok_position_of (P := P) (w := w) (base := base) g C_check_text C_is_between C_place_of
  have C__law_asked := ok__law_asked (P := P) (w := w) (base := base) g C_index_of C_marked C_position_of
  have C__law_positions := ok__law_positions (P := P) (w := w) (base := base) g 
  have C__law_same := ok__law_same (P := P) (w := w) (base := base) g  fuel
  have C__law_kept := ok__law_kept (P := P) (w := w) (base := base) g C__law_same
  have C__law_refused := ok__law_refused (P := P) (w := w) (base := base) g C__law_asked C__law_kept
  have C__law_text_right := ok__law_text_right (P := P) (w := w) (base := base) g C__law_asked C__law_pick C__law_positions C__law_refused C__law_same C__law_take
  have C__law_wrong_right := ok__law_wrong_right (P := P) (w := w) (base := base) g C__law_pick C__law_refused C__law_take
  exact ok_law g C__law_box C__law_cell C__law_pick C__law_take C__law_text C__law_text_right C__law_wrong_right
end
end K05

namespace K05
open PySem PySem.Spec PyProof.Rows L2 Mm He
/-! ### the head -/
def d0 : DefD := ⟨("_law_box", none), "_law_box", "_law_box", defArgs s__law_box, defBody s__law_box, defScope s__law_box, [], []⟩
def d1 : DefD := ⟨("_law_cell", none), "_law_cell", "_law_cell", defArgs s__law_cell, defBody s__law_cell, defScope s__law_cell, [], []⟩
def d2 : DefD := ⟨("_law_take", none), "_law_take", "_law_take", defArgs s__law_take, defBody s__law_take, defScope s__law_take, [], []⟩
def d3 : DefD := ⟨("_law_pick", none), "_law_pick", "_law_pick", defArgs s__law_pick, defBody s__law_pick, defScope s__law_pick, [], []⟩
def d4 : DefD := ⟨("_law_text", none), "_law_text", "_law_text", defArgs s__law_text, defBody s__law_text, defScope s__law_text, [], []⟩
def d5 : DefD := ⟨("check_text", none), "check_text", "check_text", defArgs s_check_text, defBody s_check_text, defScope s_check_text, [], []⟩
def d6 : DefD := ⟨("is_integer", none), "is_integer", "is_integer", defArgs s_is_integer, defBody s_is_integer, defScope s_is_integer, [], []⟩
def d7 : DefD := ⟨("is_between", none), "is_between", "is_between", defArgs s_is_between, defBody s_is_between, defScope s_is_between, [], []⟩
def d8 : DefD := ⟨("check_position", none), "check_position", "check_position", defArgs s_check_position, defBody s_check_position, defScope s_check_position, [], []⟩
def d9 : DefD := ⟨("index_of", none), "index_of", "index_of", defArgs s_index_of, defBody s_index_of, defScope s_index_of, [], []⟩
def d10 : DefD := ⟨("mark_below", none), "mark_below", "mark_below", defArgs s_mark_below, defBody s_mark_below, defScope s_mark_below, [], []⟩
def d11 : DefD := ⟨("marked", none), "marked", "marked", defArgs s_marked, defBody s_marked, defScope s_marked, [], []⟩
def d12 : DefD := ⟨("place_of", none), "place_of", "place_of", defArgs s_place_of, defBody s_place_of, defScope s_place_of, [], []⟩
def d13 : DefD := ⟨("position_of", none), "position_of", "position_of", defArgs s_position_of, defBody s_position_of, defScope s_position_of, [], []⟩
def d14 : DefD := ⟨("_law_asked", none), "_law_asked", "_law_asked", defArgs s__law_asked, defBody s__law_asked, defScope s__law_asked, [], []⟩
def d15 : DefD := ⟨("_law_positions", none), "_law_positions", "_law_positions", defArgs s__law_positions, defBody s__law_positions, defScope s__law_positions, [], []⟩
def d16 : DefD := ⟨("_law_same", none), "_law_same", "_law_same", defArgs s__law_same, defBody s__law_same, defScope s__law_same, [], []⟩
def d17 : DefD := ⟨("_law_kept", none), "_law_kept", "_law_kept", defArgs s__law_kept, defBody s__law_kept, defScope s__law_kept, [], []⟩
def d18 : DefD := ⟨("_law_refused", none), "_law_refused", "_law_refused", defArgs s__law_refused, defBody s__law_refused, defScope s__law_refused, [], []⟩
def d19 : DefD := ⟨("_law_text_right", none), "_law_text_right", "_law_text_right", defArgs s__law_text_right, defBody s__law_text_right, defScope s__law_text_right, [], []⟩
def d20 : DefD := ⟨("_law_wrong_right", none), "_law_wrong_right", "_law_wrong_right", defArgs s__law_wrong_right, defBody s__law_wrong_right, defScope s__law_wrong_right, [], []⟩
def d21 : DefD := ⟨("law", none), "law", "law", defArgs s_law, defBody s_law, defScope s_law, [], []⟩
def d22 : DefD := ⟨("InvalidColumn", some "__init__"), "__init__", "InvalidColumn.__init__", defArgs s_InvalidColumn_init, defBody s_InvalidColumn_init, defScope s_InvalidColumn_init, [], []⟩
def d23 : DefD := ⟨("InvalidIndex", some "__init__"), "__init__", "InvalidIndex.__init__", defArgs s_InvalidIndex_init, defBody s_InvalidIndex_init, defScope s_InvalidIndex_init, [], []⟩
def d24 : DefD := ⟨("InvalidLine", some "__init__"), "__init__", "InvalidLine.__init__", defArgs s_InvalidLine_init, defBody s_InvalidLine_init, defScope s_InvalidLine_init, [], []⟩
def d25 : DefD := ⟨("InvalidText", some "__init__"), "__init__", "InvalidText.__init__", defArgs s_InvalidText_init, defBody s_InvalidText_init, defScope s_InvalidText_init, [], []⟩
def fn : List DefD := [d0, d1, d2, d3, d4, d5, d6, d7, d8, d9, d10, d11, d12, d13, d14, d15, d16, d17, d18, d19, d20, d21, d22, d23, d24, d25]
def fa0 : List Fa := [.free "abs", .free "bool", .free "dict", .free "int", .free "isinstance", .free "len", .free "list", .free "range", .free "str", .free "sum", .free "tuple", .glo "AskError", .glo "InvalidColumn", .glo "InvalidIndex", .glo "InvalidLine", .glo "InvalidText", .glo "_law_asked", .glo "_law_box", .glo "_law_cell", .glo "_law_kept", .glo "_law_pick", .glo "_law_positions", .glo "_law_refused", .glo "_law_same", .glo "_law_take", .glo "_law_text", .glo "_law_text_right", .glo "_law_wrong_right", .glo "check_position", .glo "check_text"]
def fa1 : List Fa := [.glo "index_of", .glo "is_between", .glo "is_integer", .glo "law", .glo "mark_below", .glo "marked", .glo "place_of", .glo "position_of", .noat "InvalidColumn" "given", .noat "InvalidIndex" "given", .noat "InvalidLine" "given", .noat "InvalidText" "given"]
def fa : List Fa := fa0 ++ fa1
def hx : HX := { ex := [("InvalidColumn", ["given"]), ("InvalidIndex", ["given"]), ("InvalidLine", ["given"]), ("InvalidText", ["given"])], ei := [("InvalidColumn", "InvalidColumn"), ("InvalidIndex", "InvalidIndex"), ("InvalidLine", "InvalidLine"), ("InvalidText", "InvalidText")], xf := XF, em := EM, ts := [] }
abbrev R : PySem.W.OpenRow := PySem.W.OpenLaw.row PySem.Challenge.rw_askworlds_k05_positions_and_marks
abbrev hk : PySem.W.Hook := hookX 5 fa fn hx
def loose0 : List Str := ["AskError", "InvalidColumn", "InvalidIndex", "InvalidLine", "InvalidText", "is_integer", "is_between", "check_text", "place_of", "position_of", "check_position", "index_of", "mark_below", "marked", "_law_cell", "_law_box", "_law_take", "_law_pick", "_law_same", "_law_kept", "_law_text", "_law_positions", "_law_asked", "_law_refused", "_law_text_right", "_law_wrong_right"]
def loose : List Str := loose0
abbrev vw : Program := PySem.W.view R.prog [30]
theorem run (w : World) : HandSHeadRun.RunEq R vw hk (obX 5 fa fn hx) 20000 loose w := by
  intro os
  kernel_rfl
theorem facts {K : PySem.W.Frag} {h : Heap} {mg : Str → Option Value} (X : K.In h) (M : h.Ns mainGlobals mg) (c : SaysD fa fn K) (b : hx.b K = true) : G K mg where
  n_abs := free_ok X M (c.fact 0 (f := .free "abs") rfl)
  n_bool := free_ok X M (c.fact 1 (f := .free "bool") rfl)
  n_dict := free_ok X M (c.fact 2 (f := .free "dict") rfl)
  n_int := free_ok X M (c.fact 3 (f := .free "int") rfl)
  n_isinstance := free_ok X M (c.fact 4 (f := .free "isinstance") rfl)
  n_len := free_ok X M (c.fact 5 (f := .free "len") rfl)
  n_list := free_ok X M (c.fact 6 (f := .free "list") rfl)
  n_range := free_ok X M (c.fact 7 (f := .free "range") rfl)
  n_str := free_ok X M (c.fact 8 (f := .free "str") rfl)
  n_sum := free_ok X M (c.fact 9 (f := .free "sum") rfl)
  n_tuple := free_ok X M (c.fact 10 (f := .free "tuple") rfl)
  o_AskError := glo_ok X M (c.fact 11 (f := .glo "AskError") rfl)
  o_InvalidColumn := glo_ok X M (c.fact 12 (f := .glo "InvalidColumn") rfl)
  o_InvalidIndex := glo_ok X M (c.fact 13 (f := .glo "InvalidIndex") rfl)
  o_InvalidLine := glo_ok X M (c.fact 14 (f := .glo "InvalidLine") rfl)
  o_InvalidText := glo_ok X M (c.fact 15 (f := .glo "InvalidText") rfl)
  o__law_asked := glo_ok X M (c.fact 16 (f := .glo "_law_asked") rfl)
  o__law_box := glo_ok X M (c.fact 17 (f := .glo "_law_box") rfl)
  o__law_cell := glo_ok X M (c.fact 18 (f := .glo "_law_cell") rfl)
  o__law_kept := glo_ok X M (c.fact 19 (f := .glo "_law_kept") rfl)
  o__law_pick := glo_ok X M (c.fact 20 (f := .glo "_law_pick") rfl)
  o__law_positions := glo_ok X M (c.fact 21 (f := .glo "_law_positions") rfl)
  o__law_refused := glo_ok X M (c.fact 22 (f := .glo "_law_refused") rfl)
  o__law_same := glo_ok X M (c.fact 23 (f := .glo "_law_same") rfl)
  o__law_take := glo_ok X M (c.fact 24 (f := .glo "_law_take") rfl)
  o__law_text := glo_ok X M (c.fact 25 (f := .glo "_law_text") rfl)
  o__law_text_right := glo_ok X M (c.fact 26 (f := .glo "_law_text_right") rfl)
  o__law_wrong_right := glo_ok X M (c.fact 27 (f := .glo "_law_wrong_right") rfl)
  o_check_position := glo_ok X M (c.fact 28 (f := .glo "check_position") rfl)
  o_check_text := glo_ok X M (c.fact 29 (f := .glo "check_text") rfl)
  o_index_of := glo_ok X M (c.fact 30 (f := .glo "index_of") rfl)
  o_is_between := glo_ok X M (c.fact 31 (f := .glo "is_between") rfl)
  o_is_integer := glo_ok X M (c.fact 32 (f := .glo "is_integer") rfl)
  o_law := glo_ok X M (c.fact 33 (f := .glo "law") rfl)
  o_mark_below := glo_ok X M (c.fact 34 (f := .glo "mark_below") rfl)
  o_marked := glo_ok X M (c.fact 35 (f := .glo "marked") rfl)
  o_place_of := glo_ok X M (c.fact 36 (f := .glo "place_of") rfl)
  o_position_of := glo_ok X M (c.fact 37 (f := .glo "position_of") rfl)
  d__law_box := c.def_ 0 (d := d0) rfl
  d__law_cell := c.def_ 1 (d := d1) rfl
  d__law_take := c.def_ 2 (d := d2) rfl
  d__law_pick := c.def_ 3 (d := d3) rfl
  d__law_text := c.def_ 4 (d := d4) rfl
  d_check_text := c.def_ 5 (d := d5) rfl
  d_is_integer := c.def_ 6 (d := d6) rfl
  d_is_between := c.def_ 7 (d := d7) rfl
  d_check_position := c.def_ 8 (d := d8) rfl
  d_index_of := c.def_ 9 (d := d9) rfl
  d_mark_below := c.def_ 10 (d := d10) rfl
  d_marked := c.def_ 11 (d := d11) rfl
  d_place_of := c.def_ 12 (d := d12) rfl
  d_position_of := c.def_ 13 (d := d13) rfl
  d__law_asked := c.def_ 14 (d := d14) rfl
  d__law_positions := c.def_ 15 (d := d15) rfl
  d__law_same := c.def_ 16 (d := d16) rfl
  d__law_kept := c.def_ 17 (d := d17) rfl
  d__law_refused := c.def_ 18 (d := d18) rfl
  d__law_text_right := c.def_ 19 (d := d19) rfl
  d__law_wrong_right := c.def_ 20 (d := d20) rfl
  d_law := c.def_ 21 (d := d21) rfl
  i_InvalidColumn := c.def_ 22 (d := d22) rfl
  i_InvalidIndex := c.def_ 23 (d := d23) rfl
  i_InvalidLine := c.def_ 24 (d := d24) rfl
  i_InvalidText := c.def_ 25 (d := d25) rfl
  x_InvalidColumn := exC_ok (HX.exOk b 0) (HX.eiOk b 0)
  x_InvalidIndex := exC_ok (HX.exOk b 1) (HX.eiOk b 1)
  x_InvalidLine := exC_ok (HX.exOk b 2) (HX.eiOk b 2)
  x_InvalidText := exC_ok (HX.exOk b 3) (HX.eiOk b 3)
  em := fun p hp => HX.emOk b p hp
  xf_given := fun p hp => ⟨HX.xfOk b p hp, by
    simp only [XF, List.mem_cons, List.not_mem_nil, or_false] at hp
    rcases hp with rfl | rfl | rfl | rfl
    · exact noat_ok (c.fact 38 (f := .noat "InvalidColumn" "given") rfl)
    · exact noat_ok (c.fact 39 (f := .noat "InvalidIndex" "given") rfl)
    · exact noat_ok (c.fact 40 (f := .noat "InvalidLine" "given") rfl)
    · exact noat_ok (c.fact 41 (f := .noat "InvalidText" "given") rfl)⟩
/-- the objects of the module in the store -/
def KS : List MO := []
theorem ks_ok {K : PySem.W.Frag} (b : hx.b K = true) : ∀ o ∈ KS, KOk K o := by
  intro o ho
  simp only [KS, List.mem_cons, List.not_mem_nil, or_false] at ho
/-- THE PLAIN LAW is all that is wanted -/
theorem holds (pure : ∀ (ns : List Int) (o0 : MO), ns.length ≤ 63 → (o0 = .frz (ns.map V.int) ∨ o0 = .klst none (ns.map V.int)) → ∃ S', m_law [.ref 0] ⟨o0 :: KS⟩ = .ok (.bl true) S') : PySem.Challenge.rw_askworlds_k05_positions_and_marks.Holds := by
  w_on; o_law
  refine HandSHeadRun.head_any (r := R) (q := vw) (H := hk) (ob := obX 5 fa fn hx) (M := 20000) (loose := loose) (d := HandSHeadRun.topDef R.prog 30) (kwd := []) obX_eq
    (by kernel_rfl) (fun s => by kernel_rfl) run (by kernel_rfl) (by kernel_rfl) (by kernel_rfl) (by rfl) (by first | assumption | decide +kernel) (by decide +kernel) ⟨rfl, rfl, rfl, rfl, rfl, by decide +kernel⟩ ?hw ?hc
  case hw => w_witness2
  case hc =>
    refine L2.walk_ofE (l := PySem.Challenge.rw_askworlds_k05_positions_and_marks) (n := 63) (k := 35) (x := "script") (CX := CX0) rfl (by decide) (by kernel_rfl) ⟨rfl, by decide, by decide⟩ ?F (fun _ _ _ _ z => z)
    intro w mg fa h Y M hmg0
    obtain ⟨K, KX, c, b⟩ := Y
    have hmg : mg ("law" : PySem.Str) = some (.ref fa) := by
      have e : (HandSHeadRun.topDef R.prog 30).name = ("law" : PySem.Str) := by kernel_rfl
      rw [← e]
      exact hmg0
    have g := facts KX M c b
    have e := hmg.symm.trans g.o_law
    cases e
    exact law_F (P := PySem.Challenge.rw_askworlds_k05_positions_and_marks.prog) (w := w) KX (fun base => ok_all g) (ks_ok b) g.d_law (fun _ _ _ _ _ _ us hl => match us, hl with | [_], _ => rfl) pure
end K05
/-! the plain side: what a mirror yields -/
namespace Mm
open PySem L2
def Res.wp {α : Type} (r : Res α) (Q : α → Sto → Prop) (E : Str → Nat → Sto → Prop) : Prop := match r with
  | .ok a S => Q a S
  | .exc c d S => E c d S
  | .bad => False
section
variable {α β : Type} {Q Q' : α → Sto → Prop} {R : β → Sto → Prop} {E E' : Str → Nat → Sto → Prop} {a : α} {S : Sto} {r : Res α} {k : α → Sto → Res β}
@[simp ↓] theorem Res.wp_ok : (Res.ok a S).wp Q E = Q a S := id rfl
@[simp ↓] theorem Res.wp_exc {c : Str} {d : Nat} : (Res.exc c d S : Res α).wp Q E = E c d S := id rfl
@[simp ↓] theorem Res.wp_bad : (Res.bad : Res α).wp Q E = False := id rfl
@[simp ↓] theorem Res.wp_bind : (r.bind k).wp R E = r.wp (fun a S => (k a S).wp R E) E := by cases r <;> rfl
theorem Res.wp.mono (h : r.wp Q E) (q : ∀ a S, Q a S → Q' a S) (e : ∀ c d S, E c d S → E' c d S) : r.wp Q' E' := by
  cases r with
  | ok a S => exact q _ _ h
  | exc c d S => exact e _ _ _ h
  | bad => exact h
theorem Res.wp.imp (h : r.wp Q E) (q : ∀ a S, Q a S → Q' a S) : r.wp Q' E := h.mono q fun _ _ _ h => h
theorem Res.wp.noE (h : r.wp Q fun _ _ _ => False) (q : ∀ a S, Q a S → Q' a S) : r.wp Q' E := h.mono q fun _ _ _ h => h.elim
theorem Res.wp_if {p : Prop} [Decidable p] : (if p then r else .bad).wp Q E = (p ∧ r.wp Q E) := by
  by_cases h : p <;> simp [h]
theorem Res.wp_noX : r.noX.wp Q E = r.wp Q fun _ _ _ => False := by cases r <;> rfl
end
structure Po where
  nx : L2.St → Sto → Prop
  rt : V → Sto → Prop
  bk : L2.St → Sto → Prop := fun _ _ => False
  ct : L2.St → Sto → Prop := fun _ _ => False
  ex : Str → Nat → L2.St → Sto → Prop := fun _ _ _ _ => False
def RS.wp (r : RS) (P : Po) : Prop := match r with
  | .nx σ S => P.nx σ S
  | .rt v S => P.rt v S
  | .bk σ S => P.bk σ S
  | .ct σ S => P.ct σ S
  | .exc c d σ S => P.ex c d σ S
  | .bad => False
section
variable {P P' : Po} {σ : L2.St} {S : Sto} {r : RS} {a b : MS}
@[simp ↓] theorem RS.wp_nx : (RS.nx σ S).wp P = P.nx σ S := id rfl
@[simp ↓] theorem RS.wp_rt {v : V} : (RS.rt v S).wp P = P.rt v S := id rfl
@[simp ↓] theorem RS.wp_bk : (RS.bk σ S).wp P = P.bk σ S := id rfl
@[simp ↓] theorem RS.wp_ct : (RS.ct σ S).wp P = P.ct σ S := id rfl
@[simp ↓] theorem RS.wp_exc {c : Str} {d : Nat} : (RS.exc c d σ S).wp P = P.ex c d σ S := id rfl
@[simp ↓] theorem RS.wp_bad : RS.bad.wp P = False := id rfl
@[simp ↓] theorem Res.wp_toS {α : Type} {r : Res α} {k : α → Sto → RS} : (r.toS σ k).wp P = r.wp (fun a S => (k a S).wp P) (fun c d S => P.ex c d σ S) := by cases r <;> rfl
theorem RS.wp.mono (h : r.wp P) (n : ∀ σ S, P.nx σ S → P'.nx σ S) (rt : ∀ v S, P.rt v S → P'.rt v S) (b : ∀ σ S, P.bk σ S → P'.bk σ S) (c : ∀ σ S, P.ct σ S → P'.ct σ S) (e : ∀ c d σ S, P.ex c d σ S → P'.ex c d σ S) : r.wp P' := by
  cases r with
  | nx σ S => exact n _ _ h
  | rt v S => exact rt _ _ h
  | bk σ S => exact b _ _ h
  | ct σ S => exact c _ _ h
  | exc c d σ S => exact e _ _ _ _ h
  | bad => exact h
@[simp ↓] theorem wp_mNext : (mNext σ S).wp P = P.nx σ S := id rfl
@[simp ↓] theorem wp_mSeq : (mSeq a b σ S).wp P = (a σ S).wp { P with nx := fun σ S => (b σ S).wp P } := by
  unfold mSeq
  cases a σ S <;> rfl
@[simp ↓] theorem wp_mIf {t : MT} : (mIf t a b σ S).wp P = (t σ S).wp (fun k S1 => if k = true then (a σ S1).wp P else (b σ S1).wp P) (fun c d S => P.ex c d σ S) := by
  unfold mIf
  rw [Res.wp_toS]
  congr 1
  funext k S1
  cases k <;> rfl
@[simp ↓] theorem wp_mSet {i : Nat} {m : ME} : (mSet i m σ S).wp P = (m σ S).wp (fun v S1 => P.nx (σ.set i (some v)) S1) (fun c d S => P.ex c d σ S) := by
  unfold mSet; rw [Res.wp_toS]; rfl
@[simp ↓] theorem wp_mDrop {m : ME} : (mDrop m σ S).wp P = (m σ S).wp (fun _ S1 => P.nx σ S1) (fun c d S => P.ex c d σ S) := by
  unfold mDrop; rw [Res.wp_toS]; rfl
@[simp ↓] theorem wp_mRet {m : ME} : (mRet m σ S).wp P = (m σ S).wp (fun v S1 => P.rt v S1) (fun c d S => P.ex c d σ S) := by
  unfold mRet; rw [Res.wp_toS]; rfl
@[simp ↓] theorem wp_mRetN : (mRetN σ S).wp P = P.rt .non S := id rfl
@[simp ↓] theorem wp_mBreak : (mBreak σ S).wp P = P.bk σ S := id rfl
@[simp ↓] theorem wp_mCont : (mCont σ S).wp P = P.ct σ S := id rfl
@[simp ↓] theorem wp_mPut {m o i : ME} : (mPut m o i σ S).wp P = (m σ S).wp (fun v S1 => (o σ S1).wp (fun x S2 => (i σ S2).wp (fun y S3 => (vPut x y v S3).wp (fun _ S4 => P.nx σ S4) (fun c d S => P.ex c d σ S)) (fun c d S => P.ex c d σ S)) (fun c d S => P.ex c d σ S)) (fun c d S => P.ex c d σ S) := by
  unfold mPut
  simp only [Res.wp_toS, RS.wp_nx]
@[simp ↓] theorem wp_mAsg {m : ME} {t : Tgt} : (mAsg m t σ S).wp P = (m σ S).wp (fun v S1 => ∃ τ, t.mm v σ S1 = some τ ∧ P.nx τ S1) (fun c d S => P.ex c d σ S) := by
  unfold mAsg
  rw [Res.wp_toS]
  congr 1
  funext v S1
  cases e : t.mm v σ S1 with
  | none => simp
  | some τ => simp
@[simp ↓] theorem wp_mPar {is : List Nat} {t : MA} : (mPar is t σ S).wp P = (t σ S).wp (fun vs S1 => vs.length = is.length ∧ P.nx (setAll is vs σ) S1) (fun c d S => P.ex c d σ S) := by
  unfold mPar
  rw [Res.wp_toS]
  congr 1
  funext v S1
  by_cases h : v.length = is.length <;> simp [h]
end
/-! expressions -/
section
variable {Q : V → Sto → Prop} {QL : List V → Sto → Prop} {QB : Bool → Sto → Prop} {E : Str → Nat → Sto → Prop} {σ : L2.St} {S : Sto} {m a b : ME} {t : MA} {f : V → V → Sto → Res V}
@[simp ↓] theorem wp_mVar {i : Nat} : (mVar i σ S).wp Q E = ∃ v, σ[i]? = some (some v) ∧ Q v S := by
  unfold mVar
  split
  · rename_i v h; simp [h]
  · rename_i h
    simp only [Res.wp_bad, false_iff, eq_iff_iff]
    rintro ⟨v, e, _⟩
    exact h v e
@[simp ↓] theorem wp_mC {v : V} : (mC v σ S).wp Q E = Q v S := id rfl
@[simp ↓] theorem wp_mNil : (mNil σ S).wp QL E = QL [] S := id rfl
@[simp ↓] theorem wp_mCons {r : MA} : (mCons m r σ S).wp QL E = (m σ S).wp (fun x S1 => (r σ S1).wp (fun xs S2 => QL (x :: xs) S2) E) E := by
  unfold mCons; simp only [Res.wp_bind, Res.wp_ok]
@[simp ↓] theorem wp_mBin : (mBin f a b σ S).wp Q E = (a σ S).wp (fun x S1 => (b σ S1).wp (fun y S2 => (f x y S2).wp Q E) E) E := by
  unfold mBin; simp only [Res.wp_bind]
@[simp ↓] theorem wp_mUn {f : V → Sto → Res V} : (mUn f a σ S).wp Q E = (a σ S).wp (fun x S1 => (f x S1).wp Q E) E := by
  unfold mUn; simp only [Res.wp_bind]
@[simp ↓] theorem wp_mCB {f : List V → Sto → Res V} : (mCB f t σ S).wp Q E = (t σ S).wp (fun x S1 => (f x S1).wp Q E) E := by
  unfold mCB; simp only [Res.wp_bind]
@[simp ↓] theorem wp_mCallK {f : MF} {n : Nat} {g : List V → List V} : (mCallK f n g t σ S).wp Q E = (t σ S).wp (fun zs S1 => zs.length = n ∧ (f (g zs) S1).wp Q E) E := by
  unfold mCallK
  rw [Res.wp_bind]
  congr 1
  funext zs S1
  by_cases h : zs.length = n <;> simp [h]
@[simp ↓] theorem wp_mTup : (mTup t σ S).wp Q E = (t σ S).wp (fun vs S1 => vs.length ≤ sz ∧ Q (.ref S1.n) (S1.put (.tup vs))) E := by
  unfold mTup
  rw [Res.wp_bind]
  congr 1
  funext zs S1
  by_cases h : zs.length ≤ sz <;> simp [h]
@[simp ↓] theorem wp_mLst : (mLst t σ S).wp Q E = (t σ S).wp (fun vs S1 => vs.length ≤ sz ∧ Q (.ref S1.n) (S1.put (.lst vs))) E := by
  unfold mLst
  rw [Res.wp_bind]
  congr 1
  funext zs S1
  by_cases h : zs.length ≤ sz <;> simp [h]
@[simp ↓] theorem wp_tru {x : V} : (tru x S).wp QB E = ∃ b, vTru S x = some b ∧ QB b S := by
  unfold tru
  cases e : vTru S x <;> simp
@[simp ↓] theorem wp_mTru : (mTru m σ S).wp QB E = (m σ S).wp (fun x S1 => ∃ b, vTru S1 x = some b ∧ QB b S1) E := by
  unfold mTru; simp only [Res.wp_bind, wp_tru]
@[simp ↓] theorem wp_mBl : (mBl m σ S).wp QB E = (m σ S).wp (fun x S1 => ∃ b, x = .bl b ∧ QB b S1) E := by
  unfold mBl
  rw [Res.wp_bind]
  congr 1
  funext x S1
  cases x <;> simp
@[simp ↓] theorem wp_mAnd {t u : MT} : (mAnd t u σ S).wp QB E = (t σ S).wp (fun b S1 => if b = true then (u σ S1).wp QB E else QB false S1) E := by
  unfold mAnd
  rw [Res.wp_bind]
  congr 1
  funext x S1
  cases x <;> rfl
@[simp ↓] theorem wp_mOr {t u : MT} : (mOr t u σ S).wp QB E = (t σ S).wp (fun b S1 => if b = true then QB true S1 else (u σ S1).wp QB E) E := by
  unfold mOr
  rw [Res.wp_bind]
  congr 1
  funext x S1
  cases x <;> rfl
@[simp ↓] theorem wp_mNot {t : MT} : (mNot t σ S).wp QB E = (t σ S).wp (fun b S1 => QB (!b) S1) E := by
  unfold mNot; simp only [Res.wp_bind, Res.wp_ok]
@[simp ↓] theorem wp_mAndV : (mAndV a b σ S).wp Q E = (a σ S).wp (fun x S1 => ∃ k, vTru S1 x = some k ∧ if k = true then (b σ S1).wp Q E else Q x S1) E := by
  unfold mAndV
  simp only [Res.wp_bind, wp_tru]
  congr 1
  funext x S1
  congr 1
  funext k
  cases k <;> rfl
@[simp ↓] theorem wp_mOrV : (mOrV a b σ S).wp Q E = (a σ S).wp (fun x S1 => ∃ k, vTru S1 x = some k ∧ if k = true then Q x S1 else (b σ S1).wp Q E) E := by
  unfold mOrV
  simp only [Res.wp_bind, wp_tru]
  congr 1
  funext x S1
  congr 1
  funext k
  cases k <;> rfl
@[simp ↓] theorem wp_mNotV : (mNotV a σ S).wp Q E = (a σ S).wp (fun x S1 => ∃ k, vTru S1 x = some k ∧ Q (.bl (!k)) S1) E := by
  unfold mNotV
  simp only [Res.wp_bind, wp_tru, Res.wp_ok]
@[simp ↓] theorem wp_mIfE {t : MT} : (mIfE t a b σ S).wp Q E = (t σ S).wp (fun k S1 => if k = true then (a σ S1).wp Q E else (b σ S1).wp Q E) E := by
  unfold mIfE
  rw [Res.wp_bind]
  congr 1
  funext x S1
  cases x <;> rfl
@[simp ↓] theorem wp_mChain {f g : V → V → Sto → Res V} {d : ME} : (mChain f g a b d σ S).wp Q E = (a σ S).wp (fun x S1 => (b σ S1).wp (fun y S2 => (f x y S2).wp (fun z S3 => ∃ k, z = .bl k ∧ if k = true then (d σ S3).wp (fun w S4 => (g y w S4).wp Q E) E else Q (.bl false) S3) E) E) E := by
  unfold mChain
  simp only [Res.wp_bind]
  congr 1; funext x S1
  congr 1; funext y S2
  congr 1; funext z S3
  cases z with
  | bl k => cases k <;> simp
  | _ => simp
@[simp ↓] theorem wp_mNoPart {QO : Option Int → Sto → Prop} : (mNoPart σ S).wp QO E = QO none S := id rfl
@[simp ↓] theorem wp_mPart {QO : Option Int → Sto → Prop} : (mPart m σ S).wp QO E = (m σ S).wp (fun x S1 => ∃ i, x = .int i ∧ QO (some i) S1) E := by
  unfold mPart
  rw [Res.wp_bind]
  congr 1
  funext x S1
  cases x <;> simp
@[simp ↓] theorem wp_mSl {l h : MO'} : (mSl m l h σ S).wp Q E = (m σ S).wp (fun x S1 => (l σ S1).wp (fun i S2 => (h σ S2).wp (fun j S3 => (vSl x i j S3).wp Q E) E) E) E := by
  unfold mSl; simp only [Res.wp_bind]
@[simp ↓] theorem wp_mMeth {T : String} {f : V → List V → Sto → Res V} : (mMeth T f m t σ S).wp Q E = (m σ S).wp (fun x S1 => tyOk T S1 x = true ∧ (t σ S1).wp (fun vs S2 => (f x vs S2).wp Q E) E) E := by
  unfold mMeth
  rw [Res.wp_bind]
  congr 1
  funext x S1
  by_cases h : tyOk T S1 x = true <;> simp [h]
@[simp ↓] theorem wp_mMeth0 {T : String} {f : V → List V → Sto → Res V} : (mMeth0 T f m σ S).wp Q E = (m σ S).wp (fun x S1 => tyOk T S1 x = true ∧ (f x [] S1).wp Q E) E := by
  unfold mMeth0
  rw [Res.wp_bind]
  congr 1
  funext x S1
  by_cases h : tyOk T S1 x = true <;> simp [h]
end
/-! values -/
section
variable {Q : V → Sto → Prop} {E : Str → Nat → Sto → Prop} {S : Sto} {i j : Int}
@[simp] theorem vAdd_int : vAdd (.int i) (.int j) S = .ok (.int (i + j)) S := id rfl
@[simp] theorem vSub_int : vSub (.int i) (.int j) S = .ok (.int (i - j)) S := id rfl
@[simp] theorem vLt_int : vLt (.int i) (.int j) S = .ok (.bl (decide (i < j))) S := id rfl
@[simp] theorem vLe_int : vLe (.int i) (.int j) S = .ok (.bl (decide (i ≤ j))) S := id rfl
@[simp] theorem vGt_int : vGt (.int i) (.int j) S = .ok (.bl (decide (j < i))) S := id rfl
@[simp] theorem vGe_int : vGe (.int i) (.int j) S = .ok (.bl (decide (j ≤ i))) S := id rfl
@[simp ↓] theorem wp_vMul : (vMul (.int i) (.int j) S).wp Q E = (((-two64 < i ∧ i < two64) ∨ (-two64 < j ∧ j < two64)) ∧ Q (.int (i * j)) S) := by
  simp only [vMul, Res.wp_if, Res.wp_ok]
@[simp ↓] theorem wp_vDiv : (vDiv (.int i) (.int j) S).wp Q E = ((j ≠ 0 ∧ j.natAbs < 1073741824) ∧ Q (.int (i.fdiv j)) S) := by
  simp only [vDiv, Res.wp_if, Res.wp_ok]
@[simp ↓] theorem wp_vMod : (vMod (.int i) (.int j) S).wp Q E = (j ≠ 0 ∧ Q (.int (i.fmod j)) S) := by
  simp only [vMod, Res.wp_if, Res.wp_ok]
@[simp ↓] theorem wp_vPow : (vPow (.int i) (.int j) S).wp Q E = ((0 ≤ j ∧ j ≤ 1000000 ∧ i.natAbs < 18446744073709551616) ∧ Q (.int (i ^ j.toNat)) S) := by
  simp only [vPow, Res.wp_if, Res.wp_ok]
@[simp] theorem vInt_int : vInt [.int i] S = .ok (.int i) S := id rfl
@[simp] theorem vAbs_int : vAbs [.int i] S = .ok (.int (if i < 0 then -i else i)) S := id rfl
@[simp] theorem vNeg_int : vNeg (.int i) S = .ok (.int (-i)) S := id rfl
@[simp] theorem vTru_bl {b : Bool} : vTru S (.bl b) = some b := id rfl
@[simp] theorem vTru_non : vTru S .non = some false := id rfl
end
@[simp] theorem vEq_int : vEq (.int i) (.int j) S = .ok (.bl (decide (i = j))) S := by simp [vEq, vEqB, scal]
@[simp] theorem vEq_str {x y : Str} : vEq (.str x) (.str y) S = .ok (.bl (decide (x = y))) S := by simp [vEq, vEqB, scal]
@[simp] theorem vEq_bl {x y : Bool} : vEq (.bl x) (.bl y) S = .ok (.bl (decide (x = y))) S := by simp [vEq, vEqB, scal]
@[simp] theorem vNe_int : vNe (.int i) (.int j) S = .ok (.bl (!decide (i = j))) S := by simp [vNe, vEqB, scal]
@[simp] theorem vNe_str {x y : Str} : vNe (.str x) (.str y) S = .ok (.bl (!decide (x = y))) S := by simp [vNe, vEqB, scal]
@[simp] theorem vNe_bl {x y : Bool} : vNe (.bl x) (.bl y) S = .ok (.bl (!decide (x = y))) S := by simp [vNe, vEqB, scal]
@[simp] theorem vIs_non {x : V} : vIs x .non S = .ok (.bl (decide (x = .non))) S := by cases x <;> rfl
@[simp] theorem vIs_bl {x y : Bool} : vIs (.bl x) (.bl y) S = .ok (.bl (decide (x = y))) S := id rfl
@[simp] theorem vIsNot_non {x : V} : vIsNot x .non S = .ok (.bl (!decide (x = .non))) S := by cases x <;> rfl
@[simp ↓] theorem wp_vIsi_ty {x : V} {n : String} : (vIsi [x, .ty n] S).wp Q E = ∃ a b, tyN S x = some a ∧ tyC n = some b ∧ Q (.bl (isiB a b)) S := by
  simp only [vIsi]
  cases e1 : tyN S x with
  | none => simp
  | some a =>
    cases e2 : tyC n with
    | none => simp
    | some b => simp
@[simp ↓] theorem wp_vIsi_tup {x : V} {q : Nat} : (vIsi [x, .ref q] S).wp Q E = ∃ cs a bs, S.g q = some (.tup cs) ∧ tyN S x = some a ∧ tyCs cs = some bs ∧ Q (.bl (bs.any fun b => isiB a b)) S := by
  simp only [vIsi]
  cases e : S.g q with
  | none => simp
  | some o => cases o with
    | tup cs =>
      cases e1 : tyN S x with
      | none => simp
      | some a =>
        cases e2 : tyCs cs with
        | none => simp [e2]
        | some b => simp [e2]
    | _ => simp
/-! the store -/
section
variable {S : Sto} {a b : Nat} {o u : MO}
@[simp] theorem Sto.n_set' : (S.set a o).n = S.n := Sto.n_set
@[simp] theorem Sto.n_put' : (S.put o).n = S.n + 1 := Sto.n_put
theorem Sto.g_set : (S.set a o).g b = if b = a then (if a < S.n then some o else none) else S.g b := by
  by_cases e : b = a
  · subst e
    rw [if_pos rfl]
    by_cases h : b < S.n
    · rw [if_pos h, Sto.g_set_same h]
    · rw [if_neg h]
      unfold Sto.g
      exact List.getElem?_eq_none (by have := @Sto.n_set S b o; unfold Sto.n at this h; omega)
  · rw [if_neg e, Sto.g_set_ne e]
theorem Sto.g_put : (S.put o).g b = if b = S.n then some o else S.g b := by
  by_cases e : b = S.n
  · subst e; rw [if_pos rfl, Sto.g_put_new]
  · rw [if_neg e]
    cases h : S.g b with
    | some u => exact Sto.g_put_old h
    | none =>
      cases h2 : (S.put o).g b with
      | none => rfl
      | some u =>
        rcases Sto.g_put_inv h2 with ⟨z, _⟩ | ⟨_, z⟩
        · exact absurd z e
        · rw [h] at z; cases z
theorem Sto.g_ge (h : S.n ≤ a) : S.g a = none := List.getElem?_eq_none h
end
def MO.isX : MO → Bool
  | .exn _ _ => true
  | _ => false
/-- what stands at a, a caught error apart -/
def Sto.cg (S : Sto) (a : Nat) : Option MO := match S.g a with
  | some (.exn _ _) => some .gone
  | o => o
theorem Sto.cg_of {S S' : Sto} {a : Nat} (h : S'.g a = S.g a) : S'.cg a = S.cg a := by unfold Sto.cg; rw [h]
theorem Sto.cg_g {S : Sto} {a : Nat} {o : MO} (h : S.g a = some o) (x : o.isX = false) : S.cg a = some o := by
  unfold Sto.cg
  rw [h]
  cases o <;> first | rfl | cases x
theorem Sto.g_cg {S S' : Sto} {a : Nat} {o : MO} (h : S'.cg a = S.cg a) (e : S.g a = some o) (x : o.isX = false) (y : o ≠ .gone) : S'.g a = some o := by
  rw [Sto.cg_g e x] at h
  unfold Sto.cg at h
  split at h
  · exact absurd (Option.some.inj h).symm y
  · exact h
theorem Sto.calm_cg {S : Sto} {a : Nat} : S.calm.cg a = S.cg a := by
  have e : S.calm.g a = (S.g a).map fun x => match x with | .exn _ _ => .gone | y => y := by
    unfold Sto.calm Sto.g
    rw [List.getElem?_map] <;> rfl
  unfold Sto.cg
  rw [e]
  cases S.g a with
  | none => rfl
  | some o => cases o <;> rfl
theorem Sto.calm_n {S : Sto} : S.calm.n = S.n := by simp [Sto.calm, Sto.n]
theorem Sto.cg_put {S : Sto} {o : MO} {a : Nat} (h : a < S.n) : (S.put o).cg a = S.cg a := Sto.cg_of (by rw [Sto.g_put, if_neg (by omega)])
theorem Sto.cg_set {S : Sto} {o : MO} {a b : Nat} (h : b ≠ a) : (S.set a o).cg b = S.cg b := Sto.cg_of (Sto.g_set_ne h)
/-- a def's body run -/
theorem wp_mFn {n np : Nat} {b : MS} {vs : List V} {S : Sto} {Q : V → Sto → Prop} {E : Str → Nat → Sto → Prop} : (mFn n np b vs S).wp Q E = (vs.length = np ∧ (b (vs.map some ++ List.replicate (n - vs.length) none) S).wp { nx := fun _ S => Q .non S, rt := Q, ex := fun c d _ S => E c d S }) := by
  unfold mFn
  by_cases h : vs.length = np
  · rw [if_pos h]
    simp only [h, true_and]
    cases b (vs.map some ++ List.replicate (n - np) none) S <;> rfl
  · rw [if_neg h]
    simp [h]
/-! ### the box -/
/-- only b's object may change -/
def OnlyB (b : Nat) (S S' : Sto) : Prop := S'.n = S.n ∧ ∀ a, a ≠ b → S'.cg a = S.cg a
def BoxOk (b : Nat) (S : Sto) : Prop := ∃ (q r c : Int) (g : Bool), S.g b = some (.lst [.int q, .bl g, .int r, .int c]) ∧ 0 ≤ q ∧ 0 ≤ r ∧ 0 ≤ c
theorem OnlyB.set {b : Nat} {S : Sto} {o : MO} : OnlyB b S (S.set b o) := ⟨Sto.n_set, fun a h => Sto.cg_set h⟩
theorem OnlyB.trans {b : Nat} {S S1 S2 : Sto} (h : OnlyB b S S1) (k : OnlyB b S1 S2) : OnlyB b S S2 := ⟨k.1.trans h.1, fun a e => (k.2 a e).trans (h.2 a e)⟩
theorem OnlyB.refl {b : Nat} {S : Sto} : OnlyB b S S := ⟨rfl, fun _ _ => rfl⟩
def cTake (A B C M D : Int) : MF := mFn 3 2 (mSeq (mIf ((mAnd (mTru (mBin vIx (mVar 0) (mC (.int 1)))) (mBl (mBin vGt (mBin vIx (mVar 0) (mC (.int 0))) (mC (.int 0))))))
    (mSeq (mSet 2 (mBin vMod (mCB vInt (mCons (mBin vIx (mVar 0) (mC (.int 0))) mNil)) (mVar 1)))
    (mSeq (mPut (mBin vDiv (mCB vInt (mCons (mBin vIx (mVar 0) (mC (.int 0))) mNil)) (mVar 1)) (mVar 0) (mC (.int 0)))
    (mRet (mVar 2))))
    mNext)
    (mSeq (mPut (mBin vAdd (mBin vIx (mVar 0) (mC (.int 3))) (mC (.int 1))) (mVar 0) (mC (.int 3)))
    (mSeq (mPut (mBin vMod (mCB vInt (mCons (mBin vAdd (mBin vAdd (mBin vMul (mBin vIx (mVar 0) (mC (.int 2))) (mC (.int A))) (mBin vMul (mC (.int B)) (mBin vIx (mVar 0) (mC (.int 3))))) (mC (.int C))) mNil)) (mC (.int M))) (mVar 0) (mC (.int 2)))
    (mRet (mBin vMod (mBin vDiv (mBin vIx (mVar 0) (mC (.int 2))) (mC (.int D))) (mVar 1))))))
theorem vIx_sq {S : Sto} {a : Nat} {xs : List V} {i : Int} {v : V} (h : S.sq a = some xs) (hi : atI xs i = some v) : vIx (.ref a) (.int i) S = .ok v S := by
  have hd : S.dk a = none := by
    unfold Sto.sq Sto.ls Sto.tp at h
    unfold Sto.dk
    cases e : S.g a with
    | none => rfl
    | some o => rw [e] at h; cases o <;> first | rfl | (simp at h)
  simp only [vIx, hd, h, hi]
theorem box_ix {S : Sto} {b : Nat} {xs : List V} {i : Int} {v : V} (h : S.g b = some (.lst xs)) (hi : atI xs i = some v) : vIx (.ref b) (.int i) S = .ok v S := by
  refine vIx_sq (xs := xs) ?_ hi
  unfold Sto.sq Sto.ls
  rw [h]
theorem box_put {S : Sto} {b : Nat} {xs : List V} {i : Int} {v : V} {j : Nat} (h : S.g b = some (.lst xs)) (hi : ixN xs.length i = some j) : vPut (.ref b) (.int i) v S = .ok () (S.set b (.lst (xs.set j v))) := by
  simp only [vPut, h, hi]
theorem take_ok {A B C M D : Int} (hA : 0 ≤ A ∧ A < two64) (hB : 0 ≤ B ∧ B < two64) (hC : 0 ≤ C) (hM : 0 < M) (hD : 0 < D ∧ D.natAbs < 1073741824) {b : Nat} {S : Sto} {many : Int} {E : Str → Nat → Sto → Prop} (hb : BoxOk b S) (hm : 0 < many) (hm2 : many < 1073741824) :
    (cTake A B C M D [.ref b, .int many] S).wp (fun v S' => ∃ i, v = .int i ∧ 0 ≤ i ∧ i < many ∧ BoxOk b S' ∧ OnlyB b S S') E := by
  obtain ⟨q, r, c, g, hg, hq, hr, hc⟩ := hb
  have lt : b < S.n := Sto.g_lt hg
  have m0 : many ≠ 0 := by omega
  have n2 := hD.2
  have key : ∀ i : Int, 0 ≤ i.fmod many ∧ i.fmod many < many := fun i => by
    rw [Int.fmod_eq_emod_of_nonneg _ (by omega)]
    exact ⟨Int.emod_nonneg _ m0, Int.emod_lt_of_pos _ hm⟩
  have keyM : ∀ i : Int, 0 ≤ i.fmod M := fun i => by
    rw [Int.fmod_eq_emod_of_nonneg _ (by omega)]
    exact Int.emod_nonneg _ (by omega)
  have M0 : M ≠ 0 := by omega
  have D0 : D ≠ 0 := by omega
  have aok : -two64 < A ∧ A < two64 := ⟨by have := hA.1; unfold two64; omega, hA.2⟩
  have bok : -two64 < B ∧ B < two64 := ⟨by have := hB.1; unfold two64; omega, hB.2⟩
  unfold cTake
  rw [wp_mFn]
  refine ⟨rfl, ?_⟩
  by_cases hgq : g = true ∧ 0 < q
  · obtain ⟨rfl, q0⟩ := hgq
    have mm : many.natAbs < 1073741824 := by omega
    simp [vIx, vPut, Sto.dk, Sto.sq, Sto.ls, Sto.tp, hg, atI, ixN, Sto.g_set, lt, q0, m0, mm]
    refine ⟨(key q).1, (key q).2, ⟨_, r, c, true, by rw [Sto.g_set_same lt], Int.fdiv_nonneg hq (by omega), hr, hc⟩, .set⟩
  · cases g with
    | false =>
      simp [vIx, vPut, Sto.dk, Sto.sq, Sto.ls, Sto.tp, hg, atI, ixN, Sto.g_set, lt, m0, aok, bok, M0, D0, n2]
      exact ⟨(key _).1, (key _).2, ⟨q, (r * A + B * (c + 1) + C).fmod M, c + 1, false, by simp [Sto.g_set, lt], hq, keyM _, by omega⟩, OnlyB.set.trans .set⟩
    | true =>
      have q1 : ¬ 0 < q := by simpa using hgq
      simp [vIx, vPut, Sto.dk, Sto.sq, Sto.ls, Sto.tp, hg, atI, ixN, Sto.g_set, lt, m0, aok, bok, M0, D0, n2, q1]
      exact ⟨(key _).1, (key _).2, ⟨q, (r * A + B * (c + 1) + C).fmod M, c + 1, true, by simp [Sto.g_set, lt], hq, keyM _, by omega⟩, OnlyB.set.trans .set⟩
/-! loops -/
theorem wp_forGo {ok : Sto → Bool} {t : Tgt} {b : MS} {P : Po} (I : Nat → L2.St → Sto → Prop) : ∀ {l : List Yd} {i : Nat} {σ : L2.St} {S : Sto}, I i σ S →
    (∀ j y σ S, l[j]? = some y → I (i + j) σ S → ok S = true ∧ ∃ τ, t.mm (y.pull S).1 σ (y.pull S).2 = some τ ∧ (b τ (y.pull S).2).wp { nx := I (i + j + 1), rt := P.rt, bk := P.nx, ct := I (i + j + 1), ex := P.ex }) →
    (∀ σ S, I (i + l.length) σ S → ok S = true ∧ P.nx σ S) → (forGo ok t b l σ S).wp P
  | [], i, σ, S, h, _, e => by
    obtain ⟨h1, h2⟩ := e σ S h
    unfold forGo
    rw [if_pos h1]
    exact h2
  | y :: r, i, σ, S, h, st, e => by
    obtain ⟨h1, τ, h2, h3⟩ := st 0 y σ S rfl h
    unfold forGo
    rw [if_pos h1, h2]
    have rec_ : ∀ σ' S', I (i + 1) σ' S' → (forGo ok t b r σ' S').wp P := fun σ' S' h' => wp_forGo I (i := i + 1) h' (fun j y σ S e1 e2 => by
      have := st (j + 1) y σ S e1 (by rw [show i + (j + 1) = i + 1 + j by omega]; exact e2)
      rw [show i + (j + 1) = i + 1 + j by omega] at this
      exact this) (fun σ S h => e σ S (by rw [List.length_cons, show i + (r.length + 1) = i + 1 + r.length by omega]; exact h))
    show (match b τ (y.pull S).2 with
      | .nx σ' S' | .ct σ' S' => forGo ok t b r σ' S'
      | .bk σ' S' => .nx σ' S'
      | q => q).wp P
    cases eb : b τ (y.pull S).2 with
    | nx σ' S' => rw [eb] at h3; exact rec_ σ' S' h3
    | ct σ' S' => rw [eb] at h3; exact rec_ σ' S' h3
    | bk σ' S' => rw [eb] at h3; exact h3
    | rt v S' => rw [eb] at h3; exact h3
    | exc c d σ' S' => rw [eb] at h3; exact h3
    | bad => rw [eb] at h3; exact h3.elim
@[simp ↓] theorem wp_mFor {ms : MI} {t : Tgt} {b : MS} {P : Po} {σ : L2.St} {S : Sto} : (mFor ms t b σ S).wp P = (ms σ S).wp (fun s S1 => (forGo s.ok t b s.items σ S1).wp P) (fun c d S => P.ex c d σ S) := by
  unfold mFor; rw [Res.wp_toS]
/-- a comprehension's turns: I i acc S -/
theorem wp_lcGo {ok : Sto → Bool} {t : Tgt} {tt : MT} {elt : ME} {D : Nat} {σ : L2.St} {Q : Unit → Sto → Prop} {E : Str → Nat → Sto → Prop} (I : Nat → Sto → Prop) : ∀ {l : List Yd} {i : Nat} {S : Sto}, I i S →
    (∀ j y S, l[j]? = some y → I (i + j) S → ok S = true ∧ ∃ τ, t.mm (y.pull S).1 σ (y.pull S).2 = some τ ∧ (tt τ (y.pull S).2).wp (fun b S1 => if b = true then (elt τ S1).wp (fun v S2 => ∃ acc, S2.g D = some (.lst acc) ∧ acc.length < sz ∧ I (i + j + 1) (S2.set D (.lst (acc ++ [v])))) (fun _ _ _ => False) else I (i + j + 1) S1) (fun _ _ _ => False)) →
    (∀ S, I (i + l.length) S → ok S = true ∧ Q () S) → (lcGo ok D t tt elt σ l S).wp Q E
  | [], i, S, h, _, e => by
    obtain ⟨h1, h2⟩ := e S h
    unfold lcGo
    rw [if_pos h1]
    exact h2
  | y :: r, i, S, h, st, e => by
    obtain ⟨h1, τ, h2, h3⟩ := st 0 y S rfl h
    unfold lcGo
    rw [if_pos h1, h2]
    have rec_ : ∀ S', I (i + 1) S' → (lcGo ok D t tt elt σ r S').wp Q E := fun S' h' => wp_lcGo I (i := i + 1) h' (fun j y S e1 e2 => by
      have := st (j + 1) y S e1 (by rw [show i + (j + 1) = i + 1 + j by omega]; exact e2)
      rw [show i + (j + 1) = i + 1 + j by omega] at this
      exact this) (fun S h => e S (by rw [List.length_cons, show i + (r.length + 1) = i + 1 + r.length by omega]; exact h))
    show ((tt τ (y.pull S).2).noX.bind fun b S1 => if b = true then (elt τ S1).noX.bind fun v S2 => (match S2.g D with
        | some (.lst acc) => if acc.length < sz then lcGo ok D t tt elt σ r (S2.set D (.lst (acc ++ [v]))) else .bad
        | _ => .bad) else lcGo ok D t tt elt σ r S1).wp Q E
    rw [Res.wp_bind, Res.wp_noX]
    refine h3.imp fun k S1 q => ?_
    cases k with
    | false => exact rec_ S1 q
    | true =>
      rw [if_pos rfl] at q ⊢
      rw [Res.wp_bind, Res.wp_noX]
      refine q.imp fun v S2 ⟨acc, q1, q2, q3⟩ => ?_
      rw [q1]
      show (if acc.length < sz then lcGo ok D t tt elt σ r (S2.set D (.lst (acc ++ [v]))) else .bad).wp Q E
      rw [if_pos q2]
      exact rec_ _ q3
@[simp ↓] theorem wp_mLc {ms : MI} {t : Tgt} {tt : MT} {elt : ME} {vs : List Nat} {σ : L2.St} {S : Sto} {Q : V → Sto → Prop} {E : Str → Nat → Sto → Prop} : (mLc ms t tt elt vs σ S).wp Q E = (ms σ S).wp (fun s S1 => (lcGo s.ok S1.n t tt elt (wipe σ vs) s.items (S1.put (.lst []))).wp (fun _ S2 => Q (.ref S1.n) S2) E) E := by
  unfold mLc; simp only [Res.wp_bind, Res.wp_ok]
/-! ### what is kept -/
/-- below k all but b is as before -/
def Kp (k b : Nat) (S S' : Sto) : Prop := S.n ≤ S'.n ∧ ∀ a, a < k → a ≠ b → S'.cg a = S.cg a
theorem Kp.refl {k b : Nat} {S : Sto} : Kp k b S S := ⟨Nat.le_refl _, fun _ _ _ => rfl⟩
theorem Kp.trans {k b : Nat} {S S1 S2 : Sto} (h : Kp k b S S1) (h2 : Kp k b S1 S2) : Kp k b S S2 := ⟨Nat.le_trans h.1 h2.1, fun a l n => (h2.2 a l n).trans (h.2 a l n)⟩
theorem Kp.less {k j b : Nat} {S S1 : Sto} (h : Kp k b S S1) (l : j ≤ k) : Kp j b S S1 := ⟨h.1, fun a q n => h.2 a (Nat.lt_of_lt_of_le q l) n⟩
theorem OnlyB.kp {k b : Nat} {S S' : Sto} (h : OnlyB b S S') : Kp k b S S' := ⟨Nat.le_of_eq h.1.symm, fun a _ n => h.2 a n⟩
theorem Kp.put {k b : Nat} {S S' : Sto} {o : MO} (h : Kp k b S S') (l : k ≤ S'.n) : Kp k b S (S'.put o) := ⟨by rw [Sto.n_put]; exact Nat.le_succ_of_le h.1, fun a q n => by rw [Sto.cg_put (by omega), h.2 a q n]⟩
theorem Kp.set {k b : Nat} {S S' : Sto} {a : Nat} {o : MO} (h : Kp k b S S') (l : k ≤ a) : Kp k b S (S'.set a o) := ⟨by rw [Sto.n_set]; exact h.1, fun c q n => by rw [Sto.cg_set (by omega), h.2 c q n]⟩
end Mm

/-! the laws' helpers: _law_same, _law_kept, _law_pick -/
namespace Mm
open PySem L2
def cSame : Nat → MF
  | 0 => fun _ _ => .bad
  | n + 1 => mFn 4 2 (mSeq (mIf (mBl (mBin vIs (mVar 1) (mC .non)))
    (mRet (mBin vIs (mVar 0) (mC .non)))
    mNext)
    (mSeq (mIf (mTru (mCB vIsi (mCons (mVar 1) (mCons (mC (.ty "bool")) mNil))))
    (mRet ((mAndV (mCB vIsi (mCons (mVar 0) (mCons (mC (.ty "bool")) mNil))) (mBin vEq (mBin vIs (mVar 0) (mC (.bl true))) (mBin vIs (mVar 1) (mC (.bl true)))))))
    mNext)
    (mSeq (mIf (mTru (mCB vIsi (mCons (mVar 1) (mCons (mC (.ty "int")) mNil))))
    (mRet ((mAndV (mCB vIsi (mCons (mVar 0) (mCons (mC (.ty "int")) mNil))) (mAndV (mNotV (mCB vIsi (mCons (mVar 0) (mCons (mC (.ty "bool")) mNil)))) (mBin vEq (mVar 0) (mVar 1))))))
    mNext)
    (mSeq (mIf (mTru (mCB vIsi (mCons (mVar 1) (mCons (mC (.ty "str")) mNil))))
    (mRet ((mAndV (mCB vIsi (mCons (mVar 0) (mCons (mC (.ty "str")) mNil))) (mBin vEq (mVar 0) (mVar 1)))))
    mNext)
    (mSeq (mIf (mTru (mCB vIsi (mCons (mVar 1) (mCons (mC (.ty "dict")) mNil))))
    (mRet ((mAndV (mCB vIsi (mCons (mVar 0) (mCons (mC (.ty "dict")) mNil))) (mAndV (mBin vEq (mCB vLen (mCons (mVar 0) mNil)) (mCB vLen (mCons (mVar 1) mNil))) (mBin vEq (mLockE (adV 1) (mLc (mKeys (mVar 1)) (.nm 3) ((mOr (mBl (mBin vNotIn (mVar 3) (mVar 0))) (mNot (mTru (mCB (cSame n) (mCons (mBin vIx (mVar 0) (mVar 3)) (mCons (mBin vIx (mVar 1) (mVar 3)) mNil))))))) (mVar 3) [3])) (mLst mNil))))))
    mNext)
    (mSeq (mIf ((mOr (mNot (mTru (mCB vIsi (mCons (mVar 1) (mCons (mTup (mCons (mC (.ty "list")) (mCons (mC (.ty "tuple")) mNil))) mNil))))) (mNot (mTru (mCB vIsi (mCons (mVar 0) (mCons (mTup (mCons (mC (.ty "list")) (mCons (mC (.ty "tuple")) mNil))) mNil)))))))
    (mRet (mC (.bl false)))
    mNext)
    (mSeq (mIf ((mOr (mBl (mBin vNe (mCB vIsi (mCons (mVar 0) (mCons (mC (.ty "list")) mNil))) (mCB vIsi (mCons (mVar 1) (mCons (mC (.ty "list")) mNil))))) (mBl (mBin vNe (mCB vLen (mCons (mVar 0) mNil)) (mCB vLen (mCons (mVar 1) mNil))))))
    (mRet (mC (.bl false)))
    mNext)
    (mRet (mBin vEq (mLc (mRg1 (mCons (mCB vLen (mCons (mVar 1) mNil)) mNil)) (.nm 2) (mNot (mTru (mCB (cSame n) (mCons (mBin vIx (mVar 0) (mVar 2)) (mCons (mBin vIx (mVar 1) (mVar 2)) mNil))))) (mVar 2) [2]) (mLst mNil))))))))))
def cKept (same : MF) : MF := mFn 2 2 (mSeq (mIf (mTru (mCB vIsi (mCons (mVar 1) (mCons (mC (.ty "list")) mNil))))
    (mDrop (mMeth "list" wAppend (mVar 1) (mCons (mC (.str "more")) mNil)))
    mNext)
    (mSeq (mIf (mTru (mCB vIsi (mCons (mVar 1) (mCons (mC (.ty "dict")) mNil))))
    (mPut (mC (.int 1)) (mVar 1) (mC (.str "more")))
    mNext)
    (mRet (mCB same (mCons (mVar 0) (mCons (mVar 1) mNil))))))
def cPick (take : MF) : MF := mFn 2 2 (mRet (mBin vIx (mVar 1) (mCB take (mCons (mVar 0) (mCons (mCB vLen (mCons (mVar 1) mNil)) mNil)))))


/-! ### what is read of a store -/
theorem Sto.ls_ty {S : Sto} {a : Nat} {xs : List V} (h : S.ls a = some xs) : tyN S (.ref a) = some .list ∧ S.dk a = none ∧ S.sq a = some xs ∧ S.tp a = none := by
  unfold Sto.sq Sto.ls Sto.tp Sto.dk tyN at *
  cases e : S.g a with
  | none => rw [e] at h; simp at h
  | some o => rw [e] at h; cases o <;> simp_all
theorem Sto.tp_ty {S : Sto} {a : Nat} {xs : List V} (h : S.tp a = some xs) : tyN S (.ref a) = some .tuple ∧ S.dk a = none ∧ S.sq a = some xs ∧ S.ls a = none := by
  unfold Sto.sq Sto.ls Sto.tp Sto.dk tyN at *
  cases e : S.g a with
  | none => rw [e] at h; simp at h
  | some o => rw [e] at h; cases o <;> simp_all
theorem Sto.dk_ty {S : Sto} {a : Nat} {xs : List (Key × V)} (h : S.dk a = some xs) : tyN S (.ref a) = some .dict ∧ S.sq a = none ∧ S.ls a = none ∧ S.tp a = none := by
  unfold Sto.sq Sto.ls Sto.tp Sto.dk tyN at *
  cases e : S.g a with
  | none => rw [e] at h; simp at h
  | some o => rw [e] at h; cases o <;> simp_all
/-- what one reads in S is read in S' -/
def Rds (S S' : Sto) : Prop := S.n ≤ S'.n ∧ (∀ a xs, S.ls a = some xs → S'.ls a = some xs) ∧ (∀ a xs, S.tp a = some xs → S'.tp a = some xs) ∧ (∀ a xs, S.dk a = some xs → S'.dk a = some xs)
def Ex (S S' : Sto) : Prop := S.n ≤ S'.n ∧ ∀ a, a < S.n → S'.cg a = S.cg a
theorem Ex.refl {S : Sto} : Ex S S := ⟨Nat.le_refl _, fun _ _ => rfl⟩
theorem Ex.trans {S S1 S2 : Sto} (h : Ex S S1) (k : Ex S1 S2) : Ex S S2 := ⟨Nat.le_trans h.1 k.1, fun a l => (k.2 a (Nat.lt_of_lt_of_le l h.1)).trans (h.2 a l)⟩
theorem Ex.put {S : Sto} {o : MO} : Ex S (S.put o) := ⟨by rw [Sto.n_put]; omega, fun a l => Sto.cg_put l⟩
theorem Ex.set {S S1 : Sto} {o : MO} {a : Nat} (h : Ex S S1) (l : S.n ≤ a) : Ex S (S1.set a o) := ⟨by rw [Sto.n_set]; exact h.1, fun c q => by rw [Sto.cg_set (by omega), h.2 c q]⟩
theorem Ex.g {S S1 : Sto} {a : Nat} {o : MO} (h : Ex S S1) (e : S.g a = some o) (x : o.isX = false := by rfl) (y : o ≠ .gone := by simp) : S1.g a = some o := Sto.g_cg (h.2 a (Sto.g_lt e)) e x y
theorem Ex.calm {S S1 : Sto} (h : Ex S S1) : Ex S S1.calm := ⟨by rw [Sto.calm_n]; exact h.1, fun a l => by rw [Sto.calm_cg]; exact h.2 a l⟩
theorem Sto.ls_lt {S : Sto} {a : Nat} {xs : List V} (h : S.ls a = some xs) : a < S.n := by
  unfold Sto.ls at h
  cases e : S.g a with
  | none => rw [e] at h; cases h
  | some o => exact Sto.g_lt e
theorem Sto.tp_lt {S : Sto} {a : Nat} {xs : List V} (h : S.tp a = some xs) : a < S.n := by
  unfold Sto.tp at h
  cases e : S.g a with
  | none => rw [e] at h; cases h
  | some o => exact Sto.g_lt e
theorem Sto.dk_lt {S : Sto} {a : Nat} {xs : List (Key × V)} (h : S.dk a = some xs) : a < S.n := by
  unfold Sto.dk at h
  cases e : S.g a with
  | none => rw [e] at h; cases h
  | some o => exact Sto.g_lt e
theorem Sto.ls_eq {S S' : Sto} {a : Nat} (h : S'.cg a = S.cg a) : S'.ls a = S.ls a := by
  have e : ∀ S : Sto, S.ls a = (match S.cg a with
    | some (.lst xs) | some (.frz xs) | some (.klst _ xs) => some xs
    | _ => none) := fun S => by
    unfold Sto.ls Sto.cg
    cases S.g a with
    | none => rfl
    | some o => cases o <;> rfl
  rw [e, e, h]
theorem Sto.tp_eq {S S' : Sto} {a : Nat} (h : S'.cg a = S.cg a) : S'.tp a = S.tp a := by
  have e : ∀ S : Sto, S.tp a = (match S.cg a with
    | some (.tup xs) | some (.ktup _ xs) => some xs
    | _ => none) := fun S => by
    unfold Sto.tp Sto.cg
    cases S.g a with
    | none => rfl
    | some o => cases o <;> rfl
  rw [e, e, h]
theorem Sto.dk_eq {S S' : Sto} {a : Nat} (h : S'.cg a = S.cg a) : S'.dk a = S.dk a := by
  have e : ∀ S : Sto, S.dk a = (match S.cg a with
    | some (.dct xs) | some (.lck xs) => some xs
    | _ => none) := fun S => by
    unfold Sto.dk Sto.cg
    cases S.g a with
    | none => rfl
    | some o => cases o <;> rfl
  rw [e, e, h]
theorem Sto.sq_eq {S S' : Sto} {a : Nat} (h : S'.cg a = S.cg a) : S'.sq a = S.sq a := by unfold Sto.sq; rw [Sto.ls_eq h, Sto.tp_eq h]
theorem Ex.rds {S S1 : Sto} (h : Ex S S1) : Rds S S1 := ⟨h.1, fun a xs e => by rw [Sto.ls_eq (h.2 a (Sto.ls_lt e)), e], fun a xs e => by rw [Sto.tp_eq (h.2 a (Sto.tp_lt e)), e], fun a xs e => by rw [Sto.dk_eq (h.2 a (Sto.dk_lt e)), e]⟩
theorem Rds.refl {S : Sto} : Rds S S := ⟨Nat.le_refl _, fun _ _ h => h, fun _ _ h => h, fun _ _ h => h⟩
theorem Rds.trans {S S1 S2 : Sto} (h : Rds S S1) (k : Rds S1 S2) : Rds S S2 := ⟨Nat.le_trans h.1 k.1, fun a xs e => k.2.1 _ _ (h.2.1 _ _ e), fun a xs e => k.2.2.1 _ _ (h.2.2.1 _ _ e), fun a xs e => k.2.2.2 _ _ (h.2.2.2 _ _ e)⟩
def isRef : V → Bool
  | .ref _ => true
  | _ => false
/-- the values are alike: of one sort, one by one -/
def Same (S : Sto) : Nat → V → V → Prop
  | 0, v, w => v = w ∧ (v = .non ∨ (∃ b, v = .bl b) ∨ (∃ i, v = .int i) ∨ ∃ s, v = .str s)
  | n + 1, v, w => (v = w ∧ (v = .non ∨ (∃ b, v = .bl b) ∨ (∃ i, v = .int i) ∨ ∃ s, v = .str s)) ∨
    (∃ a b xs ys, v = .ref a ∧ w = .ref b ∧ S.ls a = some xs ∧ S.ls b = some ys ∧ ys.length ≤ sz ∧ Paired (Same S n) xs ys) ∨
    (∃ a b xs ys, v = .ref a ∧ w = .ref b ∧ S.tp a = some xs ∧ S.tp b = some ys ∧ ys.length ≤ sz ∧ Paired (Same S n) xs ys) ∨
    (∃ a b kvs kws, v = .ref a ∧ w = .ref b ∧ S.dk a = some kvs ∧ S.dk b = some kws ∧ kvs.length = kws.length ∧ ∀ k ∈ kws.map (·.1), ∃ x y, valV kvs k = some x ∧ valV kws k = some y ∧ Same S n x y)
theorem Same.mono {S S' : Sto} (r : Rds S S') : ∀ {n : Nat} {v w : V}, Same S n v w → Same S' n v w
  | 0, v, w, h => h
  | n + 1, v, w, h => by
    rcases h with h | ⟨a, b, xs, ys, h1, h2, h3, h4, h5, h6⟩ | ⟨a, b, xs, ys, h1, h2, h3, h4, h5, h6⟩ | ⟨a, b, xs, ys, h1, h2, h3, h4, h5, h6⟩
    · exact .inl h
    · exact .inr (.inl ⟨a, b, xs, ys, h1, h2, r.2.1 _ _ h3, r.2.1 _ _ h4, h5, Paired.mapP h6 fun _ _ q => q.mono r⟩)
    · exact .inr (.inr (.inl ⟨a, b, xs, ys, h1, h2, r.2.2.1 _ _ h3, r.2.2.1 _ _ h4, h5, Paired.mapP h6 fun _ _ q => q.mono r⟩))
    · refine .inr (.inr (.inr ⟨a, b, xs, ys, h1, h2, r.2.2.2 _ _ h3, r.2.2.2 _ _ h4, h5, fun k hk => ?_⟩))
      obtain ⟨x, y, q1, q2, q3⟩ := h6 k hk
      exact ⟨x, y, q1, q2, q3.mono r⟩
theorem same_scal {n : Nat} {S : Sto} {v : V} {E : Str → Nat → Sto → Prop} (h : v = .non ∨ (∃ b, v = .bl b) ∨ (∃ i, v = .int i) ∨ ∃ s, v = .str s) : (cSame (n + 1) [v, v] S).wp (fun r S' => r = .bl true ∧ S' = S) E := by
  unfold cSame
  rw [wp_mFn]
  refine ⟨rfl, ?_⟩
  rcases h with rfl | ⟨b, rfl⟩ | ⟨i, rfl⟩ | ⟨s, rfl⟩ <;> simp [tyN, tyC, isiB]
@[simp] theorem Ex.refl' {S : Sto} : Ex S S := Ex.refl
@[simp] theorem Ex.put' {S S1 : Sto} {o : MO} (h : Ex S S1) : Ex S (S1.put o) := h.trans .put
theorem vEq_nil {S : Sto} {D D2 : Nat} (h : S.ls D = some []) (h2 : S.ls D2 = some []) : vEq (.ref D) (.ref D2) S = .ok (.bl true) S := by
  have e : vEqB (.ref D) (.ref D2) S = some true := by
    unfold vEqB
    rw [if_neg (by simp [scal])]
    simp only [toD, h, h2, List.map_nil, allSome, Option.map_some]
    rfl
  unfold vEq
  rw [e]
/-- a comprehension that takes up nothing -/
theorem lc_none {ok : Sto → Bool} {l : List Yd} {D : Nat} {S0 : Sto} {t : Tgt} {tt : MT} {elt : ME} {σ : L2.St} {Q : Unit → Sto → Prop} {E : Str → Nat → Sto → Prop} (hD : D = S0.n) (hok : ∀ S, Ex S0 S → ok S = true)
    (step : ∀ (j : Nat) y S, l[j]? = some y → Ex S0 S → ∃ v, y = .one v ∧ ∃ τ, t.mm v σ S = some τ ∧ (tt τ S).wp (fun b S1 => b = false ∧ Ex S S1) fun _ _ _ => False)
    (h : ∀ S, Ex S0 S → S.g D = some (.lst []) → Q () S) : (lcGo ok D t tt elt σ l (S0.put (.lst []))).wp Q E := by
  subst hD
  refine wp_lcGo (i := 0) (fun _ S => Ex S0 S ∧ S.g S0.n = some (.lst [])) ⟨.put, Sto.g_put_new⟩ (fun j y S hy ⟨e1, e2⟩ => ⟨hok S e1, ?_⟩) fun S ⟨e1, e2⟩ => ⟨hok S e1, h S e1 e2⟩
  obtain ⟨v, rfl, τ, h1, h2⟩ := step j y S hy e1
  refine ⟨τ, h1, h2.imp fun b S1 ⟨z1, z2⟩ => ?_⟩
  subst z1
  rw [if_neg (by decide)]
  exact ⟨e1.trans z2, z2.g e2⟩
@[simp ↓] theorem wp_mRg1 {t : MA} {σ : L2.St} {S : Sto} {Q : Src → Sto → Prop} {E : Str → Nat → Sto → Prop} : (mRg1 t σ S).wp Q E = (t σ S).wp (fun vs S1 => ∃ j, vs = [.int j] ∧ (-two62 ≤ j ∧ j < two62) ∧ Q ⟨intsFrom 0 j.toNat, fun _ => true⟩ S1) E := by
  unfold mRg1
  rw [Res.wp_bind]
  congr 1
  funext vs S1
  match vs with
  | [] => simp
  | [.int j] => simp only [Res.wp_if, Res.wp_ok]; simp
  | [.non] | [.bl _] | [.str _] | [.ref _] | [.ty _] | [.byt _] | [.flt _] => simp
  | _ :: _ :: _ => simp
theorem ints_at {lo : Int} {n i : Nat} {y : Yd} (h : (intsFrom lo n)[i]? = some y) : i < n ∧ y = .one (.int (lo + i)) := by
  unfold intsFrom at h
  rw [List.getElem?_map] at h
  obtain ⟨v, h1, rfl⟩ := Option.map_eq_some_iff.mp h
  have l := (List.getElem?_eq_some_iff.mp h1).1
  rw [List.length_range] at l
  rw [List.getElem?_range l] at h1
  cases h1
  exact ⟨l, rfl⟩
theorem atI_nat {α : Type} {xs : List α} {i : Nat} {x : α} (h : xs[i]? = some x) : atI xs (i : Int) = some x := by
  have l := (List.getElem?_eq_some_iff.mp h).1
  unfold atI ixN
  rw [if_pos (by omega), if_pos (by omega)]
  simpa using h
theorem same_seq {n : Nat} {S : Sto} {a b : Nat} {xs ys : List V} {E : Str → Nat → Sto → Prop} (ih : ∀ S v w, Same S n v w → (cSame (n + 1) [v, w] S).wp (fun r S' => r = .bl true ∧ Ex S S') fun _ _ _ => False)
    (h : (S.ls a = some xs ∧ S.ls b = some ys) ∨ (S.tp a = some xs ∧ S.tp b = some ys)) (hl : ys.length ≤ sz) (hp : Paired (Same S n) xs ys) : (cSame (n + 2) [.ref a, .ref b] S).wp (fun r S' => r = .bl true ∧ Ex S S') E := by
  have lx : xs.length = ys.length := Paired.length hp
  have ql : ∀ c zs, (S.ls c = some zs ∨ S.tp c = some zs) → c < S.n := fun c zs h => h.elim Sto.ls_lt Sto.tp_lt
  have sq : ∀ S', Ex S S' → S'.sq a = some xs ∧ S'.sq b = some ys := fun S' e => by
    rcases h with ⟨h1, h2⟩ | ⟨h1, h2⟩
    · exact ⟨(Sto.ls_ty (e.rds.2.1 _ _ h1)).2.2.1, (Sto.ls_ty (e.rds.2.1 _ _ h2)).2.2.1⟩
    · exact ⟨(Sto.tp_ty (e.rds.2.2.1 _ _ h1)).2.2.1, (Sto.tp_ty (e.rds.2.2.1 _ _ h2)).2.2.1⟩
  obtain ⟨T, hT, ta, tb⟩ : ∃ T : Ty, (T = .list ∨ T = .tuple) ∧ (∀ S', Ex S S' → tyN S' (.ref a) = some T) ∧ ∀ S', Ex S S' → tyN S' (.ref b) = some T := by
    rcases h with ⟨h1, h2⟩ | ⟨h1, h2⟩
    · exact ⟨.list, .inl rfl, fun S' e => (Sto.ls_ty (e.rds.2.1 _ _ h1)).1, fun S' e => (Sto.ls_ty (e.rds.2.1 _ _ h2)).1⟩
    · exact ⟨.tuple, .inr rfl, fun S' e => (Sto.tp_ty (e.rds.2.2.1 _ _ h1)).1, fun S' e => (Sto.tp_ty (e.rds.2.2.1 _ _ h2)).1⟩
  have la : ∀ S', Ex S S' → vLen [.ref a] S' = .ok (.int ys.length) S' := fun S' e => by simp only [vLen, (sq S' e).1, lx]
  have lb : ∀ S', Ex S S' → vLen [.ref b] S' = .ok (.int ys.length) S' := fun S' e => by simp only [vLen, (sq S' e).2]
  rw [cSame, wp_mFn]
  refine ⟨rfl, ?_⟩
  have kk : ((ys.length : Int) = (ys.length : Int)) := rfl
  have l62 : -two62 ≤ (ys.length : Int) ∧ (ys.length : Int) < two62 := by
    have : sz = 16777216 := rfl
    unfold two62
    omega
  have fin : ∀ S0 : Sto, Ex S S0 → ∀ D, D = S0.n → (lcGo (fun x => true) D (Tgt.nm 2) (mNot (mTru (mCB (cSame (n + 1)) (mCons (mBin vIx (mVar 0) (mVar 2)) (mCons (mBin vIx (mVar 1) (mVar 2)) mNil)))))
      (mVar 2) (wipe [some (V.ref a), some (V.ref b), none, none] [2]) (intsFrom 0 ys.length) (S0.put (MO.lst []))).wp (fun x S2 => (vEq (V.ref D) (V.ref S2.n) (S2.put (MO.lst []))).wp (fun v S1 => v = V.bl true ∧ Ex S S1) fun c d S => E c d S) fun c d S => E c d S := fun S0 e0 D hD => by
    refine lc_none hD (fun _ _ => rfl) (fun j y S1 hy e1 => ?_) fun S1 e1 hD1 => ?_
    · obtain ⟨hj, rfl⟩ := ints_at hy
      obtain ⟨q1, q2⟩ := sq S1 (e0.trans e1)
      obtain ⟨x, hx⟩ : ∃ x, xs[j]? = some x := ⟨xs[j]'(by omega), List.getElem?_eq_getElem (by omega)⟩
      obtain ⟨y, hy, sm⟩ := pget hp hx
      refine ⟨_, rfl, _, rfl, ?_⟩
      have i1 := vIx_sq q1 (atI_nat hx)
      have i2 := vIx_sq q2 (atI_nat hy)
      simp [wipe, i1, i2]
      exact (ih S1 x y (sm.mono (e0.trans e1).rds)).imp fun v S2 ⟨h1, h2⟩ => by subst h1; simp [h2]
    · have e2 : (S1.put (MO.lst [])).ls D = some [] := by
        unfold Sto.ls
        rw [Sto.g_put_old hD1]
      have e3 : (S1.put (MO.lst [])).ls S1.n = some [] := by
        unfold Sto.ls
        rw [Sto.g_put_new]
      rw [vEq_nil e2 e3]
      exact ⟨rfl, (e0.trans e1).put'⟩
  have s2 : 2 ≤ sz := by decide
  rcases hT with rfl | rfl
  · simp (maxDischargeDepth := 9) [ta, tb, tyC, isiB, tyCs, Sto.g_put, la, lb, s2, l62.2]
    exact fin _ (Ex.put' (Ex.put' Ex.refl)) _ (by simp)
  · simp (maxDischargeDepth := 9) [ta, tb, tyC, isiB, tyCs, Sto.g_put, la, lb, s2, l62.2]
    exact fin _ (Ex.put' (Ex.put' Ex.refl)) _ (by simp)
theorem wp_mLockE {ad : Ad} {m : ME} {σ : L2.St} {S : Sto} {Q : V → Sto → Prop} {E : Str → Nat → Sto → Prop} {a : Nat} {kvs : List (Key × V)} (h1 : ad σ S = some a) (h2 : S.dk a = some kvs)
    (h : ∀ S1 : Sto, S1.n = S.n → S1.g a = some (.lck kvs) → (∀ c, c ≠ a → S1.g c = S.g c) → (m σ S1).wp (fun v S2 => Ex S1 S2 ∧ ∀ S3 : Sto, Ex S S3 → S3.n = S2.n → (∀ c, c ≠ a → S3.g c = S2.g c) → Q v S3) (fun _ _ _ => False)) : (mLockE ad m σ S).wp Q E := by
  unfold mLockE
  rw [h1]
  have h2' := h2
  unfold Sto.dk at h2
  split at h2
  · rename_i xs e
    cases h2
    simp only [e]
    rw [Res.wp_bind, Res.wp_noX]
    have lt := Sto.g_lt e
    refine (h (S.set a (.lck kvs)) Sto.n_set (Sto.g_set_same lt) fun c hc => Sto.g_set_ne hc).imp fun v S2 ⟨e2, k⟩ => ?_
    have g2 : S2.g a = some (.lck kvs) := e2.g (Sto.g_set_same lt)
    rw [g2]
    have n2 : S.n ≤ S2.n := by have := e2.1; rw [Sto.n_set] at this; exact this
    refine k _ ⟨by rw [Sto.n_set]; exact n2, fun c hc => ?_⟩ Sto.n_set fun c hc => Sto.g_set_ne hc
    by_cases z : c = a
    · subst z; exact Sto.cg_of (by rw [Sto.g_set_same (by omega), e])
    · rw [Sto.cg_set z, e2.2 c (by rw [Sto.n_set]; exact hc), Sto.cg_set z]
  · rename_i xs e
    cases h2
    simp only [e]
    exact (h S rfl e fun _ _ => rfl).noE fun v S2 ⟨e2, k⟩ => k S2 e2 rfl fun _ _ => rfl
  · cases h2
@[simp ↓] theorem wp_mKv {y : Key × V → Yd} {m : ME} {σ : L2.St} {S : Sto} {Q : Src → Sto → Prop} {E : Str → Nat → Sto → Prop} : (mKv y m σ S).wp Q E = (m σ S).wp (fun x S1 => ∃ a kvs, x = .ref a ∧ S1.lkd a = some kvs ∧ Q ⟨kvs.map y, fun S => decide (S.lkd a = some kvs)⟩ S1) E := by
  unfold mKv
  rw [Res.wp_bind]
  congr 1
  funext x S1
  cases x with
  | ref a => cases e : S1.lkd a with
    | none => simp [e]
    | some kvs => simp [e]
  | _ => simp
theorem key_kV (k : Key) : keyOf (kV k) = some k := by cases k <;> rfl
theorem same_dct {n : Nat} {S : Sto} {a b : Nat} {kvs kws : List (Key × V)} {E : Str → Nat → Sto → Prop} (ih : ∀ S v w, Same S n v w → (cSame (n + 1) [v, w] S).wp (fun r S' => r = .bl true ∧ Ex S S') fun _ _ _ => False)
    (ha : S.dk a = some kvs) (hb : S.dk b = some kws) (hl : kvs.length = kws.length) (hp : ∀ k ∈ kws.map (·.1), ∃ x y, valV kvs k = some x ∧ valV kws k = some y ∧ Same S n x y) : (cSame (n + 2) [.ref a, .ref b] S).wp (fun r S' => r = .bl true ∧ Ex S S') E := by
  have ta := (Sto.dk_ty ha).1
  have tb := (Sto.dk_ty hb).1
  have la : vLen [.ref a] S = .ok (.int kvs.length) S := by simp only [vLen, (Sto.dk_ty ha).2.1, ha]
  have lb : vLen [.ref b] S = .ok (.int kws.length) S := by simp only [vLen, (Sto.dk_ty hb).2.1, hb]
  rw [cSame, wp_mFn]
  refine ⟨rfl, ?_⟩
  simp [ta, tb, tyC, isiB, la, lb, hl]
  refine wp_mLockE (a := b) rfl hb fun S1 n1 g1 o1 => ?_
  have ex1 : Ex S1 S1 := Ex.refl
  have dkb : ∀ {S2 : Sto}, Ex S1 S2 → S2.dk b = some kws := fun {S2} e => by
    unfold Sto.dk
    rw [e.g g1]
  have rds : Rds S S1 := by
    have lsb := (Sto.dk_ty hb).2.2
    refine ⟨Nat.le_of_eq n1.symm, fun c xs e => ?_, fun c xs e => ?_, fun c xs e => ?_⟩
    · by_cases z : c = b
      · subst z; rw [lsb.1] at e; cases e
      · rw [Sto.ls_eq (Sto.cg_of (o1 c z))]; exact e
    · by_cases z : c = b
      · subst z; rw [lsb.2] at e; cases e
      · rw [Sto.tp_eq (Sto.cg_of (o1 c z))]; exact e
    · by_cases z : c = b
      · subst z; rw [dkb Ex.refl, ← hb, e]
      · rw [Sto.dk_eq (Sto.cg_of (o1 c z))]; exact e
  have dka : ∀ {S2 : Sto}, Ex S1 S2 → S2.dk a = some kvs := fun {S2} e => e.rds.2.2.2 _ _ (rds.2.2.2 _ _ ha)
  have lk1 : S1.lkd b = some kws := by unfold Sto.lkd; rw [g1]
  simp [mKeys, lk1]
  refine lc_none rfl (fun S2 e => by unfold Sto.lkd; rw [e.g g1]; simp) (fun j y S2 hy e2 => ?_) fun S2 e2 hD => ⟨e2, fun S3 e3 n3 o3 => ?_⟩
  · rw [List.getElem?_map] at hy
    obtain ⟨⟨k, w⟩, e, rfl⟩ := Option.map_eq_some_iff.mp hy
    have hk : k ∈ kws.map (·.1) := List.mem_map.mpr ⟨_, List.mem_of_getElem? e, rfl⟩
    obtain ⟨x, y, h1, h2, h3⟩ := hp k hk
    refine ⟨_, rfl, _, rfl, ?_⟩
    have i1 : vIx (.ref a) (kV k) S2 = .ok x S2 := by simp only [vIx, dka e2, key_kV, h1]
    have i2 : vIx (.ref b) (kV k) S2 = .ok y S2 := by simp only [vIx, dkb e2, key_kV, h2]
    have i3 : vNotIn (kV k) (.ref a) S2 = .ok (.bl false) S2 := by simp [vNotIn, vInB, dka e2, key_kV, h1]
    simp [wipe, i1, i2, i3]
    exact (ih S2 x y ((h3.mono rds).mono e2.rds)).imp fun v S3 ⟨h1, h2⟩ => by subst h1; simp [h2]
  · have ne : S1.n ≠ b := by have := Sto.g_lt g1; omega
    have e4 : (S3.put (MO.lst [])).ls S1.n = some [] := by
      unfold Sto.ls
      rw [Sto.g_put_old (u := .lst []) (by rw [o3 _ ne, hD])]
    have e5 : (S3.put (MO.lst [])).ls S3.n = some [] := by
      unfold Sto.ls
      rw [Sto.g_put_new]
    rw [vEq_nil e4 e5]
    exact ⟨rfl, e3.put'⟩
theorem same_ok : ∀ {n : Nat} {S : Sto} {v w : V} {E : Str → Nat → Sto → Prop}, Same S n v w → (cSame (n + 1) [v, w] S).wp (fun r S' => r = .bl true ∧ Ex S S') E
  | 0, S, v, w, E, ⟨h1, h2⟩ => by
    subst h1
    exact (same_scal h2).imp fun r S' ⟨h3, h4⟩ => ⟨h3, by rw [h4]; exact Ex.refl⟩
  | n + 1, S, v, w, E, h => by
    rcases h with ⟨h1, h2⟩ | ⟨a, b, xs, ys, rfl, rfl, h3, h4, h5, h6⟩ | ⟨a, b, xs, ys, rfl, rfl, h3, h4, h5, h6⟩ | ⟨a, b, kvs, kws, rfl, rfl, h3, h4, h5, h6⟩
    · subst h1
      exact (same_scal h2).imp fun r S' ⟨h3, h4⟩ => ⟨h3, by rw [h4]; exact Ex.refl⟩
    · exact same_seq (fun S v w h => same_ok h) (.inl ⟨h3, h4⟩) h5 h6
    · exact same_seq (fun S v w h => same_ok h) (.inr ⟨h3, h4⟩) h5 h6
    · exact same_dct (fun S v w h => same_ok h) h3 h4 h5 h6
/-! ### errors -/
@[simp ↓] theorem wp_mRaise {cn : Str} {fs : List Str} {t : MA} {σ : L2.St} {S : Sto} {P : Po} : (mRaise cn fs t σ S).wp P = (t σ S).wp (fun vs S1 => (vs.length = fs.length ∧ vs.length ≤ 900) ∧ P.ex cn S1.n σ (S1.put (.xd (fs.zip vs).reverse))) (fun c d S => P.ex c d σ S) := by
  unfold mRaise
  rw [Res.wp_toS]
  congr 1
  funext vs S1
  by_cases h : vs.length = fs.length ∧ vs.length ≤ 900
  · rw [if_pos h]; exact propext ⟨fun z => ⟨h, z⟩, fun z => z.2⟩
  · rw [if_neg h]; exact propext ⟨fun z => z.elim, fun z => h z.1⟩
@[simp ↓] theorem wp_mTry {sub : Str → Str → Option Bool} {b : MS} {hs : MH} {σ : L2.St} {S : Sto} {P : Po} : (mTry sub b hs σ S).wp P = (b σ S).wp { P with ex := fun c d σ S => (mHs sub c d σ S hs).wp P } := by
  unfold mTry
  cases b σ S <;> rfl
@[simp ↓] theorem wp_mHs_nil {sub : Str → Str → Option Bool} {c : Str} {d : Nat} {σ : L2.St} {S : Sto} {P : Po} : (mHs sub c d σ S []).wp P = P.ex c d σ S := id rfl
@[simp ↓] theorem wp_mHs_cons {sub : Str → Str → Option Bool} {c : Str} {d : Nat} {σ : L2.St} {S : Sto} {P : Po} {h : Str} {io : Option Nat} {m : MS} {r : MH} : (mHs sub c d σ S ((h, io, m) :: r)).wp P = (match sub c h with
    | some true => (m (onS io σ S.n) (S.put (.exn c d))).wp { nx := fun σ S => P.nx (offS io σ) S.calm, rt := fun v S => P.rt v S.calm, bk := fun σ S => P.bk (offS io σ) S.calm, ct := fun σ S => P.ct (offS io σ) S.calm, ex := fun _ _ _ _ => False }
    | some false => (mHs sub c d σ S r).wp P
    | none => False) := by
  rw [mHs]
  cases sub c h with
  | none => rfl
  | some b =>
    cases b with
    | false => rfl
    | true =>
      show (mOff io _).wp P = _
      cases m (onS io σ S.n) (S.put (.exn c d)) <;> rfl
@[simp ↓] theorem wp_mXf {cs : List Str} {i : Nat} {f : Str} {σ : L2.St} {S : Sto} {Q : V → Sto → Prop} {E : Str → Nat → Sto → Prop} : (mXf cs i f σ S).wp Q E = ∃ a c d fs v, σ[i]? = some (some (.ref a)) ∧ S.g a = some (.exn c d) ∧ c ∈ cs ∧ S.g d = some (.xd fs) ∧ fs.lookup f = some v ∧ Q v S := by
  unfold mXf
  apply propext
  constructor
  · intro h
    split at h
    · rename_i a e1
      split at h
      · rename_i c d e2
        split at h
        · rename_i hc
          split at h
          · rename_i fs e3
            split at h
            · rename_i v e4
              exact ⟨a, c, d, fs, v, e1, e2, hc, e3, e4, h⟩
            · exact h.elim
          · exact h.elim
        · exact h.elim
      · exact h.elim
    · exact h.elim
  · rintro ⟨a, c, d, fs, v, e1, e2, hc, e3, e4, h⟩
    simp only [e1, e2, e3, e4, if_pos hc]
    exact h
@[simp ↓] theorem wp_mSq {m : ME} {σ : L2.St} {S : Sto} {Q : Src → Sto → Prop} {E : Str → Nat → Sto → Prop} : (mSq m σ S).wp Q E = (m σ S).wp (fun x S1 => ∃ a xs, x = .ref a ∧ ((S1.ls a = some xs ∧ Q ⟨xs.map .one, fun S => decide (S.ls a = some xs)⟩ S1) ∨ (S1.ls a = none ∧ S1.tp a = some xs ∧ Q ⟨xs.map .one, fun S => decide (S.tp a = some xs)⟩ S1))) E := by
  unfold mSq
  rw [Res.wp_bind]
  congr 1
  funext x S1
  cases x with
  | ref a =>
    cases e : S1.ls a with
    | some xs => simp [e]
    | none => cases e2 : S1.tp a with
      | none => simp [e, e2]
      | some xs => simp [e, e2]
  | _ => simp
@[simp ↓] theorem wp_mYes {σ : L2.St} {S : Sto} {Q : Bool → Sto → Prop} {E : Str → Nat → Sto → Prop} : (mYes σ S).wp Q E = Q true S := id rfl
/-- a comprehension without a condition: f tells each item's value -/
theorem lc_map {ok : Sto → Bool} {l : List Yd} {D : Nat} {S0 : Sto} {t : Tgt} {elt : ME} {σ : L2.St} {Q : Unit → Sto → Prop} {E : Str → Nat → Sto → Prop} (f : Nat → V) (hD : D = S0.n) (hl : l.length ≤ sz) (hok : ∀ S, Ex S0 S → ok S = true)
    (step : ∀ (j : Nat) y S, l[j]? = some y → Ex S0 S → ∃ v, y = .one v ∧ ∃ τ, t.mm v σ S = some τ ∧ (elt τ S).wp (fun w S1 => w = f j ∧ Ex S S1) fun _ _ _ => False)
    (h : ∀ S, Ex S0 S → S.g D = some (.lst ((List.range l.length).map f)) → Q () S) : (lcGo ok D t mYes elt σ l (S0.put (.lst []))).wp Q E := by
  subst hD
  refine wp_lcGo (i := 0) (fun j S => Ex S0 S ∧ S.g S0.n = some (.lst ((List.range j).map f)) ∧ S0.n < S.n) ⟨.put, Sto.g_put_new, by rw [Sto.n_put]; omega⟩ (fun j y S hy ⟨e1, e2, e3⟩ => ⟨hok S e1, ?_⟩) fun S ⟨e1, e2, e3⟩ => ⟨hok S e1, h S e1 (by rw [Nat.zero_add] at e2; exact e2)⟩
  have hj := (List.getElem?_eq_some_iff.mp hy).1
  obtain ⟨v, rfl, τ, h1, h2⟩ := step j y S hy e1
  refine ⟨τ, h1, ?_⟩
  rw [wp_mYes, if_pos rfl]
  refine h2.imp fun w S1 ⟨z1, z2⟩ => ⟨_, z2.g e2, by simp; omega, (e1.trans z2).set (Nat.le_refl _), ?_, by rw [Sto.n_set]; exact Nat.lt_of_lt_of_le e3 z2.1⟩
  rw [Sto.g_set_same (Nat.lt_of_lt_of_le e3 z2.1), z1, Nat.zero_add, List.range_succ, List.map_append]
  rfl
theorem cut_to {α : Type} {xs : List α} {i : Int} (h0 : 0 ≤ i) : cut xs none (some i) = xs.take i.toNat := by
  unfold cut
  have e : HT.sIx xs.length xs.length (some i) = min i.toNat xs.length := by
    show (if i < 0 then _ else min i.toNat xs.length) = _
    rw [if_neg (by omega)]
  have e0 : HT.sIx xs.length 0 none = 0 := rfl
  rw [e, e0, List.drop_zero, Nat.sub_zero]
  by_cases q : i.toNat ≤ xs.length
  · rw [Nat.min_eq_left q]
  · rw [Nat.min_eq_right (by omega), List.take_length, List.take_of_length_le (by omega)]
theorem intsOf_map (l : List Int) : intsOf (l.map V.int) = some l := by
  induction l with
  | nil => rfl
  | cons a t ih => simp [intsOf, ih]
theorem strsOf_map (l : List Str) : strsOf (l.map V.str) = some l := by
  induction l with
  | nil => rfl
  | cons a t ih => simp [strsOf, ih]
theorem ty_int {S : Sto} {v : V} (h : tyN S v = some .int) : ∃ n, v = .int n := by
  cases v with
  | int n => exact ⟨n, rfl⟩
  | ref a =>
    simp only [tyN] at h
    split at h <;> cases h
  | _ => cases h
theorem ty_str {S : Sto} {v : V} (h : tyN S v = some .str) : ∃ n, v = .str n := by
  cases v with
  | str n => exact ⟨n, rfl⟩
  | ref a =>
    simp only [tyN] at h
    split at h <;> cases h
  | _ => cases h
theorem Ex.ty {S S' : Sto} {v : V} {T : Ty} (e : Ex S S') (h : tyN S v = some T) : tyN S' v = some T := by
  cases v with
  | ref a =>
    cases g : S.g a with
    | none => simp [tyN, g] at h
    | some o =>
      have : S'.g a = some o := by
        cases o <;> first | (simp [tyN, g] at h; done) | exact e.g g
      simp only [tyN, g, this] at h ⊢
      exact h
  | _ => exact h
/-! ### what is kept -/
def Sc (v : V) : Prop := v = .non ∨ (∃ b, v = .bl b) ∨ (∃ i, v = .int i) ∨ ∃ s, v = .str s
theorem Same.up {S : Sto} : ∀ {n : Nat} {v w : V}, Same S n v w → Same S (n + 1) v w
  | 0, v, w, h => .inl h
  | n + 1, v, w, h => by
    rcases h with h | ⟨a, b, xs, ys, h1, h2, h3, h4, h5, h6⟩ | ⟨a, b, xs, ys, h1, h2, h3, h4, h5, h6⟩ | ⟨a, b, xs, ys, h1, h2, h3, h4, h5, h6⟩
    · exact .inl h
    · exact .inr (.inl ⟨a, b, xs, ys, h1, h2, h3, h4, h5, Paired.mapP h6 fun _ _ q => q.up⟩)
    · exact .inr (.inr (.inl ⟨a, b, xs, ys, h1, h2, h3, h4, h5, Paired.mapP h6 fun _ _ q => q.up⟩))
    · refine .inr (.inr (.inr ⟨a, b, xs, ys, h1, h2, h3, h4, h5, fun k hk => ?_⟩))
      obtain ⟨x, y, q1, q2, q3⟩ := h6 k hk
      exact ⟨x, y, q1, q2, q3.up⟩
theorem Same.le {S : Sto} {n m : Nat} {v w : V} (h : Same S n v w) (l : n ≤ m) : Same S m v w := by
  induction l with
  | refl => exact h
  | step _ ih => exact ih.up
theorem Same.sc {S : Sto} {n : Nat} {v : V} (h : Sc v) : Same S n v v := Same.le (n := 0) ⟨rfl, h⟩ (Nat.zero_le n)
theorem paired_self {α : Type} {F : α → α → Prop} : ∀ {l : List α}, (∀ x ∈ l, F x x) → Paired F l l
  | [], _ => .nil
  | a :: t, h => .cons (h a List.mem_cons_self) (paired_self fun x hx => h x (List.mem_cons_of_mem _ hx))
/-- flat values: what the laws hand in to be refused -/
inductive KV (S : Sto) (m : Nat) : V → Prop
  | sc {v : V} (h : Sc v) : KV S m v
  | lst {a : Nat} {xs : List V} (h : S.g a = some (.lst xs)) (hx : ∀ x ∈ xs, Sc x) (l : xs.length < m) : KV S m (.ref a)
  | tup {a : Nat} {xs : List V} (h : S.g a = some (.tup xs)) (hx : ∀ x ∈ xs, Sc x) (l : xs.length < m) : KV S m (.ref a)
  | dct {a : Nat} {kvs : List (Key × V)} (h : S.g a = some (.dct kvs)) (hx : ∀ p ∈ kvs, Sc p.2) (l : kvs.length < m) : KV S m (.ref a)
theorem valV_mem {kvs : List (Key × V)} {k : Key} (h : k ∈ kvs.map (·.1)) : ∃ x, valV kvs k = some x ∧ ∃ p ∈ kvs, p.2 = x := by
  obtain ⟨p, hp, rfl⟩ := List.mem_map.mp h
  unfold valV
  cases e : kvs.find? fun kv => decide (kv.1 = p.1) with
  | none =>
    have := List.find?_eq_none.mp e p hp
    simp at this
  | some q => exact ⟨q.2, rfl, q, List.mem_of_find?_eq_some e, rfl⟩
theorem KV.same {S : Sto} {v : V} {n m : Nat} (hm : m ≤ sz) (h : KV S m v) : Same S (n + 1) v v := by
  have szz : sz = 16777216 := rfl
  cases h with
  | sc h => exact .inl ⟨rfl, h⟩
  | lst h hx l => exact .inr (.inl ⟨_, _, _, _, rfl, rfl, by unfold Sto.ls; rw [h], by unfold Sto.ls; rw [h], by omega, paired_self fun x q => .sc (hx x q)⟩)
  | tup h hx l => exact .inr (.inr (.inl ⟨_, _, _, _, rfl, rfl, by unfold Sto.tp; rw [h], by unfold Sto.tp; rw [h], by omega, paired_self fun x q => .sc (hx x q)⟩))
  | dct h hx l =>
    refine .inr (.inr (.inr ⟨_, _, _, _, rfl, rfl, by unfold Sto.dk; rw [h], by unfold Sto.dk; rw [h], rfl, fun k hk => ?_⟩))
    obtain ⟨x, e, p, hp, rfl⟩ := valV_mem hk
    exact ⟨_, _, e, e, .sc (hx p hp)⟩
theorem KV.ty {S : Sto} {v : V} {m : Nat} (h : KV S m v) : ∃ T, tyN S v = some T := by
  cases h with
  | sc h => rcases h with rfl | ⟨_, rfl⟩ | ⟨_, rfl⟩ | ⟨_, rfl⟩ <;> exact ⟨_, rfl⟩
  | lst h _ _ => exact ⟨.list, by simp [tyN, h]⟩
  | tup h _ _ => exact ⟨.tuple, by simp [tyN, h]⟩
  | dct h _ _ => exact ⟨.dict, by simp [tyN, h]⟩
theorem KV.ex {S S' : Sto} {v : V} {m : Nat} (h : KV S m v) (e : Ex S S') : KV S' m v := by
  cases h with
  | sc h => exact .sc h
  | lst h hx l => exact .lst (e.g h) hx l
  | tup h hx l => exact .tup (e.g h) hx l
  | dct h hx l => exact .dct (e.g h) hx l
/-- all but x's own object is as before -/
def ExB (x : V) (S S' : Sto) : Prop := S.n ≤ S'.n ∧ ∀ a, a < S.n → x ≠ .ref a → S'.cg a = S.cg a
theorem Ex.exB {x : V} {S S' : Sto} (h : Ex S S') : ExB x S S' := ⟨h.1, fun a l _ => h.2 a l⟩
theorem ExB.trans {x : V} {S S1 S2 : Sto} (h : ExB x S S1) (k : ExB x S1 S2) : ExB x S S2 := ⟨Nat.le_trans h.1 k.1, fun a l n => (k.2 a (Nat.lt_of_lt_of_le l h.1) n).trans (h.2 a l n)⟩
theorem ExB.set {S : Sto} {a : Nat} {o : MO} : ExB (.ref a) S (S.set a o) := ⟨Nat.le_of_eq Sto.n_set.symm, fun b _ n => Sto.cg_set fun e => n (by rw [e])⟩
theorem putK_len {kvs : List (Key × V)} {k : Key} {v : V} : (putK kvs k v).length ≤ kvs.length + 1 := by
  unfold putK
  split <;> simp
theorem putK_sc {kvs : List (Key × V)} {k : Key} {v : V} (h : ∀ p ∈ kvs, Sc p.2) (hv : Sc v) : ∀ p ∈ putK kvs k v, Sc p.2 := by
  intro p hp
  unfold putK at hp
  split at hp
  · obtain ⟨q, hq, rfl⟩ := List.mem_map.mp hp
    split
    · exact hv
    · exact h q hq
  · rcases List.mem_append.mp hp with q | q
    · exact h p q
    · simp at q; subst q; exact hv
theorem kept_ok {S : Sto} {x : V} {n : Nat} {E : Str → Nat → Sto → Prop} (h : KV S 900 x) :
    (cKept (cSame (n + 2)) [x, x] S).wp (fun r S' => r = .bl true ∧ ExB x S S') E := by
  have fin : ∀ S1, ExB x S S1 → KV S1 1000 x → (cSame (n + 2) [x, x] S1).wp (fun r S' => r = .bl true ∧ ExB x S S') E := fun S1 e k => (same_ok (k.same (by decide))).imp fun r S' ⟨h1, h2⟩ => ⟨h1, e.trans h2.exB⟩
  unfold cKept
  rw [wp_mFn]
  refine ⟨rfl, ?_⟩
  have szz : sz = 16777216 := rfl
  cases h with
  | sc h =>
    have := fin S Ex.refl.exB (.sc h)
    rcases h with rfl | ⟨_, rfl⟩ | ⟨_, rfl⟩ | ⟨_, rfl⟩ <;> simp [tyN, tyC, isiB] <;> exact this
  | @lst a xs h hx l =>
    have e1 : wAppend (.ref a) [.str "more"] S = .ok .non (S.set a (.lst (xs ++ [.str "more"]))) := by
      simp only [wAppend, h]
      rw [if_pos (by omega)]
    have g1 : (S.set a (.lst (xs ++ [.str "more"]))).g a = some (.lst (xs ++ [.str "more"])) := Sto.g_set_same (Sto.g_lt h)
    simp [tyN, tyC, isiB, h, tyOk, e1, g1]
    refine fin _ ExB.set (.lst g1 (fun x hx' => ?_) (by simp; omega))
    rcases List.mem_append.mp hx' with q | q
    · exact hx x q
    · simp at q; subst q; exact .inr (.inr (.inr ⟨_, rfl⟩))
  | @tup a xs h hx l =>
    simp [tyN, tyC, isiB, h]
    exact fin _ Ex.refl.exB (.tup h hx (by omega))
  | @dct a kvs h hx l =>
    have e1 : vPut (.ref a) (.str "more") (.int 1) S = .ok () (S.set a (.dct (putK kvs (.inr "more") (.int 1)))) := by
      simp only [vPut, h, keyOf]
      rw [if_pos (by omega)]
    have g1 : (S.set a (.dct (putK kvs (.inr "more") (.int 1)))).g a = some (.dct (putK kvs (.inr "more") (.int 1))) := Sto.g_set_same (Sto.g_lt h)
    have lp : (putK kvs (.inr "more") (.int 1)).length ≤ kvs.length + 1 := putK_len
    simp [tyN, tyC, isiB, h, e1]
    exact fin _ ExB.set (.dct g1 (putK_sc hx (.inr (.inr (.inl ⟨_, rfl⟩)))) (by omega))
/-! ### draws -/
def TakeOk (take : MF) : Prop := ∀ (b : Nat) (S : Sto) (many : Int) (E : Str → Nat → Sto → Prop), BoxOk b S → 0 < many → many < 1073741824 → (take [.ref b, .int many] S).wp (fun v S' => ∃ i, v = .int i ∧ 0 ≤ i ∧ i < many ∧ BoxOk b S' ∧ OnlyB b S S') E
/-- the box's promise: below the entry's end all but b is as before -/
def Kb (b : Nat) (S S' : Sto) : Prop := S.n ≤ S'.n ∧ BoxOk b S' ∧ ∀ a, a < S.n → a ≠ b → S'.cg a = S.cg a
theorem Kb.trans {b : Nat} {S S1 S2 : Sto} (h : Kb b S S1) (k : Kb b S1 S2) : Kb b S S2 := ⟨Nat.le_trans h.1 k.1, k.2.1, fun a l n => (k.2.2 a (Nat.lt_of_lt_of_le l h.1) n).trans (h.2.2 a l n)⟩
theorem BoxOk.lt {b : Nat} {S : Sto} (h : BoxOk b S) : b < S.n := by
  obtain ⟨q, r, c, g, h, _⟩ := h
  exact Sto.g_lt h
theorem BoxOk.ex {b : Nat} {S S' : Sto} (h : BoxOk b S) (e : Ex S S') : BoxOk b S' := by
  obtain ⟨q, r, c, g, h, k⟩ := h
  exact ⟨q, r, c, g, e.g h, k⟩
theorem Kb.refl {b : Nat} {S : Sto} (h : BoxOk b S) : Kb b S S := ⟨Nat.le_refl _, h, fun _ _ _ => rfl⟩
theorem Ex.kb {b : Nat} {S S' : Sto} (h : BoxOk b S) (e : Ex S S') : Kb b S S' := ⟨e.1, h.ex e, fun a l _ => e.2 a l⟩
theorem OnlyB.kb {b : Nat} {S S' : Sto} (h : BoxOk b S') (e : OnlyB b S S') : Kb b S S' := ⟨Nat.le_of_eq e.1.symm, h, fun a _ n => e.2 a n⟩
theorem Kb.put {b : Nat} {S S' : Sto} {o : MO} (h : Kb b S S') : Kb b S (S'.put o) := h.trans (Ex.kb h.2.1 Ex.put)
theorem Kb.set {b : Nat} {S S' : Sto} {a : Nat} {o : MO} (h : Kb b S S') (l : S.n ≤ a) (n : a ≠ b) : Kb b S (S'.set a o) := by
  refine ⟨by rw [Sto.n_set]; exact h.1, ?_, fun c hc hn => by rw [Sto.cg_set (by omega)]; exact h.2.2 c hc hn⟩
  obtain ⟨q, r, c, g, h1, k⟩ := h.2.1
  exact ⟨q, r, c, g, by rw [Sto.g_set_ne (fun e => n e.symm)]; exact h1, k⟩
theorem Kb.g {b : Nat} {S S' : Sto} {a : Nat} {o : MO} (h : Kb b S S') (e : S.g a = some o) (n : a ≠ b) (x : o.isX = false := by rfl) (y : o ≠ .gone := by simp) : S'.g a = some o := Sto.g_cg (h.2.2 a (Sto.g_lt e) n) e x y
theorem OnlyB.g {b : Nat} {S S' : Sto} {a : Nat} {o : MO} (h : OnlyB b S S') (e : S.g a = some o) (n : a ≠ b) (x : o.isX = false := by rfl) (y : o ≠ .gone := by simp) : S'.g a = some o := Sto.g_cg (h.2 a n) e x y
theorem pick_ok {take : MF} (ht : TakeOk take) {b l : Nat} {S : Sto} {xs : List V} {E : Str → Nat → Sto → Prop} (hb : BoxOk b S) (h : S.sq l = some xs) (hl : l ≠ b) (h0 : xs ≠ []) (h1 : xs.length < 1073741824) :
    (cPick take [.ref b, .ref l] S).wp (fun v S' => v ∈ xs ∧ BoxOk b S' ∧ OnlyB b S S') E := by
  unfold cPick
  rw [wp_mFn]
  refine ⟨rfl, ?_⟩
  have len : vLen [.ref l] S = .ok (.int xs.length) S := by simp only [vLen, h]
  simp [len]
  have := List.length_pos_iff.mpr h0
  refine (ht b S xs.length _ hb (by omega) (by omega)).imp fun v S' ⟨i, e, i0, i1, hb', ob⟩ => ?_
  subst e
  obtain ⟨k, rfl⟩ : ∃ k : Nat, i = k := ⟨i.toNat, by omega⟩
  have hs : S'.sq l = some xs := by rw [Sto.sq_eq (ob.2 l hl)]; exact h
  rw [vIx_sq hs (atI_nat (List.getElem?_eq_getElem (by omega)))]
  exact ⟨List.getElem_mem _, hb', ob⟩
@[simp ↓] theorem wp_mDisp1 {k v : ME} {σ : L2.St} {S : Sto} {Q : V → Sto → Prop} {E : Str → Nat → Sto → Prop} : (mDisp [(k, v)] σ S).wp Q E = (k σ (S.put (.dct []))).wp (fun x S1 => (v σ S1).wp (fun y S2 => ∃ key, keyOf x = some key ∧ S2.g S.n = some (.dct []) ∧ Q (.ref S.n) (S2.set S.n (.dct [(key, y)]))) E) E := by
  unfold mDisp mPairs mPairs
  simp only [Res.wp_bind, Res.wp_ok]
  congr 1; funext x S1
  congr 1; funext y S2
  unfold keysOf keysOf
  cases e : keyOf x with
  | none => simp
  | some key =>
    cases g : S2.g S.n with
    | none => simp
    | some o =>
      cases o with
      | dct l =>
        cases l with
        | nil => simp [mergeK, putK]
        | cons a t => simp
      | _ => simp
end Mm

/-! rows of a text: what stands between the newlines -/
namespace Mm
open PySem L2
def rowsL : List Nat → List (List Nat)
  | [] => [[]]
  | c :: r => if c = 10 then [] :: rowsL r else match rowsL r with
    | h :: t => (c :: h) :: t
    | [] => [[c]]
theorem rowsL_ne (l : List Nat) : rowsL l ≠ [] := by
  cases l with
  | nil => simp [rowsL]
  | cons c r =>
    unfold rowsL
    split
    · simp
    · split <;> simp
/-- line and column (from 1) at the end of l, from line a and column b -/
def lcAt : List Nat → Nat × Nat → Nat × Nat
  | [], p => p
  | c :: r, p => lcAt r (if c = 10 then (p.1 + 1, 1) else (p.1, p.2 + 1))
theorem lcAt_snoc (c : Nat) : ∀ (l : List Nat) (p : Nat × Nat), lcAt (l ++ [c]) p = (if c = 10 then ((lcAt l p).1 + 1, 1) else ((lcAt l p).1, (lcAt l p).2 + 1))
  | [], p => rfl
  | d :: r, p => by
    show lcAt (r ++ [c]) _ = _
    rw [lcAt_snoc c r]
    rfl
def glue (x : List Nat) : List (List Nat) → List (List Nat)
  | h :: t => (x ++ h) :: t
  | [] => [x]
theorem rowsL_cons (c : Nat) (r : List Nat) : rowsL (c :: r) = if c = 10 then [] :: rowsL r else glue [c] (rowsL r) := by
  rw [rowsL]
  split
  · rfl
  · cases rowsL r <;> rfl
theorem glue_glue (x y : List Nat) (l : List (List Nat)) (h : l ≠ []) : glue x (glue y l) = glue (x ++ y) l := by
  cases l with
  | nil => exact absurd rfl h
  | cons a t => simp [glue]
theorem spl_rows : ∀ (l acc : List Nat), TL.spl [10] 0 acc l = glue acc (rowsL l)
  | [], acc => by rw [TL.spl_nil]; simp [rowsL, glue]
  | c :: r, acc => by
    rw [rowsL_cons]
    by_cases h : c = 10
    · subst h
      rw [TL.spl_hit (by simp [TL.pre]), if_pos rfl]
      show acc :: TL.spl [10] 0 [] r = _
      rw [spl_rows r []]
      have : glue [] (rowsL r) = rowsL r := by cases e : rowsL r with
        | nil => exact absurd e (rowsL_ne r)
        | cons a t => rfl
      rw [this]
      simp [glue]
    · rw [TL.spl_miss (by simp [TL.pre]; omega), if_neg h, spl_rows r, glue_glue _ _ _ (rowsL_ne r)]
theorem split_rows (z : Str) : Txt.split z "\n" = (rowsL z.cps.toList).map fun l => ⟨l.toArray⟩ := by
  have h := TL.split_spl z "\n" (by decide +kernel) (by
    have : Builtin.Str.strKind "\n" = 1 := by decide +kernel
    rw [this]
    unfold Builtin.Str.strKind
    split <;> (try split) <;> omega)
  have e : TL.tl ("\n" : Str) = [10] := by decide +kernel
  rw [e, spl_rows] at h
  have g : glue [] (rowsL (TL.tl z)) = rowsL (TL.tl z) := by cases e : rowsL (TL.tl z) with
    | nil => exact absurd e (rowsL_ne _)
    | cons a t => rfl
  rw [g] at h
  have : z.cps.toList = TL.tl z := rfl
  rw [this, ← h, List.map_map]
  have : (fun l => (⟨l.toArray⟩ : Str)) ∘ TL.tl = id := by
    funext s
    obtain ⟨⟨l⟩⟩ := s
    rfl
  rw [this, List.map_id]
theorem glue_dl (c : Nat) (L : List (List Nat)) (hL : L ≠ []) (hG : glue [c] L ≠ []) (B : List (List Nat)) (hB : B ≠ []) : glue [c] (L.dropLast ++ glue (L.getLast hL) B) = (glue [c] L).dropLast ++ glue ((glue [c] L).getLast hG) B := by
  cases L with
  | nil => exact absurd rfl hL
  | cons x t =>
    cases t with
    | nil => cases B with
      | nil => exact absurd rfl hB
      | cons y u => simp [glue]
    | cons y u => simp [glue]
theorem rowsL_app : ∀ (a b : List Nat), rowsL (a ++ b) = (rowsL a).dropLast ++ glue ((rowsL a).getLast (rowsL_ne a)) (rowsL b)
  | [], b => by
    simp only [List.nil_append, rowsL, List.dropLast_singleton, List.getLast_singleton]
    cases e : rowsL b with
    | nil => exact absurd e (rowsL_ne b)
    | cons a t => rfl
  | c :: r, b => by
    rw [List.cons_append]
    have ih := rowsL_app r b
    have nr := rowsL_ne r
    simp only [rowsL_cons]
    by_cases h : c = 10
    · simp only [if_pos h]
      rw [ih, List.dropLast_cons_of_ne_nil nr, List.getLast_cons nr]
      rfl
    · simp only [if_neg h]
      rw [ih]
      exact glue_dl c (rowsL r) nr _ _ (rowsL_ne b)
theorem rowsL_snoc (l : List Nat) (c : Nat) : rowsL (l ++ [c]) = if c = 10 then rowsL l ++ [[]] else (rowsL l).dropLast ++ [(rowsL l).getLast (rowsL_ne l) ++ [c]] := by
  rw [rowsL_app]
  by_cases h : c = 10
  · subst h
    rw [if_pos rfl]
    show _ ++ ((rowsL l).getLast (rowsL_ne l) ++ []) :: [[]] = _
    rw [List.append_nil]
    have := List.dropLast_concat_getLast (rowsL_ne l)
    rw [← List.singleton_append, ← List.append_assoc, this]
  · rw [if_neg h, rowsL_cons, if_neg h]
    rfl
/-- the rows of l tell line and column of its end -/
theorem lc_rows (l : List Nat) : (lcAt l (1, 1)).1 = (rowsL l).length ∧ (lcAt l (1, 1)).2 = ((rowsL l).getLast (rowsL_ne l)).length + 1 := by
  obtain ⟨n, hn⟩ : ∃ n, l.length = n := ⟨_, rfl⟩
  induction n generalizing l with
  | zero =>
    have : l = [] := List.eq_nil_of_length_eq_zero hn
    subst this
    exact ⟨rfl, rfl⟩
  | succ n ih =>
    have ne : l ≠ [] := fun e => by subst e; cases hn
    have e := (List.dropLast_concat_getLast ne).symm
    obtain ⟨h1, h2⟩ := ih l.dropLast (by rw [List.length_dropLast]; omega)
    have g : ∀ {x y : List (List Nat)} (e : x = y) (hx : x ≠ []), x.getLast hx = y.getLast (e ▸ hx) := fun e hx => by subst e; rfl
    generalize l.dropLast = m at *
    generalize l.getLast ne = c at *
    subst e
    rw [lcAt_snoc]
    by_cases h : c = 10
    · subst h
      have r := rowsL_snoc m 10
      rw [if_pos rfl] at r
      rw [if_pos rfl, g r]
      refine ⟨?_, by simp⟩
      rw [r]
      simp [h1]
    · have r := rowsL_snoc m c
      rw [if_neg h] at r
      rw [if_neg h, g r]
      refine ⟨?_, by simp [h2]⟩
      rw [r]
      have := List.length_pos_iff.mpr (rowsL_ne m)
      simp [h1]
      omega
def rsum (l : List (List Nat)) : Nat := (l.map fun r => r.length + 1).sum
theorem rsum_app (a b : List (List Nat)) : rsum (a ++ b) = rsum a + rsum b := by simp [rsum]
theorem rsum_rows : ∀ l : List Nat, rsum (rowsL l) = l.length + 1
  | [] => rfl
  | c :: r => by
    have ih := rsum_rows r
    rw [rowsL_cons]
    by_cases h : c = 10
    · rw [if_pos h]
      simp only [rsum, List.map_cons, List.sum_cons, List.length_nil, List.length_cons] at *
      omega
    · rw [if_neg h]
      cases e : rowsL r with
      | nil => exact absurd e (rowsL_ne r)
      | cons a t =>
        rw [e] at ih
        simp only [glue, rsum, List.map_cons, List.sum_cons, List.length_append, List.length_cons, List.length_nil] at *
        omega
/-- the place of a line and a column -/
theorem row_place (l : List Nat) (k : Nat) (hk : k ≤ l.length) {p : Nat × Nat} (hp : lcAt (l.take k) (1, 1) = p) :
    1 ≤ p.1 ∧ 1 ≤ p.2 ∧ (∃ r, (rowsL l)[p.1 - 1]? = some r ∧ p.2 ≤ r.length + 1) ∧ rsum ((rowsL l).take (p.1 - 1)) + p.2 = k + 1 := by
  obtain ⟨h1, h2⟩ := lc_rows (l.take k)
  rw [hp] at h1 h2
  have e : rowsL l = (rowsL (l.take k)).dropLast ++ glue ((rowsL (l.take k)).getLast (rowsL_ne _)) (rowsL (l.drop k)) := by
    rw [← rowsL_app, List.take_append_drop]
  have len : (rowsL (l.take k)).dropLast.length = p.1 - 1 := by rw [List.length_dropLast, h1]
  have pos := List.length_pos_iff.mpr (rowsL_ne (l.take k))
  have s := rsum_rows (l.take k)
  have s : rsum (rowsL (l.take k)).dropLast + rsum [(rowsL (l.take k)).getLast (rowsL_ne _)] = (l.take k).length + 1 := by
    rw [← rsum_app, List.dropLast_concat_getLast, s]
  have lk : (l.take k).length = k := by rw [List.length_take]; omega
  rw [lk] at s
  refine ⟨by omega, by omega, ?_, ?_⟩
  · rw [e, List.getElem?_append_right (by omega), len, Nat.sub_self]
    cases e2 : rowsL (l.drop k) with
    | nil => exact absurd e2 (rowsL_ne _)
    | cons y u =>
      refine ⟨_, rfl, ?_⟩
      rw [List.length_append, h2]
      omega
  · rw [e, List.take_left' len]
    simp only [rsum, List.map_cons, List.map_nil, List.sum_cons, List.sum_nil] at s ⊢
    omega
theorem rsum_take_succ {L : List (List Nat)} {a : Nat} {r : List Nat} (h : L[a]? = some r) : rsum (L.take (a + 1)) = rsum (L.take a) + (r.length + 1) := by
  rw [List.take_succ, h, rsum_app]
  simp [rsum]
theorem rsum_take_le {L : List (List Nat)} {a b : Nat} (h : a ≤ b) : rsum (L.take a) ≤ rsum (L.take b) := by
  have e := List.take_append_drop a (L.take b)
  rw [List.take_take, Nat.min_eq_left h] at e
  rw [← e, rsum_app]
  omega
/-- every line's every column has its place -/
theorem place_row (l : List Nat) {i : Nat} {r : List Nat} {c : Nat} (hr : (rowsL l)[i]? = some r) (h1 : 1 ≤ c) (h2 : c ≤ r.length + 1) :
    rsum ((rowsL l).take i) + c - 1 ≤ l.length ∧ lcAt (l.take (rsum ((rowsL l).take i) + c - 1)) (1, 1) = (i + 1, c) := by
  have s := rsum_take_succ hr
  have t : rsum ((rowsL l).take (i + 1)) ≤ l.length + 1 := by
    rw [← rsum_rows l]
    have := rsum_take_le (L := rowsL l) (a := i + 1) (b := (rowsL l).length) (List.getElem?_eq_some_iff.mp hr).1
    rwa [List.take_length] at this
  have hk : rsum ((rowsL l).take i) + c - 1 ≤ l.length := by omega
  refine ⟨hk, ?_⟩
  obtain ⟨p1, p2, ⟨r', hr', p3⟩, p4⟩ := row_place l _ hk rfl
  generalize lcAt (l.take (rsum ((rowsL l).take i) + c - 1)) (1, 1) = p at *
  obtain ⟨a, b⟩ := p
  simp only at p1 p2 p3 p4 hr'
  have s' := rsum_take_succ hr'
  have e : a - 1 = i := by
    rcases Nat.lt_trichotomy (a - 1) i with z | z | z
    · have := rsum_take_le (L := rowsL l) (a := a - 1 + 1) (b := i) z
      omega
    · exact z
    · have := rsum_take_le (L := rowsL l) (a := i + 1) (b := a - 1) z
      omega
  subst e
  have : a - 1 + 1 = a := by omega
  rw [this]
  congr 1
  omega
/-! texts of plain signs -/
def Good (m : Nat) (x : Str) : Prop := x.length ≤ m ∧ ∀ c ∈ x.cps.toList, c < 128
theorem len_toList (x : Str) : x.cps.toList.length = x.length := by simp [Str.length]
theorem joinL_mem {S : List Nat} {c : Nat} : ∀ {ps : List (List Nat)}, c ∈ TL.joinL S ps → c ∈ S ∨ ∃ p ∈ ps, c ∈ p
  | [], h => by cases h
  | [p], h => .inr ⟨p, List.mem_cons_self, h⟩
  | p :: q :: r, h => by
    rcases List.mem_append.mp (show c ∈ p ++ (S ++ TL.joinL S (q :: r)) from h) with h | h
    · exact .inr ⟨p, List.mem_cons_self, h⟩
    · rcases List.mem_append.mp h with h | h
      · exact .inl h
      · rcases joinL_mem h with h | ⟨z, h1, h2⟩
        · exact .inl h
        · exact .inr ⟨z, List.mem_cons_of_mem _ h1, h2⟩
theorem joinL_len {S : List Nat} {m : Nat} : ∀ {ps : List (List Nat)}, (∀ p ∈ ps, p.length ≤ m) → (TL.joinL S ps).length ≤ ps.length * (m + S.length)
  | [], _ => Nat.zero_le _
  | [p], h => by
    have := h p List.mem_cons_self
    show p.length ≤ _
    simp; omega
  | p :: q :: r, h => by
    have ih := joinL_len (S := S) (ps := q :: r) fun z hz => h z (List.mem_cons_of_mem _ hz)
    have := h p List.mem_cons_self
    show (p ++ (S ++ TL.joinL S (q :: r))).length ≤ _
    rw [List.length_append, List.length_append]
    rw [List.length_cons, Nat.add_mul, Nat.one_mul]
    omega
theorem join_good {y : Str} {ps : List Str} {m n : Nat} (hy : ∀ c ∈ y.cps.toList, c < 128) (h : ∀ p ∈ ps, Good m p) (hn : ps.length * (m + y.length) ≤ n) : Good n (Txt.join y ps) := by
  have e : (Txt.join y ps).cps.toList = TL.joinL y.cps.toList (ps.map fun p => p.cps.toList) := by
    rw [TL.join_eq]
    exact TL.tl_join y ps
  constructor
  · rw [← len_toList, e]
    have := joinL_len (S := y.cps.toList) (m := m) (ps := ps.map fun p => p.cps.toList) (fun p hp => by
      obtain ⟨q, hq, rfl⟩ := List.mem_map.mp hp
      rw [len_toList]; exact (h q hq).1)
    rw [List.length_map, len_toList] at this
    omega
  · intro c hc
    rw [e] at hc
    rcases joinL_mem hc with q | ⟨p, h1, h2⟩
    · exact hy c q
    · obtain ⟨q, hq, rfl⟩ := List.mem_map.mp h1
      exact (h q hq).2 c h2
theorem app_good {x y : Str} {m n k : Nat} (hx : Good m x) (hy : Good n y) (h : m + n ≤ k) : Good k (x ++ y) := by
  have e : (x ++ y).cps.toList = x.cps.toList ++ y.cps.toList := TL.tl_append x y
  constructor
  · rw [← len_toList, e, List.length_append, len_toList, len_toList]
    have := hx.1; have := hy.1; omega
  · intro c hc
    rw [e] at hc
    rcases List.mem_append.mp hc with q | q
    · exact hx.2 c q
    · exact hy.2 c q
theorem Good.mono {x : Str} {m n : Nat} (h : Good m x) (l : m ≤ n) : Good n x := ⟨Nat.le_trans h.1 l, h.2⟩
theorem Good.ok {x : Str} {m : Nat} (h : Good m x) : PyData.strOk x = true := by
  unfold PyData.strOk
  rw [← Array.all_toList, List.all_eq_true]
  intro c hc
  have := h.2 c hc
  simp; omega
end Mm

namespace K05
open PySem L2 Mm
/-! ### the program's functions -/
theorem isint {S : Sto} {v : V} {T : Ty} {E} (h : tyN S v = some T) : (m_is_integer [v] S).wp (fun r S' => r = .bl (decide (T = .int)) ∧ S' = S) E := by
  unfold m_is_integer
  rw [wp_mFn]
  refine ⟨rfl, ?_⟩
  cases T <;> simp [h, tyC, isiB]
def btw (v : V) (lo hi : Int) : Bool := match v with
  | .int n => decide (lo ≤ n) && decide (n ≤ hi)
  | _ => false
theorem isbtw {S : Sto} {v : V} {T : Ty} {lo hi : Int} {E} (h : tyN S v = some T) : (m_is_between [v, .int lo, .int hi] S).wp (fun r S' => r = .bl (btw v lo hi) ∧ S' = S) E := by
  unfold m_is_between
  rw [wp_mFn]
  refine ⟨rfl, ?_⟩
  simp
  refine (isint h).imp fun r S' ⟨h1, h2⟩ => ?_
  subst h1 h2
  simp
  by_cases hT : T = .int
  · subst hT
    obtain ⟨n, rfl⟩ := ty_int h
    simp [btw]
    by_cases hl : lo ≤ n
    · simp [hl]
    · simp [hl]; omega
  · simp [hT]
    cases v <;> first | rfl | (simp [tyN] at h; exact absurd h.symm hT)
/-- what is refused, and what is told of it -/
def Gv (w : Str × V) (S : Sto) : Str → Nat → Sto → Prop := fun c d S' => c = w.1 ∧ Ex S S' ∧ S'.g d = some (.xd [("given", w.2)])
def isStr : V → Bool
  | .str _ => true
  | _ => false
theorem chktext {S : Sto} {t : V} {T : Ty} (h : tyN S t = some T) : (m_check_text [t] S).wp (fun r S' => isStr t = true ∧ S' = S) (fun c d S' => isStr t = false ∧ Gv ("InvalidText", t) S c d S') := by
  unfold m_check_text
  rw [wp_mFn]
  refine ⟨rfl, ?_⟩
  by_cases hT : T = .str
  · subst hT
    obtain ⟨z, rfl⟩ := ty_str h
    simp [h, tyC, isiB, isStr]
  · have hb : isiB T .str = false := by cases T <;> first | rfl | exact absurd rfl hT
    have hs : isStr t = false := by cases t <;> first | rfl | (simp [tyN] at h; exact absurd h.symm hT)
    simp [h, tyC, hb, hs, Gv, Sto.g_put]
abbrev rows (z : Str) : List (List Nat) := rowsL z.cps.toList
abbrev toS (l : List Nat) : Str := ⟨l.toArray⟩
theorem split_ok {S : Sto} {z : Str} (h : z.length + 2 ≤ sz) : wSplit (.str z) [.str "\n"] S = .ok (.ref S.n) (S.put (.lst ((rows z).map fun l => V.str (toS l)))) := by
  have e : (Txt.split z "\n").map V.str = (rows z).map fun l => V.str (toS l) := by
    rw [split_rows, List.map_map]
    rfl
  simp only [wSplit]
  rw [if_pos ⟨by decide, h⟩, e]
theorem toS_len (l : List Nat) : (toS l).length = l.length := by simp [Str.length]
theorem rows_len {z : Str} (h : z.length + 2 ≤ sz) : (rows z).length ≤ sz ∧ ∀ (i : Nat) (r : List Nat), (rows z)[i]? = some r → r.length + 1 ≤ sz := by
  have e : rsum (rows z) = z.cps.toList.length + 1 := rsum_rows z.cps.toList
  have l : z.cps.toList.length = z.length := by simp [Str.length]
  have k : ∀ L : List (List Nat), L.length ≤ rsum L := fun L => by
    induction L with
    | nil => exact Nat.le_refl _
    | cons a t ih => simp only [rsum, List.map_cons, List.sum_cons, List.length_cons] at *; omega
  have k2 := k (rows z)
  refine ⟨by omega, fun i r hr => ?_⟩
  have := rsum_take_succ hr
  have q := rsum_take_le (L := rows z) (a := i + 1) (b := (rows z).length) (List.getElem?_eq_some_iff.mp hr).1
  rw [List.take_length] at q
  omega
/-- check_position -/
def chk (t l c : V) : Option (Str × V) := match t with
  | .str z => if btw l 1 (rows z).length = true then (match l with
      | .int n => if btw c 1 ((((rows z)[(n - 1).toNat]?).getD []).length + 1) = true then none else some ("InvalidColumn", c)
      | _ => none) else some ("InvalidLine", l)
  | _ => some ("InvalidText", t)
theorem btw_int {v : V} {lo hi : Int} (h : btw v lo hi = true) : ∃ n, v = .int n ∧ lo ≤ n ∧ n ≤ hi := by
  cases v with
  | int n => simp [btw] at h; exact ⟨n, rfl, h⟩
  | _ => cases h
def ChkE (t l c : V) (S : Sto) : Str → Nat → Sto → Prop := fun cn d S' => ∃ w, chk t l c = some w ∧ Gv w S cn d S'
def Small (t : V) : Prop := ∀ z, t = .str z → z.length + 2 ≤ sz
theorem chkpos {S : Sto} {t l c : V} {T L C : Ty} (ht : tyN S t = some T) (hl : tyN S l = some L) (hc : tyN S c = some C) (hs : Small t) :
    (m_check_position [t, l, c] S).wp (fun r S' => chk t l c = none ∧ Ex S S') (ChkE t l c S) := by
  unfold m_check_position
  rw [wp_mFn]
  refine ⟨rfl, ?_⟩
  simp
  refine (chktext ht).mono (fun r S' ⟨h1, h2⟩ => ?_) fun cn d S' ⟨h1, h2⟩ => ⟨("InvalidText", t), (by cases t <;> first | rfl | cases h1), h2⟩
  obtain rfl := h2.symm
  obtain ⟨z, rfl⟩ : ∃ z, t = .str z := by
    cases t <;> first | exact ⟨_, rfl⟩ | cases h1
  have hz := hs z rfl
  simp [tyOk, split_ok hz, vLen, Sto.sq, Sto.ls, Sto.g_put]
  have ex1 : Ex S (S.put (.lst ((rows z).map fun l => V.str (toS l)))) := Ex.put
  refine (isbtw (ex1.ty hl)).imp fun r S' ⟨h3, h4⟩ => ?_
  subst h3 h4
  by_cases hb : btw l 1 (rows z).length = true
  · obtain ⟨n, rfl, n1, n2⟩ := btw_int hb
    obtain ⟨r, hr⟩ : ∃ r, (rows z)[(n - 1).toNat]? = some r := ⟨_, List.getElem?_eq_getElem (by omega)⟩
    have hix : vIx (.ref S.n) (.int (n - 1)) (S.put (.lst ((rows z).map fun l => V.str (toS l)))) = .ok (.str (toS r)) (S.put (.lst ((rows z).map fun l => V.str (toS l)))) := by
      refine vIx_sq (xs := (rows z).map fun l => V.str (toS l)) (by simp [Sto.sq, Sto.ls, Sto.g_put]) ?_
      rw [show (n - 1 : Int) = ((n - 1).toNat : Int) by omega]
      exact Mm.atI_nat (by rw [List.getElem?_map, hr]; rfl)
    have rl := (rows_len hz).2 _ _ hr
    have ll : r.length ≤ sz := by omega
    simp [hb, hix, ll, toS_len]
    refine (isbtw (ex1.ty hc)).imp fun r' S' ⟨h3, h4⟩ => ?_
    subst h3 h4
    have hk : ((rows z)[n.toNat - 1]?.getD []) = r := by rw [show n.toNat - 1 = (n - 1).toNat by omega, hr]; rfl
    by_cases hb2 : btw c 1 (r.length + 1) = true
    · simp [hb2, chk, hb, hk, ex1]
    · simp [hb2, ChkE, chk, hb, hk, Gv, Sto.g_put]
  · simp [hb, ChkE, chk, Gv, Sto.g_put]
theorem chk_none {t l c : V} (h : chk t l c = none) : ∃ (z : Str) (k m : Nat) (r : List Nat), t = .str z ∧ l = .int (k + 1) ∧ c = .int (m + 1) ∧ (rows z)[k]? = some r ∧ m ≤ r.length := by
  unfold chk at h
  split at h
  · rename_i z
    split at h
    · rename_i hb
      obtain ⟨n, rfl, n1, n2⟩ := btw_int hb
      simp only at h
      split at h
      · rename_i hb2
        obtain ⟨m, rfl, m1, m2⟩ := btw_int hb2
        obtain ⟨r, hr⟩ : ∃ r, (rows z)[(n - 1).toNat]? = some r := ⟨_, List.getElem?_eq_getElem (by omega)⟩
        rw [hr] at m2
        refine ⟨z, (n - 1).toNat, (m - 1).toNat, r, rfl, ?_, ?_, hr, ?_⟩
        · congr 1; omega
        · congr 1; omega
        · simp at m2; omega
      · cases h
    · cases h
  · cases h
def IdxR (t l c : V) (S : Sto) : V → Sto → Prop := fun r S' => (∃ (z : Str) (k m : Nat) (q : List Nat), t = .str z ∧ l = .int (k + 1) ∧ c = .int (m + 1) ∧ (rows z)[k]? = some q ∧ m ≤ q.length ∧ r = .int ((rsum ((rows z).take k) : Nat) + (m : Nat))) ∧ Ex S S'
theorem sum_rows : ∀ L : List (List Nat), (L.map fun r => (r.length : Int) + 1).sum = (rsum L : Nat)
  | [] => rfl
  | a :: t => by
    have := sum_rows t
    simp only [rsum, List.map_cons, List.sum_cons] at *
    rw [this]
    omega
theorem indexof {S : Sto} {t l c : V} {T L C : Ty} (ht : tyN S t = some T) (hl : tyN S l = some L) (hc : tyN S c = some C) (hs : Small t) :
    (m_index_of [t, l, c] S).wp (IdxR t l c S) (ChkE t l c S) := by
  unfold m_index_of
  rw [wp_mFn]
  refine ⟨rfl, ?_⟩
  simp
  refine (chkpos ht hl hc hs).imp fun r S' ⟨h1, h2⟩ => ?_
  obtain ⟨z, k, m, r, rfl, rfl, rfl, hr, hm⟩ := chk_none h1
  have hz := hs z rfl
  have rl := rows_len hz
  have hk := (List.getElem?_eq_some_iff.mp hr).1
  generalize hR : ((rows z).map fun l => V.str (toS l)) = R
  have spl : wSplit (.str z) [.str "\n"] S' = .ok (.ref S'.n) (S'.put (.lst R)) := by rw [← hR]; exact split_ok hz
  have hsl : vSl (.ref S'.n) none (some (k : Int)) (S'.put (.lst R)) = .ok (.ref (S'.n + 1)) ((S'.put (.lst R)).put (.lst (R.take k))) := by
    have e : (S'.put (.lst R)).ls S'.n = some R := by simp [Sto.ls, Sto.g_put]
    simp only [vSl, e, Sto.n_put, cut_to (show (0 : Int) ≤ (k : Int) by omega), Int.toNat_natCast]
  simp [tyOk, spl, hsl, Sto.ls, Sto.g_put]
  have g2 : ((S'.put (.lst R)).put (.lst (R.take k))).g (S'.n + 1) = some (.lst (R.take k)) := by simp [Sto.g_put]
  have ex2 : Ex S' ((S'.put (.lst R)).put (.lst (R.take k))) := Ex.put' (Ex.put' Ex.refl)
  have hn : S'.n + 1 + 1 = ((S'.put (.lst R)).put (.lst (R.take k))).n := by simp
  have hR2 : R.length = (rows z).length := by rw [← hR]; simp
  generalize (S'.put (.lst R)).put (.lst (R.take k)) = S2 at *
  refine lc_map (fun j => V.int ((((rows z)[j]?).getD []).length + 1)) hn (by simp; omega) (fun S3 e3 => ?_) (fun j y S3 hy e3 => ?_) fun S3 e3 g3 => ?_
  · have g3 := e3.g g2
    simp only [g3, decide_eq_true_eq]
  · rw [← List.map_take, List.getElem?_map] at hy
    obtain ⟨v, hv, rfl⟩ := Option.map_eq_some_iff.mp hy
    rw [← hR, ← List.map_take, List.getElem?_map] at hv
    obtain ⟨q, hq, rfl⟩ := Option.map_eq_some_iff.mp hv
    have hq' : (rows z)[j]? = some q := by
      rw [List.getElem?_take] at hq
      split at hq
      · exact hq
      · cases hq
    have := rl.2 _ _ hq'
    have ln : q.length ≤ sz := by omega
    refine ⟨_, rfl, _, rfl, ?_⟩
    simp [wipe, vLen, ln, toS_len, hq']
  · rw [← List.map_take] at g3
    have e : (List.range ((R.take k).map Yd.one).length).map (fun j => V.int ((((rows z)[j]?).getD []).length + 1)) = (((rows z).take k).map fun r => (r.length : Int) + 1).map V.int := by
      apply List.ext_getElem?
      intro j
      simp only [List.getElem?_map, List.length_map, List.length_take, hR2, List.getElem?_take]
      by_cases hj : j < k
      · rw [List.getElem?_range (by omega), if_pos hj]
        rw [List.getElem?_eq_getElem (show j < (rows z).length by omega)]
        simp [List.getElem?_eq_getElem (show j < (rows z).length by omega)]
      · rw [List.getElem?_eq_none (by simp; omega), if_neg hj]
        rfl
    rw [e] at g3
    have e4 : vSum [.ref (S'.n + 1 + 1)] S3 = .ok (.int (rsum ((rows z).take k) : Nat)) S3 := by
      have l3 : S3.ls (S'.n + 1 + 1) = some ((((rows z).take k).map fun r => (r.length : Int) + 1).map V.int) := by unfold Sto.ls; rw [g3]
      simp only [vSum, l3, Option.bind_some, intsOf_map, sum_rows]
    rw [e4]
    simp
    exact ⟨⟨z, k, m, r, rfl, rfl, rfl, hr, hm, by congr 1; omega⟩, (h2.trans ex2).trans e3⟩
def shown (z : Str) (k m : Nat) : Str := toS (((rows z)[k]?).getD []) ++ "\n" ++ ⟨(List.replicate m (" " : Str).cps.toList).flatten.toArray⟩ ++ "^"
theorem str_app (x y : Str) : (x ++ y).length = x.length + y.length := by
  obtain ⟨x⟩ := x
  obtain ⟨y⟩ := y
  show (x ++ y).size = _
  simp [Str.length]
theorem spaces_len (m : Nat) : (⟨(List.replicate m (" " : Str).cps.toList).flatten.toArray⟩ : Str).length = m := by
  have : (" " : Str).cps.toList = [32] := by decide +kernel
  rw [this]
  simp [Str.length]
/-- what is shown is no longer than a line allows -/
theorem shown_ok {z : Str} {k m : Nat} {r : List Nat} (hz : z.length ≤ 500000) (hr : (rows z)[k]? = some r) (hm : m ≤ r.length) {S : Sto} :
    vAdd (.str (toS r)) (.str "\n") S = .ok (.str (toS r ++ "\n")) S ∧ vMul (.str " ") (.int m) S = .ok (.str ⟨(List.replicate m (" " : Str).cps.toList).flatten.toArray⟩) S ∧
    vAdd (.str (toS r ++ "\n")) (.str ⟨(List.replicate m (" " : Str).cps.toList).flatten.toArray⟩) S = .ok (.str (toS r ++ "\n" ++ ⟨(List.replicate m (" " : Str).cps.toList).flatten.toArray⟩)) S ∧
    vAdd (.str (toS r ++ "\n" ++ ⟨(List.replicate m (" " : Str).cps.toList).flatten.toArray⟩)) (.str "^") S = .ok (.str (shown z k m)) S := by
  have hz2 : z.length + 2 ≤ 500002 := by omega
  have rl : r.length ≤ 500001 := by
    have e : rsum (rows z) = z.cps.toList.length + 1 := rsum_rows z.cps.toList
    have l : z.cps.toList.length = z.length := by simp [Str.length]
    have := rsum_take_succ hr
    have q := rsum_take_le (L := rows z) (a := k + 1) (b := (rows z).length) (List.getElem?_eq_some_iff.mp hr).1
    rw [List.take_length] at q
    omega
  have n1 : ("\n" : Str).length = 1 := by decide +kernel
  have n2 : ("^" : Str).length = 1 := by decide +kernel
  have n3 : (" " : Str).length = 1 := by decide +kernel
  have sp := spaces_len m
  have szz : sz = 16777216 := rfl
  refine ⟨?_, ?_, ?_, ?_⟩
  · simp only [vAdd]
    rw [if_pos (by rw [toS_len, n1]; omega)]
  · simp only [vMul]
    rw [if_pos (by rw [n3, Int.toNat_natCast]; omega), Int.toNat_natCast]
  · simp only [vAdd]
    rw [if_pos (by rw [str_app, toS_len, n1, sp]; omega)]
  · simp only [vAdd]
    rw [if_pos (by rw [str_app, str_app, toS_len, n1, sp, n2]; omega)]
    unfold shown
    rw [hr]
    rfl
end K05

namespace K05
open PySem L2 Mm
theorem markbelow {S : Sto} {z : Str} {k m : Nat} {r : List Nat} {E} (hz : z.length ≤ 500000) (hr : (rows z)[k]? = some r) (hm : m ≤ r.length) :
    (m_mark_below [.str z, .int (k + 1), .int (m + 1)] S).wp (fun v S' => v = .str (shown z k m) ∧ Ex S S') E := by
  unfold m_mark_below
  rw [wp_mFn]
  refine ⟨rfl, ?_⟩
  have hs := split_ok (z := z) (S := S) (by have : sz = 16777216 := rfl; omega)
  have hix : vIx (.ref S.n) (.int k) (S.put (.lst ((rows z).map fun l => V.str (toS l)))) = .ok (.str (toS r)) (S.put (.lst ((rows z).map fun l => V.str (toS l)))) := by
    refine vIx_sq (xs := (rows z).map fun l => V.str (toS l)) (by simp [Sto.sq, Sto.ls, Sto.g_put]) ?_
    exact Mm.atI_nat (by rw [List.getElem?_map, hr]; rfl)
  have sh := fun S => shown_ok (S := S) hz hr hm
  simp [tyOk, hs, hix, (sh _).1, (sh _).2.1, (sh _).2.2.1, (sh _).2.2.2]
def MarkR (t l c : V) (S : Sto) : V → Sto → Prop := fun r S' => (∃ (z : Str) (k m : Nat) (q : List Nat), t = .str z ∧ l = .int (k + 1) ∧ c = .int (m + 1) ∧ (rows z)[k]? = some q ∧ m ≤ q.length ∧ r = .str (shown z k m)) ∧ Ex S S'
def Small' (t : V) : Prop := ∀ z, t = .str z → z.length ≤ 500000
theorem Small'.to {t : V} (h : Small' t) : Small t := fun z e => by have := h z e; have : sz = 16777216 := rfl; omega
theorem marked_ok {S : Sto} {t l c : V} {T L C : Ty} (ht : tyN S t = some T) (hl : tyN S l = some L) (hc : tyN S c = some C) (hs : Small' t) :
    (m_marked [t, l, c] S).wp (MarkR t l c S) (ChkE t l c S) := by
  unfold m_marked
  rw [wp_mFn]
  refine ⟨rfl, ?_⟩
  simp
  refine (chkpos ht hl hc hs.to).imp fun r S' ⟨h1, h2⟩ => ?_
  obtain ⟨z, k, m, r, rfl, rfl, rfl, hr, hm⟩ := chk_none h1
  exact (markbelow (hs z rfl) hr hm).imp fun v S2 ⟨e1, e2⟩ => ⟨⟨z, k, m, r, rfl, rfl, rfl, hr, hm, e1⟩, h2.trans e2⟩
/-! position_of -/
def lcz (z : Str) (k : Nat) : Nat × Nat := lcAt (z.cps.toList.take k) (1, 1)
theorem atI_last {α : Type} {xs : List α} {x : α} (h : xs.getLast? = some x) : atI xs (-1) = some x := by
  have ne : xs.length ≠ 0 := by
    intro e
    have : xs = [] := List.eq_nil_of_length_eq_zero e
    subst this
    cases h
  unfold atI ixN
  rw [if_neg (by decide), if_pos (by omega)]
  rw [List.getLast?_eq_getElem?] at h
  simp only [Option.bind_some]
  rw [show ((-1 : Int) + xs.length).toNat = xs.length - 1 by omega]
  exact h
theorem placeof {S : Sto} {z : Str} {k : Nat} {E} (hz : z.length ≤ 500000) (hk : k ≤ z.length) : (m_place_of [.str z, .int k] S).wp (fun v S' => (∃ q, v = .ref q ∧ S'.g q = some (.tup [.int (lcz z k).1, .int (lcz z k).2])) ∧ Ex S S') E := by
  unfold m_place_of
  rw [wp_mFn]
  refine ⟨rfl, ?_⟩
  have szz : sz = 16777216 := rfl
  have hl : z.cps.toList.length = z.length := by simp [Str.length]
  have hsl : vSl (.str z) none (some (k : Int)) S = .ok (.str (toS (z.cps.toList.take k))) S := by
    simp only [vSl]
    rw [if_pos (by omega)]
    unfold cutStr
    rw [cut_to (by omega), Int.toNat_natCast]
  have hlen : (toS (z.cps.toList.take k)).length + 2 ≤ sz := by rw [toS_len, List.length_take]; omega
  have hs := split_ok (S := S) hlen
  obtain ⟨R, q, hr, gl, h1, h2⟩ : ∃ (R : List (List Nat)) (q : List Nat), rows (toS (z.cps.toList.take k)) = R ∧ R.getLast? = some q ∧ (lcAt (z.cps.toList.take k) (1, 1)).1 = R.length ∧ (lcAt (z.cps.toList.take k) (1, 1)).2 = q.length + 1 :=
    ⟨_, _, rfl, List.getLast?_eq_some_getLast (rowsL_ne _), (lc_rows _).1, (lc_rows _).2⟩
  have rl := rows_len hlen
  rw [hr] at hs rl
  have lr : q.length ≤ sz := by
    have := rl.2 (R.length - 1) q (by rw [← List.getLast?_eq_getElem?]; exact gl)
    omega
  have hix : vIx (.ref S.n) (.int (-1)) (S.put (.lst (R.map fun l => V.str (toS l)))) = .ok (.str (toS q)) (S.put (.lst (R.map fun l => V.str (toS l)))) := by
    refine vIx_sq (xs := R.map fun l => V.str (toS l)) (by simp [Sto.sq, Sto.ls, Sto.g_put]) ?_
    exact atI_last (by rw [List.getLast?_map, gl]; rfl)
  have l1 : vLen [.ref S.n] (S.put (.lst (R.map fun l => V.str (toS l)))) = .ok (.int R.length) (S.put (.lst (R.map fun l => V.str (toS l)))) := by
    simp [vLen, Sto.sq, Sto.ls, Sto.g_put]
  have l2 : ∀ S, vLen [.str (toS q)] S = .ok (.int q.length) S := fun S => by
    simp only [vLen]
    rw [if_pos (by rw [toS_len]; omega), toS_len]
  have s2 : 2 ≤ sz := by omega
  simp [hsl, tyOk, hs, hix, l1, l2, s2, Sto.g_put, lcz, h1, h2]

def chkI (t i : V) : Option (Str × V) := match t with
  | .str z => if btw i 0 z.length = true then none else some ("InvalidIndex", i)
  | _ => some ("InvalidText", t)
def ChkI (t i : V) (S : Sto) : Str → Nat → Sto → Prop := fun cn d S' => ∃ w, chkI t i = some w ∧ Gv w S cn d S'
def PosR (t i : V) (S : Sto) : V → Sto → Prop := fun r S' => (∃ (z : Str) (k q : Nat), t = .str z ∧ i = .int k ∧ k ≤ z.length ∧ r = .ref q ∧ S'.g q = some (.tup [.int (lcz z k).1, .int (lcz z k).2])) ∧ Ex S S'
theorem positionof {S : Sto} {t i : V} {T L : Ty} (ht : tyN S t = some T) (hl : tyN S i = some L) (hs : Small' t) :
    (m_position_of [t, i] S).wp (PosR t i S) (ChkI t i S) := by
  unfold m_position_of
  rw [wp_mFn]
  refine ⟨rfl, ?_⟩
  simp
  refine (chktext ht).mono (fun r S' ⟨h1, h2⟩ => ?_) fun cn d S' ⟨h1, h2⟩ => ⟨("InvalidText", t), (by cases t <;> first | rfl | cases h1), h2⟩
  obtain rfl := h2.symm
  obtain ⟨z, rfl⟩ : ∃ z, t = .str z := by
    cases t <;> first | exact ⟨_, rfl⟩ | cases h1
  have hz := hs z rfl
  have szz : sz = 16777216 := rfl
  have hl2 : vLen [.str z] S = .ok (.int z.length) S := by simp only [vLen]; rw [if_pos (by omega)]
  simp [hl2]
  refine (isbtw hl).imp fun r S' ⟨h3, h4⟩ => ?_
  obtain rfl := h4.symm
  subst h3
  by_cases hb : btw i 0 z.length = true
  · obtain ⟨n, rfl, n1, n2⟩ := btw_int hb
    obtain ⟨k, rfl⟩ : ∃ k : Nat, n = k := ⟨n.toNat, by omega⟩
    simp [hb]
    refine (placeof hz (by omega)).imp fun v S' ⟨⟨q, e1, e2⟩, e3⟩ => ⟨⟨z, k, q, rfl, rfl, by omega, e1, e2⟩, e3⟩
  · simp [hb, ChkI, chkI, Gv, Sto.g_put]
end K05

namespace K05
open PySem L2 Mm
/-! ### what the law asks -/
abbrev HS : MH := [("InvalidText", some 3, (mRet (mLst (mCons (mC (.str "text")) (mCons (mXf XF 3 "given") mNil))))),
    ("InvalidIndex", some 3, (mRet (mLst (mCons (mC (.str "index")) (mCons (mXf XF 3 "given") mNil))))),
    ("InvalidLine", some 3, (mRet (mLst (mCons (mC (.str "line")) (mCons (mXf XF 3 "given") mNil))))),
    ("InvalidColumn", some 3, (mRet (mLst (mCons (mC (.str "column")) (mCons (mXf XF 3 "given") mNil))))),
    ("AskError", none, (mRet (mLst (mCons (mC (.str "other")) (mCons (mC .non) mNil)))))]
def wd (c : Str) : Str := if c = "InvalidText" then "text" else if c = "InvalidIndex" then "index" else if c = "InvalidLine" then "line" else "column"
def AskR (o : Option (Str × V)) (Told : V → Sto → Prop) (S : Sto) : V → Sto → Prop := fun v S' => Ex S S' ∧ ∃ p, v = .ref p ∧ S.n ≤ p ∧ match o with
  | some w => S'.g p = some (.lst [.str (wd w.1), w.2])
  | none => ∃ x, S'.g p = some (.lst [.str "told", x]) ∧ Told x S'
def Names4 (c : Str) : Prop := c = "InvalidText" ∨ c = "InvalidIndex" ∨ c = "InvalidLine" ∨ c = "InvalidColumn"
theorem e1 : subOf EM "InvalidText" "InvalidText" = some true := by decide +kernel
theorem e2 : subOf EM "InvalidIndex" "InvalidText" = some false := by decide +kernel
theorem e3 : subOf EM "InvalidIndex" "InvalidIndex" = some true := by decide +kernel
theorem e4 : subOf EM "InvalidLine" "InvalidText" = some false := by decide +kernel
theorem e5 : subOf EM "InvalidLine" "InvalidIndex" = some false := by decide +kernel
theorem e6 : subOf EM "InvalidLine" "InvalidLine" = some true := by decide +kernel
theorem e7 : subOf EM "InvalidColumn" "InvalidText" = some false := by decide +kernel
theorem e8 : subOf EM "InvalidColumn" "InvalidIndex" = some false := by decide +kernel
theorem e9 : subOf EM "InvalidColumn" "InvalidLine" = some false := by decide +kernel
theorem e10 : subOf EM "InvalidColumn" "InvalidColumn" = some true := by decide +kernel
theorem x1 : ("InvalidText" : Str) ∈ XF := by decide +kernel
theorem x2 : ("InvalidIndex" : Str) ∈ XF := by decide +kernel
theorem x3 : ("InvalidLine" : Str) ∈ XF := by decide +kernel
theorem x4 : ("InvalidColumn" : Str) ∈ XF := by decide +kernel
theorem w1 : wd "InvalidText" = "text" := by decide +kernel
theorem w2 : wd "InvalidIndex" = "index" := by decide +kernel
theorem w3 : wd "InvalidLine" = "line" := by decide +kernel
theorem w4 : wd "InvalidColumn" = "column" := by decide +kernel
theorem calm_g {S : Sto} {a : Nat} {o : MO} (h : S.g a = some o) (x : o.isX = false) : S.calm.g a = some o := by
  unfold Sto.calm Sto.g at *
  rw [List.getElem?_map, h]
  cases o <;> first | rfl | cases x
theorem caught {w : Str × V} {S S' : Sto} {cn : Str} {d : Nat} {a b c : Option V} {T : V → Sto → Prop} {P : Po} (hn : Names4 w.1) (h : Gv w S cn d S') (hP : ∀ v S2, AskR (some w) T S v S2 → P.rt v S2) : (mHs (subOf EM) cn d [a, b, c, none] S' HS).wp P := by
  obtain ⟨rfl, ex, hg⟩ := h
  have ld := Sto.g_lt hg
  have n1 : d ≠ S'.n := by omega
  have s2 : 2 ≤ sz := by decide
  obtain ⟨cn, x⟩ := w
  have fin : ∀ word : Str, word = wd cn → P.rt (.ref (S'.n + 1)) ((S'.put (.exn cn d)).put (.lst [.str word, x])).calm := fun word hw => by
    refine hP _ _ ⟨(ex.trans (Ex.put' (Ex.put' Ex.refl))).calm, S'.n + 1, rfl, by have := ex.1; omega, ?_⟩
    show _ = some (MO.lst [.str (wd cn), x])
    rw [← hw]
    exact calm_g (by simp [Sto.g_put]) rfl
  have lk : ([(("given" : Str), x)] : List (Str × V)).lookup ("given" : Str) = some x := by simp [List.lookup]
  have hg' : S'.g d = some (.xd [("given", x)]) := hg
  rcases hn with h | h | h | h
  · obtain rfl : cn = "InvalidText" := h
    simp [e1, onS, Sto.g_put, x1, n1, hg', lk, s2]
    exact ⟨_, _, ⟨rfl, rfl⟩, x1, _, by rw [if_neg n1]; exact hg', _, lk, fin _ w1.symm⟩
  · obtain rfl : cn = "InvalidIndex" := h
    simp [e2, e3, onS, Sto.g_put, x2, n1, hg', lk, s2]
    exact ⟨_, _, ⟨rfl, rfl⟩, x2, _, by rw [if_neg n1]; exact hg', _, lk, fin _ w2.symm⟩
  · obtain rfl : cn = "InvalidLine" := h
    simp [e4, e5, e6, onS, Sto.g_put, x3, n1, hg', lk, s2]
    exact ⟨_, _, ⟨rfl, rfl⟩, x3, _, by rw [if_neg n1]; exact hg', _, lk, fin _ w3.symm⟩
  · obtain rfl : cn = "InvalidColumn" := h
    simp [e7, e8, e9, e10, onS, Sto.g_put, x4, n1, hg', lk, s2]
    exact ⟨_, _, ⟨rfl, rfl⟩, x4, _, by rw [if_neg n1]; exact hg', _, lk, fin _ w4.symm⟩
theorem chk_names {t l c : V} {w : Str × V} (h : chk t l c = some w) : Names4 w.1 := by
  unfold chk at h
  split at h
  · split at h
    · split at h
      · split at h
        · cases h
        · cases h; exact .inr (.inr (.inr rfl))
      · cases h
    · cases h; exact .inr (.inr (.inl rfl))
  · cases h; exact .inl rfl
theorem chkI_names {t i : V} {w : Str × V} (h : chkI t i = some w) : Names4 w.1 := by
  unfold chkI at h
  split at h
  · split at h
    · cases h
    · cases h; exact .inr (.inl rfl)
  · cases h; exact .inl rfl
def PosT (t i : V) : V → Sto → Prop := fun r S' => ∃ (z : Str) (k q : Nat), t = .str z ∧ i = .int k ∧ k ≤ z.length ∧ r = .ref q ∧ S'.g q = some (.tup [.int (lcz z k).1, .int (lcz z k).2])
def IdxT (t l c : V) : V → Sto → Prop := fun r _ => ∃ (z : Str) (k m : Nat) (q : List Nat), t = .str z ∧ l = .int (k + 1) ∧ c = .int (m + 1) ∧ (rows z)[k]? = some q ∧ m ≤ q.length ∧ r = .int ((rsum ((rows z).take k) : Nat) + (m : Nat))
def MarkT (t l c : V) : V → Sto → Prop := fun r _ => ∃ (z : Str) (k m : Nat) (q : List Nat), t = .str z ∧ l = .int (k + 1) ∧ c = .int (m + 1) ∧ (rows z)[k]? = some q ∧ m ≤ q.length ∧ r = .str (shown z k m)
theorem asked0 {S : Sto} {A : Nat} {t i : V} {rest : List V} {T L : Ty} {nm : Bool} {E} (hA : S.ls A = some (t :: i :: rest)) (ht : tyN S t = some T) (hi : tyN S i = some L) (hs : Small' t) :
    (m__law_asked [.int 0, .ref A, .bl nm] S).wp (AskR (chkI t i) (PosT t i) S) E := by
  unfold m__law_asked
  rw [wp_mFn]
  refine ⟨rfl, ?_⟩
  have sq := (Sto.ls_ty hA).2.2.1
  have i0 : vIx (.ref A) (.int 0) S = .ok t S := vIx_sq sq (Mm.atI_nat (i := 0) rfl)
  have i1 : vIx (.ref A) (.int 1) S = .ok i S := vIx_sq sq (Mm.atI_nat (i := 1) rfl)
  have s2 : 2 ≤ sz := by decide
  have ok : ∀ v S', PosR t i S v S' → AskR (chkI t i) (PosT t i) S (.ref S'.n) (S'.put (.lst [.str "told", v])) := fun v S' ⟨⟨z, k, q, h1, h2, h3, h4, h5⟩, ex⟩ => by
    have hc : chkI t i = none := by
      subst h1 h2
      unfold chkI
      simp only
      rw [if_pos (by simp [btw]; omega)]
    refine ⟨ex.trans (Ex.put' Ex.refl), _, rfl, ex.1, ?_⟩
    rw [hc]
    exact ⟨v, Sto.g_put_new, z, k, q, h1, h2, h3, h4, Sto.g_put_old h5⟩
  have no : ∀ (a b c : Option V) cn d S' (P : Po), ChkI t i S cn d S' → (∀ v S2, AskR (chkI t i) (PosT t i) S v S2 → P.rt v S2) → (mHs (subOf EM) cn d [a, b, c, none] S' HS).wp P := fun a b c cn d S' P ⟨w, h1, h2⟩ hP => caught (chkI_names h1) h2 (T := PosT t i) (by rw [← h1]; exact hP)
  cases nm with
  | true =>
    simp [-wp_mHs_cons, i0, i1, perm_10]
    exact (positionof ht hi hs).mono (fun v S' h => by simp [s2]; exact ok v S' h) fun cn d S' h => no _ _ _ _ _ _ _ h fun _ _ h => h
  | false =>
    simp [-wp_mHs_cons, i0, i1]
    exact (positionof ht hi hs).mono (fun v S' h => by simp [s2]; exact ok v S' h) fun cn d S' h => no _ _ _ _ _ _ _ h fun _ _ h => h
theorem asked1 {S : Sto} {A : Nat} {t l c : V} {T L C : Ty} {nm : Bool} {E} (hA : S.ls A = some [t, l, c]) (ht : tyN S t = some T) (hl : tyN S l = some L) (hc : tyN S c = some C) (hs : Small' t) :
    (m__law_asked [.int 1, .ref A, .bl nm] S).wp (AskR (chk t l c) (IdxT t l c) S) E := by
  unfold m__law_asked
  rw [wp_mFn]
  refine ⟨rfl, ?_⟩
  have sq := (Sto.ls_ty hA).2.2.1
  have i0 : vIx (.ref A) (.int 0) S = .ok t S := vIx_sq sq rfl
  have i1 : vIx (.ref A) (.int 1) S = .ok l S := vIx_sq sq rfl
  have i2 : vIx (.ref A) (.int 2) S = .ok c S := vIx_sq sq rfl
  have s2 : 2 ≤ sz := by decide
  have ok : ∀ v S', IdxR t l c S v S' → AskR (chk t l c) (IdxT t l c) S (.ref S'.n) (S'.put (.lst [.str "told", v])) := fun v S' ⟨h, ex⟩ => by
    have hk : chk t l c = none := by
      obtain ⟨z, k, m, q, rfl, rfl, rfl, h4, h5, h6⟩ := h
      have := (List.getElem?_eq_some_iff.mp h4).1
      unfold chk
      simp only
      rw [if_pos (by simp [btw]; omega)]
      rw [show ((k : Int) + 1 - 1).toNat = k by omega, h4, if_pos (by simp [btw]; omega)]
    refine ⟨ex.trans (Ex.put' Ex.refl), _, rfl, ex.1, ?_⟩
    rw [hk]
    exact ⟨v, Sto.g_put_new, h⟩
  have no : ∀ (a b e : Option V) cn d S' (P : Po), ChkE t l c S cn d S' → (∀ v S2, AskR (chk t l c) (IdxT t l c) S v S2 → P.rt v S2) → (mHs (subOf EM) cn d [a, b, e, none] S' HS).wp P := fun a b e cn d S' P ⟨w, h1, h2⟩ hP => caught (chk_names h1) h2 (T := IdxT t l c) (by rw [← h1]; exact hP)
  cases nm with
  | true =>
    simp [-wp_mHs_cons, i0, i1, i2, perm_120]
    exact (indexof ht hl hc hs.to).mono (fun v S' h => by simp [s2]; exact ok v S' h) fun cn d S' h => no _ _ _ _ _ _ _ h fun _ _ h => h
  | false =>
    simp [-wp_mHs_cons, i0, i1, i2]
    exact (indexof ht hl hc hs.to).mono (fun v S' h => by simp [s2]; exact ok v S' h) fun cn d S' h => no _ _ _ _ _ _ _ h fun _ _ h => h
theorem asked2 {S : Sto} {A : Nat} {t l c : V} {T L C : Ty} {nm : Bool} {E} (hA : S.ls A = some [t, l, c]) (ht : tyN S t = some T) (hl : tyN S l = some L) (hc : tyN S c = some C) (hs : Small' t) :
    (m__law_asked [.int 2, .ref A, .bl nm] S).wp (AskR (chk t l c) (MarkT t l c) S) E := by
  unfold m__law_asked
  rw [wp_mFn]
  refine ⟨rfl, ?_⟩
  have sq := (Sto.ls_ty hA).2.2.1
  have i0 : vIx (.ref A) (.int 0) S = .ok t S := vIx_sq sq rfl
  have i1 : vIx (.ref A) (.int 1) S = .ok l S := vIx_sq sq rfl
  have i2 : vIx (.ref A) (.int 2) S = .ok c S := vIx_sq sq rfl
  have s2 : 2 ≤ sz := by decide
  have ok : ∀ v S', MarkR t l c S v S' → AskR (chk t l c) (MarkT t l c) S (.ref S'.n) (S'.put (.lst [.str "told", v])) := fun v S' ⟨h, ex⟩ => by
    have hk : chk t l c = none := by
      obtain ⟨z, k, m, q, rfl, rfl, rfl, h4, h5, h6⟩ := h
      have := (List.getElem?_eq_some_iff.mp h4).1
      unfold chk
      simp only
      rw [if_pos (by simp [btw]; omega)]
      rw [show ((k : Int) + 1 - 1).toNat = k by omega, h4, if_pos (by simp [btw]; omega)]
    refine ⟨ex.trans (Ex.put' Ex.refl), _, rfl, ex.1, ?_⟩
    rw [hk]
    exact ⟨v, Sto.g_put_new, h⟩
  have no : ∀ (a b e : Option V) cn d S' (P : Po), ChkE t l c S cn d S' → (∀ v S2, AskR (chk t l c) (MarkT t l c) S v S2 → P.rt v S2) → (mHs (subOf EM) cn d [a, b, e, none] S' HS).wp P := fun a b e cn d S' P ⟨w, h1, h2⟩ hP => caught (chk_names h1) h2 (T := MarkT t l c) (by rw [← h1]; exact hP)
  cases nm with
  | true =>
    simp [-wp_mHs_cons, i0, i1, i2, perm_201]
    exact (marked_ok ht hl hc hs).mono (fun v S' h => by simp [s2]; exact ok v S' h) fun cn d S' h => no _ _ _ _ _ _ _ h fun _ _ h => h
  | false =>
    simp [-wp_mHs_cons, i0, i1, i2]
    exact (marked_ok ht hl hc hs).mono (fun v S' h => by simp [s2]; exact ok v S' h) fun cn d S' h => no _ _ _ _ _ _ _ h fun _ _ h => h
end K05

namespace K05
open PySem L2 Mm
theorem same_eq : ∀ n, m__law_same n = cSame n
  | 0 => rfl
  | n + 1 => by
    rw [m__law_same, cSame, same_eq n]
theorem kept_eq : m__law_kept = cKept (cSame 30) := by
  unfold m__law_kept cKept
  rw [same_eq]
theorem refused {S : Sto} {way : V} {A : Nat} {word : Str} {at_ : Int} {nm : Bool} {w : Str × V} {T : V → Sto → Prop} {xs : List V} {E} (ha : (m__law_asked [way, .ref A, .bl nm] S).wp (AskR (some w) T S) fun _ _ _ => False) (hw : wd w.1 = word)
    (hA : S.ls A = some xs) (hat : atI xs at_ = some w.2) (kv : KV S 900 w.2) :
    (m__law_refused [way, .ref A, .str word, .int at_, .bl nm] S).wp (fun r S' => r = .bl true ∧ ExB w.2 S S') E := by
  unfold m__law_refused
  rw [wp_mFn]
  refine ⟨rfl, ?_⟩
  simp
  refine ha.noE fun v S' ⟨ex, p, hv, hp, hg⟩ => ?_
  subst hv hw
  have sp : S'.sq p = some [.str (wd w.1), w.2] := by simp [Sto.sq, Sto.ls, hg]
  have i0 : vIx (.ref p) (.int 0) S' = .ok (.str (wd w.1)) S' := vIx_sq sp rfl
  have i1 : vIx (.ref p) (.int 1) S' = .ok w.2 S' := vIx_sq sp rfl
  have i2 : vIx (.ref A) (.int at_) S' = .ok w.2 S' := vIx_sq (Sto.ls_ty (ex.rds.2.1 _ _ hA)).2.2.1 hat
  simp [i0, i1, i2]
  rw [kept_eq]
  exact (kept_ok (kv.ex ex)).imp fun r S2 ⟨q1, q2⟩ => ⟨q1, ex.exB.trans q2⟩
end K05

namespace K05
open PySem L2 Mm
/-! ### the law's own positions -/
def Due (S : Sto) (p : Nat) (z : Str) : Prop := ∃ xs, S.ls p = some xs ∧ xs.length = z.length + 1 ∧ ∀ k, k ≤ z.length → ∃ q, xs[k]? = some (.ref q) ∧ S.tp q = some [.int (lcz z k).1, .int (lcz z k).2]
theorem Due.rds {S S' : Sto} {p : Nat} {z : Str} (h : Due S p z) (r : Rds S S') : Due S' p z := by
  obtain ⟨xs, h1, h2, h3⟩ := h
  exact ⟨xs, r.2.1 _ _ h1, h2, fun k hk => by obtain ⟨q, a, b⟩ := h3 k hk; exact ⟨q, a, r.2.2.1 _ _ b⟩⟩
theorem tl_len (z : Str) : z.cps.toList.length = z.length := by simp [Str.length]
theorem lcz_succ {z : Str} {k c : Nat} (h : z.cps.toList[k]? = some c) : lcz z (k + 1) = if c = 10 then ((lcz z k).1 + 1, 1) else ((lcz z k).1, (lcz z k).2 + 1) := by
  unfold lcz
  rw [List.take_succ, h]
  exact lcAt_snoc c _ _
theorem cut_one {z : Str} {k c : Nat} (h : z.cps.toList[k]? = some c) : cut z.cps.toList (some (k : Int)) (some ((k : Int) + 1)) = [c] := by
  have l := (List.getElem?_eq_some_iff.mp h).1
  have a : HT.sIx z.cps.toList.length 0 (some (k : Int)) = k := by rw [HT.sIx_nat]; omega
  have b : HT.sIx z.cps.toList.length z.cps.toList.length (some ((k : Int) + 1)) = k + 1 := by
    rw [show (k : Int) + 1 = ((k + 1 : Nat) : Int) by omega, HT.sIx_nat]; omega
  unfold cut
  rw [a, b, show k + 1 - k = 1 by omega, List.drop_eq_getElem_cons l]
  simp
  have := List.getElem?_eq_getElem l
  rw [h] at this
  simpa using (Option.some.inj this).symm
theorem nl_eq (c : Nat) : (toS [c] = "\n") ↔ c = 10 := by
  have : ("\n" : Str) = toS [10] := by decide +kernel
  rw [this]
  simp [toS]
def PosI (z : Str) (S : Sto) (j : Nat) (σ : L2.St) (S' : Sto) : Prop := ∃ kv xs, σ = [some (.str z), kv, some (.ref S.n), some (.int (lcz z j).1), some (.int (lcz z j).2)] ∧ Ex S S' ∧ S'.g S.n = some (.lst xs) ∧ xs.length = j ∧ ∀ k, k < j → ∃ q, xs[k]? = some (.ref q) ∧ S'.g q = some (.tup [.int (lcz z k).1, .int (lcz z k).2])
theorem positions {S : Sto} {z : Str} {E} (hz : z.length ≤ 500000) : (m__law_positions [.str z] S).wp (fun v S' => (∃ p, v = .ref p ∧ Due S' p z) ∧ Ex S S') E := by
  unfold m__law_positions
  rw [wp_mFn]
  refine ⟨rfl, ?_⟩
  have szz : sz = 16777216 := rfl
  have hl : ∀ S, vLen [.str z] S = .ok (.int z.length) S := fun S => by simp only [vLen]; rw [if_pos (by omega)]
  have r62 : -two62 ≤ (z.length : Int) ∧ (z.length : Int) < two62 := by unfold two62; omega
  have s2 : 2 ≤ sz := by omega
  simp [hl, setAll, r62.2]
  refine wp_forGo (i := 0) (PosI z S) ?_ ?_ ?_
  · exact ⟨none, [], rfl, Ex.put, Sto.g_put_new, rfl, fun k hk => by omega⟩
  · rintro j y σ S' hy ⟨kv, xs, rfl, ex, hg, hx, hq⟩
    obtain ⟨hj, rfl⟩ := ints_at hy
    rw [Nat.zero_add] at *
    refine ⟨rfl, _, rfl, ?_⟩
    obtain ⟨c, hc⟩ : ∃ c, z.cps.toList[j]? = some c := ⟨_, List.getElem?_eq_getElem (by rw [tl_len]; omega)⟩
    have ln : S.n < S'.n := Sto.g_lt hg
    have ap : wAppend (.ref S.n) [.ref S'.n] (S'.put (.tup [.int (lcz z j).1, .int (lcz z j).2])) = .ok .non ((S'.put (.tup [.int (lcz z j).1, .int (lcz z j).2])).set S.n (.lst (xs ++ [.ref S'.n]))) := by
      simp only [wAppend]
      rw [Sto.g_put_old hg]
      simp only
      rw [if_pos (by omega)]
    have ty : tyOk "list" S' (.ref S.n) = true := by simp [tyOk, hg]
    have sl : ∀ S, vSl (.str z) (some (j : Int)) (some ((j : Int) + 1)) S = .ok (.str (toS [c])) S := fun S => by
      simp only [vSl]
      rw [if_pos (by omega)]
      unfold cutStr
      rw [cut_one hc]
    have nx : ∀ (S2 : Sto) (a b : Int) (kv : Option V), S2.n = S'.n + 1 → S2.g S.n = some (.lst (xs ++ [.ref S'.n])) → S2.g S'.n = some (.tup [.int (lcz z j).1, .int (lcz z j).2]) → (∀ c, c < S'.n → c ≠ S.n → S2.cg c = S'.cg c) → a = (lcz z (j + 1)).1 → b = (lcz z (j + 1)).2 →
        PosI z S (j + 1) [some (.str z), kv, some (.ref S.n), some (.int a), some (.int b)] (S2.put (.tup [.int a, .int b])) := fun S2 a b kv n2 g2 g3 k2 ha hb => by
      refine ⟨kv, xs ++ [.ref S'.n], by rw [ha, hb], ⟨by rw [Sto.n_put]; have := ex.1; omega, fun c hc => ?_⟩, Sto.g_put_old g2, by simp [hx], fun k hk => ?_⟩
      · rw [Sto.cg_put (by have := ex.1; omega), k2 c (by omega) (by omega), ex.2 c hc]
      · by_cases e : k = j
        · subst e
          exact ⟨S'.n, by rw [List.getElem?_append_right (by omega), hx, Nat.sub_self]; rfl, Sto.g_put_old g3⟩
        · obtain ⟨q, q1, q2⟩ := hq k (by omega)
          refine ⟨q, by rw [List.getElem?_append_left (by omega)]; exact q1, Sto.g_put_old (Sto.g_cg (k2 q (Sto.g_lt q2) fun e => ?_) q2 rfl (by simp))⟩
          rw [e, hg] at q2
          cases q2
    have G1 : ((S'.put (.tup [.int (lcz z j).1, .int (lcz z j).2])).set S.n (.lst (xs ++ [.ref S'.n]))).g S.n = some (.lst (xs ++ [.ref S'.n])) := Sto.g_set_same (by rw [Sto.n_put]; omega)
    have G2 : ((S'.put (.tup [.int (lcz z j).1, .int (lcz z j).2])).set S.n (.lst (xs ++ [.ref S'.n]))).g S'.n = some (.tup [.int (lcz z j).1, .int (lcz z j).2]) := by rw [Sto.g_set_ne (by omega), Sto.g_put_new]
    have G3 : ∀ c, c < S'.n → c ≠ S.n → ((S'.put (.tup [.int (lcz z j).1, .int (lcz z j).2])).set S.n (.lst (xs ++ [.ref S'.n]))).cg c = S'.cg c := fun c hc hn => by rw [Sto.cg_set hn, Sto.cg_put hc]
    have G0 : ((S'.put (.tup [.int (lcz z j).1, .int (lcz z j).2])).set S.n (.lst (xs ++ [.ref S'.n]))).n = S'.n + 1 := by simp
    generalize hS2 : (S'.put (.tup [.int (lcz z j).1, .int (lcz z j).2])).set S.n (.lst (xs ++ [.ref S'.n])) = S2 at *
    have e := lcz_succ hc
    by_cases h10 : c = 10
    · have nl : toS [c] = "\n" := (nl_eq c).mpr h10
      rw [if_pos h10] at e
      simp [ty, s2, ap, sl, Yd.pull, nl, Tgt.mm, Sto.tp, Sto.g_put, setAll]
      exact nx S2 _ _ _ G0 G1 G2 G3 (by rw [e]; simp) (by rw [e]; rfl)
    · have nl : ¬ toS [c] = "\n" := fun z => h10 ((nl_eq c).mp z)
      rw [if_neg h10] at e
      simp [ty, s2, ap, sl, Yd.pull, nl, Tgt.mm, Sto.tp, Sto.g_put, setAll]
      exact nx S2 _ _ _ G0 G1 G2 G3 (by rw [e]) (by rw [e]; simp)
  · rintro σ S' ⟨kv, xs, rfl, ex, hg, hx, hq⟩
    refine ⟨rfl, ?_⟩
    rw [Nat.zero_add] at *
    have hx' : xs.length = z.length := by rw [hx]; simp [Mm.intsFrom]
    have hq' : ∀ k, k < z.length → ∃ q, xs[k]? = some (.ref q) ∧ S'.g q = some (.tup [.int (lcz z k).1, .int (lcz z k).2]) := fun k hk => hq k (by simp [Mm.intsFrom]; exact hk)
    have hlc : (Mm.intsFrom 0 z.length).length = z.length := by simp [Mm.intsFrom]
    have ln : S.n < S'.n := Sto.g_lt hg
    generalize hT : MO.tup [.int (lcz z z.length).1, .int (lcz z z.length).2] = T
    have ad : vAdd (.ref S.n) (.ref (S'.n + 1)) ((S'.put T).put (.lst [.ref S'.n])) = .ok (.ref (S'.n + 2)) (((S'.put T).put (.lst [.ref S'.n])).put (.lst (xs ++ [.ref S'.n]))) := by
      simp only [vAdd, Sto.g_put, Sto.n_put]
      rw [if_neg (by omega), if_neg (by omega), hg]
      simp only [if_true]
      rw [if_pos (by simp; omega)]
    have s2 : 2 ≤ sz := by omega
    have s1 : 1 ≤ sz := by omega
    have fin : Due (((S'.put T).put (.lst [.ref S'.n])).put (.lst (xs ++ [.ref S'.n]))) (S'.n + 2) z := by
      refine ⟨xs ++ [.ref S'.n], by unfold Sto.ls; rw [show S'.n + 2 = ((S'.put T).put (.lst [.ref S'.n])).n by simp, Sto.g_put_new], by simp [hx'], fun k hk => ?_⟩
      by_cases e : k = z.length
      · subst e
        refine ⟨S'.n, by rw [List.getElem?_append_right (by omega), hx', Nat.sub_self]; rfl, ?_⟩
        unfold Sto.tp
        rw [Sto.g_put_old (Sto.g_put_old Sto.g_put_new), ← hT]
      · obtain ⟨q, q1, q2⟩ := hq' k (by omega)
        refine ⟨q, by rw [List.getElem?_append_left (by omega)]; exact q1, ?_⟩
        unfold Sto.tp
        rw [Sto.g_put_old (Sto.g_put_old (Sto.g_put_old q2))]
    simp [hlc, hT, s1, s2, ad]
    exact ⟨fin, Ex.put' (Ex.put' (Ex.put' ex))⟩
end K05

namespace K05
open PySem L2 Mm
/-! ### texts drawn -/
theorem tk : TakeOk m__law_take := fun b S many E hb h0 h1 => take_ok (A := 69621) (B := 1451) (C := 47) (M := 2147483629) (D := 64) (by decide) (by decide) (by decide) (by decide) (by decide) hb h0 h1
theorem pick_eq : m__law_pick = cPick m__law_take := rfl
theorem sg_len : (" !\"#$&'()*+,-./0123456789:;<=>?@ABCXYZ[\\]^_`abcxyz{|}~" : Str).length = 54 := by decide +kernel
theorem sg_ok : ∀ c ∈ (" !\"#$&'()*+,-./0123456789:;<=>?@ABCXYZ[\\]^_`abcxyz{|}~" : Str).cps.toList, c < 128 := by decide +kernel
theorem toD_strs {S : Sto} {L : Nat} {xs : List Str} {n : Nat} (h : S.ls L = some (xs.map V.str)) : toD (n + 1) S (.ref L) = some (.list (xs.map PyData.str)) := by
  have e : ∀ xs : List Str, allSome ((xs.map V.str).map (toD n S)) = some (xs.map PyData.str) := fun xs => by
    induction xs with
    | nil => rfl
    | cons a t ih =>
      simp only [List.map_cons] at ih ⊢
      cases n <;> simp only [toD, allSome, ih] <;> rfl
  simp only [toD, h, e, Option.map_some]
theorem ne_nil {S : Sto} {L E : Nat} {xs : List Str} {m : Nat} (h : S.ls L = some (xs.map V.str)) (g : ∀ x ∈ xs, Good m x) (hE : S.ls E = some []) : vNe (.ref L) (.ref E) S = .ok (.bl (!xs.isEmpty)) S := by
  have d1 : toD 8 S (.ref L) = some (.list (xs.map PyData.str)) := toD_strs h
  have d2 : toD 8 S (.ref E) = some (.list []) := toD_strs (xs := []) hE
  have lay : ∀ xs : List Str, (∀ x ∈ xs, Good m x) → PyData.canLayAll0 (xs.map PyData.str) = true ∧ PyData.depthAll (xs.map PyData.str) = 0 := fun xs h => by
    induction xs with
    | nil => exact ⟨rfl, rfl⟩
    | cons a t ih =>
      obtain ⟨h1, h2⟩ := ih fun x hx => h x (List.mem_cons_of_mem _ hx)
      refine ⟨?_, ?_⟩
      · simp only [List.map_cons, PyData.canLayAll0, PyData.canLay0, h1, (h a List.mem_cons_self).ok, Bool.and_self]
      · simp only [List.map_cons, PyData.depthAll, PyData.depth, h2]; rfl
  have s1 : SeqAt.shaped (.list (xs.map PyData.str)) = true := by
    obtain ⟨h1, h2⟩ := lay xs g
    simp [SeqAt.shaped, PyData.canLay0, PyData.depth, h1, h2]
  have s2 : SeqAt.shaped (.list []) = true := by decide
  have eb : vEqB (.ref L) (.ref E) S = some xs.isEmpty := by
    unfold vEqB
    rw [if_neg (by simp [scal]), d1, d2]
    simp only
    rw [if_pos ⟨s1, s2⟩]
    cases xs with
    | nil => rfl
    | cons a t => rfl
  simp only [vNe, eb]
/-- one of four -/
theorem four {S : Sto} {p : Nat} {a b c d : Int} {w : Nat} (h : S.g p = some (.lst [.int a, .int b, .int c, .int d])) (hw : w < 4) : ∃ m, vIx (.ref p) (.int w) S = .ok (.int m) S ∧ (m = a ∨ m = b ∨ m = c ∨ m = d) := by
  have sq : S.sq p = some [.int a, .int b, .int c, .int d] := by simp [Sto.sq, Sto.ls, h]
  match w, hw with
  | 0, _ => exact ⟨a, vIx_sq sq rfl, .inl rfl⟩
  | 1, _ => exact ⟨b, vIx_sq sq rfl, .inr (.inl rfl)⟩
  | 2, _ => exact ⟨c, vIx_sq sq rfl, .inr (.inr (.inl rfl))⟩
  | 3, _ => exact ⟨d, vIx_sq sq rfl, .inr (.inr (.inr rfl))⟩
def Els : MS := (mSeq (mSet 8 (mCB m__law_take (mCons (mVar 0) (mCons (mCB vLen (mCons (mVar 2) mNil)) mNil))))
    (mDrop (mMeth "list" wAppend (mVar 4) (mCons (mMeth "str" wJoin (mC (.str "")) (mCons (mLc (mRg1 (mCons (mVar 6) mNil)) (.nm 9) mYes (mBin vIx (mVar 2) (mBin vMod (mCB vInt (mCons (mBin vAdd (mVar 8) (mBin vMul (mVar 9) (mBin vAdd (mC (.int 1)) (mVar 7)))) mNil)) (mCB vLen (mCons (mVar 2) mNil)))) [9]) mNil)) mNil))))
def Thn : MS := (mDrop (mMeth "list" wAppend (mVar 4) (mCons (mCB m__law_pick (mCons (mVar 0) (mCons (mLst (mCons (mBin vIx (mVar 4) (mUn vNeg (mC (.int 1)))) (mCons (mBin vIx (mVar 4) (mC (.int 0))) (mCons (mC (.str "")) mNil)))) mNil))) mNil)))
theorem text_def : m__law_text = mFn 10 2 (mSeq (mSet 2 (mC (.str " !\"#$&'()*+,-./0123456789:;<=>?@ABCXYZ[\\]^_`abcxyz{|}~")))
    (mSeq (mSet 3 (mBin vIx (mLst (mCons (mBin vAdd (mC (.int 1)) (mCB m__law_take (mCons (mVar 0) (mCons (mC (.int 9)) mNil)))) (mCons (mBin vAdd (mC (.int 1)) (mCB m__law_take (mCons (mVar 0) (mCons (mC (.int 4)) mNil)))) (mCons (mBin vAdd (mC (.int 60)) (mCB m__law_take (mCons (mVar 0) (mCons (mC (.int 60)) mNil)))) (mCons (mBin vAdd (mC (.int 1)) (mCB m__law_take (mCons (mVar 0) (mCons (mC (.int 2)) mNil)))) mNil))))) (mVar 1)))
    (mSeq (mSet 4 (mLst mNil))
    (mSeq (mFor (mRg1 (mCons (mVar 3) mNil)) (.nm 5)
    (mSeq (mSet 6 (mBin vIx (mLst (mCons (mCB m__law_take (mCons (mVar 0) (mCons (mC (.int 10)) mNil))) (mCons (mCB m__law_take (mCons (mVar 0) (mCons (mC (.int 3)) mNil))) (mCons (mCB m__law_take (mCons (mVar 0) (mCons (mC (.int 40)) mNil))) (mCons (mBin vAdd (mC (.int 300)) (mCB m__law_take (mCons (mVar 0) (mCons (mC (.int 700)) mNil)))) mNil))))) (mVar 1)))
    (mSeq (mSet 7 (mCB m__law_take (mCons (mVar 0) (mCons (mC (.int 5)) mNil))))
    (mIf ((mAnd (mBl (mBin vEq (mVar 7) (mC (.int 0)))) (mBl (mBin vNe (mVar 4) (mLst mNil)))))
    Thn
    Els))))
    (mRet (mBin vAdd (mMeth "str" wJoin (mC (.str "\n")) (mCons (mVar 4) mNil)) (mBin vIx (mLst (mCons (mC (.str "")) (mCons (mC (.str "\n")) (mCons (mC (.str "")) (mCons (mC (.str "\n\n")) mNil))))) (mCB m__law_take (mCons (mVar 0) (mCons (mC (.int 4)) mNil)))))))))) := rfl
def TxI (b w : Nat) (sg : Str) (m : Int) (L : Nat) (S : Sto) (j : Nat) (σ : L2.St) (S' : Sto) : Prop := ∃ (t5 t6 t7 t8 : Option V) (xs : List Str), σ = [some (.ref b), some (.int w), some (.str sg), some (.int m), some (.ref L), t5, t6, t7, t8, none] ∧ Kb b S S' ∧ S'.g L = some (.lst (xs.map V.str)) ∧ xs.length = j ∧ ∀ x ∈ xs, Good 1000 x
theorem els_ok {b w : Nat} {sg : Str} {m lg κ : Int} {L : Nat} {S S' : Sto} {j : Nat} {t5 t8 : Option V} {xs : List Str} {P : Po} (hsl : sg.length = 54) (hsc : ∀ c ∈ sg.cps.toList, c < 128) (hL : S.n ≤ L) (hLb : L ≠ b) (hk : Kb b S S') (hg : S'.g L = some (.lst (xs.map V.str))) (hx : xs.length = j) (hj : j < 119) (hq : ∀ x ∈ xs, Good 1000 x) (hlg : 0 ≤ lg ∧ lg ≤ 1000) (hκ : 0 ≤ κ ∧ κ < 5)
    (hP : ∀ σ S2, TxI b w sg m L S (j + 1) σ S2 → P.nx σ S2) : (Els [some (.ref b), some (.int w), some (.str sg), some (.int m), some (.ref L), t5, some (.int lg), some (.int κ), t8, none] S').wp P := by
  unfold Els
  have hl : ∀ S, vLen [.str sg] S = .ok (.int 54) S := fun S => by simp only [vLen]; rw [if_pos (by rw [hsl]; decide), hsl]; rfl
  simp [hl]
  refine (tk b S' 54 _ hk.2.1 (by decide) (by decide)).imp fun v S1 ⟨at_, e, a0, a1, hb1, o1⟩ => ?_
  subst e
  have g1 := o1.g hg hLb
  have r62 : -two62 ≤ lg ∧ lg < two62 := by unfold two62; omega
  have ty : tyOk "list" S1 (.ref L) = true := by simp [tyOk, g1]
  have e0 : ("" : Str).length = 0 := by decide +kernel
  have e1 : ∀ c ∈ ("" : Str).cps.toList, c < 128 := by decide +kernel
  simp [ty, tyOk, r62, g1]
  have sgl : sg.cps.toList.length = 54 := by rw [len_toList, hsl]
  let f : Nat → Str := fun k => ⟨#[(sg.cps.toList[((at_ + (k : Int) * (1 + κ)).fmod 54).toNat]?).getD 0]⟩
  have fg : ∀ k, Good 1 (f k) := fun k => by
    refine ⟨by simp [f, Str.length], fun c hc => ?_⟩
    have hc2 : c = (sg.cps.toList[((at_ + (k : Int) * (1 + κ)).fmod 54).toNat]?).getD 0 := List.mem_singleton.mp hc
    rw [hc2]
    cases e : sg.cps.toList[((at_ + (k : Int) * (1 + κ)).fmod 54).toNat]? with
    | none => exact (by decide : (0 : Nat) < 128)
    | some c => exact hsc c (List.mem_of_getElem? e)
  have ll := Sto.g_lt g1
  have hli : (Mm.intsFrom 0 lg.toNat).length = lg.toNat := by simp [Mm.intsFrom]
  refine lc_map (fun k => V.str (f k)) rfl (by rw [hli]; have : sz = 16777216 := rfl; omega) (fun _ _ => rfl) (fun k y S2 hy ex2 => ?_) fun S2 ex2 g2 => ?_
  · obtain ⟨hk', rfl⟩ := ints_at hy
    have md : 0 ≤ (at_ + (k : Int) * (1 + κ)).fmod 54 ∧ (at_ + (k : Int) * (1 + κ)).fmod 54 < 54 := by
      rw [Int.fmod_eq_emod_of_nonneg _ (by decide)]
      exact ⟨Int.emod_nonneg _ (by decide), Int.emod_lt_of_pos _ (by decide)⟩
    have key : ∀ X : Int, 0 ≤ X → X < 54 → ∃ r : Nat, X = r ∧ r < 54 := fun X h1 h2 => ⟨X.toNat, by omega, by omega⟩
    refine Exists.elim (key _ md.1 md.2) fun r hr' => ?_
    have hr := hr'.1
    have hr54 := hr'.2
    have ix : vIx (.str sg) (.int r) S2 = .ok (.str (f k)) S2 := by
      have e2 : sg.cps.toList[r]? = some (sg.cps.toList[r]'(by omega)) := List.getElem?_eq_getElem (by omega)
      simp only [vIx]
      rw [if_pos (by rw [hsl]; decide), Mm.atI_nat e2]
      simp only [f, hr, Int.toNat_natCast, e2, Option.getD_some]
    have m2 : ((-two64 < (k : Int) ∧ (k : Int) < two64) ∨ (-two64 < 1 + κ ∧ 1 + κ < two64)) = True := by
      simp only [eq_iff_iff, iff_true]
      right; unfold two64; omega
    refine ⟨_, rfl, _, rfl, ?_⟩
    simp [wipe, hl, m2, hr, ix]
  · rw [hli] at g2
    have g2' : S2.g S1.n = some (.lst (((List.range lg.toNat).map f).map V.str)) := by rw [g2, List.map_map]; rfl
    have gl : ∀ x ∈ (List.range lg.toNat).map f, Good 1 x := fun x hx => by
      obtain ⟨k, _, rfl⟩ := List.mem_map.mp hx
      exact fg k
    have gj : Good 1000 (Txt.join "" ((List.range lg.toNat).map f)) := join_good (m := 1) e1 gl (by simp [e0]; omega)
    have hjoin : wJoin (.str "") [.ref S1.n] S2 = .ok (.str (Txt.join "" ((List.range lg.toNat).map f))) S2 := by
      have sq : S2.sq S1.n = some (((List.range lg.toNat).map f).map V.str) := by simp only [Sto.sq, Sto.ls, g2']
      have sm : (((List.range lg.toNat).map f).map (·.length)).sum ≤ lg.toNat := by
        have : ∀ l : List Str, (∀ x ∈ l, Good 1 x) → (l.map (·.length)).sum ≤ l.length := fun l h => by
          induction l with
          | nil => simp
          | cons a t ih =>
            have := ih fun x hx => h x (List.mem_cons_of_mem _ hx)
            have := (h a List.mem_cons_self).1
            simp only [List.map_cons, List.sum_cons, List.length_cons]
            omega
        have := this _ gl
        simpa using this
      simp only [wJoin, sq, Option.bind_some, strsOf_map]
      rw [if_pos (by rw [e0]; have : sz = 16777216 := rfl; omega)]
    have g3 := ex2.g g1
    have ap : wAppend (.ref L) [.str (Txt.join "" ((List.range lg.toNat).map f))] S2 = .ok .non (S2.set L (.lst (xs.map V.str ++ [.str (Txt.join "" ((List.range lg.toNat).map f))]))) := by
      simp only [wAppend, g3]
      rw [if_pos (by simp; have : sz = 16777216 := rfl; omega)]
    simp [hjoin, ap]
    have l3 := Sto.g_lt g3
    refine hP _ _ ⟨_, _, _, _, xs ++ [Txt.join "" ((List.range lg.toNat).map f)], rfl, ((hk.trans (o1.kb hb1)).trans (Ex.kb hb1 ex2)).set hL hLb, by rw [Sto.g_set_same l3]; simp, by simp [hx], fun x hx' => ?_⟩
    rcases List.mem_append.mp hx' with q | q
    · exact hq x q
    · simp at q; subst q; exact gj
theorem thn_ok {b w : Nat} {sg : Str} {m lg κ : Int} {L : Nat} {S S' : Sto} {j : Nat} {t5 t8 : Option V} {xs : List Str} {P : Po} (hL : S.n ≤ L) (hLb : L ≠ b) (hk : Kb b S S') (hg : S'.g L = some (.lst (xs.map V.str))) (hx : xs.length = j) (hj : j < 119) (h0 : xs ≠ []) (hq : ∀ x ∈ xs, Good 1000 x)
    (hP : ∀ σ S2, TxI b w sg m L S (j + 1) σ S2 → P.nx σ S2) : (Thn [some (.ref b), some (.int w), some (.str sg), some (.int m), some (.ref L), t5, some (.int lg), some (.int κ), t8, none] S').wp P := by
  unfold Thn
  have ty : tyOk "list" S' (.ref L) = true := by simp [tyOk, hg]
  have sq : S'.sq L = some (xs.map V.str) := by simp [Sto.sq, Sto.ls, hg]
  have s3 : 3 ≤ sz := by decide
  have hl : xs.getLast? = some (xs.getLast h0) := List.getLast?_eq_some_getLast h0
  obtain ⟨a, ha⟩ : ∃ a, xs[0]? = some a := ⟨_, List.getElem?_eq_getElem (List.length_pos_iff.mpr h0)⟩
  have i1 : vIx (.ref L) (.int (-1)) S' = .ok (.str (xs.getLast h0)) S' := vIx_sq sq (atI_last (by rw [List.getLast?_map, hl]; rfl))
  have i2 : vIx (.ref L) (.int 0) S' = .ok (.str a) S' := vIx_sq sq (Mm.atI_nat (i := 0) (by rw [List.getElem?_map, ha]; rfl))
  simp [ty, i1, i2, s3]
  have kb := hk.put (o := .lst [.str (xs.getLast h0), .str a, .str ""])
  rw [pick_eq]
  refine (pick_ok tk kb.2.1 (l := S'.n) (xs := [.str (xs.getLast h0), .str a, .str ""]) (by unfold Sto.sq Sto.ls; rw [Sto.g_put_new]) (by have := hk.2.1.lt; omega) (by simp) (by simp)).imp fun v S1 ⟨hv, hb1, o1⟩ => ?_
  obtain ⟨y, rfl, gy⟩ : ∃ y, v = .str y ∧ Good 1000 y := by
    simp only [List.mem_cons, List.not_mem_nil, or_false] at hv
    rcases hv with rfl | rfl | rfl
    · exact ⟨_, rfl, hq _ (List.getLast_mem h0)⟩
    · exact ⟨_, rfl, hq _ (List.mem_of_getElem? ha)⟩
    · exact ⟨_, rfl, by decide +kernel, by decide +kernel⟩
  have g1 := o1.g (Sto.g_put_old hg) hLb
  have ap : wAppend (.ref L) [.str y] S1 = .ok .non (S1.set L (.lst (xs.map V.str ++ [.str y]))) := by
    simp only [wAppend, g1]
    rw [if_pos (by simp; have : sz = 16777216 := rfl; omega)]
  simp [ap]
  refine hP _ _ ⟨_, _, _, _, xs ++ [y], rfl, (kb.trans (o1.kb hb1)).set hL hLb, by rw [Sto.g_set_same (Sto.g_lt g1)]; simp, by simp [hx], fun x hx' => ?_⟩
  rcases List.mem_append.mp hx' with q | q
  · exact hq x q
  · simp at q; subst q; exact gy
theorem text_ok {b w : Nat} {S : Sto} {E} (hb : BoxOk b S) (hw : w < 4) : (m__law_text [.ref b, .int w] S).wp (fun v S' => (∃ z, v = .str z ∧ Good 200000 z) ∧ Kb b S S') E := by
  rw [text_def, wp_mFn]
  refine ⟨rfl, ?_⟩
  have s4 : 4 ≤ sz := by decide
  simp
  refine (tk b S 9 _ hb (by decide) (by decide)).imp fun v S1 ⟨i1, e, a1, c1, hb1, o1⟩ => ?_
  subst e
  simp
  refine (tk b S1 4 _ hb1 (by decide) (by decide)).imp fun v S2 ⟨i2, e, a2, c2, hb2, o2⟩ => ?_
  subst e
  simp
  refine (tk b S2 60 _ hb2 (by decide) (by decide)).imp fun v S3 ⟨i3, e, a3, c3, hb3, o3⟩ => ?_
  subst e
  simp
  refine (tk b S3 2 _ hb3 (by decide) (by decide)).imp fun v S4 ⟨i4, e, a4, c4, hb4, o4⟩ => ?_
  subst e
  obtain ⟨m, hm, mm⟩ := four (S := S4.put (.lst [.int (1 + i1), .int (1 + i2), .int (60 + i3), .int (1 + i4)])) (p := S4.n) Sto.g_put_new hw
  have m1 : 1 ≤ m ∧ m ≤ 119 := by omega
  have r62 : -two62 ≤ m ∧ m < two62 := by unfold two62; omega
  have hSG := sg_len
  have hSGc := sg_ok
  generalize hgen : (" !\"#$&'()*+,-./0123456789:;<=>?@ABCXYZ[\\]^_`abcxyz{|}~" : Str) = SG at *
  simp [s4, hm, r62]
  have k4 : Kb b S S4 := (((o1.kb hb1).trans (o2.kb hb2)).trans (o3.kb hb3)).trans (o4.kb hb4)
  have n4 : S.n ≤ S4.n := k4.1
  have lb := hb.lt
  refine wp_forGo (i := 0) (TxI b w SG m (S4.n + 1) S) ?_ ?_ ?_
  · refine ⟨none, none, none, none, [], rfl, Kb.put (Kb.put k4), ?_, rfl, fun x h => by cases h⟩
    rw [show S4.n + 1 = (S4.put (.lst [.int (1 + i1), .int (1 + i2), .int (60 + i3), .int (1 + i4)])).n by simp, Sto.g_put_new]
    rfl
  · rintro j y σ S5 hy ⟨t5, t6, t7, t8, xs, rfl, k5, g5, x5, q5⟩
    obtain ⟨hj, rfl⟩ := ints_at hy
    rw [Nat.zero_add] at *
    refine ⟨rfl, _, rfl, ?_⟩
    have hj2 : j < 119 := by omega
    simp [Yd.pull]
    refine (tk b S5 10 _ k5.2.1 (by decide) (by decide)).imp fun v S6 ⟨i6, e, a6, c6, hb6, o6⟩ => ?_
    subst e
    try simp
    refine (tk b S6 3 _ hb6 (by decide) (by decide)).imp fun v S7 ⟨i7, e, a7, c7, hb7, o7⟩ => ?_
    subst e
    try simp
    refine (tk b S7 40 _ hb7 (by decide) (by decide)).imp fun v S8 ⟨i8, e, a8, c8, hb8, o8⟩ => ?_
    subst e
    try simp
    refine (tk b S8 700 _ hb8 (by decide) (by decide)).imp fun v S9 ⟨i9, e, a9, c9, hb9, o9⟩ => ?_
    subst e
    obtain ⟨lg, hlg, lgg⟩ := four (S := S9.put (.lst [.int i6, .int i7, .int i8, .int (300 + i9)])) (p := S9.n) Sto.g_put_new hw
    simp [s4, hlg]
    have kA : Kb b S (S9.put (.lst [.int i6, .int i7, .int i8, .int (300 + i9)])) := ((((k5.trans (o6.kb hb6)).trans (o7.kb hb7)).trans (o8.kb hb8)).trans (o9.kb hb9)).put
    have LL : S.n ≤ S4.n + 1 := by omega
    have Lb : S4.n + 1 ≠ b := by omega
    have gA : (S9.put (.lst [.int i6, .int i7, .int i8, .int (300 + i9)])).g (S4.n + 1) = some (.lst (xs.map V.str)) := Sto.g_put_old (o9.g (o8.g (o7.g (o6.g g5 Lb) Lb) Lb) Lb)
    generalize S9.put (.lst [.int i6, .int i7, .int i8, .int (300 + i9)]) = SA at *
    have lgb : 0 ≤ lg ∧ lg ≤ 1000 := by omega
    refine (tk b SA 5 _ kA.2.1 (by decide) (by decide)).imp fun v S10 ⟨κ, e, aκ, cκ, hb10, o10⟩ => ?_
    subst e
    have kB : Kb b S S10 := kA.trans (o10.kb hb10)
    have gB := o10.g gA Lb
    have fin : ∀ κ S', Kb b S S' → S'.g (S4.n + 1) = some (.lst (xs.map V.str)) → 0 ≤ κ ∧ κ < 5 → ∀ (P : Po), (∀ σ S2, TxI b w SG m (S4.n + 1) S (j + 1) σ S2 → P.nx σ S2) → (Els [some (.ref b), some (.int w), some (.str SG), some (.int m), some (.ref (S4.n + 1)), some (.int j), some (.int lg), some (.int κ), t8, none] S').wp P := fun κ S' k g hκ P hP => els_ok hSG hSGc LL Lb k g x5 hj2 q5 lgb hκ hP
    by_cases h0 : κ = 0
    · subst h0
      have nn : vNe (.ref (S4.n + 1)) (.ref S10.n) (S10.put (.lst [])) = .ok (.bl (!xs.isEmpty)) (S10.put (.lst [])) := ne_nil (by unfold Sto.ls; rw [Sto.g_put_old gB]) q5 (by unfold Sto.ls; rw [Sto.g_put_new])
      by_cases hxs : xs = []
      · simp [nn, hxs]
        subst hxs
        exact fin 0 _ kB.put (Sto.g_put_old gB) ⟨Int.le_refl _, by decide⟩ _ fun σ S2 h => h
      · simp [nn, hxs]
        exact thn_ok LL Lb kB.put (Sto.g_put_old gB) x5 hj2 hxs q5 fun σ S2 h => h
    · simp [h0]
      exact fin κ S10 kB gB ⟨aκ, cκ⟩ _ fun σ S2 h => h
  · rintro σ S5 ⟨t5, t6, t7, t8, xs, rfl, k5, g5, x5, q5⟩
    refine ⟨rfl, ?_⟩
    have hlen : xs.length ≤ 119 := by rw [x5, Nat.zero_add]; simp [Mm.intsFrom]; omega
    have nl : ∀ c ∈ ("\n" : Str).cps.toList, c < 128 := by decide +kernel
    have nll : ("\n" : Str).length = 1 := by decide +kernel
    have hjoin : wJoin (.str "\n") [.ref (S4.n + 1)] S5 = .ok (.str (Txt.join "\n" xs)) S5 := by
      have sq : S5.sq (S4.n + 1) = some (xs.map V.str) := by simp [Sto.sq, Sto.ls, g5]
      have sm : ∀ l : List Str, (∀ x ∈ l, Good 1000 x) → (l.map (·.length)).sum ≤ l.length * 1000 := fun l h => by
        induction l with
        | nil => simp
        | cons a t ih =>
          have := ih fun x hx => h x (List.mem_cons_of_mem _ hx)
          have := (h a List.mem_cons_self).1
          simp only [List.map_cons, List.sum_cons, List.length_cons]
          omega
      have s1 := sm xs q5
      simp only [wJoin, sq, Option.bind_some, strsOf_map]
      rw [if_pos (by rw [nll]; have : sz = 16777216 := rfl; omega)]
    have gj : Good 130000 (Txt.join "\n" xs) := join_good (m := 1000) nl q5 (by rw [nll]; omega)
    have ty : tyOk "str" S5 (.str "\n") = true := by simp [tyOk]
    simp [ty, hjoin, s4]
    have kb := k5.put (o := .lst [.str "", .str "\n", .str "", .str "\n\n"])
    refine (tk b _ 4 _ kb.2.1 (by decide) (by decide)).imp fun v S6 ⟨i6, e, a6, c6, hb6, o6⟩ => ?_
    subst e
    have g6 := o6.g (Sto.g_put_new (S := S5) (o := .lst [.str "", .str "\n", .str "", .str "\n\n"])) (by have := k5.2.1.lt; omega)
    obtain ⟨y, hy, gy⟩ : ∃ y, vIx (.ref S5.n) (.int i6) S6 = .ok (.str y) S6 ∧ Good 2 y := by
      have sq : S6.sq S5.n = some [.str "", .str "\n", .str "", .str "\n\n"] := by simp [Sto.sq, Sto.ls, g6]
      obtain ⟨r, rfl⟩ : ∃ r : Nat, i6 = r := ⟨i6.toNat, by omega⟩
      match r, c6 with
      | 0, _ => exact ⟨_, vIx_sq sq rfl, by decide +kernel, by decide +kernel⟩
      | 1, _ => exact ⟨_, vIx_sq sq rfl, by decide +kernel, by decide +kernel⟩
      | 2, _ => exact ⟨_, vIx_sq sq rfl, by decide +kernel, by decide +kernel⟩
      | 3, _ => exact ⟨_, vIx_sq sq rfl, by decide +kernel, by decide +kernel⟩
      | r + 4, h => omega
    have ad : vAdd (.str (Txt.join "\n" xs)) (.str y) S6 = .ok (.str (Txt.join "\n" xs ++ y)) S6 := by
      simp only [vAdd]
      rw [if_pos (by have := gj.1; have := gy.1; have : sz = 16777216 := rfl; omega)]
    simp [hy, ad]
    exact ⟨app_good gj gy (by omega), kb.trans (o6.kb hb6)⟩
end K05

namespace K05
open PySem L2 Mm
/-! ### _law_text_right -/
def TR1 : MS := (mIf (mNot (mTru (mCB m__law_refused (mCons (mVar 7) (mCons (mLst (mCons (mVar 1) (mCons (mVar 13) (mCons (mCB m__law_pick (mCons (mVar 0) (mCons (mLst (mCons (mC (.int 1)) (mCons (mC (.int 0)) (mCons (mC .non) mNil)))) mNil))) mNil)))) (mCons (mC (.str "line")) (mCons (mC (.int 1)) (mCons (mVar 2) mNil))))))))
    (mRet (mC (.bl false)))
    mNext)
def TR2 : MS := (mFor (mSq (mTup (mCons (mC (.int 0)) (mCons (mBin vAdd (mCB vLen (mCons (mVar 9) mNil)) (mC (.int 1))) (mCons (mUn vNeg (mC (.int 1))) mNil))))) (.nm 13)
    TR1)
def TR3 : MS := (mIf ((mOr (mNot (mTru (mCB m__law_refused (mCons (mVar 7) (mCons (mLst (mCons (mVar 1) (mCons (mBin vAdd (mVar 6) (mC (.int 1))) (mCons (mBin vAdd (mCB vLen (mCons (mBin vIx (mVar 9) (mVar 6)) mNil)) (mC (.int 2))) mNil)))) (mCons (mC (.str "column")) (mCons (mC (.int 2)) (mCons (mVar 2) mNil)))))))) (mNot (mTru (mCB m__law_refused (mCons (mVar 7) (mCons (mLst (mCons (mVar 1) (mCons (mBin vAdd (mVar 6) (mC (.int 1))) (mCons (mC (.int 0)) mNil)))) (mCons (mC (.str "column")) (mCons (mC (.int 2)) (mCons (mNotV (mVar 2)) mNil))))))))))
    (mRet (mC (.bl false)))
    mNext)
def TR4 : MS := (mSeq (mSet 12 (mTup (mCons (mBin vAdd (mVar 6) (mC (.int 1))) (mCons (mBin vAdd (mCB vLen (mCons (mBin vIx (mVar 9) (mVar 6)) mNil)) (mC (.int 1))) mNil))))
    (mSeq (mIf (mNot (mTru (mCB (m__law_same fuel) (mCons (mCB m__law_asked (mCons (mC (.int 1)) (mCons (mLst (mCons (mVar 1) (mCons (mBin vIx (mVar 12) (mC (.int 0))) (mCons (mBin vIx (mVar 12) (mC (.int 1))) mNil)))) (mCons (mVar 2) mNil)))) (mCons (mLst (mCons (mC (.str "told")) (mCons (mMeth "list" wIndex (mVar 8) (mCons (mVar 12) mNil)) mNil))) mNil)))))
    (mRet (mC (.bl false)))
    mNext)
    (mSeq (mFor (mSq (mTup (mCons (mC (.int 1)) (mCons (mC (.int 2)) mNil)))) (.nm 7)
    TR3)
    (mSet 2 (mNotV (mVar 2))))))
def TR5 : MS := (mSeq (mAsg (mBin vIx (mVar 8) (mVar 4)) (.tup [13, 14]))
    (mSeq (mSet 10 (mBin vAdd (mBin vAdd (mBin vAdd (mBin vIx (mVar 9) (mBin vSub (mVar 13) (mC (.int 1)))) (mC (.str "\n"))) (mBin vMul (mC (.str " ")) (mBin vSub (mVar 14) (mC (.int 1))))) (mC (.str "^"))))
    (mSeq (mSet 11 (mLst (mCons (mCB m__law_asked (mCons (mC (.int 0)) (mCons (mLst (mCons (mVar 1) (mCons (mVar 4) mNil))) (mCons (mVar 2) mNil)))) (mCons (mCB m__law_asked (mCons (mC (.int 1)) (mCons (mLst (mCons (mVar 1) (mCons (mVar 13) (mCons (mVar 14) mNil)))) (mCons (mNotV (mVar 2)) mNil)))) (mCons (mCB m__law_asked (mCons (mC (.int 2)) (mCons (mLst (mCons (mVar 1) (mCons (mVar 13) (mCons (mVar 14) mNil)))) (mCons (mVar 2) mNil)))) mNil)))))
    (mSeq (mIf (mNot (mTru (mCB (m__law_same fuel) (mCons (mVar 11) (mCons (mLst (mCons (mLst (mCons (mC (.str "told")) (mCons (mTup (mCons (mVar 13) (mCons (mVar 14) mNil))) mNil))) (mCons (mLst (mCons (mC (.str "told")) (mCons (mVar 4) mNil))) (mCons (mLst (mCons (mC (.str "told")) (mCons (mVar 10) mNil))) mNil)))) mNil)))))
    (mRet (mC (.bl false)))
    mNext)
    (mSet 2 (mNotV (mVar 2)))))))
theorem TR_def : m__law_text_right = mFn 16 3 (mSeq (mAsg (mTup (mCons (mCB m__law_positions (mCons (mVar 1) mNil)) (mCons (mMeth "str" wSplit (mVar 1) (mCons (mC (.str "\n")) mNil)) mNil))) (.tup [8, 9]))
    (mSeq (mSet 3 (mIfE (mBl (mBin vLt (mCB vLen (mCons (mVar 8) mNil)) (mC (.int 150)))) (mLRg1 false (mCB vLen (mCons (mVar 8) mNil))) (mBin vAdd (mLst (mCons (mC (.int 0)) (mCons (mBin vSub (mCB vLen (mCons (mVar 1) mNil)) (mC (.int 1))) (mCons (mCB vLen (mCons (mVar 1) mNil)) mNil)))) (mLc (mRg1 (mCons (mC (.int 60)) mNil)) (.nm 15) mYes (mCB m__law_take (mCons (mVar 0) (mCons (mCB vLen (mCons (mVar 8) mNil)) mNil))) [15]))))
    (mSeq (mFor (mSq (mVar 3)) (.nm 4)
    TR5)
    (mSeq (mSet 5 (mIfE (mBl (mBin vLt (mCB vLen (mCons (mVar 9) mNil)) (mC (.int 13)))) (mLRg1 false (mCB vLen (mCons (mVar 9) mNil))) (mBin vAdd (mLst (mCons (mC (.int 0)) (mCons (mBin vSub (mCB vLen (mCons (mVar 9) mNil)) (mC (.int 1))) mNil))) (mLc (mRg1 (mCons (mC (.int 8)) mNil)) (.nm 15) mYes (mCB m__law_take (mCons (mVar 0) (mCons (mCB vLen (mCons (mVar 9) mNil)) mNil))) [15]))))
    (mSeq (mFor (mSq (mVar 5)) (.nm 6)
    TR4)
    (mSeq (mFor (mSq (mTup (mCons (mC (.int 1)) (mCons (mC (.int 2)) mNil)))) (.nm 7)
    TR2)
    (mRet ((mAndV (mCB m__law_refused (mCons (mC (.int 0)) (mCons (mLst (mCons (mVar 1) (mCons (mBin vAdd (mCB vLen (mCons (mVar 1) mNil)) (mC (.int 1))) mNil))) (mCons (mC (.str "index")) (mCons (mC (.int 1)) (mCons (mVar 2) mNil)))))) (mCB m__law_refused (mCons (mC (.int 0)) (mCons (mLst (mCons (mVar 1) (mCons (mUn vNeg (mC (.int 1))) mNil))) (mCons (mC (.str "index")) (mCons (mC (.int 1)) (mCons (mNotV (mVar 2)) mNil))))))))))))))) := rfl

def RV (z : Str) : List V := (rows z).map fun l => V.str (toS l)
def Ctx (b : Nat) (z : Str) (dp lp : Nat) (S : Sto) : Prop := BoxOk b S ∧ (dp ≠ b ∧ Due S dp z) ∧ lp ≠ b ∧ S.ls lp = some (RV z)
theorem Kb.ls {b : Nat} {S S' : Sto} (k : Kb b S S') {a : Nat} {xs : List V} (h : S.ls a = some xs) (n : a ≠ b) : S'.ls a = some xs := by rw [Sto.ls_eq (k.2.2 a (Sto.ls_lt h) n), h]
theorem Kb.tp {b : Nat} {S S' : Sto} (k : Kb b S S') (hb : BoxOk b S) {a : Nat} {xs : List V} (h : S.tp a = some xs) : S'.tp a = some xs := by
  have n : a ≠ b := by
    rintro rfl
    obtain ⟨q, r, c, g, e, _⟩ := hb
    unfold Sto.tp at h
    rw [e] at h
    cases h
  rw [Sto.tp_eq (k.2.2 a (Sto.tp_lt h) n), h]
theorem Ctx.kb {b : Nat} {z : Str} {dp lp : Nat} {S S' : Sto} (h : Ctx b z dp lp S) (k : Kb b S S') : Ctx b z dp lp S' := by
  obtain ⟨hb, ⟨hd, xs, h1, h2, h3⟩, hl, h4⟩ := h
  exact ⟨k.2.1, ⟨hd, xs, Kb.ls k h1 hd, h2, fun j hj => by obtain ⟨q, a, c⟩ := h3 j hj; exact ⟨q, a, Kb.tp k hb c⟩⟩, hl, Kb.ls k h4 hl⟩
theorem chk_ok {z : Str} {k m : Nat} {q : List Nat} (h4 : (rows z)[k]? = some q) (h5 : m ≤ q.length) : chk (.str z) (.int (k + 1)) (.int (m + 1)) = none := by
  have := (List.getElem?_eq_some_iff.mp h4).1
  unfold chk
  simp only
  rw [if_pos (by simp [btw]; omega)]
  rw [show ((k : Int) + 1 - 1).toNat = k by omega, h4, if_pos (by simp [btw]; omega)]
theorem chkI_ok {z : Str} {k : Nat} (h : k ≤ z.length) : chkI (.str z) (.int k) = none := by
  unfold chkI
  simp only
  rw [if_pos (by simp [btw]; omega)]
/-- the slots of _law_text_right -/
def Shp (b : Nat) (z : Str) (sp : Option V) (t5 : Option V) (dp lp : Nat) (σ : L2.St) : Prop := ∃ (nm : Bool) (t4 t6 t7 t10 t11 t12 t13 t14 t15 : Option V), σ = [some (.ref b), some (.str z), some (.bl nm), sp, t4, t5, t6, t7, some (.ref dp), some (.ref lp), t10, t11, t12, t13, t14, t15]
/-- the place of an index -/
theorem place {z : Str} {k : Nat} (h : k ≤ z.length) : ∃ (l c : Nat) (r : List Nat), lcz z k = (l + 1, c + 1) ∧ (rows z)[l]? = some r ∧ c ≤ r.length ∧ rsum ((rows z).take l) + c = k := by
  obtain ⟨h1, h2, ⟨r, h3, h4⟩, h5⟩ := row_place z.cps.toList k (by rw [len_toList]; exact h) (p := lcz z k) rfl
  refine ⟨(lcz z k).1 - 1, (lcz z k).2 - 1, r, ?_, h3, by omega, ?_⟩
  · rw [show (lcz z k).1 - 1 + 1 = (lcz z k).1 by omega, show (lcz z k).2 - 1 + 1 = (lcz z k).2 by omega]
  · show rsum (List.take ((lcz z k).1 - 1) (rowsL z.cps.toList)) + _ = _
    omega
theorem TR5_ok {b : Nat} {z : Str} {dp lp k : Nat} {nm : Bool} {sp t5 t6 t7 t10 t11 t12 t13 t14 t15 : Option V} {S : Sto} {P : Po} (hz : z.length ≤ 500000) (hc : Ctx b z dp lp S) (hk : k ≤ z.length)
    (hP : ∀ σ S', Shp b z sp t5 dp lp σ → Kb b S S' → P.nx σ S') : (TR5 [some (.ref b), some (.str z), some (.bl nm), sp, some (.int k), t5, t6, t7, some (.ref dp), some (.ref lp), t10, t11, t12, t13, t14, t15] S).wp P := by
  unfold TR5
  obtain ⟨hb, ⟨hd, xs, h1, h2, h3⟩, hl, h4⟩ := hc
  obtain ⟨q, q1, q2⟩ := h3 k hk
  obtain ⟨l, c, r, e, hr, hcr, hsum⟩ := place hk
  rw [e] at q2
  have ix1 : vIx (.ref dp) (.int k) S = .ok (.ref q) S := vIx_sq (Sto.ls_ty h1).2.2.1 (Mm.atI_nat q1)
  have ix2 : vIx (.ref lp) (.int l) S = .ok (.str (toS r)) S := vIx_sq (Sto.ls_ty h4).2.2.1 (Mm.atI_nat (by unfold RV; rw [List.getElem?_map, hr]; rfl))
  have sh := fun S => shown_ok (S := S) hz hr hcr
  have s2 : 2 ≤ sz := by decide
  have s3 : 3 ≤ sz := by decide
  have sm : Small' (.str z) := fun y e => by cases e; exact hz
  simp [-Bool.exists_bool, ix1, Tgt.mm, q2, setAll, ix2, (sh _).1, (sh _).2.1, (sh _).2.2.1, (sh _).2.2.2, s2, s3]
  refine (asked0 (t := .str z) (i := .int k) (S := S.put (.lst [.str z, .int k])) (A := S.n) (by unfold Sto.ls; rw [Sto.g_put_new]) rfl rfl sm).imp fun v1 S1 ⟨x1, p1, e1, l1, w1⟩ => ?_
  rw [chkI_ok hk] at w1
  obtain ⟨y1, g1, w1⟩ := w1
  subst e1
  try simp [-Bool.exists_bool]
  refine (asked1 (t := .str z) (l := .int (l + 1)) (c := .int (c + 1)) (S := S1.put (.lst [.str z, .int (l + 1), .int (c + 1)])) (A := S1.n) (by unfold Sto.ls; rw [Sto.g_put_new]) rfl rfl rfl sm).imp fun v2 S2 ⟨x2, p2, e2, l2, w2⟩ => ?_
  rw [chk_ok hr hcr] at w2
  obtain ⟨y2, g2, w2⟩ := w2
  subst e2
  try simp [-Bool.exists_bool]
  refine (asked2 (t := .str z) (l := .int (l + 1)) (c := .int (c + 1)) (S := S2.put (.lst [.str z, .int (l + 1), .int (c + 1)])) (A := S2.n) (by unfold Sto.ls; rw [Sto.g_put_new]) rfl rfl rfl sm).imp fun v3 S3 ⟨x3, p3, e3, l3, w3⟩ => ?_
  rw [chk_ok hr hcr] at w3
  obtain ⟨y3, g3, w3⟩ := w3
  subst e3
  simp [-Bool.exists_bool, s2, s3, same_eq]
  obtain ⟨z', k', q', ez, ek, _, ey, hq'⟩ := w1
  cases ez
  obtain rfl : k' = k := by have := V.int.inj ek; omega
  subst ey
  rw [e] at hq'
  obtain ⟨z', l', m', r', ez, el, em, hr', hm', ey⟩ := w2
  cases ez
  obtain rfl : l' = l := by have := V.int.inj el; omega
  obtain rfl : m' = c := by have := V.int.inj em; omega
  subst ey
  obtain ⟨z', l'', m'', r'', ez, el', em', hr'', hm'', ey⟩ := w3
  cases ez
  obtain rfl : l'' = l' := by have := V.int.inj el'; omega
  obtain rfl : m'' = m' := by have := V.int.inj em'; omega
  subst ey
  have xF : Ex S3 ((((((S3.put (MO.lst [V.ref p1, V.ref p2, V.ref p3])).put (MO.tup [V.int (↑l'' + 1), V.int (↑m'' + 1)])).put (MO.lst [V.str "told", V.ref (S3.n + 1)])).put (MO.lst [V.str "told", V.int ↑k'])).put (MO.lst [V.str "told", V.str (shown z l'' m'')])).put
      (MO.lst [V.ref (S3.n + 1 + 1), V.ref (S3.n + 1 + 1 + 1), V.ref (S3.n + 1 + 1 + 1 + 1)])) := Ex.put' (Ex.put' (Ex.put' (Ex.put' (Ex.put' (Ex.put' Ex.refl)))))
  have f0 : ((((((S3.put (MO.lst [V.ref p1, V.ref p2, V.ref p3])).put (MO.tup [V.int (↑l'' + 1), V.int (↑m'' + 1)])).put (MO.lst [V.str "told", V.ref (S3.n + 1)])).put (MO.lst [V.str "told", V.int ↑k'])).put (MO.lst [V.str "told", V.str (shown z l'' m'')])).put
      (MO.lst [V.ref (S3.n + 1 + 1), V.ref (S3.n + 1 + 1 + 1), V.ref (S3.n + 1 + 1 + 1 + 1)])).g S3.n = some (.lst [V.ref p1, V.ref p2, V.ref p3]) := by simp [Sto.g_put, Nat.add_assoc]
  have f1 : ((((((S3.put (MO.lst [V.ref p1, V.ref p2, V.ref p3])).put (MO.tup [V.int (↑l'' + 1), V.int (↑m'' + 1)])).put (MO.lst [V.str "told", V.ref (S3.n + 1)])).put (MO.lst [V.str "told", V.int ↑k'])).put (MO.lst [V.str "told", V.str (shown z l'' m'')])).put
      (MO.lst [V.ref (S3.n + 1 + 1), V.ref (S3.n + 1 + 1 + 1), V.ref (S3.n + 1 + 1 + 1 + 1)])).g (S3.n + 1) = some (.tup [V.int (↑l'' + 1), V.int (↑m'' + 1)]) := by simp [Sto.g_put, Nat.add_assoc]
  have f2 : ((((((S3.put (MO.lst [V.ref p1, V.ref p2, V.ref p3])).put (MO.tup [V.int (↑l'' + 1), V.int (↑m'' + 1)])).put (MO.lst [V.str "told", V.ref (S3.n + 1)])).put (MO.lst [V.str "told", V.int ↑k'])).put (MO.lst [V.str "told", V.str (shown z l'' m'')])).put
      (MO.lst [V.ref (S3.n + 1 + 1), V.ref (S3.n + 1 + 1 + 1), V.ref (S3.n + 1 + 1 + 1 + 1)])).g (S3.n + 1 + 1) = some (.lst [V.str "told", V.ref (S3.n + 1)]) := by simp [Sto.g_put, Nat.add_assoc]
  have f3 : ((((((S3.put (MO.lst [V.ref p1, V.ref p2, V.ref p3])).put (MO.tup [V.int (↑l'' + 1), V.int (↑m'' + 1)])).put (MO.lst [V.str "told", V.ref (S3.n + 1)])).put (MO.lst [V.str "told", V.int ↑k'])).put (MO.lst [V.str "told", V.str (shown z l'' m'')])).put
      (MO.lst [V.ref (S3.n + 1 + 1), V.ref (S3.n + 1 + 1 + 1), V.ref (S3.n + 1 + 1 + 1 + 1)])).g (S3.n + 1 + 1 + 1) = some (.lst [V.str "told", V.int k']) := by simp [Sto.g_put, Nat.add_assoc]
  have f4 : ((((((S3.put (MO.lst [V.ref p1, V.ref p2, V.ref p3])).put (MO.tup [V.int (↑l'' + 1), V.int (↑m'' + 1)])).put (MO.lst [V.str "told", V.ref (S3.n + 1)])).put (MO.lst [V.str "told", V.int ↑k'])).put (MO.lst [V.str "told", V.str (shown z l'' m'')])).put
      (MO.lst [V.ref (S3.n + 1 + 1), V.ref (S3.n + 1 + 1 + 1), V.ref (S3.n + 1 + 1 + 1 + 1)])).g (S3.n + 1 + 1 + 1 + 1) = some (.lst [V.str "told", V.str (shown z l'' m'')]) := by simp [Sto.g_put, Nat.add_assoc]
  have f5 : ((((((S3.put (MO.lst [V.ref p1, V.ref p2, V.ref p3])).put (MO.tup [V.int (↑l'' + 1), V.int (↑m'' + 1)])).put (MO.lst [V.str "told", V.ref (S3.n + 1)])).put (MO.lst [V.str "told", V.int ↑k'])).put (MO.lst [V.str "told", V.str (shown z l'' m'')])).put
      (MO.lst [V.ref (S3.n + 1 + 1), V.ref (S3.n + 1 + 1 + 1), V.ref (S3.n + 1 + 1 + 1 + 1)])).g (S3.n + 1 + 1 + 1 + 1 + 1) = some (.lst [V.ref (S3.n + 1 + 1), V.ref (S3.n + 1 + 1 + 1), V.ref (S3.n + 1 + 1 + 1 + 1)]) := by simp [Sto.g_put, Nat.add_assoc]
  generalize ((((((S3.put (MO.lst [V.ref p1, V.ref p2, V.ref p3])).put (MO.tup [V.int (↑l'' + 1), V.int (↑m'' + 1)])).put (MO.lst [V.str "told", V.ref (S3.n + 1)])).put (MO.lst [V.str "told", V.int ↑k'])).put (MO.lst [V.str "told", V.str (shown z l'' m'')])).put
      (MO.lst [V.ref (S3.n + 1 + 1), V.ref (S3.n + 1 + 1 + 1), V.ref (S3.n + 1 + 1 + 1 + 1)])) = SF at *
  have x2F : Ex S2 SF := (Ex.put (o := MO.lst [.str z, .int (l'' + 1), .int (m'' + 1)])).trans (x3.trans xF)
  have x1F : Ex S1 SF := (Ex.put (o := MO.lst [.str z, .int (l'' + 1), .int (m'' + 1)])).trans (x2.trans x2F)
  have ls : ∀ {a : Nat} {xs : List V}, SF.g a = some (.lst xs) → SF.ls a = some xs := fun h => by unfold Sto.ls; rw [h]
  have tp : ∀ {a : Nat} {xs : List V}, SF.g a = some (.tup xs) → SF.tp a = some xs := fun h => by unfold Sto.tp; rw [h]
  have tl : Same SF 2 (.str "told") (.str "told") := Same.sc (.inr (.inr (.inr ⟨_, rfl⟩)))
  have tl1 : Same SF 1 (.str "told") (.str "told") := Same.sc (.inr (.inr (.inr ⟨_, rfl⟩)))
  have SI : ∀ i n, Same SF n (.int i) (.int i) := fun i n => Same.sc (.inr (.inr (.inl ⟨_, rfl⟩)))
  have A1 : Same SF 1 (.ref q') (.ref (S3.n + 1)) := .inr (.inr (.inl ⟨_, _, _, _, rfl, rfl, tp (x1F.g hq'), tp f1, s2, .cons (SI _ _) (.cons (SI _ _) .nil)⟩))
  have A : Same SF 2 (.ref p1) (.ref (S3.n + 1 + 1)) := .inr (.inl ⟨_, _, _, _, rfl, rfl, ls (x1F.g g1), ls f2, s2, .cons tl1 (.cons A1 .nil)⟩)
  have ek2 : ((rsum ((rows z).take l'') : Nat) : Int) + (m'' : Nat) = (k' : Int) := by omega
  rw [ek2] at g2
  have B : Same SF 2 (.ref p2) (.ref (S3.n + 1 + 1 + 1)) := .inr (.inl ⟨_, _, _, _, rfl, rfl, ls (x2F.g g2), ls f3, s2, .cons tl1 (.cons (SI _ _) .nil)⟩)
  have C : Same SF 2 (.ref p3) (.ref (S3.n + 1 + 1 + 1 + 1)) := .inr (.inl ⟨_, _, _, _, rfl, rfl, ls (xF.g g3), ls f4, s2, .cons tl1 (.cons (Same.sc (.inr (.inr (.inr ⟨_, rfl⟩)))) .nil)⟩)
  have D : Same SF 29 (.ref S3.n) (.ref (S3.n + 1 + 1 + 1 + 1 + 1)) := Same.le (n := 3) (.inr (.inl ⟨_, _, _, _, rfl, rfl, ls f0, ls f5, s3, .cons A (.cons B (.cons C .nil))⟩)) (by decide)
  refine (same_ok D).imp fun v S' ⟨ev, exv⟩ => ?_
  subst ev
  refine ⟨true, rfl, ?_⟩
  rw [if_pos rfl]
  have xS : Ex S S1 := (Ex.put (o := MO.lst [.str z, .int k'])).trans x1
  exact hP _ _ ⟨!nm, _, _, _, _, _, _, _, _, _, rfl⟩ (Ex.kb hb (xS.trans (x1F.trans exv)))
end K05

namespace K05
open PySem L2 Mm
theorem asked12 {S : Sto} {A : Nat} {t l c : V} {T L C : Ty} {way : Int} {nm : Bool} (hw : way = 1 ∨ way = 2) (hA : S.ls A = some [t, l, c]) (ht : tyN S t = some T) (hl : tyN S l = some L) (hc : tyN S c = some C) (hs : Small' t) :
    ∃ To, (m__law_asked [.int way, .ref A, .bl nm] S).wp (AskR (chk t l c) To S) fun _ _ _ => False := by
  rcases hw with rfl | rfl
  · exact ⟨_, asked1 hA ht hl hc hs⟩
  · exact ⟨_, asked2 hA ht hl hc hs⟩
theorem exB_int {i : Int} {S S' : Sto} (h : ExB (.int i) S S') : Ex S S' := ⟨h.1, fun a l => h.2 a l V.noConfusion⟩
theorem exB_non {S S' : Sto} (h : ExB .non S S') : Ex S S' := ⟨h.1, fun a l => h.2 a l V.noConfusion⟩
/-- a wrong line or column, of ways 1 and 2 -/
theorem refused12 {S : Sto} {t l c : V} {T L C : Ty} {way at_ : Int} {nm : Bool} {word : Str} {w : Str × V} {E} (hw : way = 1 ∨ way = 2) (hk : chk t l c = some w) (hword : wd w.1 = word) (hat : atI [t, l, c] at_ = some w.2) (kv : KV (S.put (.lst [t, l, c])) 900 w.2)
    (ht : tyN S t = some T) (hl : tyN S l = some L) (hc : tyN S c = some C) (hs : Small' t) :
    (m__law_refused [.int way, .ref S.n, .str word, .int at_, .bl nm] (S.put (.lst [t, l, c]))).wp (fun r S' => r = .bl true ∧ ExB w.2 (S.put (.lst [t, l, c])) S') E := by
  have hA : (S.put (.lst [t, l, c])).ls S.n = some [t, l, c] := by unfold Sto.ls; rw [Sto.g_put_new]
  have ex : Ex S (S.put (.lst [t, l, c])) := Ex.put
  obtain ⟨To, h⟩ := asked12 (nm := nm) hw hA (ex.ty ht) (ex.ty hl) (ex.ty hc) hs
  rw [hk] at h
  exact refused h hword hA hat kv
theorem chk_col {z : Str} {k : Nat} {q : List Nat} {c : V} (h4 : (rows z)[k]? = some q) (h5 : btw c 1 (q.length + 1) = false) : chk (.str z) (.int (k + 1)) c = some (("InvalidColumn" : Str), c) := by
  have := (List.getElem?_eq_some_iff.mp h4).1
  unfold chk
  simp only
  rw [if_pos (by simp [btw]; omega)]
  rw [show ((k : Int) + 1 - 1).toNat = k by omega, h4]
  simp [h5]
theorem chk_line {z : Str} {l c : V} (h5 : btw l 1 (rows z).length = false) : chk (.str z) l c = some (("InvalidLine" : Str), l) := by
  unfold chk
  simp only
  rw [if_neg (by rw [h5]; decide)]
theorem TR3_ok {b : Nat} {z : Str} {dp lp k : Nat} {nm : Bool} {r : List Nat} {way : Int} {t3 t4 t5 t10 t11 t12 t13 t14 t15 : Option V} {S : Sto} {P : Po} (hz : z.length ≤ 500000) (hc : Ctx b z dp lp S) (hr : (rows z)[k]? = some r) (hw : way = 1 ∨ way = 2)
    (hP : ∀ S', Kb b S S' → P.nx [some (.ref b), some (.str z), some (.bl nm), t3, t4, t5, some (.int k), some (.int way), some (.ref dp), some (.ref lp), t10, t11, t12, t13, t14, t15] S') :
    (TR3 [some (.ref b), some (.str z), some (.bl nm), t3, t4, t5, some (.int k), some (.int way), some (.ref dp), some (.ref lp), t10, t11, t12, t13, t14, t15] S).wp P := by
  unfold TR3
  obtain ⟨hb, hdue, hl, h4⟩ := hc
  have ix2 : vIx (.ref lp) (.int k) S = .ok (.str (toS r)) S := vIx_sq (Sto.ls_ty h4).2.2.1 (Mm.atI_nat (by unfold RV; rw [List.getElem?_map, hr]; rfl))
  have sm : Small' (.str z) := fun y e => by cases y; cases e; exact hz
  have rl := (rows_len (z := z) (by have : sz = 16777216 := rfl; omega)).2 _ _ hr
  have rl' : r.length ≤ sz := by omega
  have s3 : 3 ≤ sz := by decide
  simp [-Bool.exists_bool, ix2, vLen, toS_len, rl', s3]
  refine (refused12 (w := (("InvalidColumn" : Str), .int (r.length + 2))) hw (chk_col hr (by simp [btw])) w4 rfl (.sc (.inr (.inr (.inl ⟨_, rfl⟩)))) rfl rfl rfl sm).imp fun v S1 ⟨e, x⟩ => ?_
  subst e
  have x1 : Ex S S1 := Ex.put.trans (exB_int x)
  simp [-Bool.exists_bool]
  refine (refused12 (w := (("InvalidColumn" : Str), .int 0)) hw (chk_col hr (by simp [btw])) w4 rfl (.sc (.inr (.inr (.inl ⟨_, rfl⟩)))) rfl rfl rfl sm).imp fun v S2 ⟨e, x⟩ => ?_
  subst e
  simp [-Bool.exists_bool]
  exact hP S2 (Ex.kb hb (x1.trans (Ex.put.trans (exB_int x))))
theorem firstD_at {d : PyData} : ∀ {ds : List PyData} {j : Nat} {x : PyData}, ds[j]? = some x → PyData.eqv x d = true → (∀ m y, m < j → ds[m]? = some y → PyData.eqv y d = false) → firstD d ds = some j
  | [], j, x, h, _, _ => by cases h
  | a :: t, 0, x, h, e, _ => by
    cases h
    unfold firstD
    rw [if_pos e]
  | a :: t, j + 1, x, h, e, k => by
    unfold firstD
    rw [if_neg (by rw [k 0 a (by omega) rfl]; decide), firstD_at (ds := t) (j := j) h e fun m y hm hy => k (m + 1) y (by omega) hy]
    rfl
theorem allSome_map {α β : Type} (f : α → β) (l : List α) : allSome (l.map fun x => some (f x)) = some (l.map f) := by
  induction l with
  | nil => rfl
  | cons a t ih => simp only [List.map_cons, allSome, ih, Option.map_some]
def dueD (z : Str) : List PyData := (List.range (z.length + 1)).map fun k => .tuple [.int (lcz z k).1, .int (lcz z k).2]
theorem toD_tup2 {S : Sto} {q : Nat} {a b : Int} {n : Nat} (h : S.tp q = some [.int a, .int b]) : toD (n + 2) S (.ref q) = some (.tuple [.int a, .int b]) := by
  simp only [toD, (Sto.tp_ty h).2.2.2, h, List.map_cons, List.map_nil, allSome, Option.map_some]
theorem toD_due {S : Sto} {p : Nat} {z : Str} (h : Due S p z) : toD 8 S (.ref p) = some (.list (dueD z)) := by
  obtain ⟨xs, h1, h2, h3⟩ := h
  have e : xs.map (toD 7 S) = (List.range (z.length + 1)).map fun k => some (.tuple [.int (lcz z k).1, .int (lcz z k).2]) := by
    apply List.ext_getElem?
    intro k
    rw [List.getElem?_map, List.getElem?_map]
    by_cases hk : k ≤ z.length
    · obtain ⟨q, q1, q2⟩ := h3 k hk
      rw [q1, List.getElem?_range (by omega)]
      simp only [Option.map_some]
      rw [toD_tup2 q2]
    · rw [List.getElem?_eq_none (by omega), List.getElem?_eq_none (by simp; omega)]
      rfl
  simp only [toD, h1, e, allSome_map, Option.map_some]
  rfl
theorem shaped_due (z : Str) : SeqAt.shaped (.list (dueD z)) = true := by
  have : ∀ l : List Nat, PyData.canLayAll0 (l.map fun k => PyData.tuple [.int (lcz z k).1, .int (lcz z k).2]) = true ∧ PyData.depthAll (l.map fun k => PyData.tuple [.int (lcz z k).1, .int (lcz z k).2]) ≤ 1 := fun l => by
    induction l with
    | nil => exact ⟨rfl, Nat.zero_le _⟩
    | cons a t ih =>
      obtain ⟨h1, h2⟩ := ih
      refine ⟨?_, ?_⟩
      · simp only [List.map_cons, PyData.canLayAll0, PyData.canLay0, h1, Bool.and_self]
      · simp only [List.map_cons, PyData.depthAll, PyData.depth] at h2 ⊢
        omega
  obtain ⟨h1, h2⟩ := this (List.range (z.length + 1))
  unfold dueD
  simp only [SeqAt.shaped, PyData.canLay0, PyData.depth, h1, Bool.true_and]
  exact decide_eq_true (by omega)
/-- the place of a row's end, in the law's own table -/
theorem index_due {S : Sto} {dp t k : Nat} {z : Str} {r : List Nat} (hd : Due S dp z) (ht : S.tp t = some [.int (k + 1), .int (r.length + 1)]) (hr : (rows z)[k]? = some r) : wIndex (.ref dp) [.ref t] S = .ok (.int (((rsum ((rows z).take k) + r.length : Nat)) : Int)) S := by
  obtain ⟨h1, h2⟩ := place_row z.cps.toList hr (c := r.length + 1) (by omega) (Nat.le_refl _)
  rw [show rsum ((rowsL z.cps.toList).take k) + (r.length + 1) - 1 = rsum ((rows z).take k) + r.length by show rsum ((rowsL z.cps.toList).take k) + (r.length + 1) - 1 = rsum ((rowsL z.cps.toList).take k) + r.length; omega] at h1 h2
  rw [len_toList] at h1
  have d1 := toD_due hd
  have d2 : toD 8 S (.ref t) = some (.tuple [.int (k + 1), .int (r.length + 1)]) := toD_tup2 ht
  have f : firstD (.tuple [.int (k + 1), .int (r.length + 1)]) (dueD z) = some (rsum ((rows z).take k) + r.length) := by
    have at_ : ∀ m, m ≤ z.length → (dueD z)[m]? = some (.tuple [.int (lcz z m).1, .int (lcz z m).2]) := fun m hm => by
      unfold dueD
      rw [List.getElem?_map, List.getElem?_range (by omega)]
      rfl
    refine firstD_at (at_ _ h1) ?_ fun m y hm hy => ?_
    · have e : lcz z (rsum ((rows z).take k) + r.length) = (k + 1, r.length + 1) := h2
      rw [e]
      simp [PyData.eqv, PyData.eqvAll]
    · rw [at_ m (by omega)] at hy
      cases hy
      cases e : PyData.eqv (.tuple [.int (lcz z m).1, .int (lcz z m).2]) (.tuple [.int (k + 1), .int (r.length + 1)]) with
      | false => rfl
      | true =>
        simp [PyData.eqv, PyData.eqvAll] at e
        obtain ⟨l, c, r', e1, hr', hc, hs⟩ := place (z := z) (k := m) (by omega)
        rw [e1] at e
        simp at e
        obtain ⟨e3, e4⟩ := e
        have e5 : l = k := by omega
        have e6 : c = r.length := by omega
        subst e5 e6
        omega
  have s2 : SeqAt.shaped (.tuple [.int (k + 1), .int (r.length + 1)]) = true := by simp [SeqAt.shaped, PyData.canLay0, PyData.canLayAll0, PyData.depth, PyData.depthAll]
  simp only [wIndex, d1, d2]
  rw [if_pos ⟨shaped_due z, s2⟩, f]
theorem TR4_ok {b : Nat} {z : Str} {dp lp k : Nat} {nm : Bool} {r : List Nat} {t3 t4 sp t7 t10 t11 t12 t13 t14 t15 : Option V} {S : Sto} {P : Po} (hz : z.length ≤ 500000) (hc : Ctx b z dp lp S) (hr : (rows z)[k]? = some r)
    (hP : ∀ σ S', Shp b z t3 sp dp lp σ → Kb b S S' → P.nx σ S') :
    (TR4 [some (.ref b), some (.str z), some (.bl nm), t3, t4, sp, some (.int k), t7, some (.ref dp), some (.ref lp), t10, t11, t12, t13, t14, t15] S).wp P := by
  unfold TR4
  have hc0 := hc
  obtain ⟨hb, hdue, hl, h4⟩ := hc
  have ix2 : vIx (.ref lp) (.int k) S = .ok (.str (toS r)) S := vIx_sq (Sto.ls_ty h4).2.2.1 (Mm.atI_nat (by unfold RV; rw [List.getElem?_map, hr]; rfl))
  have sm : Small' (.str z) := fun y e => by cases y; cases e; exact hz
  have rl := (rows_len (z := z) (by have : sz = 16777216 := rfl; omega)).2 _ _ hr
  have rl' : r.length ≤ sz := by omega
  have s3 : 3 ≤ sz := by decide
  have s2 : 2 ≤ sz := by decide
  have tpT : (S.put (.tup [.int (k + 1), .int (r.length + 1)])).tp S.n = some [.int (k + 1), .int (r.length + 1)] := by unfold Sto.tp; rw [Sto.g_put_new]
  have iT0 : vIx (.ref S.n) (.int 0) (S.put (.tup [.int (k + 1), .int (r.length + 1)])) = .ok (.int (k + 1)) (S.put (.tup [.int (k + 1), .int (r.length + 1)])) := vIx_sq (Sto.tp_ty tpT).2.2.1 rfl
  have iT1 : vIx (.ref S.n) (.int 1) (S.put (.tup [.int (k + 1), .int (r.length + 1)])) = .ok (.int (r.length + 1)) (S.put (.tup [.int (k + 1), .int (r.length + 1)])) := vIx_sq (Sto.tp_ty tpT).2.2.1 rfl
  simp [-Bool.exists_bool, ix2, vLen, toS_len, rl', s3, s2, iT0, iT1]
  have cT : Ctx b z dp lp (S.put (.tup [.int (k + 1), .int (r.length + 1)])) := hc0.kb (Ex.kb hb Ex.put)
  have nT : S.n + 1 = (S.put (.tup [.int (k + 1), .int (r.length + 1)])).n := by simp
  have xT : Ex S (S.put (.tup [.int (k + 1), .int (r.length + 1)])) := Ex.put
  rw [nT]
  generalize (S.put (.tup [.int (k + 1), .int (r.length + 1)])) = ST at *
  refine (asked1 (t := .str z) (l := .int (k + 1)) (c := .int (r.length + 1)) (S := ST.put (.lst [.str z, .int (k + 1), .int (r.length + 1)])) (A := ST.n) (by unfold Sto.ls; rw [Sto.g_put_new]) rfl rfl rfl sm).imp fun v1 S1 ⟨x1, p1, e1, l1, w1⟩ => ?_
  rw [chk_ok hr (Nat.le_refl _)] at w1
  obtain ⟨y1, g1, z', k', m', r', ez, ek, em, hr', hm', ey⟩ := w1
  cases ez
  obtain rfl : k' = k := by have := V.int.inj ek; omega
  obtain rfl : m' = r.length := by have := V.int.inj em; omega
  subst ey e1
  have xST : Ex ST S1 := Ex.put.trans x1
  have c1 : Ctx b z dp lp S1 := cT.kb (Ex.kb cT.1 xST)
  have hi := index_due (S := S1) c1.2.1.2 (xST.rds.2.2.1 _ _ tpT) hr
  have tyd : tyOk "list" S1 (.ref dp) = true := by
    obtain ⟨xs, q, _⟩ := c1.2.1.2
    unfold Sto.ls at q
    simp only [tyOk]
    split at q <;> first | (rename_i e; rw [e]; rfl) | cases q
  simp [-Bool.exists_bool, hi, tyd, s2, same_eq]
  have gA : (S1.put (.lst [.str "told", .int ((rsum ((rows z).take k') : Nat) + (r.length : Nat))])).g p1 = some (.lst [.str "told", .int ((rsum ((rows z).take k') : Nat) + (r.length : Nat))]) := Sto.g_put_old g1
  have D : Same (S1.put (.lst [.str "told", .int ((rsum ((rows z).take k') : Nat) + (r.length : Nat))])) 29 (.ref p1) (.ref S1.n) := Same.le (n := 1) (.inr (.inl ⟨_, _, _, _, rfl, rfl, by unfold Sto.ls; rw [gA], by unfold Sto.ls; rw [Sto.g_put_new], by exact s2, .cons (Same.sc (.inr (.inr (.inr ⟨_, rfl⟩)))) (.cons (Same.sc (.inr (.inr (.inl ⟨_, rfl⟩)))) .nil)⟩)) (by decide)
  refine (same_ok D).imp fun v S2 ⟨ev, exv⟩ => ?_
  subst ev
  refine ⟨true, rfl, ?_⟩
  rw [if_pos rfl]
  have x2 : Ex S S2 := xT.trans (xST.trans (Ex.put.trans exv))
  have k2 : Kb b S S2 := Ex.kb hb x2
  have tW : (S2.put (.tup [.int 1, .int 2])).tp S2.n = some [.int 1, .int 2] := by unfold Sto.tp; rw [Sto.g_put_new]
  refine ⟨_, .inr ⟨(Sto.tp_ty tW).2.2.2, tW, ?_⟩⟩
  have kB : Kb b S (S2.put (.tup [.int 1, .int 2])) := k2.put
  have cB : Ctx b z dp lp (S2.put (.tup [.int 1, .int 2])) := hc0.kb kB
  generalize S2.put (.tup [.int 1, .int 2]) = SB at *
  refine wp_forGo (i := 0) (fun _ σ S' => (∃ t7', σ = [some (.ref b), some (.str z), some (.bl nm), t3, t4, sp, some (.int k'), t7', some (.ref dp), some (.ref lp), t10, t11, some (.ref S.n), t13, t14, t15]) ∧ Kb b SB S') ⟨⟨_, rfl⟩, Kb.refl cB.1⟩ (fun j y σ S' hy hI => ?_) fun σ S' hI => ?_
  · obtain ⟨⟨t7', rfl⟩, kk⟩ := hI
    have hok : S'.tp S2.n = some [.int 1, .int 2] := Kb.tp kk cB.1 tW
    refine ⟨by simp [hok], ?_⟩
    have hw : ∃ way : Int, y = .one (.int way) ∧ (way = 1 ∨ way = 2) := by
      match j, hy with
      | 0, hy => exact ⟨1, (Option.some.inj hy).symm, .inl rfl⟩
      | 1, hy => exact ⟨2, (Option.some.inj hy).symm, .inr rfl⟩
      | j + 2, hy => simp at hy
    obtain ⟨way, rfl, hw⟩ := hw
    exact ⟨_, rfl, TR3_ok hz (cB.kb kk) hr hw fun S3 k3 => ⟨⟨_, rfl⟩, kk.trans k3⟩⟩
  · obtain ⟨⟨t7', rfl⟩, kk⟩ := hI
    have hok : S'.tp S2.n = some [.int 1, .int 2] := Kb.tp kk cB.1 tW
    refine ⟨by simp [hok], .bl nm, rfl, nm, rfl, ?_⟩
    exact hP _ _ ⟨!nm, _, _, _, _, _, _, _, _, _, rfl⟩ (kB.trans kk)
end K05

namespace K05
open PySem L2 Mm
theorem TR1_ok {b : Nat} {z : Str} {dp lp : Nat} {nm : Bool} {way ln : Int} {t3 t4 t5 t6 t10 t11 t12 t14 t15 : Option V} {S : Sto} {P : Po} (hz : z.length ≤ 500000) (hb : BoxOk b S) (hw : way = 1 ∨ way = 2) (hln : btw (.int ln) 1 (rows z).length = false)
    (hP : ∀ S', Kb b S S' → P.nx [some (.ref b), some (.str z), some (.bl nm), t3, t4, t5, t6, some (.int way), some (.ref dp), some (.ref lp), t10, t11, t12, some (.int ln), t14, t15] S') :
    (TR1 [some (.ref b), some (.str z), some (.bl nm), t3, t4, t5, t6, some (.int way), some (.ref dp), some (.ref lp), t10, t11, t12, some (.int ln), t14, t15] S).wp P := by
  unfold TR1
  have sm : Small' (.str z) := fun y e => by cases y; cases e; exact hz
  have s3 : 3 ≤ sz := by decide
  simp [-Bool.exists_bool, s3]
  rw [pick_eq]
  refine (pick_ok tk (hb.ex Ex.put) (l := S.n) (xs := [.int 1, .int 0, .non]) (by unfold Sto.sq Sto.ls; rw [Sto.g_put_new]) (by have := hb.lt; omega) (by simp) (by simp)).imp fun v S1 ⟨hv, hb1, o1⟩ => ?_
  obtain ⟨T, hT⟩ : ∃ T, ∀ S, tyN S v = some T := by
    simp only [List.mem_cons, List.not_mem_nil, or_false] at hv
    rcases hv with rfl | rfl | rfl
    · exact ⟨.int, fun _ => rfl⟩
    · exact ⟨.int, fun _ => rfl⟩
    · exact ⟨.non, fun _ => rfl⟩
  refine (refused12 (w := (("InvalidLine" : Str), .int ln)) hw (chk_line hln) w3 rfl (.sc (.inr (.inr (.inl ⟨_, rfl⟩)))) rfl rfl (hT _) sm).imp fun v S2 ⟨e, x⟩ => ?_
  subst e
  simp [-Bool.exists_bool]
  exact hP S2 (((Kb.refl hb).put.trans (o1.kb hb1)).trans (Ex.kb hb1 (Ex.put.trans (exB_int x))))
theorem TR2_ok {b : Nat} {z : Str} {dp lp : Nat} {nm : Bool} {way : Int} {t3 t4 t5 t6 t10 t11 t12 t13 t14 t15 : Option V} {S : Sto} {P : Po} (hz : z.length ≤ 500000) (hc : Ctx b z dp lp S) (hw : way = 1 ∨ way = 2)
    (hP : ∀ S' t13, Kb b S S' → P.nx [some (.ref b), some (.str z), some (.bl nm), t3, t4, t5, t6, some (.int way), some (.ref dp), some (.ref lp), t10, t11, t12, t13, t14, t15] S') :
    (TR2 [some (.ref b), some (.str z), some (.bl nm), t3, t4, t5, t6, some (.int way), some (.ref dp), some (.ref lp), t10, t11, t12, t13, t14, t15] S).wp P := by
  unfold TR2
  have hl : vLen [.ref lp] S = .ok (.int (rows z).length) S := by
    simp only [vLen, (Sto.ls_ty hc.2.2.2).2.2.1]
    simp [RV]
  have s3 : 3 ≤ sz := by decide
  simp [-Bool.exists_bool, hl, s3]
  have tW : (S.put (.tup [.int 0, .int ((rows z).length + 1), .int (-1)])).tp S.n = some [.int 0, .int ((rows z).length + 1), .int (-1)] := by unfold Sto.tp; rw [Sto.g_put_new]
  refine ⟨_, .inr ⟨(Sto.tp_ty tW).2.2.2, tW, ?_⟩⟩
  have kB : Kb b S (S.put (.tup [.int 0, .int ((rows z).length + 1), .int (-1)])) := (Kb.refl hc.1).put
  have cB := hc.kb kB
  generalize (S.put (.tup [.int 0, .int ((rows z).length + 1), .int (-1)])) = SB at *
  refine wp_forGo (i := 0) (fun _ σ S' => (∃ t13', σ = [some (.ref b), some (.str z), some (.bl nm), t3, t4, t5, t6, some (.int way), some (.ref dp), some (.ref lp), t10, t11, t12, t13', t14, t15]) ∧ Kb b SB S') ⟨⟨_, rfl⟩, Kb.refl cB.1⟩ (fun j y σ S' hy hI => ?_) fun σ S' hI => ?_
  · obtain ⟨⟨t13', rfl⟩, kk⟩ := hI
    have hok := Kb.tp kk cB.1 tW
    refine ⟨by simp [hok], ?_⟩
    have hw2 : ∃ ln : Int, y = .one (.int ln) ∧ btw (.int ln) 1 (rows z).length = false := by
      match j, hy with
      | 0, hy => exact ⟨0, (Option.some.inj hy).symm, by simp [btw]⟩
      | 1, hy => exact ⟨_, (Option.some.inj hy).symm, by simp [btw]; omega⟩
      | 2, hy => exact ⟨_, (Option.some.inj hy).symm, by simp [btw]⟩
      | j + 3, hy => simp at hy
    obtain ⟨ln, rfl, hln⟩ := hw2
    exact ⟨_, rfl, TR1_ok hz kk.2.1 hw hln fun S3 k3 => ⟨⟨_, rfl⟩, kk.trans k3⟩⟩
  · obtain ⟨⟨t13', rfl⟩, kk⟩ := hI
    have hok := Kb.tp kk cB.1 tW
    exact ⟨by simp [hok], hP _ _ (kB.trans kk)⟩
/-- drawn numbers gathered -/
theorem drawn {b n : Nat} {many : Int} {S0 : Sto} {i : Nat} {elt : ME} {σ : L2.St} {Q : Unit → Sto → Prop} {E : Str → Nat → Sto → Prop} {D : Nat} (hD : D = S0.n) (hn : n ≤ 1000) (hb : BoxOk b S0)
    (hE : ∀ (v : V) S, Kb b S0 S → (elt (σ.set i (some v)) S).wp (fun v S' => ∃ i, v = .int i ∧ 0 ≤ i ∧ i < many ∧ BoxOk b S' ∧ OnlyB b S S') fun _ _ _ => False)
    (h : ∀ S xs, Kb b S0 S → S.g D = some (.lst xs) → xs.length = n → (∀ x ∈ xs, ∃ i, x = .int i ∧ 0 ≤ i ∧ i < many) → Q () S) : (lcGo (fun _ => true) D (.nm i) mYes elt σ (Mm.intsFrom 0 n) (S0.put (.lst []))).wp Q E := by
  subst hD
  have nb : S0.n ≠ b := by have := hb.lt; omega
  have hlen : (Mm.intsFrom 0 n).length = n := by simp [Mm.intsFrom]
  refine wp_lcGo (i := 0) (fun j S => Kb b S0 S ∧ ∃ xs, S.g S0.n = some (.lst xs) ∧ xs.length = j ∧ ∀ x ∈ xs, ∃ i, x = .int i ∧ 0 ≤ i ∧ i < many) ⟨(Kb.refl hb).put, [], Sto.g_put_new, rfl, fun x hx => by cases hx⟩ (fun j y S hy ⟨k, xs, g, hx, hq⟩ => ⟨rfl, ?_⟩) fun S ⟨k, xs, g, hx, hq⟩ => ⟨rfl, h S xs k g (by rw [hx, hlen]; omega) hq⟩
  obtain ⟨hj, rfl⟩ := ints_at hy
  refine ⟨_, rfl, ?_⟩
  rw [wp_mYes, if_pos rfl]
  refine (hE _ S k).imp fun v S1 ⟨i, e, i0, i1, hb1, o1⟩ => ?_
  subst e
  have g1 := o1.g g nb
  refine ⟨xs, g1, by have : sz = 16777216 := rfl; omega, (k.trans (o1.kb hb1)).set (Nat.le_refl _) nb, xs ++ [.int i], by rw [Sto.g_set_same (Sto.g_lt g1)], by simp [hx], fun x hx' => ?_⟩
  rcases List.mem_append.mp hx' with q | q
  · exact hq x q
  · simp at q; subst q; exact ⟨i, rfl, i0, i1⟩
def SM : ME := (mIfE (mBl (mBin vLt (mCB vLen (mCons (mVar 8) mNil)) (mC (.int 150)))) (mLRg1 false (mCB vLen (mCons (mVar 8) mNil))) (mBin vAdd (mLst (mCons (mC (.int 0)) (mCons (mBin vSub (mCB vLen (mCons (mVar 1) mNil)) (mC (.int 1))) (mCons (mCB vLen (mCons (mVar 1) mNil)) mNil)))) (mLc (mRg1 (mCons (mC (.int 60)) mNil)) (.nm 15) mYes (mCB m__law_take (mCons (mVar 0) (mCons (mCB vLen (mCons (mVar 8) mNil)) mNil))) [15])))
def RWm : ME := (mIfE (mBl (mBin vLt (mCB vLen (mCons (mVar 9) mNil)) (mC (.int 13)))) (mLRg1 false (mCB vLen (mCons (mVar 9) mNil))) (mBin vAdd (mLst (mCons (mC (.int 0)) (mCons (mBin vSub (mCB vLen (mCons (mVar 9) mNil)) (mC (.int 1))) mNil))) (mLc (mRg1 (mCons (mC (.int 8)) mNil)) (.nm 15) mYes (mCB m__law_take (mCons (mVar 0) (mCons (mCB vLen (mCons (mVar 9) mNil)) mNil))) [15])))
theorem TR_def2 : m__law_text_right = mFn 16 3 (mSeq (mAsg (mTup (mCons (mCB m__law_positions (mCons (mVar 1) mNil)) (mCons (mMeth "str" wSplit (mVar 1) (mCons (mC (.str "\n")) mNil)) mNil))) (.tup [8, 9]))
    (mSeq (mSet 3 SM)
    (mSeq (mFor (mSq (mVar 3)) (.nm 4)
    TR5)
    (mSeq (mSet 5 RWm)
    (mSeq (mFor (mSq (mVar 5)) (.nm 6)
    TR4)
    (mSeq (mFor (mSq (mTup (mCons (mC (.int 1)) (mCons (mC (.int 2)) mNil)))) (.nm 7)
    TR2)
    (mRet ((mAndV (mCB m__law_refused (mCons (mC (.int 0)) (mCons (mLst (mCons (mVar 1) (mCons (mBin vAdd (mCB vLen (mCons (mVar 1) mNil)) (mC (.int 1))) mNil))) (mCons (mC (.str "index")) (mCons (mC (.int 1)) (mCons (mVar 2) mNil)))))) (mCB m__law_refused (mCons (mC (.int 0)) (mCons (mLst (mCons (mVar 1) (mCons (mUn vNeg (mC (.int 1))) mNil))) (mCons (mC (.str "index")) (mCons (mC (.int 1)) (mCons (mNotV (mVar 2)) mNil))))))))))))))) := rfl

def NumR (b n : Nat) (S : Sto) : V → Sto → Prop := fun v S' => Kb b S S' ∧ ∃ p xs, v = .ref p ∧ p ≠ b ∧ S'.ls p = some xs ∧ ∀ x ∈ xs, ∃ k : Nat, x = .int k ∧ k < n
theorem rgV_mem {n : Nat} {x : V} (h : x ∈ rgV 0 n) : ∃ k : Nat, x = .int k ∧ k < n := by
  unfold rgV at h
  obtain ⟨k, hk, rfl⟩ := List.mem_map.mp h
  rw [List.mem_range] at hk
  exact ⟨k, by congr 1; omega, by omega⟩
theorem due_len {S : Sto} {dp : Nat} {z : Str} (h : Due S dp z) : vLen [.ref dp] S = .ok (.int (z.length + 1)) S := by
  obtain ⟨xs, h1, h2, _⟩ := h
  simp only [vLen, (Sto.ls_ty h1).2.2.1, h2]
  rfl
theorem row_len {S : Sto} {lp : Nat} {z : Str} (h : S.ls lp = some (RV z)) : vLen [.ref lp] S = .ok (.int (rows z).length) S := by
  simp only [vLen, (Sto.ls_ty h).2.2.1]
  simp [RV]
theorem mkRg_wp {tup : Bool} {a b : Int} {S : Sto} {Q : V → Sto → Prop} {E : Str → Nat → Sto → Prop} : (mkRg tup a b S).wp Q E = ((-two62 ≤ a ∧ a < two62 ∧ -two62 ≤ b ∧ b < two62 ∧ (b - a).toNat ≤ 16777216) ∧ Q (.ref S.n) (S.put (if tup = true then .tup (rgV a b) else .lst (rgV a b)))) := by
  unfold mkRg
  rw [Res.wp_if, Res.wp_ok]
theorem rg_list {b n : Nat} {m : Int} {S : Sto} {Q : V → Sto → Prop} (hb : BoxOk b S) (hn : n ≤ 600000) (hm : m = n) (hQ : ∀ v S', NumR b n S v S' → Q v S') : (-two62 ≤ (0 : Int) ∧ (0 : Int) < two62 ∧ -two62 ≤ m ∧ m < two62 ∧ (m - 0).toNat ≤ 16777216) ∧ Q (.ref S.n) (S.put (if false = true then .tup (rgV 0 m) else .lst (rgV 0 m))) := by
  subst hm
  refine ⟨⟨by unfold two62; omega, by unfold two62; omega, by unfold two62; omega, by unfold two62; omega, by omega⟩, hQ _ _ ⟨(Kb.refl hb).put, S.n, rgV 0 n, rfl, Nat.ne_of_gt hb.lt, by unfold Sto.ls; rw [if_neg (by decide), Sto.g_put_new], fun x hx => rgV_mem hx⟩⟩
@[simp ↓] theorem wp_mLRg1 {tup : Bool} {m : ME} {σ : L2.St} {S : Sto} {Q : V → Sto → Prop} {E : Str → Nat → Sto → Prop} : (mLRg1 tup m σ S).wp Q E = (m σ S).wp (fun x S1 => ∃ n, x = .int n ∧ (mkRg tup 0 n S1).wp Q E) E := by
  unfold mLRg1
  rw [Res.wp_bind]
  congr 1
  funext x S1
  cases x <;> simp
/-- two lists of numbers, one behind the other -/
theorem add_lists {b n A D : Nat} {S0 S : Sto} {xs ys : List V} {E} (k : Kb b S0 S) (hA : S.g A = some (.lst xs)) (hD : S.g D = some (.lst ys)) (hl : xs.length + ys.length ≤ sz) (hx : ∀ x ∈ xs, ∃ k : Nat, x = .int k ∧ k < n) (hy : ∀ x ∈ ys, ∃ k : Nat, x = .int k ∧ k < n) : (vAdd (.ref A) (.ref D) S).wp (NumR b n S0) E := by
  simp only [vAdd, hA, hD]
  rw [if_pos hl]
  refine ⟨k.put, S.n, xs ++ ys, rfl, Nat.ne_of_gt k.2.1.lt, by unfold Sto.ls; rw [Sto.g_put_new], fun x h => ?_⟩
  rcases List.mem_append.mp h with q | q
  · exact hx x q
  · exact hy x q
theorem some_ok {b : Nat} {z : Str} {dp lp : Nat} {t2 t3 t4 t5 t6 t7 t10 t11 t12 t13 t14 t15 : Option V} {S : Sto} {E} (hz : z.length ≤ 500000) (hc : Ctx b z dp lp S) :
    (SM [some (.ref b), some (.str z), t2, t3, t4, t5, t6, t7, some (.ref dp), some (.ref lp), t10, t11, t12, t13, t14, t15] S).wp (NumR b (z.length + 1) S) E := by
  unfold SM
  have szz : sz = 16777216 := rfl
  have hd := due_len hc.2.1.2
  have s3 : 3 ≤ sz := by decide
  have hlz : ∀ S, vLen [.str z] S = .ok (.int z.length) S := fun S => by simp only [vLen]; rw [if_pos (by omega)]
  have r62 : (60 : Int) < two62 := by decide
  have r62' : -two62 ≤ (60 : Int) := by decide
  by_cases h150 : (z.length : Int) + 1 < 150
  · simp [-Bool.exists_bool, hd, h150]
    rw [mkRg_wp]
    exact rg_list (n := z.length + 1) hc.1 (by omega) (by omega) fun _ _ h => h
  · simp [-Bool.exists_bool, hd, h150, hlz, s3, r62, r62']
    have kA : Kb b S (S.put (.lst [.int 0, .int (z.length - 1), .int z.length])) := (Kb.refl hc.1).put
    have gA : (S.put (.lst [.int 0, .int (z.length - 1), .int z.length])).g S.n = some (.lst [.int 0, .int (z.length - 1), .int z.length]) := Sto.g_put_new
    have nA : S.n + 1 = (S.put (.lst [.int 0, .int (z.length - 1), .int z.length])).n := by simp
    have cA := hc.kb kA
    have lb := hc.1.lt
    have hSn : S.n ≠ b := by omega
    generalize (S.put (.lst [.int 0, .int (z.length - 1), .int z.length])) = SA at *
    refine drawn (n := 60) (many := (z.length : Int) + 1) nA (by decide) cA.1 (fun v S1 k1 => ?_) fun S1 xs k1 g1 l1 q1 => ?_
    · simp [wipe, due_len (cA.kb k1).2.1.2]
      exact tk b S1 _ _ k1.2.1 (by omega) (by omega)
    · refine add_lists (kA.trans k1) (k1.g gA hSn) g1 (by simp; omega) (fun x hx => ?_) fun x hx => ?_
      · simp only [List.mem_cons, List.not_mem_nil, or_false] at hx
        rcases hx with rfl | rfl | rfl
        · exact ⟨0, rfl, by omega⟩
        · exact ⟨z.length - 1, by congr 1; omega, by omega⟩
        · exact ⟨z.length, rfl, by omega⟩
      · obtain ⟨i, rfl, i0, i1⟩ := q1 x hx
        exact ⟨i.toNat, by congr 1; omega, by omega⟩
theorem rowsome_ok {b : Nat} {z : Str} {dp lp : Nat} {t2 t3 t4 t5 t6 t7 t10 t11 t12 t13 t14 t15 : Option V} {S : Sto} {E} (hz : z.length ≤ 500000) (hc : Ctx b z dp lp S) :
    (RWm [some (.ref b), some (.str z), t2, t3, t4, t5, t6, t7, some (.ref dp), some (.ref lp), t10, t11, t12, t13, t14, t15] S).wp (NumR b (rows z).length S) E := by
  unfold RWm
  have szz : sz = 16777216 := rfl
  have hd := row_len hc.2.2.2
  have s2 : 2 ≤ sz := by decide
  have r62 : (8 : Int) < two62 := by decide
  have r62' : -two62 ≤ (8 : Int) := by decide
  have pos := List.length_pos_iff.mpr (rowsL_ne z.cps.toList)
  have rle : (rows z).length ≤ 500001 := by
    have e : rsum (rows z) = z.cps.toList.length + 1 := rsum_rows z.cps.toList
    rw [len_toList] at e
    have k : ∀ L : List (List Nat), L.length ≤ rsum L := fun L => by
      induction L with
      | nil => exact Nat.le_refl _
      | cons a t ih => simp only [rsum, List.map_cons, List.sum_cons, List.length_cons] at *; omega
    have := k (rows z)
    omega
  have pos' : 0 < (rows z).length := pos
  by_cases h13 : ((rows z).length : Int) < 13
  · simp [-Bool.exists_bool, hd, h13]
    rw [mkRg_wp]
    exact rg_list (n := (rows z).length) hc.1 (by omega) rfl fun _ _ h => h
  · simp [-Bool.exists_bool, hd, h13, s2, r62, r62']
    have kA : Kb b S (S.put (.lst [.int 0, .int ((rows z).length - 1)])) := (Kb.refl hc.1).put
    have gA : (S.put (.lst [.int 0, .int ((rows z).length - 1)])).g S.n = some (.lst [.int 0, .int ((rows z).length - 1)]) := Sto.g_put_new
    have nA : S.n + 1 = (S.put (.lst [.int 0, .int ((rows z).length - 1)])).n := by simp
    have cA := hc.kb kA
    have lb := hc.1.lt
    have hSn : S.n ≠ b := by omega
    generalize (S.put (.lst [.int 0, .int ((rows z).length - 1)])) = SA at *
    refine drawn (n := 8) (many := ((rows z).length : Int)) nA (by decide) cA.1 (fun v S1 k1 => ?_) fun S1 xs k1 g1 l1 q1 => ?_
    · simp [wipe, row_len (cA.kb k1).2.2.2]
      exact tk b S1 _ _ k1.2.1 (by omega) (by omega)
    · refine add_lists (kA.trans k1) (k1.g gA hSn) g1 (by simp; omega) (fun x hx => ?_) fun x hx => ?_
      · simp only [List.mem_cons, List.not_mem_nil, or_false] at hx
        rcases hx with rfl | rfl
        · exact ⟨0, rfl, by omega⟩
        · exact ⟨(rows z).length - 1, by congr 1; omega, by omega⟩
      · obtain ⟨i, rfl, i0, i1⟩ := q1 x hx
        exact ⟨i.toNat, by congr 1; omega, by omega⟩
end K05

namespace K05
open PySem L2 Mm
/-- an index that is refused -/
theorem refused0 {S : Sto} {t l : V} {T L : Ty} {at_ : Int} {nm : Bool} {word : Str} {w : Str × V} {E} (hk : chkI t l = some w) (hword : wd w.1 = word) (hat : atI [t, l] at_ = some w.2) (kv : KV (S.put (.lst [t, l])) 900 w.2)
    (ht : tyN S t = some T) (hl : tyN S l = some L) (hs : Small' t) :
    (m__law_refused [.int 0, .ref S.n, .str word, .int at_, .bl nm] (S.put (.lst [t, l]))).wp (fun r S' => r = .bl true ∧ ExB w.2 (S.put (.lst [t, l])) S') E := by
  have hA : (S.put (.lst [t, l])).ls S.n = some [t, l] := by unfold Sto.ls; rw [Sto.g_put_new]
  have ex : Ex S (S.put (.lst [t, l])) := Ex.put
  have h := asked0 (nm := nm) (E := fun _ _ _ => False) hA (ex.ty ht) (ex.ty hl) hs
  rw [hk] at h
  exact refused h hword hA hat kv
theorem chk_idx {z : Str} {i : V} (h : btw i 0 z.length = false) : chkI (.str z) i = some (("InvalidIndex" : Str), i) := by
  unfold chkI
  simp only
  rw [if_neg (by rw [h]; decide)]
theorem textright {b : Nat} {z : Str} {nm : Bool} {S : Sto} {E} (hz : z.length ≤ 500000) (hb : BoxOk b S) : (m__law_text_right [.ref b, .str z, .bl nm] S).wp (fun v S' => v = .bl true ∧ Kb b S S') E := by
  rw [TR_def2, wp_mFn]
  refine ⟨rfl, ?_⟩
  have szz : sz = 16777216 := rfl
  have s2 : 2 ≤ sz := by decide
  have sm : Small' (.str z) := fun y e => by cases y; cases e; exact hz
  simp [-Bool.exists_bool]
  refine (positions hz).imp fun v S1 ⟨⟨dp, e, hdue⟩, x1⟩ => ?_
  subst e
  have hsp := split_ok (z := z) (S := S1) (by omega)
  have tT : ((S1.put (.lst (RV z))).put (.tup [.ref dp, .ref S1.n])).tp (S1.n + 1) = some [.ref dp, .ref S1.n] := by
    unfold Sto.tp
    rw [show S1.n + 1 = (S1.put (.lst (RV z))).n by simp, Sto.g_put_new]
  have hsp' : wSplit (.str z) [.str "\n"] S1 = .ok (.ref S1.n) (S1.put (.lst (RV z))) := hsp
  simp [-Bool.exists_bool, tyOk, hsp', s2, Tgt.mm, tT, setAll]
  have lb := hb.lt
  have xB : Ex S ((S1.put (.lst (RV z))).put (.tup [.ref dp, .ref S1.n])) := Ex.put' (Ex.put' x1)
  have dlt : dp ≠ b := by
    obtain ⟨xs, h1, h2, h3⟩ := hdue
    rintro rfl
    obtain ⟨q, r, c, g, hg, _⟩ := hb.ex x1
    obtain ⟨q', h4, _⟩ := h3 0 (Nat.zero_le _)
    unfold Sto.ls at h1
    rw [hg] at h1
    cases h1
    cases h4
  have cB : Ctx b z dp S1.n ((S1.put (.lst (RV z))).put (.tup [.ref dp, .ref S1.n])) := by
    refine ⟨hb.ex xB, ⟨dlt, hdue.rds (Ex.put' Ex.put).rds⟩, by have := x1.1; omega, ?_⟩
    unfold Sto.ls
    rw [Sto.g_put_old Sto.g_put_new]
  have kB : Kb b S ((S1.put (.lst (RV z))).put (.tup [.ref dp, .ref S1.n])) := Ex.kb hb xB
  generalize ((S1.put (.lst (RV z))).put (.tup [.ref dp, .ref S1.n])) = SB at *
  refine (some_ok hz cB).imp fun v S2 ⟨k2, p, xs, e, pb, hls, hxs⟩ => ?_
  subst e
  refine ⟨p, rfl, xs, .inl ⟨hls, ?_⟩⟩
  have c2 := cB.kb k2
  refine wp_forGo (i := 0) (fun _ σ S' => Shp b z (some (.ref p)) none dp S1.n σ ∧ Kb b S2 S') ⟨⟨nm, _, _, _, _, _, _, _, _, _, rfl⟩, Kb.refl c2.1⟩ (fun j y σ S' hy hI => ?_) fun σ S3 hI => ?_
  · obtain ⟨⟨nm', t4, t6, t7, t10, t11, t12, t13, t14, t15, rfl⟩, kk⟩ := hI
    have hok := Kb.ls kk hls pb
    refine ⟨by simp [hok], ?_⟩
    rw [List.getElem?_map] at hy
    obtain ⟨x, hx, rfl⟩ := Option.map_eq_some_iff.mp hy
    obtain ⟨k, rfl, hk⟩ := hxs x (List.mem_of_getElem? hx)
    exact ⟨_, rfl, TR5_ok hz (c2.kb kk) (by omega) fun σ S3 h1 h2 => ⟨h1, kk.trans h2⟩⟩
  · obtain ⟨⟨nm', t4, t6, t7, t10, t11, t12, t13, t14, t15, rfl⟩, kk⟩ := hI
    have hok := Kb.ls kk hls pb
    refine ⟨by simp [hok], ?_⟩
    have c3 := c2.kb kk
    have k3 := (kB.trans k2).trans kk
    refine (rowsome_ok hz c3).imp fun v S4 ⟨k4, p2, ys, e, pb2, hls2, hys⟩ => ?_
    subst e
    simp [-Bool.exists_bool]
    refine ⟨ys, .inl ⟨hls2, ?_⟩⟩
    have c4 := c3.kb k4
    refine wp_forGo (i := 0) (fun _ σ S' => Shp b z (some (.ref p)) (some (.ref p2)) dp S1.n σ ∧ Kb b S4 S') ⟨⟨nm', _, _, _, _, _, _, _, _, _, rfl⟩, Kb.refl c4.1⟩ (fun j y σ S' hy hI => ?_) fun σ S5 hI => ?_
    · obtain ⟨⟨nm2, u4, u6, u7, u10, u11, u12, u13, u14, u15, rfl⟩, kk2⟩ := hI
      have hok2 := Kb.ls kk2 hls2 pb2
      refine ⟨by simp [hok2], ?_⟩
      rw [List.getElem?_map] at hy
      obtain ⟨x, hx, rfl⟩ := Option.map_eq_some_iff.mp hy
      obtain ⟨k, rfl, hk⟩ := hys x (List.mem_of_getElem? hx)
      exact ⟨_, rfl, TR4_ok hz (c4.kb kk2) (List.getElem?_eq_getElem hk) fun σ S3 h1 h2 => ⟨h1, kk2.trans h2⟩⟩
    · obtain ⟨⟨nm2, u4, u6, u7, u10, u11, u12, u13, u14, u15, rfl⟩, kk2⟩ := hI
      have hok2 := Kb.ls kk2 hls2 pb2
      refine ⟨by simp [hok2], ?_⟩
      have c5 := c4.kb kk2
      have k5 := (k3.trans k4).trans kk2
      simp [-Bool.exists_bool, s2]
      have tW : (S5.put (.tup [.int 1, .int 2])).tp S5.n = some [.int 1, .int 2] := by unfold Sto.tp; rw [Sto.g_put_new]
      refine ⟨_, .inr ⟨(Sto.tp_ty tW).2.2.2, tW, ?_⟩⟩
      have k6 : Kb b S (S5.put (.tup [.int 1, .int 2])) := k5.put
      have c6 : Ctx b z dp S1.n (S5.put (.tup [.int 1, .int 2])) := c5.kb (Kb.refl c5.1).put
      generalize S5.put (.tup [.int 1, .int 2]) = SC at *
      refine wp_forGo (i := 0) (fun _ σ S' => Shp b z (some (.ref p)) (some (.ref p2)) dp S1.n σ ∧ Kb b SC S') ⟨⟨nm2, _, _, _, _, _, _, _, _, _, rfl⟩, Kb.refl c6.1⟩ (fun j y σ S' hy hI => ?_) fun σ S7 hI => ?_
      · obtain ⟨⟨nm3, w4, w6, w7, w10, w11, w12, w13, w14, w15, rfl⟩, kk3⟩ := hI
        have hok3 := Kb.tp kk3 c6.1 tW
        refine ⟨by simp [hok3], ?_⟩
        have hw : ∃ way : Int, y = .one (.int way) ∧ (way = 1 ∨ way = 2) := by
          match j, hy with
          | 0, hy => exact ⟨1, (Option.some.inj hy).symm, .inl rfl⟩
          | 1, hy => exact ⟨2, (Option.some.inj hy).symm, .inr rfl⟩
          | j + 2, hy => simp at hy
        obtain ⟨way, rfl, hw⟩ := hw
        exact ⟨_, rfl, TR2_ok hz (c6.kb kk3) hw fun S3 t13 h2 => ⟨⟨nm3, _, _, _, _, _, _, _, _, _, rfl⟩, kk3.trans h2⟩⟩
      · obtain ⟨⟨nm3, w4, w6, w7, w10, w11, w12, w13, w14, w15, rfl⟩, kk3⟩ := hI
        have hok3 := Kb.tp kk3 c6.1 tW
        refine ⟨by simp [hok3], ?_⟩
        have k7 := k6.trans kk3
        have hlz : ∀ S, vLen [.str z] S = .ok (.int z.length) S := fun S => by simp only [vLen]; rw [if_pos (by omega)]
        simp [-Bool.exists_bool, s2, hlz]
        refine (refused0 (w := (("InvalidIndex" : Str), .int (z.length + 1))) (chk_idx (by simp [btw]; omega)) w2 rfl (.sc (.inr (.inr (.inl ⟨_, rfl⟩)))) rfl rfl sm).imp fun v S8 ⟨e, x⟩ => ?_
        subst e
        have x8 : Ex S7 S8 := Ex.put.trans (exB_int x)
        simp [-Bool.exists_bool]
        refine (refused0 (w := (("InvalidIndex" : Str), .int (-1))) (chk_idx (by simp [btw])) w2 rfl (.sc (.inr (.inr (.inl ⟨_, rfl⟩)))) rfl rfl sm).imp fun v S9 ⟨e, x⟩ => ?_
        exact ⟨e, k7.trans (Ex.kb k7.2.1 (x8.trans (Ex.put.trans (exB_int x))))⟩
end K05

namespace K05
open PySem L2 Mm
/-! ### _law_wrong_right, law -/
def WR1 : MS := (mSeq (mSet 4 (mCB m__law_pick (mCons (mVar 0) (mCons (mLst (mCons (mC .non) (mCons (mC (.int 5)) (mCons (mC (.bl true)) (mCons (mLst (mCons (mC (.str "a")) mNil)) (mCons (mTup (mCons (mC (.str "a")) (mCons (mC (.str "b")) mNil))) (mCons (mDisp [((mC (.str "a")), (mC (.int 1)))]) (mCons (mLst mNil) (mCons (mTup mNil) mNil))))))))) mNil))))
    (mSeq (mIf (mNot (mTru (mCB m__law_refused (mCons (mVar 3) (mCons (mLst (mCons (mVar 4) (mCons (mCB m__law_pick (mCons (mVar 0) (mCons (mLst (mCons (mC (.int 0)) (mCons (mC (.int 1)) (mCons (mC .non) (mCons (mUn vNeg (mC (.int 1))) mNil))))) mNil))) (mCons (mCB m__law_pick (mCons (mVar 0) (mCons (mLst (mCons (mC (.int 1)) (mCons (mC .non) mNil))) mNil))) mNil)))) (mCons (mC (.str "text")) (mCons (mC (.int 0)) (mCons (mVar 2) mNil))))))))
    (mRet (mC (.bl false)))
    mNext)
    (mSeq (mSet 5 (mCB m__law_pick (mCons (mVar 0) (mCons (mLst (mCons (mC .non) (mCons (mC (.bl true)) (mCons (mC (.bl false)) (mCons (mC (.str "1")) (mCons (mLst (mCons (mC (.int 1)) mNil)) (mCons (mTup (mCons (mC (.int 1)) mNil)) (mCons (mDisp [((mC (.str "1")), (mC (.int 1)))]) (mCons (mLst mNil) (mCons (mBin vPow (mC (.int 10)) (mC (.int 19))) (mCons (mUn vNeg (mBin vPow (mC (.int 10)) (mC (.int 19)))) mNil))))))))))) mNil))))
    (mSeq (mIf (mNot (mTru (mCB m__law_refused (mCons (mVar 3) (mCons (mLst (mCons (mVar 1) (mCons (mVar 5) (mCons (mCB m__law_pick (mCons (mVar 0) (mCons (mLst (mCons (mC (.int 1)) (mCons (mC (.int 0)) (mCons (mC .non) (mCons (mC (.str "1")) mNil))))) mNil))) mNil)))) (mCons (mIfE (mBl (mBin vEq (mVar 3) (mC (.int 0)))) (mC (.str "index")) (mC (.str "line"))) (mCons (mC (.int 1)) (mCons (mNotV (mVar 2)) mNil))))))))
    (mRet (mC (.bl false)))
    mNext)
    (mSeq (mSet 5 (mCB m__law_pick (mCons (mVar 0) (mCons (mLst (mCons (mC .non) (mCons (mC (.bl true)) (mCons (mC (.bl false)) (mCons (mC (.str "1")) (mCons (mLst (mCons (mC (.int 1)) mNil)) (mCons (mTup (mCons (mC (.int 1)) mNil)) (mCons (mDisp [((mC (.str "1")), (mC (.int 1)))]) (mCons (mLst mNil) (mCons (mBin vPow (mC (.int 10)) (mC (.int 19))) (mCons (mUn vNeg (mC (.int 1))) mNil))))))))))) mNil))))
    (mSeq (mIf ((mAnd (mBl (mBin vGt (mVar 3) (mC (.int 0)))) (mNot (mTru (mCB m__law_refused (mCons (mVar 3) (mCons (mLst (mCons (mVar 1) (mCons (mBin vAdd (mC (.int 1)) (mCB m__law_take (mCons (mVar 0) (mCons (mCB vLen (mCons (mMeth "str" wSplit (mVar 1) (mCons (mC (.str "\n")) mNil)) mNil)) mNil)))) (mCons (mVar 5) mNil)))) (mCons (mC (.str "column")) (mCons (mC (.int 2)) (mCons (mVar 2) mNil))))))))))
    (mRet (mC (.bl false)))
    mNext)
    (mSet 2 (mNotV (mVar 2)))))))))
theorem WR_def : m__law_wrong_right = mFn 6 3 (mSeq (mFor (mRg1 (mCons (mC (.int 3)) mNil)) (.nm 3)
    WR1)
    (mRet (mC (.bl true)))) := rfl
def LW1 : MS := (mSeq (mSet 5 (mIfE ((mAnd (mBl (mBin vEq (mVar 4) (mC (.int 3)))) (mBl (mBin vEq (mCB m__law_take (mCons (mVar 2) (mCons (mC (.int 3)) mNil))) (mC (.int 0)))))) (mC (.str "")) (mCB m__law_text (mCons (mVar 2) (mCons (mBin vIx (mLst (mCons (mC (.int 0)) (mCons (mC (.int 1)) (mCons (mC (.int 0)) (mCons (mCB m__law_pick (mCons (mVar 2) (mCons (mLst (mCons (mC (.int 0)) (mCons (mC (.int 2)) (mCons (mC (.int 3)) (mCons (mC (.int 1)) mNil))))) mNil))) mNil))))) (mVar 4)) mNil)))))
    (mSeq (mIf ((mOr (mNot (mTru (mCB m__law_text_right (mCons (mVar 2) (mCons (mVar 5) (mCons (mVar 3) mNil)))))) (mNot (mTru (mCB m__law_wrong_right (mCons (mVar 2) (mCons (mVar 5) (mCons (mNotV (mVar 3)) mNil))))))))
    (mRet (mC (.bl false)))
    mNext)
    (mSet 3 (mNotV (mVar 3)))))
def LW2 : MS := (mSeq (mSet 2 (mCB m__law_box (mCons (mCB m__law_cell (mCons (mVar 0) (mCons (mVar 1) mNil))) mNil)))
    (mSeq (mSet 3 (mBin vEq (mCB m__law_take (mCons (mVar 2) (mCons (mC (.int 2)) mNil))) (mC (.int 0))))
    (mFor (mRg1 (mCons (mC (.int 4)) mNil)) (.nm 4)
    LW1)))
theorem LW_def : m_law = mFn 6 1 (mSeq (mFor (mRg1 (mCons (mC (.int 2)) mNil)) (.nm 1)
    LW2)
    (mRet (mC (.bl true)))) := rfl

theorem KV.cg {S S' : Sto} {m : Nat} {v : V} (h : KV S m v) (k : ∀ a, v = .ref a → S'.cg a = S.cg a) : KV S' m v := by
  cases h with
  | sc h => exact .sc h
  | lst h hx l => exact .lst (Sto.g_cg (k _ rfl) h rfl (by simp)) hx l
  | tup h hx l => exact .tup (Sto.g_cg (k _ rfl) h rfl (by simp)) hx l
  | dct h hx l => exact .dct (Sto.g_cg (k _ rfl) h rfl (by simp)) hx l
/-- handed in: a flat value that stays while numbers are drawn -/
def Hd (b : Nat) (S : Sto) (v : V) : Prop := KV S 900 v ∧ v ≠ .ref b ∧ ∀ a, v = .ref a → a < S.n
theorem Hd.kb {b : Nat} {S S' : Sto} {v : V} (h : Hd b S v) (k : Kb b S S') : Hd b S' v :=
  ⟨KV.cg h.1 fun a e => k.2.2 a (h.2.2 a e) fun z => h.2.1 (by rw [e, z]), h.2.1, fun a e => Nat.lt_of_lt_of_le (h.2.2 a e) k.1⟩
theorem Hd.sc {b : Nat} {S : Sto} {v : V} (h : Sc v) : Hd b S v := by
  refine ⟨.sc h, ?_, fun a e => ?_⟩
  · rintro rfl
    rcases h with q | ⟨_, q⟩ | ⟨_, q⟩ | ⟨_, q⟩ <;> cases q
  · subst e
    rcases h with q | ⟨_, q⟩ | ⟨_, q⟩ | ⟨_, q⟩ <;> cases q
/-- a pick among flat values -/
theorem pickHd {b l : Nat} {S : Sto} {xs : List V} {E} (hb : BoxOk b S) (h : S.sq l = some xs) (hl : l ≠ b) (h0 : xs ≠ []) (h1 : xs.length < 1000) (hx : ∀ x ∈ xs, Hd b S x) :
    (m__law_pick [.ref b, .ref l] S).wp (fun v S' => v ∈ xs ∧ Hd b S' v ∧ Kb b S S') E := by
  rw [pick_eq]
  exact (pick_ok tk hb h hl h0 (by omega)).imp fun v S' ⟨hv, hb1, o1⟩ => ⟨hv, (hx v hv).kb (o1.kb hb1), o1.kb hb1⟩
/-- what a refusal leaves -/
theorem Kb.exB {b : Nat} {S0 S S' : Sto} {v : V} (hk : Kb b S0 S) (h : ExB v S S') (hv : ∀ a, v = .ref a → S0.n ≤ a) (hvb : v ≠ .ref b) : Kb b S0 S' := by
  refine ⟨Nat.le_trans hk.1 h.1, ?_, fun a l n => ?_⟩
  · obtain ⟨q, r, c, g, e, k⟩ := hk.2.1
    exact ⟨q, r, c, g, Sto.g_cg (h.2 b (Sto.g_lt e) hvb) e rfl (by simp), k⟩
  · rw [h.2 a (Nat.lt_of_lt_of_le l hk.1) fun e => by have := hv a e; omega]
    exact hk.2.2 a l n
/-- the wrong values are of no use as an index, a line, a column -/
def NoInt (v : V) (m : Nat) : Prop := btw v 0 m = false ∧ btw v 1 m = false
theorem text_no {t l c : V} (h : isStr t = false) : chk t l c = some (("InvalidText" : Str), t) ∧ chkI t l = some (("InvalidText" : Str), t) := by
  cases t <;> first | exact ⟨rfl, rfl⟩ | cases h
/-- refused by way 0, 1 or 2 with three arguments -/
theorem refused3 {S : Sto} {t l c : V} {T L C : Ty} {way : Nat} {at_ : Int} {nm : Bool} {word : Str} {w : Str × V} {E} (hw : way < 3) (hk0 : way = 0 → chkI t l = some w) (hk : way ≠ 0 → chk t l c = some w) (hword : wd w.1 = word) (hat : atI [t, l, c] at_ = some w.2) (kv : KV (S.put (.lst [t, l, c])) 900 w.2)
    (ht : tyN S t = some T) (hl : tyN S l = some L) (hc : tyN S c = some C) (hs : Small' t) :
    (m__law_refused [.int way, .ref S.n, .str word, .int at_, .bl nm] (S.put (.lst [t, l, c]))).wp (fun r S' => r = .bl true ∧ ExB w.2 (S.put (.lst [t, l, c])) S') E := by
  have hA : (S.put (.lst [t, l, c])).ls S.n = some [t, l, c] := by unfold Sto.ls; rw [Sto.g_put_new]
  have ex : Ex S (S.put (.lst [t, l, c])) := Ex.put
  match way, hw with
  | 0, _ =>
    have h := asked0 (nm := nm) (E := fun _ _ _ => False) hA (ex.ty ht) (ex.ty hl) hs
    rw [hk0 rfl] at h
    exact refused h hword hA hat kv
  | 1, _ =>
    have h := asked1 (nm := nm) (E := fun _ _ _ => False) hA (ex.ty ht) (ex.ty hl) (ex.ty hc) hs
    rw [hk (by decide)] at h
    exact refused h hword hA hat kv
  | 2, _ =>
    have h := asked2 (nm := nm) (E := fun _ _ _ => False) hA (ex.ty ht) (ex.ty hl) (ex.ty hc) hs
    rw [hk (by decide)] at h
    exact refused h hword hA hat kv
theorem st1 {b : Nat} {S : Sto} (hb : BoxOk b S) :
    ∃ SA, SA = ((((((S.put (MO.lst [V.str "a"])).put (MO.tup [V.str "a", V.str "b"])).put (MO.dct [])).set (S.n + 1 + 1) (MO.dct [(Sum.inr "a", V.int 1)])).put (MO.lst [])).put (MO.tup [])).put (MO.lst [V.non, V.int 5, V.bl true, V.ref S.n, V.ref (S.n + 1), V.ref (S.n + 1 + 1), V.ref (S.n + 1 + 1 + 1), V.ref (S.n + 1 + 1 + 1 + 1)]) ∧
      Kb b S SA ∧ SA.sq (S.n + 1 + 1 + 1 + 1 + 1) = some [V.non, V.int 5, V.bl true, V.ref S.n, V.ref (S.n + 1), V.ref (S.n + 1 + 1), V.ref (S.n + 1 + 1 + 1), V.ref (S.n + 1 + 1 + 1 + 1)] ∧
      ∀ x ∈ [V.non, V.int 5, V.bl true, V.ref S.n, V.ref (S.n + 1), V.ref (S.n + 1 + 1), V.ref (S.n + 1 + 1 + 1), V.ref (S.n + 1 + 1 + 1 + 1)], Hd b SA x ∧ isStr x = false ∧ ∀ a, x = .ref a → S.n ≤ a := by
  refine ⟨_, rfl, ?_, ?_, ?_⟩
  · exact ((((Kb.refl hb).put.put.put).set (by omega) (by have := hb.lt; omega)).put.put).put
  · simp [Sto.sq, Sto.ls, Sto.g_put, Sto.g_set, Nat.add_assoc]
  · have lb := hb.lt
    have nr : ∀ a : Nat, S.n ≤ a → V.ref a ≠ V.ref b := fun a h e => by
      have e2 : a = b := V.ref.inj e
      omega
    have sc : Sc (.str "a") := .inr (.inr (.inr ⟨_, rfl⟩))
    have sc2 : Sc (.str "b") := .inr (.inr (.inr ⟨_, rfl⟩))
    intro x hx
    simp only [List.mem_cons, List.not_mem_nil, or_false] at hx
    rcases hx with rfl | rfl | rfl | rfl | rfl | rfl | rfl | rfl
    · exact ⟨Hd.sc (.inl rfl), rfl, fun a e => by cases e⟩
    · exact ⟨Hd.sc (.inr (.inr (.inl ⟨_, rfl⟩))), rfl, fun a e => by cases e⟩
    · exact ⟨Hd.sc (.inr (.inl ⟨_, rfl⟩)), rfl, fun a e => by cases e⟩
    · exact ⟨⟨.lst (xs := [.str "a"]) (by simp [Sto.g_put, Sto.g_set, Nat.add_assoc]) (by simp [sc]) (by simp), nr _ (by omega), fun a e => by cases e; show (S.n : Nat) < _; simp only [Sto.n_put', Sto.n_set']; omega⟩, rfl, fun a e => by cases e; omega⟩
    · exact ⟨⟨.tup (xs := [.str "a", .str "b"]) (by simp [Sto.g_put, Sto.g_set, Nat.add_assoc]) (by simp [sc, sc2]) (by simp), nr _ (by omega), fun a e => by cases e; simp <;> omega⟩, rfl, fun a e => by cases e; omega⟩
    · exact ⟨⟨.dct (kvs := [(Sum.inr "a", .int 1)]) (by simp [Sto.g_put, Sto.g_set, Nat.add_assoc]) (by simp; exact .inr (.inr (.inl ⟨_, rfl⟩))) (by simp), nr _ (by omega), fun a e => by cases e; simp <;> omega⟩, rfl, fun a e => by cases e; omega⟩
    · exact ⟨⟨.lst (xs := []) (by simp [Sto.g_put, Sto.g_set, Nat.add_assoc]) (by simp) (by simp), nr _ (by omega), fun a e => by cases e; simp <;> omega⟩, rfl, fun a e => by cases e; omega⟩
    · exact ⟨⟨.tup (xs := []) (by simp [Sto.g_put, Sto.g_set, Nat.add_assoc]) (by simp) (by simp), nr _ (by omega), fun a e => by cases e; simp <;> omega⟩, rfl, fun a e => by cases e; omega⟩
theorem st2 {b : Nat} {S : Sto} {y : Int} (hb : BoxOk b S) :
    ∃ SA, SA = (((((S.put (MO.lst [V.int 1])).put (MO.tup [V.int 1])).put (MO.dct [])).set (S.n + 1 + 1) (MO.dct [(Sum.inr "1", V.int 1)])).put (MO.lst [])).put (MO.lst [V.non, V.bl true, V.bl false, V.str "1", V.ref S.n, V.ref (S.n + 1), V.ref (S.n + 1 + 1), V.ref (S.n + 1 + 1 + 1), V.int 10000000000000000000, V.int y]) ∧
      Kb b S SA ∧ SA.sq (S.n + 1 + 1 + 1 + 1) = some [V.non, V.bl true, V.bl false, V.str "1", V.ref S.n, V.ref (S.n + 1), V.ref (S.n + 1 + 1), V.ref (S.n + 1 + 1 + 1), V.int 10000000000000000000, V.int y] ∧
      ∀ x ∈ [V.non, V.bl true, V.bl false, V.str "1", V.ref S.n, V.ref (S.n + 1), V.ref (S.n + 1 + 1), V.ref (S.n + 1 + 1 + 1), V.int 10000000000000000000, V.int y], Hd b SA x ∧ (∀ n, x = .int n → n = 10000000000000000000 ∨ n = y) ∧ ∀ a, x = .ref a → S.n ≤ a := by
  refine ⟨_, rfl, ?_, ?_, ?_⟩
  · exact ((((Kb.refl hb).put.put.put).set (by omega) (by have := hb.lt; omega)).put).put
  · simp [Sto.sq, Sto.ls, Sto.g_put, Sto.g_set, Nat.add_assoc]
  · have lb := hb.lt
    have nr : ∀ a : Nat, S.n ≤ a → V.ref a ≠ V.ref b := fun a h e => by
      have e2 : a = b := V.ref.inj e
      omega
    have sc : Sc (.int 1) := .inr (.inr (.inl ⟨_, rfl⟩))
    intro x hx
    simp only [List.mem_cons, List.not_mem_nil, or_false] at hx
    rcases hx with rfl | rfl | rfl | rfl | rfl | rfl | rfl | rfl | rfl | rfl
    · exact ⟨Hd.sc (.inl rfl), (fun n e => by cases e), fun a e => by cases e⟩
    · exact ⟨Hd.sc (.inr (.inl ⟨_, rfl⟩)), (fun n e => by cases e), fun a e => by cases e⟩
    · exact ⟨Hd.sc (.inr (.inl ⟨_, rfl⟩)), (fun n e => by cases e), fun a e => by cases e⟩
    · exact ⟨Hd.sc (.inr (.inr (.inr ⟨_, rfl⟩))), (fun n e => by cases e), fun a e => by cases e⟩
    · exact ⟨⟨.lst (xs := [.int 1]) (by simp [Sto.g_put, Sto.g_set, Nat.add_assoc]) (by simp [sc]) (by simp), nr _ (by omega), fun a e => by cases e; show (S.n : Nat) < _; simp only [Sto.n_put', Sto.n_set']; omega⟩, (fun n e => by cases e), fun a e => by cases e; omega⟩
    · exact ⟨⟨.tup (xs := [.int 1]) (by simp [Sto.g_put, Sto.g_set, Nat.add_assoc]) (by simp [sc]) (by simp), nr _ (by omega), fun a e => by cases e; simp <;> omega⟩, (fun n e => by cases e), fun a e => by cases e; omega⟩
    · exact ⟨⟨.dct (kvs := [(Sum.inr "1", .int 1)]) (by simp [Sto.g_put, Sto.g_set, Nat.add_assoc]) (by simp [sc]) (by simp), nr _ (by omega), fun a e => by cases e; simp <;> omega⟩, (fun n e => by cases e), fun a e => by cases e; omega⟩
    · exact ⟨⟨.lst (xs := []) (by simp [Sto.g_put, Sto.g_set, Nat.add_assoc]) (by simp) (by simp), nr _ (by omega), fun a e => by cases e; simp <;> omega⟩, (fun n e => by cases e), fun a e => by cases e; omega⟩
    · exact ⟨Hd.sc (.inr (.inr (.inl ⟨_, rfl⟩))), (fun n e => by cases e; exact .inl rfl), fun a e => by cases e⟩
    · exact ⟨Hd.sc (.inr (.inr (.inl ⟨_, rfl⟩))), (fun n e => by cases e; exact .inr rfl), fun a e => by cases e⟩
theorem no_btw {v : V} {lo m : Nat} (hm : m ≤ 600000) (h : ∀ n, v = .int n → n = 10000000000000000000 ∨ n < 0) : btw v lo m = false := by
  cases v with
  | int n =>
    have := h n rfl
    simp [btw]
    omega
  | _ => rfl
theorem WR1_ok {b way : Nat} {z : Str} {nm : Bool} {t4 t5 : Option V} {S : Sto} {P : Po} (hz : z.length ≤ 500000) (hb : BoxOk b S) (hw : way < 3)
    (hP : ∀ S' t4 t5, Kb b S S' → P.nx [some (.ref b), some (.str z), some (.bl !nm), some (.int way), t4, t5] S') :
    (WR1 [some (.ref b), some (.str z), some (.bl nm), some (.int way), t4, t5] S).wp P := by
  unfold WR1
  have szz : sz = 16777216 := rfl
  have s8 : 8 ≤ sz := by omega
  have s1 : 1 ≤ sz := by omega
  have s2 : 2 ≤ sz := by omega
  have s3 : 3 ≤ sz := by omega
  have s4 : 4 ≤ sz := by omega
  have s10 : 10 ≤ sz := by omega
  simp [-Bool.exists_bool, s1, s2, s8, keyOf, Sto.g_put]
  obtain ⟨SA, eA, kA, qA, hA⟩ := st1 hb
  rw [← eA]
  have lA := hb.lt
  refine (pickHd kA.2.1 qA (by omega) (by simp) (by simp) fun x hx => (hA x hx).1).imp fun v S1 ⟨hv, hd, k1⟩ => ?_
  obtain ⟨_, hst, hge⟩ := hA v hv
  have kS1 : Kb b S S1 := kA.trans k1
  have sm : Small' v := fun y e => by subst e; cases hst
  have smz : Small' (.str z) := fun y e => by cases y; cases e; exact hz
  simp [-Bool.exists_bool, s4, s3]
  have kp1 : Kb b S1 (S1.put (.lst [.int 0, .int 1, .non, .int (-1)])) := (Kb.refl k1.2.1).put
  refine (pickHd (xs := [.int 0, .int 1, .non, .int (-1)]) kp1.2.1 (l := S1.n) (by unfold Sto.sq Sto.ls; rw [Sto.g_put_new]) (by have := k1.2.1.lt; omega) (by simp) (by simp) (fun x hx => ?_)).imp fun x S2 ⟨hx, hdx, k2⟩ => ?_
  · simp only [List.mem_cons, List.not_mem_nil, or_false] at hx
    rcases hx with rfl | rfl | rfl | rfl
    · exact Hd.sc (.inr (.inr (.inl ⟨_, rfl⟩)))
    · exact Hd.sc (.inr (.inr (.inl ⟨_, rfl⟩)))
    · exact Hd.sc (.inl rfl)
    · exact Hd.sc (.inr (.inr (.inl ⟨_, rfl⟩)))
  have kp2 : Kb b S2 (S2.put (.lst [.int 1, .non])) := (Kb.refl k2.2.1).put
  refine (pickHd (xs := [.int 1, .non]) kp2.2.1 (l := S2.n) (by unfold Sto.sq Sto.ls; rw [Sto.g_put_new]) (by have := k2.2.1.lt; omega) (by simp) (by simp) (fun x hx => ?_)).imp fun y S3 ⟨hy, hdy, k3⟩ => ?_
  · simp only [List.mem_cons, List.not_mem_nil, or_false] at hx
    rcases hx with rfl | rfl
    · exact Hd.sc (.inr (.inr (.inl ⟨_, rfl⟩)))
    · exact Hd.sc (.inl rfl)
  have kS3 : Kb b S1 S3 := ((kp1.trans k2).trans kp2).trans k3
  have hd3 := hd.kb kS3
  obtain ⟨T1, hT1⟩ := hd3.1.ty
  obtain ⟨T2, hT2⟩ := (hdx.kb (kp2.trans k3)).1.ty
  obtain ⟨T3, hT3⟩ := hdy.1.ty
  have tn := @text_no v x y hst
  refine (refused3 (t := v) (l := x) (c := y) (w := (("InvalidText" : Str), v)) hw (fun _ => tn.2) (fun _ => tn.1) w1 (Mm.atI_nat (i := 0) rfl) (hd3.1.ex Ex.put) hT1 hT2 hT3 sm).imp fun u S4 ⟨eu, xB⟩ => ?_
  subst eu
  have k4 : Kb b S S4 := Kb.exB ((kS1.trans kS3).put) xB hge hd.2.1
  refine ⟨true, rfl, ?_⟩
  simp [-Bool.exists_bool, s10]
  obtain ⟨SB, eB, kB, qB, hB⟩ := st2 (S := S4) (y := -10000000000000000000) k4.2.1
  rw [← eB]
  have n4 : S.n ≤ S4.n := k4.1
  refine (pickHd kB.2.1 qB (by have := k4.2.1.lt; omega) (by simp) (by simp) fun x hx => (hB x hx).1).imp fun v2 S5 ⟨hv2, hd2, k5⟩ => ?_
  obtain ⟨_, hint2, hge2⟩ := hB v2 hv2
  have kp5 : Kb b S5 (S5.put (.lst [.int 1, .int 0, .non, .str "1"])) := (Kb.refl k5.2.1).put
  refine (pickHd (xs := [.int 1, .int 0, .non, .str "1"]) kp5.2.1 (l := S5.n) (by unfold Sto.sq Sto.ls; rw [Sto.g_put_new]) (by have := k5.2.1.lt; omega) (by simp) (by simp) (fun x hx => ?_)).imp fun x2 S6 ⟨hx2, hdx2, k6⟩ => ?_
  · simp only [List.mem_cons, List.not_mem_nil, or_false] at hx
    rcases hx with rfl | rfl | rfl | rfl
    · exact Hd.sc (.inr (.inr (.inl ⟨_, rfl⟩)))
    · exact Hd.sc (.inr (.inr (.inl ⟨_, rfl⟩)))
    · exact Hd.sc (.inl rfl)
    · exact Hd.sc (.inr (.inr (.inr ⟨_, rfl⟩)))
  have hd6 := hd2.kb (kp5.trans k6)
  obtain ⟨T4, hT4⟩ := hd6.1.ty
  obtain ⟨T5, hT5⟩ := hdx2.1.ty
  have k56 : Kb b S S6 := (k4.trans kB).trans (k5.trans (kp5.trans k6))
  have hneg : ∀ n, v2 = .int n → n = 10000000000000000000 ∨ n < 0 := fun n e => by have := hint2 n e; omega
  have rle : (rows z).length ≤ 500001 := by
    have e : rsum (rows z) = z.cps.toList.length + 1 := rsum_rows z.cps.toList
    rw [len_toList] at e
    have k : ∀ L : List (List Nat), L.length ≤ rsum L := fun L => by
      induction L with
      | nil => exact Nat.le_refl _
      | cons a t ih => simp only [rsum, List.map_cons, List.sum_cons, List.length_cons] at *; omega
    have := k (rows z)
    omega
  by_cases h0 : way = 0
  · subst h0
    simp [-Bool.exists_bool]
    refine (refused3 (way := 0) (t := .str z) (l := v2) (c := x2) (w := (("InvalidIndex" : Str), v2)) (by decide) (fun _ => chk_idx (no_btw (lo := 0) (by omega) hneg)) (fun h => absurd rfl h) w2 (Mm.atI_nat (i := 1) rfl) (hd6.1.ex Ex.put) rfl hT4 hT5 smz).imp fun u S7 ⟨eu, xB2⟩ => ?_
    subst eu
    have k7 : Kb b S S7 := Kb.exB k56.put xB2 (fun a e => Nat.le_trans n4 (hge2 a e)) hd2.2.1
    refine ⟨true, rfl, ?_⟩
    simp [-Bool.exists_bool, s10]
    obtain ⟨SC, eC, kC, qC, hC⟩ := st2 (S := S7) (y := -1) k7.2.1
    rw [← eC]
    refine (pickHd kC.2.1 qC (by have := k7.2.1.lt; omega) (by simp) (by simp) fun x hx => (hC x hx).1).imp fun v3 S8 ⟨hv3, hd3', k8⟩ => ?_
    exact hP _ _ _ ((k7.trans kC).trans k8)
  · have hw0 : (0 : Int) < way := by omega
    simp [-Bool.exists_bool, h0]
    refine (refused3 (t := .str z) (l := v2) (c := x2) (w := (("InvalidLine" : Str), v2)) hw (fun h => absurd h h0) (fun _ => chk_line (no_btw (lo := 1) (by omega) hneg)) w3 (Mm.atI_nat (i := 1) rfl) (hd6.1.ex Ex.put) rfl hT4 hT5 smz).imp fun u S7 ⟨eu, xB2⟩ => ?_
    subst eu
    have k7 : Kb b S S7 := Kb.exB k56.put xB2 (fun a e => Nat.le_trans n4 (hge2 a e)) hd2.2.1
    refine ⟨true, rfl, ?_⟩
    simp [-Bool.exists_bool, s10]
    obtain ⟨SC, eC, kC, qC, hC⟩ := st2 (S := S7) (y := -1) k7.2.1
    rw [← eC]
    refine (pickHd kC.2.1 qC (by have := k7.2.1.lt; omega) (by simp) (by simp) fun x hx => (hC x hx).1).imp fun v3 S8 ⟨hv3, hd3', k8⟩ => ?_
    have hw1 : 0 < way := by omega
    have pos : 0 < (rows z).length := List.length_pos_iff.mpr (rowsL_ne z.cps.toList)
    have hsp : wSplit (.str z) [.str "\n"] S8 = .ok (.ref S8.n) (S8.put (.lst (RV z))) := split_ok (z := z) (S := S8) (by omega)
    have hrl : vLen [.ref S8.n] (S8.put (.lst (RV z))) = .ok (.int (rows z).length) (S8.put (.lst (RV z))) := row_len (by unfold Sto.ls; rw [Sto.g_put_new])
    simp [-Bool.exists_bool, hw1, tyOk, hsp, hrl]
    have k8p : Kb b S8 (S8.put (.lst (RV z))) := (Kb.refl k8.2.1).put
    refine (tk b _ (rows z).length _ k8p.2.1 (by omega) (by omega)).imp fun u S9 ⟨i, e, i0, i1, hb9, o9⟩ => ?_
    subst e
    obtain ⟨k, rfl⟩ : ∃ k : Nat, i = k := ⟨i.toNat, by omega⟩
    have k9 : Kb b S8 S9 := k8p.trans (o9.kb hb9)
    have hd9 := hd3'.kb k9
    obtain ⟨T6, hT6⟩ := hd9.1.ty
    obtain ⟨_, hint3, hge3⟩ := hC v3 hv3
    have hneg3 : ∀ n, v3 = .int n → n = 10000000000000000000 ∨ n < 0 := fun n e => by have := hint3 n e; omega
    obtain ⟨r, hr⟩ : ∃ r, (rows z)[k]? = some r := ⟨_, List.getElem?_eq_getElem (by omega)⟩
    have rl := (rows_len (z := z) (by omega)).2 _ _ hr
    have rl2 : r.length ≤ 600000 - 1 := by
      have e : rsum (rows z) = z.cps.toList.length + 1 := rsum_rows z.cps.toList
      rw [len_toList] at e
      have := rsum_take_succ hr
      have q := rsum_take_le (L := rows z) (a := k + 1) (b := (rows z).length) (List.getElem?_eq_some_iff.mp hr).1
      rw [List.take_length] at q
      omega
    have e1 : (1 : Int) + (k : Int) = (k : Int) + 1 := by omega
    have nb := no_btw (v := v3) (lo := 1) (m := r.length + 1) (by omega) hneg3
    have nb' : btw v3 1 (r.length + 1) = false := nb
    simp [-Bool.exists_bool, e1]
    refine (refused3 (t := .str z) (l := .int (k + 1)) (c := v3) (w := (("InvalidColumn" : Str), v3)) hw (fun h => absurd h h0) (fun _ => chk_col hr nb') w4 (Mm.atI_nat (i := 2) rfl) (hd9.1.ex Ex.put) rfl rfl hT6 smz).imp fun u S10 ⟨eu, xB3⟩ => ?_
    subst eu
    have kF : Kb b S S10 := Kb.exB (((k7.trans kC).trans k8).trans k9).put xB3 (fun a e => Nat.le_trans k7.1 (hge3 a e)) hd3'.2.1
    refine ⟨true, rfl, ?_⟩
    simp
    exact hP _ _ _ kF
theorem wrongright {b : Nat} {z : Str} {nm : Bool} {S : Sto} {E} (hz : z.length ≤ 500000) (hb : BoxOk b S) : (m__law_wrong_right [.ref b, .str z, .bl nm] S).wp (fun v S' => v = .bl true ∧ Kb b S S') E := by
  rw [WR_def, wp_mFn]
  refine ⟨rfl, ?_⟩
  have r62 : (3 : Int) < two62 := by decide
  have r62' : -two62 ≤ (3 : Int) := by decide
  simp [-Bool.exists_bool, r62, r62']
  refine wp_forGo (i := 0) (fun _ σ S' => (∃ (nm' : Bool) (t3 t4 t5 : Option V), σ = [some (.ref b), some (.str z), some (.bl nm'), t3, t4, t5]) ∧ Kb b S S') ⟨⟨nm, _, _, _, rfl⟩, Kb.refl hb⟩ (fun j y σ S' hy hI => ?_) fun σ S' hI => ?_
  · obtain ⟨⟨nm', t3, t4, t5, rfl⟩, kk⟩ := hI
    obtain ⟨hj, rfl⟩ := ints_at hy
    refine ⟨rfl, ?_⟩
    have e0 : (0 : Int) + (j : Int) = (j : Int) := by omega
    rw [e0]
    exact ⟨_, rfl, WR1_ok (way := j) hz kk.2.1 hj fun S3 t4 t5 h2 => ⟨⟨_, _, _, _, rfl⟩, kk.trans h2⟩⟩
  · obtain ⟨⟨nm', t3, t4, t5, rfl⟩, kk⟩ := hI
    exact ⟨rfl, kk⟩
end K05

namespace K05
open PySem L2 Mm
theorem box_ok {S : Sto} {g : Int} {E} : (m__law_box [.int g] S).wp (fun v S' => ∃ p, v = .ref p ∧ S.n ≤ p ∧ BoxOk p S' ∧ Ex S S') E := by
  unfold m__law_box
  rw [wp_mFn]
  refine ⟨rfl, ?_⟩
  have s4 : 4 ≤ sz := by decide
  simp [-Bool.exists_bool, s4]
  refine ⟨_, _, _, _, Sto.g_put_new, ?_, ?_, Int.le_refl _⟩
  · split <;> omega
  · rw [Int.fmod_eq_emod_of_nonneg _ (by decide)]
    exact Int.emod_nonneg _ (by decide)
theorem cell_ok {S : Sto} {ns : List Int} {k : Nat} {E} (h : S.ls 0 = some (ns.map V.int)) : (m__law_cell [.ref 0, .int k] S).wp (fun v S' => (∃ i, v = .int i) ∧ Ex S S') E := by
  unfold m__law_cell
  rw [wp_mFn]
  refine ⟨rfl, ?_⟩
  have hl : vLen [.ref 0] S = .ok (.int ns.length) S := by
    simp only [vLen, (Sto.ls_ty h).2.2.1]
    simp
  by_cases hk : k < ns.length
  · have hx : vIx (.ref 0) (.int k) S = .ok (.int (ns[k]'hk)) S := vIx_sq (Sto.ls_ty h).2.2.1 (Mm.atI_nat (by rw [List.getElem?_map, List.getElem?_eq_getElem hk]; rfl))
    simp [-Bool.exists_bool, hl, hk, hx]
  · have hs : vSl (.ref 0) none (some 1) S = .ok (.ref S.n) (S.put (.lst ((ns.take 1).map V.int))) := by
      simp only [vSl, h]
      rw [cut_to (by decide), List.map_take]
      rfl
    have hsum : vSum [.ref S.n] (S.put (.lst ((ns.take 1).map V.int))) = .ok (.int (ns.take 1).sum) (S.put (.lst ((ns.take 1).map V.int))) := by
      have : (S.put (.lst ((ns.take 1).map V.int))).ls S.n = some ((ns.take 1).map V.int) := by unfold Sto.ls; rw [Sto.g_put_new]
      simp only [vSum, this, Option.bind_some, intsOf_map]
    have t64 : ((-two64 < (6211 : Int) ∧ (6211 : Int) < two64) ∨ (-two64 < (k : Int) ∧ (k : Int) < two64)) = True := by
      simp only [eq_iff_iff, iff_true]
      left; decide
    simp [-Bool.exists_bool, hl, hk, hs, hsum, t64, -List.map_take]
theorem LW1_ok {b j : Nat} {nm : Bool} {t0 t1 t5 : Option V} {S : Sto} {P : Po} (hb : BoxOk b S) (hj : j < 4) (hP : ∀ S' t5, Kb b S S' → P.nx [t0, t1, some (.ref b), some (.bl !nm), some (.int j), t5] S') :
    (LW1 [t0, t1, some (.ref b), some (.bl nm), some (.int j), t5] S).wp P := by
  have tail : ∀ S1 z, Kb b S S1 → Good 200000 z → (m__law_text_right [.ref b, .str z, .bl nm] S1).wp (fun x S2 => ∃ k, vTru S2 x = some k ∧ ((k = true ∧ (m__law_wrong_right [.ref b, .str z, .bl !nm] S2).wp (fun x S3 => ∃ k, vTru S3 x = some k ∧ (k = true ∧ P.nx [t0, t1, some (.ref b), some (.bl !nm), some (.int j), some (.str z)] S3)) (fun _ _ _ => False)))) (fun _ _ _ => False) := fun S1 z k g => by
    refine (textright (by have := g.1; omega) k.2.1).imp fun v S2 ⟨e, k2⟩ => ⟨true, by rw [e]; rfl, rfl, ?_⟩
    exact (wrongright (by have := g.1; omega) k2.2.1).imp fun v S3 ⟨e, k3⟩ => ⟨true, by rw [e]; rfl, rfl, hP _ _ ((k.trans k2).trans k3)⟩
  have fin : ∀ S1 z, Kb b S S1 → Good 200000 z → ∀ (F : Str → Nat → Sto → Prop), (m__law_text_right [.ref b, .str z, .bl nm] S1).wp (fun x S2 => ∃ k, vTru S2 x = some k ∧ if k = true then (m__law_wrong_right [.ref b, .str z, .bl !nm] S2).wp (fun x S3 => ∃ k, vTru S3 x = some k ∧ if k = true then P.nx [t0, t1, some (.ref b), some (.bl !nm), some (.int j), some (.str z)] S3 else P.rt (.bl false) S3) F else P.rt (.bl false) S2) F := fun S1 z k g F => by
    refine (tail S1 z k g).noE fun v S2 ⟨kk, h1, h2, h3⟩ => ⟨kk, h1, ?_⟩
    rw [if_pos h2]
    exact h3.noE fun v S3 ⟨k2, h4, h5, h6⟩ => ⟨k2, h4, by rw [if_pos h5]; exact h6⟩
  unfold LW1
  have s4 : 4 ≤ sz := by decide
  simp [-Bool.exists_bool, s4]
  have part : ∀ S1, Kb b S S1 → ∀ (F : Str → Nat → Sto → Prop) (R : V → Sto → Prop), (∀ z S3, Kb b S S3 → Good 200000 z → R (.str z) S3) →
      (m__law_pick [V.ref b, V.ref S1.n] (S1.put (MO.lst [V.int 0, V.int 2, V.int 3, V.int 1]))).wp (fun x S2 => (vIx (V.ref S2.n) (V.int j) (S2.put (MO.lst [V.int 0, V.int 1, V.int 0, x]))).wp (fun y S3 => (m__law_text [V.ref b, y] S3).wp R F) F) F := fun S1 k F R hR => by
    have kp : Kb b S1 (S1.put (.lst [.int 0, .int 2, .int 3, .int 1])) := (Kb.refl k.2.1).put
    rw [pick_eq]
    refine (pick_ok tk kp.2.1 (l := S1.n) (xs := [.int 0, .int 2, .int 3, .int 1]) (by unfold Sto.sq Sto.ls; rw [Sto.g_put_new]) (by have := k.2.1.lt; omega) (by simp) (by simp)).imp fun v S2 ⟨hv, hb2, o2⟩ => ?_
    obtain ⟨w, rfl, hw⟩ : ∃ w : Nat, v = .int w ∧ w < 4 := by
      simp only [List.mem_cons, List.not_mem_nil, or_false] at hv
      rcases hv with rfl | rfl | rfl | rfl
      · exact ⟨0, rfl, by decide⟩
      · exact ⟨2, rfl, by decide⟩
      · exact ⟨3, rfl, by decide⟩
      · exact ⟨1, rfl, by decide⟩
    obtain ⟨m, hm, mm⟩ := four (S := S2.put (.lst [.int 0, .int 1, .int 0, .int w])) (p := S2.n) Sto.g_put_new hj
    rw [hm]
    obtain ⟨w2, rfl, hw2⟩ : ∃ w : Nat, m = w ∧ w < 4 := ⟨m.toNat, by omega, by omega⟩
    have k3 : Kb b S (S2.put (.lst [.int 0, .int 1, .int 0, .int w])) := ((k.trans kp).trans (o2.kb hb2)).put
    exact (text_ok (E := F) k3.2.1 hw2).imp fun v S3 ⟨⟨z, e, g⟩, k4⟩ => by subst e; exact hR z S3 (k3.trans k4) g
  have good0 : Good 200000 ("" : Str) := ⟨by decide +kernel, by decide +kernel⟩
  by_cases h3 : (j : Int) = 3
  · rw [if_pos h3]
    refine (tk b S 3 _ hb (by decide) (by decide)).imp fun v S1 ⟨i, e, i0, i1, hb1, o1⟩ => ?_
    subst e
    simp [-Bool.exists_bool]
    have k1 := o1.kb hb1
    by_cases hi : i = 0
    · rw [if_pos hi]
      exact fin S1 _ k1 good0 _
    · rw [if_neg hi]
      exact part S1 k1 _ _ fun z S3 k3 g => fin S3 z k3 g _
  · rw [if_neg h3]
    exact part S (Kb.refl hb) _ _ fun z S3 k3 g => fin S3 z k3 g _
theorem LW2_ok {ns : List Int} {k : Nat} {t2 t3 t4 t5 : Option V} {S : Sto} {P : Po} (h : S.ls 0 = some (ns.map V.int)) (hP : ∀ S' t2 t3 t4 t5, S'.ls 0 = some (ns.map V.int) → P.nx [some (.ref 0), some (.int k), t2, t3, t4, t5] S') :
    (LW2 [some (.ref 0), some (.int k), t2, t3, t4, t5] S).wp P := by
  unfold LW2
  simp [-Bool.exists_bool]
  refine (cell_ok h).imp fun v S1 ⟨⟨g, e⟩, x1⟩ => ?_
  subst e
  refine box_ok.imp fun v S2 ⟨p, e, hp, hb, x2⟩ => ?_
  subst e
  have r62 : (4 : Int) < two62 := by decide
  have r62' : -two62 ≤ (4 : Int) := by decide
  have h2 := x2.rds.2.1 _ _ (x1.rds.2.1 _ _ h)
  have p0 : (0 : Nat) ≠ p := by have := Sto.ls_lt (x1.rds.2.1 _ _ h); omega
  refine (tk p S2 2 _ hb (by decide) (by decide)).imp fun v S3 ⟨i, e, i0, i1, hb1, o1⟩ => ?_
  subst e
  simp [-Bool.exists_bool, r62, r62']
  have k1 := o1.kb hb1
  refine wp_forGo (i := 0) (fun _ σ S' => (∃ (nm : Bool) (t4 t5 : Option V), σ = [some (.ref 0), some (.int k), some (.ref p), some (.bl nm), t4, t5]) ∧ Kb p S2 S') ⟨⟨_, _, _, rfl⟩, k1⟩ (fun j y σ S' hy hI => ?_) fun σ S' hI => ?_
  · obtain ⟨⟨nm, t4, t5, rfl⟩, kk⟩ := hI
    obtain ⟨hj, rfl⟩ := ints_at hy
    refine ⟨rfl, ?_⟩
    have e0 : (0 : Int) + (j : Int) = (j : Int) := by omega
    rw [e0]
    exact ⟨_, rfl, LW1_ok kk.2.1 hj fun S4 t5 k4 => ⟨⟨_, _, _, rfl⟩, kk.trans k4⟩⟩
  · obtain ⟨⟨nm, t4, t5, rfl⟩, kk⟩ := hI
    exact ⟨rfl, hP _ _ _ _ _ (Kb.ls kk h2 p0)⟩
theorem plain (ns : List Int) (o0 : MO) (_ : ns.length ≤ 63) (h0 : o0 = .frz (ns.map V.int) ∨ o0 = .klst none (ns.map V.int)) (KS : List MO) : ∃ S', m_law [.ref 0] ⟨o0 :: KS⟩ = .ok (.bl true) S' := by
  have hl : (⟨o0 :: KS⟩ : Sto).ls 0 = some (ns.map V.int) := by rcases h0 with rfl | rfl <;> rfl
  have key : (m_law [.ref 0] ⟨o0 :: KS⟩).wp (fun v _ => v = .bl true) fun _ _ _ => False := by
    rw [LW_def, wp_mFn]
    refine ⟨rfl, ?_⟩
    have r62 : (2 : Int) < two62 := by decide
    have r62' : -two62 ≤ (2 : Int) := by decide
    simp [-Bool.exists_bool, r62, r62']
    refine wp_forGo (i := 0) (fun _ σ S' => (∃ (t1 t2 t3 t4 t5 : Option V), σ = [some (.ref 0), t1, t2, t3, t4, t5]) ∧ S'.ls 0 = some (ns.map V.int)) ⟨⟨_, _, _, _, _, rfl⟩, hl⟩ (fun j y σ S' hy hI => ?_) fun σ S' hI => ?_
    · obtain ⟨⟨t1, t2, t3, t4, t5, rfl⟩, kk⟩ := hI
      obtain ⟨hj, rfl⟩ := ints_at hy
      refine ⟨rfl, ?_⟩
      have e0 : (0 : Int) + (j : Int) = (j : Int) := by omega
      rw [e0]
      exact ⟨_, rfl, LW2_ok kk fun S4 t2 t3 t4 t5 k4 => ⟨⟨_, _, _, _, _, rfl⟩, k4⟩⟩
    · exact ⟨rfl, trivial⟩
  cases e : m_law [.ref 0] ⟨o0 :: KS⟩ with
  | ok v S' => rw [e] at key; have key : v = .bl true := key; subst key; exact ⟨S', rfl⟩
  | exc c d S' => rw [e] at key; exact key.elim
  | bad => rw [e] at key; exact key.elim
end K05

theorem PySem.Challenge.cw_askworlds_k05_positions_and_marks_holds : PySem.Challenge.rw_askworlds_k05_positions_and_marks.Holds := by
  exact K05.holds fun ns o0 hl h0 => K05.plain ns o0 hl h0 K05.KS

