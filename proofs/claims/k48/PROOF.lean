import PyProof.Rows.All
import Wide.All
import OpenK.AllK
import Wide.FinOn
import HandS.ForMost
import HandS.Walk
import HandS.Zip
import HandS.Star
import HandS.IsInst
import HandS.TupAny
import HandS.TupMul
import HandS.Deep
import KE.SortData
import PyProof.ReprReads
import KE.DataMinMax
import HandS.TupSets
import KE.KTupSum
import PyProof.ReprRoads
import PyProof.ReprLen
import HandS.Conv
import HandS.Style
import KE.GoesMore
import KE.GoesZip
import KE.GoesEnum
import HandS.Words
import HandS.SetFor
import HandS.Codes
import HandS.Ends
import PyProof.Rows.IntMath
import KE.DataEq
import PySem.Challenge.RW_amongfoes_k48_whole_storms_of_houses
set_option Elab.async false
set_option linter.all false
set_option maxRecDepth 100000
set_option maxHeartbeats 4000000
set_option autoImplicit false
/-! The evaluator, part A: data, states, how data lie in the abstract heap, steps. -/
namespace Ev
open PySem PySem.Spec PyProof.Rows L2

inductive D where
  | non | bl (b : Bool) | int (i : Int) | str (x : Str) | tup (ds : List D) | lst (ds : List D) | ro (ds : List D) | cell (n : Nat)

structure S where
  sl : List (Option D)
  cs : List (Bool × D)

/-! data that point to cells below n alone -/
mutual
def lowD (n : Nat) : D → Bool
  | .cell k => decide (k < n)
  | .tup ds => lowDs n ds
  | .lst ds => lowDs n ds
  | .ro ds => lowDs n ds
  | _ => true
def lowDs (n : Nat) : List D → Bool
  | [] => true
  | d :: ds => lowD n d && lowDs n ds
end
inductive R (α : Type) where
  | ok (a : α) (s : S) | no

abbrev M (α : Type) := S → R α
def R.bind {α β : Type} (r : R α) (f : α → S → R β) : R β := match r with
  | .ok a s => f a s
  | .no => .no
@[simp] theorem R.bind_ok {α β : Type} (a : α) (s : S) (f : α → S → R β) : (R.ok a s).bind f = f a s := rfl
@[simp] theorem R.bind_no {α β : Type} (f : α → S → R β) : (R.no : R α).bind f = .no := rfl

abbrev FragK := PySem.W.Frag
/-- a list that is only read: the script -/
def SqR (K : FragK) (H : Hp) (a : Addr) (xs : List V) : Prop := (∃ o, H a = some (.frz o (.lst xs))) ∨
    ∃ (o : Obj) (its : Array Value) (n : Nat), K.lookup a = some o ∧ o.cls = .type "list" ∧ o.dict = none ∧ o.data = .seq its n ∧ its.size ≤ sizeLine ∧ Vals xs its.toList
theorem SqR.sq {K : FragK} {H : Hp} {a : Addr} {xs : List V} (h : SqR K H a xs) : SqL K H a xs := by
  rcases h with ⟨o, h⟩ | h
  · exact .inl (.inr ⟨o, h⟩)
  · exact .inr h
mutual
def Rp (K : FragK) (al : List Addr) (F : Addr → Prop) (H : Hp) : D → V → Prop
  | .non, v => v = .non
  | .bl b, v => v = .bl b
  | .int i, v => v = .int i
  | .str x, v => v = .str x
  | .tup ds, v => ∃ a vs, v = .ref a ∧ SqT K H a vs ∧ vs.length ≤ sizeLine ∧ Rps K al F H ds vs
  | .lst ds, v => ∃ a vs, v = .ref a ∧ ¬ F a ∧ H a = some (.lst vs) ∧ vs.length ≤ sizeLine ∧ Rps K al F H ds vs
  | .ro ds, v => ∃ a vs, v = .ref a ∧ SqR K H a vs ∧ vs.length ≤ sizeLine ∧ Rps K al F H ds vs
  | .cell n, v => ∃ a, v = .ref a ∧ al[n]? = some a
def Rps (K : FragK) (al : List Addr) (F : Addr → Prop) (H : Hp) : List D → List V → Prop
  | [], vs => vs = []
  | d :: ds, vs => ∃ v r, vs = v :: r ∧ Rp K al F H d v ∧ Rps K al F H ds r
end

def Liv (al : List Addr) (cs : List (Bool × D)) (a : Addr) : Prop := ∃ (n : Nat) (d : D), cs[n]? = some (true, d) ∧ al[n]? = some a
/-- what may change: others' lists, the cells that live -/
def Forb (O : Addr → Prop) (al : List Addr) (cs : List (Bool × D)) (a : Addr) : Prop := O a ∨ Liv al cs a
def CellOk (K : FragK) (al : List Addr) (F : Addr → Prop) (H : Hp) (a : Addr) : D → Prop
  | .lst ds => ∃ vs, H a = some (.lst vs) ∧ vs.length ≤ sizeLine ∧ Rps K al F H ds vs
  | _ => False
def KOff (K : FragK) (H : Hp) : Prop := ∀ a o, K.lookup a = some o → H a = none

/-- the cells -/
structure Cel (K : FragK) (O : Addr → Prop) (al : List Addr) (cs : List (Bool × D)) (H : Hp) : Prop where
  len : al.length = cs.length
  nd : al.Nodup
  cell : ∀ (n : Nat) (b : Bool) (d : D) (a : Addr), cs[n]? = some (b, d) → al[n]? = some a → CellOk K al (Forb O al cs) H a d
  koff : KOff K H
  om : ∀ a, O a → Mut (H a) ∧ a ∉ al
  low : ∀ (n : Nat) (b : Bool) (ds : List D), cs[n]? = some (b, .lst ds) → lowDs n ds = true
/-- the slots and the cells -/
structure EnvR (K : FragK) (O : Addr → Prop) (al : List Addr) (s : S) (σ : L2.St) (H : Hp) : Prop where
  cr : Cel K O al s.cs H
  slen : s.sl.length = σ.length
  slot : ∀ (i : Nat) (d : D), s.sl[i]? = some (some d) → ∃ v, σ[i]? = some (some v) ∧ Rp K al (Forb O al s.cs) H d v

structure Stp (al : List Addr) (cs : List (Bool × D)) (H : Hp) (al' : List Addr) (cs' : List (Bool × D)) (H' : Hp) : Prop where
  pre : al <+: al'
  keep : ∀ a o, ¬ Liv al cs a → H a = some o → H' a = some o
  frb : ∀ a, Liv al' cs' a → Liv al cs a ∨ H a = none

theorem CellOk.mut {K : FragK} {al : List Addr} {F : Addr → Prop} {H : Hp} {a : Addr} {d : D} (h : CellOk K al F H a d) : Mut (H a) := by
  cases d with
  | lst ds =>
    obtain ⟨vs, e, _⟩ := h
    rw [e]
    trivial
  | _ => exact False.elim h
theorem Cel.mutL {K : FragK} {O : Addr → Prop} {al : List Addr} {cs : List (Bool × D)} {H : Hp} (c : Cel K O al cs H) {a : Addr} (h : Liv al cs a) : Mut (H a) := by
  obtain ⟨n, d, h1, h2⟩ := h
  exact (c.cell n true d a h1 h2).mut
theorem Cel.mut {K : FragK} {O : Addr → Prop} {al : List Addr} {cs : List (Bool × D)} {H : Hp} (c : Cel K O al cs H) {a : Addr} (h : Forb O al cs a) : Mut (H a) := h.elim (fun z => (c.om a z).1) c.mutL
theorem Cel.there {K : FragK} {O : Addr → Prop} {al : List Addr} {cs : List (Bool × D)} {H : Hp} (c : Cel K O al cs H) {a : Addr} (h : a ∈ al) : Mut (H a) := by
  obtain ⟨n, hn⟩ := List.getElem?_of_mem h
  have hlt : n < cs.length := by rw [← c.len]; exact (List.getElem?_eq_some_iff.mp hn).1
  exact (c.cell n cs[n].1 cs[n].2 a (by rw [List.getElem?_eq_getElem hlt]) hn).mut
theorem mut_none {H : Hp} {a : Addr} (h : Mut (H a)) (e : H a = none) : False := by rw [e] at h; exact h

theorem Stp.refl {al : List Addr} {cs : List (Bool × D)} {H : Hp} : Stp al cs H al cs H := ⟨List.prefix_refl _, fun _ _ _ h => h, fun _ h => .inl h⟩
theorem Stp.trans {al al1 al2 : List Addr} {cs cs1 cs2 : List (Bool × D)} {H H1 H2 : Hp} (a : Stp al cs H al1 cs1 H1) (b : Stp al1 cs1 H1 al2 cs2 H2) : Stp al cs H al2 cs2 H2 where
  pre := a.pre.trans b.pre
  keep := fun x o n e => b.keep x o (fun z => (a.frb x z).elim n fun q => by rw [q] at e; cases e) (a.keep x o n e)
  frb := fun x z => by
    rcases b.frb x z with q | q
    · exact a.frb x q
    · by_cases n : Liv al cs x
      · exact .inl n
      · refine .inr ?_
        cases e : H x with
        | none => rfl
        | some o => rw [a.keep x o n e] at q; cases q

theorem pre_get {al al' : List Addr} (p : al <+: al') {n : Nat} {a : Addr} (h : al[n]? = some a) : al'[n]? = some a := by
  obtain ⟨m, rfl⟩ := p
  rw [List.getElem?_append_left (List.getElem?_eq_some_iff.mp h).1]
  exact h

section
variable {K : FragK} {al al' : List Addr} {F F' : Addr → Prop} {H H' : Hp}
theorem sqT_keep {a : Addr} {vs : List V} (keep : ∀ a o, ¬ F a → H a = some o → H' a = some o) (mu : ∀ a, F a → Mut (H a)) (h : SqT K H a vs) : SqT K H' a vs := by
  rcases h with (h | ⟨o, h⟩) | h
  · exact .inl (.inl (keep _ _ (fun z => by have := mu _ z; rw [h] at this; exact this) h))
  · exact .inl (.inr ⟨o, keep _ _ (fun z => by have := mu _ z; rw [h] at this; exact this) h⟩)
  · exact .inr h
theorem sqR_keep {a : Addr} {vs : List V} (keep : ∀ a o, ¬ F a → H a = some o → H' a = some o) (mu : ∀ a, F a → Mut (H a)) (h : SqR K H a vs) : SqR K H' a vs := by
  rcases h with ⟨o, h⟩ | h
  · exact .inl ⟨o, keep _ _ (fun z => by have := mu _ z; rw [h] at this; exact this) h⟩
  · exact .inr h
mutual
theorem Rp.keep (pre : al <+: al') (keep : ∀ a o, ¬ F a → H a = some o → H' a = some o) (frb : ∀ a, F' a → F a ∨ H a = none) (mu : ∀ a, F a → Mut (H a)) (mu' : ∀ a, F' a → Mut (H' a)) (koff : KOff K H') :
    ∀ (d : D) (v : V), Rp K al F H d v → Rp K al' F' H' d v
  | .non, v, h => h
  | .bl b, v, h => h
  | .int i, v, h => h
  | .str x, v, h => h
  | .tup ds, v, h => by
    obtain ⟨a, vs, e, q, z, r⟩ := h
    exact ⟨a, vs, e, sqT_keep keep mu q, z, Rps.keep pre keep frb mu mu' koff ds vs r⟩
  | .lst ds, v, h => by
    obtain ⟨a, vs, e, n, q, z, r⟩ := h
    refine ⟨a, vs, e, fun f => ?_, keep _ _ n q, z, Rps.keep pre keep frb mu mu' koff ds vs r⟩
    rcases frb a f with w | w
    · exact n w
    · rw [q] at w; cases w
  | .ro ds, v, h => by
    obtain ⟨a, vs, e, q, z, r⟩ := h
    exact ⟨a, vs, e, sqR_keep keep mu q, z, Rps.keep pre keep frb mu mu' koff ds vs r⟩
  | .cell n, v, h => by
    obtain ⟨a, e, q⟩ := h
    exact ⟨a, e, pre_get pre q⟩
theorem Rps.keep (pre : al <+: al') (keep : ∀ a o, ¬ F a → H a = some o → H' a = some o) (frb : ∀ a, F' a → F a ∨ H a = none) (mu : ∀ a, F a → Mut (H a)) (mu' : ∀ a, F' a → Mut (H' a)) (koff : KOff K H') :
    ∀ (ds : List D) (vs : List V), Rps K al F H ds vs → Rps K al' F' H' ds vs
  | [], vs, h => h
  | d :: ds, vs, h => by
    obtain ⟨v, r, e, q, t⟩ := h
    exact ⟨v, r, e, Rp.keep pre keep frb mu mu' koff d v q, Rps.keep pre keep frb mu mu' koff ds r t⟩
end
theorem forb_step {O : Addr → Prop} {cs cs' : List (Bool × D)} (st : Stp al cs H al' cs' H') : ∀ a, Forb O al' cs' a → Forb O al cs a ∨ H a = none := fun a f =>
  f.elim (fun z => .inl (.inl z)) fun z => (st.frb a z).elim (fun q => .inl (.inr q)) .inr
theorem Rp.stp {O : Addr → Prop} {cs cs' : List (Bool × D)} (st : Stp al cs H al' cs' H') (c : Cel K O al cs H) (c' : Cel K O al' cs' H') {d : D} {v : V} (h : Rp K al (Forb O al cs) H d v) : Rp K al' (Forb O al' cs') H' d v :=
  Rp.keep st.pre (fun a o n => st.keep a o fun z => n (.inr z)) (forb_step st) (fun _ => c.mut) (fun _ => c'.mut) c'.koff d v h
theorem Rps.stp {O : Addr → Prop} {cs cs' : List (Bool × D)} (st : Stp al cs H al' cs' H') (c : Cel K O al cs H) (c' : Cel K O al' cs' H') {d : List D} {v : List V} (h : Rps K al (Forb O al cs) H d v) : Rps K al' (Forb O al' cs') H' d v :=
  Rps.keep st.pre (fun a o n => st.keep a o fun z => n (.inr z)) (forb_step st) (fun _ => c.mut) (fun _ => c'.mut) c'.koff d v h
theorem EnvR.stp {O : Addr → Prop} {s : S} {cs' : List (Bool × D)} {σ : L2.St} (e : EnvR K O al s σ H) (st : Stp al s.cs H al' cs' H') (c' : Cel K O al' cs' H') : EnvR K O al' { s with cs := cs' } σ H' :=
  ⟨c', e.slen, fun i d h => let ⟨v, h1, h2⟩ := e.slot i d h; ⟨v, h1, h2.stp st e.cr c'⟩⟩
/-- a new thing is laid -/
theorem upd_keep {p : Addr} {o : HO} (hp : H p = none) : ∀ a q, H a = some q → upd H p o a = some q := fun a q e => by rw [upd_ne (ne_of_none e hp)]; exact e
end
section
variable {K : FragK} {O : Addr → Prop} {al : List Addr} {cs : List (Bool × D)} {H H' : Hp}
theorem mut_keep {a : Addr} (k : ∀ a q, H a = some q → H' a = some q) (z : Mut (H a)) : Mut (H' a) := by
  cases q : H a with
  | none => rw [q] at z; exact False.elim z
  | some o => rw [q] at z; rw [k a o q]; exact z
/-- all that was tracked is kept: the cells are -/
theorem Cel.grow (c : Cel K O al cs H) (k : ∀ a q, H a = some q → H' a = some q) (koff : KOff K H') : Cel K O al cs H' where
  len := c.len
  nd := c.nd
  koff := koff
  low := c.low
  om := fun a h => ⟨mut_keep k (c.om a h).1, (c.om a h).2⟩
  cell := fun n b d a h1 h2 => by
    have x := c.cell n b d a h1 h2
    cases d with
    | lst ds =>
      obtain ⟨vs, e, z, r⟩ := x
      exact ⟨vs, k _ _ e, z, Rps.keep (List.prefix_refl _) (fun a o _ e => k a o e) (fun _ f => .inl f) (fun _ => c.mut) (fun a f => mut_keep k (c.mut f)) koff ds vs r⟩
    | _ => exact False.elim x
theorem stp_grow (k : ∀ a q, H a = some q → H' a = some q) : Stp al cs H al cs H' := ⟨List.prefix_refl _, fun a q _ e => k a q e, fun _ f => .inl f⟩
theorem EnvR.grow {s : S} {σ : L2.St} (e : EnvR K O al s σ H) (k : ∀ a q, H a = some q → H' a = some q) (koff : KOff K H') : EnvR K O al s σ H' :=
  e.stp (stp_grow k) (e.cr.grow k koff)
theorem Rp.grow (c : Cel K O al cs H) (k : ∀ a q, H a = some q → H' a = some q) (koff : KOff K H') {d : D} {v : V} (h : Rp K al (Forb O al cs) H d v) : Rp K al (Forb O al cs) H' d v := h.stp (stp_grow k) c (c.grow k koff)
theorem Rps.grow (c : Cel K O al cs H) (k : ∀ a q, H a = some q → H' a = some q) (koff : KOff K H') {d : List D} {v : List V} (h : Rps K al (Forb O al cs) H d v) : Rps K al (Forb O al cs) H' d v := h.stp (stp_grow k) c (c.grow k koff)
end

/-! ### what an evaluation leaves -/
def After {α : Type} (K : FragK) (O : Addr → Prop) (al : List Addr) (s : S) (σ : L2.St) (H : Hp) (r : R α) (post : α → List Addr → S → Hp → Prop) : Prop := match r with
  | .ok a s' => ∀ al' H', Stp al s.cs H al' s'.cs H' → EnvR K O al' s' σ H' → post a al' s' H'
  | .no => False
theorem After.bind {α β : Type} {K : FragK} {O : Addr → Prop} {al : List Addr} {s : S} {σ : L2.St} {H : Hp} {r : R α} {f : α → S → R β} {post : β → List Addr → S → Hp → Prop} (h : After K O al s σ H (r.bind f) post) :
    After K O al s σ H r fun a al' s' H' => After K O al' s' σ H' (f a s') post := by
  cases r with
  | no => exact h
  | ok a s' =>
    intro al' H' st env
    have h : After K O al s σ H (f a s') post := h
    cases q : f a s' with
    | no => rw [q] at h; exact h
    | ok b s'' =>
      rw [q] at h
      intro al2 H2 st2 env2
      exact h al2 H2 (st.trans st2) env2
theorem After.imp {α : Type} {K : FragK} {O : Addr → Prop} {al : List Addr} {s : S} {σ : L2.St} {H : Hp} {r : R α} {post post' : α → List Addr → S → Hp → Prop} (h : After K O al s σ H r post)
    (i : ∀ a al' s' H', Stp al s.cs H al' s'.cs H' → EnvR K O al' s' σ H' → post a al' s' H' → post' a al' s' H') : After K O al s σ H r post' := by
  cases r with
  | no => exact h
  | ok a s' => exact fun al' H' st env => i a al' s' H' st env (h al' H' st env)
theorem After.ok {α : Type} {K : FragK} {O : Addr → Prop} {al : List Addr} {s : S} {σ : L2.St} {H : Hp} {a : α} {post : α → List Addr → S → Hp → Prop} (h : After K O al s σ H (.ok a s) post) (env : EnvR K O al s σ H) : post a al s H := h al H .refl env

/-- an expression's reading by its value -/
def tD (K : FragK) (de : M D) : TE := fun σ H Q => ∃ O al s, EnvR K O al s σ H ∧ After K O al s σ H (de s) fun d al' s' H' => ∀ v, Rp K al' (Forb O al' s'.cs) H' d v → Q v H'
/-- a test's -/
def tT (K : FragK) (de : M D) : TT := fun σ H Q => ∃ O al s, EnvR K O al s σ H ∧ After K O al s σ H (de s) fun d al' s' H' => ∃ b, d = .bl b ∧ Q b H'
/-- an argument list's -/
def tA (K : FragK) (de : M (List D)) : TA := fun σ H Q => ∃ O al s, EnvR K O al s σ H ∧ After K O al s σ H (de s) fun ds al' s' H' => ∀ vs, Rps K al' (Forb O al' s'.cs) H' ds vs → Q vs H'

section
variable {X : Cx} {e : Expr} {t t' : TE}
theorem _root_.L2.PE.imp (h : PE X e t) (i : ∀ σ H Q, KOff X.K H → t' σ H Q → t σ H Q) : PE X e t' := ⟨fun pins s σ H Q I q => h.run pins s σ H Q I (i σ H Q (fun a o e => (I.bs a o (I.ok.mod.kin a o e)).2) q)⟩
theorem koff_of {pins : List (Addr × Obj)} {σ : L2.St} {H : Hp} {s : Shared} (I : Inv X pins σ H s) : KOff X.K H := fun a o e => (I.bs a o (I.ok.mod.kin a o e)).2
/-- the written part is not tracked, ahead and behind -/
theorem _root_.L2.PE.off (h : PE X e t) (i : ∀ σ H Q, KOff X.K H → t' σ H Q → t σ H fun v H' => KOff X.K H' → Q v H') : PE X e t' := ⟨fun pins s σ H Q I q =>
  thn (h.run pins s σ H _ I (i σ H Q (koff_of I) q)) fun u s1 ⟨v, H1, I1, r, z⟩ => ⟨v, H1, I1, r, z (koff_of I1)⟩⟩
theorem _root_.L2.PT.off {t t' : TT} (h : PT X e t) (i : ∀ σ H Q, KOff X.K H → t' σ H Q → t σ H fun v H' => KOff X.K H' → Q v H') : PT X e t' := ⟨fun pins s σ H Q I q =>
  thn (h.run pins s σ H _ I (i σ H Q (koff_of I) q)) fun u s1 ⟨H1, I1, z⟩ => ⟨H1, I1, z (koff_of I1)⟩⟩
theorem _root_.L2.PW.off {t t' : TT} (h : PW X e t) (i : ∀ σ H Q, KOff X.K H → t' σ H Q → t σ H fun v H' => KOff X.K H' → Q v H') : PW X e t' := ⟨fun wh pins s σ H Q I q =>
  thn (h.run wh pins s σ H _ I (i σ H Q (koff_of I) q)) fun u s1 ⟨H1, I1, z⟩ => ⟨H1, I1, z (koff_of I1)⟩⟩
theorem _root_.L2.PA.off {es : List Expr} {t t' : TA} (h : PA X es t) (i : ∀ σ H Q, KOff X.K H → t' σ H Q → t σ H fun v H' => KOff X.K H' → Q v H') : PA X es t' := ⟨fun pos pins s σ H Q I q =>
  thn (h.run pos pins s σ H _ I (i σ H Q (koff_of I) q)) fun u s1 ⟨vs, H1, I1, r, z⟩ => ⟨vs, H1, I1, r, z (koff_of I1)⟩⟩
end
end Ev

set_option Elab.async false
set_option linter.all false
set_option maxRecDepth 100000
set_option maxHeartbeats 4000000
set_option autoImplicit false
/-! The evaluator, part D: what is evaluated, and what it gives. -/
namespace Ev
open PySem PySem.Spec PyProof.Rows L2

inductive BO where | add | sub | mul | mod | fdiv | pow
inductive CO where | lt | le | gt | ge | eq | ne | isin | notin
inductive BI where | len | abs | tuple | list | sum | all | any | min | max | min2 | max2 | int | sorted | sortset | repr
inductive TY where | int | bool | str | tuple | list
  deriving DecidableEq
inductive SK where | seq | rng1 | rng2 | zip | enum
inductive ME where | append | extend | pop | popAt
inductive QK where | index | count
def qNm : QK → String
  | .index => "index"
  | .count => "count"
inductive Tg where | name (i : Nat) | tup (ts : List Tg)
inductive E where
  | var (i : Nat)
  | kint (i : Int) | kbl (b : Bool) | knon | kstr (x : Str)
  | gint (x : Str) (i : Int)
  | bin (o : BO) (a b : E)
  | neg (a : E)
  | cmp (o : CO) (a b : E)
  | cmp2 (o p : CO) (a b c : E)
  | isn (a : E) | nisn (a : E)
  | and (a b : E) | or (a b : E) | not (a : E) | ite (c a b : E)
  | tup (es : List E) | lst (es : List E) | star (e : E)
  | idx (a i : E) | sl (a : E) (lo hi : Option E)
  | call (f : Nat) (es : List E)
  | bi (b : BI) (es : List E)
  | isi (t : TY) (a : E)
  | rng (es : List E) | trng (es : List E)
  | lc (elt : E) (tg : Tg) (k : SK) (ss : List E) (ifs : List E) (own : List Nat)
  | cel (e : E) | frz (e : E)
  | rev (e : E) | callk (f : Nat) (es : List E) (pm : List Nat)
  | meth (m : ME) (a : E) (es : List E)
  | qry (q : QK) (a b : E)
  | gstr (x : Str) (y : Str)
inductive C where
  | set (i : Nat) (e : E)
  | setT (t : Tg) (e : E)
  | par (i j : Nat) (a b : E)
  | setix (a i e : E)
  | exp (e : E)
  | ite (c : E) (t e : List C)
  | whl (c : E) (b : List C)
  | for (t : Tg) (k : SK) (ss : List E) (b : List C)
  | ret (e : E) | retn | brk | cnt | pas | never

/-! ### values -/
abbrev Cs := List (Bool × D)
def fits (n : Nat) : Bool := decide (n ≤ 16777216)
def deref (cs : Cs) : D → Option D
  | .cell n => (cs[n]?).map (·.2)
  | d => some d
/-- the items of what may be read as a sequence -/
def seqD : D → Option (List D)
  | .tup ds => some ds
  | .lst ds => some ds
  | .ro ds => some ds
  | _ => none
def seqC (cs : Cs) (d : D) : Option (List D) := (deref cs d).bind seqD
mutual
def pyD : D → Option PyData
  | .non => some .none
  | .bl b => some (.bool b)
  | .int i => some (.int i)
  | .str x => if PyData.strOk x then some (.str x) else none
  | .tup ds => (pyDs ds).map .tuple
  | .lst ds => (pyDs ds).map .list
  | .ro _ => none
  | .cell _ => none
def pyDs : List D → Option (List PyData)
  | [] => some []
  | d :: ds => match pyD d, pyDs ds with
    | some x, some xs => some (x :: xs)
    | _, _ => none
end
def pyC (cs : Cs) (d : D) : Option PyData := (deref cs d).bind pyD
def shal (d : PyData) : Bool := decide (d.depth ≤ 64)
def eqD (cs : Cs) (x y : D) : Option Bool := match pyC cs x, pyC cs y with
  | some a, some b => if shal a && shal b then some (PyData.eqv a b) else none
  | _, _ => none
def inD (cs : Cs) (x y : D) : Option Bool := match pyC cs x, pyC cs y with
  | some a, some (.list b) => if shal a then some (b.any fun z => PyData.eqv z a) else none
  | some a, some (.tuple b) => if shal a then some (b.any fun z => PyData.eqv z a) else none
  | _, _ => none
def smallI (i : Int) : Bool := decide (-(2 ^ 64) < i) && decide (i < 2 ^ 64)
def binD (cs : Cs) : BO → D → D → Option D
  | .add, .int i, .int j => some (.int (i + j))
  | .add, .tup a, .tup b => if fits (a.length + b.length) then some (.tup (a ++ b)) else none
  | .add, .lst a, .lst b => if fits (a.length + b.length) then some (.lst (a ++ b)) else none
  | .sub, .int i, .int j => some (.int (i - j))
  | .mul, .int i, .int j => if smallI i || smallI j then some (.int (i * j)) else none
  | .mul, .tup a, .int j => if decide (1 ≤ j) && decide (j ≤ 1000) && decide (a.length ≤ 1000) && !a.isEmpty then some (.tup (List.replicate j.toNat a).flatten) else none
  | .mod, .int i, .int j => if j == 0 then none else some (.int (i.fmod j))
  | .pow, .int i, .int j => if decide (0 ≤ j) && decide ((Builtin.Int.intBits i : Int) * j ≤ 2 ^ 27) then some (.int (i ^ j.toNat)) else none
  | .fdiv, .int i, .int j => if j == 0 || decide (1073741824 ≤ j.natAbs) then none else some (.int (i.fdiv j))
  | _, _, _ => none
def intsD : List D → Option (List Int)
  | [] => some []
  | .int i :: r => (intsD r).map (i :: ·)
  | _ :: _ => none
def bools : List D → Option (List Bool)
  | [] => some []
  | .bl i :: r => (bools r).map (i :: ·)
  | _ :: _ => none
def cmpD (cs : Cs) : CO → D → D → Option Bool
  | .lt, .int i, .int j => some (decide (i < j))
  | .lt, .tup a, .tup b => match intsD a, intsD b with
    | some x, some y => some (HT.lexLt x y)
    | _, _ => none
  | .le, .int i, .int j => some (decide (i ≤ j))
  | .gt, .int i, .int j => some (decide (j < i))
  | .ge, .int i, .int j => some (decide (j ≤ i))
  | .eq, x, y => eqD cs x y
  | .ne, x, y => (eqD cs x y).map (!·)
  | .isin, x, y => inD cs x y
  | .notin, x, y => (inD cs x y).map (!·)
  | _, _, _ => none
/-- the built-in types that a value is of -/
def kindD : D → Option (List TY)
  | .int _ => some [.int]
  | .bl _ => some [.int, .bool]
  | .str _ => some [.str]
  | .non => some []
  | .tup _ => some [.tuple]
  | .lst _ => some [.list]
  | .ro _ => none
  | .cell _ => none
def tyD (cs : Cs) (t : TY) (d : D) : Option Bool := ((deref cs d).bind kindD).map fun ts => decide (t ∈ ts)
/-! an order of data -/
def encD (d : D) : PyData := (pyD d).getD .none
def ltE (a b : D) : Bool := PySem.W.dataLt (encD a) (encD b)
def alikeB (ps : List PyData) : Bool := ps.all fun a => ps.all fun b => PySem.W.alike a b
def noneB : PyData → Bool
  | .none => true
  | _ => false
def tupB : PyData → Bool
  | .tuple _ => true
  | _ => false
def okCmp (ds : List D) : Bool := match pyDs ds with
  | some ps => alikeB ps && ps.all (!noneB ·) && decide (PyData.depthAll ps ≤ 64)
  | none => false
def okSort (ds : List D) : Bool := match pyDs ds with
  | some ps => alikeB ps && decide (PyData.depthAll ps ≤ 64) && (ps.all tupB || ps.all fun p => !noneB p && !tupB p)
  | none => false
def lstC (cs : Cs) (d : D) : Option (List D) := match deref cs d with
  | some (.lst ds) => some ds
  | some (.ro ds) => some ds
  | _ => none
def lenD (cs : Cs) : D → Option D
  | .str x => if fits x.length then some (.int x.length) else none
  | d => (seqC cs d).map fun ds => .int ds.length
def absD : D → Option D
  | .int i => some (.int (if i < 0 then -i else i))
  | _ => none
def sumC (cs : Cs) : D → Option (List D)
  | .tup ds => some ds
  | d => lstC cs d
def sumD (cs : Cs) (d : D) : Option D := match (sumC cs d).bind intsD with
  | some ns => some (.int ns.sum)
  | none => none
def allD : D → Option D
  | .lst ds => (bools ds).map fun bs => .bl (bs.all id)
  | _ => none
def anyD : D → Option D
  | .lst ds => (bools ds).map fun bs => .bl (bs.any id)
  | _ => none
def minD (cs : Cs) (d : D) : Option D := match seqC cs d with
  | some (x :: r) => if okCmp (x :: r) then some (r.foldl (fun a y => if ltE y a then y else a) x) else none
  | _ => none
def maxD (cs : Cs) (d : D) : Option D := match seqC cs d with
  | some (x :: r) => if okCmp (x :: r) then some (r.foldl (fun a y => if ltE a y then y else a) x) else none
  | _ => none
def sortedD (cs : Cs) (d : D) : Option D := match seqC cs d with
  | some ds => if okSort ds then some (.lst (ds.mergeSort fun a b => !ltE b a)) else none
  | none => none
def rowsD : List D → Option (List (List Int))
  | [] => some []
  | .tup ds :: r => match intsD ds, rowsD r with
    | some x, some xs => some (x :: xs)
    | _, _ => none
  | _ :: _ => none
def rowD (r : List Int) : D := .tup (r.map .int)
/-- sorted(set(..)) of tuples of ints -/
def sortsetD (cs : Cs) (d : D) : Option D := match (lstC cs d).bind rowsD with
  | some rs => if decide (rs.length ≤ 300) && rs.all (!·.isEmpty) then some (.lst ((rs.eraseDups.mergeSort fun a b => !HT.lexLt b a).map rowD)) else none
  | none => none
def intD : D → Option D
  | .int i => some (.int i)
  | .bl k => some (.int (if k then 1 else 0))
  | _ => none
/-- what repr may be asked for -/
def reprOk (p : PyData) : Bool := p.showable && !p.hasDict && decide (p.shown.length ≤ sizeLine) && decide (p.depth ≤ 64) && PyData.strOk p.shown
def reprD (cs : Cs) (d : D) : Option D := (pyC cs d).bind fun p => if reprOk p then some (.str p.shown) else none
def bi1 (cs : Cs) : BI → D → Option D
  | .len, d => lenD cs d
  | .abs, d => absD d
  | .tuple, d => (seqC cs d).map .tup
  | .list, d => (seqC cs d).map .lst
  | .sum, d => sumD cs d
  | .all, d => allD d
  | .any, d => anyD d
  | .min, d => minD cs d
  | .max, d => maxD cs d
  | .sorted, d => sortedD cs d
  | .sortset, d => sortsetD cs d
  | .int, d => intD d
  | .repr, d => reprD cs d
  | _, _ => none
def bi2 : BI → D → D → Option D
  | .min2, .int i, .int j => some (.int (if j < i then j else i))
  | .max2, .int i, .int j => some (.int (if j > i then j else i))
  | _, _, _ => none
def biD (cs : Cs) (b : BI) : List D → Option D
  | [d] => bi1 cs b d
  | [d, e] => bi2 b d e
  | _ => none
def smallR (i : Int) : Bool := decide (-(2 ^ 62) ≤ i) && decide (i < 2 ^ 62)
def rangeD (lo hi : Int) : List D := (List.range (hi - lo).toNat).map fun i => .int (lo + (i : Nat))
def rngD : List D → Option (List D)
  | [.int j] => if smallR j && fits j.toNat then some (rangeD 0 j) else none
  | [.int i, .int j] => if smallR i && smallR j && fits (j - i).toNat then some (rangeD i j) else none
  | _ => none
def srcD : SK → List D → Option (List D)
  | .seq, [.tup ds] => some ds
  | .seq, [.lst ds] => some ds
  | .rng1, ds => rngD ds
  | .rng2, ds => rngD ds
  | .zip, [.tup a, .tup b] => some (List.zipWith (fun x y => .tup [x, y]) a b)
  | .zip, [.lst a, .lst b] => some (List.zipWith (fun x y => .tup [x, y]) a b)
  | .zip, [.tup a, .lst b] => some (List.zipWith (fun x y => .tup [x, y]) a b)
  | .enum, [.tup a] => some ((List.range a.length).zipWith (fun i x => .tup [.int (i : Nat), x]) a)
  | .enum, [.lst a] => some ((List.range a.length).zipWith (fun i x => .tup [.int (i : Nat), x]) a)
  | _, _ => none
def ixD (cs : Cs) (a : D) (i : D) : Option D := match seqC cs a, i with
  | some ds, .int k => atI ds k
  | _, _ => none
def cutD (ds : List D) (lo hi : Option Int) : List D := (ds.drop (HT.sIx ds.length 0 lo)).take (HT.sIx ds.length ds.length hi - HT.sIx ds.length 0 lo)
def slD (cs : Cs) (a : D) (lo hi : Option Int) : Option D := match deref cs a with
  | some (.tup ds) => some (.tup (cutD ds lo hi))
  | some (.lst ds) => some (.lst (cutD ds lo hi))
  | some (.ro ds) => some (.lst (cutD ds lo hi))
  | _ => none
def revD (cs : Cs) (a : D) : Option D := match deref cs a with
  | some (.tup ds) => some (.tup ds.reverse)
  | some (.lst ds) => some (.lst ds.reverse)
  | some (.ro ds) => some (.lst ds.reverse)
  | _ => none
/-- by places -/
def permL {α : Type} : List Nat → List α → Option (List α)
  | [], _ => some []
  | i :: r, xs => match xs[i]?, permL r xs with
    | some x, some ys => some (x :: ys)
    | _, _ => none
mutual
def bindT : Tg → D → List (Option D) → Option (List (Option D))
  | .name i, d, sl => if i < sl.length then some (sl.set i (some d)) else none
  | .tup ts, .tup ds, sl => bindTs ts ds sl
  | .tup _, _, _ => none
def bindTs : List Tg → List D → List (Option D) → Option (List (Option D))
  | [], [], sl => some sl
  | t :: ts, d :: ds, sl => match bindT t d sl with
    | some sl' => bindTs ts ds sl'
    | none => none
  | _, _, _ => none
end
def wipeS (sl : List (Option D)) : List Nat → List (Option D)
  | [] => sl
  | v :: vs => (wipeS sl vs).set v none

/-! ### evaluation -/
def R.of {α : Type} (o : Option α) (s : S) : R α := match o with
  | some a => .ok a s
  | none => .no
@[simp] theorem R.of_some {α : Type} (a : α) (s : S) : R.of (some a) s = .ok a s := rfl
@[simp] theorem R.of_none {α : Type} (s : S) : (R.of none s : R α) = .no := rfl
/-- a call's end: the value, the cells -/
abbrev Gf := Nat → List D → Cs → Option (D × Cs)
def E.isStar : E → Bool
  | .star _ => true
  | _ => false
/-- the loop of a comprehension: the items, what is made so far, the cells -/
def lcL (sl : List (Option D)) (tg : Tg) (test : M D) (elt : M D) : List D → List D → Cs → Option (List D × Cs)
  | [], acc, cs => some (acc, cs)
  | d :: r, acc, cs => match bindT tg d sl with
    | none => none
    | some sl' => match test ⟨sl', cs⟩ with
      | .ok (.bl true) s2 => match elt s2 with
        | .ok y s3 => lcL sl tg test elt r (acc ++ [y]) s3.cs
        | .no => none
      | .ok (.bl false) s2 => lcL sl tg test elt r acc s2.cs
      | _ => none
def methD (m : ME) (d : D) (es : List D) (cs : Cs) : Option (D × Cs) := match d with
  | .cell n => match cs[n]? with
    | some (true, .lst ds) => match m, es with
      | .append, [x] => if fits (ds.length + 1) && lowD n x then some (.non, cs.set n (true, .lst (ds ++ [x]))) else none
      | .extend, [.lst xs] => if fits (ds.length + xs.length) && lowDs n xs then some (.non, cs.set n (true, .lst (ds ++ xs))) else none
      | .pop, [] => match ds.getLast? with
        | some x => some (x, cs.set n (true, .lst ds.dropLast))
        | none => none
      | .popAt, [.int k] => match ixN ds.length k with
        | some j => match ds[j]? with
          | some x => some (x, cs.set n (true, .lst (ds.eraseIdx j)))
          | none => none
        | none => none
      | _, _ => none
    | _ => none
  | _ => none
/-- x.index(y), x.count(y) of lists -/
def qryD (cs : Cs) : QK → D → D → Option D
  | .index, x, y => match pyC cs x, pyC cs y with
    | some (.list xs), some d => if shal (.list xs) && shal d then (xs.findIdx? fun z => PyData.eqv z d).map fun j => .int (j : Nat) else none
    | _, _ => none
  | .count, x, .int k => ((lstC cs x).bind intsD).map fun ns => .int (ns.count k : Nat)
  | .count, _, _ => none
def intO : Option D → Option (Option Int)
  | none => some none
  | some (.int i) => some (some i)
  | some _ => none
mutual
def den (G : Gf) : E → M D
  | .var i, s => match s.sl[i]? with
    | some (some d) => .ok d s
    | _ => .no
  | .kint i, s => .ok (.int i) s
  | .kbl b, s => .ok (.bl b) s
  | .knon, s => .ok .non s
  | .kstr x, s => .ok (.str x) s
  | .gint _ i, s => .ok (.int i) s
  | .bin o a b, s => (den G a s).bind fun x s => (den G b s).bind fun y s => R.of (binD s.cs o x y) s
  | .neg a, s => (den G a s).bind fun x s => match x with
    | .int i => .ok (.int (-i)) s
    | _ => .no
  | .cmp o a b, s => (den G a s).bind fun x s => (den G b s).bind fun y s => R.of ((cmpD s.cs o x y).map .bl) s
  | .cmp2 o p a b c, s => (den G a s).bind fun x s => (den G b s).bind fun y s => match cmpD s.cs o x y with
    | some true => (den G c s).bind fun z s => R.of ((cmpD s.cs p y z).map .bl) s
    | some false => .ok (.bl false) s
    | none => .no
  | .isn a, s => (den G a s).bind fun x s => .ok (.bl (match x with | .non => true | _ => false)) s
  | .nisn a, s => (den G a s).bind fun x s => .ok (.bl (match x with | .non => false | _ => true)) s
  | .and a b, s => (den G a s).bind fun x s => match x with
    | .bl true => den G b s
    | .bl false => .ok (.bl false) s
    | _ => .no
  | .or a b, s => (den G a s).bind fun x s => match x with
    | .bl false => den G b s
    | .bl true => .ok (.bl true) s
    | _ => .no
  | .not a, s => (den G a s).bind fun x s => match x with
    | .bl k => .ok (.bl (!k)) s
    | _ => .no
  | .ite c a b, s => (den G c s).bind fun x s => match x with
    | .bl true => den G a s
    | .bl false => den G b s
    | _ => .no
  | .tup es, s => (denL G es s).bind fun ds s => if fits ds.length then .ok (.tup ds) s else .no
  | .lst es, s => (denL G es s).bind fun ds s => if fits ds.length then .ok (.lst ds) s else .no
  | .star e, s => den G e s
  | .idx a i, s => (den G a s).bind fun x s => (den G i s).bind fun y s => R.of (ixD s.cs x y) s
  | .sl a lo hi, s => (den G a s).bind fun x s => (denO G lo s).bind fun l s => (denO G hi s).bind fun h s => R.of (slD s.cs x l h) s
  | .call f es, s => (denL G es s).bind fun ds s => match G f ds s.cs with
    | some (d, cs) => .ok d ⟨s.sl, cs⟩
    | none => .no
  | .bi b es, s => (denL G es s).bind fun ds s => R.of (biD s.cs b ds) s
  | .isi t a, s => (den G a s).bind fun x s => R.of ((tyD s.cs t x).map .bl) s
  | .rng es, s => (denL G es s).bind fun ds s => R.of ((rngD ds).map .lst) s
  | .trng es, s => (denL G es s).bind fun ds s => R.of ((rngD ds).map .tup) s
  | .lc elt tg k ss ifs own, s => (denL G ss s).bind fun ds s => match srcD k ds with
    | none => .no
    | some items => match lcL (wipeS s.sl own) tg (denI G ifs) (den G elt) items [] s.cs with
      | some (ys, cs) => .ok (.lst ys) ⟨s.sl, cs⟩
      | none => .no
  | .cel e, s => (den G e s).bind fun x s => match x with
    | .lst ds => if lowDs s.cs.length ds then .ok (.cell s.cs.length) ⟨s.sl, s.cs ++ [(true, .lst ds)]⟩ else .no
    | _ => .no
  | .frz e, s => (den G e s).bind fun x s => match x with
    | .cell n => match s.cs[n]? with
      | some (_, d) => .ok d ⟨s.sl, s.cs.set n (false, d)⟩
      | none => .no
    | d => .ok d s
  | .rev e, s => (den G e s).bind fun x s => R.of (revD s.cs x) s
  | .callk f es pm, s => (denL G es s).bind fun ds s => if ds.length = pm.length then (match permL pm ds with
    | some ds' => match G f ds' s.cs with
      | some (d, cs) => .ok d ⟨s.sl, cs⟩
      | none => .no
    | none => .no) else .no
  | .gstr _ y, s => .ok (.str y) s
  | .qry q a b, s => (den G a s).bind fun x s => (den G b s).bind fun y s => R.of (qryD s.cs q x y) s
  | .meth m a es, s => (den G a s).bind fun x s => (denL G es s).bind fun ds s => match methD m x ds s.cs with
    | some (d, cs) => .ok d ⟨s.sl, cs⟩
    | none => .no
def denL (G : Gf) : List E → M (List D)
  | [], s => .ok [] s
  | e :: r, s => (den G e s).bind fun x s => if e.isStar then (match seqC s.cs x with
      | some xs => (denL G r s).bind fun ys s => .ok (xs ++ ys) s
      | none => .no) else (denL G r s).bind fun ys s => .ok (x :: ys) s
/-- the tests of a clause: none or one -/
def denI (G : Gf) : List E → M D
  | [], s => .ok (.bl true) s
  | e :: _, s => den G e s
def denO (G : Gf) : Option E → M (Option Int)
  | none, s => .ok none s
  | some e, s => (den G e s).bind fun x s => match x with
    | .int i => .ok (some i) s
    | _ => .no
end

/-! ### statements -/
inductive Rs where | nx (s : S) | rt (d : D) (cs : Cs) | bk (s : S) | ct (s : S) | no
def R.run (r : R D) (f : D → S → Rs) : Rs := match r with
  | .ok d s => f d s
  | .no => .no
@[simp] theorem R.run_ok (d : D) (s : S) (f : D → S → Rs) : (R.ok d s).run f = f d s := rfl
@[simp] theorem R.run_no (f : D → S → Rs) : (R.no).run f = .no := rfl
def setS (s : S) (i : Nat) (d : D) : Rs := if i < s.sl.length then .nx ⟨s.sl.set i (some d), s.cs⟩ else .no
def whlL (c : M D) (b : S → Rs) : Nat → S → Rs
  | 0, _ => .no
  | n + 1, s => match c s with
    | .ok (.bl true) s => match b s with
      | .nx s => whlL c b n s
      | .ct s => whlL c b n s
      | .bk s => .nx s
      | r => r
    | .ok (.bl false) s => .nx s
    | _ => .no
def forL (tg : Tg) (b : S → Rs) : List D → S → Rs
  | [], s => .nx s
  | d :: r, s => match bindT tg d s.sl with
    | none => .no
    | some sl => match b ⟨sl, s.cs⟩ with
      | .nx s => forL tg b r s
      | .ct s => forL tg b r s
      | .bk s => .nx s
      | x => x
def fuel : Nat := 1000000
mutual
def denC (G : Gf) : C → S → Rs
  | .set i e, s => (den G e s).run fun d s => setS s i d
  | .setT t e, s => (den G e s).run fun d s => match bindT t d s.sl with
    | some sl => .nx ⟨sl, s.cs⟩
    | none => .no
  | .par i j a b, s => (den G a s).run fun x s => (den G b s).run fun y s => if i < s.sl.length ∧ j < s.sl.length then .nx ⟨(s.sl.set i (some x)).set j (some y), s.cs⟩ else .no
  | .setix a i e, s => (den G e s).run fun x s => (den G a s).run fun y s => (den G i s).run fun k s => match y, k with
    | .cell n, .int k => match s.cs[n]? with
      | some (true, .lst ds) => match ixN ds.length k with
        | some j => if lowD n x then .nx ⟨s.sl, s.cs.set n (true, .lst (ds.set j x))⟩ else .no
        | none => .no
      | _ => .no
    | _, _ => .no
  | .exp e, s => (den G e s).run fun _ s => .nx s
  | .ite c t e, s => (den G c s).run fun x s => match x with
    | .bl true => denCs G t s
    | .bl false => denCs G e s
    | _ => .no
  | .whl c b, s => whlL (den G c) (denCs G b) fuel s
  | .for t k ss b, s => match denL G ss s with
    | .ok ds s => match srcD k ds with
      | some items => forL t (denCs G b) items s
      | none => .no
    | .no => .no
  | .ret e, s => (den G e s).run fun d s => .rt d s.cs
  | .retn, s => .rt .non s.cs
  | .brk, s => .bk s
  | .cnt, s => .ct s
  | .pas, s => .nx s
  | .never, _ => .no
def denCs (G : Gf) : List C → S → Rs
  | [], s => .nx s
  | c :: r, s => match denC G c s with
    | .nx s => denCs G r s
    | x => x
end
/-- a def: parameters, slots, a new list is given, body -/
structure Df where
  np : Nat
  ns : Nat
  fr : Bool
  body : List C
def outD (n : Nat) (d : D) (cs : Cs) : Option (D × Cs) := if lowD n d then some (d, cs.take n) else none
def outF (n : Nat) (d : D) (cs : Cs) : Option (D × Cs) := match d with
  | .cell k => match cs[k]? with
    | some (true, .lst ds) => if decide (n ≤ k) && lowDs n ds then some (.lst ds, cs.take n) else none
    | _ => none
  | _ => none
def callF (T : Nat → Option Df) : Nat → Gf
  | 0, _, _, _ => none
  | k + 1, f, ds, cs => match T f with
    | none => none
    | some df => if ds.length = df.np then
        (match denCs (callF T k) df.body ⟨ds.map some ++ List.replicate (df.ns - df.np) none, cs⟩, df.fr with
        | .rt d cs', false => outD cs.length d cs'
        | .rt d cs', true => outF cs.length d cs'
        | .nx s, false => outD cs.length .non s.cs
        | _, _ => none) else none
end Ev

set_option Elab.async false
set_option linter.all false
set_option maxRecDepth 100000
set_option maxHeartbeats 4000000
set_option autoImplicit false
/-! The evaluator, part R: the operators and built-ins keep to what the evaluator says. -/
namespace Ev
open PySem PySem.Spec PyProof.Rows L2

section
variable {K : FragK} {al : List Addr} {F : Addr → Prop} {H H' : Hp}
theorem Rps.len : ∀ {ds : List D} {vs : List V}, Rps K al F H ds vs → vs.length = ds.length
  | [], vs, h => by
    have e : vs = [] := h
    rw [e]
    rfl
  | d :: ds, vs, h => by
    obtain ⟨v, r, e, _, t⟩ := h
    rw [e, List.length_cons, List.length_cons, Rps.len t]
theorem Rps.get : ∀ {ds : List D} {vs : List V} {i : Nat} {d : D}, Rps K al F H ds vs → ds[i]? = some d → ∃ v, vs[i]? = some v ∧ Rp K al F H d v
  | [], vs, i, d, h, e => by simp at e
  | x :: ds, vs, 0, d, h, e => by
    obtain ⟨v, r, e2, q, t⟩ := h
    have e : x = d := by simpa using e
    subst e e2
    exact ⟨v, rfl, q⟩
  | x :: ds, vs, i + 1, d, h, e => by
    obtain ⟨v, r, e2, q, t⟩ := h
    subst e2
    exact Rps.get (i := i) t (by simpa using e)
theorem Rps.of : ∀ {ds : List D} {vs : List V}, vs.length = ds.length → (∀ (i : Nat) d v, ds[i]? = some d → vs[i]? = some v → Rp K al F H d v) → Rps K al F H ds vs
  | [], vs, h, _ => by
    have e : vs = [] := by simpa using h
    exact e
  | d :: ds, [], h, _ => by simp at h
  | d :: ds, v :: vs, h, g => ⟨v, vs, rfl, g 0 d v rfl rfl, Rps.of (by simpa using h) fun i d v h1 h2 => g (i + 1) d v (by simpa using h1) (by simpa using h2)⟩
theorem Rps.getv {ds : List D} {vs : List V} (h : Rps K al F H ds vs) {i : Nat} {d : D} {v : V} (h1 : ds[i]? = some d) (h2 : vs[i]? = some v) : Rp K al F H d v := by
  obtain ⟨w, e, r⟩ := h.get h1
  rw [h2] at e
  cases e
  exact r
theorem Rps.app : ∀ {ds es : List D} {vs ws : List V}, Rps K al F H ds vs → Rps K al F H es ws → Rps K al F H (ds ++ es) (vs ++ ws)
  | [], es, vs, ws, h, g => by
    have e : vs = [] := h
    rw [e]
    exact g
  | d :: ds, es, vs, ws, h, g => by
    obtain ⟨v, r, e, q, t⟩ := h
    subst e
    exact ⟨v, r ++ ws, rfl, q, Rps.app t g⟩
theorem Rps.one {d : D} {v : V} (h : Rp K al F H d v) : Rps K al F H [d] [v] := ⟨v, [], rfl, h, rfl⟩
theorem Rps.drop {ds : List D} {vs : List V} (h : Rps K al F H ds vs) (n : Nat) : Rps K al F H (ds.drop n) (vs.drop n) :=
  Rps.of (by rw [List.length_drop, List.length_drop, h.len]) fun i d v h1 h2 => h.getv (i := n + i) (by simpa [List.getElem?_drop] using h1) (by simpa [List.getElem?_drop] using h2)
theorem Rps.take {ds : List D} {vs : List V} (h : Rps K al F H ds vs) (n : Nat) : Rps K al F H (ds.take n) (vs.take n) :=
  Rps.of (by rw [List.length_take, List.length_take, h.len]) fun i d v h1 h2 => by
    rw [List.getElem?_take] at h1 h2
    split at h1
    · rename_i q
      rw [if_pos q] at h2
      exact h.getv h1 h2
    · cases h1
theorem Rps.set {ds : List D} {vs : List V} (h : Rps K al F H ds vs) (j : Nat) {d : D} {v : V} (r : Rp K al F H d v) : Rps K al F H (ds.set j d) (vs.set j v) :=
  Rps.of (by rw [List.length_set, List.length_set, h.len]) fun i d' v' h1 h2 => by
    by_cases e : j = i
    · subst e
      rw [List.getElem?_set] at h1 h2
      simp only [if_true] at h1 h2
      split at h1
      · rename_i q
        rw [if_pos (by rw [h.len]; exact q)] at h2
        cases h1
        cases h2
        exact r
      · cases h1
    · rw [List.getElem?_set_ne e] at h1 h2
      exact h.getv h1 h2
theorem Rps.eraseIdx {ds : List D} {vs : List V} (h : Rps K al F H ds vs) (j : Nat) : Rps K al F H (ds.eraseIdx j) (vs.eraseIdx j) := by
  rw [List.eraseIdx_eq_take_drop_succ, List.eraseIdx_eq_take_drop_succ]
  exact (h.take j).app (h.drop (j + 1))
theorem Rps.dropLast {ds : List D} {vs : List V} (h : Rps K al F H ds vs) : Rps K al F H ds.dropLast vs.dropLast := by
  rw [List.dropLast_eq_take, List.dropLast_eq_take, h.len]
  exact h.take _
theorem Rps.ints : ∀ {ds : List D} {vs : List V} {ns : List Int}, Rps K al F H ds vs → intsD ds = some ns → vs = ns.map V.int
  | [], vs, ns, h, e => by
    have e2 : vs = [] := h
    have e3 : ns = [] := by simpa [intsD] using e.symm
    rw [e2, e3]
    rfl
  | d :: ds, vs, ns, h, e => by
    obtain ⟨v, r, e2, q, t⟩ := h
    cases d with
    | int i =>
      obtain rfl : v = .int i := q
      simp only [intsD, Option.map_eq_some_iff] at e
      obtain ⟨ms, e3, e4⟩ := e
      subst e4 e2
      rw [Rps.ints t e3]
      rfl
    | _ => simp [intsD] at e
theorem Rps.bls : ∀ {ds : List D} {vs : List V} {bs : List Bool}, Rps K al F H ds vs → bools ds = some bs → vs = bs.map V.bl
  | [], vs, ns, h, e => by
    have e2 : vs = [] := h
    have e3 : ns = [] := by simpa [bools] using e.symm
    rw [e2, e3]
    rfl
  | d :: ds, vs, ns, h, e => by
    obtain ⟨v, r, e2, q, t⟩ := h
    cases d with
    | bl i =>
      obtain rfl : v = .bl i := q
      simp only [bools, Option.map_eq_some_iff] at e
      obtain ⟨ms, e3, e4⟩ := e
      subst e4 e2
      rw [Rps.bls t e3]
      rfl
    | _ => simp [bools] at e
theorem Rps.bl_of : ∀ (bs : List Bool), Rps K al F H (bs.map D.bl) (bs.map V.bl)
  | [] => rfl
  | b :: bs => ⟨.bl b, bs.map V.bl, rfl, rfl, Rps.bl_of bs⟩
theorem Rps.int_of : ∀ (bs : List Int), Rps K al F H (bs.map D.int) (bs.map V.int)
  | [] => rfl
  | b :: bs => ⟨.int b, bs.map V.int, rfl, rfl, Rps.int_of bs⟩
end

theorem fits_le {n : Nat} (h : fits n = true) : n ≤ sizeLine := by
  rw [sizeLine_eq]
  exact of_decide_eq_true h
section
variable {K : FragK} {O : Addr → Prop} {al : List Addr} {s : S} {σ : L2.St} {H H' : Hp}
theorem EnvR.nf (env : EnvR K O al s σ H) {p : Addr} (hp : H p = none) : ¬ Forb O al s.cs p := fun f => mut_none (env.cr.mut f) hp
theorem new_lst (env : EnvR K O al s σ H) {p : Addr} (hp : H p = none) {ds : List D} {vs : List V} (ko : KOff K (upd H p (.lst vs))) (r : Rps K al (Forb O al s.cs) H ds vs) (z : vs.length ≤ sizeLine) :
    Rp K al (Forb O al s.cs) (upd H p (.lst vs)) (.lst ds) (.ref p) :=
  ⟨p, vs, rfl, env.nf hp, upd_same, z, r.grow env.cr (upd_keep hp) ko⟩
theorem new_tup (env : EnvR K O al s σ H) {p : Addr} (hp : H p = none) {ds : List D} {vs : List V} (ko : KOff K (upd H p (.tup vs))) (r : Rps K al (Forb O al s.cs) H ds vs) (z : vs.length ≤ sizeLine) :
    Rp K al (Forb O al s.cs) (upd H p (.tup vs)) (.tup ds) (.ref p) :=
  ⟨p, vs, rfl, .of upd_same, z, r.grow env.cr (upd_keep hp) ko⟩
/-- a sequence that is read -/
theorem seq_of (env : EnvR K O al s σ H) {d : D} {ds : List D} {v : V} (r : Rp K al (Forb O al s.cs) H d v) (e : seqC s.cs d = some ds) :
    ∃ a vs, v = .ref a ∧ (SqL K H a vs ∨ SqT K H a vs) ∧ vs.length ≤ sizeLine ∧ Rps K al (Forb O al s.cs) H ds vs := by
  cases d with
  | tup xs =>
    obtain rfl : xs = ds := by simpa [seqC, deref, seqD] using e
    obtain ⟨a, vs, rfl, q, z, t⟩ := r
    exact ⟨a, vs, rfl, .inr q, z, t⟩
  | lst xs =>
    obtain rfl : xs = ds := by simpa [seqC, deref, seqD] using e
    obtain ⟨a, vs, rfl, _, q, z, t⟩ := r
    exact ⟨a, vs, rfl, .inl (.of q), z, t⟩
  | ro xs =>
    obtain rfl : xs = ds := by simpa [seqC, deref, seqD] using e
    obtain ⟨a, vs, rfl, q, z, t⟩ := r
    exact ⟨a, vs, rfl, .inl q.sq, z, t⟩
  | cell n =>
    obtain ⟨a, rfl, q⟩ := r
    cases c : s.cs[n]? with
    | none => simp [seqC, deref, c] at e
    | some p =>
      obtain ⟨b, d⟩ := p
      have k := env.cr.cell n b d a c q
      simp only [seqC, deref, c, Option.map_some, Option.bind_some] at e
      cases d with
      | lst xs =>
        obtain rfl : xs = ds := by simpa [seqD] using e
        obtain ⟨vs, q2, z, t⟩ := k
        exact ⟨a, vs, rfl, .inl (.of q2), z, t⟩
      | _ => exact False.elim k
  | _ => simp [seqC, deref, seqD] at e
end

/-! ### data -/
mutual
theorem dp_of {K : FragK} {al : List Addr} {F : Addr → Prop} {H : Hp} : ∀ (d : D) (v : V) (p : PyData), Rp K al F H d v → pyD d = some p → Dp K H v p ∧ p.canLay0 = true
  | .non, v, p, r, e => by
    obtain rfl : v = .non := r
    obtain rfl : PyData.none = p := by simpa [pyD] using e
    exact ⟨.non, by simp [PyData.canLay0]⟩
  | .bl b, v, p, r, e => by
    obtain rfl : v = .bl b := r
    obtain rfl : PyData.bool b = p := by simpa [pyD] using e
    exact ⟨.bl b, by simp [PyData.canLay0]⟩
  | .int i, v, p, r, e => by
    obtain rfl : v = .int i := r
    obtain rfl : PyData.int i = p := by simpa [pyD] using e
    exact ⟨.int i, by simp [PyData.canLay0]⟩
  | .str x, v, p, r, e => by
    obtain rfl : v = .str x := r
    simp only [pyD] at e
    split at e
    · rename_i q
      cases e
      exact ⟨.str x, by simp [PyData.canLay0, q]⟩
    · cases e
  | .tup ds, v, p, r, e => by
    obtain ⟨a, vs, rfl, q, z, t⟩ := r
    simp only [pyD, Option.map_eq_some_iff] at e
    obtain ⟨ps, e, rfl⟩ := e
    obtain ⟨h1, h2⟩ := dps_of ds vs ps t e
    exact ⟨.tup q h1, by simp [PyData.canLay0, h2]⟩
  | .lst ds, v, p, r, e => by
    obtain ⟨a, vs, rfl, _, q, z, t⟩ := r
    simp only [pyD, Option.map_eq_some_iff] at e
    obtain ⟨ps, e, rfl⟩ := e
    obtain ⟨h1, h2⟩ := dps_of ds vs ps t e
    exact ⟨.lst (.of q) h1, by simp [PyData.canLay0, h2]⟩
  | .ro ds, v, p, r, e => by simp [pyD] at e
  | .cell n, v, p, r, e => by simp [pyD] at e
theorem dps_of {K : FragK} {al : List Addr} {F : Addr → Prop} {H : Hp} : ∀ (ds : List D) (vs : List V) (ps : List PyData), Rps K al F H ds vs → pyDs ds = some ps → DpAll K H vs ps ∧ PyData.canLayAll0 ps = true
  | [], vs, ps, r, e => by
    obtain rfl : vs = [] := r
    obtain rfl : [] = ps := by simpa [pyDs] using e
    exact ⟨.nil, by simp [PyData.canLayAll0]⟩
  | d :: ds, vs, ps, r, e => by
    obtain ⟨v, w, rfl, q, t⟩ := r
    simp only [pyDs] at e
    split at e
    · rename_i x xs ex exs
      cases e
      obtain ⟨h1, h2⟩ := dp_of d v x q ex
      obtain ⟨h3, h4⟩ := dps_of ds w xs t exs
      exact ⟨.cons h1 h3, by simp [PyData.canLayAll0, h2, h4]⟩
    · cases e
end
theorem shaped_of {p : PyData} (h1 : p.canLay0 = true) (h2 : shal p = true) : SeqAt.shaped p = true := by
  unfold SeqAt.shaped
  rw [h1]
  exact h2
theorem dpC_of {K : FragK} {O : Addr → Prop} {al : List Addr} {s : S} {σ : L2.St} {H : Hp} (env : EnvR K O al s σ H) {d : D} {v : V} {p : PyData} (r : Rp K al (Forb O al s.cs) H d v) (e : pyC s.cs d = some p) : Dp K H v p ∧ p.canLay0 = true := by
  cases d with
  | cell n =>
    obtain ⟨a, rfl, q⟩ := r
    cases c : s.cs[n]? with
    | none => simp [pyC, deref, c] at e
    | some x =>
      obtain ⟨b, d⟩ := x
      have k := env.cr.cell n b d a c q
      simp only [pyC, deref, c, Option.map_some, Option.bind_some] at e
      cases d with
      | lst xs =>
        obtain ⟨vs, q2, z, t⟩ := k
        simp only [pyD, Option.map_eq_some_iff] at e
        obtain ⟨ps, e, rfl⟩ := e
        obtain ⟨h1, h2⟩ := dps_of xs vs ps t e
        exact ⟨.lst (.of q2) h1, by simp [PyData.canLay0, h2]⟩
      | _ => exact False.elim k
  | _ => exact dp_of _ v p r (by simpa [pyC, deref] using e)

/-! ### operators -/
section
variable {X : Cx}
theorem OpR.or {f : Value → Value → Sem Value} {r r' : R2} (h : OpR X f r) (h' : OpR X f r') : OpR X f (fun x y H Q => r x y H Q ∨ r' x y H Q) :=
  fun pins s σ H x y v u Q I rx ry q => q.elim (h pins s σ H x y v u Q I rx ry) (h' pins s σ H x y v u Q I rx ry)
theorem OpR.off {f : Value → Value → Sem Value} {r : R2} (h : OpR X f r) : OpR X f (fun x y H Q => r x y H fun v H' => KOff X.K H' → Q v H') :=
  fun pins s σ H x y v u Q I rx ry q => thn (h pins s σ H x y v u _ I rx ry q) fun a s1 ⟨z, H1, I1, r1, q1⟩ => ⟨z, H1, I1, r1, q1 (koff_of I1)⟩
theorem CallR.off {f : Value} {r : List V → Hp → VK → Prop} (h : CallR X f r) : CallR X f (fun xs H Q => r xs H fun v H' => KOff X.K H' → Q v H') :=
  fun pins s σ H xs us Q I rx q => thn (h pins s σ H xs us _ I rx q) fun a s1 ⟨z, H1, I1, r1, q1⟩ => ⟨z, H1, I1, r1, q1 (koff_of I1)⟩
end
/-- an operator's rule gives what the evaluator says -/
def OpS (K : FragK) (f : Cs → D → D → Option D) (r : R2) : Prop := ∀ (O : Addr → Prop) (al : List Addr) (s : S) (σ : L2.St) (H : Hp) (x y : D) (vx vy : V) (d : D) (Q : VK), EnvR K O al s σ H → Rp K al (Forb O al s.cs) H x vx → Rp K al (Forb O al s.cs) H y vy →
  f s.cs x y = some d → (∀ H' v, (∀ a q, H a = some q → H' a = some q) → KOff K H' → Rp K al (Forb O al s.cs) H' d v → Q v H') → r vx vy H fun v H' => KOff K H' → Q v H'
def BiS (K : FragK) (f : Cs → List D → Option D) (r : List V → Hp → VK → Prop) : Prop := ∀ (O : Addr → Prop) (al : List Addr) (s : S) (σ : L2.St) (H : Hp) (xs : List D) (vs : List V) (d : D) (Q : VK), EnvR K O al s σ H → Rps K al (Forb O al s.cs) H xs vs →
  f s.cs xs = some d → (∀ H' v, (∀ a q, H a = some q → H' a = some q) → KOff K H' → Rp K al (Forb O al s.cs) H' d v → Q v H') → r vs H fun v H' => KOff K H' → Q v H'
theorem id_keep {H : Hp} : ∀ a q, H a = some q → H a = some q := fun _ _ h => h

def rAddE (K : FragK) : R2 := fun x y H Q => rI0 (fun i j => .int (i + j)) x y H Q ∨ (rCatA K x y H Q ∨ rCat x y H Q)
theorem ops_add (K : FragK) : OpS K (fun cs x y => binD cs .add x y) (rAddE K) := by
  intro O al s σ H x y vx vy d Q env rx ry e fin
  cases x <;> cases y <;> simp only [binD, reduceCtorEq] at e
  case int.int i j =>
    obtain rfl : vx = .int i := rx
    obtain rfl : vy = .int j := ry
    cases e
    exact .inl ⟨i, j, rfl, rfl, fun ko => fin H _ id_keep ko rfl⟩
  case tup.tup a b =>
    split at e
    · rename_i f
      cases e
      obtain ⟨p, vs, rfl, q, z, t⟩ := rx
      obtain ⟨p2, ws, rfl, q2, z2, t2⟩ := ry
      have hz : vs.length + ws.length ≤ sizeLine := by rw [t.len, t2.len]; exact fits_le f
      refine .inr (.inl ⟨p, p2, vs, ws, rfl, rfl, q, q2, hz, fun n ko => fin H _ id_keep ko ?_, fun n n2 ko => fin H _ id_keep ko ?_, fun n n2 l hl ko => fin _ _ (upd_keep hl) ko ?_⟩)
      · subst n
        have ea : a = [] := by have := t.len; simpa using this.symm
        subst ea
        exact ⟨p2, ws, rfl, q2, z2, t2⟩
      · subst n2
        have eb : b = [] := by have := t2.len; simpa using this.symm
        subst eb
        rw [List.append_nil]
        exact ⟨p, vs, rfl, q, z, t⟩
      · exact new_tup env hl ko (t.app t2) (by rw [List.length_append]; exact hz)
    · cases e
  case lst.lst a b =>
    split at e
    · rename_i f
      cases e
      obtain ⟨p, vs, rfl, n, q, z, t⟩ := rx
      obtain ⟨p2, ws, rfl, n2, q2, z2, t2⟩ := ry
      have hz : vs.length + ws.length ≤ sizeLine := by rw [t.len, t2.len]; exact fits_le f
      exact .inr (.inr ⟨p, p2, vs, ws, rfl, rfl, q, q2, hz, fun l hl ko => fin _ _ (upd_keep hl) ko (new_lst env hl ko (t.app t2) (by rw [List.length_append]; exact hz))⟩)
    · cases e
theorem opr_add {X : Cx} : OpR X (binaryOp .Add) (rAddE X.K) := OpR.or op_add (OpR.or op_catA op_cat)
theorem ops_sub (K : FragK) : OpS K (fun cs x y => binD cs .sub x y) (rI0 fun i j => .int (i - j)) := by
  intro O al s σ H x y vx vy d Q env rx ry e fin
  cases x <;> cases y <;> simp only [binD, reduceCtorEq] at e
  case int.int i j =>
    obtain rfl : vx = .int i := rx
    obtain rfl : vy = .int j := ry
    cases e
    exact ⟨i, j, rfl, rfl, fun ko => fin H _ id_keep ko rfl⟩
theorem ops_mod (K : FragK) : OpS K (fun cs x y => binD cs .mod x y) (rI (fun _ j => j ≠ 0) fun i j => .int (i.fmod j)) := by
  intro O al s σ H x y vx vy d Q env rx ry e fin
  cases x <;> cases y <;> simp only [binD, reduceCtorEq] at e
  case int.int i j =>
    obtain rfl : vx = .int i := rx
    obtain rfl : vy = .int j := ry
    split at e
    · cases e
    · rename_i n
      cases e
      exact ⟨i, j, rfl, rfl, by simpa using n, fun ko => fin H _ id_keep ko rfl⟩
theorem ops_fdiv (K : FragK) : OpS K (fun cs x y => binD cs .fdiv x y) (rI CDivN fun i j => .int (i.fdiv j)) := by
  intro O al s σ H x y vx vy d Q env rx ry e fin
  cases x <;> cases y <;> simp only [binD, reduceCtorEq] at e
  case int.int i j =>
    obtain rfl : vx = .int i := rx
    obtain rfl : vy = .int j := ry
    split at e
    · cases e
    · rename_i n
      cases e
      simp only [Bool.or_eq_true, beq_iff_eq, decide_eq_true_eq, not_or, Nat.not_le] at n
      exact ⟨i, j, rfl, rfl, ⟨n.1, n.2⟩, fun ko => fin H _ id_keep ko rfl⟩
end Ev

set_option Elab.async false
set_option linter.all false
set_option maxRecDepth 100000
set_option maxHeartbeats 4000000
set_option autoImplicit false
/-! The evaluator, part S: products, comparisons, built-ins. -/
namespace L2
open PySem PySem.Spec PyProof.Rows
theorem tuple_mul1 (l : Addr) (items : Array Value) (n : Nat) (dd : Option Addr) (sl : Array (Option Value)) (x : Int) (u : Tok) (c0 : (decide (x < -(2 ^ 63)) || decide (x ≥ 2 ^ 63)) = false) (c1 : (items.isEmpty || x == 1) = true) :
    Meets (Builtin.«tuple.__mul__» ⟨[.ref l, .int x u], []⟩) (fun _ R s => s.heap.get? l = some { cls := .type "tuple", dict := dd, data := .seq items n, slots := sl } ∧
      R (.ok (.ret (Value.ref l))) s) :=
  .of_wp fun prog w A R s h => by
    obtain ⟨hp, g, d, tk, os⟩ := s
    obtain ⟨hl, h⟩ := h
    have f1 := AutoSeq1.idx_int
    wp_walk using wpAny_loadPart' hl
    repeat (first
      | (refine wpAny_ite_false (decide_eq_false (by rw [c0]; exact Bool.false_ne_true)) ?_; wp_walk using wpAny_loadPart' hl)
      | (refine wpAny_ite_true (decide_eq_true (by rw [c1])) ?_; wp_walk using wpAny_loadPart' hl))
    exact ⟨_, rfl, h⟩
def rRepT1 (K : PySem.W.Frag) : R2 := fun x y H Q => ∃ l xs, x = .ref l ∧ y = .int 1 ∧ SqT K H l xs ∧ Q (.ref l) H
section
variable {X : Cx}
theorem op_repT1 : OpR X (binaryOp .Mult) (rRepT1 X.K) := by
  intro pins s σ H x y v u Q I rx ry h
  obtain ⟨l, xs, rfl, rfl, hT, q⟩ := h
  cases rx
  obtain ⟨t, rfl⟩ := ry
  obtain ⟨its, r, ⟨⟨cls, dd, data, sl⟩, ho, hc, n, hd⟩, hs⟩ := I.tuple hT
  simp only at hc hd
  subst hc hd
  have c0 : (decide ((1 : Int) < -(2 ^ 63)) || decide ((1 : Int) ≥ 2 ^ 63)) = false := by decide
  have c1 : (its.toArray.isEmpty || (1 : Int) == 1) = true := by simp
  refine wpAny_binaryOp_repeat_ref (T := "tuple") (U := "int") (by decide) ⟨_, ho, rfl⟩ (fun s' => typeIs_int s' 1 t) noFill_tuple_mul F.fills_int_mul F.slot_int_rmul repeat_tuple F.slot_int_index.lookup
    (call_meets F.slot_int_rmul (typeIs_int s 1 t) F.entry_int_rmul (F.args_int_rmul_2 _ _) (int_rmul_tuple 1 t l its.toArray n dd sl)
      ⟨ho, rfl, ⟨_, ho, rfl⟩, call_meets F.slot_tuple_mul ⟨_, ho, rfl⟩ F.entry_tuple_mul (F.args_tuple_mul_2 _ _) (tuple_mul1 l its.toArray n dd sl 1 t c0 c1) ⟨ho, ?_⟩⟩)
  exact ⟨.ref l, H, I, rfl, q⟩
/-- x in a tuple of data -/
def rInTD (K : PySem.W.Frag) : R2 := fun x y H Q => ∃ d ds, Dp K H x d ∧ Dp K H y (.tuple ds) ∧ SeqAt.shaped d = true ∧ (PyData.tuple ds).canLay0 = true ∧ Q (.bl (ds.any fun z => PyData.eqv z d)) H
def rNotInTD (K : PySem.W.Frag) : R2 := fun x y H Q => ∃ d ds, Dp K H x d ∧ Dp K H y (.tuple ds) ∧ SeqAt.shaped d = true ∧ (PyData.tuple ds).canLay0 = true ∧ Q (.bl (!ds.any fun z => PyData.eqv z d)) H
theorem op_inTD (hu : X.A.units + 65 < cLine) : OpR X (compareOp .In) (rInTD X.K) := by
  intro pins s σ H x y v u Q I rx ry h
  obtain ⟨d, ds, hd, he, sd, se, q⟩ := h
  obtain ⟨as, r1⟩ := Dp.reads I d x v hd rx
  obtain ⟨bs, r2⟩ := Dp.reads I (.tuple ds) y u he ry
  exact SeqAt.in_tuple_reads r2 r1 se (SeqAt.canLay_of_shaped sd) (room_in_shaped sd hu) ⟨.bl _, H, I, rfl, q⟩
theorem op_notInTD (hu : X.A.units + 65 < cLine) : OpR X (compareOp .NotIn) (rNotInTD X.K) := by
  intro pins s σ H x y v u Q I rx ry h
  obtain ⟨d, ds, hd, he, sd, se, q⟩ := h
  obtain ⟨as, r1⟩ := Dp.reads I d x v hd rx
  obtain ⟨bs, r2⟩ := Dp.reads I (.tuple ds) y u he ry
  exact SeqAt.notIn_tuple_reads r2 r1 se (SeqAt.canLay_of_shaped sd) (room_in_shaped sd hu) ⟨.bl _, H, I, rfl, q⟩
def rInLD (K : PySem.W.Frag) : R2 := fun x y H Q => ∃ d ds, Dp K H x d ∧ Dp K H y (.list ds) ∧ SeqAt.shaped d = true ∧ (PyData.list ds).canLay0 = true ∧ Q (.bl (ds.any fun z => PyData.eqv z d)) H
def rNotInLD (K : PySem.W.Frag) : R2 := fun x y H Q => ∃ d ds, Dp K H x d ∧ Dp K H y (.list ds) ∧ SeqAt.shaped d = true ∧ (PyData.list ds).canLay0 = true ∧ Q (.bl (!ds.any fun z => PyData.eqv z d)) H
theorem op_inLD (hu : X.A.units + 65 < cLine) : OpR X (compareOp .In) (rInLD X.K) := by
  intro pins s σ H x y v u Q I rx ry h
  obtain ⟨d, ds, hd, he, sd, se, q⟩ := h
  obtain ⟨as, r1⟩ := Dp.reads I d x v hd rx
  obtain ⟨bs, r2⟩ := Dp.reads I (.list ds) y u he ry
  exact SeqAt.in_list_reads r2 r1 se (SeqAt.canLay_of_shaped sd) (room_in_shaped sd hu) ⟨.bl _, H, I, rfl, q⟩
theorem op_notInLD (hu : X.A.units + 65 < cLine) : OpR X (compareOp .NotIn) (rNotInLD X.K) := by
  intro pins s σ H x y v u Q I rx ry h
  obtain ⟨d, ds, hd, he, sd, se, q⟩ := h
  obtain ⟨as, r1⟩ := Dp.reads I d x v hd rx
  obtain ⟨bs, r2⟩ := Dp.reads I (.list ds) y u he ry
  exact SeqAt.notIn_list_reads r2 r1 se (SeqAt.canLay_of_shaped sd) (room_in_shaped sd hu) ⟨.bl _, H, I, rfl, q⟩
end
end L2
namespace Ev
open PySem PySem.Spec PyProof.Rows L2
def rMulE (K : FragK) : R2 := fun x y H Q => rI CMul (fun i j => .int (i * j)) x y H Q ∨ (rRepT1 K x y H Q ∨ rRepT K x y H Q)
theorem opr_mul {X : Cx} : OpR X (binaryOp .Mult) (rMulE X.K) := OpR.or op_mul (OpR.or op_repT1 op_repT)
theorem rep_flat {K : FragK} {al : List Addr} {F : Addr → Prop} {H : Hp} {ds : List D} {vs : List V} (h : Rps K al F H ds vs) : ∀ k : Nat, Rps K al F H (List.replicate k ds).flatten (List.replicate k vs).flatten
  | 0 => rfl
  | k + 1 => by
    rw [List.replicate_succ, List.replicate_succ, List.flatten_cons, List.flatten_cons]
    exact h.app (rep_flat h k)
theorem ops_mul (K : FragK) : OpS K (fun cs x y => binD cs .mul x y) (rMulE K) := by
  intro O al s σ H x y vx vy d Q env rx ry e fin
  cases x <;> cases y <;> simp only [binD, reduceCtorEq] at e
  case int.int i j =>
    obtain rfl : vx = .int i := rx
    obtain rfl : vy = .int j := ry
    split at e
    · rename_i n
      cases e
      simp only [smallI, Bool.or_eq_true, Bool.and_eq_true, decide_eq_true_eq] at n
      exact .inl ⟨i, j, rfl, rfl, n, fun ko => fin H _ id_keep ko rfl⟩
    · cases e
  case tup.int a j =>
    obtain ⟨p, vs, rfl, q, z, t⟩ := rx
    obtain rfl : vy = .int j := ry
    split at e
    · rename_i n
      cases e
      simp only [Bool.and_eq_true, decide_eq_true_eq, Bool.not_eq_true', List.isEmpty_eq_false_iff] at n
      obtain ⟨⟨⟨n1, n2⟩, n3⟩, n4⟩ := n
      by_cases h1 : j = 1
      · subst h1
        have e1 : (List.replicate (1 : Int).toNat a).flatten = a := by simp
        rw [e1] at fin
        exact .inr (.inl ⟨p, vs, rfl, rfl, q, fun ko => fin H _ id_keep ko ⟨p, vs, rfl, q, z, t⟩⟩)
      · have hv : vs.length ≤ 1000 := by rw [t.len]; exact n3
        refine .inr (.inr ⟨p, j, vs, rfl, rfl, q, fun h => n4 ?_, by omega, n2, hv, fun l hl ko => fin _ _ (upd_keep hl) ko (new_tup env hl ko (rep_flat t _) ?_)⟩)
        · have := t.len
          rw [h] at this
          exact List.eq_nil_of_length_eq_zero this.symm
        · rw [PyProof.Rows.lm_len_rep_flat, sizeLine_eq]
          have a1 : j.toNat * vs.length ≤ 1000 * 1000 := Nat.mul_le_mul (by omega) hv
          omega
    · cases e

/-! ### comparisons -/
def opv (f : Cs → D → D → Option Bool) : Cs → D → D → Option D := fun cs x y => (f cs x y).map .bl
theorem ops_rel {K : FragK} {g : Int → Int → Bool} {f : Cs → D → D → Option Bool} (hf : ∀ cs x y b, f cs x y = some b → ∃ i j, x = .int i ∧ y = .int j ∧ b = g i j) : OpS K (opv f) (rI0 fun i j => .bl (g i j)) := by
  intro O al s σ H x y vx vy d Q env rx ry e fin
  simp only [opv, Option.map_eq_some_iff] at e
  obtain ⟨b, e, rfl⟩ := e
  obtain ⟨i, j, rfl, rfl, rfl⟩ := hf _ _ _ _ e
  obtain rfl : vx = .int i := rx
  obtain rfl : vy = .int j := ry
  exact ⟨i, j, rfl, rfl, fun ko => fin H _ id_keep ko rfl⟩
theorem ops_le (K : FragK) : OpS K (opv fun cs x y => cmpD cs .le x y) (rI0 fun i j => .bl (decide (i ≤ j))) := ops_rel (g := fun i j => decide (i ≤ j)) fun cs x y b e => by
  cases x <;> cases y <;> simp only [cmpD, reduceCtorEq] at e
  exact ⟨_, _, rfl, rfl, by simpa using e.symm⟩
theorem ops_gt (K : FragK) : OpS K (opv fun cs x y => cmpD cs .gt x y) (rI0 fun i j => .bl (decide (j < i))) := ops_rel (g := fun i j => decide (j < i)) fun cs x y b e => by
  cases x <;> cases y <;> simp only [cmpD, reduceCtorEq] at e
  exact ⟨_, _, rfl, rfl, by simpa using e.symm⟩
theorem ops_ge (K : FragK) : OpS K (opv fun cs x y => cmpD cs .ge x y) (rI0 fun i j => .bl (decide (j ≤ i))) := ops_rel (g := fun i j => decide (j ≤ i)) fun cs x y b e => by
  cases x <;> cases y <;> simp only [cmpD, reduceCtorEq] at e
  exact ⟨_, _, rfl, rfl, by simpa using e.symm⟩
def rLtE (K : FragK) : R2 := fun x y H Q => rI0 (fun i j => .bl (decide (i < j))) x y H Q ∨ rLtT K x y H Q
theorem opr_lt {X : Cx} (hu : X.A.units < cLine) : OpR X (compareOp .Lt) (rLtE X.K) := OpR.or op_lt (op_ltT hu)
theorem ops_lt (K : FragK) : OpS K (opv fun cs x y => cmpD cs .lt x y) (rLtE K) := by
  intro O al s σ H x y vx vy d Q env rx ry e fin
  simp only [opv, Option.map_eq_some_iff] at e
  obtain ⟨b, e, rfl⟩ := e
  cases x <;> cases y <;> simp only [cmpD, reduceCtorEq] at e
  case int.int i j =>
    obtain rfl : vx = .int i := rx
    obtain rfl : vy = .int j := ry
    cases e
    exact .inl ⟨i, j, rfl, rfl, fun ko => fin H _ id_keep ko rfl⟩
  case tup.tup a c =>
    obtain ⟨p, vs, rfl, q, z, t⟩ := rx
    obtain ⟨p2, ws, rfl, q2, z2, t2⟩ := ry
    split at e
    · rename_i x y ex ey
      cases e
      have e1 := t.ints ex
      have e2 := t2.ints ey
      subst e1 e2
      exact .inr ⟨p, p2, x, y, rfl, rfl, q, q2, fun ko => fin H _ id_keep ko rfl⟩
    · cases e
theorem eqD_some {cs : Cs} {x y : D} {b : Bool} (h : eqD cs x y = some b) : ∃ p q, pyC cs x = some p ∧ pyC cs y = some q ∧ shal p = true ∧ shal q = true ∧ b = PyData.eqv p q := by
  unfold eqD at h
  split at h
  · rename_i p q ep eq
    split at h
    · rename_i n
      cases h
      simp only [Bool.and_eq_true] at n
      exact ⟨p, q, ep, eq, n.1, n.2, rfl⟩
    · cases h
  · cases h
theorem ops_eq (K : FragK) : OpS K (opv fun cs x y => cmpD cs .eq x y) (rEqD K) := by
  intro O al s σ H x y vx vy d Q env rx ry e fin
  simp only [opv, Option.map_eq_some_iff] at e
  obtain ⟨b, e, rfl⟩ := e
  have e : eqD s.cs x y = some b := by cases x <;> cases y <;> exact e
  obtain ⟨p, q, ep, eq, sp, sq, rfl⟩ := eqD_some e
  obtain ⟨d1, l1⟩ := dpC_of env rx ep
  obtain ⟨d2, l2⟩ := dpC_of env ry eq
  exact ⟨p, q, d1, d2, shaped_of l1 sp, shaped_of l2 sq, fun ko => fin H _ id_keep ko rfl⟩
theorem ops_ne (K : FragK) : OpS K (opv fun cs x y => cmpD cs .ne x y) (rNeD K) := by
  intro O al s σ H x y vx vy d Q env rx ry e fin
  simp only [opv, Option.map_eq_some_iff] at e
  obtain ⟨b, e, rfl⟩ := e
  have e : (eqD s.cs x y).map (!·) = some b := by cases x <;> cases y <;> exact e
  simp only [Option.map_eq_some_iff] at e
  obtain ⟨b, e2, rfl⟩ := e
  obtain ⟨p, q, ep, eq, sp, sq, rfl⟩ := eqD_some e2
  obtain ⟨d1, l1⟩ := dpC_of env rx ep
  obtain ⟨d2, l2⟩ := dpC_of env ry eq
  exact ⟨p, q, d1, d2, shaped_of l1 sp, shaped_of l2 sq, fun ko => fin H _ id_keep ko rfl⟩
theorem inD_some {cs : Cs} {x y : D} {b : Bool} (h : inD cs x y = some b) : ∃ p qs, pyC cs x = some p ∧ shal p = true ∧ b = (qs.any fun z => PyData.eqv z p) ∧ (pyC cs y = some (.list qs) ∨ pyC cs y = some (.tuple qs)) := by
  unfold inD at h
  split at h
  · rename_i p q ep eq
    split at h
    · rename_i n
      cases h
      exact ⟨p, q, ep, n, rfl, .inl eq⟩
    · cases h
  · rename_i p q ep eq
    split at h
    · rename_i n
      cases h
      exact ⟨p, q, ep, n, rfl, .inr eq⟩
    · cases h
  · cases h
def rInE (K : FragK) : R2 := fun x y H Q => rInLD K x y H Q ∨ rInTD K x y H Q
def rNotInE (K : FragK) : R2 := fun x y H Q => rNotInLD K x y H Q ∨ rNotInTD K x y H Q
theorem opr_in {X : Cx} (hu : X.A.units + 65 < cLine) : OpR X (compareOp .In) (rInE X.K) := OpR.or (op_inLD hu) (op_inTD hu)
theorem opr_notin {X : Cx} (hu : X.A.units + 65 < cLine) : OpR X (compareOp .NotIn) (rNotInE X.K) := OpR.or (op_notInLD hu) (op_notInTD hu)
theorem ops_in (K : FragK) : OpS K (opv fun cs x y => cmpD cs .isin x y) (rInE K) := by
  intro O al s σ H x y vx vy d Q env rx ry e fin
  simp only [opv, Option.map_eq_some_iff] at e
  obtain ⟨b, e, rfl⟩ := e
  have e : inD s.cs x y = some b := by cases x <;> cases y <;> exact e
  obtain ⟨p, q, ep, sp, rfl, eq⟩ := inD_some e
  obtain ⟨d1, l1⟩ := dpC_of env rx ep
  rcases eq with eq | eq
  · obtain ⟨d2, l2⟩ := dpC_of env ry eq
    exact .inl ⟨p, q, d1, d2, shaped_of l1 sp, l2, fun ko => fin H _ id_keep ko rfl⟩
  · obtain ⟨d2, l2⟩ := dpC_of env ry eq
    exact .inr ⟨p, q, d1, d2, shaped_of l1 sp, l2, fun ko => fin H _ id_keep ko rfl⟩
theorem ops_notin (K : FragK) : OpS K (opv fun cs x y => cmpD cs .notin x y) (rNotInE K) := by
  intro O al s σ H x y vx vy d Q env rx ry e fin
  simp only [opv, Option.map_eq_some_iff] at e
  obtain ⟨b, e, rfl⟩ := e
  have e : (inD s.cs x y).map (!·) = some b := by cases x <;> cases y <;> exact e
  simp only [Option.map_eq_some_iff] at e
  obtain ⟨b, e2, rfl⟩ := e
  obtain ⟨p, q, ep, sp, rfl, eq⟩ := inD_some e2
  obtain ⟨d1, l1⟩ := dpC_of env rx ep
  rcases eq with eq | eq
  · obtain ⟨d2, l2⟩ := dpC_of env ry eq
    exact .inl ⟨p, q, d1, d2, shaped_of l1 sp, l2, fun ko => fin H _ id_keep ko rfl⟩
  · obtain ⟨d2, l2⟩ := dpC_of env ry eq
    exact .inr ⟨p, q, d1, d2, shaped_of l1 sp, l2, fun ko => fin H _ id_keep ko rfl⟩
def CPowW (i j : Int) : Prop := 0 ≤ j ∧ (Builtin.Int.intBits i : Int) * j ≤ 2 ^ 27
theorem op_powW {X : Cx} : OpR X (binaryOp .Pow) (rI CPowW fun i j => .int (i ^ j.toNat)) := opI fun _ _ _ _ _ _ _ hc q => pow_int hc.1 hc.2 q
theorem ops_pow (K : FragK) : OpS K (fun cs x y => binD cs .pow x y) (rI CPowW fun i j => .int (i ^ j.toNat)) := by
  intro O al s σ H x y vx vy d Q env rx ry e fin
  cases x <;> cases y <;> simp only [binD, reduceCtorEq] at e
  case int.int i j =>
    split at e
    · rename_i h
      cases e
      rw [Bool.and_eq_true, decide_eq_true_eq, decide_eq_true_eq] at h
      obtain rfl : vx = .int i := rx
      obtain rfl : vy = .int j := ry
      exact ⟨i, j, rfl, rfl, h, fun ko => fin H _ id_keep ko rfl⟩
    · cases e
/-- all binary operators -/
def bop : BO → Operator
  | .add => .Add | .sub => .Sub | .mul => .Mult | .mod => .Mod | .fdiv => .FloorDiv | .pow => .Pow
theorem opr_bin (X : Cx) (o : BO) : ∃ r, OpR X (binaryOp (bop o)) r ∧ OpS X.K (fun cs x y => binD cs o x y) r := by
  cases o with
  | add => exact ⟨_, opr_add, ops_add _⟩
  | sub => exact ⟨_, op_sub, ops_sub _⟩
  | mul => exact ⟨_, opr_mul, ops_mul _⟩
  | mod => exact ⟨_, op_modN, ops_mod _⟩
  | fdiv => exact ⟨_, op_fdivN, ops_fdiv _⟩
  | pow => exact ⟨_, op_powW, ops_pow _⟩
def cop : CO → CmpOp
  | .lt => .Lt | .le => .LtE | .gt => .Gt | .ge => .GtE | .eq => .Eq | .ne => .NotEq | .isin => .In | .notin => .NotIn
theorem opr_cmp (X : Cx) (hu : X.A.units + 65 < cLine) (o : CO) : ∃ r, OpR X (compareOp (cop o)) r ∧ OpS X.K (opv fun cs x y => cmpD cs o x y) r := by
  cases o with
  | lt => exact ⟨_, opr_lt (by omega), ops_lt _⟩
  | le => exact ⟨_, op_le, ops_le _⟩
  | gt => exact ⟨_, op_gt, ops_gt _⟩
  | ge => exact ⟨_, op_ge, ops_ge _⟩
  | eq => exact ⟨_, op_eqD (by omega), ops_eq _⟩
  | ne => exact ⟨_, op_neD (by omega), ops_ne _⟩
  | isin => exact ⟨_, opr_in hu, ops_in _⟩
  | notin => exact ⟨_, opr_notin hu, ops_notin _⟩
end Ev

set_option Elab.async false
set_option linter.all false
set_option maxRecDepth 100000
set_option maxHeartbeats 1000000
set_option autoImplicit false
/-! The evaluator, part B: built-in functions. -/
namespace Ev
open PySem PySem.Spec PyProof.Rows L2
theorem Rps.nil_inv {K : FragK} {al : List Addr} {F : Addr → Prop} {H : Hp} {vs : List V} (h : Rps K al F H [] vs) : vs = [] := h
theorem Rps.one_inv {K : FragK} {al : List Addr} {F : Addr → Prop} {H : Hp} {d : D} {vs : List V} (h : Rps K al F H [d] vs) : ∃ v, vs = [v] ∧ Rp K al F H d v := by
  obtain ⟨v, r, e, q, t⟩ := h
  obtain rfl : r = [] := t
  exact ⟨v, e, q⟩
theorem Rps.two_inv {K : FragK} {al : List Addr} {F : Addr → Prop} {H : Hp} {d d2 : D} {vs : List V} (h : Rps K al F H [d, d2] vs) : ∃ v v2, vs = [v, v2] ∧ Rp K al F H d v ∧ Rp K al F H d2 v2 := by
  obtain ⟨v, r, e, q, t⟩ := h
  obtain ⟨v2, e2, q2⟩ := Rps.one_inv t
  exact ⟨v, v2, by rw [e, e2], q, q2⟩
/-- a built-in's rule, for one argument, for two -/
def Bi1 (X : Cx) (f : Value) (g : Cs → D → Option D) : Prop := ∃ r, CallR X f r ∧ ∀ (O : Addr → Prop) (al : List Addr) (s : S) (σ : L2.St) (H : Hp) (x : D) (v : V) (d : D) (Q : VK), EnvR X.K O al s σ H → Rp X.K al (Forb O al s.cs) H x v →
  g s.cs x = some d → (∀ H' v, (∀ a q, H a = some q → H' a = some q) → KOff X.K H' → Rp X.K al (Forb O al s.cs) H' d v → Q v H') → r [v] H fun v H' => KOff X.K H' → Q v H'
def Bi2 (X : Cx) (f : Value) (g : D → D → Option D) : Prop := ∃ r, CallR X f r ∧ ∀ (O : Addr → Prop) (al : List Addr) (s : S) (σ : L2.St) (H : Hp) (x y : D) (v u : V) (d : D) (Q : VK), EnvR X.K O al s σ H → Rp X.K al (Forb O al s.cs) H x v → Rp X.K al (Forb O al s.cs) H y u →
  g x y = some d → (∀ H' v, (∀ a q, H a = some q → H' a = some q) → KOff X.K H' → Rp X.K al (Forb O al s.cs) H' d v → Q v H') → r [v, u] H fun v H' => KOff X.K H' → Q v H'

theorem bi_abs (X : Cx) : Bi1 X (.builtin "abs") (fun _ d => absD d) := by
  refine ⟨_, call_abs, ?_⟩
  intro O al s σ H x v d Q env q e fin
  cases x <;> simp only [absD, reduceCtorEq, Option.some.injEq] at e
  case int i =>
    obtain rfl : v = .int i := q
    subst e
    exact ⟨i, rfl, fun ko => fin H _ id_keep ko rfl⟩
theorem bi_len (X : Cx) : Bi1 X (.builtin "len") (fun cs d => lenD cs d) := by
  refine ⟨_, CallR.or call_len_str call_len_seq, ?_⟩
  intro O al s σ H x v d Q env q e fin
  have key : ∀ ds, seqC s.cs x = some ds → d = .int ds.length → (∃ z, [v] = [V.str z] ∧ z.length ≤ sizeLine ∧ (KOff X.K H → Q (.int z.length) H)) ∨ ∃ p ys, [v] = [V.ref p] ∧ (SqL X.K H p ys ∨ SqT X.K H p ys) ∧ (KOff X.K H → Q (.int ys.length) H) := by
    intro ds h1 h2
    subst h2
    obtain ⟨a, vs, rfl, sq, z, t⟩ := seq_of env q h1
    refine .inr ⟨a, vs, rfl, sq, fun ko => ?_⟩
    rw [t.len]
    exact fin H _ id_keep ko rfl
  cases x <;> simp only [lenD, Option.map_eq_some_iff] at e
  case str y =>
    obtain rfl : v = .str y := q
    split at e
    · rename_i f
      cases e
      exact .inl ⟨y, rfl, fits_le f, fun ko => fin H _ id_keep ko rfl⟩
    · cases e
  all_goals
    obtain ⟨ds, h1, h2⟩ := e
    exact key ds h1 h2.symm
theorem bi_tuple (X : Cx) : Bi1 X (.type "tuple") (fun cs d => (seqC cs d).map .tup) := by
  refine ⟨_, call_tuple_of, ?_⟩
  intro O al s σ H x v d Q env q e fin
  simp only [Option.map_eq_some_iff] at e
  obtain ⟨ds, h1, rfl⟩ := e
  obtain ⟨a, vs, rfl, sq, z, t⟩ := seq_of env q h1
  rcases sq with sq | sq
  · exact ⟨a, vs, rfl, .inl ⟨sq, fun l hl ko => fin _ _ (upd_keep hl) ko (new_tup env hl ko t z)⟩⟩
  · exact ⟨a, vs, rfl, .inr ⟨sq, fun ko => fin H _ id_keep ko ⟨a, vs, rfl, sq, z, t⟩⟩⟩
theorem bi_list (X : Cx) : Bi1 X (.type "list") (fun cs d => (seqC cs d).map .lst) := by
  refine ⟨_, call_list_of, ?_⟩
  intro O al s σ H x v d Q env q e fin
  simp only [Option.map_eq_some_iff] at e
  obtain ⟨ds, h1, rfl⟩ := e
  obtain ⟨a, vs, rfl, sq, z, t⟩ := seq_of env q h1
  exact ⟨a, vs, rfl, sq, fun l hl ko => fin _ _ (upd_keep hl) ko (new_lst env hl ko t z)⟩
theorem bi_all (X : Cx) (hc : X.calm = true) : Bi1 X (.builtin "all") (fun _ d => allD d) := by
  refine ⟨_, cr_all hc, ?_⟩
  intro O al s σ H x v d Q env q e fin
  cases x <;> simp only [allD, reduceCtorEq, Option.map_eq_some_iff] at e
  case lst ds =>
    obtain ⟨a, ws, rfl, n, hq, z, t⟩ := q
    obtain ⟨bs, h1, h2⟩ := e
    subst h2
    have e1 := t.bls h1
    subst e1
    exact ⟨a, bs, rfl, .of hq, fun ko => fin H _ id_keep ko rfl⟩
theorem bi_any (X : Cx) (hc : X.calm = true) : Bi1 X (.builtin "any") (fun _ d => anyD d) := by
  refine ⟨_, cr_any hc, ?_⟩
  intro O al s σ H x v d Q env q e fin
  cases x <;> simp only [anyD, reduceCtorEq, Option.map_eq_some_iff] at e
  case lst ds =>
    obtain ⟨a, ws, rfl, n, hq, z, t⟩ := q
    obtain ⟨bs, h1, h2⟩ := e
    subst h2
    have e1 := t.bls h1
    subst e1
    exact ⟨a, bs, rfl, .of hq, fun ko => fin H _ id_keep ko rfl⟩
theorem bi_int (X : Cx) : Bi1 X (.type "int") (fun _ d => intD d) := by
  refine ⟨_, call_int1, ?_⟩
  intro O al s σ H x v d Q env q e fin
  cases x <;> simp only [intD, reduceCtorEq, Option.some.injEq] at e
  case int i =>
    obtain rfl : v = .int i := q
    subst e
    exact .inl ⟨i, rfl, fun ko => fin H _ id_keep ko rfl⟩
  case bl k =>
    obtain rfl : v = .bl k := q
    subst e
    exact .inr ⟨k, rfl, fun ko => fin H _ id_keep ko rfl⟩
theorem bi_min2 (X : Cx) (hc : X.calm = true) : Bi2 X (.builtin "min") (fun x y => bi2 .min2 x y) := by
  refine ⟨_, call_min2 hc, ?_⟩
  intro O al s σ H x y v u d Q env q q2 e fin
  cases x <;> cases y <;> simp only [bi2, reduceCtorEq, Option.some.injEq] at e
  case int.int i j =>
    obtain rfl : v = .int i := q
    obtain rfl : u = .int j := q2
    subst e
    exact ⟨i, j, rfl, fun ko => fin H _ id_keep ko rfl⟩
theorem bi_max2 (X : Cx) (hc : X.calm = true) : Bi2 X (.builtin "max") (fun x y => bi2 .max2 x y) := by
  refine ⟨_, call_max2 hc, ?_⟩
  intro O al s σ H x y v u d Q env q q2 e fin
  cases x <;> cases y <;> simp only [bi2, reduceCtorEq, Option.some.injEq] at e
  case int.int i j =>
    obtain rfl : v = .int i := q
    obtain rfl : u = .int j := q2
    subst e
    exact ⟨i, j, rfl, fun ko => fin H _ id_keep ko rfl⟩

/-! ### sum of a list of ints -/
theorem lst_of {K : FragK} {O : Addr → Prop} {al : List Addr} {s : S} {σ : L2.St} {H : Hp} (env : EnvR K O al s σ H) {d : D} {ds : List D} {v : V} (r : Rp K al (Forb O al s.cs) H d v) (e : lstC s.cs d = some ds) :
    ∃ a vs, v = .ref a ∧ SqL K H a vs ∧ vs.length ≤ sizeLine ∧ Rps K al (Forb O al s.cs) H ds vs := by
  cases d with
  | lst xs =>
    obtain rfl : xs = ds := by simpa [lstC, deref] using e
    obtain ⟨a, vs, rfl, _, q, z, t⟩ := r
    exact ⟨a, vs, rfl, .of q, z, t⟩
  | ro xs =>
    obtain rfl : xs = ds := by simpa [lstC, deref] using e
    obtain ⟨a, vs, rfl, q, z, t⟩ := r
    exact ⟨a, vs, rfl, q.sq, z, t⟩
  | cell n =>
    obtain ⟨a, rfl, q⟩ := r
    cases c : s.cs[n]? with
    | none => simp [lstC, deref, c] at e
    | some p =>
      obtain ⟨b, d⟩ := p
      have k := env.cr.cell n b d a c q
      cases d with
      | lst xs =>
        simp only [lstC, deref, c, Option.map_some] at e
        obtain rfl : xs = ds := by simpa using e
        obtain ⟨vs, q2, z, t⟩ := k
        exact ⟨a, vs, rfl, .of q2, z, t⟩
      | _ => exact False.elim k
  | _ => simp [lstC, deref] at e
/-- sum(a) of a list or a tuple of ints -/
def rSumE (K : PySem.W.Frag) : List V → Hp → VK → Prop := fun vs H Q => ∃ (a : Addr) (ns : List Int), vs = [V.ref a] ∧ (SqL K H a (ns.map V.int) ∨ SqT K H a (ns.map V.int)) ∧ Q (.int ns.sum) H
theorem cr_sumE {X : Cx} (hc : X.calm = true) : CallR X (.builtin "sum") (rSumE X.K) := by
  intro pins s σ H vs us Q I r h
  obtain ⟨a, ns, rfl, hs, q⟩ := h
  rw [Vals.ref1 r]
  rcases hs with hs | hs
  · obtain ⟨its, rv, hl, _⟩ := I.list hs
    exact sum_raw (I.ok.hd hc) hl.isList rv.ints fun h' tk t' hk => ⟨.int _, H, I.kept hk, ⟨_, rfl⟩, q⟩
  · obtain ⟨its, rv, ⟨o, ho, hcl, n, hd⟩, _⟩ := I.tuple hs
    have hi := rv.ints
    obtain ⟨xs, e⟩ := hi.allInts.items
    have hn : numsOf (intItems xs).toList = ns := by rw [← e]; exact hi.numsOf
    rw [nums_intItems] at hn
    rw [e] at hd
    refine PySem.W.ktm_sumG (I.ok.hd hc) ⟨o, ho, hcl, n, hd⟩ fun h' tk t' hk => ⟨.int _, H, I.kept hk, ⟨t', ?_⟩, q⟩
    rw [preSum_eq, List.take_of_length_le (by simp), hn]
theorem bi_sum (X : Cx) (hc : X.calm = true) : Bi1 X (.builtin "sum") (fun cs d => sumD cs d) := by
  refine ⟨_, cr_sumE hc, ?_⟩
  intro O al s σ H x v d Q env q e fin
  simp only [sumD] at e
  split at e
  · rename_i ns h
    cases e
    simp only [Option.bind_eq_some_iff] at h
    obtain ⟨ds, h1, h2⟩ := h
    have two : (∃ ws, x = .tup ws) ∨ lstC s.cs x = some ds := by
      cases x with
      | tup ws => exact .inl ⟨ws, rfl⟩
      | _ => exact .inr h1
    rcases two with ⟨ws, rfl⟩ | h1
    · cases h1
      obtain ⟨a, vs, rfl, sq, z, t⟩ := q
      have e1 := t.ints h2
      subst e1
      exact ⟨a, ns, rfl, .inr sq, fun ko => fin H _ id_keep ko rfl⟩
    · obtain ⟨a, ws, rfl, sq, z, t⟩ := lst_of env q h1
      have e1 := t.ints h2
      subst e1
      exact ⟨a, ns, rfl, .inl sq, fun ko => fin H _ id_keep ko rfl⟩
  · cases e

/-! ### isinstance -/
def tyS : TY → String
  | .int => "int" | .bool => "bool" | .str => "str" | .tuple => "tuple" | .list => "list"
/-- the type of a value by its name, and the built-in types that it is of -/
theorem tyx_of {K : FragK} {O : Addr → Prop} {al : List Addr} {s : S} {σ : L2.St} {H : Hp} (env : EnvR K O al s σ H) {d e : D} {v : V} {ts : List TY} (r : Rp K al (Forb O al s.cs) H d v) (he : deref s.cs d = some e) (hk : kindD e = some ts) :
    ∃ n : String, TyX K H v (.type n) ∧ ∀ t, PySem.W.kitOne K (.type n) (.type (tyS t)) = some (decide (t ∈ ts)) := by
  have tail : ∀ (n : String), TyX K H v (.type n) → (∀ t, kitB n (tyS t) = some (decide (t ∈ ts))) → ∃ n : String, TyX K H v (.type n) ∧ ∀ t, PySem.W.kitOne K (.type n) (.type (tyS t)) = some (decide (t ∈ ts)) :=
    fun n h k => ⟨n, h, fun t => kit_ty (k t)⟩
  cases d with
  | non =>
    obtain rfl : v = .non := r
    cases he
    cases hk
    exact tail "NoneType" (.base .non) fun t => by cases t <;> decide +kernel
  | bl y =>
    obtain rfl : v = .bl y := r
    cases he
    cases hk
    exact tail "bool" (.base (.bl y)) fun t => by cases t <;> decide +kernel
  | int y =>
    obtain rfl : v = .int y := r
    cases he
    cases hk
    exact tail "int" (.base (.int y)) fun t => by cases t <;> decide +kernel
  | str y =>
    obtain rfl : v = .str y := r
    cases he
    cases hk
    exact tail "str" (.base (.str y)) fun t => by cases t <;> decide +kernel
  | tup ds =>
    obtain ⟨a, vs, rfl, q, z, _⟩ := r
    have h : TyX K H (.ref a) (.type "tuple") := by
      rcases q with (q | ⟨o, q⟩) | ⟨o, its, n, q, c, _⟩
      · exact .base (.tup q)
      · exact .fTuple q
      · exact .kTuple q c
    cases he
    cases hk
    exact tail "tuple" h fun t => by cases t <;> decide +kernel
  | lst ds =>
    obtain ⟨a, vs, rfl, _, q, z, _⟩ := r
    cases he
    cases hk
    exact tail "list" (.base (.lst q)) fun t => by cases t <;> decide +kernel
  | ro ds =>
    cases he
    cases hk
  | cell n =>
    obtain ⟨a, rfl, q⟩ := r
    cases c : s.cs[n]? with
    | none => simp [deref, c] at he
    | some p =>
      obtain ⟨b', d⟩ := p
      have k := env.cr.cell n b' d a c q
      obtain rfl : d = e := by simpa [deref, c] using he
      cases d with
      | lst xs =>
        obtain ⟨vs, q2, z, _⟩ := k
        cases hk
        exact tail "list" (.base (.lst q2)) fun t => by cases t <;> decide +kernel
      | _ => exact False.elim k
end Ev

set_option Elab.async false
set_option linter.all false
set_option maxRecDepth 100000
set_option maxHeartbeats 1000000
set_option autoImplicit false
/-! The evaluator, part Ts: tuples, the empty one too, can be sorted. -/
namespace Ev
open PySem PySem.Spec PyProof.Rows L2 PySem.W PySem.SeqAt PySem.Calls
section
variable {prog : Program} {w : World} {A : Around} {E : Value → Shared → Prop} {s : Shared}
/-- the call of a tuple's own less -/
theorem tup_lt_call {Q : Value → Shared → Prop} {l b : Addr} {its its2 : Array Value} {e r : Nat → Bool} (hl : s.heap.IsTuple l its) (hb : s.heap.IsTuple b its2) (he : ∀ j (h1 : j < its.size) (h2 : j < its2.size), EqAt A.in1 s its[j] its2[j] (e j))
    (hr : ∀ j (h1 : j < its.size) (h2 : j < its2.size), e j = false → RcLt A.in1 s its[j] its2[j] (r j)) (h : Q (.bool (firstLt e r (decide (its.size < its2.size)) (List.range (min its.size its2.size)))) s) :
    wpAny (model prog w) A (PySem.call (.builtin "tuple.__lt__") [.ref l, .ref b]) Q E s := by
  obtain ⟨⟨c1, d1, da1, sl1⟩, o1, cc1, n1, dd1⟩ := id hl
  obtain ⟨⟨c2, d2, da2, sl2⟩, o2, cc2, n2, dd2⟩ := id hb
  simp only at cc1 dd1 cc2 dd2
  subst cc1 dd1 cc2 dd2
  exact call_meets F.slot_tuple_lt ⟨_, o1, rfl⟩ F.entry_tuple_lt (F.args_tuple_lt_2 _ _) (tuple_ltAt l b its its2 n1 n2 d1 d2 sl1 sl2 e r) ⟨o1, o2, he, hr, h⟩
/-- one tuple against another, as keys of one type -/
theorem tup_one {f : Bool} {xs ys : List PyData} {a b : Value} {as bs : List Addr} {Q : Bool → Shared → Prop} (ra : Reads s.heap a (.tuple xs) as) (rb : Reads s.heap b (.tuple ys) bs) (al : alike (.tuple xs) (.tuple ys) = true)
    (hu : A.units + min (PyData.tuple xs).depth (PyData.tuple ys).depth < cLine) (hq : Q (dataLt (.tuple xs) (.tuple ys)) s) : wpAny (model prog w) A (oneLt' f a b) Q E s := by
  cases f with
  | false => exact oneLt_alike (fun q => by cases q) ra rb al (by simp) hu hq
  | true =>
    have all : alikeAll xs ys = true := by simpa [alike] using al
    cases ra with
    | @tuple l o vs n _ as1 g1 g2 g3 g4 =>
      cases rb with
      | @tuple l2 o2 vs2 n2 _ bs1 k1 k2 k3 k4 =>
        have z1 : vs.size = xs.length := by simpa using SeqAt.ReadsAll.length _ _ _ g4
        have z2 : vs2.size = ys.length := by simpa using SeqAt.ReadsAll.length _ _ _ k4
        rw [dataLt_tuple, ← firstLt_toks xs ys all, ← z1, ← z2] at hq
        rw [oneLt'_eq, if_pos rfl]
        refine wpAny_bind (wpAny_cRoomFor (room_here hu) (wpAny_bind (wpAny_callSpecialIfBound?_slot (T := "tuple") ⟨_, g1, g2⟩ F.slot_tuple_lt (tup_lt_call (e := pairEq xs ys) (r := fun j => dataLt (xs.getD j .none) (ys.getD j .none)) ⟨_, g1, g2, _, g3⟩ ⟨_, k1, k2, _, k3⟩ (fun j j1 j2 => ?_) (fun j j1 j2 ne => ?_) (wpAny_truthy_bool hq)))))
        · have z := eqAt_alikeAll xs ys A.in1 s vs.toList vs2.toList _ _ g4 k4 all (room_in hu) j (by simpa using j1) (by simpa using j2)
          simpa using z
        · have z := rcLt_alikeAll xs ys A.in1 s vs.toList vs2.toList _ _ g4 k4 all (room_in hu) j (by simpa using j1) (by simpa using j2) ne
          simpa using z
end
/-- the first item of a tuple's object -/
def firstV (h : Heap) : Value → Option Value
  | .ref a => match h.get? a with
    | some o => match o.data with
      | .seq its _ => its[0]?
      | _ => none
    | none => none
  | _ => none
abbrev Tups (h : Heap) (vs : List Value) (ds : List PyData) : Prop := EachIs (fun v d => ∃ as, Reads h v d as) vs ds ∧ ∀ d ∈ ds, ∃ xs, d = .tuple xs
theorem tup_firsts {M : Model} {A : Around} {s : Shared} : ∀ {vs : List Value} {ds : List PyData}, Tups s.heap vs ds → ∀ {E : Value → Shared → Prop} {Q : List (Option Value) → Shared → Prop}, Q (vs.map (firstV s.heap)) s → wpAny M A (vs.mapM firstOfTuple') Q E s
  | _, _, ⟨.nil, _⟩, E, Q, q => by rw [List.mapM_nil]; exact wpAny_pure q
  | _, _, ⟨.cons (a := v) (b := d) ⟨as, r⟩ t, ht⟩, E, Q, q => by
    obtain ⟨xs, rfl⟩ := ht d List.mem_cons_self
    cases r with
    | @tuple l o its n _ as1 g1 g2 g3 g4 =>
      have ef : firstV s.heap (.ref l) = its[0]? := by simp [firstV, g1, g3]
      rw [List.map_cons, ef] at q
      rw [List.mapM_cons]
      refine wpAny_bind ?_
      rw [kas_first_eq]
      refine wpAny_bind (Looks.here (show Looks M s.heap (typeOf (.ref l)) o.cls from (Looks.ld g1).andThen .now) ?_)
      rw [g2, if_neg (by decide)]
      refine wpAny_bind (listItems_at g1 g3 (wpAny_pure (wpAny_bind (tup_firsts ⟨t, fun d hd => ht d (List.mem_cons_of_mem _ hd)⟩ (wpAny_pure q)))))
theorem tup_void {h : Heap} : ∀ {vs : List Value} {ds : List PyData}, Tups h vs ds → PyData.tuple [] ∈ ds → ((vs.map (firstV h)).toArray.all fun x => x.isSome) = false
  | _, _, ⟨.nil, _⟩, m => by cases m
  | _, _, ⟨.cons (a := v) (b := d) ⟨as, r⟩ t, ht⟩, m => by
    rcases List.mem_cons.mp m with e | m
    · subst e
      cases r with
      | @tuple l o its n _ as1 g1 g2 g3 g4 =>
        have z : its.toList = [] := by
          cases q : its.toList with
          | nil => rfl
          | cons a b => rw [q] at g4; cases g4
        have z0 : its[0]? = none := by rw [← Array.getElem?_toList, z]; rfl
        simp [firstV, g1, g3, z0]
    · have ih := tup_void ⟨t, fun d hd => ht d (List.mem_cons_of_mem _ hd)⟩ m
      simp only [List.all_toArray, List.map_cons, List.all_cons] at ih ⊢
      rw [ih, Bool.and_false]
theorem tup_types {M : Model} {h : Heap} : ∀ {vs : List Value} {ds : List PyData}, Tups h vs ds → ∀ v ∈ vs, Looks M h (typeOf v) (.type "tuple")
  | _, _, ⟨.nil, _⟩, v, m => by cases m
  | _, _, ⟨.cons (a := v0) (b := d) ⟨as, r⟩ t, ht⟩, v, m => by
    rcases List.mem_cons.mp m with e | m
    · subst e
      obtain ⟨xs, rfl⟩ := ht d List.mem_cons_self
      exact looks_reads r
    · exact tup_types ⟨t, fun d hd => ht d (List.mem_cons_of_mem _ hd)⟩ v m
section
variable {prog : Program} {w : World} {A : Around} {s : Shared}
/-- how tuples are compared when an empty one is among them -/
theorem tup_kind {vs : List Value} {ds : List PyData} (T : Tups s.heap vs ds) (m : PyData.tuple [] ∈ ds) (h2 : 2 ≤ vs.length) {E : Value → Shared → Prop} {Q : SortKind → Shared → Prop}
    (q : Q (if (((vs.map (firstV s.heap)).toArray[0]?).bind id).isSome then general' else oneType') s) : wpAny (model prog w) A (keyKind' vs.toArray) Q E s := by
  rw [keyKind'_eq, List.mapM_toArray, map_eq_pure_bind]
  refine wpAny_bind (wpAny_bind (tup_firsts T (wpAny_pure ?_)))
  rw [if_neg (by rw [tup_void T m]; exact Bool.false_ne_true)]
  by_cases c : (((vs.map (firstV s.heap)).toArray[0]?).bind id).isSome = true
  · rw [if_pos c] at q ⊢
    exact wpAny_pure q
  · rw [if_neg c] at q ⊢
    rw [oneTypeOnly'_eq, List.mapM_toArray, map_eq_pure_bind]
    refine wpAny_bind (wpAny_bind (wpAny_bind (kas_mapM (r := .type "tuple") _ (fun v hv Q' hq => (tup_types T v hv).here hq) (wpAny_pure ?_))))
    have all : ((vs.map fun _ => Value.type "tuple").toArray.all fun x => x == Value.type "tuple") = true := by
      simp only [List.all_toArray, List.all_map, List.all_eq_true]
      intro _ _
      rfl
    have at0 : (vs.map fun _ => Value.type "tuple").toArray[0]? = some (.type "tuple") := by
      cases vs with
      | nil => simp at h2
      | cons a b => simp
    rw [at0]
    simp only [all, if_true]
    exact wpAny_pure (wpAny_pure q)
/-- tuples can be sorted -/
theorem sorts_tups {vs : List Value} {ds : List PyData} (T : Tups s.heap vs ds) (al : AllAlike ds) (hu : ∀ d, d ∈ ds → A.units + d.depth < cLine) : SortsAt prog w A s (dataKind s.heap ds) vs := by
  by_cases m : PyData.tuple [] ∈ ds
  · refine ⟨fun v hv => ?_, _, fun E x y a b Q ha hb hq => ?_, fun h2 E Q q => tup_kind T m h2 q⟩
    · obtain ⟨d, hd, as, r⟩ := T.1.left v hv
      exact ⟨_, dataKind_some al hd r⟩
    · obtain ⟨d, as, hd, ra, rfl⟩ := dataKind_inv ha
      obtain ⟨d', as', hd', rb, rfl⟩ := dataKind_inv hb
      obtain ⟨xs, rfl⟩ := T.2 d hd
      obtain ⟨ys, rfl⟩ := T.2 d' hd'
      have room : A.units + min (PyData.tuple xs).depth (PyData.tuple ys).depth < cLine := Nat.lt_of_le_of_lt (Nat.add_le_add_left (Nat.min_le_left _ _) _) (hu _ hd)
      split
      · exact tup_one (f := false) ra rb (al _ hd _ hd') room hq
      · exact tup_one (f := true) ra rb (al _ hd _ hd') room hq
  · refine SortsAt.data T.1 al (.inl fun d hd => ?_) hu
    obtain ⟨xs, rfl⟩ := T.2 d hd
    cases xs with
    | nil => exact absurd hd m
    | cons x r => exact ⟨x, r, rfl⟩
/-- what can be sorted: tuples alone, or neither tuples nor None -/
def SortOk (ds : List PyData) : Prop := (∀ d ∈ ds, ∃ xs, d = .tuple xs) ∨ ∀ d, d ∈ ds → d ≠ .none ∧ ∀ xs, d ≠ .tuple xs
theorem sorts_data {vs : List Value} {ds : List PyData} (e : EachIs (fun v d => ∃ as, Reads s.heap v d as) vs ds) (al : AllAlike ds) (hk : SortOk ds) (hu : ∀ d, d ∈ ds → A.units + d.depth < cLine) : SortsAt prog w A s (dataKind s.heap ds) vs := by
  rcases hk with q | q
  · exact sorts_tups ⟨e, q⟩ al hu
  · exact SortsAt.data e al (.inr q) hu
end
section
variable {prog : Program} {w : World} {A : Around} {E : Value → Shared → Prop} {s : Shared}
/-- a tuple's items in a new list -/
theorem collect_tup {l : Addr} {vs : List Value} {Q : List Value → Shared → Prop} (hl : s.heap.IsTuple l vs.toArray) (hz : vs.length ≤ sizeLine) (q : Q vs { s with heap := (s.heap.push (seqObj "list" #[] 0)).update s.heap.objs.size (Obj.mapSeq (· ++ vs.toArray)) }) :
    wpAny (model prog w) A (collect (.ref l)) Q E s := by
  obtain ⟨o, g1, g2, n, g3⟩ := id hl
  have k1 : (s.heap.push (seqObj "list" #[] 0)).get? l = some o := Heap.get?_push_of_some _ g1
  have new : (s.heap.push (seqObj "list" #[] 0)).get? s.heap.objs.size = some (seqObj "list" #[] 0) := Heap.get?_push_size _ rfl
  unfold collect
  refine wpAny_bind (wpAny_runValue (codeAny_builtin entry_proto_collect' ?_))
  refine wpAny_bind (m := newList []) (wpAny_newList (wpAny_pure ⟨Code.quiet_builtin _ (by decide +kernel), codeAny_builtin entry_list_iadd' ?_⟩))
  show wpAny _ _ (Builtin.List.listExtendWith (.ref s.heap.objs.size) (.ref l) (.ref s.heap.objs.size)) _ _ { s with heap := s.heap.push (seqObj "list" #[] 0) }
  unfold Builtin.List.listExtendWith
  refine wpAny_bind (wpAny_typeOf (T := "tuple") ⟨o, k1, g2⟩ ?_)
  have tt : (Value.type "tuple" == Value.type "tuple") = true := rfl
  rw [if_pos (by rw [tt, Bool.or_true])]
  refine wpAny_bind (listItems_at k1 g3 (wpAny_bind (listItems_at (xs := #[]) (n := 0) new rfl ?_)))
  rw [if_neg (by simp)]
  refine wpAny_bind (listUpdate_at (xs := #[]) (n := 0) new rfl (wpAny_pure ?_) (Nat.zero_le _) (by show (#[] ++ vs.toArray).size ≤ sizeLine + 1; simp only [Array.size_append, List.size_toArray, List.length_nil]; omega))
  refine wpAny_bind (wpAny_load (get?_update_seq new _) ?_)
  have e : ((#[] : Array Value) ++ vs.toArray).toList = vs := by simp
  show wpAny _ _ (pure ((#[] : Array Value) ++ vs.toArray).toList) Q E _
  rw [e]
  exact wpAny_pure q
/-- sorted of a tuple -/
theorem sorted_tup {l : Addr} {vs : List Value} {κ : PyProof.Rows.KeyKind} {Q : Value → Shared → Prop} (hl : s.heap.IsTuple l vs.toArray) (S : SortsAt prog w A.in1.in1 { s with heap := sortingHeap (copyHeap s.heap vs) (s.heap.objs.size + 1) vs } κ vs) (hz : vs.length ≤ sizeLine)
    (q : Q (.ref (s.heap.objs.size + 1)) { s with heap := sortedAll s.heap vs (sortVals κ false vs vs).toArray }) : wpAny (model prog w) A (PySem.call (.builtin "sorted") [.ref l]) Q E s := by
  have size : ((s.heap.push (seqObj "list" #[] 0)).update s.heap.objs.size (Obj.mapSeq (· ++ vs.toArray))).objs.size = s.heap.objs.size + 1 := by rw [Heap.size_update, size_push']
  refine call_function_entry_kw kind_sorted plain_sorted entry_sorted (args_sorted1 _) ?_
  unfold Builtin.«sorted»
  refine wpAny_bind (m := checkCount "sorted" 1 1 _) (wpAny_pure (wpAny_bind (collect_tup hl hz (wpAny_bind (wpAny_newList ?_ hz)))))
  show wpAny _ _ _ _ _ { s with heap := copyHeap s.heap vs }
  rw [size]
  refine wpAny_bind (wpAny_holding (wpAny_call_entry_kw slot_list_sort ⟨_, copyHeap_at s.heap vs, rfl⟩ entry_list_sort ?_ (args_list_sort _)))
  show wpAny (model prog w) A.in1.in1 (Builtin.«list.sort» ⟨[.ref (s.heap.objs.size + 1)], []⟩) _ _ _
  refine list_sort_vals (s := { s with heap := copyHeap s.heap vs }) (copyHeap_at s.heap vs) S hz ⟨_, rfl, wpAny_pure ⟨_, rfl, q⟩⟩
/-- sorted of data, in a list or a tuple -/
theorem sorted_either {β : Type} {bs : List β} {enc : β → PyData} {R : Value → β → Prop} {l : Addr} {vs : List Value} {Q : Value → Shared → Prop} (hl : s.heap.IsList l vs.toArray ∨ s.heap.IsTuple l vs.toArray) (e : EachIs R vs bs) (er : EachIs (fun v b => ∃ as, Reads s.heap v (enc b) as) vs bs)
    (al : AllAlike (bs.map enc)) (hk : SortOk (bs.map enc)) (hz : bs.length ≤ sizeLine) (hu : ∀ b, b ∈ bs → A.units + 2 + (enc b).depth < cLine)
    (h : ∀ out, out.length = bs.length → EachIs R out (bs.mergeSort (dataLe false enc)) → Q (.ref (s.heap.objs.size + 1)) { s with heap := sortedAll s.heap vs (List.toArray out) }) : wpAny (model prog w) A (PySem.call (.builtin "sorted") [.ref l]) Q E s := by
  have er2 : EachIs (fun v b => ∃ as, Reads (sortingHeap (copyHeap s.heap vs) (s.heap.objs.size + 1) vs) v (enc b) as) vs bs := er.mono fun _ _ ⟨as, r⟩ => ⟨as, PyProof.Rows.Reads.keeps (fun _ _ => sorting_copy_old) r⟩
  have S : SortsAt prog w A.in1.in1 { s with heap := sortingHeap (copyHeap s.heap vs) (s.heap.objs.size + 1) vs } (dataKind (sortingHeap (copyHeap s.heap vs) (s.heap.objs.size + 1) vs) (bs.map enc)) vs :=
    sorts_data (s := { s with heap := sortingHeap (copyHeap s.heap vs) (s.heap.objs.size + 1) vs }) (each_map (R := fun v d => ∃ as, Reads (sortingHeap (copyHeap s.heap vs) (s.heap.objs.size + 1) vs) v d as) enc er2) al hk (bound_map hu)
  have hz2 : vs.length ≤ sizeLine := by rw [e.length]; exact hz
  have fin := h _ (by rw [sortVals_length false rfl]; exact e.length) (sortVals_data false e er2 al)
  rcases hl with hl | hl
  · exact sorted_vals hl S hz2 fin
  · exact sorted_tup hl S hz2 fin
end
end Ev

set_option Elab.async false
set_option linter.all false
set_option maxRecDepth 100000
set_option maxHeartbeats 1000000
set_option autoImplicit false
/-! The evaluator, part W: min, max, sorted. -/
namespace Ev
open PySem PySem.Spec PyProof.Rows L2 PySem.W
theorem encD_getD {ds : List D} {ps : List PyData} (h : pyDs ds = some ps) : ∀ i : Nat, ps.getD i .none = encD (ds.getD i .non) := by
  induction ds generalizing ps with
  | nil =>
    rw [pyDs] at h
    cases h
    intro i
    simp [encD, pyD]
  | cons d ds ih =>
    rw [pyDs] at h
    split at h
    · rename_i x xs h1 h2
      cases h
      intro i
      cases i with
      | zero => simp [encD, h1]
      | succ i => simpa using ih h2 i
    · cases h
theorem alikeB_of {ps : List PyData} (h : alikeB ps = true) : PySem.W.AllAlike ps := by
  unfold alikeB at h
  intro d hd d' hd'
  exact List.all_eq_true.mp (List.all_eq_true.mp h d hd) d' hd'
theorem okCmp_of {ds : List D} (h : okCmp ds = true) : ∃ ps, pyDs ds = some ps ∧ AlikeAll ps ∧ PyData.depthAll ps ≤ 64 := by
  unfold okCmp at h
  split at h
  · rename_i ps e
    simp only [Bool.and_eq_true, decide_eq_true_eq] at h
    refine ⟨ps, e, ⟨alikeB_of h.1.1, fun x hx q => ?_⟩, h.2⟩
    have := List.all_eq_true.mp h.1.2 x hx
    rw [q] at this
    exact absurd this (by decide)
  · cases h
/-- the first of the least, of the greatest -/
def pickB (mx : Bool) (x : D) (r : List D) : D := r.foldl (fun a y => if (if mx then ltE a y else ltE y a) then y else a) x
def rPick (K : FragK) (mx : Bool) : List V → Hp → VK → Prop := fun vs H Q => ∃ (a : Addr) (ws : List V) (al : List Addr) (F : Addr → Prop) (x : D) (r : List D), vs = [.ref a] ∧ (SqL K H a ws ∨ SqT K H a ws) ∧ Rps K al F H (x :: r) ws ∧ okCmp (x :: r) = true ∧
  ∀ v, Rp K al F H (pickB mx x r) v → Q v H
section
variable {X : Cx}
theorem pick_end {K : FragK} {al : List Addr} {F : Addr → Prop} {H : Hp} {mx : Bool} {x : D} {r : List D} {ws : List V} {its : List Value} {ps : List PyData} {v : Value} (rs : Rps K al F H (x :: r) ws) (rv : Vals ws its) (hp : pyDs (x :: r) = some ps)
    (hP : its.toArray[argBest (fun i j => if mx then dataLt (ps.getD j .none) (ps.getD i .none) else dataLt (ps.getD i .none) (ps.getD j .none)) (its.toArray.size - 1)]? = some v) : ∃ w, RelV w v ∧ Rp K al F H (pickB mx x r) w := by
  have hn : its.toArray.size - 1 = r.length := by
    rw [List.size_toArray, ← rv.length, rs.len]
    simp
  have eb : (fun i j => if mx then dataLt (ps.getD j .none) (ps.getD i .none) else dataLt (ps.getD i .none) (ps.getD j .none)) = fun i j => (fun y a => if mx then ltE a y else ltE y a) ((x :: r).getD i .non) ((x :: r).getD j .non) := by
    funext i j
    rw [encD_getD hp, encD_getD hp]
    rfl
  rw [hn, eb] at hP
  obtain ⟨h1, h2⟩ := argBest_fold (fun y a => if mx then ltE a y else ltE y a) D.non x r r.length (Nat.le_refl _)
  rw [List.take_length] at h2
  generalize argBest _ r.length = i at hP h1 h2
  have hi : i < (x :: r).length := by simp; omega
  have hP' : its[i]? = some v := by simpa using hP
  have hd : (x :: r)[i]? = some (pickB mx x r) := by
    rw [List.getD_eq_getElem?_getD, List.getElem?_eq_getElem hi] at h2
    rw [List.getElem?_eq_getElem hi]
    exact congrArg some h2
  obtain ⟨w, hw, rw'⟩ := rs.get hd
  obtain ⟨u, hu, ru⟩ := rv.get hw
  rw [hP'] at hu
  cases hu
  exact ⟨w, ru, rw'⟩
theorem cr_pick (hc : X.calm = true) (hu : X.A.units + 65 < cLine) (mx : Bool) : CallR X (.builtin (if mx then "max" else "min")) (rPick X.K mx) := by
  intro pins s σ H vs us Q I r h
  obtain ⟨a, ws, al, F, x, rr, rfl, hq, rs, ok, q⟩ := h
  rw [Vals.ref1 r]
  obtain ⟨ps, hp, ha, hd⟩ := okCmp_of ok
  have hh := I.ok.hd hc
  obtain ⟨its, rv, hl⟩ : ∃ its, Vals ws its ∧ (s.heap.IsList a its.toArray ∨ s.heap.IsTuple a its.toArray) := by
    rcases hq with hq | hq
    · obtain ⟨its, rv, p, _⟩ := I.list hq
      exact ⟨its, rv, .inl p.isList⟩
    · obtain ⟨its, rv, p, _⟩ := I.tuple hq
      exact ⟨its, rv, .inr p⟩
  obtain ⟨as, hr⟩ := Dp.readsAll I ps ws its (dps_of _ _ _ rs hp).1 rv
  have hr' : ReadsAll s.heap its.toArray.toList ps as := by simpa using hr
  have hn0 : its.toArray.size = rr.length + 1 := by
    rw [List.size_toArray, ← rv.length, rs.len]
    simp
  have hu' : X.A.in1.units + PyData.depthAll ps < cLine := by
    show X.A.units + 1 + _ < _
    omega
  have fin : ∀ (v : Value) (h' : Heap) (tk : Nat), its.toArray[argBest (fun i j => if mx then dataLt (ps.getD j .none) (ps.getD i .none) else dataLt (ps.getD i .none) (ps.getD j .none)) (its.toArray.size - 1)]? = some v → (∀ b o, s.heap.get? b = some o → h'.get? b = some o) → EP X pins σ Q v { s with heap := h', toks := tk } := fun v h' tk hP k => by
    obtain ⟨w, rw0, rw1⟩ := pick_end rs rv hp hP
    exact ⟨w, H, I.kept k, rw0, q w rw1⟩
  cases mx with
  | false =>
    refine call_min_walkH ?_
    rcases hl with hl | hl
    · refine iter_listW (A := X.A.in1) hh hl fun s₂ e W st hfp hw hk => ?_
      refine ⟨_, _, _, _, _, _, _, s.heap, _, rfl, W, st, hfp, by omega, hw, hk, cmpIn_lt (A := X.A.in1) hr' ha hu', fun v s' hP m => ?_⟩
      obtain ⟨h', tk, rfl, hk'⟩ := moved_old e rfl m
      exact fin v h' tk hP hk'
    · refine iter_tupleW (A := X.A.in1) hh hl fun s₂ e W st hfp hw hk => ?_
      refine ⟨_, _, _, _, _, _, _, s.heap, _, rfl, W, st, hfp, by omega, hw, hk, cmpIn_lt (A := X.A.in1) hr' ha hu', fun v s' hP m => ?_⟩
      obtain ⟨h', tk, rfl, hk'⟩ := moved_old e rfl m
      exact fin v h' tk hP hk'
  | true =>
    refine call_max_walkH ?_
    rcases hl with hl | hl
    · refine iter_listW (A := X.A.in1) hh hl fun s₂ e W st hfp hw hk => ?_
      refine ⟨_, _, _, _, _, _, _, s.heap, _, rfl, W, st, hfp, by omega, hw, hk, cmpIn_gt (A := X.A.in1) hr' ha hu', fun v s' hP m => ?_⟩
      obtain ⟨h', tk, rfl, hk'⟩ := moved_old e rfl m
      exact fin v h' tk hP hk'
    · refine iter_tupleW (A := X.A.in1) hh hl fun s₂ e W st hfp hw hk => ?_
      refine ⟨_, _, _, _, _, _, _, s.heap, _, rfl, W, st, hfp, by omega, hw, hk, cmpIn_gt (A := X.A.in1) hr' ha hu', fun v s' hP m => ?_⟩
      obtain ⟨h', tk, rfl, hk'⟩ := moved_old e rfl m
      exact fin v h' tk hP hk'
end

theorem bi_min (X : Cx) (hc : X.calm = true) (hu : X.A.units + 65 < cLine) : Bi1 X (.builtin "min") (fun cs d => minD cs d) := by
  refine ⟨_, cr_pick hc hu false, ?_⟩
  intro O al s σ H x v d Q env q e fin
  simp only [minD] at e
  split at e
  · rename_i y r h
    split at e
    · rename_i ok
      cases e
      obtain ⟨a, ws, rfl, sq, z, t⟩ := seq_of env q h
      exact ⟨a, ws, al, _, y, r, rfl, sq, t, ok, fun v rv ko => fin H v id_keep ko rv⟩
    · cases e
  · cases e
theorem bi_max (X : Cx) (hc : X.calm = true) (hu : X.A.units + 65 < cLine) : Bi1 X (.builtin "max") (fun cs d => maxD cs d) := by
  refine ⟨_, cr_pick hc hu true, ?_⟩
  intro O al s σ H x v d Q env q e fin
  simp only [maxD] at e
  split at e
  · rename_i y r h
    split at e
    · rename_i ok
      cases e
      obtain ⟨a, ws, rfl, sq, z, t⟩ := seq_of env q h
      exact ⟨a, ws, al, _, y, r, rfl, sq, t, ok, fun v rv ko => fin H v id_keep ko rv⟩
    · cases e
  · cases e
/-! ### sorted -/
theorem okSort_of {ds : List D} (h : okSort ds = true) : ∃ ps, pyDs ds = some ps ∧ PySem.W.AllAlike ps ∧ SortOk ps ∧ PyData.depthAll ps ≤ 64 := by
  unfold okSort at h
  split at h
  · rename_i ps e
    simp only [Bool.and_eq_true, Bool.or_eq_true, decide_eq_true_eq] at h
    refine ⟨ps, e, alikeB_of h.1.1, ?_, h.1.2⟩
    rcases h.2 with q | q
    · refine .inl fun d hd => ?_
      have := List.all_eq_true.mp q d hd
      cases d with
      | tuple xs => exact ⟨xs, rfl⟩
      | _ => exact absurd this (by simp [tupB])
    · refine .inr fun d hd => ?_
      have := List.all_eq_true.mp q d hd
      rw [Bool.and_eq_true] at this
      refine ⟨fun e => ?_, fun xs e => ?_⟩
      · rw [e] at this; exact absurd this.1 (by decide)
      · rw [e] at this; exact absurd this.2 (by simp [tupB])
  · cases h
theorem pyDs_map : ∀ {ds : List D} {ps : List PyData}, pyDs ds = some ps → ps = ds.map encD
  | [], ps, h => by rw [pyDs] at h; cases h; rfl
  | d :: ds, ps, h => by
    rw [pyDs] at h
    split at h
    · rename_i x xs h1 h2
      cases h
      rw [pyDs_map h2]
      simp [encD, h1]
    · cases h
theorem depth_all {ps : List PyData} : ∀ p ∈ ps, p.depth ≤ PyData.depthAll ps := by
  induction ps with
  | nil => intro p h; cases h
  | cons a ps ih =>
    intro p h
    rw [PyData.depthAll]
    rcases List.mem_cons.mp h with e | h
    · rw [e]; exact Nat.le_max_left _ _
    · exact Nat.le_trans (ih p h) (Nat.le_max_right _ _)
/-- the values of data, one by one -/
def RvD (K : FragK) (al : List Addr) (F : Addr → Prop) (H : Hp) (u : Value) (d : D) : Prop := ∃ w, RelV w u ∧ Rp K al F H d w
theorem each_of {K : FragK} {al : List Addr} {F : Addr → Prop} {H : Hp} : ∀ {ds : List D} {ws : List V} {us : List Value}, Rps K al F H ds ws → Vals ws us → EachIs (RvD K al F H) us ds
  | [], ws, us, r, v => by
    obtain rfl : ws = [] := r
    cases v
    exact .nil
  | d :: ds, ws, us, r, v => by
    obtain ⟨w, r0, rfl, r1, r2⟩ := r
    cases v with
    | cons a t => exact .cons ⟨w, a, r1⟩ (each_of r2 t)
theorem of_each {K : FragK} {al : List Addr} {F : Addr → Prop} {H : Hp} : ∀ {ds : List D} {us : List Value}, EachIs (RvD K al F H) us ds → ∃ ws, Rps K al F H ds ws ∧ Vals ws us
  | [], _, .nil => ⟨[], rfl, .nil⟩
  | d :: ds, _, .cons ⟨w, h1, h2⟩ t => by
    obtain ⟨ws, r, v⟩ := of_each t
    exact ⟨w :: ws, ⟨w, ws, rfl, h2, r⟩, .cons h1 v⟩
def rSorted (K : FragK) : List V → Hp → VK → Prop := fun vs H Q => ∃ (a : Addr) (ws : List V) (al : List Addr) (F : Addr → Prop) (ds : List D), vs = [.ref a] ∧ (SqL K H a ws ∨ SqT K H a ws) ∧ Rps K al F H ds ws ∧ okSort ds = true ∧ ws.length ≤ sizeLine ∧
  ∀ p ys, H p = none → Rps K al F H (ds.mergeSort fun a b => !ltE b a) ys → ys.length ≤ sizeLine → Q (.ref p) (upd H p (.lst ys))
theorem cr_sorted {X : Cx} (hu : X.A.units + 66 < cLine) : CallR X (.builtin "sorted") (rSorted X.K) := by
  intro pins s σ H vs us Q I r h
  obtain ⟨a, ws, al, F, ds, rfl, hq, rs, ok, hz, q⟩ := h
  rw [Vals.ref1 r]
  obtain ⟨ps, hp, ha, hk, hd⟩ := okSort_of ok
  obtain ⟨its, rv, hl⟩ : ∃ its, Vals ws its ∧ (s.heap.IsList a its.toArray ∨ s.heap.IsTuple a its.toArray) := by
    rcases hq with hq | hq
    · obtain ⟨its, rv, p, _⟩ := I.list hq
      exact ⟨its, rv, .inl p.isList⟩
    · obtain ⟨its, rv, p, _⟩ := I.tuple hq
      exact ⟨its, rv, .inr p⟩
  obtain ⟨as, hr⟩ := Dp.readsAll I ps ws its (dps_of _ _ _ rs hp).1 rv
  have e0 := pyDs_map hp
  subst e0
  have hlen : ds.length ≤ sizeLine := by rw [← rs.len]; exact hz
  refine sorted_either (enc := encD) hl (each_of rs rv) (PySem.W.readsAll_each encD hr) ha hk hlen (fun b hb => ?_) fun out ho eo => ?_
  · have := depth_all (encD b) (List.mem_map.mpr ⟨b, hb, rfl⟩)
    omega
  · obtain ⟨ep, he'⟩ := PyProof.Rows.sortedAll_at s.heap its out.toArray
    obtain ⟨ys, ry, vy⟩ := of_each eo
    have hy : ys.length ≤ sizeLine := by rw [ry.len, List.length_mergeSort]; exact hlen
    exact ⟨.ref _, upd H (s.heap.objs.size + 1) (.lst ys), I.laid (t' := s.toks) (fun _ _ => PyProof.Rows.sortedAll_old) (Nat.le_succ _) ⟨hy, out, ep, vy, he'⟩, rfl, q _ ys (I.hok.fresh (Nat.le_succ _)) ry hy⟩
theorem bi_sorted (X : Cx) (hu : X.A.units + 66 < cLine) : Bi1 X (.builtin "sorted") (fun cs d => sortedD cs d) := by
  refine ⟨_, cr_sorted hu, ?_⟩
  intro O al s σ H x v d Q env q e fin
  simp only [sortedD] at e
  split at e
  · rename_i ds h
    split at e
    · rename_i ok
      cases e
      obtain ⟨a, ws, rfl, sq, z, t⟩ := seq_of env q h
      exact ⟨a, ws, al, _, ds, rfl, sq, t, ok, z, fun p ys hp ry hy ko => fin _ _ (upd_keep hp) ko (new_lst env hp ko ry hy)⟩
    · cases e
  · cases e
end Ev

set_option Elab.async false
set_option linter.all false
set_option maxRecDepth 100000
set_option maxHeartbeats 1000000
set_option autoImplicit false
/-! The evaluator, part M: repr. -/
namespace Ev
open PySem PySem.Spec PyProof.Rows L2
section
variable {X : Cx}
def rRepr (K : FragK) : List V → Hp → VK → Prop := fun vs H Q => ∃ v p, vs = [v] ∧ Dp K H v p ∧ reprOk p = true ∧ Q (.str p.shown) H
theorem cr_repr (gd : X.A.guards = some []) (hu : X.A.units + 66 < cLine) : CallR X (.builtin "repr") (rRepr X.K) := by
  intro pins s σ H vs us Q I r h
  obtain ⟨v, p, rfl, dp, ok, q⟩ := h
  obtain ⟨u, rfl, ru⟩ := vals1 r
  obtain ⟨as, hr⟩ := Dp.reads I p v u dp ru
  unfold reprOk at ok
  simp only [Bool.and_eq_true, decide_eq_true_eq, Bool.not_eq_true'] at ok
  obtain ⟨⟨⟨⟨o1, o2⟩, o3⟩, o4⟩, o5⟩ := ok
  have fin : ∀ (h' : Heap) (t tk : Tok), (∀ b o, s.heap.get? b = some o → h'.get? b = some o) → EP X pins σ Q (.str p.shown t) { s with heap := h', toks := tk } := fun h' t tk k => ⟨.str _, H, I.kept k, ⟨_, rfl⟩, q⟩
  have far : ∀ a, u = .ref a → wpAny (model X.prog X.w) X.A (PySem.call (.builtin "repr") [u]) (EP X pins σ Q) X.xe s := fun a e => by
    subst e
    exact repr_of_reads' hr o1 (PyData.noDict_hsm o2) gd (by omega) (fun b o k => k) (fun h' t tk k => fin h' t tk k) o3
  cases hr with
  | none => exact PySem.P.repr_of_none (fin s.heap _ _ fun b o k => k)
  | bool b => exact PySem.P.repr_of_bool (by have := fin s.heap s.toks (s.toks + 1) fun b o k => k; simpa only [PyData.shown] using this)
  | int i t => exact PySem.P.repr_of_int (by simpa [PyData.showable] using o1) (fin s.heap _ _ fun b o k => k)
  | str x t => exact PySem.P.repr_of_str (fin s.heap _ _ fun b o k => k) (by simpa only [PyData.shown] using o3)
  | list _ _ _ _ => exact far _ rfl
  | tuple _ _ _ _ => exact far _ rfl
  | dict _ _ _ _ _ => exact far _ rfl
theorem bi_repr (gd : X.A.guards = some []) (hu : X.A.units + 66 < cLine) : Bi1 X (.builtin "repr") (fun cs d => reprD cs d) := by
  refine ⟨_, cr_repr gd hu, ?_⟩
  intro O al s σ H x v d Q env q e fin
  simp only [reprD, Option.bind_eq_some_iff] at e
  obtain ⟨p, h1, h2⟩ := e
  split at h2
  · rename_i ok
    cases h2
    exact ⟨v, p, rfl, (dpC_of env q h1).1, ok, fun ko => fin H _ id_keep ko rfl⟩
  · cases h2
end
end Ev

set_option Elab.async false
set_option linter.all false
set_option maxRecDepth 100000
set_option maxHeartbeats 2000000
set_option autoImplicit false
/-! The evaluator, part Bt: tables of sets with up to 511 slots. -/
namespace Ev
open PySem PySem.Spec PyProof.Rows L2 PySem.W
/-- a mask at which a search meets every slot -/
structure Mk (m : Nat) : Prop where
  odd : m % 2 = 1
  is : m = 7 ∨ m = 31 ∨ m = 127 ∨ m = 511
  meets : ∀ (g : Int) (y : Nat), y ≤ m → ∃ n, n ≤ m + 12 ∧ runI m (SetTable.bits g) n = y
theorem Mk.of {m : Nat} (q : MaskOk m) : Mk m where
  odd := mask_odd q
  is := by rcases q with z | z | z <;> omega
  meets := fun g y hy => run_meets q g hy
/-- the round from a slot on -/
def orbit : Nat → Nat → List Nat
  | 0, _ => []
  | n + 1, i => i :: orbit n ((i * 5 + 1) % 512)
theorem orbit_all : ((List.range 512).all fun y => (orbit 512 0).contains y) = true := by decide +kernel
theorem orbit_round : lcgN 511 512 = 0 := by decide +kernel
theorem orbit_mem : ∀ (n i y : Nat), y ∈ orbit n i → ∃ k, k < n ∧ lcgI 511 i k = y
  | 0, _, _, z => by cases z
  | n + 1, i, y, z => by
    rcases List.mem_cons.mp z with rfl | z
    · exact ⟨0, Nat.succ_pos n, rfl⟩
    · obtain ⟨k, hk, e⟩ := orbit_mem n _ y z
      refine ⟨k + 1, Nat.succ_lt_succ hk, ?_⟩
      rw [← e]
      clear e z hk
      induction k with
      | zero => rfl
      | succ k ih =>
        show (lcgI 511 i (k + 1) * 5 + 1) % (511 + 1) = (lcgI 511 ((i * 5 + 1) % 512) k * 5 + 1) % (511 + 1)
        rw [ih]
theorem lcgI_zero (m : Nat) : ∀ k, lcgI m 0 k = lcgN m k
  | 0 => rfl
  | k + 1 => by show (lcgI m 0 k * 5 + 1) % (m + 1) = _; rw [lcgI_zero m k]; rfl
theorem orbit_hit {y : Nat} (h : y ≤ 511) : ∃ k, k ≤ 511 ∧ lcgN 511 k = y := by
  have a := List.all_eq_true.mp orbit_all y (List.mem_range.mpr (by omega))
  obtain ⟨k, b, e⟩ := orbit_mem 512 0 y (by simpa using a)
  exact ⟨k, by omega, by rw [← lcgI_zero]; exact e⟩
theorem orbit_mod : ∀ k, lcgN 511 (512 + k) = lcgN 511 k
  | 0 => orbit_round
  | k + 1 => by show (lcgN 511 (512 + k) * 5 + 1) % _ = _; rw [orbit_mod k]; rfl
theorem mk_511 : Mk 511 where
  odd := rfl
  is := by decide
  meets := fun g y hy => by
    obtain ⟨u, hu, eu⟩ := orbit_hit (runI_le 511 (SetTable.bits g) 12)
    obtain ⟨v, hv, ev⟩ := orbit_hit hy
    have tail := fun k => runI_tail (m := 511) (bits_lt g) k
    by_cases c : u ≤ v
    · refine ⟨12 + (v - u), by omega, ?_⟩
      rw [tail, ← eu, lcgN_add, Nat.add_sub_cancel' c, ev]
    · refine ⟨12 + (512 + v - u), by omega, ?_⟩
      rw [tail, ← eu, lcgN_add, show u + (512 + v - u) = 512 + v by omega, orbit_mod, ev]
/-- the way stays in the table -/
theorem way_in (m : Nat) (g : Int) (k : Nat) : way m g k ≤ m := by
  have a : SetTable.bits g % (m + 1) < m + 1 := Nat.mod_lt _ (Nat.succ_pos m)
  have b := runEnd_bd (Nat.le_of_lt_succ a)
  refine Nat.le_trans (Nat.le_add_right _ _) (nth_in (m := m) k _ ?_)
  simp only [runAt]
  omega
/-- each slot is met, and early enough -/
theorem Mk.met {m : Nat} (M : Mk m) (g : Int) {y : Nat} (hy : y ≤ m) : ∃ k, k < 10 * SetTable.turns m ∧ way m g k = y := by
  obtain ⟨n, hn, e⟩ := M.meets g y hy
  obtain ⟨k, hk, e'⟩ := run_nth m (SetTable.bits g) n
  refine ⟨k, by simp only [SetTable.turns]; omega, ?_⟩
  simp only [way, e']
  exact e

/-- a table in which each hash is found again -/
structure Tab (t : SetTable) (gs : List Int) : Prop where
  asc : Ris t.place.toList
  clean : t.dummies = #[]
  many : t.place.size = gs.length
  ok : Mk t.mask
  low : ∀ y ∈ t.place.toList, y ≤ t.mask
  back : ∀ (i : Nat) (g : Int) (y : Nat), gs[i]? = some g → t.place.toList[i]? = some y → ∃ k, way t.mask g k = y ∧ ∀ q, q < k → way t.mask g q ∈ t.place.toList
theorem Tab.of {t : SetTable} {gs : List Int} (T : TabOk t gs) : Tab t gs := ⟨T.ris, T.dm, T.sz, .of T.mok, T.bd, T.reach⟩
section
variable {t : SetTable} {gs : List Int}
theorem Tab.len (T : Tab t gs) : t.place.toList.length = gs.length := T.many
/-- the first free slot of a way -/
theorem Tab.free (T : Tab t gs) (hl : gs.length ≤ t.mask) (g : Int) : ∃ n, n < 10 * SetTable.turns t.mask ∧ way t.mask g n ∉ t.place.toList ∧ ∀ q, q < n → way t.mask g q ∈ t.place.toList := by
  obtain ⟨y, hy, out⟩ := st_missing t.place.toList (t.mask + 1) (by rw [T.len]; omega)
  obtain ⟨k, hk, rfl⟩ := T.ok.met g (Nat.le_of_lt_succ hy)
  obtain ⟨n, a, b, c⟩ := st_least (p := fun z => way t.mask g z ∉ t.place.toList) k out
  exact ⟨n, Nat.lt_of_le_of_lt a hk, b, fun q hq => Decidable.not_not.mp (c q hq)⟩
/-- what has the hash stands ahead of it -/
theorem Tab.ahead (T : Tab t gs) {g : Int} {n i y : Nat} (out : way t.mask g n ∉ t.place.toList) (hi : gs[i]? = some g) (hy : t.place.toList[i]? = some y) : ∃ k, k < n ∧ way t.mask g k = y := by
  obtain ⟨k, e, inn⟩ := T.back i g y hi hy
  refine ⟨k, Nat.lt_of_not_le fun c => out ?_, e⟩
  rcases Nat.eq_or_lt_of_le c with c | c
  · rw [c, e]; exact List.mem_of_getElem? hy
  · exact inn n c
/-- one more -/
theorem Tab.put (T : Tab t gs) {g : Int} {n : Nat} (out : way t.mask g n ∉ t.place.toList) (inn : ∀ q, q < n → way t.mask g q ∈ t.place.toList) :
    SetTable.below t.place (way t.mask g n) ≤ gs.length ∧ Tab (t.put (way t.mask g n)).1 (gs.take (SetTable.below t.place (way t.mask g n)) ++ g :: gs.drop (SetTable.below t.place (way t.mask g n))) ∧ (t.put (way t.mask g n)).1.fill = gs.length + 1 := by
  have top := way_in t.mask g n
  obtain ⟨y, ey⟩ : ∃ y, way t.mask g n = y := ⟨_, rfl⟩
  rw [ey] at top out ⊢
  have b1 : SetTable.below t.place y ≤ t.place.toList.length := (below_cut T.asc y).1
  have b2 : SetTable.below t.place y ≤ gs.length := by rw [← T.len]; exact b1
  have pl := put_place t y
  have dm := put_dm T.clean y
  have up : ∀ {z : Nat}, z ∈ t.place.toList → z ∈ (t.put y).1.place.toList := fun hz => by rw [pl]; exact mem_ins.2 (.inr hz)
  have sz : (t.put y).1.place.size = gs.length + 1 := by
    rw [← Array.length_toList, pl, len_ins _ b1, T.len]
  refine ⟨b2, ⟨ris_insert T.asc fun e => out (List.mem_of_getElem? ((Array.getElem?_toList).trans e)), dm, by rw [len_ins _ b2]; exact sz, T.ok, fun z hz => ?_, fun i g' y' h1 h2 => ?_⟩, ?_⟩
  · rw [pl] at hz
    rcases mem_ins.1 hz with rfl | hz
    · exact top
    · exact T.low z hz
  · rw [tins_get gs b2] at h1
    rw [pl, tins_get _ b1] at h2
    show ∃ k, way t.mask g' k = y' ∧ ∀ q, q < k → _
    have old : ∀ i', gs[i']? = some g' → t.place.toList[i']? = some y' → ∃ k, way t.mask g' k = y' ∧ ∀ q, q < k → way t.mask g' q ∈ (t.put y).1.place.toList := fun i' a b => by
      obtain ⟨k, e, inn'⟩ := T.back i' g' y' a b
      exact ⟨k, e, fun q hq => up (inn' q hq)⟩
    split at h1
    · rename_i c
      rw [if_pos c] at h2
      exact old i h1 h2
    · rename_i c
      rw [if_neg c] at h2
      split at h1
      · rename_i c2
        rw [if_pos c2] at h2
        cases h1
        cases h2
        exact ⟨n, ey, fun q hq => up (inn q hq)⟩
      · rename_i c2
        rw [if_neg c2] at h2
        exact old _ h1 h2
  · simp only [SetTable.fill, sz, dm]
    rfl
end

/-! ### all laid anew -/
theorem laid_free {m : Nat} (M : Mk m) (w : Array (Option Nat)) (g : Int) {y : Nat} (hy : y ≤ m) (fr : oAt w y = none) :
    ∃ n, SetTable.layClean.free m w (SetTable.turns m) (SetTable.bits g % (m + 1)) (SetTable.bits g) = some (way m g n) ∧ oAt w (way m g n) = none ∧ ∀ q, q < n → oAt w (way m g q) ≠ none := by
  obtain ⟨r, hr, e⟩ := M.meets g y hy
  have at_ : way m g (L2.off m (SetTable.bits g % (m + 1)) (SetTable.bits g) r) = y := by
    simp only [way, nth_off, itL_run]
    exact e
  obtain ⟨n, a, b, c⟩ := st_least (p := fun z => oAt w (way m g z) = none) _ ((congrArg (oAt w) at_).trans fr)
  refine ⟨n, free_spec m w _ r _ _ n (by simp only [SetTable.turns]; omega) a (fun q hq => ?_) ?_, b, c⟩
  · cases z : oAt w (way m g q) with
    | none => exact absurd z (c q hq)
    | some _ => rfl
  · rw [b]; rfl
theorem own_more {m : Nat} (M : Mk m) {gs : List Int} {w : Array (Option Nat)} (W : Own m gs w) (hl : gs.length ≤ m) (g : Int) :
    ∃ y, SetTable.layClean.free m w (SetTable.turns m) (SetTable.bits g % (m + 1)) (SetTable.bits g) = some y ∧ Own m (gs ++ [g]) (w.setIfInBounds y (some gs.length)) := by
  obtain ⟨us, lu, cov⟩ := W.ps
  obtain ⟨y0, h0, out⟩ := st_missing us (m + 1) (by omega)
  have fr : oAt w y0 = none := Decidable.byContradiction fun z => out (cov y0 (Nat.le_of_lt_succ h0) z)
  obtain ⟨n, e, f1, f2⟩ := laid_free M w g (Nat.le_of_lt_succ h0) fr
  have top := way_in m g n
  refine ⟨_, e, ?_⟩
  have same := oAt_set_self (owner := w) (some gs.length) (j := way m g n) (by rw [W.sz]; omega)
  have keep : ∀ {i : Nat}, oAt w i ≠ none → oAt (w.setIfInBounds (way m g n) (some gs.length)) i = oAt w i := fun {i} hi => oAt_set_ne _ fun z => hi (by rw [z]; exact f1)
  have keep' : ∀ {i : Nat}, oAt w i ≠ none → oAt (w.setIfInBounds (way m g n) (some gs.length)) i ≠ none := fun hi => by rw [keep hi]; exact hi
  have at_end : (gs ++ [g])[gs.length]? = some g := by simp
  constructor
  · rw [Array.size_setIfInBounds, W.sz]
  · intro y k hy hk
    by_cases c : y = way m g n
    · rw [c, same] at hk
      cases hk
      exact ⟨g, n, at_end, c.symm, fun q hq => keep' (f2 q hq)⟩
    · rw [oAt_set_ne _ c] at hk
      obtain ⟨g', n', a1, a2, a3⟩ := W.at_ y k hy hk
      refine ⟨g', n', ?_, a2, fun q hq => keep' (a3 q hq)⟩
      rw [List.getElem?_append_left (List.getElem?_eq_some_iff.mp a1).1, a1]
  · intro k hk
    rw [List.length_append] at hk
    rcases Nat.lt_or_ge k gs.length with c | c
    · obtain ⟨y, hy, ek⟩ := W.all k c
      exact ⟨y, hy, by rw [keep (by rw [ek]; simp), ek]⟩
    · have : k = gs.length := by simp at hk; omega
      subst this
      exact ⟨_, top, same⟩
  · refine ⟨way m g n :: us, by simp [lu], fun y hy hn => ?_⟩
    by_cases c : y = way m g n
    · rw [c]; exact List.mem_cons_self
    · rw [oAt_set_ne _ c] at hn
      exact List.mem_cons_of_mem _ (cov y hy hn)
theorem own_fold {m : Nat} (M : Mk m) : ∀ (more gs : List Int) (w : Array (Option Nat)), Own m gs w → gs.length + more.length ≤ m → ∃ w', more.foldl (stepF m) (some (w, gs.length)) = some (w', (gs ++ more).length) ∧ Own m (gs ++ more) w'
  | [], gs, w, W, _ => ⟨w, by simp, by simpa using W⟩
  | g :: more, gs, w, W, hl => by
    simp only [List.length_cons] at hl
    obtain ⟨y, e, W1⟩ := own_more M W (by omega) g
    obtain ⟨w', f, W2⟩ := own_fold M more (gs ++ [g]) _ W1 (by simp; omega)
    have ap : gs ++ [g] ++ more = gs ++ g :: more := by simp
    rw [ap] at f W2
    refine ⟨w', ?_, W2⟩
    rw [List.foldl_cons, stepF_some e, ← f, List.length_append]
    rfl
theorem own_clean {m : Nat} (M : Mk m) {gs : Array Int} (hl : gs.size ≤ m) : ∃ w, SetTable.layClean m gs = some w ∧ Own m gs.toList w := by
  obtain ⟨w, f, W⟩ := own_fold M gs.toList [] _ (Own.init m) (by simpa using hl)
  refine ⟨w, ?_, by simpa using W⟩
  rw [layClean_eq]
  exact congrArg (Option.map Prod.fst) f
/-- the new table -/
theorem relaid_big (t : SetTable) {gs : Array Int} {wanted m : Nat} (hw : SetTable.sizeAbove wanted - 1 = m) (M : Mk m) (hl : gs.size ≤ m) :
    ∃ t' row, t.relaid gs wanted = some (t', row) ∧ row.toList.Perm (List.range gs.size) ∧ Tab t' (row.toList.map fun i => gs.getD i 0) ∧ t'.mask = m ∧ t'.led = t.led ∧ t'.plain = t.plain := by
  obtain ⟨w, e, W⟩ := own_clean M hl
  obtain ⟨asc, inn⟩ := ris_live (fun y => w.getD y none) (List.range (m + 1)) List.pairwise_lt_range
  have asc : Ris ((liveOf m w).map (·.1)) := asc
  have inn : ∀ y ∈ (liveOf m w).map (·.1), y ∈ List.range (m + 1) := inn
  have mem := fun {y k : Nat} => mem_live (m := m) (owner := w) W.sz (j := y) (k := k)
  have gl : gs.toList.length = gs.size := rfl
  have cov : ∀ k, k < gs.size → k ∈ (liveOf m w).map (·.2) := fun k hk => by
    obtain ⟨y, a, b⟩ := W.all k hk
    exact List.mem_map.mpr ⟨(y, k), mem.2 ⟨a, b⟩, rfl⟩
  have size : (liveOf m w).length = gs.size := by
    obtain ⟨us, lu, hu⟩ := W.ps
    have a := nat_nodup_len ((liveOf m w).map Prod.fst) us (List.Pairwise.imp (fun z => Nat.ne_of_lt z) asc) fun y hy => by
      obtain ⟨⟨y', k⟩, hq, rfl⟩ := List.mem_map.mp hy
      obtain ⟨b1, b2⟩ := mem.1 hq
      exact hu y' b1 (by rw [b2]; simp)
    have b := nat_nodup_len (List.range gs.size) ((liveOf m w).map (·.2)) List.nodup_range fun k hk => cov k (List.mem_range.mp hk)
    rw [List.length_map, lu] at a
    rw [List.length_map, List.length_range] at b
    omega
  refine ⟨tabOf t m w, ((liveOf m w).map (·.2)).toArray, by rw [relaid_eq, hw, e]; rfl, perm_range _ _ (by simpa using size) fun k hk => by simpa using cov k hk, ⟨asc, rfl, by simp [tabOf], M, fun y hy => ?_, fun i g y h1 h2 => ?_⟩, rfl, rfl, rfl⟩
  · exact Nat.le_of_lt_succ (List.mem_range.mp (inn y hy))
  · have h1 : ((liveOf m w)[i]?).map (fun q => gs.getD q.2 0) = some g := by simpa [List.getElem?_map, Function.comp_def] using h1
    have h2 : ((liveOf m w)[i]?).map (·.1) = some y := by simpa [tabOf, List.getElem?_map] using h2
    cases hq : (liveOf m w)[i]? with
    | none => rw [hq] at h2; cases h2
    | some q =>
      obtain ⟨y', k⟩ := q
      rw [hq] at h1 h2
      cases h1
      cases h2
      obtain ⟨b1, b2⟩ := mem.1 (List.mem_of_getElem? hq)
      obtain ⟨g', n, a1, a2, a3⟩ := W.at_ y' k b1 b2
      have eg : gs.getD k 0 = g' := by
        rw [Array.getD_eq_getD_getElem?, ← Array.getElem?_toList, a1]
        rfl
      show ∃ z, way m (gs.getD k 0) z = y' ∧ ∀ q, q < z → way m (gs.getD k 0) q ∈ (liveOf m w).map Prod.fst
      rw [eg]
      refine ⟨n, a2, fun q hq => ?_⟩
      obtain ⟨k2, e2⟩ := Option.ne_none_iff_exists'.mp (a3 q hq)
      exact List.mem_map.mpr ⟨(_, k2), mem.2 ⟨way_in m g' q, e2⟩, rfl⟩
theorem grown_77 : SetTable.sizeAbove (SetTable.grown 77) = 512 := by decide +kernel
end Ev

set_option Elab.async false
set_option linter.all false
set_option maxRecDepth 100000
set_option maxHeartbeats 2000000
set_option autoImplicit false
/-! The evaluator, part Bs: sets of up to 300 tuples of ints. -/
namespace Ev
open PySem PySem.Spec PyProof.Rows L2 PySem.W
abbrev stp (m : Nat) (g : Int) (c : Nat) : SetTable.Probe := nth m (runAt m (SetTable.bits g % (m + 1)) (SetTable.bits g)) c
theorem stp_add (m : Nat) (g : Int) (c q : Nat) : nth m (stp m g c) q = stp m g (c + q) := (nth_add m c _ q).symm
theorem stp_way (m : Nat) (g : Int) (c q : Nat) : (nth m (stp m g c) q).j = way m g (c + q) := congrArg SetTable.Probe.j (stp_add m g c q)
theorem stp_clean (m : Nat) (g : Int) : ∀ c, (stp m g c).dummy = none
  | 0 => rfl
  | c + 1 => by
    rw [stp, nth_succ]
    have := stp_clean m g c
    unfold adv
    split <;> exact this
/-- the set at a has the tuples L -/
structure SetB (P : Program) (w : World) (h : Heap) (a : Addr) (L : List (Addr × List Int)) (es : Array (Int × Value)) (ep : Nat) (t : SetTable) : Prop where
  obj : ∃ o, h.get? a = some o ∧ o.ExactSet ∧ o.data = .set es ep t
  ent : es.toList = L2.rowsOf P w L
  tab : Tab t (L.map fun p => thash P w p.2)
  uniq : (L.map (·.2)).Nodup
  are : ∀ p ∈ L, IsT P w h p.2 p.1
  pl : t.plain = true
  ld : w.params.followText "set-order" = true ∨ t.led = true
  gap : L.length * 5 < t.mask * 3
  lot : L.length ≤ 300
section
variable {P : Program} {w : World} {A : Around} {E : Value → Shared → Prop} {s : Shared} {a : Addr} {L : List (Addr × List Int)} {es : Array (Int × Value)} {ep : Nat} {t : SetTable}
theorem rows_size {es : Array (Int × Value)} {L : List (Addr × List Int)} (e : es.toList = L2.rowsOf P w L) : es.size = L.length := by
  rw [← Array.length_toList, e, L2.rowsOf, List.length_map]
theorem fits_of (T : Tab t (L.map fun p => thash P w p.2)) (e : es.toList = L2.rowsOf P w L) (z : L.length ≤ t.mask) : t.fits es.size = true := by
  have m := T.many
  rw [List.length_map] at m
  simp [SetTable.fits, SetTable.fill, T.clean, rows_size e, m, z]
theorem SetB.size (R : SetB P w s.heap a L es ep t) : es.size = L.length := rows_size R.ent
theorem SetB.room (R : SetB P w s.heap a L es ep t) : L.length ≤ t.mask := by have := R.gap; omega
theorem SetB.fits (R : SetB P w s.heap a L es ep t) : t.fits es.size = true := fits_of R.tab R.ent R.room
theorem SetB.at_ (R : SetB P w s.heap a L es ep t) {i : Nat} {p : Addr × List Int} (h : L[i]? = some p) : es[i]? = some (thash P w p.2, Value.ref p.1) := by
  rw [← Array.getElem?_toList, R.ent, L2.rowsOf, List.getElem?_map, h]
  rfl
theorem SetB.firm (R : SetB P w s.heap a L es ep t) : ¬ t.gaveWay = true := by
  unfold SetTable.gaveWay
  rw [R.tab.ok.odd]
  decide
/-- what stands on a slot that is taken -/
theorem SetB.who (R : SetB P w s.heap a L es ep t) {i y : Nat} (h : t.place.toList[i]? = some y) : ∃ p, L[i]? = some p ∧ p ∈ L := by
  have z := (List.getElem?_eq_some_iff.mp h).1
  rw [R.tab.len, List.length_map] at z
  exact ⟨L[i], List.getElem?_eq_getElem z, List.getElem_mem z⟩

theorem SetB.look (R : SetB P w s.heap a L es ep t) {x : Addr} {k : List Int} {g : Int} (eg : g = thash P w k) (hx : IsT P w s.heap k x) (hu : A.units < cLine) {n : Nat} (hn : n < 10 * SetTable.turns t.mask)
    (out : way t.mask g n ∉ t.place.toList) (inn : ∀ q, q < n → way t.mask g q ∈ t.place.toList) {Q : SetFound → Shared → Prop}
    (yes : k ∈ L.map (·.2) → Q (.there none) s) (no : k ∉ L.map (·.2) → Q (.free (way t.mask g n) false) s) :
    ∀ (f c : Nat) (st : Option SetTable.Probe), st.getD (t.probeStart g) = stp t.mask g c → c ≤ n → n - c < f → (∀ (i : Nat) p, L[i]? = some p → p.2 = k → ∃ d, c ≤ d ∧ d < n ∧ t.place.toList[i]? = some (way t.mask g d)) →
      wpAny (model P w) A (setSearchFrom a (.ref x) g true f st) Q E s
  | 0, _, _, _, _, z, _ => absurd z (Nat.not_lt_zero _)
  | f + 1, c, st, es0, hc, hf, left => by
    obtain ⟨o, ho, _, od⟩ := R.obj
    have fit := R.fits
    rw [setSearchFrom_succ]
    refine wpAny_bind (wpAny_setState_of ho od fit ?_)
    dsimp only
    refine wp_if_neg R.firm ?_
    try refine wpAny_bind (wpAny_pure ?_)
    have hash_at : ∀ (i : Nat) p, L[i]? = some p → (es[i]?.map (·.1)).getD 0 = thash P w p.2 := fun i p h => by rw [R.at_ h]; rfl
    have met := go_spec t R.tab.asc R.tab.clean (fun i => (es[i]?.map (·.1)).getD 0) g (10 * SetTable.turns t.mask) (n - c) (stp t.mask g c) (stp_clean _ _ c) (by omega)
      (fun q hq => by rw [stp_way]; exact inn _ (by omega)) (by rw [stp_way, Nat.add_sub_cancel' hc]; exact out)
    have pr : t.probe (fun i => (es[i]?.map (·.1)).getD 0) g (st.getD (t.probeStart g)) = SetTable.probe.go t (fun i => (es[i]?.map (·.1)).getD 0) g (10 * SetTable.turns t.mask) (stp t.mask g c) := by
      rw [es0]; rfl
    rcases met with ⟨q, i, hq, hi, hg, past, e⟩ | ⟨past, e⟩
    · rw [pr, e]
      dsimp only
      rw [stp_way] at hi
      obtain ⟨p, hp, pm⟩ := R.who hi
      have tail : wpAny (model P w) A (searchRest a (.ref x) g true f es t (nth t.mask (stp t.mask g c) q).j i (nth t.mask (stp t.mask g c) (q + 1))) Q E s := by
        rw [stp_add, stp_add]
        unfold searchRest
        rw [R.at_ hp]
        dsimp only
        refine wpAny_bind (wpAny_holding (wpAny_eqBool_tuple hu (R.are p pm) hx ?_))
        refine wpAny_bind (wpAny_setState_of ho od fit ?_)
        dsimp only
        by_cases same : p.2 = k
        · exact wp_if_pos (by simp [same]) (wpAny_pure (yes (List.mem_map.mpr ⟨p, pm, same⟩)))
        · refine wp_if_neg (by simp [same]) ?_
          try refine wpAny_bind (wpAny_pure ?_)
          rw [sameMem]
          dsimp only
          have sl : t.slot (way t.mask g (c + q)) = .live i := slot_live R.tab.asc hi
          simp only [if_true, sl, R.at_ hp]
          refine wpAny_bind (wpAny_isSame_ref_self (wpAny_bind (wpAny_pure ?_)))
          simp only [if_true]
          refine wp_if_neg (by simp [same]) ?_
          refine R.look eg hx hu hn out inn yes no f (c + q + 1) _ rfl (by omega) (by omega) fun i' p' hp' ek => ?_
          obtain ⟨d, d1, d2, d3⟩ := left i' p' hp' ek
          refine ⟨d, ?_, d2, d3⟩
          have ne1 : ¬ d < c + q := fun lt => past (d - c) i' (by omega) (by rw [stp_way, Nat.add_sub_cancel' d1]; exact d3) ((hash_at i' p' hp').trans (by rw [ek, eg]))
          have ne2 : d ≠ c + q := fun ed => by
            have s2 := slot_live R.tab.asc d3
            rw [ed, sl] at s2
            cases s2
            rw [hp] at hp'
            cases hp'
            exact same ek
          omega
      by_cases led : t.led = true
      · refine wp_if_neg (by simp [led]) ?_
        try refine wpAny_bind (wpAny_pure ?_)
        exact tail
      · refine wp_if_pos (by simp [led]) (wpAny_bind (seen_tup hx (fun v hv => ?_) (wp_if_neg (by decide) ?_)))
        · obtain ⟨u, hu', ev⟩ := List.mem_map.mp hv
          have hu2 : u ∈ es.toList := by
            have : u ∈ es ∧ u.1 = g := by simpa using hu'
            simpa using this.1
          rw [R.ent] at hu2
          obtain ⟨p', pm', e'⟩ := List.mem_map.mp hu2
          exact ⟨p'.2, p'.1, by rw [← ev, ← e'], R.are p' pm'⟩
        · try refine wpAny_bind (wpAny_pure ?_)
          exact tail
    · rw [pr, e, stp_way, Nat.add_sub_cancel' hc]
      dsimp only
      refine wpAny_pure (no fun z => ?_)
      obtain ⟨p, pm, ek⟩ := List.mem_map.mp z
      obtain ⟨i, hi, ei⟩ := List.getElem_of_mem pm
      have hp : L[i]? = some p := by rw [List.getElem?_eq_getElem hi, ei]
      obtain ⟨d, d1, d2, d3⟩ := left i p hp ek
      exact past (d - c) i (by omega) (by rw [stp_way, Nat.add_sub_cancel' d1]; exact d3) ((hash_at i p hp).trans (by rw [ek, eg]))
theorem SetB.find (R : SetB P w s.heap a L es ep t) {x : Addr} {k : List Int} {g : Int} (eg : g = thash P w k) (hx : IsT P w s.heap k x) (hu : A.units < cLine) {Q : SetFound → Shared → Prop} (yes : k ∈ L.map (·.2) → Q (.there none) s)
    (no : ∀ n, k ∉ L.map (·.2) → way t.mask g n ∉ t.place.toList → (∀ q, q < n → way t.mask g q ∈ t.place.toList) → Q (.free (way t.mask g n) false) s) : wpAny (model P w) A (setSearch a (.ref x) g true) Q E s := by
  obtain ⟨n, hn, out, inn⟩ := R.tab.free (by rw [List.length_map]; exact R.room) g
  have big : n < 99999 := by
    have : SetTable.turns t.mask ≤ 526 := by
      simp only [SetTable.turns]
      rcases R.tab.ok.is with z | z | z | z <;> omega
    omega
  unfold setSearch
  refine R.look eg hx hu hn out inn yes (fun z => no n z out inn) 100000 0 none rfl (Nat.zero_le _) (by omega) fun i p hp ek => ?_
  have ig : (L.map fun p => thash P w p.2)[i]? = some g := by rw [List.getElem?_map, hp, eg, ← ek]; rfl
  have il : i < t.place.toList.length := by
    rw [R.tab.len]
    exact (List.getElem?_eq_some_iff.mp ig).1
  have iy := List.getElem?_eq_getElem il
  obtain ⟨d, d1, d2⟩ := R.tab.ahead out ig iy
  exact ⟨d, Nat.zero_le _, d1, by rw [iy, d2]⟩

/-- laid anew, larger -/
theorem relay_big {o : Obj} (ho : s.heap.get? a = some o) (ox : o.ExactSet) (od : o.data = .set es ep t) (en : es.toList = L2.rowsOf P w L) (T : Tab t (L.map fun p => thash P w p.2)) (z : L.length ≤ t.mask)
    (uq : (L.map (·.2)).Nodup) (ar : ∀ p ∈ L, IsT P w s.heap p.2 p.1) (pl : t.plain = true) (ld : w.params.followText "set-order" = true ∨ t.led = true) (lt : L.length ≤ 300) {wanted m : Nat}
    (hw : SetTable.sizeAbove wanted = m + 1) (M : Mk m) (gap : L.length * 5 < m * 3) {Q : Unit → Shared → Prop}
    (fin : ∀ h' L' es' ep' t', Heap.SameBut a s.heap h' → SetB P w h' a L' es' ep' t' → L'.Perm L → Q () { s with heap := h' }) : wpAny (model P w) A (setRelay a wanted) Q E s := by
  have size := rows_size en
  have m9 : m ≤ 511 := by rcases M.is with q | q | q | q <;> omega
  obtain ⟨t', row, e, pm, T', e1, e2, e3⟩ := relaid_big t (gs := es.map (·.1)) (wanted := wanted) (m := m) (by rw [hw]; rfl) M (by rw [Array.size_map, size]; omega)
  rw [Array.size_map, size] at pm
  obtain ⟨L', en', pm', hs'⟩ := order_rows L es row en pm
  rw [← hs'] at T'
  have size' : (row.filterMap (es[·]?)).size = es.size := by rw [rows_size en', pm'.length_eq, size]
  rw [setRelay_eq]
  refine wpAny_bind (wpAny_setState_of ho od (fits_of T en z) ?_)
  dsimp only
  refine wp_if_neg (by rw [hw, sizeLine_eq]; omega) ?_
  try refine wpAny_bind (wpAny_pure ?_)
  rw [e]
  dsimp only
  refine wpAny_bind (wp_if_neg (by simp [size']) ?_)
  try refine wpAny_bind (wpAny_pure ?_)
  refine wpAny_pure ?_
  dsimp only
  refine wpAny_storeSet_of ho od ?_ (by rw [size', size, sizeLine_eq]; omega)
  have sb : Heap.SameBut a s.heap (s.heap.update a (Obj.putSet (row.filterMap (es[·]?)) t')) := Heap.SameBut.update ..
  exact fin _ L' _ (ep + 1) t' sb ⟨⟨_, store_at ho od, ⟨ox.1, ox.2.1, ox.2.2⟩, rfl⟩, en', T', (pm'.map (·.2)).nodup_iff.mpr uq, fun p hp => isT_same (ar p (pm'.mem_iff.mp hp)) ho od sb, by rw [e3]; exact pl, by rw [e2]; exact ld,
    by rw [pm'.length_eq, e1]; exact gap, by rw [pm'.length_eq]; exact lt⟩ pm'
end
end Ev

set_option Elab.async false
set_option linter.all false
set_option maxRecDepth 100000
set_option maxHeartbeats 3200000
set_option autoImplicit false
/-! The evaluator, part Bu: set(list of up to 300 tuples of ints). -/
namespace Ev
open PySem PySem.Spec PyProof.Rows L2 PySem.W
section
variable {P : Program} {w : World} {A : Around} {E : Value → Shared → Prop} {s : Shared} {a : Addr} {L : List (Addr × List Int)} {es : Array (Int × Value)} {ep : Nat} {t : SetTable}
theorem next_mask (M : Mk t.mask) {n : Nat} (gap : n * 5 < t.mask * 3) (full : t.mask * 3 ≤ (n + 1) * 5) (lt : n + 1 ≤ 300) : ∃ m, SetTable.sizeAbove (SetTable.grown (n + 1)) = m + 1 ∧ Mk m ∧ (n + 1) * 5 < m * 3 ∧ n + 1 ≤ t.mask := by
  rcases M.is with e | e | e | e <;> rw [e] at gap full ⊢
  · obtain rfl : n = 4 := by omega
    exact ⟨31, size_20, .of (.inr (.inl rfl)), by decide, by decide⟩
  · obtain rfl : n = 18 := by omega
    exact ⟨127, size_76, .of (.inr (.inr rfl)), by decide, by decide⟩
  · obtain rfl : n = 76 := by omega
    exact ⟨511, grown_77, mk_511, by decide, by decide⟩
  · omega
theorem SetB.add (R : SetB P w s.heap a L es ep t) {x : Addr} {k : List Int} (hx : IsT P w s.heap k x) (hu : A.units < cLine) (lt : L.length + 1 ≤ 300) {Q : Bool → Shared → Prop}
    (fin : ∀ b h' L' es' ep' t', Heap.SameBut a s.heap h' → SetB P w h' a L' es' ep' t' → (k ∈ L.map (·.2) → L' = L) → (k ∉ L.map (·.2) → L'.Perm ((x, k) :: L)) → Q b { s with heap := h' }) :
    wpAny (model P w) A (setAddHashed a (.ref x) (thash P w k)) Q E s := by
  obtain ⟨o, ho, ox, od⟩ := R.obj
  have gap := R.gap
  unfold setAddHashed
  refine wpAny_holding ?_
  rw [show (100000 : Nat) = 99999 + 1 from rfl, setAddHashedIn_succ]
  refine wpAny_bind (wpAny_setState_of ho od R.fits ?_)
  dsimp only
  refine wp_if_neg (by simp [byScan, Value.scannable]) ?_
  try refine wpAny_bind (wpAny_pure ?_)
  obtain ⟨g, eg⟩ : ∃ g, g = thash P w k := ⟨_, rfl⟩
  rw [← eg]
  refine wpAny_bind (R.find eg hx hu (fun yes => ?_) fun n no out inn => ?_)
  · dsimp only
    exact wpAny_pure (fin false s.heap L es ep t (.refl a s.heap) R (fun _ => rfl) fun z => absurd yes z)
  dsimp only
  refine wpAny_bind (wpAny_setState_of ho od R.fits ?_)
  dsimp only
  obtain ⟨b2, T1, fill⟩ := R.tab.put out inn
  have e1 : (t.put (way t.mask g n)).1.mask = t.mask := rfl
  have e2 : (t.put (way t.mask g n)).1.led = t.led := rfl
  have e3 : (t.put (way t.mask g n)).1.plain = t.plain := rfl
  have e4 : (t.put (way t.mask g n)).2 = SetTable.below t.place (way t.mask g n) := rfl
  generalize t.put (way t.mask g n) = tp at T1 fill e1 e2 e3 e4 ⊢
  obtain ⟨t1, i⟩ := tp
  dsimp only at T1 fill e1 e2 e3 e4 ⊢
  subst e4
  have pl1 : t1.plain = true := by rw [e3]; exact R.pl
  refine wp_if_pos pl1 (wpAny_bind (hashBy_tup hx ?_))
  simp only [if_true]
  have en1 : (SetTable.insertAt es (SetTable.below t.place (way t.mask g n)) (g, Value.ref x)).toList = L2.rowsOf P w (L.take (SetTable.below t.place (way t.mask g n)) ++ (x, k) :: L.drop (SetTable.below t.place (way t.mask g n))) := by
    rw [SetTable.toList_insertAt, rows_put, R.ent, eg]
  generalize SetTable.below t.place (way t.mask g n) = i at T1 en1 b2 ⊢
  have pm := put_perm L i (x, k)
  have T2 : Tab t1 ((L.take i ++ (x, k) :: L.drop i).map fun p => thash P w p.2) := by
    rw [List.map_append, List.map_cons, List.map_take, List.map_drop, ← eg]
    exact T1
  have uq : ((L.take i ++ (x, k) :: L.drop i).map (·.2)).Nodup := (pm.map (·.2)).nodup_iff.mpr (List.nodup_cons.mpr ⟨no, R.uniq⟩)
  rw [List.length_map] at fill
  generalize L.take i ++ (x, k) :: L.drop i = L1 at pm T2 en1 uq
  have l1 : L1.length = L.length + 1 := pm.length_eq
  have z1 := rows_size en1
  generalize SetTable.insertAt es i (g, Value.ref x) = es1 at en1 z1 ⊢
  refine wpAny_bind (wpAny_storeSet_of ho od ?_ (by rw [z1, l1, sizeLine_eq]; omega))
  have sb : Heap.SameBut a s.heap (s.heap.update a (Obj.putSet es1 t1)) := Heap.SameBut.update ..
  have ho1 := store_at (es' := es1) (t' := t1) ho od
  generalize s.heap.update a (Obj.putSet es1 t1) = h1 at sb ho1 ⊢
  have ar : ∀ p ∈ L1, IsT P w h1 p.2 p.1 := fun p hp => by
    rcases List.mem_cons.mp (pm.mem_iff.mp hp) with rfl | hp
    · exact isT_same hx ho od sb
    · exact isT_same (R.are p hp) ho od sb
  have ld1 : w.params.followText "set-order" = true ∨ t1.led = true := by rw [e2]; exact R.ld
  have done : ∀ (b : Bool) h' L' es' ep' t', Heap.SameBut a h1 h' → SetB P w h' a L' es' ep' t' → L'.Perm L1 → Q b { s with heap := h' } := fun b h' L' es' ep' t' q1 q2 q3 =>
    fin b h' L' es' ep' t' (sb.trans q1) q2 (fun z => absurd z no) fun _ => q3.trans pm
  by_cases full : t1.tooFull = true
  · have full' : t.mask * 3 ≤ (L.length + 1) * 5 := by
      have := full
      rw [SetTable.tooFull, decide_eq_true_eq, fill, e1] at this
      exact this
    obtain ⟨m, hm, M, gap', zz⟩ := next_mask R.tab.ok gap full' lt
    have hm' : SetTable.sizeAbove (SetTable.grown (es.size + 1)) = m + 1 := by rw [R.size]; exact hm
    have go : wpAny (model P w) A (setRelay a (SetTable.grown (es.size + 1))) (fun _ s' => wpAny (model P w) A (pure true) Q E s') E { s with heap := h1 } :=
      relay_big (s := { s with heap := h1 }) ho1 ⟨ox.1, ox.2.1, ox.2.2⟩ rfl en1 T2 (by rw [l1, e1]; exact zz) uq ar pl1 ld1 (by rw [l1]; exact lt) hm' M (by rw [l1]; exact gap') fun h2 L2' es2 ep2 t2 q1 q2 q3 =>
        wpAny_pure (done true h2 L2' es2 ep2 t2 q1 q2 q3)
    first
      | exact wpAny_bind (wp_if_pos (by simp [full]) go)
      | exact wp_if_pos (by simp [full]) (wpAny_bind go)
  · have last : Q true { s with heap := h1 } := done true h1 L1 es1 (ep + 1) t1 (.refl a h1) ⟨⟨_, ho1, ⟨ox.1, ox.2.1, ox.2.2⟩, rfl⟩, en1, T2, uq, ar, pl1, ld1, by
      have : ¬ (t.mask * 3 ≤ (L.length + 1) * 5) := by
        have := full
        rw [SetTable.tooFull, decide_eq_true_eq, fill, e1] at this
        exact this
      rw [l1, e1]
      omega, by rw [l1]; exact lt⟩ (List.Perm.refl _)
    first
      | exact wp_if_neg (by simp [full]) (wpAny_pure last)
      | exact wpAny_bind (wp_if_neg (by simp [full]) (wpAny_pure (wpAny_pure last)))
theorem SetB.stay {h h' : Heap} (R : SetB P w h a L es ep t) (k1 : ∀ o, h.get? a = some o → h'.get? a = some o) (k2 : ∀ p ∈ L, IsT P w h' p.2 p.1) : SetB P w h' a L es ep t := by
  obtain ⟨o, ho, q⟩ := R.obj
  exact ⟨⟨o, k1 o ho, q⟩, R.ent, R.tab, R.uniq, k2, R.pl, R.ld, R.gap, R.lot⟩
theorem setB_new {h : Heap} (ho : h.get? a = some { cls := .type "set", dict := none, data := .set #[] 0 (.fresh 0 0 (!w.params.followText "set-order")) }) : SetB P w h a [] #[] 0 (.fresh 0 0 (!w.params.followText "set-order")) where
  obj := ⟨_, ho, ⟨rfl, rfl, rfl⟩, rfl⟩
  ent := rfl
  tab := ⟨.nil, rfl, rfl, .of (.inl rfl), fun _ z => (by cases z), fun i g y z => by simp at z⟩
  uniq := .nil
  are := fun _ z => (by cases z)
  pl := rfl
  ld := by
    cases e : w.params.followText "set-order" with
    | false => exact .inr rfl
    | true => exact .inl rfl
  gap := by show 0 * 5 < 7 * 3; omega
  lot := by simp
/-- the loop of set.update -/
theorem update_big {I : Addr} {fp wr : List Addr} {G : Array GenState → Array GenState → Prop} {n : Nat} {Pv : Nat → Value → Prop} {St : Nat → Shared → Prop} {B : Result → Shared → Prop}
    (W : WalksS P w A.in1 I fp wr G n Pv St) (S : Addr) (nS : S ∉ fp) (ks : List (Addr × List Int)) (en : n = ks.length) (lt : ks.length ≤ 300) (vals : ∀ i v, Pv i v → ∃ p, ks[i]? = some p ∧ v = .ref p.1)
    (h0 : Heap) (hk : ∀ p ∈ ks, IsT P w h0 p.2 p.1) (fS : h0.get? S = none) (fw : ∀ b ∈ wr, h0.get? b = none) (hu : A.in1.units < cLine) :
    ∀ (left i : Nat) (s : Shared), left + i = n → St i s → (∀ b o, h0.get? b = some o → s.heap.get? b = some o) → (∃ L es ep t, SetB P w s.heap S L es ep t ∧ Got ks i L) →
      (∀ s' L es ep t, Moved (S :: wr) G s s' → SetB P w s'.heap S L es ep t → Got ks n L → (∀ b o, h0.get? b = some o → s'.heap.get? b = some o) → B (.ok (.ret .none)) s') →
      codeAny (model P w) A (.builtin "set.update.loop" ⟨[.ref S, .ref I], []⟩) B s := by
  have grow : ∀ {s s' : Shared}, Moved wr G s s' → (∀ b o, h0.get? b = some o → s.heap.get? b = some o) → ∀ b o, h0.get? b = some o → s'.heap.get? b = some o := fun hm q b o e =>
    hm.heap b o (fun z => absurd (fw b z) (by rw [e]; simp)) (q b o e)
  have more : ∀ b ∈ wr, b ∈ S :: wr := fun b z => List.mem_cons_of_mem _ z
  have off : S ∉ wr := fun z => nS (W.sub _ z)
  have known : ∀ {i : Nat} {L : List (Addr × List Int)}, Got ks i L → ∀ p ∈ L, p ∈ ks := fun g p z => List.mem_of_mem_take (g.sub p z)
  intro left
  induction left with
  | zero =>
    intro i s hi hst q ⟨L, es, ep, t, R, g⟩ fin
    obtain rfl : i = n := by omega
    refine codeAny_builtin F.entry_set_update_loop ?_
    rw [Around.under_plainId F.plain_set_update_loop _]
    show wpAny _ A.in1 (pyNext (.ref I) >>= _) _ _ s
    refine wpAny_bind (W.done s _ _ hst fun s' hm => ?_)
    have q' := grow hm q
    show wpAny _ A.in1 (ret Value.none) _ _ s'
    exact wpAny_pure (fin s' L es ep t (hm.mono more) (R.stay (fun o e => hm.heap S o off e) fun p hp => isT_keep (hk p (known g p hp)) q') g q')
  | succ left ih =>
    intro i s hi hst q ⟨L, es, ep, t, R, g⟩ fin
    refine codeAny_builtin F.entry_set_update_loop ?_
    rw [Around.under_plainId F.plain_set_update_loop _]
    show wpAny _ A.in1 (pyNext (.ref I) >>= _) _ _ s
    refine wpAny_bind (W.item i s _ _ (by omega) hst fun v s' hP hst' hm => ?_)
    obtain ⟨p, hp, rfl⟩ := vals i v hP
    have q' := grow hm q
    have R' : SetB P w s'.heap S L es ep t := R.stay (fun o e => hm.heap S o off e) fun p hp => isT_keep (hk p (known g p hp)) q'
    have hx := isT_keep (hk p (List.mem_of_getElem? hp)) q'
    have il := (List.getElem?_eq_some_iff.mp hp).1
    show wpAny _ A.in1 (holding [Value.ref p.1] (setAdd S (.ref p.1)) >>= _) _ _ s'
    refine wpAny_bind (wpAny_holding ?_)
    unfold setAdd
    refine wpAny_holding (wpAny_bind (wpAny_pyHash_tuple hu hx ?_))
    refine SetB.add (s := { s' with toks := s'.toks + (p.2.length + 1) }) R' hx hu (by have := g.len; omega) fun b h' L' es' ep' t' sb R2 old new => ?_
    have g2 : Got ks (i + 1) L' := by
      by_cases c : p.2 ∈ L.map (·.2)
      · rw [old c]; exact g.same hp c
      · exact g.more hp (new c)
    have nz : ∀ {b : Addr} {o : Obj}, h0.get? b = some o → b ≠ S := fun e z => by rw [z, fS] at e; cases e
    refine wpAny_pure ⟨plainId_quiet F.plain_set_update_loop _, ih (i + 1) _ (by omega) (W.frame _ s' _ _ hst' (Nat.le_add_right _ _) fun b hb o e => ?_) (fun b o e => (sb.2 b (nz e)).trans (q' b o e)) ⟨L', es', ep', t', R2, g2⟩ fun s2 L2' es2 ep2 t2 hm2 R3 g3 q3 => ?_⟩
    · exact (sb.2 b fun z => nS (z ▸ hb)).trans e
    · refine fin s2 L2' es2 ep2 t2 (Moved.trans W.gtrans ((hm.mono more).then_heap (Nat.le_add_right _ _) fun b o hb e => ?_) hm2) R3 g3 q3
      exact (sb.2 b fun z => hb (by rw [z]; exact List.mem_cons_self)).trans e
end
end Ev

set_option Elab.async false
set_option linter.all false
set_option maxRecDepth 100000
set_option maxHeartbeats 3200000
set_option autoImplicit false
/-! The evaluator, part Bv: the call set(list of tuples). -/
namespace Ev
open PySem PySem.Spec PyProof.Rows L2 PySem.W
/-- a new set as the class makes it -/
abbrev bare (w : World) : Obj := { cls := .type "set", dict := none, data := .set #[] 0 (.fresh 0 0 (!w.params.followText "set-order")) }
theorem out_of {h : Heap} {b : Addr} (z : h.objs.size ≤ b) : h.get? b = none := by
  cases e : h.get? b with
  | none => rfl
  | some o => exact absurd (Nat.lt_of_lt_of_le (Heap.lt_size e) z) (Nat.lt_irrefl _)
section
variable {P : Program} {w : World} {A : Around} {E : Value → Shared → Prop} {s : Shared}
theorem call_set_big {l : Addr} {vs : Array Value} (ks : List (Addr × List Int)) {Q : Value → Shared → Prop} (nh : A.handled = none) (hl : s.heap.IsList l vs) (hv : vs.toList = ks.map fun p => Value.ref p.1)
    (hk : ∀ p ∈ ks, IsT P w s.heap p.2 p.1) (lt : ks.length ≤ 300) (hu : A.units + 3 < cLine)
    (fin : ∀ (h' : Heap) (tk : Nat) L es ep t, SetB P w h' s.heap.objs.size L es ep t → Got ks ks.length L → (∀ b o, s.heap.get? b = some o → h'.get? b = some o) → Q (.ref s.heap.objs.size) { s with heap := h', toks := tk }) :
    wpAny (model P w) A (call (.type "set") [.ref l]) Q E s := by
  have many : vs.size = ks.length := by rw [← Array.length_toList, hv, List.length_map]
  obtain ⟨_, _, mro⟩ := F.called_set.mro
  have m1 := F.called_set.made
  have m2 := F.called_set.sub
  refine wpAny_call (codeAny_of_tree ?_)
  show wpAny _ _ (callAny (.type "set") _) _ _ _
  refine wpAny_pure ⟨Code.quiet_builtin _ (by decide +kernel), codeAny_builtin F.entry_type_call ?_⟩
  rw [Around.under_plain (weight_type_call_type "set" [.ref l] []) rfl]
  have m3 := F.called_set.notType
  have m4 := F.called_set.canCreate
  have m5 := F.typeCall_set_1 (.ref l)
  repeat any_goals first | assumption | wp_step
  obtain ⟨h1, eh1⟩ : ∃ h1, h1 = s.heap.push (bare w) := ⟨_, rfl⟩
  refine codeAny_mono (code_set_led1 (.ref l) (E := E) (Q₁ := fun v s1 => v = .ref s.heap.objs.size ∧ s1 = { s with heap := h1 }) ⟨rfl, by rw [eh1]⟩) fun r s1 hr => ?_
  match r, hr with
  | .error e, hr => exact hr
  | .ok (.ret _), hr =>
    obtain ⟨rfl, rfl⟩ := hr
    have at1 : h1.get? s.heap.objs.size = some (bare w) := by rw [eh1]; exact Heap.get?_push_size _ rfl
    have old1 : ∀ b o, s.heap.get? b = some o → h1.get? b = some o := fun b o e => by rw [eh1]; exact Heap.get?_push_of_some _ e
    have size1 : h1.objs.size = s.heap.objs.size + 1 := by rw [eh1]; exact Heap.size_push ..
    have ty : Shared.TypeIs { s with heap := h1 } (.ref s.heap.objs.size) "set" := ⟨_, at1, rfl⟩
    have i1 := F.called_set.init.lookup
    have i2 := F.called_set.init.bind (.ref s.heap.objs.size)
    repeat any_goals first | assumption | wp_step
    refine codeAny_mono (codeAny_call_builtin (R := wants (fun v s2 => v = .none ∧ ∃ h' tk L es ep t, s2 = { s with heap := h', toks := tk } ∧ SetB P w h' s.heap.objs.size L es ep t ∧ Got ks ks.length L ∧ ∀ b o, s.heap.get? b = some o → h'.get? b = some o) E)
      F.called_set.init.plain F.entry_set_init (check_set_init_1 ty ?_)) fun r2 s2 hr2 => ?_
    · obtain ⟨ol, hol, cl, nl, dl⟩ := hl
      have lS : l < s.heap.objs.size := Heap.lt_size hol
      obtain ⟨oc, od, odt, osl⟩ := ol
      simp only at cl dl
      subst cl
      subst dl
      have hol1 := old1 l _ hol
      have s1 := F.sub_list_set
      have s2 := F.sub_list_frozenset
      have s3 : (Value.type "list" == Value.type "dict") = false := by decide
      have hl1 : h1.IsList l vs := ⟨_, hol1, rfl, nl, rfl⟩
      unfold Builtin.«set.__init__» noKeywords Builtin.Frozenset.updateFrom
      generalize epi : pyIter = PI
      wp_walk
      subst epi
      refine wpAny_pyIter_list hl1 (wpAny_bind (wpAny_runValue ?_))
      have nh3 : A.in1.in1.in1.handled = none := by simp [nh]
      have vals : ∀ (i : Nat) (v : Value), vs[i]? = some v → ∃ p, ks[i]? = some p ∧ v = .ref p.1 := fun i v e => by
        rw [← Array.getElem?_toList, hv, List.getElem?_map, Option.map_eq_some_iff] at e
        obtain ⟨p, e1, e2⟩ := e
        exact ⟨p, e1, e2.symm⟩
      have lI : l ≠ h1.objs.size := fun z => absurd (z ▸ lS) (Nat.not_lt.mpr (Nat.le_trans (Nat.le_succ _) (Nat.le_of_eq size1.symm)))
      refine update_big ((Walks.list nh3 _ l lI vs).toS) s.heap.objs.size (by simp only [List.mem_cons, List.not_mem_nil, or_false, not_or]; exact ⟨fun z => Nat.ne_of_lt (Nat.lt_succ_self _) (Eq.trans z size1), fun z => Nat.ne_of_gt lS z⟩) ks many lt vals s.heap hk (out_of (Nat.le_refl _))
        (fun b hb => out_of (by rw [List.mem_singleton.mp hb]; exact Nat.le_trans (Nat.le_succ _) (Nat.le_of_eq size1.symm))) hu vs.size 0 _ rfl ⟨⟨_, Heap.get?_push_size _ rfl, rfl, rfl⟩, hl1.push _⟩ (fun b o e => Heap.get?_push_of_some _ (old1 b o e)) ?start ?stop
      case start => exact ⟨[], #[], 0, _, setB_new (Heap.get?_push_of_some _ at1), Got.zero ks⟩
      case stop =>
        intro s' L es ep t hm R g q
        obtain ⟨h', gn, dr, tk, io⟩ := s'
        obtain rfl : gn = s.gens := hm.gens
        obtain rfl : dr = s.drawn := hm.drawn
        obtain rfl : io = s.os := hm.os
        rw [many] at g
        show wpAny _ _ _ _ _ _
        refine wpAny_pure ?_
        show wpAny _ _ (ret Value.none) _ _ _
        exact wpAny_pure ⟨rfl, h', tk, L, es, ep, t, rfl, R, g, q⟩
    · match r2, hr2 with
      | .error _, hr2 => exact hr2
      | .ok (.ret _), hr2 =>
        obtain ⟨rfl, h', tk, L, es, ep, t, rfl, R, g, q⟩ := hr2
        repeat any_goals first | assumption | wp_step
        exact fin _ _ _ _ _ _ R g q
      | .ok .next, hr2 => exact hr2.elim
      | .ok .brk, hr2 => exact hr2.elim
      | .ok .cont, hr2 => exact hr2.elim
  | .ok .next, hr => exact hr.elim
  | .ok .brk, hr => exact hr.elim
  | .ok .cont, hr => exact hr.elim
end
end Ev

set_option Elab.async false
set_option linter.all false
set_option maxRecDepth 100000
set_option maxHeartbeats 2000000
set_option autoImplicit false
/-! The evaluator, part V: sorted(set(..)) of tuples of ints. -/
namespace Ev
open PySem PySem.Spec PyProof.Rows L2 PySem.W
/-- the order of rows of ints -/
theorem rowLt_lex : ∀ xs ys : List Int, rowLt (xs.map .int) (ys.map .int) = HT.lexLt xs ys
  | [], [] => lex_irrefl _
  | [], y :: ys => by
    have e : rowLt [] (PyData.int y :: ys.map .int) = true := by
      unfold rowLt
      rw [toks_all_cons]
      simp only [keyToksAll]
      rw [lex_diff (O := itemOrd) (by simp)]
      rfl
    exact e
  | x :: xs, [] => by
    have e : rowLt (PyData.int x :: xs.map .int) [] = false := by
      unfold rowLt
      rw [toks_all_cons]
      simp only [keyToksAll]
      rw [lex_diff (O := itemOrd) (by simp)]
      rfl
    exact e
  | x :: xs, y :: ys => by
    show rowLt (PyData.int x :: xs.map .int) (PyData.int y :: ys.map .int) = _
    unfold rowLt
    rw [dataLt_cons (by simp [alike]), dataLt_int]
    simp only [PyData.eqv, beq_iff_eq]
    rw [HT.lexLt_cons]
    by_cases h : x = y
    · rw [if_pos h, if_pos h]
      exact rowLt_lex xs ys
    · rw [if_neg h, if_neg h]
theorem dataLt_rows (xs ys : List Int) : dataLt (.tuple (xs.map .int)) (.tuple (ys.map .int)) = HT.lexLt xs ys := by
  rw [dataLt_tuple]
  exact rowLt_lex xs ys
theorem lex_trans : ∀ {a b c : List Int}, HT.lexLt a b = true → HT.lexLt b c = true → HT.lexLt a c = true
  | [], [], _, h, _ => by cases h
  | [], _ :: _, [], _, h => by cases h
  | [], _ :: _, _ :: _, _, _ => rfl
  | _ :: _, [], _, h, _ => by cases h
  | _ :: _, _ :: _, [], _, h => by cases h
  | x :: a, y :: b, z :: c, h1, h2 => by
    rw [HT.lexLt_cons] at *
    by_cases e1 : x = y
    · subst e1
      by_cases e2 : x = z
      · subst e2
        simp only [if_true] at *
        exact lex_trans h1 h2
      · rw [if_neg e2] at *
        exact h2
    · rw [if_neg e1] at h1
      have h1 := of_decide_eq_true h1
      by_cases e2 : y = z
      · subst e2
        rw [if_neg e1]
        exact decide_eq_true h1
      · rw [if_neg e2] at h2
        have h2 := of_decide_eq_true h2
        have : x ≠ z := by omega
        rw [if_neg this]
        exact decide_eq_true (by omega)
theorem lex_tri : ∀ a b : List Int, HT.lexLt a b = true ∨ a = b ∨ HT.lexLt b a = true
  | [], [] => .inr (.inl rfl)
  | [], _ :: _ => .inl rfl
  | _ :: _, [] => .inr (.inr rfl)
  | x :: a, y :: b => by
    rw [HT.lexLt_cons, HT.lexLt_cons]
    by_cases e : x = y
    · subst e
      simp only [if_true]
      rcases lex_tri a b with h | h | h
      · exact .inl h
      · exact .inr (.inl (by rw [h]))
      · exact .inr (.inr h)
    · rw [if_neg e, if_neg (Ne.symm e)]
      by_cases h : x < y
      · exact .inl (decide_eq_true h)
      · exact .inr (.inr (decide_eq_true (by omega)))
theorem lex_irr : ∀ a : List Int, HT.lexLt a a = false
  | [] => rfl
  | x :: a => by rw [HT.lexLt_cons, if_pos rfl]; exact lex_irr a
/-- not more than -/
def leRow (a b : List Int) : Bool := !HT.lexLt b a
theorem leRow_trans (a b c : List Int) (h1 : leRow a b = true) (h2 : leRow b c = true) : leRow a c = true := by
  unfold leRow at *
  simp only [Bool.not_eq_true'] at *
  cases h : HT.lexLt c a with
  | false => rfl
  | true =>
    rcases lex_tri a b with q | q | q
    · rw [lex_trans h q] at h2; cases h2
    · subst q; rw [h] at h2; cases h2
    · rw [q] at h1; cases h1
theorem leRow_total (a b : List Int) : (leRow a b || leRow b a) = true := by
  unfold leRow
  rw [Bool.or_eq_true, Bool.not_eq_true', Bool.not_eq_true']
  rcases lex_tri a b with q | q | q
  · refine .inl ?_
    cases h : HT.lexLt b a with
    | false => rfl
    | true => have := lex_trans q h; rw [lex_irr] at this; cases this
  · subst q; exact .inl (lex_irr _)
  · refine .inr ?_
    cases h : HT.lexLt a b with
    | false => rfl
    | true => have := lex_trans q h; rw [lex_irr] at this; cases this
theorem leRow_anti {a b : List Int} (h1 : leRow a b = true) (h2 : leRow b a = true) : a = b := by
  unfold leRow at *
  rw [Bool.not_eq_true'] at *
  rcases lex_tri a b with q | q | q
  · rw [q] at h2; cases h2
  · exact q
  · rw [q] at h1; cases h1
def sortRows (rs : List (List Int)) : List (List Int) := rs.mergeSort leRow
theorem sortRows_uniq {a b : List (List Int)} (h : a.Pairwise fun x y => leRow x y = true) (p : a.Perm b) : a = sortRows b :=
  List.Perm.eq_of_pairwise (le := fun x y => leRow x y = true) (fun _ _ _ _ => leRow_anti) h (List.pairwise_mergeSort leRow_trans leRow_total b) (p.trans (List.mergeSort_perm b leRow).symm)

theorem readsAll_ints {h : Heap} : ∀ {k : List Int} {vs : List Value}, IntsAre vs k → ReadsAll h vs (k.map .int) []
  | [], _, .nil => .nil
  | n :: k, _, .cons _ t r => ReadsAll.cons (as := []) (.int n t) (readsAll_ints r)
theorem reads_isT {P : Program} {w : World} {h : Heap} {k : List Int} {b : Addr} (x : IsT P w h k b) : Reads h (.ref b) (.tuple (k.map .int)) [] := by
  obtain ⟨o, items, n, ho, hc, hd, hi⟩ := x
  exact .tuple ho hc hd (readsAll_ints (ints_of_items hi))
theorem alike_rows (a b : List Int) : alike (.tuple (a.map .int)) (.tuple (b.map .int)) = true := by
  have := alike_ints a b
  simpa [alike] using this
theorem depth_row (k : List Int) : (PyData.tuple (k.map .int)).depth = 1 := by
  rw [PyData.depth, depth_ints]
section
variable {P : Program} {w : World} {A : Around} {E : Value → Shared → Prop} {s : Shared}
theorem sorted_setG {a : Addr} {L : List (Addr × List Int)} {es : Array (Int × Value)} {ep : Nat} {t : SetTable} {Q : Value → Shared → Prop} (R : SetB P w s.heap a L es ep t) (hh : A.handled = none) (hne : ∀ p ∈ L, p.2 ≠ []) (hu : A.units + 66 < cLine)
    (hQ : ∀ s' p (out : List Value) (c : Nat) (L' : List (Addr × List Int)), (∀ b o, s.heap.get? b = some o → s'.heap.get? b = some o) → s'.gens = s.gens → s'.os = s.os → s.heap.objs.size ≤ p →
      s'.heap.get? p = some (seqObj "list" out.toArray c) → out = L'.map (fun q => Value.ref q.1) → L'.Perm L → L'.Pairwise (fun q r => leRow q.2 r.2 = true) → Q (.ref p) s') :
    wpAny (model P w) A (call (.builtin "sorted") [.ref a]) Q E s := by
  obtain ⟨o, ho, hex, hd⟩ := R.obj
  have hsz := R.size
  have hfew := R.lot
  refine Calls.call_function_entry kind_sorted plain_sorted entry_sorted (args_sorted1 _) ?_
  unfold Builtin.«sorted»
  refine wpAny_bind (m := checkCount "sorted" 1 1 _) (wpAny_pure ?_)
  refine wpAny_bind (collect_set (A := A.in1) hh ⟨o, ho, hex.1, hd⟩ R.fits (by unfold scanBound; omega) R.tab.asc R.ld fun s1 vs k1 hz g1 o1 pm => ?_)
  have hes : es.toList.map (·.2) = L.map fun q => Value.ref q.1 := by
    rw [R.ent]
    unfold L2.rowsOf
    rw [List.map_map] <;> rfl
  rw [hes] at pm
  have ord : ∀ vs : List Value, (∀ v ∈ vs, ∃ q ∈ L, v = Value.ref q.1) → ∃ L1 : List (Addr × List Int), vs = L1.map (fun q => Value.ref q.1) ∧ ∀ q ∈ L1, q ∈ L := by
    intro vs
    induction vs with
    | nil => intro _; exact ⟨[], rfl, fun q hq => (by cases hq)⟩
    | cons v vs ih =>
      intro hv
      obtain ⟨q, hq, e⟩ := hv v List.mem_cons_self
      obtain ⟨L1, e1, hs⟩ := ih fun u hu => hv u (List.mem_cons_of_mem _ hu)
      refine ⟨q :: L1, by rw [List.map_cons, e, e1], fun r hr => ?_⟩
      rcases List.mem_cons.mp hr with z | z
      · rw [z]; exact hq
      · exact hs r z
  have one : ∀ q ∈ L, ∀ r ∈ L, q.1 = r.1 → q = r := fun q hq r hr e => by
    have a1 := R.are q hq
    have a2 := R.are r hr
    rw [e] at a1
    have e2 : q.2 = r.2 := a1.inj a2
    exact Prod.ext e e2
  have perm_of : ∀ L1 : List (Addr × List Int), (∀ q ∈ L1, q ∈ L) → (L1.map (fun q => Value.ref q.1)).Perm (L.map fun q => Value.ref q.1) → L1.Perm L := by
    intro L1 hs pm1
    have nL : L.Nodup := nodup_of_map R.uniq
    have nref : (L.map fun q => Value.ref q.1).Nodup := by
      refine List.pairwise_map.mpr (List.Pairwise.imp_of_mem (fun {q r} hq hr hne e => ?_) nL)
      injection e with e
      exact hne (one q hq r hr e)
    have n1 : L1.Nodup := nodup_of_map (pm1.nodup_iff.mpr nref)
    refine (List.perm_ext_iff_of_nodup n1 nL).mpr fun q => ⟨hs q, fun hq => ?_⟩
    have hm : Value.ref q.1 ∈ L1.map (fun q => Value.ref q.1) := pm1.mem_iff.mpr (List.mem_map.mpr ⟨q, hq, rfl⟩)
    obtain ⟨r, hr, e⟩ := List.mem_map.mp hm
    injection e with e
    rw [← one r (hs r hr) q hq e]
    exact hr
  obtain ⟨L1, e1, hs1⟩ := ord vs fun v hv => by
    obtain ⟨q, hq, e⟩ := List.mem_map.mp (pm.mem_iff.mp hv)
    exact ⟨q, hq, e.symm⟩
  have p1 : L1.Perm L := perm_of L1 hs1 (by rw [← e1]; exact pm)
  have hvl : L1.length ≤ 300 := by rw [p1.length_eq]; exact hfew
  have hvs : vs.length = L1.length := by rw [e1, List.length_map]
  refine wpAny_bind (wpAny_newList ?_ (by rw [sizeLine_eq]; omega))
  have hoL : (s1.heap.push (seqObj "list" vs.toArray 0)).get? s1.heap.objs.size = some (seqObj "list" vs.toArray 0) := Heap.get?_push_size _ rfl
  have each : EachIs (fun v (q : Addr × List Int) => v = Value.ref q.1) vs L1 := by
    rw [e1]
    clear e1 hs1 p1 hvl hvs hoL pm
    induction L1 with
    | nil => exact .nil
    | cons q L1 ih => exact .cons rfl ih
  have er : EachIs (fun v (q : Addr × List Int) => ∃ as, Reads (s1.heap.push (seqObj "list" vs.toArray 0)) v (PyData.tuple (q.2.map .int)) as ∧ s1.heap.objs.size ∉ as) vs L1 :=
    (each_mem each).mono fun v q ⟨h1, h2⟩ => by
      subst h1
      exact ⟨[], reads_isT (isT_keep (R.are q (hs1 q h2)) fun b u e => Heap.get?_push_of_some _ (k1 b u e)), by simp⟩
  refine wpAny_bind (wpAny_holding (list_sort_data (A := A.in1) (s := { s1 with heap := s1.heap.push (seqObj "list" vs.toArray 0) }) (enc := fun q : Addr × List Int => PyData.tuple (q.2.map .int)) hoL each er
    (AllAlike.of fun _ _ => alike_rows _ _) (Or.inl fun d hd => ?_) (by rw [sizeLine_eq]; omega) (fun b _ => ?_) fun out a1 a2 => ?_))
  · obtain ⟨q, hq, rfl⟩ := List.mem_map.mp hd
    have := hne q (hs1 q hq)
    cases h : q.2 with
    | nil => exact absurd h this
    | cons x r => exact ⟨.int x, r.map .int, rfl⟩
  · rw [depth_row]
    show A.units + 1 + 1 + 1 < _
    omega
  · obtain ⟨c, hc⟩ := sortedHeap_at (vs := vs) (out := out.toArray) hoL
    have e' : out = (L1.mergeSort (dataLe false fun q : Addr × List Int => PyData.tuple (q.2.map .int))).map (fun q => Value.ref q.1) := by
      generalize L1.mergeSort (dataLe false fun q : Addr × List Int => PyData.tuple (q.2.map .int)) = M at a2
      clear a1 hc er each e1 pm hvs hoL
      induction a2 with
      | nil => rfl
      | cons h _ ih => rw [List.map_cons, ← ih, h]
    have hle : (dataLe false fun q : Addr × List Int => PyData.tuple (q.2.map .int)) = fun q r => leRow q.2 r.2 := by
      rw [dataLe_eq]
      funext q r
      show (!dataLt _ _) = _
      rw [dataLt_rows]
      rfl
    rw [hle] at e'
    refine wpAny_pure ⟨_, rfl, hQ _ s1.heap.objs.size out c _ (fun b u e => ?_) g1 o1 hz hc e' ((List.mergeSort_perm _ _).trans p1) (List.pairwise_mergeSort (le := fun q r : Addr × List Int => leRow q.2 r.2) (fun a b c => leRow_trans a.2 b.2 c.2) (fun a b => leRow_total a.2 b.2) L1)⟩
    have q := k1 b u e
    have hlt := Heap.lt_size q
    show (sortedHeap (s1.heap.push (seqObj "list" vs.toArray 0)) s1.heap.objs.size vs out.toArray).get? b = some u
    rw [sortedHeap_old (Nat.ne_of_lt hlt) (by rw [size_push']; exact Nat.lt_succ_of_lt hlt)]
    exact Heap.get?_push_of_some _ q
end

theorem rows_of {K : FragK} {al : List Addr} {F : Addr → Prop} {H : Hp} : ∀ {ds : List D} {ws : List V} {rs : List (List Int)}, Rps K al F H ds ws → rowsD ds = some rs → ∃ ks : List (Addr × List Int), ws = ks.map (fun p => V.ref p.1) ∧ (∀ p ∈ ks, SqT K H p.1 (p.2.map V.int) ∧ p.2.length ≤ sizeLine) ∧ ks.map (·.2) = rs
  | [], ws, rs, r, e => by
    obtain rfl : ws = [] := r
    rw [rowsD] at e
    cases e
    exact ⟨[], rfl, fun p h => (by cases h), rfl⟩
  | d :: ds, ws, rs, r, e => by
    obtain ⟨w, r0, rfl, r1, r2⟩ := r
    cases d with
    | tup xs =>
      rw [rowsD] at e
      split at e
      · rename_i x xs' h1 h2
        cases e
        obtain ⟨ks, e1, e2, e3⟩ := rows_of r2 h2
        obtain ⟨a, vs, rfl, q, z, t⟩ := r1
        have ev := t.ints h1
        subst ev
        refine ⟨(a, x) :: ks, by rw [e1]; rfl, fun p hp => ?_, by rw [List.map_cons, e3]⟩
        rcases List.mem_cons.mp hp with h | h
        · rw [h]; exact ⟨q, by rw [List.length_map] at z; exact z⟩
        · exact e2 p h
      · cases e
    | _ => simp [rowsD] at e
theorem rps_rows {K : FragK} {al : List Addr} {F : Addr → Prop} {H : Hp} : ∀ {L : List (Addr × List Int)}, (∀ p ∈ L, SqT K H p.1 (p.2.map V.int) ∧ p.2.length ≤ sizeLine) → Rps K al F H ((L.map (·.2)).map rowD) (L.map fun p => V.ref p.1)
  | [], _ => rfl
  | p :: L, h => ⟨V.ref p.1, _, rfl, ⟨p.1, p.2.map V.int, rfl, (h p List.mem_cons_self).1, by rw [List.length_map]; exact (h p List.mem_cons_self).2, Rps.int_of p.2⟩, rps_rows fun q hq => h q (List.mem_cons_of_mem _ hq)⟩
theorem nodup_dups {α : Type} [BEq α] [LawfulBEq α] : ∀ (n : Nat) (l : List α), l.length ≤ n → l.eraseDups.Nodup
  | _, [], _ => by simp
  | 0, _ :: _, h => absurd h (by simp)
  | n + 1, a :: l, h => by
    rw [List.eraseDups_cons, List.nodup_cons]
    refine ⟨fun m => ?_, nodup_dups n _ (Nat.le_trans (List.length_filter_le _ _) (by simpa using h))⟩
    rw [List.mem_eraseDups, List.mem_filter] at m
    simp at m
/-- sorted(set(a)) -/
def tSS (K : FragK) (ta : TE) : TE := fun σ H Q => ta σ H fun x H1 => ∃ (l : Addr) (ks : List (Addr × List Int)), x = .ref l ∧ SqL K H1 l (ks.map fun p => V.ref p.1) ∧ (∀ p ∈ ks, SqT K H1 p.1 (p.2.map V.int)) ∧ ks.length ≤ 300 ∧ (∀ p ∈ ks, p.2 ≠ []) ∧
  ∀ (L : List (Addr × List Int)) (p : Addr), (∀ q ∈ L, q ∈ ks) → L.map (·.2) = sortRows (ks.map (·.2)).eraseDups → L.length ≤ 300 → H1 p = none → Q (.ref p) (upd H1 p (.lst (L.map fun q => V.ref q.1)))
theorem pe_ss {X : Cx} {a : Expr} {ta : TE} {p p2 q pos : Pos} (hc : X.calm = true) (hu : X.A.units + 100 < cLine) (hg : Gl X "sorted") (hm : X.mg "sorted" = none) (hg2 : Gl X "set") (hm2 : X.mg "set" = none) (ha : PE X a ta)
    (na : starEach [a] X.env = (false, eval a X.env) :: starEach [] X.env) : PE X (.Call (.Name "sorted" p) [.Call (.Name "set" p2) [a] [] q] [] pos) (tSS X.K ta) := by
  refine ⟨fun pins s σ H Q I h => ?_⟩
  refine Call_ (ld_blt I hg hm boot_sorted ?_)
  refine PyProof.Rows.callWith_builtin1 (PyProof.Rows.args_cons ?_ rfl) rfl rfl
  refine Call_ (ld_blt I hg2 hm2 boot_set ?_)
  refine PyProof.Rows.callWith_type1 (PyProof.Rows.args_cons (thn (ha.run pins s σ H _ I h) fun v s1 ⟨x, H1, I1, r1, q1⟩ => PyProof.Rows.args_nil ?_) na) na rfl
  obtain ⟨l, ks, rfl, hl, hk, hf, hne, q1⟩ := q1
  cases r1
  obtain ⟨its, rv, pl, hz⟩ := I1.list hl
  refine call_set_big (P := X.prog) (w := X.w) ks (I1.ok.hd hc) pl.isList (by simpa using refs_of_vals rv) (fun p hp => I1.isT (hk p hp)) hf (by omega) fun h' tk L es ep t R g k => ?_
  refine PyProof.Rows.args_nil ?_
  have hsub : ∀ p ∈ L, p ∈ ks := fun p hp => List.mem_of_mem_take (g.sub p hp)
  have I2 : Inv X pins σ H1 { s1 with heap := h', toks := tk } := I1.kept k
  refine sorted_setG R (I1.ok.hd hc) (fun p hp => hne p (hsub p hp)) (by omega) fun s' p out c L' k2 g2 o2 hp hg hout pm pw => ?_
  have hfew : L'.length ≤ 300 := by rw [pm.length_eq]; exact R.lot
  have hlen : (L'.map fun q => V.ref q.1).length ≤ sizeLine := by rw [List.length_map, sizeLine_eq]; omega
  have hn : H1 p = none := I2.hok.fresh hp
  have hv : Vals (L'.map fun q => V.ref q.1) out := by rw [hout]; exact vals_of_refs L'
  have kk : ∀ b u, s1.heap.get? b = some u → s'.heap.get? b = some u := fun b u e => k2 b u (k b u e)
  have hp1 : s1.heap.objs.size ≤ p := by
    obtain ⟨o, ho, _⟩ := R.obj
    exact Nat.le_trans (Nat.le_of_lt (Heap.lt_size ho)) hp
  have J : Inv X pins σ (upd H1 p (.lst (L'.map fun q => V.ref q.1))) { s1 with heap := s'.heap, gens := s'.gens, drawn := s'.drawn, toks := s'.toks } :=
    I1.call (ch := []) (Un.laid kk hp1 hn) (I1.hok.laid kk hp1 ⟨hlen, out, c, hv, hg⟩) (by rw [g2]; exact I1.bare) (fun _ z => nomatch z)
  have e : s' = { s1 with heap := s'.heap, gens := s'.gens, drawn := s'.drawn, toks := s'.toks } := by
    cases s'
    cases s1
    cases o2
    rfl
  rw [e]
  have nd : (L'.map (·.2)).Nodup := (pm.map (·.2)).nodup_iff.mpr R.uniq
  refine ⟨.ref p, _, J, rfl, q1 L' p (fun q hq => hsub q (pm.mem_iff.mp hq)) (sortRows_uniq (List.pairwise_map.mpr pw) ?_) hfew hn⟩
  refine (List.perm_ext_iff_of_nodup nd (nodup_dups _ _ (Nat.le_refl _))).mpr fun r => ?_
  rw [List.mem_eraseDups, (pm.map (·.2)).mem_iff]
  constructor
  · intro hr
    obtain ⟨q, hq, rfl⟩ := List.mem_map.mp hr
    exact List.mem_map.mpr ⟨q, hsub q hq, rfl⟩
  · intro hr
    obtain ⟨q, hq, rfl⟩ := List.mem_map.mp hr
    exact g.all q (by rw [List.take_length]; exact hq)

theorem fx_ss {X : Cx} {G : Gf} {a : Expr} {ea : E} {p p2 q pos : Pos} (hc : X.calm = true) (hu : X.A.units + 100 < cLine) (hg : Gl X "sorted") (hm : X.mg "sorted" = none) (hg2 : Gl X "set") (hm2 : X.mg "set" = none) (ha : PE X a (tD X.K (den G ea)))
    (na : starEach [a] X.env = (false, eval a X.env) :: starEach [] X.env) (hs : ea.isStar = false) : PE X (.Call (.Name "sorted" p) [.Call (.Name "set" p2) [a] [] q] [] pos) fun σ H Q => ∃ O al s, EnvR X.K O al s σ H ∧ After X.K O al s σ H (den G (.bi .sortset [ea]) s) fun d al' s' H' => ∃ ds, d = .lst ds ∧
      ∀ p vs, H' p = none → KOff X.K (upd H' p (.lst vs)) → Rps X.K al' (Forb O al' s'.cs) H' ds vs → vs.length ≤ sizeLine → Q (.ref p) (upd H' p (.lst vs)) :=
  (pe_ss hc hu hg hm hg2 hm2 ha na).off fun σ H Q _ ⟨O, al, s, env, h⟩ => by
    rw [den, denL] at h
    simp only [hs, Bool.false_eq_true, if_false, denL, Ev.R.bind_ok] at h
    refine ⟨O, al, s, env, (After.bind (After.bind h)).imp fun x al1 s1 H1 st1 env1 h1 v rx => ?_⟩
    have h1 := After.ok h1 env1
    simp only [biD, bi1] at h1
    cases e : sortsetD s1.cs x with
    | none => rw [e] at h1; exact h1.elim
    | some d =>
      rw [e] at h1
      unfold sortsetD at e
      split at e
      · rename_i rs er
        split at e
        · rename_i hb
          cases e
          simp only [Bool.and_eq_true, decide_eq_true_eq] at hb
          simp only [Option.bind_eq_some_iff] at er
          obtain ⟨ds, h2, h3⟩ := er
          obtain ⟨l, ws, rfl, sq, z, t⟩ := lst_of env1 rx h2
          obtain ⟨ks, rfl, e2, rfl⟩ := rows_of t h3
          obtain ⟨ds', e', fin⟩ := After.ok h1 env1
          refine ⟨l, ks, rfl, sq, fun p hp => (e2 p hp).1, by simpa using hb.1, fun p hp => ?_, fun L p hL eL hf hp ko => ?_⟩
          · have := List.all_eq_true.mp hb.2 p.2 (List.mem_map.mpr ⟨p, hp, rfl⟩)
            intro q
            rw [q] at this
            exact absurd this (by decide)
          · have rl := rps_rows (al := al1) (F := Forb O al1 s1.cs) (L := L) fun q hq => e2 q (hL q hq)
            rw [eL] at rl
            cases e'
            exact fin p _ hp ko rl (by rw [List.length_map, sizeLine_eq]; omega)
        · cases e
      · cases e
end Ev

set_option Elab.async false
set_option linter.all false
set_option maxRecDepth 100000
set_option maxHeartbeats 1000000
set_option autoImplicit false
/-! The evaluator, part X: expressions. -/
namespace Ev
open PySem PySem.Spec PyProof.Rows L2

/-! ### cells -/
section
variable {K : FragK} {O : Addr → Prop} {al : List Addr} {cs : Cs} {H : Hp}
theorem al_lt (c : Cel K O al cs H) {n : Nat} {a : Addr} (h : al[n]? = some a) : n < cs.length := by rw [← c.len]; exact (List.getElem?_eq_some_iff.mp h).1
theorem al_inj (c : Cel K O al cs H) {m n : Nat} {a : Addr} (h : al[m]? = some a) (h' : al[n]? = some a) : m = n := by
  obtain ⟨h1, e1⟩ := List.getElem?_eq_some_iff.mp h
  obtain ⟨h2, e2⟩ := List.getElem?_eq_some_iff.mp h'
  exact (List.getElem_inj c.nd).mp (e1.trans e2.symm)
theorem koff_upd {a : Addr} {o : HO} (ko : KOff K H) (h : H a ≠ none) : KOff K (upd H a o) := fun b q e => by
  have hb := ko b q e
  rw [upd_ne (fun z => h (by rw [← z]; exact hb))]
  exact hb
theorem set_live {n : Nat} {d d' : D} (h : cs[n]? = some (true, d)) : ∀ a, Liv al (cs.set n (true, d')) a ↔ Liv al cs a := by
  intro a
  have hn : n < cs.length := (List.getElem?_eq_some_iff.mp h).1
  constructor
  · rintro ⟨m, e, h1, h2⟩
    by_cases q : n = m
    · subst q
      exact ⟨n, d, h, h2⟩
    · rw [List.getElem?_set_ne q] at h1
      exact ⟨m, e, h1, h2⟩
  · rintro ⟨m, e, h1, h2⟩
    by_cases q : n = m
    · subst q
      exact ⟨n, d', by rw [List.getElem?_set_self hn], h2⟩
    · exact ⟨m, e, by rw [List.getElem?_set_ne q]; exact h1, h2⟩
def LowCs (cs : Cs) : Prop := ∀ (n : Nat) (b : Bool) (ds : List D), cs[n]? = some (b, .lst ds) → lowDs n ds = true
theorem low_set {n : Nat} {ds' : List D} {b0 : Bool} (l : LowCs cs) (hn : n < cs.length) (lw : lowDs n ds' = true) : LowCs (cs.set n (b0, .lst ds')) := by
  intro m b xs h
  by_cases q : n = m
  · subst q
    rw [List.getElem?_set_self hn] at h
    cases h
    exact lw
  · rw [List.getElem?_set_ne q] at h
    exact l m b xs h
theorem low_frz {n : Nat} {b0 b1 : Bool} {d : D} (l : LowCs cs) (h0 : cs[n]? = some (b0, d)) : LowCs (cs.set n (b1, d)) := by
  intro m b xs h
  by_cases q : n = m
  · subst q
    rw [List.getElem?_set_self (List.getElem?_eq_some_iff.mp h0).1] at h
    cases h
    exact l n b0 xs h0
  · rw [List.getElem?_set_ne q] at h
    exact l m b xs h
theorem low_new {ds : List D} (l : LowCs cs) (lw : lowDs cs.length ds = true) : LowCs (cs ++ [(true, .lst ds)]) := by
  intro m b xs h
  by_cases q : m < cs.length
  · rw [List.getElem?_append_left q] at h
    exact l m b xs h
  · rw [List.getElem?_append_right (by omega)] at h
    cases k : m - cs.length with
    | zero =>
      rw [k] at h
      have e : (true, D.lst ds) = (b, D.lst xs) := by simpa using h
      cases e
      have : m = cs.length := by omega
      rw [this]
      exact lw
    | succ k' => rw [k] at h; simp at h
/-- a cell's list is changed -/
theorem cell_set (c : Cel K O al cs H) {n : Nat} {a : Addr} {ds ds' : List D} {vs' : List V} (h : cs[n]? = some (true, .lst ds)) (ha : al[n]? = some a) (r : Rps K al (Forb O al cs) H ds' vs') (z : vs'.length ≤ sizeLine) (lw : lowDs n ds' = true) :
    Cel K O al (cs.set n (true, .lst ds')) (upd H a (.lst vs')) ∧ Stp al cs H al (cs.set n (true, .lst ds')) (upd H a (.lst vs')) := by
  have hn : n < cs.length := (List.getElem?_eq_some_iff.mp h).1
  have la : Liv al cs a := ⟨n, _, h, ha⟩
  obtain ⟨vs0, e0, z0, _⟩ := c.cell n _ _ a h ha
  have lv := set_live (al := al) (d' := .lst ds') h
  have fb : ∀ x, Forb O al (cs.set n (true, .lst ds')) x ↔ Forb O al cs x := fun x => by unfold Forb; rw [lv]
  have keep : ∀ x o, ¬ Forb O al cs x → H x = some o → upd H a (.lst vs') x = some o := fun x o nf e => by rw [upd_ne (fun q => nf (by rw [q]; exact .inr la))]; exact e
  have mu' : ∀ x, Mut (H x) → Mut (upd H a (.lst vs') x) := fun x m => by
    by_cases q : x = a
    · rw [q, upd_same]; trivial
    · rw [upd_ne q]; exact m
  have ko := koff_upd (o := .lst vs') c.koff (show H a ≠ none by rw [e0]; simp)
  have tr : ∀ (xs : List D) (ws : List V), Rps K al (Forb O al cs) H xs ws → Rps K al (Forb O al (cs.set n (true, .lst ds'))) (upd H a (.lst vs')) xs ws := fun xs ws q =>
    Rps.keep (List.prefix_refl _) keep (fun x f => .inl ((fb x).mp f)) (fun _ => c.mut) (fun x f => mu' x (c.mut ((fb x).mp f))) ko xs ws q
  refine ⟨⟨by rw [List.length_set]; exact c.len, c.nd, fun m b d x h1 h2 => ?_, ko, fun x ox => ⟨mu' x (c.om x ox).1, (c.om x ox).2⟩, fun m b xs h1 => low_set c.low hn lw m b xs h1⟩, ⟨List.prefix_refl _, fun x o nl e => ?_, fun x q => .inl ((lv x).mp q)⟩⟩
  · by_cases q : n = m
    · subst q
      rw [List.getElem?_set_self hn] at h1
      cases h1
      rw [ha] at h2
      cases h2
      exact ⟨vs', upd_same, z, tr ds' vs' r⟩
    · rw [List.getElem?_set_ne q] at h1
      have x0 := c.cell m b d x h1 h2
      have nx : x ≠ a := fun e => q (al_inj c ha (by rw [← e]; exact h2))
      cases d with
      | lst xs =>
        obtain ⟨ws, e, zz, rr⟩ := x0
        exact ⟨ws, by rw [upd_ne nx]; exact e, zz, tr xs ws rr⟩
      | _ => exact False.elim x0
  · rw [upd_ne (fun q => nl (by rw [q]; exact la))]
    exact e
/-- a cell is frozen -/
theorem cell_frz (c : Cel K O al cs H) {n : Nat} {a : Addr} {b : Bool} {d : D} (h : cs[n]? = some (b, d)) (ha : al[n]? = some a) :
    Cel K O al (cs.set n (false, d)) H ∧ Stp al cs H al (cs.set n (false, d)) H ∧ ¬ Liv al (cs.set n (false, d)) a := by
  have hn : n < cs.length := (List.getElem?_eq_some_iff.mp h).1
  have lv : ∀ x, Liv al (cs.set n (false, d)) x → Liv al cs x := by
    rintro x ⟨m, e, h1, h2⟩
    by_cases q : n = m
    · subst q
      rw [List.getElem?_set_self hn] at h1
      cases h1
    · rw [List.getElem?_set_ne q] at h1
      exact ⟨m, e, h1, h2⟩
  have fb : ∀ x, Forb O al (cs.set n (false, d)) x → Forb O al cs x := fun x f => f.elim .inl fun q => .inr (lv x q)
  have tr : ∀ (xs : List D) (ws : List V), Rps K al (Forb O al cs) H xs ws → Rps K al (Forb O al (cs.set n (false, d))) H xs ws := fun xs ws q =>
    Rps.keep (List.prefix_refl _) (fun _ _ _ e => e) (fun x f => .inl (fb x f)) (fun _ => c.mut) (fun x f => c.mut (fb x f)) c.koff xs ws q
  refine ⟨⟨by rw [List.length_set]; exact c.len, c.nd, fun m b' d' x h1 h2 => ?_, c.koff, fun x ox => c.om x ox, fun m b' xs h1 => low_frz c.low h m b' xs h1⟩, ⟨List.prefix_refl _, fun _ _ _ e => e, fun x q => .inl (lv x q)⟩, ?_⟩
  · have x0 : CellOk K al (Forb O al cs) H x d' := by
      by_cases q : n = m
      · subst q
        rw [List.getElem?_set_self hn] at h1
        cases h1
        exact c.cell n b _ x h h2
      · rw [List.getElem?_set_ne q] at h1
        exact c.cell m b' d' x h1 h2
    cases d' with
    | lst xs =>
      obtain ⟨ws, e, zz, rr⟩ := x0
      exact ⟨ws, e, zz, tr xs ws rr⟩
    | _ => exact False.elim x0
  · rintro ⟨m, e, h1, h2⟩
    obtain rfl := al_inj c ha h2
    rw [List.getElem?_set_self hn] at h1
    cases h1
/-- a new cell -/
theorem cell_new (c : Cel K O al cs H) {p : Addr} {ds : List D} {vs : List V} (hp : H p = none) (ko : KOff K (upd H p (.lst vs))) (r : Rps K al (Forb O al cs) H ds vs) (z : vs.length ≤ sizeLine) (lw : lowDs cs.length ds = true) :
    Cel K O (al ++ [p]) (cs ++ [(true, .lst ds)]) (upd H p (.lst vs)) ∧ Stp al cs H (al ++ [p]) (cs ++ [(true, .lst ds)]) (upd H p (.lst vs)) := by
  have np : p ∉ al := fun q => mut_none (c.there q) hp
  have lv : ∀ x, Liv (al ++ [p]) (cs ++ [(true, .lst ds)]) x → Liv al cs x ∨ x = p := by
    rintro x ⟨m, e, h1, h2⟩
    by_cases q : m < cs.length
    · rw [List.getElem?_append_left q] at h1
      rw [List.getElem?_append_left (by rw [c.len]; exact q)] at h2
      exact .inl ⟨m, e, h1, h2⟩
    · rw [List.getElem?_append_right (by rw [c.len]; omega)] at h2
      have : m - al.length = 0 := by
        cases k : m - al.length with
        | zero => rfl
        | succ k' => rw [k] at h2; simp at h2
      rw [this] at h2
      exact .inr (by simpa using h2.symm)
  have lv2 : ∀ x, Liv al cs x → Liv (al ++ [p]) (cs ++ [(true, .lst ds)]) x := by
    rintro x ⟨m, e, h1, h2⟩
    exact ⟨m, e, by rw [List.getElem?_append_left (List.getElem?_eq_some_iff.mp h1).1]; exact h1, by rw [List.getElem?_append_left (List.getElem?_eq_some_iff.mp h2).1]; exact h2⟩
  have frb : ∀ x, Forb O (al ++ [p]) (cs ++ [(true, .lst ds)]) x → Forb O al cs x ∨ H x = none := fun x f => by
    rcases f with f | f
    · exact .inl (.inl f)
    · rcases lv x f with q | q
      · exact .inl (.inr q)
      · exact .inr (by rw [q]; exact hp)
  have mu' : ∀ x, Forb O (al ++ [p]) (cs ++ [(true, .lst ds)]) x → Mut (upd H p (.lst vs) x) := fun x f => by
    by_cases q : x = p
    · rw [q, upd_same]; trivial
    · rw [upd_ne q]
      rcases f with f | f
      · exact (c.om x f).1
      · rcases lv x f with w | w
        · exact c.mutL w
        · exact absurd w q
  have tr : ∀ (xs : List D) (ws : List V), Rps K al (Forb O al cs) H xs ws → Rps K (al ++ [p]) (Forb O (al ++ [p]) (cs ++ [(true, .lst ds)])) (upd H p (.lst vs)) xs ws := fun xs ws q =>
    Rps.keep (List.prefix_append _ _) (fun x o _ e => upd_keep hp x o e) frb (fun _ => c.mut) mu' ko xs ws q
  refine ⟨⟨by simp [c.len], List.nodup_append.mpr ⟨c.nd, by simp, fun x hx y hy => by rcases List.mem_singleton.mp hy with rfl; exact fun e => np (e ▸ hx)⟩, fun m b d x h1 h2 => ?_, ko, fun x ox => ⟨mut_keep (upd_keep hp) (c.om x ox).1, fun q => ?_⟩, fun m b xs h1 => low_new c.low lw m b xs h1⟩,
    ⟨List.prefix_append _ _, fun x o _ e => upd_keep hp x o e, fun x f => (lv x f).elim .inl fun q => .inr (by rw [q]; exact hp)⟩⟩
  · by_cases q : m < cs.length
    · rw [List.getElem?_append_left q] at h1
      rw [List.getElem?_append_left (by rw [c.len]; exact q)] at h2
      have x0 := c.cell m b d x h1 h2
      cases d with
      | lst xs =>
        obtain ⟨ws, e, zz, rr⟩ := x0
        exact ⟨ws, upd_keep hp _ _ e, zz, tr xs ws rr⟩
      | _ => exact False.elim x0
    · rw [List.getElem?_append_right (by omega)] at h1
      rw [List.getElem?_append_right (by rw [c.len]; omega), c.len] at h2
      cases k : m - cs.length with
      | zero =>
        rw [k] at h1 h2
        have e1 : (true, D.lst ds) = (b, d) := by simpa using h1
        have e2 : p = x := by simpa using h2
        cases e1
        subst e2
        exact ⟨vs, upd_same, z, tr ds vs r⟩
      | succ k' => rw [k] at h1; simp at h1
  · rcases List.mem_append.mp q with w | w
    · exact (c.om x ox).2 w
    · exact mut_none (c.om x ox).1 (by rw [List.mem_singleton.mp w]; exact hp)
end

/-! ### judgements -/
theorem _root_.L2.PT.imp {X : Cx} {e : Expr} {t t' : TT} (h : PT X e t) (i : ∀ σ H Q, KOff X.K H → t' σ H Q → t σ H Q) : PT X e t' := ⟨fun pins s σ H Q I q => h.run pins s σ H Q I (i σ H Q (koff_of I) q)⟩
structure EX (X : Cx) (e : Expr) (de : M D) : Prop where
  pe : PE X e (tD X.K de)
  pt : PT X e (tT X.K de)
def PlainT (X : Cx) (e : Expr) : Prop := ∀ whole, isTrue e X.env whole = (do let v ← whole; standAt e.pos; holding [v] (truthy v))
theorem EX.plain {X : Cx} {e : Expr} {de : M D} (pe : PE X e (tD X.K de)) (he : PlainT X e) : EX X e de :=
  ⟨pe, (pt_val pe he).imp fun σ H Q _ ⟨O, al, s, env, h⟩ => ⟨O, al, s, env, h.imp fun d al' s' H' _ _ ⟨b, e, q⟩ v rv => by
    subst e
    obtain rfl : v = .bl b := rv
    exact ⟨b, rfl, q⟩⟩⟩
/-- a new list, nobody's yet -/
def tF (K : FragK) (de : M D) : TE := fun σ H Q => ∃ O al s, EnvR K O al s σ H ∧ After K O al s σ H (de s) fun d al' s' H' => ∃ ds, d = .lst ds ∧ ∀ p vs, H' p = none → KOff K (upd H' p (.lst vs)) → Rps K al' (Forb O al' s'.cs) H' ds vs → vs.length ≤ sizeLine → Q (.ref p) (upd H' p (.lst vs))
abbrev FX (X : Cx) (e : Expr) (de : M D) : Prop := PE X e (tF X.K de)
theorem stp_upd {al : List Addr} {cs : Cs} {H : Hp} {p : Addr} {o : HO} (hp : H p = none) : Stp al cs H al cs (upd H p o) := stp_grow (upd_keep hp)
theorem After.move {α : Type} {K : FragK} {O : Addr → Prop} {al : List Addr} {s : S} {σ : L2.St} {H H' : Hp} {r : R α} {post : α → List Addr → S → Hp → Prop} (h : After K O al s σ H r post) (st : Stp al s.cs H al s.cs H') : After K O al s σ H' r post := by
  cases r with
  | no => exact h
  | ok a s' => exact fun al' H2 st2 env => h al' H2 (st.trans st2) env
theorem FX.ex {X : Cx} {e : Expr} {de : M D} (h : FX X e de) (hl : ∀ s d s', de s = .ok d s' → ∃ ds, d = .lst ds) : PE X e (tD X.K de) := h.imp fun σ H Q ko ⟨O, al, s, env, h⟩ => by
  refine ⟨O, al, s, env, ?_⟩
  cases q : de s with
  | no => rw [q] at h; exact h
  | ok d s' =>
    obtain ⟨ds, rfl⟩ := hl s d s' q
    rw [q] at h
    exact fun al' H' st env' => ⟨ds, rfl, fun p vs hp ko' r z => h al' (upd H' p (.lst vs)) (st.trans (stp_upd hp)) (env'.grow (upd_keep hp) ko') (.ref p) (new_lst env' hp ko' r z)⟩

section
variable {X : Cx} {G : Gf} {a b c e : Expr} {da db dc : M D} {pos : Pos}
theorem ex_var {i : Nat} {x : Str} (hN : X.N[i]? = some x) (hv : Vis X.env.scope x) (hd : (x == ("__debug__" : Str)) = false) (hcd : (x == ("__classdict__" : Str)) = false) : EX X (.Name x pos) (den G (.var i)) :=
  .plain ((pe_var hN hv hd hcd).imp fun σ H Q _ ⟨O, al, s, env, h⟩ => by
    rw [den] at h
    cases q : s.sl[i]? with
    | none => rw [q] at h; exact h.elim
    | some o =>
      cases o with
      | none => rw [q] at h; exact h.elim
      | some d =>
        rw [q] at h
        obtain ⟨v, hv, r⟩ := env.slot i d q
        exact ⟨v, hv, (After.ok h env) v r⟩) fun _ => rfl
theorem ex_con {d : D} {v : V} {de : M D} (h : PE X e (tC v)) (hd : ∀ s, de s = .ok d s) (hr : ∀ K al F H, Rp K al F H d v) (he : PlainT X e) : EX X e de :=
  .plain (h.imp fun σ H Q _ ⟨O, al, s, env, h⟩ => by
    rw [hd] at h
    exact (After.ok h env) v (hr _ _ _ _)) he
theorem ex_int {i : Int} {j : Nat} : EX X (.Constant (.int i) j pos) (den G (.kint i)) := ex_con (d := .int i) pe_int (fun s => by rw [den]) (fun _ _ _ _ => rfl) fun _ => rfl
theorem ex_bl {i : Bool} {j : Nat} : EX X (.Constant (.bool i) j pos) (den G (.kbl i)) := ex_con (d := .bl i) pe_bl (fun s => by rw [den]) (fun _ _ _ _ => rfl) fun _ => rfl
theorem ex_non {j : Nat} : EX X (.Constant .none j pos) (den G .knon) := ex_con (d := .non) pe_non (fun s => by rw [den]) (fun _ _ _ _ => rfl) fun _ => rfl
theorem ex_str {i : Str} {j : Nat} : EX X (.Constant (.str i) j pos) (den G (.kstr i)) := ex_con (d := .str i) pe_str (fun s => by rw [den]) (fun _ _ _ _ => rfl) fun _ => rfl
theorem ex_gint {x : Str} {i : Int} {u : Value} (hg : Gl X x) (hm : X.mg x = some u) (r : RelV (.int i) u) (hd : (x == ("__debug__" : Str)) = false) : EX X (.Name x pos) (den G (.gint x i)) :=
  ex_con (d := .int i) (pe_glob hg hm r hd) (fun s => by rw [den]) (fun _ _ _ _ => rfl) fun _ => rfl
theorem ex_op {op : Operator} {r : R2} {f : Cs → D → D → Option D} (ho : OpR X (binaryOp op) r) (hs : OpS X.K f r) (ha : EX X a da) (hb : EX X b db) :
    EX X (.BinOp a op b pos) (fun s => (da s).bind fun x s => (db s).bind fun y s => R.of (f s.cs x y) s) :=
  .plain ((pe_op (OpR.off ho) ha.pe hb.pe).imp fun σ H Q _ ⟨O, al, s, env, h⟩ => ⟨O, al, s, env, h.bind.imp fun x al1 s1 H1 st1 env1 h1 vx rx => ⟨O, al1, s1, env1, h1.bind.imp fun y al2 s2 H2 st2 env2 h2 vy ry => by
    cases q : f s2.cs x y with
    | none => rw [q] at h2; exact h2.elim
    | some d =>
      rw [q] at h2
      exact hs O al2 s2 σ H2 x y vx vy d Q env2 (rx.stp st2 env1.cr env2.cr) ry q fun H' v k ko rv => h2 al2 H' (stp_grow k) (env2.grow k ko) v rv⟩⟩) fun _ => rfl
theorem ex_bin {o : BO} {ea eb : E} (ha : EX X a (den G ea)) (hb : EX X b (den G eb)) : EX X (.BinOp a (bop o) b pos) (den G (.bin o ea eb)) := by
  obtain ⟨r, h1, h2⟩ := opr_bin X o
  have h := ex_op (pos := pos) h1 h2 ha hb
  have e : (den G (.bin o ea eb)) = (fun s => (den G ea s).bind fun x s => (den G eb s).bind fun y s => R.of (binD s.cs o x y) s) := by funext s; rw [den]
  rw [e]
  exact h
theorem ex_neg {ea : E} (ha : EX X a (den G ea)) : EX X (.UnaryOp .USub a pos) (den G (.neg ea)) :=
  .plain ((pe_un un_neg ha.pe).imp fun σ H Q _ ⟨O, al, s, env, h⟩ => by
    rw [den] at h
    exact ⟨O, al, s, env, h.bind.imp fun x al1 s1 H1 st1 env1 h1 vx rx => by
      cases x with
      | int i =>
        obtain rfl : vx = .int i := rx
        exact ⟨i, rfl, (After.ok h1 env1) _ rfl⟩
      | _ => exact h1.elim⟩) fun _ => rfl
/-! comparisons -/
theorem tOp_of {r : R2} {f : Cs → D → D → Option Bool} (hs : OpS X.K (opv f) r) {σ : L2.St} {H : Hp} {Q : VK} (h : ∃ O al s, EnvR X.K O al s σ H ∧ After X.K O al s σ H ((da s).bind fun x s => (db s).bind fun y s => R.of ((f s.cs x y).map .bl) s) fun d al' s' H' => ∀ v, Rp X.K al' (Forb O al' s'.cs) H' d v → Q v H') :
    tOp (fun x y H Q => r x y H fun v H' => KOff X.K H' → Q v H') (tD X.K da) (tD X.K db) σ H Q := by
  obtain ⟨O, al, s, env, h⟩ := h
  exact ⟨O, al, s, env, h.bind.imp fun x al1 s1 H1 st1 env1 h1 vx rx => ⟨O, al1, s1, env1, h1.bind.imp fun y al2 s2 H2 st2 env2 h2 vy ry => by
    cases q : f s2.cs x y with
    | none => rw [q] at h2; exact h2.elim
    | some d =>
      rw [q] at h2
      exact hs O al2 s2 σ H2 x y vx vy (.bl d) Q env2 (rx.stp st2 env1.cr env2.cr) ry (by rw [opv, q] <;> rfl) fun H' v k ko rv => h2 al2 H' (stp_grow k) (env2.grow k ko) v rv⟩⟩
theorem test_of {de : M D} {σ : L2.St} {H : Hp} {Q : Bool → Hp → Prop} (h : tT X.K de σ H Q) : tD X.K de σ H fun x H' => ∃ k, x = .bl k ∧ Q k H' := by
  obtain ⟨O, al, s, env, h⟩ := h
  exact ⟨O, al, s, env, h.imp fun d al' s' H' _ _ ⟨b, e, q⟩ v rv => by
    subst e
    obtain rfl : v = .bl b := rv
    exact ⟨b, rfl, q⟩⟩
theorem ex_cmp (hu : X.A.units + 65 < cLine) {o : CO} {ea eb : E} (ha : EX X a (den G ea)) (hb : EX X b (den G eb)) (hm : behindInMarks (cop o) b = false) : EX X (.Compare a [cop o] [b] pos) (den G (.cmp o ea eb)) := by
  obtain ⟨r, h1, h2⟩ := opr_cmp X hu o
  have e : (den G (.cmp o ea eb)) = (fun s => (den G ea s).bind fun x s => (den G eb s).bind fun y s => R.of ((cmpD s.cs o x y).map .bl) s) := by funext s; rw [den]
  rw [e]
  exact ⟨(pe_cmpR (OpR.off h1) ha.pe hb.pe hm).imp fun σ H Q _ h => tOp_of h2 h, (pt_cmpR (OpR.off h1) ha.pe hb.pe hm).imp fun σ H Q _ h => tOp_of h2 (test_of h)⟩
theorem tChain_of {r r' : R2} {f f' : Cs → D → D → Option Bool} (hs : OpS X.K (opv f) r) (hs' : OpS X.K (opv f') r') {σ : L2.St} {H : Hp} {Q : VK}
    (h : ∃ O al s, EnvR X.K O al s σ H ∧ After X.K O al s σ H ((da s).bind fun x s => (db s).bind fun y s => match f s.cs x y with
      | some true => (dc s).bind fun z s => R.of ((f' s.cs y z).map .bl) s
      | some false => .ok (.bl false) s
      | none => .no) fun d al' s' H' => ∀ v, Rp X.K al' (Forb O al' s'.cs) H' d v → Q v H') :
    tChain (fun x y H Q => r x y H fun v H' => KOff X.K H' → Q v H') (fun x y H Q => r' x y H fun v H' => KOff X.K H' → Q v H') (tD X.K da) (tD X.K db) (tD X.K dc) σ H Q := by
  obtain ⟨O, al, s, env, h⟩ := h
  exact ⟨O, al, s, env, h.bind.imp fun x al1 s1 H1 st1 env1 h1 vx rx => ⟨O, al1, s1, env1, h1.bind.imp fun y al2 s2 H2 st2 env2 h2 vy ry => by
    cases q : f s2.cs x y with
    | none => rw [q] at h2; exact h2.elim
    | some d =>
      rw [q] at h2
      refine hs O al2 s2 σ H2 x y vx vy (.bl d) (fun z H3 => ∃ k, z = .bl k ∧ if k = true then tD X.K dc σ H3 (fun w' H4 => r' vy w' H4 fun v H' => KOff X.K H' → Q v H') else Q (.bl false) H3) env2 (rx.stp st2 env1.cr env2.cr) ry (by rw [opv, q] <;> rfl) fun H' v k ko rv => ?_
      obtain rfl : v = .bl d := rv
      refine ⟨d, rfl, ?_⟩
      have ry' := ry.grow env2.cr k ko
      cases d with
      | false =>
        rw [if_neg Bool.false_ne_true]
        exact h2 al2 H' (stp_grow k) (env2.grow k ko) _ rfl
      | true =>
        rw [if_pos rfl]
        have h3 := After.move h2 (stp_grow k)
        exact ⟨O, al2, s2, env2.grow k ko, (After.bind h3).imp fun z al3 s3 H3 st3 env3 h5 vz rz => by
          cases q' : f' s3.cs y z with
          | none => rw [q'] at h5; exact h5.elim
          | some d' =>
            rw [q'] at h5
            exact hs' O al3 s3 σ H3 y z vy vz (.bl d') Q env3 (ry'.stp st3 (env2.grow k ko).cr env3.cr) rz (by rw [opv, q'] <;> rfl) fun H6 v k6 ko6 rv => h5 al3 H6 (stp_grow k6) (env3.grow k6 ko6) v rv⟩⟩⟩
theorem ex_cmp2 (hu : X.A.units + 65 < cLine) {o p : CO} {ea eb ec : E} (ha : EX X a (den G ea)) (hb : EX X b (den G eb)) (hc : EX X c (den G ec)) (hm : lastMarks [cop o, cop p] [b, c] = false) : EX X (.Compare a [cop o, cop p] [b, c] pos) (den G (.cmp2 o p ea eb ec)) := by
  obtain ⟨r, h1, h2⟩ := opr_cmp X hu o
  obtain ⟨r', h1', h2'⟩ := opr_cmp X hu p
  have e : (den G (.cmp2 o p ea eb ec)) = (fun s => (den G ea s).bind fun x s => (den G eb s).bind fun y s => match cmpD s.cs o x y with
      | some true => (den G ec s).bind fun z s => R.of ((cmpD s.cs p y z).map .bl) s
      | some false => .ok (.bl false) s
      | none => .no) := by
    funext s
    rw [den] <;> rfl
  rw [e]
  exact ⟨(pe_chain (OpR.off h1) (OpR.off h1') ha.pe hb.pe hc.pe hm).imp fun σ H Q _ h => tChain_of (f := fun cs x y => cmpD cs o x y) (f' := fun cs x y => cmpD cs p x y) h2 h2' h,
    (pt_chain (OpR.off h1) (OpR.off h1') ha.pe hb.pe hc.pe hm).imp fun σ H Q _ h => tChain_of (f := fun cs x y => cmpD cs o x y) (f' := fun cs x y => cmpD cs p x y) h2 h2' (test_of h)⟩
end
end Ev

set_option Elab.async false
set_option linter.all false
set_option maxRecDepth 100000
set_option maxHeartbeats 1000000
set_option autoImplicit false
/-! The evaluator, part Y: more expressions. -/
namespace Ev
open PySem PySem.Spec PyProof.Rows L2
section
variable {X : Cx} {G : Gf} {a b c e : Expr} {da db dc : M D} {ea eb ec : E} {pos : Pos}
/-- is None, is not None -/
def isNon : D → Bool
  | .non => true
  | _ => false
theorem non_of {K : FragK} {al : List Addr} {F : Addr → Prop} {H : Hp} {d : D} {v : V} (r : Rp K al F H d v) : decide (v = V.non) = isNon d := by
  cases d with
  | non => obtain rfl : v = .non := r; rfl
  | bl _ => obtain rfl : v = .bl _ := r; rfl
  | int _ => obtain rfl : v = .int _ := r; rfl
  | str _ => obtain rfl : v = .str _ := r; rfl
  | tup _ => obtain ⟨a, vs, rfl, _⟩ := r; rfl
  | lst _ => obtain ⟨a, vs, rfl, _⟩ := r; rfl
  | ro _ => obtain ⟨a, vs, rfl, _⟩ := r; rfl
  | cell _ => obtain ⟨a, rfl, _⟩ := r; rfl
theorem isn_eq (s : S) : den G (.isn ea) s = (den G ea s).bind fun x s => .ok (.bl (isNon x)) s := by
  rw [den]
  rfl
theorem nisn_eq (s : S) : den G (.nisn ea) s = (den G ea s).bind fun x s => .ok (.bl (!isNon x)) s := by
  rw [den]
  refine congrArg (R.bind (den G ea s)) ?_
  funext x s
  cases x <;> rfl
theorem ex_isn {j : Nat} {pos' : Pos} (ha : EX X a (den G ea)) : EX X (.Compare a [.Is] [.Constant .none j pos'] pos) (den G (.isn ea)) := by
  have key : ∀ σ H Q, tD X.K (den G (.isn ea)) σ H Q → tIsN (tD X.K (den G ea)) σ H Q := fun σ H Q ⟨O, al, s, env, h⟩ => by
    rw [isn_eq] at h
    exact ⟨O, al, s, env, h.bind.imp fun x al1 s1 H1 st1 env1 h1 vx rx => by
      show Q (V.bl (decide (vx = V.non))) H1
      rw [non_of rx]
      exact (After.ok h1 env1) _ rfl⟩
  exact ⟨(pe_cmp (pc_isN ha.pe) rfl).imp fun σ H Q _ h => key σ H Q h, (pt_cmp (pc_isN ha.pe) rfl).imp fun σ H Q _ h => key σ H _ (test_of h)⟩
theorem ex_nisn {j : Nat} {pos' : Pos} (ha : EX X a (den G ea)) : EX X (.Compare a [.IsNot] [.Constant .none j pos'] pos) (den G (.nisn ea)) := by
  have key : ∀ σ H Q, tD X.K (den G (.nisn ea)) σ H Q → tNotN (tD X.K (den G ea)) σ H Q := fun σ H Q ⟨O, al, s, env, h⟩ => by
    rw [nisn_eq] at h
    exact ⟨O, al, s, env, h.bind.imp fun x al1 s1 H1 st1 env1 h1 vx rx => by
      show Q (V.bl (!decide (vx = V.non))) H1
      rw [non_of rx]
      exact (After.ok h1 env1) _ rfl⟩
  exact ⟨(pe_cmp (pc_notN ha.pe) rfl).imp fun σ H Q _ h => key σ H Q h, (pt_cmp (pc_notN ha.pe) rfl).imp fun σ H Q _ h => key σ H _ (test_of h)⟩

/-! and, or, not, if -/
structure EW (X : Cx) (op : BoolOp) (vs : List Expr) (de : M D) : Prop where
  pe : ∀ pos, PE X (.BoolOp op vs pos) (tD X.K de)
  pw : ∀ pos, PW X (.BoolOp op vs pos) (tT X.K de)
theorem ew_and1 (ha : EX X a da) : EW X .And [a] da := ⟨fun _ => pe_one ha.pe, fun _ => pw_and1 ha.pt⟩
theorem ew_or1 (ha : EX X a da) : EW X .Or [a] da := ⟨fun _ => pe_one ha.pe, fun _ => pw_or1 ha.pt⟩
theorem _root_.L2.PW.imp {X : Cx} {e : Expr} {t t' : TT} (h : PW X e t) (i : ∀ σ H Q, KOff X.K H → t' σ H Q → t σ H Q) : PW X e t' := ⟨fun wh pins s σ H Q I q => h.run wh pins s σ H Q I (i σ H Q (koff_of I) q)⟩
def andM (da db : M D) : M D := fun s => (da s).bind fun x s => match x with
    | .bl true => db s
    | .bl false => .ok (.bl false) s
    | _ => .no
def orM (da db : M D) : M D := fun s => (da s).bind fun x s => match x with
    | .bl false => db s
    | .bl true => .ok (.bl true) s
    | _ => .no
theorem ew_and {r : List Expr} (ha : EX X a da) (hb : EW X .And (b :: r) db) : EW X .And (a :: b :: r) (andM da db) where
  pe := fun pos => (pe_and ha.pe (hb.pe pos)).imp fun σ H Q _ ⟨O, al, s, env, h⟩ => ⟨O, al, s, env, h.bind.imp fun x al1 s1 H1 st1 env1 h1 vx rx => by
    cases x with
    | bl k =>
      obtain rfl : vx = .bl k := rx
      refine ⟨k, rfl, ?_⟩
      cases k with
      | true => rw [if_pos rfl]; exact ⟨O, al1, s1, env1, h1⟩
      | false => rw [if_neg Bool.false_ne_true]; exact (After.ok h1 env1) _ rfl
    | _ => exact h1.elim⟩
  pw := fun pos => (pw_and ha.pt (hb.pw pos)).imp fun σ H Q _ ⟨O, al, s, env, h⟩ => ⟨O, al, s, env, h.bind.imp fun x al1 s1 H1 st1 env1 h1 => by
    cases x with
    | bl k =>
      refine ⟨k, rfl, ?_⟩
      cases k with
      | true => rw [if_pos rfl]; exact ⟨O, al1, s1, env1, h1⟩
      | false =>
        rw [if_neg Bool.false_ne_true]
        obtain ⟨b, e, q⟩ := After.ok h1 env1
        cases e
        exact q
    | _ => exact h1.elim⟩
theorem ew_or {r : List Expr} (ha : EX X a da) (hb : EW X .Or (b :: r) db) : EW X .Or (a :: b :: r) (orM da db) where
  pe := fun pos => (pe_or ha.pe (hb.pe pos)).imp fun σ H Q _ ⟨O, al, s, env, h⟩ => ⟨O, al, s, env, h.bind.imp fun x al1 s1 H1 st1 env1 h1 vx rx => by
    cases x with
    | bl k =>
      obtain rfl : vx = .bl k := rx
      refine ⟨k, rfl, ?_⟩
      cases k with
      | false => rw [if_neg Bool.false_ne_true]; exact ⟨O, al1, s1, env1, h1⟩
      | true => rw [if_pos rfl]; exact (After.ok h1 env1) _ rfl
    | _ => exact h1.elim⟩
  pw := fun pos => (pw_or ha.pt (hb.pw pos)).imp fun σ H Q _ ⟨O, al, s, env, h⟩ => ⟨O, al, s, env, h.bind.imp fun x al1 s1 H1 st1 env1 h1 => by
    cases x with
    | bl k =>
      refine ⟨k, rfl, ?_⟩
      cases k with
      | false => rw [if_neg Bool.false_ne_true]; exact ⟨O, al1, s1, env1, h1⟩
      | true =>
        rw [if_pos rfl]
        obtain ⟨b, e, q⟩ := After.ok h1 env1
        cases e
        exact q
    | _ => exact h1.elim⟩
theorem EW.ex {op : BoolOp} {vs : List Expr} {de : M D} (h : EW X op vs de) : EX X (.BoolOp op vs pos) de := ⟨h.pe pos, (h.pw pos).pt⟩
theorem and_eq : den G (.and ea eb) = andM (den G ea) (den G eb) := by
  funext s
  rw [den]
  rfl
theorem or_eq : den G (.or ea eb) = orM (den G ea) (den G eb) := by
  funext s
  rw [den]
  rfl
theorem ex_not (ha : EX X a (den G ea)) : EX X (.UnaryOp .Not a pos) (den G (.not ea)) where
  pe := (pe_not ha.pe).imp fun σ H Q _ ⟨O, al, s, env, h⟩ => by
    rw [den] at h
    exact ⟨O, al, s, env, h.bind.imp fun x al1 s1 H1 st1 env1 h1 vx rx => by
      cases x with
      | bl k =>
        obtain rfl : vx = .bl k := rx
        exact ⟨k, rfl, (After.ok h1 env1) _ rfl⟩
      | _ => exact h1.elim⟩
  pt := (pt_not ha.pt).imp fun σ H Q _ ⟨O, al, s, env, h⟩ => by
    rw [den] at h
    exact ⟨O, al, s, env, h.bind.imp fun x al1 s1 H1 st1 env1 h1 => by
      cases x with
      | bl k =>
        obtain ⟨b, e, q⟩ := After.ok h1 env1
        cases e
        exact ⟨k, rfl, q⟩
      | _ => exact h1.elim⟩
theorem pt_ifExp {tc ta tb : TT} (hc : PT X c tc) (ha : PT X a ta) (hb : PT X b tb) : PT X (.IfExp c a b pos) (fun σ H Q => tc σ H fun k H1 => if k = true then ta σ H1 Q else tb σ H1 Q) := by
  refine ⟨fun pins s σ H Q I h => ?_⟩
  show wpAny _ _ (PySem.isTrue (.IfExp c a b pos) X.env (eval (.IfExp c a b pos) X.env)) _ _ _
  unfold PySem.isTrue
  refine wpAny_bind (thn (hc.run pins s σ H _ I h) fun d s1 ⟨H1, I1, q1⟩ => ?_)
  cases d with
  | true => exact ha.run pins s1 σ H1 Q I1 q1
  | false => exact hb.run pins s1 σ H1 Q I1 q1
theorem ex_ite (hc : EX X c (den G ec)) (ha : EX X a (den G ea)) (hb : EX X b (den G eb)) : EX X (.IfExp c a b pos) (den G (.ite ec ea eb)) where
  pe := (pe_ifExp hc.pt ha.pe hb.pe).imp fun σ H Q _ ⟨O, al, s, env, h⟩ => by
    rw [den] at h
    exact ⟨O, al, s, env, h.bind.imp fun x al1 s1 H1 st1 env1 h1 => by
      cases x with
      | bl k =>
        refine ⟨k, rfl, ?_⟩
        cases k with
        | true => rw [if_pos rfl]; exact ⟨O, al1, s1, env1, h1⟩
        | false => rw [if_neg Bool.false_ne_true]; exact ⟨O, al1, s1, env1, h1⟩
      | _ => exact h1.elim⟩
  pt := (pt_ifExp hc.pt ha.pt hb.pt).imp fun σ H Q _ ⟨O, al, s, env, h⟩ => by
    rw [den] at h
    exact ⟨O, al, s, env, h.bind.imp fun x al1 s1 H1 st1 env1 h1 => by
      cases x with
      | bl k =>
        refine ⟨k, rfl, ?_⟩
        cases k with
        | true => rw [if_pos rfl]; exact ⟨O, al1, s1, env1, h1⟩
        | false => rw [if_neg Bool.false_ne_true]; exact ⟨O, al1, s1, env1, h1⟩
      | _ => exact h1.elim⟩

/-! ### lists of expressions -/
abbrev EA (X : Cx) (es : List Expr) (de : M (List D)) : Prop := PA X es (tA X.K de)
theorem _root_.L2.PA.imp {es : List Expr} {t t' : TA} (h : PA X es t) (i : ∀ σ H Q, KOff X.K H → t' σ H Q → t σ H Q) : PA X es t' := ⟨fun pos pins s σ H Q I q => h.run pos pins s σ H Q I (i σ H Q (koff_of I) q)⟩
theorem ea_nil : EA X [] (denL G []) := pa_nil.imp fun σ H Q _ ⟨O, al, s, env, h⟩ => by
  rw [denL] at h
  exact (After.ok h env) [] rfl
theorem ea_cons {es : List Expr} {eas : List E} (ha : EX X a (den G ea)) (hs : ea.isStar = false) (hr : EA X es (denL G eas)) (he : starEach (a :: es) X.env = (false, eval a X.env) :: starEach es X.env) : EA X (a :: es) (denL G (ea :: eas)) :=
  (pa_cons ha.pe hr he).imp fun σ H Q _ ⟨O, al, s, env, h⟩ => by
    rw [denL] at h
    simp only [hs, Bool.false_eq_true, if_false] at h
    exact ⟨O, al, s, env, h.bind.imp fun x al1 s1 H1 st1 env1 h1 vx rx => ⟨O, al1, s1, env1, h1.bind.imp fun ys al2 s2 H2 st2 env2 h2 vs rs => (After.ok h2 env2) (vx :: vs) ⟨vx, vs, rfl, rx.stp st2 env1.cr env2.cr, rs⟩⟩⟩
theorem ea_star {es : List Expr} {eas : List E} {p : Pos} (ha : EX X a (den G ea)) (hr : EA X es (denL G eas)) (he : starEach (.Starred a p :: es) X.env = (true, eval a X.env) :: starEach es X.env) : EA X (.Starred a p :: es) (denL G (.star ea :: eas)) :=
  (StX.pa_star ha.pe hr he).imp fun σ H Q _ ⟨O, al, s, env, h⟩ => by
    rw [denL] at h
    simp only [den, E.isStar, if_true] at h
    exact ⟨O, al, s, env, h.bind.imp fun x al1 s1 H1 st1 env1 h1 vx rx => by
      cases q : seqC s1.cs x with
      | none => rw [q] at h1; exact h1.elim
      | some xs =>
        rw [q] at h1
        obtain ⟨p, ws, rfl, sq, z, t⟩ := seq_of env1 rx q
        exact ⟨p, ws, rfl, sq.symm, ⟨O, al1, s1, env1, (After.bind h1).imp fun ys al2 s2 H2 st2 env2 h2 vs rs => (After.ok h2 env2) (ws ++ vs) ((t.stp st2 env1.cr env2.cr).app rs)⟩⟩⟩
theorem ex_tup {es : List Expr} {eas : List E} {k : Nat} (h : EA X es (denL G eas)) : EX X (.Tuple es k pos) (den G (.tup eas)) :=
  .plain ((pe_tup h).off fun σ H Q _ ⟨O, al, s, env, h⟩ => by
    rw [den] at h
    exact ⟨O, al, s, env, h.bind.imp fun ds al1 s1 H1 st1 env1 h1 vs rs => by
      split at h1
      · rename_i f
        have z : vs.length ≤ sizeLine := by rw [rs.len]; exact fits_le f
        exact ⟨z, fun p hp ko => h1 al1 _ (stp_upd hp) (env1.grow (upd_keep hp) ko) _ (new_tup env1 hp ko rs z)⟩
      · exact h1.elim⟩) fun _ => rfl
theorem fx_lst {es : List Expr} {eas : List E} (h : EA X es (denL G eas)) : FX X (.List es pos) (den G (.lst eas)) :=
  (pe_lst h).off fun σ H Q _ ⟨O, al, s, env, h⟩ => by
    rw [den] at h
    exact ⟨O, al, s, env, h.bind.imp fun ds al1 s1 H1 st1 env1 h1 vs rs => by
      split at h1
      · rename_i f
        have z : vs.length ≤ sizeLine := by rw [rs.len]; exact fits_le f
        obtain ⟨ds', e, q⟩ := After.ok h1 env1
        cases e
        exact ⟨z, fun p hp ko => q p vs hp ko rs z⟩
      · exact h1.elim⟩

/-! ### items, slices -/
theorem IxR.off {r : R2} (h : IxR X r) : IxR X (fun x y H Q => r x y H fun v H' => KOff X.K H' → Q v H') :=
  fun value slice pins s σ H x y v u Q I rx ry q hs => thn (h value slice pins s σ H x y v u _ I rx ry q hs) fun a s1 ⟨z, H1, I1, r1, q1⟩ => ⟨z, H1, I1, r1, q1 (koff_of I1)⟩
theorem atI_rps {K : FragK} {al : List Addr} {F : Addr → Prop} {H : Hp} {ds : List D} {vs : List V} (t : Rps K al F H ds vs) {i : Int} {d : D} (h : atI ds i = some d) : ∃ v, atI vs i = some v ∧ Rp K al F H d v := by
  unfold atI at h ⊢
  rw [t.len]
  cases q : ixN ds.length i with
  | none => rw [q] at h; cases h
  | some j =>
    rw [q] at h
    exact t.get h
theorem ex_idx (ha : EX X a (den G ea)) (hb : EX X b (den G eb)) (hp : PlainIx b) : EX X (.Subscript a b pos) (den G (.idx ea eb)) :=
  .plain ((pe_ix (IxR.or ix_list ix_tup) ha.pe hb.pe hp).imp fun σ H Q _ ⟨O, al, s, env, h⟩ => by
    rw [den] at h
    exact ⟨O, al, s, env, h.bind.imp fun x al1 s1 H1 st1 env1 h1 vx rx => ⟨O, al1, s1, env1, h1.bind.imp fun y al2 s2 H2 st2 env2 h2 vy ry => by
      have rx' := rx.stp st2 env1.cr env2.cr
      cases q : ixD s2.cs x y with
      | none => rw [q] at h2; exact h2.elim
      | some d =>
        rw [q] at h2
        unfold ixD at q
        split at q
        · rename_i ds k e
          obtain ⟨p, ws, rfl, sq, z, t⟩ := seq_of env2 rx' e
          obtain rfl : vy = .int k := ry
          obtain ⟨v, hv, rv⟩ := atI_rps t q
          rcases sq with sq | sq
          · exact .inl ⟨p, ws, k, v, rfl, rfl, sq, hv, (After.ok h2 env2) v rv⟩
          · exact .inr ⟨p, ws, k, v, rfl, rfl, sq, hv, (After.ok h2 env2) v rv⟩
        · cases q⟩⟩) fun _ => rfl
/-- an optional bound -/
abbrev EO (X : Cx) (e : Option Expr) (de : M (Option Int)) : Prop := PO X e fun σ H Q => ∃ O al s, EnvR X.K O al s σ H ∧ After X.K O al s σ H (de s) fun o al' s' H' => Q o H'
theorem _root_.L2.PO.imp {e : Option Expr} {t t' : TO} (h : PO X e t) (i : ∀ σ H Q, t' σ H Q → t σ H Q) : PO X e t' := by
  cases e with
  | none => exact ⟨fun pins s σ H Q I q => h.run pins s σ H Q I (i σ H Q q)⟩
  | some e => exact ⟨fun pins s σ H Q I q => h.run pins s σ H Q I (i σ H Q q)⟩
theorem eo_none : EO X none (denO G none) := po_none.imp fun σ H Q ⟨O, al, s, env, h⟩ => by
  rw [denO] at h
  exact After.ok h env
theorem eo_some (ha : EX X a (den G ea)) : EO X (some a) (denO G (some ea)) := (po_some ha.pe).imp fun σ H Q ⟨O, al, s, env, h⟩ => by
  rw [denO] at h
  exact ⟨O, al, s, env, h.bind.imp fun x al1 s1 H1 st1 env1 h1 vx rx => by
    cases x with
    | int i =>
      obtain rfl : vx = .int i := rx
      exact ⟨i, rfl, After.ok h1 env1⟩
    | _ => exact h1.elim⟩
theorem SlR.off {r : V → Option Int → Option Int → Hp → VK → Prop} (h : SlR X r) : SlR X (fun x lo hi H Q => r x lo hi H fun v H' => KOff X.K H' → Q v H') :=
  fun pins s σ H x v vl vu lo hi sl Q I rx hs pl pu q => by
    obtain ⟨T, id, h1, h2, h3⟩ := h pins s σ H x v vl vu lo hi sl _ I rx hs pl pu q
    exact ⟨T, id, h1, h2, thn h3 fun a s1 ⟨z, H1, I1, r1, q1⟩ => ⟨z, H1, I1, r1, q1 (koff_of I1)⟩⟩
theorem cut_rps {K : FragK} {al : List Addr} {F : Addr → Prop} {H : Hp} {ds : List D} {vs : List V} (t : Rps K al F H ds vs) (lo hi : Option Int) : Rps K al F H (cutD ds lo hi) (cutV vs lo hi) := by
  unfold cutD cutV
  rw [t.len]
  exact (t.drop _).take _
theorem ex_sl {lo hi : Option Expr} {elo ehi : Option E} {p2 : Pos} (ha : EX X a (den G ea)) (hl : EO X lo (denO G elo)) (hu : EO X hi (denO G ehi)) : EX X (.Subscript a (.Slice lo hi none p2) pos) (den G (.sl ea elo ehi)) :=
  .plain ((pe_slice (SlR.off (SlR.or sl_list sl_tupA)) ha.pe hl hu).imp fun σ H Q _ ⟨O, al, s, env, h⟩ => by
    rw [den] at h
    exact ⟨O, al, s, env, h.bind.imp fun x al1 s1 H1 st1 env1 h1 vx rx => ⟨O, al1, s1, env1, h1.bind.imp fun l al2 s2 H2 st2 env2 h2 => ⟨O, al2, s2, env2, h2.bind.imp fun u al3 s3 H3 st3 env3 h3 => by
      have rx' := (rx.stp st2 env1.cr env2.cr).stp st3 env2.cr env3.cr
      cases q : slD s3.cs x l u with
      | none => rw [q] at h3; exact h3.elim
      | some d =>
        rw [q] at h3
        have lstc : ∀ ds, lstC s3.cs x = some ds → d = .lst (cutD ds l u) → (rSlL X.K vx l u H3 fun v H' => KOff X.K H' → Q v H') ∨ rSlA X.K vx l u H3 fun v H' => KOff X.K H' → Q v H' := fun ds e ed => by
          subst ed
          obtain ⟨p, ws, rfl, sq, z, t⟩ := lst_of env3 rx' e
          exact .inl ⟨p, ws, rfl, sq, fun p hp ko => h3 al3 _ (stp_upd hp) (env3.grow (upd_keep hp) ko) _ (new_lst env3 hp ko (cut_rps t l u) (Nat.le_trans (cutV_length _ _ _) z))⟩
        unfold slD at q
        split at q
        · rename_i ds e
          cases q
          cases x with
          | tup xs =>
            obtain rfl : xs = ds := by simpa [deref] using e
            obtain ⟨p, ws, rfl, sq, z, t⟩ := rx'
            refine .inr ⟨p, ws, rfl, sq, fun hw ko => ?_, fun nw p hp ko => h3 al3 _ (stp_upd hp) (env3.grow (upd_keep hp) ko) _ (new_tup env3 hp ko (cut_rps t l u) (Nat.le_trans (cutV_length _ _ _) z))⟩
            have ec : cutD xs l u = xs := by
              unfold cutD
              rw [t.len] at hw
              rw [hw.1, hw.2, List.drop_zero, Nat.sub_zero, List.take_length]
            rw [ec] at h3
            exact (After.ok h3 env3) _ ⟨p, ws, rfl, sq, z, t⟩
          | cell n =>
            obtain ⟨a, rfl, qa⟩ := rx'
            simp only [deref, Option.map_eq_some_iff] at e
            obtain ⟨⟨bb, dd⟩, e1, e2⟩ := e
            have k := env3.cr.cell n bb dd a e1 qa
            simp only at e2
            subst e2
            exact False.elim k
          | _ => simp [deref] at e
        · rename_i ds e
          cases q
          exact lstc ds (by unfold lstC; rw [e]) rfl
        · rename_i ds e
          cases q
          exact lstc ds (by unfold lstC; rw [e]) rfl
        · cases q⟩⟩⟩) fun _ => rfl
end
end Ev

set_option Elab.async false
set_option linter.all false
set_option maxRecDepth 100000
set_option maxHeartbeats 1000000
set_option autoImplicit false
/-! The evaluator, part Z: calls, cells. -/
namespace Ev
open PySem PySem.Spec PyProof.Rows L2
def nst : Expr → Bool
  | .Starred _ _ => false
  | _ => true
theorem star_cons {e : Expr} {es : List Expr} {env : Env} (h : nst e = true) : starEach (e :: es) env = (false, eval e env) :: starEach es env := by
  cases e <;> first | rfl | (exact absurd h Bool.false_ne_true)
theorem star_plain {pos : Pos} {env : Env} : ∀ {es : List Expr}, es.all nst = true → (backTo pos (starEach es env)).any (·.1) = false
  | [], _ => rfl
  | e :: es, h => by
    simp only [List.all_cons, Bool.and_eq_true] at h
    rw [star_cons h.1]
    show (false || (backTo pos (starEach es env)).any (·.1)) = false
    rw [star_plain h.2] <;> rfl
section
variable {X : Cx} {G : Gf} {a b c e : Expr} {ea eb : E} {pos : Pos}
/-! ### built-ins -/
def BiA (X : Cx) (f : Value) (b : BI) : Prop := ∃ r, CallR X f r ∧ ∀ (O : Addr → Prop) (al : List Addr) (s : S) (σ : L2.St) (H : Hp) (xs : List D) (vs : List V) (d : D) (Q : VK), EnvR X.K O al s σ H → Rps X.K al (Forb O al s.cs) H xs vs →
  biD s.cs b xs = some d → (∀ H' v, (∀ a q, H a = some q → H' a = some q) → KOff X.K H' → Rp X.K al (Forb O al s.cs) H' d v → Q v H') → r vs H fun v H' => KOff X.K H' → Q v H'
theorem BiA.of1 {f : Value} {b : BI} (h : Bi1 X f (fun cs d => bi1 cs b d)) (h2 : ∀ d e, bi2 b d e = none) : BiA X f b := by
  obtain ⟨r, h1, hr⟩ := h
  refine ⟨r, h1, fun O al s σ H xs vs d Q env rs e fin => ?_⟩
  match xs, rs, e with
  | [], _, e => simp [biD] at e
  | [x], rs, e =>
    obtain ⟨v, rfl, rx⟩ := rs.one_inv
    exact hr O al s σ H x v d Q env rx e fin
  | [x, y], _, e => simp [biD, h2] at e
  | _ :: _ :: _ :: _, _, e => simp [biD] at e
theorem BiA.of2 {f : Value} {b : BI} (h : Bi2 X f (fun x y => bi2 b x y)) (h2 : ∀ cs d, bi1 cs b d = none) : BiA X f b := by
  obtain ⟨r, h1, hr⟩ := h
  refine ⟨r, h1, fun O al s σ H xs vs d Q env rs e fin => ?_⟩
  match xs, rs, e with
  | [], _, e => simp [biD] at e
  | [x], rs, e => simp [biD, h2] at e
  | [x, y], rs, e =>
    obtain ⟨v, u, rfl, rx, ry⟩ := rs.two_inv
    exact hr O al s σ H x y v u d Q env rx ry e fin
  | _ :: _ :: _ :: _, _, e => simp [biD] at e
theorem bia_of {r : List V → Hp → VK → Prop} {b : BI} {eas : List E} (hr : ∀ (O : Addr → Prop) (al : List Addr) (s : S) (σ : L2.St) (H : Hp) (xs : List D) (vs : List V) (d : D) (Q : VK), EnvR X.K O al s σ H → Rps X.K al (Forb O al s.cs) H xs vs →
    biD s.cs b xs = some d → (∀ H' v, (∀ a q, H a = some q → H' a = some q) → KOff X.K H' → Rp X.K al (Forb O al s.cs) H' d v → Q v H') → r vs H fun v H' => KOff X.K H' → Q v H')
    {σ : L2.St} {H : Hp} {Q : VK} (h : tD X.K (den G (.bi b eas)) σ H Q) : tCB r (tA X.K (denL G eas)) σ H fun v H' => KOff X.K H' → Q v H' := by
  obtain ⟨O, al, s, env, h⟩ := h
  rw [den] at h
  exact ⟨O, al, s, env, h.bind.imp fun ds al1 s1 H1 st1 env1 h1 vs rs => by
    cases q : biD s1.cs b ds with
    | none => rw [q] at h1; exact h1.elim
    | some d =>
      rw [q] at h1
      exact hr O al1 s1 σ H1 ds vs d Q env1 rs q fun H' v k ko rv => h1 al1 H' (stp_grow k) (env1.grow k ko) v rv⟩
theorem pe_biB {id : String} {b : BI} {x : Str} {p : Pos} {es : List Expr} {eas : List E} (hb : BiA X (.builtin id) b) (hg : Gl X x) (hm : X.mg x = none) (hv : bootBuiltins x = some (.builtin id)) (ha : EA X (a :: es) (denL G eas)) (hn : x ≠ "__name__") (hdb : (x == ("__debug__" : Str)) = false)
    (h1 : nst a = true) (h2 : es.all nst = true) : PE X (.Call (.Name x p) (a :: es) [] pos) (tD X.K (den G (.bi b eas))) := by
  obtain ⟨r, hc, hr⟩ := hb
  exact (pe_callB hc hg hm hv ha hn hdb (star_cons h1) (star_plain h2)).off fun σ H Q _ h => bia_of hr h
theorem pe_biT {id : String} {b : BI} {x : Str} {p : Pos} {es : List Expr} {eas : List E} (hb : BiA X (.type id) b) (hg : Gl X x) (hm : X.mg x = none) (hv : bootBuiltins x = some (.type id)) (ha : EA X (a :: es) (denL G eas)) (hn : x ≠ "__name__") (hdb : (x == ("__debug__" : Str)) = false)
    (h1 : nst a = true) (h2 : es.all nst = true) : PE X (.Call (.Name x p) (a :: es) [] pos) (tD X.K (den G (.bi b eas))) := by
  obtain ⟨r, hc, hr⟩ := hb
  exact (pe_callTy hc hg hm hv ha hn hdb (star_cons h1) (star_plain h2)).off fun σ H Q _ h => bia_of hr h
/-- isinstance(a, T) -/
theorem ex_isi {t : TY} {p p2 : Pos} (hg : Gl X "isinstance") (hm : X.mg "isinstance" = none) (hg2 : Gl X (PySem.Str.ofString (tyS t))) (hm2 : X.mg (PySem.Str.ofString (tyS t)) = none) (ha : EX X a (den G ea)) (h1 : nst a = true) :
    EX X (.Call (.Name "isinstance" p) [a, .Name (PySem.Str.ofString (tyS t)) p2] [] pos) (den G (.isi t ea)) := by
  have hT : PE X (.Name (PySem.Str.ofString (tyS t)) p2) (tC (.ty (tyS t))) := pe_bltn (u := .type (tyS t)) hg2 hm2 (by cases t <;> decide +kernel) rfl (by cases t <;> decide +kernel) (by cases t <;> decide +kernel)
  exact .plain ((pe_callB call_isi hg hm boot_isinstance (pa_cons ha.pe (pa_cons hT pa_nil (star_cons rfl)) (star_cons h1)) (by decide) (by decide) (star_cons h1) (star_plain rfl)).imp fun σ H Q _ ⟨O, al, s, env, h⟩ => by
    rw [den] at h
    exact ⟨O, al, s, env, h.bind.imp fun x al1 s1 H1 st1 env1 h1 vx rx => by
      cases q : tyD s1.cs t x with
      | none => rw [q] at h1; exact h1.elim
      | some k =>
        rw [q] at h1
        unfold tyD at q
        simp only [Option.map_eq_some_iff, Option.bind_eq_some_iff] at q
        obtain ⟨ts, ⟨y, hy, hk⟩, rfl⟩ := q
        obtain ⟨n, ht, hn⟩ := tyx_of env1 rx hy hk
        exact ⟨vx, .ty (tyS t), .type n, .type (tyS t), _, rfl, .ty _, ht, hn t, (After.ok h1 env1) _ rfl⟩⟩) fun _ => rfl

/-! ### list(range(..)), tuple(range(..)) -/
theorem rgV_rps {K : FragK} {al : List Addr} {F : Addr → Prop} {H : Hp} (lo hi : Int) : Rps K al F H (rangeD lo hi) (rgV lo hi) := by
  unfold rangeD rgV
  have e : ∀ n : Nat, Rps K al F H ((List.range n).map fun i => D.int (lo + (i : Nat))) ((List.range n).map fun i => V.int (lo + (i : Nat))) := fun n =>
    Rps.of (by simp) fun i d v h1 h2 => by
      simp only [List.getElem?_map, Option.map_eq_some_iff] at h1 h2
      obtain ⟨j, e1, rfl⟩ := h1
      obtain ⟨j', e2, rfl⟩ := h2
      rw [e1] at e2
      cases e2
      rfl
  exact e _
theorem rngD_some {ds : List D} {xs : List D} (h : rngD ds = some xs) : ∃ lo hi, RgOk lo hi ∧ xs = rangeD lo hi ∧ (ds = [.int hi] ∧ lo = 0 ∨ ds = [.int lo, .int hi]) := by
  unfold rngD at h
  split at h
  · rename_i j
    split at h
    · rename_i q
      cases h
      simp only [Bool.and_eq_true, smallR, fits, decide_eq_true_eq] at q
      obtain ⟨⟨q1, q2⟩, q3⟩ := q
      exact ⟨0, j, ⟨by omega, by omega, q1, q2, by omega⟩, rfl, .inl ⟨rfl, rfl⟩⟩
    · cases h
  · rename_i i j
    split at h
    · rename_i q
      cases h
      simp only [Bool.and_eq_true, smallR, fits, decide_eq_true_eq] at q
      obtain ⟨⟨⟨q1, q2⟩, q3, q4⟩, q5⟩ := q
      exact ⟨i, j, ⟨q1, q2, q3, q4, by omega⟩, rfl, .inr rfl⟩
    · cases h
  · cases h
/-- range(..) by its bounds -/
abbrev EG (X : Cx) (e : Expr) (de : M (List D)) : Prop := PRg X e fun σ H Q => ∃ O al s, EnvR X.K O al s σ H ∧ After X.K O al s σ H (de s) fun ds al' s' H' => ∃ lo hi, (ds = [.int hi] ∧ lo = 0 ∨ ds = [.int lo, .int hi]) ∧ Q lo hi H'
theorem _root_.L2.PRg.imp {t t' : L2.St → Hp → (Int → Int → Hp → Prop) → Prop} (h : PRg X e t) (i : ∀ σ H Q, t' σ H Q → t σ H Q) : PRg X e t' :=
  fun pins s σ H Q I q => h pins s σ H Q I (i σ H Q q)
theorem eg_1 {p : Pos} (hg : Gl X "range") (hm : X.mg "range" = none) (ha : EX X a (den G ea)) (h1 : nst a = true) (hs : ea.isStar = false) : EG X (.Call (.Name "range" p) [a] [] pos) (denL G [ea]) :=
  PRg.imp (prg_1 hg hm ha.pe (star_cons h1)) fun σ H Q ⟨O, al, s, env, h⟩ => by
    rw [denL] at h
    simp only [hs, Bool.false_eq_true, if_false, denL, R.bind_ok] at h
    exact ⟨O, al, s, env, h.bind.imp fun x al1 s1 H1 st1 env1 h1 vx rx => by
      obtain ⟨lo, hi, e, q⟩ := After.ok h1 env1
      rcases e with ⟨e, rfl⟩ | e
      · cases e
        exact ⟨hi, rx, q⟩
      · cases e⟩
theorem eg_2 {p : Pos} (hg : Gl X "range") (hm : X.mg "range" = none) (ha : EX X a (den G ea)) (h1 : nst a = true) (hs : ea.isStar = false) (hb : EX X b (den G eb)) (h2 : nst b = true) (hs2 : eb.isStar = false) : EG X (.Call (.Name "range" p) [a, b] [] pos) (denL G [ea, eb]) :=
  PRg.imp (prg_2 hg hm ha.pe hb.pe (star_cons h1) (star_cons h2) (star_plain (by simp [h2]))) fun σ H Q ⟨O, al, s, env, h⟩ => by
    rw [denL] at h
    simp only [hs, hs2, Bool.false_eq_true, if_false, denL, R.bind_ok] at h
    exact ⟨O, al, s, env, h.bind.imp fun x al1 s1 H1 st1 env1 h1 vx rx => ⟨O, al1, s1, env1, (After.bind (After.bind h1)).imp fun y al2 s2 H2 st2 env2 h2 vy ry => by
      have h3 := After.ok h2 env2
      obtain ⟨lo, hi, e, q⟩ := After.ok h3 env2
      rcases e with ⟨e, rfl⟩ | e
      · cases e
      · cases e
        exact ⟨lo, hi, rx, ry, q⟩⟩⟩
theorem fx_rng {p : Pos} {eas : List E} (hc : X.calm = true) (hg : Gl X "list") (hm : X.mg "list" = none) (he : EG X a (denL G eas)) (h1 : nst a = true) : FX X (.Call (.Name "list" p) [a] [] pos) (den G (.rng eas)) :=
  (pe_listRg hc hg hm he (star_cons h1)).off fun σ H Q _ ⟨O, al, s, env, h⟩ => by
    rw [den] at h
    exact ⟨O, al, s, env, h.bind.imp fun ds al1 s1 H1 st1 env1 h1 => by
      cases q : rngD ds with
      | none => rw [q] at h1; exact h1.elim
      | some xs =>
        rw [q] at h1
        obtain ⟨lo, hi, ok, rfl, e⟩ := rngD_some q
        obtain ⟨ds', e', z⟩ := After.ok h1 env1
        cases e'
        have len : (rgV lo hi).length ≤ sizeLine := by
          rw [rgV_length, sizeLine_eq]
          have := ok.2.2.2.2
          omega
        exact ⟨lo, hi, e, ok, fun q hq ko => z q (rgV lo hi) hq ko (rgV_rps lo hi) len⟩⟩
theorem ex_trng {p : Pos} {eas : List E} (hc : X.calm = true) (hg : Gl X "tuple") (hm : X.mg "tuple" = none) (he : EG X a (denL G eas)) (h1 : nst a = true) : EX X (.Call (.Name "tuple" p) [a] [] pos) (den G (.trng eas)) :=
  .plain ((pe_tupRg hc hg hm he (star_cons h1)).off fun σ H Q _ ⟨O, al, s, env, h⟩ => by
    rw [den] at h
    exact ⟨O, al, s, env, h.bind.imp fun ds al1 s1 H1 st1 env1 h1 => by
      cases q : rngD ds with
      | none => rw [q] at h1; exact h1.elim
      | some xs =>
        rw [q] at h1
        obtain ⟨lo, hi, ok, rfl, e⟩ := rngD_some q
        have len : (rgV lo hi).length ≤ sizeLine := by
          rw [rgV_length, sizeLine_eq]
          have := ok.2.2.2.2
          omega
        exact ⟨lo, hi, e, ok, fun q hq ko => h1 al1 _ (stp_upd hq) (env1.grow (upd_keep hq) ko) _ (new_tup env1 hq ko (rgV_rps lo hi) len)⟩⟩) fun _ => rfl

/-! ### cells -/
theorem pe_cel (h : FX X e (den G ea)) : PE X e (tD X.K (den G (.cel ea))) := h.imp fun σ H Q _ ⟨O, al, s, env, h⟩ => by
  rw [den] at h
  exact ⟨O, al, s, env, h.bind.imp fun d al1 s1 H1 st1 env1 h1 => by
    cases d with
    | lst ds =>
      simp only at h1
      split at h1
      case isFalse => exact h1.elim
      rename_i lw
      refine ⟨ds, rfl, fun p vs hp ko r z => ?_⟩
      obtain ⟨c', st'⟩ := cell_new env1.cr hp ko r z lw
      refine h1 (al1 ++ [p]) _ st' (env1.stp st' c') (.ref p) ⟨p, rfl, ?_⟩
      rw [List.getElem?_append_right (by rw [env1.cr.len]; exact Nat.le_refl _), env1.cr.len, Nat.sub_self]
      rfl
    | _ => exact h1.elim⟩
theorem ex_cel (h : FX X e (den G ea)) (he : PlainT X e) : EX X e (den G (.cel ea)) := .plain (pe_cel h) he
theorem ex_frz (h : EX X e (den G ea)) (he : PlainT X e) : EX X e (den G (.frz ea)) := .plain (h.pe.imp fun σ H Q _ ⟨O, al, s, env, h⟩ => by
  rw [den] at h
  exact ⟨O, al, s, env, h.bind.imp fun d al1 s1 H1 st1 env1 h1 v rv => by
    cases d with
    | cell n =>
      obtain ⟨a, rfl, ha⟩ := rv
      simp only at h1
      cases q : s1.cs[n]? with
      | none => rw [q] at h1; exact h1.elim
      | some p =>
        obtain ⟨bb, d⟩ := p
        rw [q] at h1
        obtain ⟨c', st', nl⟩ := cell_frz env1.cr q ha
        have x := env1.cr.cell n bb d a q ha
        refine h1 al1 H1 st' (env1.stp st' c') (.ref a) ?_
        cases d with
        | lst ds =>
          obtain ⟨vs, e, z, r⟩ := x
          have na : ¬ O a := fun oa => (env1.cr.om a oa).2 (List.mem_of_getElem? ha)
          exact ⟨a, vs, rfl, fun f => f.elim na nl, e, z, r.stp st' env1.cr c'⟩
        | _ => exact False.elim x
    | _ => exact (After.ok h1 env1) v rv⟩) he
end
end Ev

set_option Elab.async false
set_option linter.all false
set_option maxRecDepth 100000
set_option maxHeartbeats 1000000
set_option autoImplicit false
/-! The evaluator, part Rv: x[::-1]; list(x), sorted(x) as new lists. -/
namespace Ev
open PySem PySem.Spec PyProof.Rows L2
section
variable {prog : Program} {w : World} {A : Around} {E : Value → Shared → Prop} {s : Shared}
theorem back_adjust (n : Nat) : Builtin.Slice.sliceAdjust none none (-1) (n : Int) = ((n : Int) - 1, -1) := by
  simp [Builtin.Slice.sliceAdjust]
theorem back_places (n : Nat) : Builtin.Slice.slicePlaces ((n : Int) - 1) (-1) (-1) = n := by
  unfold Builtin.Slice.slicePlaces
  rw [if_neg (by decide)]
  split
  · have : ((n : Int) - 1 - -1 - 1) / (- -1) = (n : Int) - 1 := by
      rw [Int.neg_neg, Int.ediv_one]
      omega
    rw [this]
    omega
  · omega
theorem pick_all {α β : Type} {f : α → Option β} {g : α → β} : ∀ {l : List α}, (∀ k ∈ l, f k = some (g k)) → l.filterMap f = l.map g
  | [], _ => rfl
  | a :: l, h => by rw [List.filterMap_cons, h a List.mem_cons_self, List.map_cons, pick_all fun k hk => h k (List.mem_cons_of_mem _ hk)]
theorem back_pick (xs : Array Value) : ((List.range xs.size).filterMap fun (k : Nat) => xs[(((xs.size : Int) - 1) + (k : Int) * (-1)).toNat]?).toArray = xs.toList.reverse.toArray := by
  congr 1
  refine List.ext_getElem? fun i => ?_
  have hm : (List.range xs.size).filterMap (fun (k : Nat) => xs[(((xs.size : Int) - 1) + (k : Int) * (-1)).toNat]?) = (List.range xs.size).map fun k => xs.toList.reverse.getD k .none := by
    refine pick_all fun k hk => ?_
    have hk := List.mem_range.mp hk
    have e : (((xs.size : Int) - 1) + (k : Int) * (-1)).toNat = xs.size - 1 - k := by omega
    rw [e]
    have e2 : xs.size - 1 - k < xs.size := by omega
    simp [List.getD_eq_getElem?_getD, List.getElem?_reverse, hk, e2]
  rw [hm, List.getElem?_map]
  by_cases hi : i < xs.size
  · simp [List.getElem?_range hi, List.getD_eq_getElem?_getD, hi]
  · simp [hi]
theorem back_applied {sl : Addr} {tk : Tok} {n : Nat} {Q : Int × Int × Nat → Shared → Prop} (hs : s.heap.IsSliceOf sl .none .none (.int (-1) tk)) (q : Q ((n : Int) - 1, -1, n) s) : wpAny (model prog w) A (Builtin.Slice.sliceApplied (.ref sl) (pure (n : Int))) Q E s := by
  obtain ⟨os, g1, g2, g3⟩ := id hs
  unfold Builtin.Slice.sliceApplied Builtin.Slice.sliceFields
  refine wpAny_bind (wpAny_bind (wpAny_field g1 g3 (x := .none) rfl (wpAny_bind (wpAny_field g1 g3 (x := .none) rfl (wpAny_bind (wpAny_field g1 g3 (x := .int (-1) tk) rfl (wpAny_pure (wpAny_bind (slicePart_int ?_)))))))))
  show wpAny _ _ (if ((-1 : Int) == 0) = true then _ else _) _ _ s
  rw [if_neg (by decide)]
  refine wpAny_bind (slicePart_none (wpAny_bind (slicePart_none (wpAny_bind (wpAny_pure ?_)))))
  show wpAny _ _ (match Builtin.Slice.sliceAdjust none none (-1) (n : Int) with | (lo, hi) => pure (lo, (-1 : Int), Builtin.Slice.slicePlaces lo hi (-1))) _ _ s
  rw [back_adjust]
  show wpAny _ _ (pure ((n : Int) - 1, (-1 : Int), Builtin.Slice.slicePlaces ((n : Int) - 1) (-1) (-1))) _ _ s
  rw [back_places]
  exact wpAny_pure q
theorem back_tuple {t sl : Addr} {tk : Tok} {its : Array Value} {Q : Value → Shared → Prop} (ht : IsTup s.heap t its) (hs : s.heap.IsSliceOf sl .none .none (.int (-1) tk)) (hz : its.size ≤ sizeLine)
    (q : Q (.ref s.heap.objs.size) { s with heap := s.heap.push { cls := .type "tuple", data := .seq its.toList.reverse.toArray } }) : wpAny (model prog w) A (getItem (.ref t) (.ref sl)) Q E s := by
  have okz : sizeOk (.seq its.toList.reverse.toArray) := by
    show its.toList.reverse.toArray.size ≤ sizeLine
    rw [List.size_toArray, List.length_reverse, Array.length_toList]
    exact hz
  obtain ⟨os, g1, g2, g3⟩ := id hs
  have isS : s.TypeIs (.ref sl) "slice" := ⟨os, g1, g2⟩
  unfold getItem
  try with_reducible refine wpAny_holding ?_
  first | refine wpAny_bind (wpAny_pure ?_) | skip
  refine wpAny_bind (wpAny_sequenceKey ht.typeIs (by decide) (wpAny_bind (wpAny_callSpecial?_slot (name := Str.ofString "__getitem__") ht.typeIs PyProof.Rows.slot_tuple_getitem (wpAny_call_entry PyProof.Rows.slot_tuple_getitem ht.typeIs entry_tuple_getitem ?_ (args_tuple_getitem _ _)))))
  show wpAny _ _ (Builtin.Tuple.tupleItemsOf (.ref t) >>= _) _ _ s
  refine wpAny_bind (tupleItemsOf_ ht (wpAny_bind (wpAny_typeOf isS ?_)))
  rw [if_pos (by decide)]
  refine wpAny_bind (back_applied hs ?_)
  show wpAny _ _ (if (((its.size : Int) - 1) == 0 && (-1 : Int) == 1 && its.size == its.size) = true then _ else _) _ _ s
  rw [if_neg (by simp), back_pick]
  first
    | exact wpAny_bind (m := Builtin.Tuple.tupleExact _) (wpAny_newObj_type (wpAny_pure ⟨_, rfl, wpAny_pure q⟩) okz)
    | exact wpAny_bind (m := Builtin.Tuple.tupleExact _) (wpAny_newObj_type (wpAny_bind (wpAny_pure (wpAny_pure ⟨_, rfl, wpAny_pure q⟩))) okz)
end
def tRev (K : FragK) (te : TE) : TE := fun σ H Q => te σ H fun x H1 => ∃ a xs, x = .ref a ∧ ((SqL K H1 a xs ∧ ∀ p, H1 p = none → Q (.ref p) (upd H1 p (.lst xs.reverse))) ∨ (SqT K H1 a xs ∧ ∀ p, H1 p = none → Q (.ref p) (upd H1 p (.tup xs.reverse))))
theorem pe_rev {X : Cx} {e : Expr} {te : TE} {k : Nat} {p1 p2 p3 pos : Pos} (he : PE X e te) : PE X (.Subscript e (.Slice none none (some (.UnaryOp .USub (.Constant (.int 1) k p1) p2)) p3) pos) (tRev X.K te) := by
  refine ⟨fun pins s σ H Q I h => Subscript_ (thn (he.run pins s σ H _ I h) fun v s1 ⟨x, H1, I1, r1, a, xs, ex, alt⟩ => ?_)⟩
  subst ex
  cases r1
  have step : PO X (some (.UnaryOp .USub (.Constant (.int 1) k p1) p2)) (tPart (tUn (rU fun i => .int (-i)) (tC (.int 1)))) := po_some (pe_un un_neg pe_int)
  refine wpAny_Slice (thn (po_none.run pins s1 σ H1 (fun o H2 => o = none ∧ H2 = H1) I1 ⟨rfl, rfl⟩) fun vl s2 ⟨l, H2, I2, pl, el, e2⟩ => ?_)
  subst el e2
  refine thn (po_none.run pins s2 σ H2 (fun o H3 => o = none ∧ H3 = H2) I2 ⟨rfl, rfl⟩) fun vu s3 ⟨u, H3, I3, pu, eu, e3⟩ => ?_
  subst eu e3
  refine thn (step.run pins s3 σ H3 (fun o H4 => o = some (-1) ∧ H4 = H3) I3 ⟨1, rfl, -1, rfl, rfl, rfl⟩) fun vst s4 ⟨o, H4, I4, ps, eo, e4⟩ => ?_
  subst eo e4
  have J : Inv X pins σ H4 { s4 with heap := s4.heap.push { cls := .type "slice", data := .fields #[vl, vu, vst] } } := I4.kept (t' := s4.toks) fun b ob q => Heap.get?_push_of_some _ q
  show wpAny (model X.prog X.w) X.A (subscriptTail e (.Slice none none (some (.UnaryOp .USub (.Constant (.int 1) k p1) p2)) p3) (.ref a) (.ref s4.heap.objs.size)) (EP X pins σ Q) X.xe { s4 with heap := s4.heap.push { cls := .type "slice", data := .fields #[vl, vu, vst] } }
  rcases alt with ⟨sq, fin⟩ | ⟨sq, fin⟩
  · obtain ⟨its, r, isl, hz⟩ := J.list sq
    have len := r.length
    refine tail_any (ops := [.ref a, .ref s4.heap.objs.size]) isl.isList.typeIs (PySem.slot_list_getitem.lookup) (wpAny_getItem_list_slice isl.isList (Heap.IsSliceOf.new _ vl vu vst) pl pu ps (by decide) ?_ (by rw [List.size_toArray]; omega)) (by with_unfolding_all rfl)
    rw [PySem.W.krv_pick]
    exact ⟨.ref _, _, J.laid (t' := s4.toks) (o := .lst xs.reverse) (fun b ob q => Heap.get?_push_of_some _ q) (Nat.le_refl _) ⟨by rw [List.length_reverse]; exact hz, _, 0, r.reverse, Heap.get?_push_size _ rfl⟩, rfl, fin _ (J.hok.fresh (Nat.le_refl _))⟩
  · obtain ⟨its, r, ist, hz⟩ := J.tuple sq
    have len := r.length
    cases pl
    cases pu
    cases ps
    refine tail_any (ops := [.ref a, .ref s4.heap.objs.size]) ist.typeIs (PyProof.Rows.slot_tuple_getitem.lookup) (back_tuple ist (Heap.IsSliceOf.new _ _ _ _) (by rw [List.size_toArray]; omega) ?_) (by with_unfolding_all rfl)
    refine ⟨.ref _, _, J.laid (t' := s4.toks) (o := .tup xs.reverse) (fun b ob q => Heap.get?_push_of_some _ q) (Nat.le_refl _) ⟨by rw [List.length_reverse]; exact hz, _, r.reverse, ?_⟩, rfl, fin _ (J.hok.fresh (Nat.le_refl _))⟩
    exact IsTup.new _ _
theorem Rps.rev {K : FragK} {al : List Addr} {F : Addr → Prop} {H : Hp} {ds : List D} {vs : List V} (h : Rps K al F H ds vs) : Rps K al F H ds.reverse vs.reverse := by
  have key : ∀ (ds : List D) (vs : List V) (es : List D) (us : List V), Rps K al F H ds vs → Rps K al F H es us → Rps K al F H (ds.reverse ++ es) (vs.reverse ++ us) := by
    intro ds
    induction ds with
    | nil =>
      intro vs es us h h2
      obtain rfl : vs = [] := h
      exact h2
    | cons d ds ih =>
      intro vs es us h h2
      obtain ⟨v, r, rfl, q, t⟩ := h
      have := ih r (d :: es) (v :: us) t ⟨v, us, rfl, q, h2⟩
      simpa using this
  have := key ds vs [] [] h rfl
  simpa using this
section
variable {X : Cx} {G : Gf} {a : Expr} {ea : E} {pos : Pos}
theorem ex_rev {k : Nat} {p1 p2 p3 : Pos} (ha : EX X a (den G ea)) : EX X (.Subscript a (.Slice none none (some (.UnaryOp .USub (.Constant (.int 1) k p1) p2)) p3) pos) (den G (.rev ea)) :=
  .plain ((pe_rev ha.pe).off fun σ H Q _ ⟨O, al, s, env, h⟩ => by
    rw [den] at h
    refine ⟨O, al, s, env, h.bind.imp fun x al1 s1 H1 st1 env1 h1 vx rx => ?_⟩
    cases q : revD s1.cs x with
    | none => rw [q] at h1; exact h1.elim
    | some d =>
      rw [q] at h1
      have lst : ∀ ds, lstC s1.cs x = some ds → d = .lst ds.reverse → ∃ p ws, vx = .ref p ∧ SqL X.K H1 p ws ∧ ∀ p, H1 p = none → KOff X.K (upd H1 p (.lst ws.reverse)) → Q (.ref p) (upd H1 p (.lst ws.reverse)) := fun ds e ed => by
        subst ed
        obtain ⟨p, ws, rfl, sq, z, t⟩ := lst_of env1 rx e
        exact ⟨p, ws, rfl, sq, fun p hp ko => h1 al1 _ (stp_upd hp) (env1.grow (upd_keep hp) ko) _ (new_lst env1 hp ko (Rps.rev t) (by rw [List.length_reverse]; exact z))⟩
      unfold revD at q
      split at q
      · rename_i ds e
        cases q
        cases x with
        | tup xs =>
          obtain rfl : xs = ds := by simpa [deref] using e
          obtain ⟨p, ws, rfl, sq, z, t⟩ := rx
          exact ⟨p, ws, rfl, .inr ⟨sq, fun p hp ko => h1 al1 _ (stp_upd hp) (env1.grow (upd_keep hp) ko) _ (new_tup env1 hp ko (Rps.rev t) (by rw [List.length_reverse]; exact z))⟩⟩
        | cell n =>
          obtain ⟨p, rfl, qp⟩ := rx
          simp only [deref, Option.map_eq_some_iff] at e
          obtain ⟨⟨bb, dd⟩, g1, g2⟩ := e
          have k := env1.cr.cell n bb dd p g1 qp
          simp only at g2
          subst g2
          exact False.elim k
        | _ => simp [deref] at e
      · rename_i ds e
        cases q
        obtain ⟨p, ws, e1, e2, e3⟩ := lst ds (by simp [lstC, e]) rfl
        exact ⟨p, ws, e1, .inl ⟨e2, e3⟩⟩
      · rename_i ds e
        cases q
        obtain ⟨p, ws, e1, e2, e3⟩ := lst ds (by simp [lstC, e]) rfl
        exact ⟨p, ws, e1, .inl ⟨e2, e3⟩⟩
      · cases q) fun _ => rfl
theorem fx_list {p : Pos} (hg : Gl X "list") (hm : X.mg "list" = none) (ha : EX X a (den G ea)) (hs : ea.isStar = false) (h1 : nst a = true) : FX X (.Call (.Name "list" p) [a] [] pos) (den G (.bi .list [ea])) :=
  (pe_callTy call_list_of hg hm boot_list (ea_cons ha hs ea_nil (star_cons h1)) (by decide +kernel) (by decide +kernel) (star_cons h1) (star_plain rfl)).off fun σ H Q _ ⟨O, al, s, env, h⟩ => by
    rw [den] at h
    refine ⟨O, al, s, env, h.bind.imp fun ds al1 s1 H1 st1 env1 h1 vs rs => ?_⟩
    cases q : biD s1.cs .list ds with
    | none => rw [q] at h1; exact h1.elim
    | some d =>
      rw [q] at h1
      match ds, rs, q with
      | [], _, q => simp [biD] at q
      | [x], rs, q =>
        obtain ⟨v, rfl, rx⟩ := rs.one_inv
        simp only [biD, bi1, Option.map_eq_some_iff] at q
        obtain ⟨xs, q1, rfl⟩ := q
        obtain ⟨b, ws, rfl, sq, z, t⟩ := seq_of env1 rx q1
        obtain ⟨ds', e', fin⟩ := After.ok h1 env1
        cases e'
        exact ⟨b, ws, rfl, sq, fun l hl ko => fin l ws hl ko t z⟩
      | [x, y], _, q => simp [biD, bi2] at q
      | _ :: _ :: _ :: _, _, q => simp [biD] at q
theorem fx_sorted {p : Pos} (hu : X.A.units + 66 < cLine) (hg : Gl X "sorted") (hm : X.mg "sorted" = none) (ha : EX X a (den G ea)) (hs : ea.isStar = false) (h1 : nst a = true) : FX X (.Call (.Name "sorted" p) [a] [] pos) (den G (.bi .sorted [ea])) :=
  (pe_callB (cr_sorted hu) hg hm boot_sorted (ea_cons ha hs ea_nil (star_cons h1)) (by decide +kernel) (by decide +kernel) (star_cons h1) (star_plain rfl)).off fun σ H Q _ ⟨O, al, s, env, h⟩ => by
    rw [den] at h
    refine ⟨O, al, s, env, h.bind.imp fun ds al1 s1 H1 st1 env1 h1 vs rs => ?_⟩
    cases q : biD s1.cs .sorted ds with
    | none => rw [q] at h1; exact h1.elim
    | some d =>
      rw [q] at h1
      match ds, rs, q with
      | [], _, q => simp [biD] at q
      | [x], rs, q =>
        obtain ⟨v, rfl, rx⟩ := rs.one_inv
        simp only [biD, bi1, sortedD] at q
        split at q
        · rename_i xs q1
          split at q
          · rename_i ok
            cases q
            obtain ⟨b, ws, rfl, sq, z, t⟩ := seq_of env1 rx q1
            obtain ⟨ds', e', fin⟩ := After.ok h1 env1
            cases e'
            exact ⟨b, ws, al1, _, xs, rfl, sq, t, ok, z, fun l ys hl ry hy ko => fin l ys hl ko ry hy⟩
          · cases q
        · cases q
      | [x, y], _, q => simp [biD, bi2] at q
      | _ :: _ :: _ :: _, _, q => simp [biD] at q
end
end Ev

set_option Elab.async false
set_option linter.all false
set_option maxRecDepth 100000
set_option maxHeartbeats 1000000
set_option autoImplicit false
/-! The evaluator, part L: what is walked, comprehensions. -/
namespace Ev
open PySem PySem.Spec PyProof.Rows L2
structure Tr (K : FragK) (al : List Addr) (F : Addr → Prop) (H : Hp) (al' : List Addr) (F' : Addr → Prop) (H' : Hp) : Prop where
  pre : al <+: al'
  keep : ∀ a o, ¬ F a → H a = some o → H' a = some o
  frb : ∀ a, F' a → F a ∨ H a = none
  mu : ∀ a, F a → Mut (H a)
  mu' : ∀ a, F' a → Mut (H' a)
  ko : KOff K H'
section
variable {K : FragK} {al al' al2 : List Addr} {F F' F2 : Addr → Prop} {H H' H2 : Hp}
theorem Tr.rp (t : Tr K al F H al' F' H') {d : D} {v : V} (h : Rp K al F H d v) : Rp K al' F' H' d v := Rp.keep t.pre t.keep t.frb t.mu t.mu' t.ko d v h
theorem Tr.rps (t : Tr K al F H al' F' H') {d : List D} {v : List V} (h : Rps K al F H d v) : Rps K al' F' H' d v := Rps.keep t.pre t.keep t.frb t.mu t.mu' t.ko d v h
theorem Tr.sqT (t : Tr K al F H al' F' H') {a : Addr} {vs : List V} (h : SqT K H a vs) : SqT K H' a vs := sqT_keep t.keep t.mu h
theorem Tr.sqR (t : Tr K al F H al' F' H') {a : Addr} {vs : List V} (h : SqR K H a vs) : SqR K H' a vs := sqR_keep t.keep t.mu h
theorem Tr.trans (t : Tr K al F H al' F' H') (u : Tr K al' F' H' al2 F2 H2) : Tr K al F H al2 F2 H2 where
  pre := t.pre.trans u.pre
  keep := fun x o n e => u.keep x o (fun z => (t.frb x z).elim n fun q => by rw [q] at e; cases e) (t.keep x o n e)
  frb := fun x z => by
    rcases u.frb x z with q | q
    · exact t.frb x q
    · by_cases n : F x
      · exact .inl n
      · refine .inr ?_
        cases e : H x with
        | none => rfl
        | some o => rw [t.keep x o n e] at q; cases q
  mu := t.mu
  mu' := u.mu'
  ko := u.ko
theorem Tr.grow (mu : ∀ a, F a → Mut (H a)) (k : ∀ a q, H a = some q → H' a = some q) (ko : KOff K H') : Tr K al F H al F H' := ⟨List.prefix_refl _, fun a o _ e => k a o e, fun _ f => .inl f, mu, fun a f => mut_keep k (mu a f), ko⟩
theorem Stp.tr {O : Addr → Prop} {cs cs' : Cs} (st : Stp al cs H al' cs' H') (c : Cel K O al cs H) (c' : Cel K O al' cs' H') : Tr K al (Forb O al cs) H al' (Forb O al' cs') H' :=
  ⟨st.pre, fun a o n => st.keep a o fun z => n (.inr z), forb_step st, fun _ => c.mut, fun _ => c'.mut, c'.koff⟩
end
/-! ### what is walked -/
def ItOk (K : FragK) (al : List Addr) (F : Addr → Prop) (H : Hp) (J : It) (items : List D) : Prop := items.length ≤ sizeLine ∧ ∃ G Y, Walk J items.length G Y ∧
  (∀ H', (∀ a, F a → Mut (H a)) → (∀ a o, ¬ F a → H a = some o → H' a = some o) → G H') ∧ (∀ i H' v H2, Y i H' v H2 → ∀ a q, H' a = some q → H2 a = some q) ∧ ∀ al' F' H', Tr K al F H al' F' H' →
  ∀ i v H2 d, items[i]? = some d → KOff K H2 → Y i H' v H2 → Rp K al' F' H2 d v
section
variable {K : FragK} {al : List Addr} {F : Addr → Prop} {H : Hp}
theorem it_list {a : Addr} {xs : List V} {ds : List D} (na : ¬ F a) (e : H a = some (.lst xs)) (z : xs.length ≤ sizeLine) (r : Rps K al F H ds xs) : ItOk K al F H (Itl K a) ds := by
  refine ⟨by rw [← r.len]; exact z, _, _, r.len ▸ walk_list (K := K) (a := a) (xs := xs), fun H' mu k => .inl (.inl (k _ _ na e)), fun i H' v H2 y a q e => by rw [y.1]; exact e, fun al' F' H' t i v H2 d hd ko y => ?_⟩
  obtain ⟨rfl, y⟩ := y
  exact (t.rps r).getv hd y
theorem it_ro {a : Addr} {xs : List V} {ds : List D} (q : SqR K H a xs) (z : xs.length ≤ sizeLine) (r : Rps K al F H ds xs) : ItOk K al F H (Itl K a) ds := by
  refine ⟨by rw [← r.len]; exact z, _, _, r.len ▸ walk_list (K := K) (a := a) (xs := xs), fun H' mu k => (sqR_keep k mu q).sq, fun i H' v H2 y a q e => by rw [y.1]; exact e, fun al' F' H' t i v H2 d hd ko y => ?_⟩
  obtain ⟨rfl, y⟩ := y
  exact (t.rps r).getv hd y
theorem it_tup {a : Addr} {xs : List V} {ds : List D} (e : SqT K H a xs) (z : xs.length ≤ sizeLine) (r : Rps K al F H ds xs) : ItOk K al F H (Itt K a) ds := by
  refine ⟨by rw [← r.len]; exact z, _, _, r.len ▸ walk_tup (K := K) (a := a) (xs := xs), fun H' mu k => sqT_keep k mu e, fun i H' v H2 y a q e => by rw [y.1]; exact e, fun al' F' H' t i v H2 d hd ko y => ?_⟩
  obtain ⟨rfl, y⟩ := y
  exact (t.rps r).getv hd y
theorem Walk_cast {J : It} {n m : Nat} {G : Hp → Prop} {Y : Nat → Hp → V → Hp → Prop} (e : n = m) (w : Walk J n G Y) : Walk J m G Y := e ▸ w
theorem rangeD_len (lo hi : Int) : (rangeD lo hi).length = (hi - lo).toNat := by unfold rangeD; simp
theorem it_rng {lo hi : Int} (ok : RgOk lo hi) : ItOk K al F H (Itr lo (hi - lo).toNat) (rangeD lo hi) := by
  refine ⟨by rw [rangeD_len, sizeLine_eq]; have := ok.2.2.2.2; omega, _, _, Walk_cast (rangeD_len lo hi).symm (walk_range (lo := lo)), fun H' mu k => trivial, fun i H' v H2 y a q e => by rw [y.1]; exact e, fun al' F' H' t i v H2 d hd ko y => ?_⟩
  obtain ⟨rfl, rfl⟩ := y
  unfold rangeD at hd
  simp only [List.getElem?_map, Option.map_eq_some_iff] at hd
  obtain ⟨j, h1, rfl⟩ := hd
  obtain ⟨h2, h3⟩ := List.getElem?_eq_some_iff.mp h1
  simp at h3
  subst h3
  rfl
theorem pair_rp {al' : List Addr} {F' : Addr → Prop} {H' : Hp} {d e : D} {x y : V} {T : Addr} (t : Tr K al F H al' F' H') (hT : H' T = none) (ko : KOff K (upd H' T (.tup [x, y]))) (r1 : Rp K al F H d x) (r2 : Rp K al F H e y) : Rp K al' F' (upd H' T (.tup [x, y])) (.tup [d, e]) (.ref T) := by
  have t2 := t.trans (Tr.grow t.mu' (upd_keep (o := .tup [x, y]) hT) ko)
  exact ⟨T, [x, y], rfl, .inl (.inl upd_same), by show 2 ≤ sizeLine; decide, x, [y], rfl, t2.rp r1, y, [], rfl, t2.rp r2, rfl⟩
theorem it_pairs {J : It} {G : Hp → Prop} {items : List D} {xs ys : Nat → Option V} (w : Walk J items.length G (YPair xs ys)) (z : items.length ≤ sizeLine) (g : ∀ H', (∀ a, F a → Mut (H a)) → (∀ a o, ¬ F a → H a = some o → H' a = some o) → G H')
    (r : ∀ (i : Nat) (d : D) (x y : V), items[i]? = some d → xs i = some x → ys i = some y → ∃ d1 d2, d = D.tup [d1, d2] ∧ Rp K al F H d1 x ∧ Rp K al F H d2 y) : ItOk K al F H J items := by
  refine ⟨z, _, _, w, g, fun i H' v H2 y => ?_, fun al' F' H' t i v H2 d hd ko y => ?_⟩
  · obtain ⟨T, x, y, rfl, hT, rfl, h1, h2⟩ := y
    exact upd_keep hT
  · obtain ⟨T, x, y, rfl, hT, rfl, h1, h2⟩ := y
    obtain ⟨d1, d2, rfl, r1, r2⟩ := r i d x y hd h1 h2
    exact pair_rp t hT ko r1 r2
theorem zip_get {a b : List D} {i : Nat} {d : D} (h : (List.zipWith (fun x y => D.tup [x, y]) a b)[i]? = some d) : ∃ x y, a[i]? = some x ∧ b[i]? = some y ∧ d = .tup [x, y] := by
  rw [List.getElem?_zipWith] at h
  split at h
  · rename_i x y h1 h2
    exact ⟨x, y, h1, h2, by cases h; rfl⟩
  · cases h
theorem zip_rp {as bs : List D} {xs ys : List V} (r : Rps K al F H as xs) (r2 : Rps K al F H bs ys) : ∀ (i : Nat) (d : D) (x y : V), (List.zipWith (fun x y => D.tup [x, y]) as bs)[i]? = some d → xs[i]? = some x → ys[i]? = some y → ∃ d1 d2, d = D.tup [d1, d2] ∧ Rp K al F H d1 x ∧ Rp K al F H d2 y := by
  intro i d x y hd hx hy
  obtain ⟨d1, d2, h1, h2, rfl⟩ := zip_get hd
  exact ⟨d1, d2, rfl, r.getv h1 hx, r2.getv h2 hy⟩
def enumD (a : List D) : List D := (List.range a.length).zipWith (fun i x => D.tup [.int (i : Nat), x]) a
theorem enumD_len (a : List D) : (enumD a).length = a.length := by unfold enumD; simp
theorem enum_rp {as : List D} {xs : List V} (r : Rps K al F H as xs) : ∀ (i : Nat) (d : D) (x y : V), (enumD as)[i]? = some d → some (V.int (i : Nat)) = some x → xs[i]? = some y → ∃ d1 d2, d = D.tup [d1, d2] ∧ Rp K al F H d1 x ∧ Rp K al F H d2 y := by
  intro i d x y hd hx hy
  cases hx
  unfold enumD at hd
  rw [List.getElem?_zipWith] at hd
  split at hd
  · rename_i j z h1 h2
    cases hd
    obtain ⟨h3, h4⟩ := List.getElem?_eq_some_iff.mp h1
    simp at h4
    subst h4
    exact ⟨.int (i : Nat), z, rfl, rfl, r.getv h2 hy⟩
  · cases hd
end

/-! ### targets -/
mutual
def gTg (K : FragK) : Tg → TG
  | .name i => gName i
  | .tup ts => gTup K ts.length (gTgs K ts)
def gTgs (K : FragK) : List Tg → TGs
  | [] => gNil
  | t :: ts => gCons (gTg K t) (gTgs K ts)
end
mutual
def tgIn (own : List Nat) : Tg → Bool
  | .name i => decide (i ∈ own)
  | .tup ts => tgsIn own ts
def tgsIn (own : List Nat) : List Tg → Bool
  | [] => true
  | t :: ts => tgIn own t && tgsIn own ts
end
theorem bindTs_len : ∀ {ts : List Tg} {ds : List D} {sl sl' : List (Option D)}, bindTs ts ds sl = some sl' → ts.length = ds.length
  | [], [], _, _, _ => rfl
  | [], _ :: _, _, _, h => by rw [bindTs] at h; cases h; all_goals simp
  | _ :: _, [], _, _, h => by rw [bindTs] at h; cases h; all_goals simp
  | t :: ts, d :: ds, sl, sl', h => by
    rw [bindTs] at h
    split at h
    · rename_i s1 e
      simp only [List.length_cons]
      rw [bindTs_len h]
    · cases h
section
variable {K : FragK} {O : Addr → Prop} {al : List Addr} {cs : Cs} {H : Hp}
theorem EnvR.set {sl : List (Option D)} {σ : L2.St} (env : EnvR K O al ⟨sl, cs⟩ σ H) {d : D} {v : V} (i : Nat) (r : Rp K al (Forb O al cs) H d v) : EnvR K O al ⟨sl.set i (some d), cs⟩ (σ.set i (some v)) H := by
  refine ⟨env.cr, by simpa using env.slen, fun j d' h => ?_⟩
  by_cases q : i = j
  · subst q
    have hl : i < sl.length := by
      have := (List.getElem?_eq_some_iff.mp h).1
      simpa using this
    have hl2 : i < σ.length := by rw [← env.slen]; exact hl
    rw [List.getElem?_set_self hl] at h
    cases h
    exact ⟨v, by rw [List.getElem?_set_self hl2], r⟩
  · rw [List.getElem?_set_ne q] at h
    obtain ⟨w, h1, h2⟩ := env.slot j d' h
    exact ⟨w, by rw [List.getElem?_set_ne q]; exact h1, h2⟩
theorem set_wipe_in {σ : L2.St} {i : Nat} {x : Option V} : ∀ {own : List Nat}, i ∈ own → wipe (σ.set i x) own = wipe σ own
  | [], h => by cases h
  | v :: vs, h => by
    show (wipe (σ.set i x) vs).set v none = (wipe σ vs).set v none
    by_cases q : i ∈ vs
    · rw [set_wipe_in q]
    · have e : i = v := by
        rcases List.mem_cons.mp h with e | e
        · exact e
        · exact absurd e q
      subst e
      have aux : ∀ ws : List Nat, wipe (σ.set i x) ws = if i ∈ ws then wipe σ ws else (wipe σ ws).set i x := by
        intro ws
        induction ws with
        | nil => rfl
        | cons w ws ih =>
          show (wipe (σ.set i x) ws).set w none = _
          rw [ih]
          by_cases q1 : i ∈ ws
          · simp only [q1, if_true, List.mem_cons, or_true]; rfl
          · simp only [q1, if_false, List.mem_cons, or_false]
            by_cases q2 : i = w
            · subst q2
              simp only [if_true]
              rw [List.set_set]; rfl
            · simp only [q2, if_false]
              rw [List.set_comm _ _ q2]; rfl
      rw [aux vs, if_neg q, List.set_set]
theorem wipe_wipe {σ : L2.St} : ∀ {own : List Nat}, wipe (wipe σ own) own = wipe σ own := by
  intro own
  have aux : ∀ ws us : List Nat, (∀ w ∈ ws, w ∈ us) → wipe (wipe σ ws) us = wipe σ us := by
    intro ws
    induction ws with
    | nil => intro us _; rfl
    | cons w ws ih =>
      intro us h
      show wipe ((wipe σ ws).set w none) us = wipe σ us
      rw [set_wipe_in (h w (by simp)), ih us fun x hx => h x (by simp [hx])]
  exact aux own own fun _ h => h
theorem EnvR.wipe {sl : List (Option D)} {σ : L2.St} (env : EnvR K O al ⟨sl, cs⟩ σ H) : ∀ own : List Nat, EnvR K O al ⟨wipeS sl own, cs⟩ (L2.wipe σ own) H
  | [] => env
  | v :: vs => by
    have e := env.wipe vs
    refine ⟨e.cr, by show ((wipeS sl vs).set v none).length = ((L2.wipe σ vs).set v none).length; simpa using e.slen, fun j d h => ?_⟩
    have h : ((wipeS sl vs).set v none)[j]? = some (some d) := h
    by_cases q : v = j
    · subst q
      have hl : v < (wipeS sl vs).length := by
        have := (List.getElem?_eq_some_iff.mp h).1
        simpa using this
      rw [List.getElem?_set_self hl] at h
      cases h
    · rw [List.getElem?_set_ne q] at h
      obtain ⟨w, h1, h2⟩ := e.slot j d h
      exact ⟨w, by show ((L2.wipe σ vs).set v none)[j]? = _; rw [List.getElem?_set_ne q]; exact h1, h2⟩
mutual
theorem bind_ok : ∀ (t : Tg) (d : D) (v : V) (sl sl' : List (Option D)) (σ : L2.St) (Q : L2.St → Hp → Prop), EnvR K O al ⟨sl, cs⟩ σ H → Rp K al (Forb O al cs) H d v → bindT t d sl = some sl' →
    (∀ σ', EnvR K O al ⟨sl', cs⟩ σ' H → (∀ own, tgIn own t = true → L2.wipe σ' own = L2.wipe σ own) → Q σ' H) → gTg K t v σ H Q
  | .name i, d, v, sl, sl', σ, Q, env, r, h, fin => by
    rw [bindT] at h
    split at h
    · cases h
      rw [gTg]
      refine fin _ (env.set i r) fun own ho => ?_
      rw [tgIn] at ho
      exact set_wipe_in (of_decide_eq_true ho)
    · cases h
  | .tup ts, d, v, sl, sl', σ, Q, env, r, h, fin => by
    rw [gTg]
    cases d with
    | tup ds =>
      rw [bindT] at h
      obtain ⟨a, vs, rfl, q, z, rs⟩ := r
      refine ⟨a, vs, rfl, q, by rw [rs.len, bindTs_len h], binds_ok ts ds vs sl sl' σ Q env rs h fun σ' e w => fin σ' e fun own ho => ?_⟩
      rw [tgIn] at ho
      exact w own ho
    | _ => simp [bindT] at h
theorem binds_ok : ∀ (ts : List Tg) (ds : List D) (vs : List V) (sl sl' : List (Option D)) (σ : L2.St) (Q : L2.St → Hp → Prop), EnvR K O al ⟨sl, cs⟩ σ H → Rps K al (Forb O al cs) H ds vs → bindTs ts ds sl = some sl' →
    (∀ σ', EnvR K O al ⟨sl', cs⟩ σ' H → (∀ own, tgsIn own ts = true → L2.wipe σ' own = L2.wipe σ own) → Q σ' H) → gTgs K ts vs σ H Q
  | [], [], vs, sl, sl', σ, Q, env, r, h, fin => by
    rw [bindTs] at h
    cases h
    rw [gTgs]
    exact ⟨r, fin σ env fun _ _ => rfl⟩
  | t :: ts, d :: ds, vs, sl, sl', σ, Q, env, r, h, fin => by
    rw [bindTs] at h
    obtain ⟨v, vr, rfl, r1, r2⟩ := r
    cases q : bindT t d sl with
    | none => rw [q] at h; cases h
    | some s1 =>
      rw [q] at h
      rw [gTgs]
      refine ⟨v, vr, rfl, bind_ok t d v sl s1 σ _ env r1 q fun σ1 e1 w1 => binds_ok ts ds vr s1 sl' σ1 Q e1 r2 h fun σ2 e2 w2 => fin σ2 e2 fun own ho => ?_⟩
      rw [tgsIn, Bool.and_eq_true] at ho
      rw [w2 own ho.2, w1 own ho.1]
  | [], d :: ds, vs, sl, sl', σ, Q, env, r, h, fin => by simp [bindTs] at h
  | t :: ts, [], vs, sl, sl', σ, Q, env, r, h, fin => by simp [bindTs] at h
end
end
end Ev

set_option Elab.async false
set_option linter.all false
set_option maxRecDepth 100000
set_option maxHeartbeats 1000000
set_option autoImplicit false
/-! The evaluator, part Zm: zip of a tuple and a list. -/
namespace Ev
open PySem PySem.Spec PyProof.Rows L2
/-- the tuple at a, the list at b as they stand at each turn, the items in new pairs -/
def ItzM (K : FragK) (a b : Addr) : It :=
  ⟨fun i H => ∃ (xs ys : List V) (x y : V), SqT K H a xs ∧ SqL K H b ys ∧ xs[i]? = some x ∧ ys[i]? = some y,
    fun i H v H' => ∃ T x y, v = .ref T ∧ H T = none ∧ H' = upd H T (.tup [x, y]) ∧ (∀ xs, SqT K H a xs → xs[i]? = some x) ∧ ∀ ys, SqL K H b ys → ys[i]? = some y,
    fun i H => ∃ xs ys : List V, SqT K H a xs ∧ SqL K H b ys ∧ min xs.length ys.length = i⟩
theorem turn_zipM {P : Program} {w : World} {K : FragK} {elts : List Expr} {kk : Nat} {tpos : Pos} {a b z TI TO i1 i2 : Addr} (S : ZipSep2 z TI TO i1 i2 [i1, a] [i2, b]) :
    Turn P w K (.Tuple elts kk tpos) (ItzM K a b) [z, TI, TO, i1, i2] z (fun i h => IsZip h z TI TO .none ∧ IsTupOf2 h TI (.ref i1) (.ref i2) ∧ (∃ x y, IsTupOf2 h TO x y) ∧ h.IsTupleIter i1 a i ∧ h.IsListIter i2 b i) where
  mem := by simp
  obj := fun i h st c hc => by
    obtain ⟨hz, hTI, ⟨x, y, hTO⟩, ⟨o1, e1, _, d1⟩, ⟨o2, e2, _, d2⟩⟩ := st
    have e' : c = z ∨ c = TI ∨ c = TO ∨ c = i1 ∨ c = i2 := by simpa using hc
    rcases e' with q | q | q | q | q
    · rw [q]; exact ⟨_, hz, fun v q => nomatch q⟩
    · rw [q]; exact ⟨_, hTI, fun v q => nomatch q⟩
    · rw [q]; exact ⟨_, hTO, fun v q => nomatch q⟩
    · rw [q]; exact ⟨o1, e1, fun v q => by rw [d1] at q; cases q⟩
    · rw [q]; exact ⟨o2, e2, fun v q => by rw [d2] at q; cases q⟩
  keep := fun i h h' st k => by
    obtain ⟨hz, hTI, ⟨x, y, hTO⟩, h1, h2⟩ := st
    exact ⟨k z (by simp) _ hz, k TI (by simp) _ hTI, ⟨x, y, k TO (by simp) _ hTO⟩, h1.at fun o q => k i1 (by simp) o q, h2.at fun o q => k i2 (by simp) o q⟩
  item := by
    intro X hP hw hK hc i pins s σ H E I hf st hg
    subst hP hw hK
    obtain ⟨hz, hTI, ⟨x0, y0, hTO⟩, h1, h2⟩ := st
    obtain ⟨xs, ys, x, y, hqx, hqy, hx, hy⟩ := hg
    obtain ⟨its, rv, p, _⟩ := I.tuple hqx
    obtain ⟨its2, rv2, p2, _⟩ := I.list hqy
    obtain ⟨u, hu, ru⟩ := rv.get hx
    obtain ⟨u2, hu2, ru2⟩ := rv2.get hy
    have hzl : z < s.heap.objs.size := Heap.lt_size hz
    have pt : s.heap.IsTuple a its.toArray := p
    have hai : a ≠ i1 := fun q => by
      obtain ⟨o2, ho2, hc2, _⟩ := id pt
      obtain ⟨o, ho, hc', _⟩ := id h1
      rw [q] at ho2
      rw [ho2] at ho
      cases ho
      rw [hc2] at hc'
      revert hc'
      simp
    have hbi : b ≠ i2 := fun q => by
      obtain ⟨o2, ho2, hc2, _⟩ := id p2.isList
      obtain ⟨o, ho, hc', _⟩ := id h2
      rw [q] at ho2
      rw [ho2] at ho
      cases ho
      rw [hc2] at hc'
      revert hc'
      simp
    have D1 := Draws.tuple (prog := X.prog) (w := X.w) (A := X.A.in1) (I.ok.hd hc) i1 a hai its.toArray
    have D2 := Draws.list (prog := X.prog) (w := X.w) (A := X.A.in1) (I.ok.hd hc) i2 b hbi its2.toArray
    refine wpAny_pyNext_zipD2_item S D1 D2 hz hTI hTO ⟨h1, pt⟩ ⟨h2, p2.isList⟩ (by have := (List.getElem?_eq_some_iff.mp hu).1; simpa using this) (by have := (List.getElem?_eq_some_iff.mp hu2).1; simpa using this) fun v1 v2 h' tk g1 g2 z' TO' st1' st2' hT hsz hk => ?_
    obtain rfl : u = v1 := by
      have q : its[i]? = some v1 := by simpa using g1
      rw [hu] at q
      cases q
      rfl
    obtain rfl : u2 = v2 := by
      have q : its2[i]? = some v2 := by simpa using g2
      rw [hu2] at q
      cases q
      rfl
    refine ⟨_, rfl, wpAny_letOwnedTupleGo_zip (s := { s with heap := h', toks := tk }) z' fun h'' z'' sb => ?_⟩
    have hT2 : h''.get? s.heap.objs.size = some { cls := .type "tuple", data := .seq #[u, u2] } := (sb.2 _ (Nat.ne_of_gt hzl)).trans hT
    have new : ObjOk X.prog X.w (upd H s.heap.objs.size (.tup [x, y])) h'' s.heap.objs.size (.tup [x, y]) :=
      ⟨by show 2 ≤ sizeLine; decide, [u, u2], .cons ru (.cons ru2 .nil), ⟨_, hT2, rfl, _, rfl⟩⟩
    have I1 : Inv X pins σ (upd H s.heap.objs.size (.tup [x, y])) { s with heap := h'', toks := tk } :=
      I.turnedNew (ch := [z, TI, TO, i1, i2]) (fun c o hb q => (sb.2 c (fun q' => hb (by simp [q']))).trans (hk c o (fun q' => hb (by simp [q'])) (fun q' => hb (by simp [q'])) (fun q' => hb (by simp [q'])) (fun q' => hb (by simp [q'])) q)) hf (Nat.le_refl _) new
    have ai1 : i1 ≠ z := fun q => S.zf1 (by simp [q])
    have ai2 : i2 ≠ z := fun q => S.zf2 (by simp [q])
    refine ⟨.ref s.heap.objs.size, _, I1, rfl, ⟨_, x, y, rfl, I.hok.fresh (Nat.le_refl _), rfl, fun l hl => by rw [I.tuple_inj hl hqx]; exact hx, fun l hl => by rw [I.list_inj hl hqy]; exact hy⟩, ⟨z'', ?_, ⟨u, u2, ?_⟩, ?_, ?_⟩, fun c hcm => ?_⟩
    · exact (sb.2 _ S.TIz).trans (hk _ _ S.TIz S.TITO S.TIi1 S.TIi2 hTI)
    · exact (sb.2 _ S.TOz).trans TO'
    · exact st1'.1.at fun o q => (sb.2 _ ai1).trans q
    · exact st2'.1.at fun o q => (sb.2 _ ai2).trans q
    · have hlt : c < s.heap.objs.size := by
        have e' : c = z ∨ c = TI ∨ c = TO ∨ c = i1 ∨ c = i2 := by simpa using hcm
        rcases e' with q | q | q | q | q
        · rw [q]; exact hzl
        · rw [q]; exact Heap.lt_size hTI
        · rw [q]; exact Heap.lt_size hTO
        · rw [q]; obtain ⟨_, e1, _⟩ := h1; exact Heap.lt_size e1
        · rw [q]; obtain ⟨_, e2, _⟩ := h2; exact Heap.lt_size e2
      rw [upd_ne (Nat.ne_of_lt hlt)]
      exact (hf c hcm).1
  done := by
    intro X hP hw hK hc i pins s σ H E I hf st hg
    subst hP hw hK
    obtain ⟨hz, hTI, ⟨x0, y0, hTO⟩, h1, h2⟩ := st
    obtain ⟨xs, ys, hqx, hqy, hend⟩ := hg
    obtain ⟨its, rv, p, _⟩ := I.tuple hqx
    obtain ⟨its2, rv2, p2, _⟩ := I.list hqy
    have l1 := rv.length
    have l2 := rv2.length
    have pt : s.heap.IsTuple a its.toArray := p
    have hai : a ≠ i1 := fun q => by
      obtain ⟨o2, ho2, hc2, _⟩ := id pt
      obtain ⟨o, ho, hc', _⟩ := id h1
      rw [q] at ho2
      rw [ho2] at ho
      cases ho
      rw [hc2] at hc'
      revert hc'
      simp
    have hbi : b ≠ i2 := fun q => by
      obtain ⟨o2, ho2, hc2, _⟩ := id p2.isList
      obtain ⟨o, ho, hc', _⟩ := id h2
      rw [q] at ho2
      rw [ho2] at ho
      cases ho
      rw [hc2] at hc'
      revert hc'
      simp
    have D1 := Draws.tuple (prog := X.prog) (w := X.w) (A := X.A.in1) (I.ok.hd hc) i1 a hai its.toArray
    have D2 := Draws.list (prog := X.prog) (w := X.w) (A := X.A.in1) (I.ok.hd hc) i2 b hbi its2.toArray
    have s1 : its.toArray.size = xs.length := by simp; omega
    have s2 : its2.toArray.size = ys.length := by simp; omega
    exact wpAny_pyNext_zipD2_end S D1 D2 hz hTI hTO ⟨h1, pt⟩ ⟨h2, p2.isList⟩ (by omega) (by omega) (by omega) fun h' tk hk => ⟨rfl, I.turnedL (t' := tk) (ch := [z, TI, TO, i1, i2]) (fun c o hb q =>
      hk c o (fun q' => hb (by simp [q'])) (fun q' => hb (by simp [q'])) (fun q' => hb (by simp [q'])) (fun q' => hb (by simp [q'])) q) hf⟩
  self := fun A i s Q E st h => wpAny_pyIter_zip st.1 h
theorem walk_zipM {K : FragK} {a b : Addr} {xs ys : List V} {n : Nat} (hn : n = min xs.length ys.length) : Walk (ItzM K a b) n (fun H => SqT K H a xs ∧ SqL K H b ys) (YPair (fun i => xs[i]?) (fun i => ys[i]?)) := by
  subst hn
  refine ⟨fun i _ hi q => ?_, fun _ q => ⟨xs, ys, q.1, q.2, rfl⟩, fun i H v H' _ q y => ?_⟩
  · have h1 : i < xs.length := by omega
    have h2 : i < ys.length := by omega
    exact ⟨xs, ys, xs[i], ys[i], q.1, q.2, by simp [h1], by simp [h2]⟩
  · obtain ⟨T, x, z, h1, h2, h3, h4, h5⟩ := y
    exact ⟨T, x, z, h1, h2, h3, h4 xs q.1, h5 ys q.2⟩
theorem notin2 {x y z : Nat} (h1 : x ≠ y) (h2 : x ≠ z) : x ∉ [y, z] := by simp [h1, h2]
theorem zsep {g a b : Nat} (ha : a < g) (hb : b < g) : ZipSep2 (g + 4) (g + 2) (g + 3) g (g + 1) [g, a] [g + 1, b] where
  TIz := show g + 2 ≠ g + 4 by omega
  TOz := show g + 3 ≠ g + 4 by omega
  TITO := show g + 2 ≠ g + 3 by omega
  TIi1 := show g + 2 ≠ g by omega
  mem1 := List.mem_cons_self
  zf1 := notin2 (x := g + 4) (by omega) (by omega)
  Tf1 := notin2 (x := g + 3) (by omega) (by omega)
  TIi2 := show g + 2 ≠ g + 1 by omega
  mem2 := List.mem_cons_self
  zf2 := notin2 (x := g + 4) (by omega) (by omega)
  Tf2 := notin2 (x := g + 3) (by omega) (by omega)
  sep1_2 := notin2 (x := g) (by omega) (by omega)
  sep2_1 := notin2 (x := g + 1) (by omega) (by omega)
def iZipM (K : FragK) (ta : TA) : TI := fun σ H R => ta σ H fun vs H1 => ∃ a b xs ys, vs = [.ref a, .ref b] ∧ ((SqL K H1 a xs ∧ SqL K H1 b ys ∧ R (Itz K a b) H1) ∨ (SqT K H1 a xs ∧ SqT K H1 b ys ∧ R (RZ.ItzT K a b) H1) ∨ (SqT K H1 a xs ∧ SqL K H1 b ys ∧ R (ItzM K a b) H1))
theorem pi_zipM {X : Cx} {e e2 : Expr} {ta : TA} {p pos tpos : Pos} {elts : List Expr} {kk : Nat} (hg : Gl X "zip") (hm : X.mg "zip" = none) (ha : PA X [e, e2] ta)
    (hs : starEach [e, e2] X.env = (false, eval e X.env) :: starEach [e2] X.env := by rfl) (hpl : (backTo pos (starEach [e2] X.env)).any (·.1) = false := by rfl) :
    PI X (.Tuple elts kk tpos) (.Call (.Name "zip" p) [e, e2] [] pos) (iZipM X.K ta) := by
  refine ⟨fun pins s σ H R I h => ?_⟩
  refine Call_ (ld_blt I hg hm PyProof.Rows.boot_zip (PyProof.Rows.callWith_type1 (thn (ha.run pos pins s σ H _ I h) fun us s1 ⟨vs, H1, I1, r1, q1⟩ => ?_) hs hpl))
  obtain ⟨a, b, xs, ys, ex, q1⟩ := q1
  subst ex
  cases r1 with
  | cons r rr =>
    cases rr with
    | cons r' rr =>
      cases rr
      cases r
      cases r'
      have fresh5 : ∀ c, c ∈ [s1.heap.objs.size + 4, s1.heap.objs.size + 2, s1.heap.objs.size + 3, s1.heap.objs.size, s1.heap.objs.size + 1] → FpOk X pins H1 c := fun c hcm => by
        have e' : c = s1.heap.objs.size + 4 ∨ c = s1.heap.objs.size + 2 ∨ c = s1.heap.objs.size + 3 ∨ c = s1.heap.objs.size ∨ c = s1.heap.objs.size + 1 := by simpa using hcm
        have hle : s1.heap.objs.size ≤ c := by
          rcases e' with z | z | z | z | z
          · rw [z]; exact Nat.le_add_right _ _
          · rw [z]; exact Nat.le_add_right _ _
          · rw [z]; exact Nat.le_add_right _ _
          · rw [z]; exact Nat.le_refl _
          · rw [z]; exact Nat.le_add_right _ _
        exact I1.fpOk hle (I1.hok.fresh hle)
      rcases q1 with ⟨hqx, hqy, q⟩ | ⟨hqx, hqy, q⟩ | ⟨hqx, hqy, q⟩
      · obtain ⟨its, rv, p1, _⟩ := I1.list hqx
        obtain ⟨its2, rv2, p2, _⟩ := I1.list hqy
        refine call_zip_2 p1.isList p2.isList fun h' hz hTI hTO h1 h2 hsz hk => wpAny_pyIter_zip hz ?_
        have I2 : Inv X pins σ H1 { s1 with heap := h' } := I1.kept (t' := s1.toks) hk
        exact ⟨s1.heap.objs.size + 4, [s1.heap.objs.size + 4, s1.heap.objs.size + 2, s1.heap.objs.size + 3, s1.heap.objs.size, s1.heap.objs.size + 1], _, _, H1, rfl, I2, turn_zip (PySem.W.ktu_apart s1.heap.objs.size a b p1.lt p2.lt), ⟨hz, hTI, ⟨_, _, hTO⟩, h1, h2⟩, fresh5, q⟩
      · obtain ⟨its, rv, p1, _⟩ := I1.tuple hqx
        obtain ⟨its2, rv2, p2, _⟩ := I1.tuple hqy
        obtain ⟨o1, ho1, _⟩ := id p1
        obtain ⟨o2, ho2, _⟩ := id p2
        refine RZ.call_zipT (show s1.heap.IsTuple a its.toArray from p1) (show s1.heap.IsTuple b its2.toArray from p2) fun h' hz hTI hTO h1 h2 hsz hk => wpAny_pyIter_zip hz ?_
        have I2 : Inv X pins σ H1 { s1 with heap := h' } := I1.kept (t' := s1.toks) hk
        exact ⟨s1.heap.objs.size + 4, [s1.heap.objs.size + 4, s1.heap.objs.size + 2, s1.heap.objs.size + 3, s1.heap.objs.size, s1.heap.objs.size + 1], _, _, H1, rfl, I2, RZ.turn_zipT (PySem.W.ktu_apart s1.heap.objs.size a b (Heap.lt_size ho1) (Heap.lt_size ho2)), ⟨hz, hTI, ⟨_, _, hTO⟩, h1, h2⟩, fresh5, q⟩
      · obtain ⟨its, rv, p1, _⟩ := I1.tuple hqx
        obtain ⟨its2, rv2, p2, _⟩ := I1.list hqy
        obtain ⟨o1, ho1, _⟩ := id p1
        have la : a < s1.heap.objs.size := Heap.lt_size ho1
        have lb : b < s1.heap.objs.size := p2.lt
        refine zip_begins2 (begins_tuple a its.toArray) (begins_list b its2.toArray) (show s1.heap.IsTuple a its.toArray from p1) p2.isList fun h' hz hTI hTO h1 h2 hsz hk => wpAny_pyIter_zip hz ?_
        have I2 : Inv X pins σ H1 { s1 with heap := h' } := I1.kept (t' := s1.toks) hk
        refine ⟨s1.heap.objs.size + 4, [s1.heap.objs.size + 4, s1.heap.objs.size + 2, s1.heap.objs.size + 3, s1.heap.objs.size, s1.heap.objs.size + 1], _, _, H1, rfl, I2, turn_zipM (a := a) (b := b) (z := s1.heap.objs.size + 4) (TI := s1.heap.objs.size + 2) (TO := s1.heap.objs.size + 3) (i1 := s1.heap.objs.size) (i2 := s1.heap.objs.size + 1) ?_, ⟨hz, hTI, ⟨_, _, hTO⟩, ⟨_, h1, rfl, rfl⟩, ⟨_, h2, rfl, rfl⟩⟩, fresh5, q⟩
        exact zsep la lb
end Ev

set_option Elab.async false
set_option linter.all false
set_option maxRecDepth 100000
set_option maxHeartbeats 1000000
set_option autoImplicit false
/-! The evaluator, part C: comprehensions. -/
namespace Ev
open PySem PySem.Spec PyProof.Rows L2
def tI (K : FragK) (k : SK) (ds : M (List D)) : TI := fun σ H R => ∃ O al s, EnvR K O al s σ H ∧ After K O al s σ H (ds s) fun xs al' s' H' => ∃ items, srcD k xs = some items ∧ ∀ J, ItOk K al' (Forb O al' s'.cs) H' J items → R J H'
def gK (K : FragK) (g : TG) : TG := fun v σ H Q => KOff K H → g v σ H Q
theorem pg_k {X : Cx} {e : Expr} {g : TG} (h : PG X e g) : PG X e (gK X.K g) := ⟨fun pins s σ H v u Q I r q => h.run pins s σ H v u Q I r (q (koff_of I))⟩
def hm (H : Hp) (D : Addr) : Hp := fun a => if a = D then none else H a
theorem hm_ne {H : Hp} {D a : Addr} (h : a ≠ D) : hm H D a = H a := if_neg h
theorem hm_some {H : Hp} {D a : Addr} {o : HO} (h : hm H D a = some o) : a ≠ D ∧ H a = some o := by
  unfold hm at h
  split at h
  · cases h
  · exact ⟨by assumption, h⟩
theorem hm_upd {H : Hp} {D : Addr} {o : HO} : hm (upd H D o) D = hm H D := by
  funext a
  unfold hm
  split
  · rfl
  · rw [upd_ne (by assumption)]
theorem upd_hm {H : Hp} {D : Addr} {o : HO} (h : H D = some o) : upd (hm H D) D o = H := by
  funext a
  by_cases q : a = D
  · rw [q, upd_same, h]
  · rw [upd_ne q, hm_ne q]
section
variable {K : FragK} {O : Addr → Prop} {al : List Addr} {cs : Cs} {H : Hp} {D0 : Addr}
/-- one more list that is not to be looked at -/
def orD (O : Addr → Prop) (D0 : Addr) : Addr → Prop := fun a => O a ∨ a = D0
theorem cel_own (c : Cel K O al cs H) {vs : List V} (hD : H D0 = none) (ko : KOff K (upd H D0 (.lst vs))) : Cel K (orD O D0) al cs (upd H D0 (.lst vs)) ∧ ∀ d v, Rp K al (Forb O al cs) H d v → Rp K al (Forb (orD O D0) al cs) (upd H D0 (.lst vs)) d v := by
  have keep : ∀ a o, ¬ Forb O al cs a → H a = some o → upd H D0 (.lst vs) a = some o := fun a o _ e => upd_keep hD a o e
  have frb : ∀ a, Forb (orD O D0) al cs a → Forb O al cs a ∨ H a = none := fun a f => by
    rcases f with (f | f) | f
    · exact .inl (.inl f)
    · exact .inr (by rw [f]; exact hD)
    · exact .inl (.inr f)
  have mu' : ∀ a, Forb (orD O D0) al cs a → Mut (upd H D0 (.lst vs) a) := fun a f => by
    by_cases q : a = D0
    · rw [q, upd_same]; trivial
    · rw [upd_ne q]
      rcases f with (f | f) | f
      · exact (c.om a f).1
      · exact absurd f q
      · exact c.mutL f
  have t : Tr K al (Forb O al cs) H al (Forb (orD O D0) al cs) (upd H D0 (.lst vs)) := ⟨List.prefix_refl _, keep, frb, fun _ => c.mut, mu', ko⟩
  refine ⟨⟨c.len, c.nd, fun n b d a h1 h2 => ?_, ko, fun a f => ?_, c.low⟩, fun d v r => t.rp r⟩
  · have x := c.cell n b d a h1 h2
    cases d with
    | lst ds =>
      obtain ⟨ws, e, z, r⟩ := x
      exact ⟨ws, upd_keep hD _ _ e, z, t.rps r⟩
    | _ => exact False.elim x
  · by_cases q : a = D0
    · subst q
      exact ⟨by rw [upd_same]; trivial, fun m => mut_none (c.there m) hD⟩
    · rw [upd_ne q]
      rcases f with f | f
      · exact c.om a f
      · exact absurd f q
theorem cel_put (c : Cel K (orD O D0) al cs H) {vs : List V} : Cel K (orD O D0) al cs (upd H D0 (.lst vs)) ∧ Tr K al (Forb (orD O D0) al cs) H al (Forb (orD O D0) al cs) (upd H D0 (.lst vs)) := by
  have hD : Forb (orD O D0) al cs D0 := .inl (.inr rfl)
  have hne : H D0 ≠ none := fun e => mut_none (c.mut hD) e
  have ko := koff_upd (o := .lst vs) c.koff hne
  have mu' : ∀ a, Forb (orD O D0) al cs a → Mut (upd H D0 (.lst vs) a) := fun a f => by
    by_cases q : a = D0
    · rw [q, upd_same]; trivial
    · rw [upd_ne q]; exact c.mut f
  have t : Tr K al (Forb (orD O D0) al cs) H al (Forb (orD O D0) al cs) (upd H D0 (.lst vs)) := ⟨List.prefix_refl _, fun a o n e => by rw [upd_ne (fun q => n (by rw [q]; exact hD))]; exact e, fun _ f => .inl f, fun _ => c.mut, mu', ko⟩
  refine ⟨⟨c.len, c.nd, fun n b d a h1 h2 => ?_, ko, fun a f => ⟨mu' a (.inl f), (c.om a f).2⟩, c.low⟩, t⟩
  have x := c.cell n b d a h1 h2
  have na : a ≠ D0 := fun q => (c.om D0 (.inr rfl)).2 (by rw [← q]; exact List.mem_of_getElem? h2)
  cases d with
  | lst ds =>
    obtain ⟨ws, e, z, r⟩ := x
    exact ⟨ws, by rw [upd_ne na]; exact e, z, t.rps r⟩
  | _ => exact False.elim x
theorem koff_hm (ko : KOff K H) : KOff K (hm H D0) := fun a o e => by
  unfold hm
  split
  · rfl
  · exact ko a o e
theorem cel_off (c : Cel K (orD O D0) al cs H) (nO : ¬ O D0) : Cel K O al cs (hm H D0) ∧ Tr K al (Forb (orD O D0) al cs) H al (Forb O al cs) (hm H D0) := by
  have nal := (c.om D0 (.inr rfl)).2
  have mu' : ∀ a, Forb O al cs a → Mut (hm H D0 a) := fun a f => by
    have na : a ≠ D0 := fun q => by
      rcases f with f | ⟨n, d, _, f⟩
      · exact nO (q ▸ f)
      · exact nal (q ▸ List.mem_of_getElem? f)
    rw [hm_ne na]
    rcases f with f | f
    · exact c.mut (.inl (.inl f))
    · exact c.mut (.inr f)
  have t : Tr K al (Forb (orD O D0) al cs) H al (Forb O al cs) (hm H D0) := ⟨List.prefix_refl _, fun a o n e => by rw [hm_ne (fun q => n (by rw [q]; exact .inl (.inr rfl)))]; exact e, fun a f => .inl (f.elim (fun z => .inl (.inl z)) .inr), fun _ => c.mut, mu', koff_hm c.koff⟩
  refine ⟨⟨c.len, c.nd, fun n b d a h1 h2 => ?_, koff_hm c.koff, fun a f => ⟨mu' a (.inl f), (c.om a (.inl f)).2⟩, c.low⟩, t⟩
  have x := c.cell n b d a h1 h2
  have na : a ≠ D0 := fun q => nal (by rw [← q]; exact List.mem_of_getElem? h2)
  cases d with
  | lst ds =>
    obtain ⟨ws, e, z, r⟩ := x
    exact ⟨ws, by rw [hm_ne na]; exact e, z, t.rps r⟩
  | _ => exact False.elim x
theorem stp_hm {al' : List Addr} {cs' : Cs} {H' : Hp} (st : Stp al cs H al' cs' H') : Stp al cs (hm H D0) al' cs' (hm H' D0) := ⟨st.pre, fun a o n e => by
    obtain ⟨e1, e2⟩ := hm_some e
    rw [hm_ne e1]
    exact st.keep a o n e2, fun a f => (st.frb a f).elim .inl fun q => .inr (by unfold hm; split; rfl; exact q)⟩
end
/-- a comprehension's reading -/
theorem lc_read {K : FragK} {G : Gf} {elt : E} {t : Tg} {k : SK} {ss ifs : List E} {own : List Nat} (ho : tgIn own t = true) {σ : L2.St} {H : Hp} {Q : VK} (h : tF K (den G (.lc elt t k ss ifs own)) σ H Q) :
    tLc (tI K k (denL G ss)) (gK K (gTg K t)) (tT K (denI G ifs)) (tD K (den G elt)) own σ H fun v H' => KOff K H' → Q v H' := by
  obtain ⟨O, al, s, env, h⟩ := h
  rw [den] at h
  refine ⟨O, al, s, env, h.bind.imp fun ds al1 s1 H1 st1 env1 h => ?_⟩
  cases hi : srcD k ds with
  | none => rw [hi] at h; exact h.elim
  | some items =>
    rw [hi] at h
    simp only at h
    refine ⟨items, rfl, fun J it D0 hD => ?_⟩
    obtain ⟨hz, Gp, Y, w, gst, ykp, stab⟩ := it
    cases hl : lcL (wipeS s1.sl own) t (denI G ifs) (den G elt) items [] s1.cs with
    | none => rw [hl] at h; exact h.elim
    | some p =>
      obtain ⟨ys, cse⟩ := p
      rw [hl] at h
      simp only at h
      have nO : ¬ O D0 := fun f => mut_none (env1.cr.om D0 f).1 hD
      have hm1 : hm H1 D0 = H1 := by
        funext a
        unfold hm
        split
        · rename_i e; rw [e, hD]
        · rfl
      let Pv : Nat → Hp → Prop := fun i H => (∀ a o, ¬ Forb O al1 s1.cs a → H1 a = some o → H a = some o) ∧ (KOff K H → ∃ al' cs' acc vs, lcL (wipeS s1.sl own) t (denI G ifs) (den G elt) (items.drop i) acc cs' = some (ys, cse) ∧ Cel K (orD O D0) al' cs' H ∧
        Stp al1 s1.cs H1 al' cs' (hm H D0) ∧ H D0 = some (.lst vs) ∧ Rps K al' (Forb (orD O D0) al' cs') H acc vs ∧ vs.length ≤ i)
      have trs : ∀ {H : Hp} {al' : List Addr} {cs' : Cs}, Cel K (orD O D0) al' cs' H → Stp al1 s1.cs H1 al' cs' (hm H D0) → Tr K al1 (Forb O al1 s1.cs) H1 al' (Forb (orD O D0) al' cs') H := fun {H al' cs'} c st =>
        ⟨st.pre, fun a o n e => (hm_some (st.keep a o (fun z => n (.inr z)) e)).2, fun a f => by
          rcases f with (f | f) | f
          · exact .inl (.inl f)
          · exact .inr (by rw [f]; exact hD)
          · exact (st.frb a f).elim (fun z => .inl (.inr z)) .inr, fun _ => env1.cr.mut, fun _ => c.mut, c.koff⟩
      refine lc_it w Pv ?_ (fun i H _ p => gst H (fun _ => env1.cr.mut) p.1) ?_ ?_
      · refine ⟨fun a o _ e => upd_keep hD a o e, fun ko => ?_⟩
        obtain ⟨c, _⟩ := cel_own env1.cr hD ko
        exact ⟨al1, s1.cs, [], [], by simpa using hl, c, by rw [hm_upd, hm1]; exact .refl, upd_same, rfl, Nat.le_refl _⟩
      · rintro i x H H' hin ⟨hk, p⟩ y ko'
        have kp := ykp i H x H' y
        have ko : KOff K H := fun a o e => by
          cases q : H a with
          | none => rfl
          | some o' =>
            have := kp a o' q
            rw [ko' a o e] at this
            cases this
        obtain ⟨al', cs', acc, vs, e, c, st, hv, rs, z⟩ := p ko
        have hd : items[i]? = some items[i] := List.getElem?_eq_getElem hin
        have rx := stab al' _ H (trs c st) i x H' _ hd ko' y
        have c' := c.grow kp ko'
        have st' : Stp al1 s1.cs H1 al' cs' (hm H' D0) := st.trans (stp_hm (stp_grow kp))
        have hv' := kp _ _ hv
        have rs' := rs.grow c kp ko'
        have t' := trs c' st'
        have env' : EnvR K (orD O D0) al' ⟨s1.sl, cs'⟩ σ H' := ⟨c', env1.slen, fun j d h => let ⟨v, h1, h2⟩ := env1.slot j d h; ⟨v, h1, t'.rp h2⟩⟩
        rw [List.drop_eq_getElem_cons hin, lcL] at e
        cases hb : bindT t items[i] (wipeS s1.sl own) with
        | none => rw [hb] at e; cases e
        | some sl' =>
          rw [hb] at e
          simp only at e
          refine bind_ok t _ x _ sl' _ _ (env'.wipe own) rx hb fun σ2 env2 hw => ⟨by rw [hw own ho, wipe_wipe], orD O D0, al', _, env2, ?_⟩
          have live : ∀ {H2 : Hp} {al2 : List Addr} {cs2 : Cs}, Stp al' cs' H' al2 cs2 H2 → H2 D0 = some (.lst vs) := fun st2 => st2.keep D0 _ (fun ⟨n, d, _, q⟩ => (c'.om D0 (.inr rfl)).2 (List.mem_of_getElem? q)) hv'
          have keepD : ∀ {H2 : Hp} {al2 : List Addr} {cs2 : Cs}, Stp al' cs' H' al2 cs2 H2 → ∀ a o, ¬ Forb O al1 s1.cs a → H1 a = some o → H2 a = some o := fun {H2 al2 cs2} st2 a o n e => by
            have q := (st'.trans (stp_hm (D0 := D0) st2)).keep a o (fun z => n (.inr z)) e
            exact (hm_some q).2
          cases ht : denI G ifs ⟨sl', cs'⟩ with
          | no => rw [ht] at e; cases e
          | ok b s2 =>
            rw [ht] at e
            cases b with
            | bl b =>
              cases b with
              | true =>
                simp only at e
                refine fun al2 H2 st2 env3 => ⟨true, rfl, ?_⟩
                show (if true = true then _ else _)
                rw [if_pos rfl]
                refine ⟨orD O D0, al2, s2, env3, ?_⟩
                cases he : den G elt s2 with
                | no => rw [he] at e; cases e
                | ok y s3 =>
                  rw [he] at e
                  simp only at e
                  intro al3 H3 st3 env4 v rv
                  have st4 := st2.trans st3
                  refine ⟨vs, live st4, Nat.lt_of_le_of_lt z (Nat.lt_of_lt_of_le hin hz), ?_⟩
                  obtain ⟨c5, t5⟩ := cel_put (vs := vs ++ [v]) env4.cr
                  refine ⟨fun a o n e => ?_, fun ko5 => ⟨al3, s3.cs, acc ++ [y], vs ++ [v], e, c5, ?_, upd_same, ?_, by simpa using z⟩⟩
                  · have na : a ≠ D0 := fun q => by rw [q, hD] at e; cases e
                    rw [upd_ne na]
                    exact keepD st4 a o n e
                  · rw [hm_upd]
                    exact st'.trans (stp_hm st4)
                  · exact t5.rps ((rs'.stp st4 c' env4.cr).app (Rps.one rv))
              | false =>
                simp only at e
                refine fun al2 H2 st2 env3 => ⟨false, rfl, ?_⟩
                show (if false = true then _ else _)
                rw [if_neg Bool.false_ne_true]
                exact ⟨keepD st2, fun ko3 => ⟨al2, s2.cs, acc, vs, e, env3.cr, st'.trans (stp_hm st2), live st2, rs'.stp st2 c' env3.cr, Nat.le_succ_of_le z⟩⟩
            | _ => simp at e
      · rintro H ⟨_, p⟩ ko
        obtain ⟨al', cs', acc, vs, e, c, st, hv, rs, z⟩ := p ko
        rw [List.drop_length, lcL] at e
        cases e
        obtain ⟨c2, t2⟩ := cel_off c nO
        have env2 := env1.stp st c2
        obtain ⟨ds, e, fin⟩ := h al' (hm H D0) st env2
        cases e
        have eu := upd_hm (o := .lst vs) hv
        have q := fin D0 vs (if_pos rfl) (by rw [eu]; exact ko) (t2.rps rs) (Nat.le_trans z hz)
        rw [eu] at q
        exact q
end Ev

set_option Elab.async false
set_option linter.all false
set_option maxRecDepth 100000
set_option maxHeartbeats 1000000
set_option autoImplicit false
/-! The evaluator, part T: enumerate over a tuple; the sources. -/
namespace Ev
open PySem PySem.Spec PyProof.Rows L2
theorem meets_enumB {v : Value} {o : Obj} {H : Heap → Prop} (B : Begins v o H) :
    Meets (Builtin.«enumerate.__new__» ⟨[.type "enumerate", v], []⟩) (fun _ R s => H s.heap ∧
      R (.ok (.ret (.ref (s.heap.push o).objs.size))) { s with heap := (s.heap.push o).push { cls := .type "enumerate", data := .fields #[.none, .bool false, .ref s.heap.objs.size, rawInt 0, .none, .none] } }) :=
  .of_wp fun prog w A R s h => by
    obtain ⟨hp, g, d, tk, os⟩ := s; obtain ⟨h1, h⟩ := h
    have hsub := sub_enumerate
    have q1 : ∀ {A' : Around} {E : Value → Shared → Prop} {Q : Value → Shared → Prop}, Q (.ref hp.objs.size) ⟨hp.push o, g, d, tk, os⟩ → wpAny (model prog w) A' (pyIter v) Q E ⟨hp, g, d, tk, os⟩ :=
      fun q => B.iter prog w _ _ ⟨hp, g, d, tk, os⟩ _ h1 q
    wp_walk using q1
    refine wpAny_stack_any fun st => wpAny_pure ?_
    split
    · rename_i c _ _ _ _ _
      cases (c == Value.type "enumerate")
      · wp_walk using q1
        exact ⟨_, rfl, h⟩
      · wp_walk using q1
        exact ⟨_, rfl, h⟩
    · wp_walk using q1
      exact ⟨_, rfl, h⟩
section
variable {prog : Program} {w : World} {A : Around} {E : Value → Shared → Prop} {s : Shared}
theorem enum1_begins {v : Value} {o : Obj} {H : Heap → Prop} {Q : Value → Shared → Prop} (B : Begins v o H) (h1 : H s.heap)
    (h : ∀ h', IsEnum h' (s.heap.objs.size + 1) s.heap.objs.size 0 .none → h'.get? s.heap.objs.size = some o → h'.objs.size = s.heap.objs.size + 2 →
      (∀ b o, s.heap.get? b = some o → h'.get? b = some o) → Q (.ref (s.heap.objs.size + 1)) { s with heap := h' }) :
    wpAny (model prog w) A (call (.type "enumerate") [v]) Q E s := by
  refine callType_new F.called_enumerate (by decide) (F.typeCall_enumerate_1 _) (F.newCall_enumerate_1 _) (fun obj => F.args_object_init_2 obj _) F.entry_enumerate_new
    (meets_enumB B) ⟨h1, ?_⟩
  have hz : (s.heap.push o).objs.size = s.heap.objs.size + 1 := Heap.size_push ..
  show _ ∧ _
  rw [hz]
  have he : IsEnum ((s.heap.push o).push { cls := .type "enumerate", data := .fields #[.none, .bool false, .ref s.heap.objs.size, rawInt 0, .none, .none] }) (s.heap.objs.size + 1) s.heap.objs.size 0 .none := by
    have := Heap.get?_push_size (s.heap.push o) (o := { cls := .type "enumerate", data := .fields #[.none, .bool false, .ref s.heap.objs.size, rawInt 0, .none, .none] }) rfl
    rw [hz] at this; exact this
  refine ⟨⟨_, he, rfl⟩, h _ he (Heap.get?_push_of_some _ (Heap.get?_push_size _ B.free)) (by rw [Heap.size_push, hz]) fun b o x => Heap.get?_push_of_some _ (Heap.get?_push_of_some _ x)⟩
end
/-- the tuple at a, each item in a new pair -/
def IteT (K : FragK) (a : Addr) : It :=
  ⟨fun i H => ∃ (xs : List V) (x : V), SqT K H a xs ∧ xs[i]? = some x, fun i H v H' => ∃ T x, v = .ref T ∧ H T = none ∧ H' = upd H T (.tup [.int (i : Nat), x]) ∧ ∀ xs, SqT K H a xs → xs[i]? = some x, fun i H => ∃ xs : List V, SqT K H a xs ∧ xs.length = i⟩
theorem turn_enumT {P : Program} {w : World} {K : FragK} {elts : List Expr} {kk : Nat} {tpos : Pos} (a e it : Addr) :
    Turn P w K (.Tuple elts kk tpos) (IteT K a) [e, it] e (fun i h => (∃ old, IsEnum h e it ((i : Nat) : Int) old) ∧ h.IsTupleIter it a i ∧ e ≠ it) where
  mem := by simp
  obj := fun i h st b hb => by
    obtain ⟨⟨old, he⟩, ⟨o, ho, hc, hd⟩, _⟩ := st
    have e' : b = e ∨ b = it := by simpa using hb
    rcases e' with z | z
    · rw [z]; exact ⟨_, he, fun v q => nomatch q⟩
    · rw [z]; exact ⟨o, ho, fun v q => by rw [hd] at q; cases q⟩
  keep := fun i h h' st k => let ⟨⟨old, he⟩, hi, hne⟩ := st; ⟨⟨old, k e (by simp) _ he⟩, hi.at fun o q => k it (by simp) o q, hne⟩
  item := by
    intro X hP hw hK hc i pins s σ H E I hf st hg
    subst hP hw hK
    obtain ⟨⟨old, he⟩, hit, hne⟩ := st
    obtain ⟨xs, x, hq, hx⟩ := hg
    obtain ⟨its, rv, p, hz⟩ := I.tuple hq
    obtain ⟨u, hu, ru⟩ := rv.get hx
    have hel : e < s.heap.objs.size := Heap.lt_size he
    have hil : it < s.heap.objs.size := by obtain ⟨_, q, _⟩ := hit; exact Heap.lt_size q
    have pt : s.heap.IsTuple a its.toArray := p
    have nT : ∀ b, (∃ o, s.heap.get? b = some o ∧ ∃ n, o.cls = .type n ∧ n ≠ "tuple") → a ≠ b := fun b ⟨o, ho, n, hn, hn2⟩ q => by
      obtain ⟨o2, ho2, hc2, _⟩ := pt
      rw [q] at ho2
      rw [ho2] at ho
      cases ho
      rw [hc2] at hn
      cases hn
      exact hn2 rfl
    have hae : a ≠ e := nT e ⟨_, he, _, rfl, by decide⟩
    have hai : a ≠ it := nT it (by obtain ⟨o, ho, hc', _⟩ := id hit; exact ⟨o, ho, _, hc', by decide⟩)
    have D := Draws.tuple (prog := X.prog) (w := X.w) (A := X.A.in1) (I.ok.hd hc) it a hai its.toArray
    refine wpAny_pyNext_enum_itemD D he ⟨hit, pt⟩ (by have := (List.getElem?_eq_some_iff.mp hu).1; simpa using this) hne (by simp [hne, Ne.symm hae]) fun x' h' tk hP ho hs' hT hsz hk => ?_
    obtain rfl : u = x' := by
      have q : its[i]? = some x' := by simpa using hP
      rw [hu] at q
      cases q
      rfl
    refine ⟨_, rfl, wpAny_letOwnedTupleGo_enum (s := { s with heap := h', toks := tk + 1 }) ho fun h'' he' sb => ?_⟩
    have hT2 : h''.get? s.heap.objs.size = some { cls := .type "tuple", data := .seq #[.int i tk, u] } := (sb.2 _ (Nat.ne_of_gt hel)).trans hT
    have new : ObjOk X.prog X.w (upd H s.heap.objs.size (.tup [.int (i : Nat), x])) h'' s.heap.objs.size (.tup [.int (i : Nat), x]) :=
      ⟨by show 2 ≤ sizeLine; decide, [.int i tk, u], .cons ⟨_, rfl⟩ (.cons ru .nil), ⟨_, hT2, rfl, _, rfl⟩⟩
    have I1 : Inv X pins σ (upd H s.heap.objs.size (.tup [.int (i : Nat), x])) { s with heap := h'', toks := tk + 1 } :=
      I.turnedNew (ch := [e, it]) (fun b ob hb q => (sb.2 b (fun z => hb (by simp [z]))).trans (hk b ob (fun z => hb (by simp [z])) (fun z => hb (by simp [z])) q)) hf (Nat.le_refl _) new
    refine ⟨.ref s.heap.objs.size, _, I1, rfl, ⟨_, x, rfl, I.hok.fresh (Nat.le_refl _), rfl, fun ys hy => by rw [I.tuple_inj hy hq]; exact hx⟩, ⟨⟨u, ?_⟩, hs'.1.at fun o q => (sb.2 it (Ne.symm hne)).trans q, hne⟩, fun b hb => ?_⟩
    · have e1 : ((i + 1 : Nat) : Int) = (i : Int) + 1 := by omega
      rw [e1]; exact he'
    · have hb' : b < s.heap.objs.size := by
        have e' : b = e ∨ b = it := by simpa using hb
        rcases e' with z | z
        · rw [z]; exact hel
        · rw [z]; exact hil
      rw [upd_ne (Nat.ne_of_lt hb')]
      exact (hf b hb).1
  done := by
    intro X hP hw hK hc i pins s σ H E I hf st hg
    subst hP hw hK
    obtain ⟨⟨old, he⟩, hit, hne⟩ := st
    obtain ⟨xs, hq, hx⟩ := hg
    obtain ⟨its, rv, p, hz⟩ := I.tuple hq
    obtain ⟨f0, f1, f2, f3, f4, f5⟩ := hf it (by simp)
    have hl := rv.length
    have pt : s.heap.IsTuple a its.toArray := p
    have hai : a ≠ it := fun q => by
      obtain ⟨o2, ho2, hc2, _⟩ := id pt
      obtain ⟨o, ho, hc', _⟩ := id hit
      rw [q] at ho2
      rw [ho2] at ho
      cases ho
      rw [hc2] at hc'
      revert hc'
      simp
    have D := Draws.tuple (prog := X.prog) (w := X.w) (A := X.A.in1) (I.ok.hd hc) it a hai its.toArray
    have hn : i = its.toArray.size := by simp; omega
    subst hn
    exact wpAny_pyNext_enum_endD D he ⟨hit, pt⟩ fun h' eb => ⟨rfl, I.turned (t' := s.toks) (fun b o hb q => eb b o hb q) f0 f1 f3 f4 f5⟩
  self := fun A i s Q E st h => let ⟨⟨_, he⟩, _⟩ := st; wpAny_pyIter_enum he h
theorem walk_enumT {K : FragK} {a : Addr} {xs : List V} : Walk (IteT K a) xs.length (fun H => SqT K H a xs) (YPair (fun i => some (.int (i : Nat))) (fun i => xs[i]?)) := by
  refine ⟨fun i _ hi q => ⟨xs, xs[i], q, by simp [hi]⟩, fun _ q => ⟨xs, q, rfl⟩, fun i H v H' _ q y => ?_⟩
  obtain ⟨T, x, h1, h2, h3, h4⟩ := y
  exact ⟨T, .int (i : Nat), x, h1, h2, h3, rfl, h4 xs q⟩
theorem walk_zipT {K : FragK} {a b : Addr} {xs ys : List V} {n : Nat} (hn : n = min xs.length ys.length) : Walk (RZ.ItzT K a b) n (fun H => SqT K H a xs ∧ SqT K H b ys) (YPair (fun i => xs[i]?) (fun i => ys[i]?)) := by
  subst hn
  refine ⟨fun i _ hi q => ?_, fun _ q => ⟨xs, ys, q.1, q.2, by omega⟩, fun i H v H' _ q y => ?_⟩
  · have h1 : i < xs.length := by omega
    have h2 : i < ys.length := by omega
    exact ⟨xs, ys, xs[i], ys[i], q.1, q.2, by simp [h1], by simp [h2]⟩
  · obtain ⟨T, x, z, h1, h2, h3, h4, h5⟩ := y
    exact ⟨T, x, z, h1, h2, h3, h4 xs q.1, h5 ys q.2⟩
/-- enumerate(list or tuple) -/
def iEnumA (K : FragK) (ta : TA) : TI := fun σ H R => ta σ H fun vs H1 => ∃ a xs, vs = [.ref a] ∧ ((SqL K H1 a xs ∧ R (Ite K a) H1) ∨ (SqT K H1 a xs ∧ R (IteT K a) H1))
theorem pi_enumA {X : Cx} {e : Expr} {ta : TA} {p pos tpos : Pos} {elts : List Expr} {kk : Nat} (hg : Gl X "enumerate") (hm : X.mg "enumerate" = none) (ha : PA X [e] ta) (hs : starEach [e] X.env = [(false, eval e X.env)]) :
    PI X (.Tuple elts kk tpos) (.Call (.Name "enumerate" p) [e] [] pos) (iEnumA X.K ta) := by
  refine ⟨fun pins s σ H R I h => ?_⟩
  refine Call_ (ld_blt I hg hm boot_enumerate (PyProof.Rows.callWith_type1 (thn (ha.run pos pins s σ H _ I h) fun us s1 ⟨vs, H1, I1, r1, q1⟩ => ?_) hs rfl))
  obtain ⟨a, xs, ex, q1⟩ := q1
  subst ex
  cases r1 with
  | cons r rr =>
    cases rr
    cases r
    have fp : ∀ b ∈ [s1.heap.objs.size + 1, s1.heap.objs.size], FpOk X pins H1 b := fun b hb => by
      have e' : b = s1.heap.objs.size + 1 ∨ b = s1.heap.objs.size := by simpa using hb
      have hle : s1.heap.objs.size ≤ b := by
        rcases e' with z | z
        · rw [z]; exact Nat.le_add_right _ _
        · rw [z]; exact Nat.le_refl _
      exact I1.fpOk hle (I1.hok.fresh hle)
    rcases q1 with ⟨hq, q⟩ | ⟨hq, q⟩
    · obtain ⟨its, rv, p', hz⟩ := I1.list hq
      refine call_enumerate_list p'.isList fun h' he hit hsz hk => wpAny_pyIter_enum he ?_
      have I2 : Inv X pins σ H1 { s1 with heap := h' } := I1.kept (t' := s1.toks) hk
      exact ⟨s1.heap.objs.size + 1, [s1.heap.objs.size + 1, s1.heap.objs.size], _, _, H1, rfl, I2, turn_enum a (s1.heap.objs.size + 1) s1.heap.objs.size, ⟨⟨.none, he⟩, hit, Nat.succ_ne_self _⟩, fp, q⟩
    · obtain ⟨its, rv, p', hz⟩ := I1.tuple hq
      refine enum1_begins (begins_tuple a its.toArray) (show s1.heap.IsTuple a its.toArray from p') fun h' he hit hsz hk => wpAny_pyIter_enum he ?_
      have I2 : Inv X pins σ H1 { s1 with heap := h' } := I1.kept (t' := s1.toks) hk
      exact ⟨s1.heap.objs.size + 1, [s1.heap.objs.size + 1, s1.heap.objs.size], _, _, H1, rfl, I2, turn_enumT a (s1.heap.objs.size + 1) s1.heap.objs.size, ⟨⟨.none, he⟩, ⟨_, hit, rfl, rfl⟩, Nat.succ_ne_self _⟩, fp, q⟩
def iSeqA (K : FragK) (tl : TE) : TI := fun σ H R => tl σ H fun x H1 => ∃ a xs, x = .ref a ∧ ((SqL K H1 a xs ∧ R (Itl K a) H1) ∨ (SqT K H1 a xs ∧ R (Itt K a) H1))
theorem pi_seqA {X : Cx} {tg l : Expr} {tl : TE} (hl : PE X l tl) : PI X tg l (iSeqA X.K tl) := by
  refine ⟨fun pins s σ H R I h => ?_⟩
  refine thn (hl.run pins s σ H _ I h) fun v s1 ⟨x, H1, I1, r1, q1⟩ => ?_
  obtain ⟨a, xs, e, q1⟩ := q1
  subst e
  cases r1
  rcases q1 with ⟨hq, q⟩ | ⟨hq, q⟩
  · obtain ⟨its, rv, p, hz⟩ := I1.list hq
    refine wpAny_pyIter_list p.isList ?_
    exact pi_one (tk := s1.toks) I1 _ (turn_list a _) ⟨_, Heap.get?_push_size _ rfl, rfl, rfl⟩ q
  · obtain ⟨its, rv, p, hz⟩ := I1.tuple hq
    refine wpAny_pyIter_tuple (show s1.heap.IsTuple a its.toArray from p) ?_
    exact pi_one (tk := s1.toks) I1 _ (turn_tuple a _) ⟨_, Heap.get?_push_size _ rfl, rfl, rfl⟩ q
theorem _root_.L2.PI.imp {X : Cx} {tg e : Expr} {t t' : TI} (h : PI X tg e t) (i : ∀ σ H R, t' σ H R → t σ H R) : PI X tg e t' := ⟨fun pins s σ H R I q => h.run pins s σ H R I (i σ H R q)⟩
/-! ### the sources -/
section
variable {X : Cx} {G : Gf} {e e2 : Expr} {pos : Pos} {ea eb : E}
abbrev EI (X : Cx) (tg e : Expr) (k : SK) (ds : M (List D)) : Prop := PI X tg e (tI X.K k ds)
theorem ei_seq {tg : Expr} (he : EX X e (den G ea)) (hs : ea.isStar = false) : EI X tg e .seq (denL G [ea]) := (pi_seqA he.pe).imp fun σ H R ⟨O, al, s, env, h⟩ => by
  rw [denL] at h
  simp only [hs, Bool.false_eq_true, if_false, denL, Ev.R.bind_ok] at h
  refine ⟨O, al, s, env, h.bind.imp fun x al1 s1 H1 st1 env1 h1 vx rx => ?_⟩
  obtain ⟨items, hi, fin⟩ := After.ok h1 env1
  cases x with
  | tup ds =>
    cases hi
    obtain ⟨a, vs, rfl, q, z, r⟩ := rx
    exact ⟨a, vs, rfl, .inr ⟨q, fin _ (it_tup q z r)⟩⟩
  | lst ds =>
    cases hi
    obtain ⟨a, vs, rfl, na, q, z, r⟩ := rx
    exact ⟨a, vs, rfl, .inl ⟨.inl (.inl q), fin _ (it_list na q z r)⟩⟩
  | _ => cases hi
theorem ei_rng1 {tg : Expr} {p : Pos} (hg : Gl X "range") (hm : X.mg "range" = none) (ha : EA X [e] (denL G [ea])) (h1 : nst e = true) (hs : ea.isStar = false) : EI X tg (.Call (.Name "range" p) [e] [] pos) .rng1 (denL G [ea]) := (pi_range1 hg hm ha (star_cons h1)).imp fun σ H R ⟨O, al, s, env, h⟩ => by
  rw [denL] at h
  simp only [hs, Bool.false_eq_true, if_false, denL, Ev.R.bind_ok] at h
  refine ⟨O, al, s, env, ?_⟩
  rw [denL]
  simp only [hs, Bool.false_eq_true, if_false, denL, Ev.R.bind_ok]
  cases hd : den G ea s with
  | no => rw [hd] at h; exact h
  | ok x s1 =>
    rw [hd] at h
    intro al1 H1 st1 env1 vs rs
    obtain ⟨items, hi, fin⟩ := h al1 H1 st1 env1
    obtain ⟨lo, hi', ok, rfl, q⟩ := rngD_some hi
    rcases q with ⟨q, rfl⟩ | q
    · cases q
      obtain ⟨v, rfl, rv⟩ := rs.one_inv
      obtain rfl : v = .int hi' := rv
      exact ⟨hi', rfl, ok.2.2.1, ok.2.2.2.1, by have := fin _ (it_rng ok); simpa using this⟩
    · cases q
theorem ei_rng2 {tg : Expr} {p : Pos} (hg : Gl X "range") (hm : X.mg "range" = none) (ha : EA X [e, e2] (denL G [ea, eb])) (h1 : nst e = true) (h2 : nst e2 = true) (hs : ea.isStar = false) (hs2 : eb.isStar = false) : EI X tg (.Call (.Name "range" p) [e, e2] [] pos) .rng2 (denL G [ea, eb]) := (pi_range2 hg hm ha (by rw [star_cons h1, star_cons h2]; rfl) (by rw [star_cons h2]; rfl)).imp fun σ H R ⟨O, al, s, env, h⟩ => by
  rw [denL] at h
  simp only [hs, hs2, Bool.false_eq_true, if_false, denL, Ev.R.bind_ok] at h
  refine ⟨O, al, s, env, ?_⟩
  rw [denL]
  simp only [hs, hs2, Bool.false_eq_true, if_false, denL, Ev.R.bind_ok]
  cases hd : den G ea s with
  | no => rw [hd] at h; exact h
  | ok x s1 =>
    rw [hd] at h
    simp only [Ev.R.bind_ok] at h ⊢
    cases hd2 : den G eb s1 with
    | no => rw [hd2] at h; exact h
    | ok y s2 =>
      rw [hd2] at h
      simp only [Ev.R.bind_ok] at h ⊢
      intro al1 H1 st1 env1 vs rs
      obtain ⟨items, hi, fin⟩ := h al1 H1 st1 env1
      obtain ⟨lo, hi', ok, rfl, q⟩ := rngD_some hi
      rcases q with ⟨q, rfl⟩ | q
      · cases q
      · cases q
        obtain ⟨v, u, rfl, rv, ru⟩ := rs.two_inv
        obtain rfl : v = .int lo := rv
        obtain rfl : u = .int hi' := ru
        exact ⟨lo, hi', rfl, ⟨ok.1, ok.2.1, ok.2.2.1, ok.2.2.2.1⟩, fin _ (it_rng ok)⟩
theorem ei_enum {p tpos : Pos} {elts : List Expr} {kk : Nat} (hg : Gl X "enumerate") (hm : X.mg "enumerate" = none) (ha : EA X [e] (denL G [ea])) (h1 : nst e = true) (hs : ea.isStar = false) : EI X (.Tuple elts kk tpos) (.Call (.Name "enumerate" p) [e] [] pos) .enum (denL G [ea]) :=
  (pi_enumA hg hm ha (star_cons h1)).imp fun σ H R ⟨O, al, s, env, h⟩ => by
  rw [denL] at h
  simp only [hs, Bool.false_eq_true, if_false, denL, Ev.R.bind_ok] at h
  refine ⟨O, al, s, env, ?_⟩
  rw [denL]
  simp only [hs, Bool.false_eq_true, if_false, denL, Ev.R.bind_ok]
  cases hd : den G ea s with
  | no => rw [hd] at h; exact h
  | ok x s1 =>
    rw [hd] at h
    intro al1 H1 st1 env1 vs rs
    obtain ⟨items, hi, fin⟩ := h al1 H1 st1 env1
    obtain ⟨v, rfl, rx⟩ := rs.one_inv
    cases x with
    | tup ds =>
      obtain rfl : enumD ds = items := by simpa [srcD, enumD] using hi
      obtain ⟨a, vs, rfl, q, z, r⟩ := rx
      refine ⟨a, vs, rfl, .inr ⟨q, fin _ (it_pairs (Walk_cast (by rw [enumD_len, r.len]) walk_enumT) (by rw [enumD_len, ← r.len]; exact z) (fun H' mu k => sqT_keep k mu q) (enum_rp r))⟩⟩
    | lst ds =>
      obtain rfl : enumD ds = items := by simpa [srcD, enumD] using hi
      obtain ⟨a, vs, rfl, na, q, z, r⟩ := rx
      refine ⟨a, vs, rfl, .inl ⟨.inl (.inl q), fin _ (it_pairs (Walk_cast (by rw [enumD_len, r.len]) walk_enum) (by rw [enumD_len, ← r.len]; exact z) (fun H' mu k => .inl (.inl (k _ _ na q))) (enum_rp r))⟩⟩
    | _ => simp [srcD] at hi
theorem ei_zip {p tpos : Pos} {elts : List Expr} {kk : Nat} (hg : Gl X "zip") (hm : X.mg "zip" = none) (ha : EA X [e, e2] (denL G [ea, eb])) (h1 : nst e = true) (h2 : nst e2 = true) (hs : ea.isStar = false) (hs2 : eb.isStar = false) : EI X (.Tuple elts kk tpos) (.Call (.Name "zip" p) [e, e2] [] pos) .zip (denL G [ea, eb]) :=
  (pi_zipM hg hm ha (star_cons h1) (star_plain (by simp [h2]))).imp fun σ H R ⟨O, al, s, env, h⟩ => by
  rw [denL] at h
  simp only [hs, hs2, Bool.false_eq_true, if_false, denL, Ev.R.bind_ok] at h
  refine ⟨O, al, s, env, ?_⟩
  rw [denL]
  simp only [hs, hs2, Bool.false_eq_true, if_false, denL, Ev.R.bind_ok]
  cases hd : den G ea s with
  | no => rw [hd] at h; exact h
  | ok x s1 =>
    rw [hd] at h
    simp only [Ev.R.bind_ok] at h ⊢
    cases hd2 : den G eb s1 with
    | no => rw [hd2] at h; exact h
    | ok y s2 =>
      rw [hd2] at h
      simp only [Ev.R.bind_ok] at h ⊢
      intro al1 H1 st1 env1 vs rs
      obtain ⟨items, hi, fin⟩ := h al1 H1 st1 env1
      obtain ⟨v, u, rfl, rx, ry⟩ := rs.two_inv
      cases x with
      | tup ds =>
        cases y with
        | tup es =>
          simp only [srcD, Option.some.injEq] at hi
          subst hi
          obtain ⟨a, vs, rfl, q, z, r⟩ := rx
          obtain ⟨b, us, rfl, q2, z2, r2⟩ := ry
          refine ⟨a, b, vs, us, rfl, .inr (.inl ⟨q, q2, fin _ (it_pairs (walk_zipT (by rw [List.length_zipWith, r.len, r2.len])) (by rw [List.length_zipWith, ← r.len]; omega) (fun H' mu k => ⟨sqT_keep k mu q, sqT_keep k mu q2⟩) (zip_rp r r2))⟩)⟩
        | lst es =>
          simp only [srcD, Option.some.injEq] at hi
          subst hi
          obtain ⟨a, vs, rfl, q, z, r⟩ := rx
          obtain ⟨b, us, rfl, na2, q2, z2, r2⟩ := ry
          refine ⟨a, b, vs, us, rfl, .inr (.inr ⟨q, .inl (.inl q2), fin _ (it_pairs (walk_zipM (by rw [List.length_zipWith, r.len, r2.len])) (by rw [List.length_zipWith, ← r.len]; omega) (fun H' mu k => ⟨sqT_keep k mu q, .inl (.inl (k _ _ na2 q2))⟩) (zip_rp r r2))⟩)⟩
        | _ => simp [srcD] at hi
      | lst ds =>
        cases y with
        | lst es =>
          simp only [srcD, Option.some.injEq] at hi
          subst hi
          obtain ⟨a, vs, rfl, na, q, z, r⟩ := rx
          obtain ⟨b, us, rfl, na2, q2, z2, r2⟩ := ry
          refine ⟨a, b, vs, us, rfl, .inl ⟨.inl (.inl q), .inl (.inl q2), fin _ (it_pairs (walk_zip (by rw [List.length_zipWith, r.len, r2.len])) (by rw [List.length_zipWith, ← r.len]; omega) (fun H' mu k => ⟨.inl (.inl (k _ _ na q)), .inl (.inl (k _ _ na2 q2))⟩) (zip_rp r r2))⟩⟩
        | _ => simp [srcD] at hi
      | _ => simp [srcD] at hi
/-! ### comprehensions -/
theorem fx_lc {elt tg iter : Expr} {ifs : List Expr} {scope : Scope} {own : List (Str × Nat)} {eelt : E} {t : Tg} {k : SK} {ss eifs : List E} (hc : X.calm = true) (hN : X.N.Nodup) (ok : BlkOk X.N X.env.scope scope own) (ho : tgIn (own.map (·.2)) t = true) (hi : EI X tg iter k (denL G ss))
    (hg : ∀ (s : Shared) (H : Hp) (C : Addr) (cl : List (Str × Addr)) (fp : List Addr), PG (X.blk s H scope (compEnvC scope cl C X.env) fp) tg (gTg X.K t))
    (ht : ∀ (s : Shared) (H : Hp) (C : Addr) (cl : List (Str × Addr)) (fp : List Addr), PTs (X.blk s H scope (compEnvC scope cl C X.env) fp) ifs (tT X.K (denI G eifs)))
    (he : ∀ (s : Shared) (H : Hp) (C : Addr) (cl : List (Str × Addr)) (fp : List Addr), PE (X.blk s H scope (compEnvC scope cl C X.env) fp) elt (tD X.K (den G eelt)))
    (hs : ∀ x, foldedSetIterable iter X.env x = pure x) : FX X (.ListComp elt [⟨tg, iter, ifs, 0⟩] scope pos) (den G (.lc eelt t k ss eifs (own.map (·.2)))) :=
  (pe_lc hc hN hi ok (fun s H C cl fp => pg_k (hg s H C cl fp)) ht he hs).off fun σ H Q _ h => lc_read ho h
end
end Ev

set_option Elab.async false
set_option linter.all false
set_option maxRecDepth 100000
set_option maxHeartbeats 1000000
set_option autoImplicit false
/-! The evaluator, part Q: defs that run where no repr is under way. -/
namespace Ev
open PySem PySem.Spec PyProof.Rows L2
/-- what a def promises wherever no repr is under way -/
structure FnG (P : Program) (w : World) (K : FragK) (mg : Str → Option Value) (base : Heap) (k : Nat) (f : Addr) (fd : FuncData) (ps : List Str) (sp : Sp) : Prop where
  ln : ∀ vs H Q E, sp vs H Q E → vs.length = ps.length
  go : ∀ (A : Around) (out : List Env) (s : Shared) (H : Hp) (ar : Args) (us : List Value) (vs : List V) (Q : VK) (E : XK), Room k A → A.guards = some [] → Env0 P w K mg base A out s H →
    BindsTo s fd ar (ps.zip us) → Vals vs us → sp vs H Q E → codeAny (model P w) A (.call (.ref f) ar) (CR L2.CX0 out P w H s Q E) s
section
variable {X : Cx} {k : Nat} {f : Addr} {fd : FuncData} {ps : List Str} {sp : Sp} {x : Str} {p pos : Pos} {e : Expr} {es : List Expr} {t : TA}
theorem goes {pins : List (Addr × Obj)} {σ : L2.St} {H : Hp} {s : Shared} {Q : VK} {us : List Value} {vs : List V} (F : FnG X.prog X.w X.K X.mg X.base k f fd ps sp) (room : Room k X.A) (gd : X.A.guards = some [])
    (bd : Binds X.K fd ps []) (I : Inv X pins σ H s) (rv : Vals vs us) (want : sp vs H Q E0) : wpAny (model X.prog X.w) X.A (PySem.call (.ref f) us) (EP X pins σ Q) X.xe s := by
  have len : us.length = ps.length := by rw [← rv.length]; exact F.ln _ _ _ _ want
  have bd' := bd s us I.kIn (by rw [List.append_nil]; exact len)
  rw [List.append_nil] at bd'
  refine wpAny_call (codeAny_mono (F.go X.A X.stack s H ⟨us, []⟩ us vs Q E0 room gd I.env0 bd' rv want) fun res s2 z => ?_)
  match res, z with
  | .ok (.ret u), z => exact I.after z
theorem pe_callG (F : FnG X.prog X.w X.K X.mg X.base k f fd ps sp) (room : Room k X.A) (gd : X.A.guards = some []) (hg : Gl X x) (hm : X.mg x = some (.ref f)) (hk : PySem.W.keepIn X.K (.ref f) = true) (bd : Binds X.K fd ps [])
    (ha : PA X (e :: es) t) (hdb : (x == ("__debug__" : Str)) = false) (h1 : starEach (e :: es) X.env = (false, eval e X.env) :: starEach es X.env) (h2 : (backTo pos (starEach es X.env)).any (·.1) = false) :
    PE X (.Call (.Name x p) (e :: es) [] pos) fun σ H Q => t σ H fun vs H1 => sp vs H1 Q E0 :=
  ⟨fun pins s σ H Q I want => wpAny_Call_Name_kw (ld_glob I hg hm
    (PySem.W.callWith_K (h₀ := X.base) I.ok.mod.kin hk (thn (ha.run pos pins s σ H _ I want) fun us s1 ⟨vs, H1, I1, rv, w1⟩ => ⟨I1.kIn, goes F room gd bd I1 rv w1⟩) h1 h2) hdb)⟩
end
theorem guards_deeper {A : Around} {env : Env} : (A.deeper env).guards = A.guards := rfl
/-- a def by its body -/
theorem fnG_of {P : Program} {w : World} {K : FragK} {mg : Str → Option Value} {base : Heap} {x qual : Str} {st : Stmt} {f : Addr} {fd : FuncData} {N ps : List Str} {k : Nat} {sp : Sp} (F : L2.Fun K x qual st f fd) (S : FnScope N ps (L2.defScope st))
    (ln : ∀ vs H Q E, sp vs H Q E → vs.length = ps.length)
    (body : ∀ (cdv : Value) (A : Around) (out : List Env) (s : Shared) (H : Hp) (vs : List V) (Q : VK) (E : XK), Room k (A.deeper (envOfC qual (L2.defScope st) s.heap.objs.size f cdv)) → A.guards = some [] → sp vs H Q E →
      ∃ t, PSs (cxOf L2.CX0 P w K mg base N qual (L2.defScope st) f cdv A out s H E).nox (L2.defBody st) t ∧ t { nx := fun _ H2 => Q .non H2, rt := Q } (L2.start N vs) H) : FnG P w K mg base (k + 1) f fd ps sp := by
  obtain ⟨oc, od, kV, doc, pm, an, cdv, ct, osl, rfl, lk, code⟩ := F.ex
  refine ⟨ln, fun A out s H ar us vs Q E room gd e0 bd rv want => ?_⟩
  have same : ∀ b o, base.get? b = some o → s.heap.get? b = some o := fun b o q => (e0.bs b o q).1
  have inK : K.In s.heap := e0.mod.kin.keeps same
  have nolim : s.heap.NoLimit := e0.mod.nolimit.keeps same
  refine codeAny_call_function room.depth (inK _ _ lk) rfl S.co S.gen rfl (PySem.W.codeRec_of inK code) (bd _ _ _ _ (wpAny_newFunctionEnv_cells S.kind (fun y hy => ?_) fun env q s1 laid => ?_))
  · rcases S.par y.1 (List.of_mem_zip (show (y.1, y.2) ∈ ps.zip us from hy)).1 with z | z
    · exact .inl z
    · exact .inr ⟨z, PySem.W.cellsFrom_some _ _ _ (.inl z)⟩
  · subst q
    obtain ⟨t, walk, want2⟩ := body cdv A out s H vs Q E (room.deeper _) gd want
    have I := inv_start (CX := L2.CX0) (P := P) (w := w) (mg := mg) (N := N) (E := E) S room.hd e0 (ln _ _ _ _ want) rv laid
    refine ⟨nolim.keeps laid.toInCall.keep, codeAny_func (wpAny_mono (walk.nox.run [] s1 (L2.start N vs) H _ I want2) (fun fl s2 z => ?_) fun _ _ z => z)⟩
    match fl, z with
    | .ret u, ⟨v, σ2, H2, J, r2, z⟩ => exact ⟨v, H2, J.os, J.bare, J.base, J.hok, r2, z⟩
    | .next, ⟨σ2, H2, J, z⟩ => exact ⟨.non, H2, J.os, J.bare, J.base, J.hok, rfl, z⟩
    | .brk, ⟨_, _, _, z⟩ => exact z.elim
    | .cont, ⟨_, _, _, z⟩ => exact z.elim
end Ev

set_option Elab.async false
set_option linter.all false
set_option maxRecDepth 100000
set_option maxHeartbeats 1000000
set_option autoImplicit false
/-! The evaluator, part P: calls, methods. -/
namespace Ev
open PySem PySem.Spec PyProof.Rows L2
/-- what a def promises: the evaluator's answer; fr: a new list, nobody's yet -/
def spOf (K : FragK) (g : List D → Cs → Option (D × Cs)) (n : Nat) (fr : Bool) : Sp := fun vs H Q _ => vs.length = n ∧ ∃ O al cs ds d cs', Cel K O al cs H ∧ Rps K al (Forb O al cs) H ds vs ∧ g ds cs = some (d, cs') ∧
  match fr with
  | true => ∃ xs, d = .lst xs ∧ ∀ p us H', Stp al cs H al cs' H' → Cel K O al cs' H' → H' p = none → KOff K (upd H' p (.lst us)) → Rps K al (Forb O al cs') H' xs us → us.length ≤ sizeLine → Q (.ref p) (upd H' p (.lst us))
  | false => ∀ v H', Stp al cs H al cs' H' → Cel K O al cs' H' → Rp K al (Forb O al cs') H' d v → Q v H'
section
variable {X : Cx} {G : Gf} {a e : Expr} {es : List Expr} {pos : Pos} {ea : E} {eas : List E} {fi n : Nat}
theorem ex_callU {k : Nat} {f : Addr} {fd : FuncData} {ps : List Str} {x : Str} {p : Pos} (F : FnG X.prog X.w X.K X.mg X.base k f fd ps (spOf X.K (G fi) n false)) (hG : ∀ ds cs r, G fi ds cs = some r → ds.length = n) (hr : Room k X.A) (gd : X.A.guards = some []) (hg : Gl X x) (hm : X.mg x = some (.ref f)) (hk : PySem.W.keepIn X.K (.ref f) = true) (hb : Binds X.K fd ps [])
    (ha : EA X (a :: es) (denL G eas)) (hdb : (x == ("__debug__" : Str)) = false) (h1 : nst a = true) (h2 : es.all nst = true) : EX X (.Call (.Name x p) (a :: es) [] pos) (den G (.call fi eas)) :=
  .plain ((pe_callG F hr gd hg hm hk hb ha hdb (star_cons h1) (star_plain h2)).imp fun σ H Q _ ⟨O, al, s, env, h⟩ => by
    rw [den] at h
    refine ⟨O, al, s, env, h.bind.imp fun ds al1 s1 H1 st1 env1 h1 vs rs => ?_⟩
    cases q : G fi ds s1.cs with
    | none => rw [q] at h1; exact h1.elim
    | some r =>
      obtain ⟨d, cs'⟩ := r
      rw [q] at h1
      exact ⟨by rw [rs.len]; exact hG _ _ _ q, O, al1, s1.cs, ds, d, cs', env1.cr, rs, q, fun v H' st c rv => h1 al1 H' st (env1.stp st c) v rv⟩) fun _ => rfl
theorem fx_callU {k : Nat} {f : Addr} {fd : FuncData} {ps : List Str} {x : Str} {p : Pos} (F : FnG X.prog X.w X.K X.mg X.base k f fd ps (spOf X.K (G fi) n true)) (hG : ∀ ds cs r, G fi ds cs = some r → ds.length = n ∧ ∃ xs, r.1 = .lst xs) (hr : Room k X.A) (gd : X.A.guards = some []) (hg : Gl X x) (hm : X.mg x = some (.ref f)) (hk : PySem.W.keepIn X.K (.ref f) = true) (hb : Binds X.K fd ps [])
    (ha : EA X (a :: es) (denL G eas)) (hdb : (x == ("__debug__" : Str)) = false) (h1 : nst a = true) (h2 : es.all nst = true) : FX X (.Call (.Name x p) (a :: es) [] pos) (den G (.call fi eas)) :=
  (pe_callG F hr gd hg hm hk hb ha hdb (star_cons h1) (star_plain h2)).imp fun σ H Q _ ⟨O, al, s, env, h⟩ => by
    rw [den] at h
    refine ⟨O, al, s, env, h.bind.imp fun ds al1 s1 H1 st1 env1 h1 vs rs => ?_⟩
    cases q : G fi ds s1.cs with
    | none => rw [q] at h1; exact h1.elim
    | some r =>
      obtain ⟨d, cs'⟩ := r
      rw [q] at h1
      obtain ⟨hl, xs, ex⟩ := hG _ _ _ q
      refine ⟨by rw [rs.len]; exact hl, O, al1, s1.cs, ds, d, cs', env1.cr, rs, q, xs, ex, fun p us H' st c hp ko r z => ?_⟩
      obtain ⟨ds', e', fin⟩ := h1 al1 H' st (env1.stp st c)
      obtain rfl : xs = ds' := by
        have : D.lst xs = D.lst ds' := by rw [← ex]; exact e'
        cases this
        rfl
      exact fin p us hp ko r z
theorem fx_exU {e : Expr} {de : M D} (h : FX X e de) (hl : ∀ s d s', de s = .ok d s' → ∃ ds, d = .lst ds) (he : PlainT X e) : EX X e de := .plain (FX.ex h hl) he
/-! ### methods -/
def mtId : ME → String
  | .append => "list.append"
  | .extend => "list.extend"
  | .pop => "list.pop"
  | .popAt => "list.pop"
def mtNm : ME → String
  | .append => "append"
  | .extend => "extend"
  | .pop => "pop"
  | .popAt => "pop"
def rMt : ME → V → List V → Hp → VK → Prop
  | .append => rAppend
  | .extend => rExtend
  | .pop => rPop
  | .popAt => rPopAt
theorem mt_of (m : ME) : MtR X (mtId m) (rMt m) := by
  cases m
  · exact mt_append
  · exact mt_extend
  · exact mt_pop
  · exact mt_popAt
theorem slot_of (m : ME) : Slot "list" (PySem.Str.ofString (mtNm m)) (mtId m) := by
  cases m
  · exact PySem.F.slot_list_append
  · exact PySem.F.slot_list_extend
  · exact PySem.F.slot_list_pop
  · exact PySem.F.slot_list_pop
theorem mty_of (m : ME) : typeOf (.builtin (mtId m)) = pure (.type "method_descriptor") := by
  cases m
  · exact PySem.F.type_list_append
  · exact PySem.F.type_list_extend
  · exact PySem.F.type_list_pop
  · exact PySem.F.type_list_pop
theorem lows_iff {n : Nat} : ∀ {ds : List D}, lowDs n ds = true ↔ ∀ d ∈ ds, lowD n d = true
  | [] => by simp [lowDs]
  | d :: ds => by rw [lowDs, Bool.and_eq_true, lows_iff]; simp
theorem lows_app {n : Nat} {ds es : List D} (h : lowDs n ds = true) (k : lowDs n es = true) : lowDs n (ds ++ es) = true := by
  rw [lows_iff] at *
  intro d hd
  exact (List.mem_append.mp hd).elim (h d) (k d)
theorem lows_one {n : Nat} {d : D} (h : lowD n d = true) : lowDs n [d] = true := by simp [lowDs, h]
theorem lows_sub {n : Nat} {ds es : List D} (h : lowDs n ds = true) (k : ∀ d ∈ es, d ∈ ds) : lowDs n es = true := by
  rw [lows_iff] at *
  exact fun d hd => h d (k d hd)
theorem getLast_ix {α : Type} (l : List α) : l[l.length - 1]? = l.getLast? := by rw [List.getLast?_eq_getElem?]
theorem meth_ok {K : FragK} {O : Addr → Prop} {al : List Addr} {s : S} {σ : L2.St} {H : Hp} {m : ME} {x : D} {ds : List D} {d : D} {cs' : Cs} {v : V} {vs : List V} {Q : VK} (env : EnvR K O al s σ H) (rx : Rp K al (Forb O al s.cs) H x v) (rs : Rps K al (Forb O al s.cs) H ds vs) (h : methD m x ds s.cs = some (d, cs'))
    (fin : ∀ H' w, Stp al s.cs H al cs' H' → EnvR K O al ⟨s.sl, cs'⟩ σ H' → Rp K al (Forb O al cs') H' d w → Q w H') : tyV K "list" v H ∧ rMt m v vs H Q := by
  cases x with
  | cell n =>
    obtain ⟨a, rfl, ha⟩ := rx
    unfold methD at h
    simp only at h
    split at h
    · rename_i xs hn
      obtain ⟨ws, hw, z, rw0⟩ := env.cr.cell n true _ a hn ha
      have ty : tyV K "list" (.ref a) H := .inl ⟨rfl, ws, .inl (.inl hw)⟩
      have l0 := env.cr.low n true xs hn
      refine ⟨ty, ?_⟩
      have go : ∀ {xs' : List D} {ws' : List V} {e : D} {u : V}, cs' = s.cs.set n (true, .lst xs') → d = e → Rps K al (Forb O al s.cs) H xs' ws' → ws'.length ≤ sizeLine → lowDs n xs' = true → Rp K al (Forb O al s.cs) H e u → Q u (upd H a (.lst ws')) := fun {xs' ws' e u} e1 e2 r z lw r2 => by
        obtain ⟨c, st⟩ := cell_set env.cr hn ha r z lw
        subst e1 e2
        exact fin _ _ st (env.stp st c) (r2.stp st env.cr c)
      have hz : ∀ k : Nat, fits k = true → k ≤ sizeLine := fun k q => by rw [sizeLine_eq]; exact of_decide_eq_true q
      split at h
      · rename_i y
        split at h
        · rename_i hf
          cases h
          obtain ⟨u, rfl, ru⟩ := rs.one_inv
          rw [Bool.and_eq_true] at hf
          have lx := hf.2
          have hf := hz _ hf.1
          refine ⟨a, ws, u, rfl, rfl, hw, by rw [rw0.len]; omega, go rfl rfl (rw0.app (Rps.one ru)) (by rw [List.length_append, rw0.len]; exact hf) (lows_app l0 (lows_one lx)) rfl⟩
        · cases h
      · rename_i ys
        split at h
        · rename_i hf
          cases h
          obtain ⟨u, rfl, b, us, rfl, nb, hb, zb, rb⟩ := rs.one_inv
          rw [Bool.and_eq_true] at hf
          have lx := hf.2
          have hf := hz _ hf.1
          exact ⟨a, b, ws, us, rfl, rfl, hw, hb, by rw [rw0.len, rb.len]; exact hf, go rfl rfl (rw0.app rb) (by rw [List.length_append, rw0.len, rb.len]; exact hf) (lows_app l0 lx) rfl⟩
        · cases h
      · obtain rfl := rs.nil_inv
        split at h
        · rename_i y hy
          cases h
          rw [← getLast_ix] at hy
          obtain ⟨u, hu, ru⟩ := rw0.get hy
          refine ⟨a, ws, u, rfl, rfl, hw, by rw [rw0.len]; exact hu, go rfl rfl rw0.dropLast (by rw [List.length_dropLast]; omega) (lows_sub l0 fun d hd => List.dropLast_subset _ hd) ru⟩
        · cases h
      · rename_i k
        split at h
        · rename_i j hj
          split at h
          · rename_i y hy
            cases h
            obtain ⟨w, rfl, rk⟩ := rs.one_inv
            obtain rfl : w = .int k := rk
            obtain ⟨u, hu, ru⟩ := rw0.get hy
            obtain ⟨h1, h2, h3, h4⟩ := ixN_seq hj
            have hl := rw0.len
            have hsl := sizeLine_eq
            refine ⟨a, ws, k, j, u, rfl, rfl, hw, by omega, by omega, by rw [hl]; exact h1, hu, go rfl rfl (rw0.eraseIdx j) (Nat.le_trans (len_erase _ _) z) (lows_sub l0 fun d hd => List.mem_of_mem_eraseIdx hd) ru⟩
          · cases h
        · cases h
      · cases h
    · cases h
  | _ => simp [methD] at h
end
section
variable {X : Cx} {G : Gf} {e o : Expr} {es : List Expr} {cpos apos : Pos} {ea : E} {eas : List E} {m : ME}
theorem ex_meth (ho : EX X o (den G ea)) (ha : EA X (e :: es) (denL G eas)) (hbase : attributeBase o (PySem.Str.ofString (mtNm m)) X.env (eval o X.env) = eval o X.env)
    (hfew : ((backTo cpos (starEach (e :: es) X.env)).all (fun x => !x.1) && (backToKw cpos (keywordEach [] X.env)).all (fun x => x.1.isSome)
      && decide ((e :: es).length + ([] : List Keyword).length + (if ([] : List Keyword).isEmpty then 0 else 1) < 30)) = true)
    (hline : (apos.endLine == cpos.line) = true) (h1 : nst e = true) (h2 : es.all nst = true) (he : PlainT X (.Call (.Attribute o (PySem.Str.ofString (mtNm m)) apos) (e :: es) [] cpos)) : EX X (.Call (.Attribute o (PySem.Str.ofString (mtNm m)) apos) (e :: es) [] cpos) (den G (.meth m ea eas)) :=
  .plain ((pe_bm PySem.F.plainAttrs_list (slot_of m) (mty_of m) (mt_of m) ho.pe ha hbase hfew hline (star_cons h1) (star_plain h2)).imp fun σ H Q _ ⟨O, al, s, env, h⟩ => by
    rw [den] at h
    refine ⟨O, al, s, env, h.bind.imp fun x al1 s1 H1 st1 env1 h1 v rv => ?_⟩
    cases x with
    | cell n =>
      obtain ⟨a, rfl, ha⟩ := id rv
      have hlt := al_lt env1.cr ha
      have ck := env1.cr.cell n s1.cs[n].1 s1.cs[n].2 a (by rw [List.getElem?_eq_getElem hlt]) ha
      have ty : tyV X.K "list" (.ref a) H1 := by
        cases q : s1.cs[n].2 with
        | lst ds =>
          rw [q] at ck
          obtain ⟨ws, hw, _⟩ := ck
          exact .inl ⟨rfl, ws, .inl (.inl hw)⟩
        | _ => rw [q] at ck; exact False.elim ck
      refine ⟨ty, O, al1, s1, env1, h1.bind.imp fun ds al2 s2 H2 st2 env2 h2 vs rs => ?_⟩
      cases q : methD m (.cell n) ds s2.cs with
      | none => rw [q] at h2; exact h2.elim
      | some r =>
        obtain ⟨d, cs'⟩ := r
        rw [q] at h2
        exact (meth_ok env2 (rv.stp st2 env1.cr env2.cr) rs q fun H' w st env' rw' => h2 al2 H' st env' w rw').2
    | _ =>
      exfalso
      cases q : denL G eas s1 with
      | no => rw [q] at h1; exact h1
      | ok ds s2 =>
        rw [q] at h1
        simp only [Ev.R.bind_ok, methD] at h1
        exact h1) he
theorem ex_meth0 (ho : EX X o (den G ea)) (hbase : attributeBase o (PySem.Str.ofString (mtNm m)) X.env (eval o X.env) = eval o X.env)
    (hline : (apos.endLine == cpos.line) = true) (he : PlainT X (.Call (.Attribute o (PySem.Str.ofString (mtNm m)) apos) [] [] cpos)) : EX X (.Call (.Attribute o (PySem.Str.ofString (mtNm m)) apos) [] [] cpos) (den G (.meth m ea [])) :=
  .plain ((pe_bm0 PySem.F.plainAttrs_list (slot_of m) (mty_of m) (mt_of m) ho.pe hbase hline).imp fun σ H Q _ ⟨O, al, s, env, h⟩ => by
    rw [den] at h
    refine ⟨O, al, s, env, h.bind.imp fun x al1 s1 H1 st1 env1 h1 v rv => ?_⟩
    rw [denL] at h1
    simp only [Ev.R.bind_ok] at h1
    cases q : methD m x [] s1.cs with
    | none => rw [q] at h1; exact h1.elim
    | some r =>
      obtain ⟨d, cs'⟩ := r
      rw [q] at h1
      exact meth_ok env1 rv (show Rps X.K al1 _ H1 [] [] from rfl) q fun H' w st env' rw' => h1 al1 H' st env' w rw') he
end
end Ev

set_option Elab.async false
set_option linter.all false
set_option maxRecDepth 100000
set_option maxHeartbeats 1000000
set_option autoImplicit false
/-! The evaluator, part Qr: global texts; x.index(y), x.count(y) of lists. -/
namespace Ev
open PySem PySem.Spec PyProof.Rows L2
theorem ex_gstr {X : Cx} {G : Gf} {pos : Pos} {x : Str} {i : Str} {u : Value} (hg : Gl X x) (hm : X.mg x = some u) (r : RelV (.str i) u) (hd : (x == ("__debug__" : Str)) = false) : EX X (.Name x pos) (den G (.gstr x i)) :=
  ex_con (d := .str i) (pe_glob hg hm r hd) (fun s => by rw [den]) (fun _ _ _ _ => rfl) fun _ => rfl
def qId : QK → String
  | .index => "list.index"
  | .count => "list.count"
def rQ (K : FragK) : QK → V → List V → Hp → VK → Prop
  | .index => rIndexD K
  | .count => rCntI K
theorem mt_q {X : Cx} (hu : X.A.units + 65 < cLine) (q : QK) : MtR X (qId q) (rQ X.K q) := by
  cases q
  · exact mt_indexD hu
  · exact mt_lcount
theorem slot_q (q : QK) : Slot "list" (PySem.Str.ofString (qNm q)) (qId q) := by
  cases q
  · exact PySem.F.slot_list_index
  · exact PySem.F.slot_list_count
theorem mty_q (q : QK) : typeOf (.builtin (qId q)) = pure (.type "method_descriptor") := by
  cases q
  · first | exact PySem.F.type_list_index | kernel_rfl
  · first | exact PySem.F.type_list_count | kernel_rfl
theorem qry_kind {cs : Cs} {q : QK} {x y d : D} (h : qryD cs q x y = some d) : (∃ ds, x = .lst ds) ∨ (∃ ds, x = .ro ds) ∨ ∃ n, x = .cell n := by
  cases x with
  | lst ds => exact .inl ⟨ds, rfl⟩
  | ro ds => exact .inr (.inl ⟨ds, rfl⟩)
  | cell n => exact .inr (.inr ⟨n, rfl⟩)
  | _ =>
    exfalso
    cases q
    · simp only [qryD, pyC, deref, Option.bind_some, pyD] at h
      first
        | (cases h; done)
        | (split at h
           · rename_i xs d' e1 e2
             first
               | (cases e1; done)
               | (simp only [Option.map_eq_some_iff] at e1; obtain ⟨_, _, e1⟩ := e1; cases e1)
               | (split at e1 <;> cases e1)
           · cases h)
    · cases y <;> simp [qryD, lstC, deref] at h
theorem fst_of {α : Type} {p : α → Bool} : ∀ {l : List α} {j : Nat}, l.findIdx? p = some j → ∃ z, l[j]? = some z ∧ p z = true ∧ ∀ m z', m < j → l[m]? = some z' → p z' = false
  | [], j, h => by simp at h
  | a :: l, j, h => by
    rw [List.findIdx?_cons] at h
    split at h
    · rename_i q
      cases h
      exact ⟨a, rfl, q, fun m z' hm => absurd hm (Nat.not_lt_zero _)⟩
    · rename_i q
      simp only [Option.map_eq_some_iff] at h
      obtain ⟨i, h, rfl⟩ := h
      obtain ⟨z, h1, h2, h3⟩ := fst_of h
      refine ⟨z, by simpa using h1, h2, fun m z' hm e => ?_⟩
      cases m with
      | zero =>
        have : a = z' := by simpa using e
        subst this
        simpa using q
      | succ m => exact h3 m z' (by omega) (by simpa using e)
section
variable {X : Cx} {G : Gf} {e o : Expr} {cpos apos : Pos} {ea eb : E} {q : QK}
theorem ex_qry (hu : X.A.units + 65 < cLine) (ho : EX X o (den G ea)) (hb : EX X e (den G eb)) (hs : eb.isStar = false) (hbase : attributeBase o (PySem.Str.ofString (qNm q)) X.env (eval o X.env) = eval o X.env)
    (hfew : ((backTo cpos (starEach (e :: []) X.env)).all (fun x => !x.1) && (backToKw cpos (keywordEach [] X.env)).all (fun x => x.1.isSome)
      && decide ((e :: []).length + ([] : List Keyword).length + (if ([] : List Keyword).isEmpty then 0 else 1) < 30)) = true)
    (hline : (apos.endLine == cpos.line) = true) (h1 : nst e = true) (he : PlainT X (.Call (.Attribute o (PySem.Str.ofString (qNm q)) apos) (e :: []) [] cpos)) : EX X (.Call (.Attribute o (PySem.Str.ofString (qNm q)) apos) (e :: []) [] cpos) (den G (.qry q ea eb)) :=
  .plain ((pe_bm PySem.F.plainAttrs_list (slot_q q) (mty_q q) (mt_q hu q) ho.pe (ea_cons hb hs ea_nil (star_cons h1)) hbase hfew hline (star_cons h1) (star_plain rfl)).off fun σ H Q _ ⟨O, al, s, env, h⟩ => by
    rw [den] at h
    refine ⟨O, al, s, env, h.bind.imp fun x al1 s1 H1 st1 env1 h1 v rv => ?_⟩
    cases e1 : den G eb s1 with
    | no => rw [e1] at h1; exact h1.elim
    | ok y s2 =>
      rw [e1] at h1
      cases e2 : qryD s2.cs q x y with
      | none => simp only [Ev.R.bind_ok, e2] at h1; exact h1.elim
      | some d =>
        simp only [Ev.R.bind_ok, e2] at h1
        have ty : tyV X.K "list" v H1 := by
          rcases qry_kind e2 with ⟨ds, rfl⟩ | ⟨ds, rfl⟩ | ⟨n, rfl⟩
          · obtain ⟨a, ws, rfl, _, hw, _⟩ := rv
            exact .inl ⟨rfl, ws, .inl (.inl hw)⟩
          · obtain ⟨a, ws, rfl, hw, _⟩ := rv
            exact .inl ⟨rfl, ws, hw.sq⟩
          · obtain ⟨a, rfl, ha⟩ := rv
            have hlt := al_lt env1.cr ha
            have ck := env1.cr.cell n s1.cs[n].1 s1.cs[n].2 a (by rw [List.getElem?_eq_getElem hlt]) ha
            cases q : s1.cs[n].2 with
            | lst ds =>
              rw [q] at ck
              obtain ⟨ws, hw, _⟩ := ck
              exact .inl ⟨rfl, ws, .inl (.inl hw)⟩
            | _ => rw [q] at ck; exact False.elim ck
        refine ⟨ty, O, al1, s1, env1, ?_⟩
        simp only [denL, e1, hs, Ev.R.bind_ok, Bool.false_eq_true, if_false]
        intro al2 H2 st2 env2 vs rs
        have fin := h1 al2 H2 st2 env2
        have rx := rv.stp st2 env1.cr env2.cr
        obtain ⟨u, rfl, ry⟩ := rs.one_inv
        cases q with
        | index =>
          simp only [qryD] at e2
          split at e2
          · rename_i xs dd ep eq
            split at e2
            · rename_i sh
              simp only [Bool.and_eq_true] at sh
              simp only [Option.map_eq_some_iff] at e2
              obtain ⟨j, hj, rfl⟩ := e2
              obtain ⟨z, g1, g2, g3⟩ := fst_of hj
              obtain ⟨d1, l1⟩ := dpC_of env2 rx ep
              obtain ⟨d2, l2⟩ := dpC_of env2 ry eq
              have : ∃ a, v = .ref a := by cases d1; exact ⟨_, rfl⟩
              obtain ⟨a, rfl⟩ := this
              exact ⟨a, u, dd, xs, j, z, rfl, rfl, d1, d2, shaped_of l1 sh.1, shaped_of l2 sh.2, g1, g2, g3, fun _ => fin _ rfl⟩
            · cases e2
          · cases e2
        | count =>
          cases y <;> simp only [qryD, reduceCtorEq] at e2
          rename_i k
          simp only [Option.map_eq_some_iff, Option.bind_eq_some_iff] at e2
          obtain ⟨ns, ⟨ds, g1, g2⟩, rfl⟩ := e2
          obtain ⟨a, ws, rfl, sq, z, t⟩ := lst_of env2 rx g1
          have e5 := t.ints g2
          subst e5
          obtain rfl : u = .int k := ry
          exact ⟨a, ns, k, rfl, rfl, sq, fun _ => fin _ rfl⟩) he
end
end Ev

set_option Elab.async false
set_option linter.all false
set_option maxRecDepth 100000
set_option maxHeartbeats 1000000
set_option autoImplicit false
/-! The evaluator, part Kw: calls by keywords alone. -/
namespace Ev
open PySem PySem.Spec PyProof.Rows L2
/-- how a def binds these keywords: pm, the places of the values in the parameters' order -/
def KBd (K : FragK) (fd : FuncData) (ps ks : List Str) (pm : List Nat) : Prop := ∀ (s : Shared) (ws us : List Value), K.In s.heap → ws.length = ks.length → permL pm ws = some us → BindsTo s fd ⟨[], ks.zip ws⟩ (ps.zip us)
theorem permL_vals : ∀ {pm : List Nat} {zs vs : List V} {ws : List Value}, Vals zs ws → permL pm zs = some vs → ∃ us, permL pm ws = some us ∧ Vals vs us
  | [], zs, vs, ws, h, e => by
    rw [permL] at e
    cases e
    exact ⟨[], by rw [permL], .nil⟩
  | i :: r, zs, vs, ws, h, e => by
    rw [permL] at e
    split at e
    · rename_i x ys h1 h2
      cases e
      obtain ⟨us, h3, h4⟩ := permL_vals h h2
      obtain ⟨u, h5, h6⟩ := h.get h1
      exact ⟨u :: us, by rw [permL, h5, h3], .cons h6 h4⟩
    · cases e
theorem permL_rps {K : FragK} {al : List Addr} {F : Addr → Prop} {H : Hp} : ∀ {pm : List Nat} {ds es : List D} {vs : List V}, Rps K al F H ds vs → permL pm ds = some es → ∃ us, permL pm vs = some us ∧ Rps K al F H es us
  | [], ds, es, vs, h, e => by
    rw [permL] at e
    cases e
    exact ⟨[], by rw [permL], rfl⟩
  | i :: r, ds, es, vs, h, e => by
    rw [permL] at e
    split at e
    · rename_i x ys h1 h2
      cases e
      obtain ⟨us, h3, h4⟩ := permL_rps h h2
      obtain ⟨u, h5, h6⟩ := h.get h1
      exact ⟨u :: us, by rw [permL, h5, h3], ⟨u, us, rfl, h6, h4⟩⟩
    · cases e
section
variable {X : Cx} {G : Gf} {k fi n : Nat} {f : Addr} {fd : FuncData} {ps ks : List Str} {pm : List Nat} {sp : Sp} {x : Str} {p pos : Pos} {kws : List Keyword} {t : TA} {eas : List E}
theorem pe_callKG (F : FnG X.prog X.w X.K X.mg X.base k f fd ps sp) (room : Room k X.A) (gd : X.A.guards = some []) (hg : Gl X x) (hm : X.mg x = some (.ref f)) (hk : PySem.W.keepIn X.K (.ref f) = true) (bd : KBd X.K fd ps ks pm)
    (ha : PK X kws t) (hdb : (x == ("__debug__" : Str)) = false) (h1 : (backToKw pos (keywordEach kws X.env)).all (·.1.isSome) = true) (h2 : (backToKw pos (keywordEach kws X.env)).filterMap (·.1) = ks) (h3 : (backToKw pos (keywordEach kws X.env)).any (·.1.isNone) = false) :
    PE X (.Call (.Name x p) [] kws pos) fun σ H Q => t σ H fun zs H1 => zs.length = ks.length ∧ ∃ vs, permL pm zs = some vs ∧ sp vs H1 Q E0 := by
  refine ⟨fun pins s σ H Q I want => wpAny_Call_Name_kw (ld_glob I hg hm (PySem.W.callWith_KW0 (h₀ := X.base) I.ok.mod.kin hk h1 (thn (ha.run pos pins s σ H _ I want) fun ws s2 ⟨zs, H2, I2, rz, len, vs, pz, q⟩ => ⟨I2.kIn, ?_⟩) (by rw [h3]; rfl)) hdb)⟩
  rw [h2]
  obtain ⟨us, pu, rv⟩ := permL_vals rz pz
  have bd' := bd s2 ws us I2.kIn (by rw [← rz.length]; exact len) pu
  refine wpAny_call (codeAny_mono (F.go X.A X.stack s2 H2 ⟨[], ks.zip ws⟩ us vs Q E0 room gd I2.env0 bd' rv q) fun res s3 z => ?_)
  match res, z with
  | .ok (.ret u), z => exact I2.after z
theorem _root_.L2.PK.imp {t t' : TA} (h : PK X kws t) (i : ∀ σ H Q, t' σ H Q → t σ H Q) : PK X kws t' := ⟨fun pos pins s σ H Q I q => h.run pos pins s σ H Q I (i σ H Q q)⟩
theorem kn_nil : PK X [] (tA X.K (denL G [])) := pk_nil.imp fun σ H Q ⟨O, al, s, env, h⟩ => by
  rw [denL] at h
  exact (After.ok h env) [] rfl
theorem kn_cons {nm : Option Str} {e : Expr} {ea : E} {kp : Pos} (ha : EX X e (den G ea)) (hs : ea.isStar = false) (hr : PK X kws (tA X.K (denL G eas))) : PK X (⟨nm, e, kp⟩ :: kws) (tA X.K (denL G (ea :: eas))) :=
  (pk_cons ha.pe hr).imp fun σ H Q ⟨O, al, s, env, h⟩ => by
    rw [denL] at h
    simp only [hs, Bool.false_eq_true, if_false] at h
    exact ⟨O, al, s, env, h.bind.imp fun x al1 s1 H1 st1 env1 h1 vx rx => ⟨O, al1, s1, env1, h1.bind.imp fun ys al2 s2 H2 st2 env2 h2 vs rs => (After.ok h2 env2) (vx :: vs) ⟨vx, vs, rfl, rx.stp st2 env1.cr env2.cr, rs⟩⟩⟩
theorem ex_callK (F : FnG X.prog X.w X.K X.mg X.base k f fd ps (spOf X.K (G fi) n false)) (hG : ∀ ds cs r, G fi ds cs = some r → ds.length = n) (room : Room k X.A) (gd : X.A.guards = some []) (hg : Gl X x) (hm : X.mg x = some (.ref f)) (hk : PySem.W.keepIn X.K (.ref f) = true) (bd : KBd X.K fd ps ks pm)
    (ha : PK X kws (tA X.K (denL G eas))) (hdb : (x == ("__debug__" : Str)) = false) (hl : pm.length = ks.length) (h1 : (backToKw pos (keywordEach kws X.env)).all (·.1.isSome) = true) (h2 : (backToKw pos (keywordEach kws X.env)).filterMap (·.1) = ks) (h3 : (backToKw pos (keywordEach kws X.env)).any (·.1.isNone) = false) :
    EX X (.Call (.Name x p) [] kws pos) (den G (.callk fi eas pm)) :=
  .plain ((pe_callKG F room gd hg hm hk bd ha hdb h1 h2 h3).imp fun σ H Q _ ⟨O, al, s, env, h⟩ => by
    rw [den] at h
    refine ⟨O, al, s, env, h.bind.imp fun ds al1 s1 H1 st1 env1 h1 vs rs => ?_⟩
    split at h1
    · rename_i hlen
      refine ⟨by rw [rs.len, hlen, hl], ?_⟩
      cases q : permL pm ds with
      | none => rw [q] at h1; exact h1.elim
      | some es =>
        rw [q] at h1
        simp only at h1
        obtain ⟨us, pu, ru⟩ := permL_rps rs q
        cases q2 : G fi es s1.cs with
        | none => rw [q2] at h1; exact h1.elim
        | some r =>
          obtain ⟨d, cs'⟩ := r
          rw [q2] at h1
          exact ⟨us, pu, by rw [ru.len]; exact hG _ _ _ q2, O, al1, s1.cs, es, d, cs', env1.cr, ru, q2, fun v H' st c rv => h1 al1 H' st (env1.stp st c) v rv⟩
    · exact h1.elim) fun _ => rfl
end
end Ev

set_option Elab.async false
set_option linter.all false
set_option maxRecDepth 100000
set_option maxHeartbeats 1000000
set_option autoImplicit false
/-! The evaluator, part N: statements. -/
namespace Ev
open PySem PySem.Spec PyProof.Rows L2
def AfterS (K : FragK) (O : Addr → Prop) (al : List Addr) (cs : Cs) (H : Hp) (r : Rs) (D : Ends) : Prop := match r with
  | .nx s' => ∀ al' σ' H', Stp al cs H al' s'.cs H' → EnvR K O al' s' σ' H' → D.nx σ' H'
  | .ct s' => ∀ al' σ' H', Stp al cs H al' s'.cs H' → EnvR K O al' s' σ' H' → D.ct σ' H'
  | .bk s' => ∀ al' σ' H', Stp al cs H al' s'.cs H' → EnvR K O al' s' σ' H' → D.bk σ' H'
  | .rt d cs' => ∀ al' v H', Stp al cs H al' cs' H' → Cel K O al' cs' H' → Rp K al' (Forb O al' cs') H' d v → D.rt v H'
  | .no => False
def tS (K : FragK) (dc : S → Rs) : TS := fun D σ H => ∃ O al s, EnvR K O al s σ H ∧ AfterS K O al s.cs H (dc s) D
abbrev SX (X : Cx) (st : Stmt) (dc : S → Rs) : Prop := PS X st (tS X.K dc)
abbrev SSX (X : Cx) (st : List Stmt) (dc : S → Rs) : Prop := PSs X st (tS X.K dc)
theorem _root_.L2.PS.imp {X : Cx} {st : Stmt} {t t' : TS} (h : PS X st t) (i : ∀ D σ H, t' D σ H → t D σ H) : PS X st t' := ⟨fun pins s σ H D I q => h.run pins s σ H D I (i D σ H q)⟩
theorem _root_.L2.PSs.imp {X : Cx} {st : List Stmt} {t t' : TS} (h : PSs X st t) (i : ∀ D σ H, t' D σ H → t D σ H) : PSs X st t' := ⟨fun pins s σ H D I q => h.run pins s σ H D I (i D σ H q)⟩
def koE (K : FragK) (D : Ends) : Ends := { nx := fun σ H => KOff K H → D.nx σ H, rt := fun v H => KOff K H → D.rt v H, bk := fun σ H => KOff K H → D.bk σ H, ct := fun σ H => KOff K H → D.ct σ H }
theorem _root_.L2.PS.off {X : Cx} {st : Stmt} {t t' : TS} (h : PS X st t) (i : ∀ D σ H, t' D σ H → t (koE X.K D) σ H) : PS X st t' := ⟨fun pins s σ H D I q => thn (h.run pins s σ H _ I (i D σ H q)) fun f s' z => by
  cases f with
  | next => obtain ⟨σ', H', I', q⟩ := z; exact ⟨σ', H', I', q (koff_of I')⟩
  | brk => obtain ⟨σ', H', I', q⟩ := z; exact ⟨σ', H', I', q (koff_of I')⟩
  | cont => obtain ⟨σ', H', I', q⟩ := z; exact ⟨σ', H', I', q (koff_of I')⟩
  | ret u => obtain ⟨v, σ', H', I', r, q⟩ := z; exact ⟨v, σ', H', I', r, q (koff_of I')⟩⟩
section
variable {K : FragK} {O : Addr → Prop} {al : List Addr} {cs : Cs} {H : Hp}
theorem AfterS.base {al' : List Addr} {cs' : Cs} {H' : Hp} {r : Rs} {D : Ends} (h : AfterS K O al cs H r D) (st : Stp al cs H al' cs' H') : AfterS K O al' cs' H' r D := by
  cases r with
  | nx s' => exact fun al2 σ2 H2 st2 e => h al2 σ2 H2 (st.trans st2) e
  | ct s' => exact fun al2 σ2 H2 st2 e => h al2 σ2 H2 (st.trans st2) e
  | bk s' => exact fun al2 σ2 H2 st2 e => h al2 σ2 H2 (st.trans st2) e
  | rt d cs' => exact fun al2 v H2 st2 e => h al2 v H2 (st.trans st2) e
  | no => exact h
theorem AfterS.bind {r : Rs} {f : S → Rs} {D : Ends} (h : AfterS K O al cs H (match r with | .nx s => f s | x => x) D) : AfterS K O al cs H r { D with nx := tS K f D } := by
  cases r with
  | nx s' => exact fun al2 σ2 H2 st2 e => ⟨O, al2, s', e, h.base st2⟩
  | ct s' => exact h
  | bk s' => exact h
  | rt d cs' => exact h
  | no => exact h
theorem AfterS.run {s : S} {σ : L2.St} {r : R D} {f : D → S → Rs} {E : Ends} (h : AfterS K O al s.cs H (r.run f) E) : After K O al s σ H r fun d al' s' H' => AfterS K O al' s'.cs H' (f d s') E := by
  cases r with
  | no => exact h
  | ok d s' => exact fun al2 H2 st2 e => h.base st2
theorem AfterS.nx {s : S} {σ : L2.St} {E : Ends} (env : EnvR K O al s σ H) (h : AfterS K O al s.cs H (.nx s) E) : E.nx σ H := h al σ H .refl env
end
section
variable {X : Cx} {G : Gf} {a b c e : Expr} {st : Stmt} {sts : List Stmt} {pos : Pos} {ea eb ec : E} {cc : C} {ccs ccs2 : List C}
theorem ss_nil : SSX X [] (denCs G []) := pss_nil.imp fun D σ H ⟨O, al, s, env, h⟩ => by
  rw [denCs] at h
  exact AfterS.nx env h
theorem ss_cons (h1 : SX X st (denC G cc)) (h2 : SSX X sts (denCs G ccs)) : SSX X (st :: sts) (denCs G (cc :: ccs)) := (pss_cons h1 h2).imp fun D σ H ⟨O, al, s, env, h⟩ => by
  rw [denCs] at h
  exact ⟨O, al, s, env, h.bind⟩
theorem sx_pass : SX X (.Pass pos) (denC G .pas) := ps_pass.imp fun D σ H ⟨O, al, s, env, h⟩ => by
  rw [denC] at h
  exact AfterS.nx env h
theorem sx_brk : SX X (.Break pos) (denC G .brk) := ps_break.imp fun D σ H ⟨O, al, s, env, h⟩ => by
  rw [denC] at h
  exact h al σ H .refl env
theorem sx_cnt : SX X (.Continue pos) (denC G .cnt) := ps_continue.imp fun D σ H ⟨O, al, s, env, h⟩ => by
  rw [denC] at h
  exact h al σ H .refl env
theorem sx_never : SX X st (denC G .never) := ps_never.imp fun D σ H ⟨O, al, s, env, h⟩ => by
  rw [denC] at h
  exact h
theorem sx_exp (he : EX X e (den G ea)) (hs : swapsWith e none pos.line X.env = pure false) : SX X (.Expr e pos) (denC G (.exp ea)) := (ps_expr he.pe hs).imp fun D σ H ⟨O, al, s, env, h⟩ => by
  rw [denC] at h
  exact ⟨O, al, s, env, h.run.imp fun d al' s' H' st env' h v rv => h.nx env'⟩
theorem sx_ret (he : EX X e (den G ea)) : SX X (.Return (some e) pos) (denC G (.ret ea)) := (ps_ret he.pe).imp fun D σ H ⟨O, al, s, env, h⟩ => by
  rw [denC] at h
  exact ⟨O, al, s, env, h.run.imp fun d al' s' H' st env' h v rv => h al' v H' .refl env'.cr rv⟩
theorem sx_retn : SX X (.Return none pos) (denC G .retn) := ps_retN.imp fun D σ H ⟨O, al, s, env, h⟩ => by
  rw [denC] at h
  exact h al .non H .refl env.cr rfl
theorem sx_ite (hc : EX X c (den G ec)) (h1 : SSX X sts (denCs G ccs)) {sts2 : List Stmt} (h2 : SSX X sts2 (denCs G ccs2)) : SX X (.If c sts sts2 pos) (denC G (.ite ec ccs ccs2)) := (ps_if hc.pt h1 h2).imp fun D σ H ⟨O, al, s, env, h⟩ => by
  rw [denC] at h
  refine ⟨O, al, s, env, h.run.imp fun d al' s' H' st env' h => ?_⟩
  cases d with
  | bl b =>
    refine ⟨b, rfl, ?_⟩
    cases b with
    | true => show (if true = true then _ else _); rw [if_pos rfl]; exact ⟨O, al', s', env', h⟩
    | false => show (if false = true then _ else _); rw [if_neg Bool.false_ne_true]; exact ⟨O, al', s', env', h⟩
  | _ => exact h.elim
theorem set_nx {K : FragK} {O : Addr → Prop} {al : List Addr} {H : Hp} {s : S} {σ : L2.St} {D : Ends} {d : Ev.D} {v : V} {i : Nat} (env : EnvR K O al s σ H) (h : AfterS K O al s.cs H (setS s i d) D) (r : Rp K al (Forb O al s.cs) H d v) : D.nx (σ.set i (some v)) H := by
  unfold setS at h
  split at h
  · exact h al _ H .refl (EnvR.set (sl := s.sl) (cs := s.cs) env i r)
  · exact h.elim
theorem sx_set {i : Nat} {x : Str} {p : Pos} (hN : X.N.Nodup) (hi : X.N[i]? = some x) (hx : Loc X.env.scope x) (he : EX X e (den G ea)) (hs : swapsWith e (some (.Name x p)) pos.line X.env = pure false) (hf : X.fn x = true ∨ X.env.scope.names.lookup x = some .local) :
    SX X (.Assign [.Name x p] e pos) (denC G (.set i ea)) := (ps_set hN hi hx he.pe hs hf).imp fun D σ H ⟨O, al, s, env, h⟩ => by
  rw [denC] at h
  exact ⟨O, al, s, env, h.run.imp fun d al' s' H' st env' h v rv => set_nx env' h rv⟩
theorem sx_setT {tg : Expr} {t : Tg} (he : EX X e (den G ea)) (hg : PG X tg (gTg X.K t)) (hs : swapsWithSole [tg] e pos.line X.env = pure false) (hw : swappedStores [tg] e X.env = pure none)
    (h1 : (assignEach [tg] X.env).map (·.2) = [assign tg X.env]) : SX X (.Assign [tg] e pos) (denC G (.setT t ea)) := (ps_asg he.pe hg hs hw h1).imp fun D σ H ⟨O, al, s, env, h⟩ => by
  rw [denC] at h
  refine ⟨O, al, s, env, h.run.imp fun d al' s' H' st env' h v rv => ?_⟩
  cases q : bindT t d s'.sl with
  | none => rw [q] at h; exact h.elim
  | some sl =>
    rw [q] at h
    exact bind_ok (cs := s'.cs) t d v s'.sl sl σ _ env' rv q fun σ' e w => h al' σ' H' .refl e
theorem sx_par {i j : Nat} {x y : Str} {px py pt : Pos} {kt k2 pt2} (hc : X.calm = true) (hN : X.N.Nodup) (hi : X.N[i]? = some x) (hj : X.N[j]? = some y) (hij : i ≠ j)
    (hx : X.env.scope.names.lookup x = some .local) (hy : X.env.scope.names.lookup y = some .local) (ha : EX X a (den G ea)) (hb : EX X b (den G eb)) (h1 : nst a = true) (h2 : nst b = true)
    (hw : swappedStores [.Tuple [.Name x px, .Name y py] kt pt] (.Tuple [a, b] k2 pt2) X.env = pure (some [x, y]))
    (hs : swapsWithSole [.Tuple [.Name x px, .Name y py] kt pt] (.Tuple [a, b] k2 pt2) pos.line X.env = pure false) :
    SX X (.Assign [.Tuple [.Name x px, .Name y py] kt pt] (.Tuple [a, b] k2 pt2) pos) (denC G (.par i j ea eb)) :=
  (ps_par hc hN hi hj hij hx hy (pa_cons ha.pe (pa_cons hb.pe pa_nil (star_cons h2)) (star_cons h1)) hw hs).imp fun D σ H ⟨O, al, s, env, h⟩ => by
  rw [denC] at h
  refine ⟨O, al, s, env, h.run.imp fun d al1 s1 H1 st1 env1 h1 v rv => ⟨O, al1, s1, env1, h1.run.imp fun d2 al2 s2 H2 st2 env2 h2 v2 rv2 => ⟨v, v2, rfl, ?_⟩⟩⟩
  have rv' := rv.stp st2 env1.cr env2.cr
  split at h2
  · exact h2 al2 _ H2 .refl (EnvR.set (sl := s2.sl.set i (some d)) (cs := s2.cs) (EnvR.set (sl := s2.sl) (cs := s2.cs) env2 i rv') j rv2)
  · exact h2.elim
theorem lows_set {n : Nat} {ds : List Ev.D} {d : Ev.D} {j : Nat} (h : lowDs n ds = true) (k : lowD n d = true) : lowDs n (ds.set j d) = true := by
  rw [lows_iff] at *
  intro x hx
  rcases List.mem_or_eq_of_mem_set hx with q | q
  · exact h x q
  · rw [q]; exact k
theorem sx_setix {p : Pos} (ha : EX X a (den G ea)) (hb : EX X b (den G eb)) (he : EX X e (den G ec)) (hgx : ∀ v, assign (.Subscript a b p) X.env v = (do
      let ov ← holding [v] (eval a X.env)
      let iv ← holding [v, ov] (eval b X.env)
      standAt p
      holding [v, ov, iv] (setItem ov iv v)
      release [v, ov, iv] [])) (hs : swapsWithSole [.Subscript a b p] e pos.line X.env = pure false) (hw : swappedStores [.Subscript a b p] e X.env = pure none)
    (h1 : (assignEach [.Subscript a b p] X.env).map (·.2) = [assign (.Subscript a b p) X.env]) : SX X (.Assign [.Subscript a b p] e pos) (denC G (.setix ea eb ec)) :=
  (ps_asg he.pe (pg_sub ha.pe hb.pe set_list hgx) hs hw h1).imp fun D σ H ⟨O, al, s, env, h⟩ => by
  rw [denC] at h
  refine ⟨O, al, s, env, h.run.imp fun d al1 s1 H1 st1 env1 h1 v rv => ⟨O, al1, s1, env1, h1.run.imp fun y al2 s2 H2 st2 env2 h2 o ro => ⟨O, al2, s2, env2, h2.run.imp fun k al3 s3 H3 st3 env3 h3 i ri => ?_⟩⟩⟩
  have rv' := (rv.stp st2 env1.cr env2.cr).stp st3 env2.cr env3.cr
  have ro' := ro.stp st3 env2.cr env3.cr
  split at h3
  · rename_i n kk
    split at h3
    · rename_i ds hn
      split at h3
      · rename_i j hj
        split at h3
        case isFalse => exact h3.elim
        rename_i lx
        obtain ⟨q, rfl, ha⟩ := ro'
        obtain rfl : i = .int kk := ri
        obtain ⟨ws, hw, z, rw0⟩ := env3.cr.cell n true _ q hn ha
        obtain ⟨c, st⟩ := cell_set env3.cr hn ha (rw0.set j rv') (by rw [List.length_set]; exact z) (lows_set (env3.cr.low n true ds hn) lx)
        exact ⟨q, ws, kk, j, rfl, rfl, hw, by rw [rw0.len]; exact hj, h3 al3 σ _ st (env3.stp st c)⟩
      · exact h3.elim
    · exact h3.elim
  · exact h3.elim
theorem sx_whl (hp : PassesOwn (model X.prog X.w) X.A X.env X.xe) (hc : EX X c (den G ec)) (hb : SSX X sts (denCs G ccs)) : SX X (.While c sts [] pos) (denC G (.whl ec ccs)) := (ps_while hp hc.pt hb).imp fun D σ H ⟨O, al, s, env, h⟩ => by
  rw [denC] at h
  refine ⟨fun m σ H => ∃ O al s, EnvR X.K O al s σ H ∧ AfterS X.K O al s.cs H (whlL (den G ec) (denCs G ccs) m s) D, ⟨fuel, O, al, s, env, h⟩, ?_⟩
  clear env h
  rintro m σ H ⟨O, al, s, env, h⟩
  cases m with
  | zero => rw [whlL] at h; exact h.elim
  | succ n =>
    rw [whlL] at h
    refine ⟨O, al, s, env, ?_⟩
    cases q : den G ec s with
    | no => rw [q] at h; exact h
    | ok d s1 =>
      rw [q] at h
      cases d with
      | bl b =>
        cases b with
        | true =>
          simp only at h
          refine fun al1 H1 st1 env1 => ⟨true, rfl, ?_⟩
          show (if true = true then _ else _)
          rw [if_pos rfl]
          refine ⟨_, fun σ' H' w => ⟨n, Nat.lt_succ_self n, w⟩, O, al1, s1, env1, ?_⟩
          have h := h.base st1
          cases q2 : denCs G ccs s1 with
          | nx s2 => rw [q2] at h; exact fun al2 σ2 H2 st2 env2 => ⟨O, al2, s2, env2, h.base st2⟩
          | ct s2 => rw [q2] at h; exact fun al2 σ2 H2 st2 env2 => ⟨O, al2, s2, env2, h.base st2⟩
          | bk s2 => rw [q2] at h; exact h
          | rt d2 cs2 => rw [q2] at h; exact h
          | no => rw [q2] at h; exact h
        | false =>
          simp only at h
          refine fun al1 H1 st1 env1 => ⟨false, rfl, ?_⟩
          show (if false = true then _ else _)
          rw [if_neg Bool.false_ne_true]
          exact h al1 σ H1 st1 env1
      | _ => simp only at h; exact h.elim
theorem sx_for {tg iter : Expr} {t : Tg} {k : SK} {ss : List E} (hp : PassesOwn (model X.prog X.w) X.A X.env X.xe) (hc : X.calm = true) (hi : EI X tg iter k (denL G ss)) (hg : PG X tg (gTg X.K t)) (hb : SSX X sts (denCs G ccs)) (hs : ∀ x, foldedSetIterable iter X.env x = pure x) :
    SX X (.For tg iter sts [] pos) (denC G (.for t k ss ccs)) := (ps_for hp hc hi (pg_k hg) hb hs).imp fun D σ H ⟨O, al, s, env, h⟩ => by
  rw [denC] at h
  refine ⟨O, al, s, env, ?_⟩
  cases q : denL G ss s with
  | no => rw [q] at h; exact h
  | ok ds s1 =>
    rw [q] at h
    simp only at h
    intro al1 H1 st1 env1
    cases hi : srcD k ds with
    | none => rw [hi] at h; exact h.elim
    | some items =>
      rw [hi] at h
      simp only at h
      have h := h.base st1
      refine ⟨items, rfl, fun J it => ?_⟩
      obtain ⟨hz, Gp, Y, w, gst, ykp, stab⟩ := it
      refine for_it w (fun i σ H => ∃ al' s', EnvR X.K O al' s' σ H ∧ Stp al1 s1.cs H1 al' s'.cs H ∧ AfterS X.K O al' s'.cs H (forL t (denCs G ccs) (items.drop i) s') D) ⟨al1, s1, env1, .refl, h⟩ (fun i σ H _ p => ?_) ?_ ?_
      · obtain ⟨al', s', e', st', _⟩ := p
        exact gst H (fun _ => env1.cr.mut) fun a o n e => st'.keep a o (fun z => n (.inr z)) e
      · rintro i x σ H H' hin ⟨al', s', e', st', h⟩ y ko'
        have kp := ykp i H x H' y
        have hd : items[i]? = some items[i] := List.getElem?_eq_getElem hin
        have rx := stab al' _ H (st'.tr env1.cr e'.cr) i x H' _ hd ko' y
        have e2 := e'.grow kp ko'
        rw [List.drop_eq_getElem_cons hin, forL] at h
        cases hb : bindT t items[i] s'.sl with
        | none => rw [hb] at h; exact h.elim
        | some sl =>
          rw [hb] at h
          simp only at h
          refine bind_ok (cs := s'.cs) t _ x s'.sl sl σ _ e2 rx hb fun σ2 env2 _ => ⟨O, al', ⟨sl, s'.cs⟩, env2, ?_⟩
          have st2 : Stp al1 s1.cs H1 al' s'.cs H' := st'.trans (stp_grow kp)
          have h := h.base (stp_grow (al := al') (cs := s'.cs) kp)
          cases q2 : denCs G ccs ⟨sl, s'.cs⟩ with
          | nx s3 => rw [q2] at h; exact fun al3 σ3 H3 st3 env3 => ⟨al3, s3, env3, st2.trans st3, h.base st3⟩
          | ct s3 => rw [q2] at h; exact fun al3 σ3 H3 st3 env3 => ⟨al3, s3, env3, st2.trans st3, h.base st3⟩
          | bk s3 => rw [q2] at h; exact h
          | rt d2 cs2 => rw [q2] at h; exact h
          | no => rw [q2] at h; exact h
      · rintro σ H ⟨al', s', e', st', h⟩
        rw [List.drop_length, forL] at h
        exact AfterS.nx e' h
/-! name = [..] on one line -/
def IsL (de : M D) : Prop := ∀ s d s', de s = .ok d s' → ∃ ds, d = .lst ds
theorem isL_lc {elt : E} {t : Tg} {k : SK} {ss ifs : List E} {own : List Nat} : IsL (den G (.lc elt t k ss ifs own)) := by
  intro s d s' h
  rw [den] at h
  cases q : denL G ss s with
  | no => rw [q] at h; cases h
  | ok ds s1 =>
    rw [q] at h
    simp only [Ev.R.bind_ok] at h
    split at h
    · cases h
    · split at h
      · cases h; exact ⟨_, rfl⟩
      · cases h
theorem fx_set {K : FragK} {O : Addr → Prop} {al : List Addr} {s : S} {σ : L2.St} {H : Hp} {D : Ends} {i : Nat} {ef : E} (hl : IsL (den G ef)) (env : EnvR K O al s σ H) (h : AfterS K O al s.cs H (denC G (.set i ef) s) D) : tF K (den G ef) σ H fun v H' => D.nx (σ.set i (some v)) H' := by
  rw [denC] at h
  refine ⟨O, al, s, env, ?_⟩
  cases q : den G ef s with
  | no => rw [q] at h; exact h
  | ok d s' =>
    obtain ⟨ds, rfl⟩ := hl s d s' q
    rw [q] at h
    intro al' H' st env'
    have h := (show AfterS K O al s.cs H (setS s' i (.lst ds)) D from h).base st
    exact ⟨ds, rfl, fun p vs hp ko r z => set_nx (env'.grow (upd_keep hp) ko) (h.base (stp_upd hp)) (new_lst env' hp ko r z)⟩
theorem fx_setC {K : FragK} {O : Addr → Prop} {al : List Addr} {s : S} {σ : L2.St} {H : Hp} {D : Ends} {i : Nat} {ef : E} (env : EnvR K O al s σ H) (h : AfterS K O al s.cs H (denC G (.set i (.cel ef)) s) D) : tF K (den G ef) σ H fun v H' => D.nx (σ.set i (some v)) H' := by
  rw [denC] at h
  refine ⟨O, al, s, env, ?_⟩
  rw [den] at h
  cases q : den G ef s with
  | no => rw [q] at h; exact h
  | ok d s' =>
    rw [q] at h
    simp only [Ev.R.bind_ok] at h
    intro al' H' st env'
    cases d with
    | lst ds =>
      simp only at h
      split at h
      case isFalse => exact h.elim
      rename_i lw
      have h := (show AfterS K O al s.cs H (setS ⟨s'.sl, s'.cs ++ [(true, .lst ds)]⟩ i (.cell s'.cs.length)) D from h).base st
      refine ⟨ds, rfl, fun p vs hp ko r z => ?_⟩
      obtain ⟨c', st'⟩ := cell_new env'.cr hp ko r z lw
      refine set_nx (env'.stp st' c') (h.base st') ⟨p, rfl, ?_⟩
      show (al' ++ [p])[s'.cs.length]? = some p
      rw [List.getElem?_append_right (by rw [env'.cr.len]; exact Nat.le_refl _), env'.cr.len, Nat.sub_self]
      rfl
    | _ => exact h.elim
theorem sx_setLc {i : Nat} {y : Str} {py spos : Pos} {elt tg iter : Expr} {ifs : List Expr} {scope : Scope} {own : List (Str × Nat)} {eelt : E} {t : Tg} {k : SK} {ss eifs : List E} (hc : X.calm = true) (hN : X.N.Nodup) (hy : X.N[i]? = some y) (hyl : X.env.scope.names.lookup y = some .local)
    (hsw : swapsWith (.ListComp elt [⟨tg, iter, ifs, 0⟩] scope pos) (some (.Name y py)) spos.line X.env = pure true) (ok : BlkOk X.N X.env.scope scope own) (ho : tgIn (own.map (·.2)) t = true) (hi : EI X tg iter k (denL G ss))
    (hg : ∀ (s : Shared) (H : Hp) (C : Addr) (cl : List (Str × Addr)) (fp : List Addr), PG (X.blk s H scope (compEnvC scope cl C X.env) fp) tg (gTg X.K t))
    (ht : ∀ (s : Shared) (H : Hp) (C : Addr) (cl : List (Str × Addr)) (fp : List Addr), PTs (X.blk s H scope (compEnvC scope cl C X.env) fp) ifs (tT X.K (denI G eifs)))
    (he : ∀ (s : Shared) (H : Hp) (C : Addr) (cl : List (Str × Addr)) (fp : List Addr), PE (X.blk s H scope (compEnvC scope cl C X.env) fp) elt (tD X.K (den G eelt)))
    (hs : ∀ x, foldedSetIterable iter X.env x = pure x) {E' : E} (hE : E' = .lc eelt t k ss eifs (own.map (·.2)) ∨ E' = .cel (.lc eelt t k ss eifs (own.map (·.2)))) :
    SX X (.Assign [.Name y py] (.ListComp elt [⟨tg, iter, ifs, 0⟩] scope pos) spos) (denC G (.set i E')) :=
  (ps_setLc hc hN hy hyl hsw hi ok (fun s H C cl fp => pg_k (hg s H C cl fp)) ht he hs).off fun D σ H ⟨O, al, s, env, h⟩ => by
    have hF : tF X.K (den G (.lc eelt t k ss eifs (own.map (·.2)))) σ H fun v H' => D.nx (σ.set i (some v)) H' := by
      rcases hE with rfl | rfl
      · exact fx_set isL_lc env h
      · exact fx_setC env h
    exact lc_read ho hF
end
end Ev

set_option Elab.async false
set_option linter.all false
set_option maxRecDepth 100000
set_option maxHeartbeats 1000000
set_option autoImplicit false
/-! The evaluator, part K: the checker. -/
namespace Ev
open PySem PySem.Spec PyProof.Rows L2
structure Ck where
  N : List Str
  gi : List (Str × Int)
  fs : Nat → Option (Str × Nat × Bool)
  bn : List Str
  kb : Nat → List (List Str × List Nat)
  gs : List (Str × Str)
def visB (sc : Scope) (x : Str) : Bool := decide (sc.names.lookup x = some .local) || decide (sc.names.lookup x = some .cell) || decide (sc.names.lookup x = some .free)
def locB (sc : Scope) (x : Str) : Bool := decide (sc.names.lookup x = some .local) || decide (sc.names.lookup x = some .cell)
def glB (sc : Scope) (x : Str) : Bool := decide (sc.names.lookup x = some .globalImplicit)
def okN (x : Str) : Bool := !(x == ("__debug__" : Str)) && !(x == ("__classdict__" : Str)) && decide (x ≠ "__name__")
theorem vis_of {sc : Scope} {x : Str} (h : visB sc x = true) : Vis sc x := by
  unfold visB at h
  simp only [Bool.or_eq_true, decide_eq_true_eq] at h
  rcases h with (h | h) | h
  · exact .inl h
  · exact .inr (.inl h)
  · exact .inr (.inr h)
theorem loc_of {sc : Scope} {x : Str} (h : locB sc x = true) : Loc sc x := by
  unfold locB at h
  simp only [Bool.or_eq_true, decide_eq_true_eq] at h
  exact h
/-- a truth test like any value's -/
def plE : Expr → Bool
  | .Name _ _ | .Call _ _ _ _ | .ListComp _ _ _ _ | .List _ _ | .Tuple _ _ _ | .Subscript _ _ _ | .BinOp _ _ _ _ | .Constant _ _ _ => true
  | _ => false
theorem plain_of {X : Cx} {e : Expr} (h : plE e = true) : PlainT X e := by
  cases e <;> first | (exact fun _ => rfl) | (exact absurd h Bool.false_ne_true)
def ixE : Expr → Bool
  | .Name _ _ | .Call _ _ _ _ | .Subscript _ _ _ | .BinOp _ _ _ _ | .Constant _ _ _ | .UnaryOp _ _ _ | .IfExp _ _ _ _ => true
  | _ => false
theorem plainIx_of {e : Expr} (h : ixE e = true) : PlainIx e := by
  cases e <;> first | (exact fun _ _ => rfl) | (exact absurd h Bool.false_ne_true)
def nsetE : Expr → Bool
  | .Set _ _ _ => false
  | _ => true
theorem nset_of {e : Expr} {env : Env} (h : nsetE e = true) : ∀ x, foldedSetIterable e env x = pure x := by
  intro x
  cases e <;> first | rfl | (exact absurd h Bool.false_ne_true)
theorem nset_in {e : Expr} {op : CmpOp} (h : nsetE e = true) : behindInMarks op e = false := by
  cases e <;> first | rfl | (exact absurd h Bool.false_ne_true)
def nlc : Expr → Bool
  | .ListComp _ _ _ _ | .SetComp _ _ _ _ | .DictComp _ _ _ _ _ => false
  | _ => true
theorem nlc_sw {e : Expr} {t : Option Expr} {l : Nat} {env : Env} (h : nlc e = true) : swapsWith e t l env = pure false := by
  cases e <;> first | rfl | (exact absurd h Bool.false_ne_true)
/-! targets -/
def asB : Expr → Bool
  | .Starred _ _ => false
  | _ => true
theorem as_cons {e : Expr} {es : List Expr} {env : Env} (h : asB e = true) : assignEach (e :: es) env = (false, assign e env) :: assignEach es env := by
  cases e <;> first | rfl | (exact absurd h Bool.false_ne_true)
theorem as_len {env : Env} : ∀ {es : List Expr}, es.all asB = true → (assignEach es env).length = es.length ∧ (assignEach es env).findIdx? (·.1) = none
  | [], _ => ⟨rfl, rfl⟩
  | e :: es, h => by
    simp only [List.all_cons, Bool.and_eq_true] at h
    rw [as_cons h.1]
    obtain ⟨h1, h2⟩ := as_len (env := env) h.2
    refine ⟨by simp [h1], ?_⟩
    rw [List.findIdx?_cons]
    simp [h2]
mutual
def chkT (N : List Str) (fn : Str → Bool) (sc : Scope) : Expr → Tg → Bool
  | .Name x _, .name i => decide (N[i]? = some x) && locB sc x && (fn x || decide (sc.names.lookup x = some .local))
  | .Tuple es _ _, .tup ts => es.all asB && chkTs N fn sc es ts
  | _, _ => false
def chkTs (N : List Str) (fn : Str → Bool) (sc : Scope) : List Expr → List Tg → Bool
  | [], [] => true
  | e :: es, t :: ts => chkT N fn sc e t && chkTs N fn sc es ts
  | _, _ => false
end
theorem chkTs_len {N : List Str} {fn : Str → Bool} {sc : Scope} : ∀ {es : List Expr} {ts : List Tg}, chkTs N fn sc es ts = true → es.length = ts.length
  | [], [], _ => rfl
  | [], _ :: _, h => by simp [chkTs] at h
  | _ :: _, [], h => by simp [chkTs] at h
  | e :: es, t :: ts, h => by
    rw [chkTs, Bool.and_eq_true] at h
    simp [chkTs_len h.2]
mutual
theorem pg_of {X : Cx} (hc : X.calm = true) (hN : X.N.Nodup) : ∀ (e : Expr) (t : Tg), chkT X.N X.fn X.env.scope e t = true → PG X e (gTg X.K t)
  | .Name x p, .name i, h => by
    rw [chkT] at h
    simp only [Bool.and_eq_true, Bool.or_eq_true, decide_eq_true_eq] at h
    rw [gTg]
    exact pg_name hN h.1.1 (loc_of h.1.2) h.2
  | .Tuple es k p, .tup ts, h => by
    rw [chkT, Bool.and_eq_true] at h
    rw [gTg]
    obtain ⟨h1, h2⟩ := as_len (env := X.env) h.1
    exact pg_tup hc (pgs_of hc hN es ts h.1 h.2) (by rw [h1, chkTs_len h.2]) h2
  | .Name _ _, .tup _, h => by simp [chkT] at h
  | .Tuple _ _ _, .name _, h => by simp [chkT] at h
  | .BoolOp .., _, h => by simp [chkT] at h
  | .NamedExpr .., _, h => by simp [chkT] at h
  | .BinOp .., _, h => by simp [chkT] at h
  | .UnaryOp .., _, h => by simp [chkT] at h
  | .Lambda .., _, h => by simp [chkT] at h
  | .IfExp .., _, h => by simp [chkT] at h
  | .Dict .., _, h => by simp [chkT] at h
  | .Set .., _, h => by simp [chkT] at h
  | .ListComp .., _, h => by simp [chkT] at h
  | .SetComp .., _, h => by simp [chkT] at h
  | .DictComp .., _, h => by simp [chkT] at h
  | .GeneratorExp .., _, h => by simp [chkT] at h
  | .Await .., _, h => by simp [chkT] at h
  | .Yield .., _, h => by simp [chkT] at h
  | .YieldFrom .., _, h => by simp [chkT] at h
  | .Compare .., _, h => by simp [chkT] at h
  | .Call .., _, h => by simp [chkT] at h
  | .FormattedValue .., _, h => by simp [chkT] at h
  | .JoinedStr .., _, h => by simp [chkT] at h
  | .Constant .., _, h => by simp [chkT] at h
  | .Attribute .., _, h => by simp [chkT] at h
  | .Subscript .., _, h => by simp [chkT] at h
  | .Starred .., _, h => by simp [chkT] at h
  | .List .., _, h => by simp [chkT] at h
  | .Slice .., _, h => by simp [chkT] at h
theorem pgs_of {X : Cx} (hc : X.calm = true) (hN : X.N.Nodup) : ∀ (es : List Expr) (ts : List Tg), es.all asB = true → chkTs X.N X.fn X.env.scope es ts = true → PGs X es (gTgs X.K ts)
  | [], [], _, _ => by rw [gTgs]; exact pgs_nil
  | e :: es, t :: ts, ha, h => by
    rw [chkTs, Bool.and_eq_true] at h
    simp only [List.all_cons, Bool.and_eq_true] at ha
    rw [gTgs]
    exact pgs_cons (pg_of hc hN e t h.1) (pgs_of hc hN es ts ha.2 h.2) (by rw [as_cons ha.1]; rfl)
  | [], _ :: _, _, h => by simp [chkTs] at h
  | _ :: _, [], _, h => by simp [chkTs] at h
end

/-! built-ins -/
def biNm : BI → Option Str
  | .len => some "len" | .abs => some "abs" | .tuple => some "tuple" | .list => some "list" | .int => some "int" | .all => some "all" | .any => some "any" | .sum => some "sum" | .min2 => some "min" | .max2 => some "max" | .min => some "min" | .max => some "max" | .sorted => some "sorted" | .repr => some "repr"
  | _ => none
theorem ex_bi {X : Cx} {G : Gf} {a : Expr} {es : List Expr} {eas : List E} {b : BI} {x : Str} {p pos : Pos} (h : biNm b = some x) (hc : X.calm = true) (hu : X.A.units + 100 < cLine) (gd : X.A.guards = some []) (hg : Gl X x) (hm : X.mg x = none) (ha : EA X (a :: es) (denL G eas)) (h1 : nst a = true) (h2 : es.all nst = true) : EX X (.Call (.Name x p) (a :: es) [] pos) (den G (.bi b eas)) := by
  refine .plain ?_ fun _ => rfl
  cases b <;> simp only [biNm, reduceCtorEq, Option.some.injEq] at h <;> subst h
  · exact pe_biB (BiA.of1 (bi_len X) fun _ _ => rfl) hg hm boot_len ha (by decide +kernel) (by decide +kernel) h1 h2
  · exact pe_biB (BiA.of1 (bi_abs X) fun _ _ => rfl) hg hm boot_abs ha (by decide +kernel) (by decide +kernel) h1 h2
  · exact pe_biT (BiA.of1 (bi_tuple X) fun _ _ => rfl) hg hm boot_tuple ha (by decide +kernel) (by decide +kernel) h1 h2
  · exact pe_biT (BiA.of1 (bi_list X) fun _ _ => rfl) hg hm boot_list ha (by decide +kernel) (by decide +kernel) h1 h2
  · exact pe_biB (BiA.of1 (bi_sum X hc) fun _ _ => rfl) hg hm PyProof.Rows.boot_sum ha (by decide +kernel) (by decide +kernel) h1 h2
  · exact pe_biB (BiA.of1 (bi_all X hc) fun _ _ => rfl) hg hm PyProof.Rows.boot_all ha (by decide +kernel) (by decide +kernel) h1 h2
  · exact pe_biB (BiA.of1 (bi_any X hc) fun _ _ => rfl) hg hm PyProof.Rows.boot_any ha (by decide +kernel) (by decide +kernel) h1 h2
  · exact pe_biB (BiA.of1 (bi_min X hc (by omega)) fun _ _ => rfl) hg hm PyProof.Rows.boot_min ha (by decide +kernel) (by decide +kernel) h1 h2
  · exact pe_biB (BiA.of1 (bi_max X hc (by omega)) fun _ _ => rfl) hg hm PyProof.Rows.boot_max ha (by decide +kernel) (by decide +kernel) h1 h2
  · exact pe_biB (BiA.of2 (bi_min2 X hc) fun _ _ => rfl) hg hm PyProof.Rows.boot_min ha (by decide +kernel) (by decide +kernel) h1 h2
  · exact pe_biB (BiA.of2 (bi_max2 X hc) fun _ _ => rfl) hg hm PyProof.Rows.boot_max ha (by decide +kernel) (by decide +kernel) h1 h2
  · exact pe_biT (BiA.of1 (bi_int X) fun _ _ => rfl) hg hm boot_int ha (by decide +kernel) (by decide +kernel) h1 h2
  · exact pe_biB (BiA.of1 (bi_sorted X (by omega)) fun _ _ => rfl) hg hm boot_sorted ha (by decide +kernel) (by decide +kernel) h1 h2
  · exact pe_biB (BiA.of1 (bi_repr gd (by omega)) fun _ _ => rfl) hg hm boot_repr ha (by decide +kernel) (by decide +kernel) h1 h2
/-! what a checker's context says -/
structure FnF (X : Cx) (G : Gf) (kb : List (List Str × List Nat)) (j : Nat) (x : Str) (np : Nat) (fr : Bool) : Prop where
  ex : ∃ (k : Nat) (f : Addr) (fd : FuncData) (ps : List Str), FnG X.prog X.w X.K X.mg X.base k f fd ps (spOf X.K (G j) np fr) ∧ Room k X.A ∧ X.mg x = some (.ref f) ∧ PySem.W.keepIn X.K (.ref f) = true ∧ Binds X.K fd ps [] ∧ ∀ e ∈ kb, KBd X.K fd ps e.1 e.2
  g : ∀ ds cs r, G j ds cs = some r → ds.length = np ∧ (fr = true → ∃ xs, r.1 = .lst xs)
structure XOk (c : Ck) (X : Cx) (G : Gf) : Prop where
  N : X.N = c.N
  nd : X.N.Nodup
  calm : X.calm = true
  un : X.A.units + 100 < cLine
  gd : X.A.guards = some []
  bt : ∀ x ∈ c.bn, X.mg x = none
  gi : ∀ x i, c.gi.lookup x = some i → ∃ u, X.mg x = some u ∧ RelV (.int i) u
  gs : ∀ x i, c.gs.lookup x = some i → ∃ u, X.mg x = some u ∧ RelV (.str i) u
  fs : ∀ (j : Nat) (x : Str) (np : Nat) (fr : Bool), c.fs j = some (x, np, fr) → FnF X G (c.kb j) j x np fr
theorem XOk.blk {c : Ck} {X : Cx} {G : Gf} (h : XOk c X G) (s : Shared) (H : Hp) (scope : Scope) (env : Env) (fp : List Addr) : XOk c (X.blk s H scope env fp) G :=
  ⟨h.N, h.nd, h.calm, h.un, h.gd, h.bt, h.gi, h.gs, fun j x np fr q => ⟨(h.fs j x np fr q).ex, (h.fs j x np fr q).g⟩⟩
/-! the checker of expressions -/
def oneE (f : Expr → E → Bool) (e : Expr) (ea : E) : Bool := match e, ea with
  | .Starred a _, .star eb => f a eb
  | e, ea => nst e && !ea.isStar && f e ea
def allE (f : Expr → E → Bool) : List Expr → List E → Bool
  | [], [] => true
  | e :: es, ea :: eas => oneE f e ea && allE f es eas
  | _, _ => false
def optE (f : Expr → E → Bool) : Option Expr → Option E → Bool
  | none, none => true
  | some e, some ea => f e ea
  | _, _ => false
def kwE (f : Expr → E → Bool) : List Keyword → List E → List Str → Bool
  | [], [], [] => true
  | ⟨some y, e, _⟩ :: ks, ea :: eas, x :: xs => decide (x = y) && !ea.isStar && f e ea && kwE f ks eas xs
  | _, _, _ => false
def glC (c : Ck) (sc : Scope) (x : Str) : Bool := glB sc x && decide (x ∈ c.bn)
def rgE (c : Ck) (sc : Scope) (f : Expr → E → Bool) (e : Expr) (eas : List E) : Bool := match e, eas with
  | .Call (.Name x _) [a] [] _, [ea] => decide (x = "range") && glC c sc "range" && nst a && !ea.isStar && f a ea
  | .Call (.Name x _) [a, b] [] _, [ea, eb] => decide (x = "range") && glC c sc "range" && nst a && !ea.isStar && f a ea && nst b && !eb.isStar && f b eb
  | _, _ => false
def srcE (c : Ck) (sc : Scope) (f : Expr → E → Bool) (tg iter : Expr) (k : SK) (ss : List E) : Bool := match k with
  | .seq => match ss with
    | [ea] => !ea.isStar && f iter ea
    | _ => false
  | .rng1 => (match iter, ss with
    | .Call (.Name _ _) [_] [] _, [_] => rgE c sc f iter ss
    | _, _ => false)
  | .rng2 => (match iter, ss with
    | .Call (.Name _ _) [_, _] [] _, [_, _] => rgE c sc f iter ss
    | _, _ => false)
  | .enum => (match tg, iter, ss with
    | .Tuple _ _ _, .Call (.Name x _) [a] [] _, [ea] => decide (x = "enumerate") && glC c sc "enumerate" && nst a && !ea.isStar && f a ea
    | _, _, _ => false)
  | .zip => (match tg, iter, ss with
    | .Tuple _ _ _, .Call (.Name x _) [a, b] [] _, [ea, eb] => decide (x = "zip") && glC c sc "zip" && nst a && !ea.isStar && f a ea && nst b && !eb.isStar && f b eb
    | _, _, _ => false)
def ownP (N : List Str) (own : List Nat) : List (Str × Nat) := own.filterMap fun i => N[i]?.map fun x => (x, i)
def lcE (c : Ck) (sc : Scope) (f : Scope → Expr → E → Bool) (e : Expr) (elt : E) (t : Tg) (k : SK) (ss ifs : List E) (own : List Nat) : Bool := match e with
  | .ListComp el [⟨tg, iter, ifs', 0⟩] scope _ => decide ((ownP c.N own).map (·.2) = own) && blkC c.N sc scope (ownP c.N own) && tgIn own t && srcE c sc (f sc) tg iter k ss && chkT c.N (fun x => scope.names.lookup x == some .cell) (relS scope sc) tg t &&
      (match ifs', ifs with
      | [], [] => true
      | [e1], [ee1] => f (relS scope sc) e1 ee1
      | _, _ => false) && f (relS scope sc) el elt && nsetE iter
  | _ => false
/-- new lists -/
def stepF (c : Ck) (f : Scope → Expr → E → Bool) (sc : Scope) (e : Expr) (ee : E) : Bool := match ee with
  | .lst eas => (match e with
    | .List es _ => allE (f sc) es eas
    | _ => false)
  | .rng eas => (match e with
    | .Call (.Name x _) [g] [] _ => decide (x = "list") && glC c sc "list" && nst g && rgE c sc (f sc) g eas
    | _ => false)
  | .lc elt t k ss ifs own => lcE c sc f e elt t k ss ifs own
  | .bi .sortset [ea] => (match e with
    | .Call (.Name x _) [.Call (.Name y _) [a] [] _] [] _ => decide (x = "sorted") && decide (y = "set") && glC c sc "sorted" && glC c sc "set" && nst a && !ea.isStar && f sc a ea
    | _ => false)
  | .bi .list [ea] => (match e with
    | .Call (.Name x _) [a] [] _ => decide (x = "list") && glC c sc "list" && nst a && !ea.isStar && f sc a ea
    | _ => false)
  | .bi .sorted [ea] => (match e with
    | .Call (.Name x _) [a] [] _ => decide (x = "sorted") && glC c sc "sorted" && nst a && !ea.isStar && f sc a ea
    | _ => false)
  | .call fi eas => (match e, c.fs fi with
    | .Call (.Name x _) (a :: es) [] _, some (y, _, true) => decide (x = y) && glB sc x && okN x && nst a && es.all nst && allE (f sc) (a :: es) eas
    | _, _ => false)
  | _ => false
def andL (f : Expr → E → Bool) : List Expr → E → Bool
  | [], _ => false
  | [a], ea => f a ea
  | a :: b :: r, .and ea eb => f a ea && andL f (b :: r) eb
  | _, _ => false
def orL (f : Expr → E → Bool) : List Expr → E → Bool
  | [], _ => false
  | [a], ea => f a ea
  | a :: b :: r, .or ea eb => f a ea && orL f (b :: r) eb
  | _, _ => false
def stepE (c : Ck) (f : Scope → Expr → E → Bool) (ff : Scope → Expr → E → Bool) (sc : Scope) (e : Expr) (ee : E) : Bool := match ee with
  | .var i => (match e with
    | .Name x _ => decide (c.N[i]? = some x) && visB sc x && okN x
    | _ => false)
  | .kint i => (match e with
    | .Constant (.int j) _ _ => decide (i = j)
    | _ => false)
  | .kbl i => (match e with
    | .Constant (.bool j) _ _ => decide (i = j)
    | _ => false)
  | .knon => (match e with
    | .Constant .none _ _ => true
    | _ => false)
  | .kstr i => (match e with
    | .Constant (.str j) _ _ => decide (i = j)
    | _ => false)
  | .gint y i => (match e with
    | .Name x _ => decide (x = y) && glB sc x && okN x && decide (c.gi.lookup x = some i)
    | _ => false)
  | .gstr y i => (match e with
    | .Name x _ => decide (x = y) && glB sc x && okN x && decide (c.gs.lookup x = some i)
    | _ => false)
  | .qry q ea eb => (match e with
    | .Call (.Attribute (.Name o op) m ap) [b] [] cp => decide (m = PySem.Str.ofString (qNm q)) && f sc (.Name o op) ea && (ap.endLine == cp.line) && nst b && !eb.isStar && f sc b eb
    | _ => false)
  | .bin o ea eb => (match e with
    | .BinOp a op b _ => decide (op = bop o) && f sc a ea && f sc b eb
    | _ => false)
  | .neg ea => (match e with
    | .UnaryOp .USub a _ => f sc a ea
    | _ => false)
  | .cmp o ea eb => (match e with
    | .Compare a [op] [b] _ => decide (op = cop o) && f sc a ea && f sc b eb && nsetE b
    | _ => false)
  | .cmp2 o p ea eb ec => (match e with
    | .Compare a [op, op2] [b, d] _ => decide (op = cop o) && decide (op2 = cop p) && f sc a ea && f sc b eb && f sc d ec && nsetE d
    | _ => false)
  | .isn ea => (match e with
    | .Compare a [.Is] [.Constant .none _ _] _ => f sc a ea
    | _ => false)
  | .nisn ea => (match e with
    | .Compare a [.IsNot] [.Constant .none _ _] _ => f sc a ea
    | _ => false)
  | .and ea eb => (match e with
    | .BoolOp .And es _ => andL (f sc) es (.and ea eb)
    | _ => false)
  | .or ea eb => (match e with
    | .BoolOp .Or es _ => orL (f sc) es (.or ea eb)
    | _ => false)
  | .not ea => (match e with
    | .UnaryOp .Not a _ => f sc a ea
    | _ => false)
  | .ite ec ea eb => (match e with
    | .IfExp d a b _ => f sc d ec && f sc a ea && f sc b eb
    | _ => false)
  | .tup eas => (match e with
    | .Tuple es _ _ => allE (f sc) es eas
    | _ => false)
  | .idx ea eb => (match e with
    | .Subscript a b _ => ixE b && f sc a ea && f sc b eb
    | _ => false)
  | .sl ea lo hi => (match e with
    | .Subscript a (.Slice l u none _) _ => f sc a ea && optE (f sc) l lo && optE (f sc) u hi
    | _ => false)
  | .call fi eas => (match e, c.fs fi with
    | .Call (.Name x _) (a :: es) [] _, some (y, _, false) => decide (x = y) && glB sc x && okN x && nst a && es.all nst && allE (f sc) (a :: es) eas
    | _, _ => false)
  | .callk fi eas pm => (match e, c.fs fi with
    | .Call (.Name x _) [] kws _, some (y, _, false) => decide (x = y) && glB sc x && okN x && (c.kb fi).any fun k => decide (k.2 = pm) && decide (pm.length = k.1.length) && kwE (f sc) kws eas k.1
    | _, _ => false)
  | .rev ea => (match e with
    | .Subscript a (.Slice none none (some (.UnaryOp .USub (.Constant (.int 1) _ _) _)) _) _ => f sc a ea
    | _ => false)
  | .bi b eas => (match e with
    | .Call (.Name x _) (a :: es) [] _ => decide (biNm b = some x) && glC c sc x && nst a && es.all nst && allE (f sc) (a :: es) eas
    | _ => false)
  | .isi t ea => (match e with
    | .Call (.Name x _) [a, .Name y _] [] _ => decide (x = "isinstance") && decide (y = PySem.Str.ofString (tyS t)) && glC c sc "isinstance" && glC c sc (PySem.Str.ofString (tyS t)) && nst a && f sc a ea
    | _ => false)
  | .trng eas => (match e with
    | .Call (.Name x _) [g] [] _ => decide (x = "tuple") && glC c sc "tuple" && nst g && rgE c sc (f sc) g eas
    | _ => false)
  | .cel ea => plE e && ff sc e ea
  | .frz ea => plE e && f sc e ea
  | .meth m ea eas => (match e with
    | .Call (.Attribute (.Name o op) nm apos) (a :: es) [] cpos => decide (nm = PySem.Str.ofString (mtNm m)) && f sc (.Name o op) ea && nst a && es.all nst && decide (es.length < 29) && (apos.endLine == cpos.line) && allE (f sc) (a :: es) eas
    | .Call (.Attribute (.Name o op) nm apos) [] [] cpos => decide (nm = PySem.Str.ofString (mtNm m)) && f sc (.Name o op) ea && (apos.endLine == cpos.line) && (match eas with | [] => true | _ => false)
    | _ => false)
  | _ => false
def chk (c : Ck) : Nat → Bool → Scope → Expr → E → Bool
  | 0, _, _, _, _ => false
  | n + 1, true, sc, e, ee => stepF c (chk c n false) sc e ee
  | n + 1, false, sc, e, ee => stepE c (chk c n false) (chk c n true) sc e ee || (plE e && stepF c (chk c n false) sc e ee)
end Ev

set_option Elab.async false
set_option linter.all false
set_option maxRecDepth 100000
set_option maxHeartbeats 1000000
set_option autoImplicit false
/-! The evaluator, part O: the checker of expressions is sound. -/
namespace Ev
open PySem PySem.Spec PyProof.Rows L2
section
variable {c : Ck} {X : Cx} {G : Gf} {f : Expr → E → Bool}
theorem allE_ok (hf : ∀ e ee, f e ee = true → EX X e (den G ee)) : ∀ {es : List Expr} {eas : List E}, allE f es eas = true → EA X es (denL G eas)
  | [], [], _ => ea_nil
  | [], _ :: _, h => by simp [allE] at h
  | _ :: _, [], h => by simp [allE] at h
  | e :: es, ea :: eas, h => by
    rw [allE, Bool.and_eq_true] at h
    obtain ⟨h1, h2⟩ := h
    have ih := allE_ok hf h2
    unfold oneE at h1
    split at h1
    · exact ea_star (hf _ _ h1) ih rfl
    · simp only [Bool.and_eq_true, Bool.not_eq_true'] at h1
      exact ea_cons (hf _ _ h1.2) h1.1.2 ih (star_cons h1.1.1)
theorem optE_ok (hf : ∀ e ee, f e ee = true → EX X e (den G ee)) {o : Option Expr} {oe : Option E} (h : optE f o oe = true) : EO X o (denO G oe) := by
  cases o with
  | none =>
    cases oe with
    | none => exact eo_none
    | some _ => simp [optE] at h
  | some e =>
    cases oe with
    | none => simp [optE] at h
    | some ee => exact eo_some (hf _ _ h)
theorem andL_ok (hf : ∀ e ee, f e ee = true → EX X e (den G ee)) : ∀ {es : List Expr} {ea : E}, andL f es ea = true → EW X .And es (den G ea)
  | [], _, h => by simp [andL] at h
  | [a], ea, h => by
    rw [andL] at h
    exact ew_and1 (hf _ _ h)
  | a :: b :: r, ea, h => by
    cases ea <;> simp only [andL, Bool.and_eq_true, reduceCtorEq, Bool.false_eq_true] at h
    case and ea eb =>
      rw [and_eq]
      exact ew_and (hf _ _ h.1) (andL_ok hf h.2)
theorem orL_ok (hf : ∀ e ee, f e ee = true → EX X e (den G ee)) : ∀ {es : List Expr} {ea : E}, orL f es ea = true → EW X .Or es (den G ea)
  | [], _, h => by simp [orL] at h
  | [a], ea, h => by
    rw [orL] at h
    exact ew_or1 (hf _ _ h)
  | a :: b :: r, ea, h => by
    cases ea <;> simp only [orL, Bool.and_eq_true, reduceCtorEq, Bool.false_eq_true] at h
    case or ea eb =>
      rw [or_eq]
      exact ew_or (hf _ _ h.1) (orL_ok hf h.2)
theorem gl_of {x : Str} (h : glB X.env.scope x = true) : Gl X x := by
  unfold glB at h
  rw [decide_eq_true_eq] at h
  exact h
theorem glC_of (ok : XOk c X G) {x : Str} (h : glC c X.env.scope x = true) : Gl X x ∧ X.mg x = none := by
  unfold glC at h
  rw [Bool.and_eq_true, decide_eq_true_eq] at h
  exact ⟨gl_of h.1, ok.bt x h.2⟩
theorem okN_of {x : Str} (h : okN x = true) : (x == ("__debug__" : Str)) = false ∧ (x == ("__classdict__" : Str)) = false ∧ x ≠ "__name__" := by
  unfold okN at h
  simpa only [Bool.and_eq_true, Bool.not_eq_true', decide_eq_true_eq, and_assoc] using h
theorem ea_one {a : Expr} {ea : E} (ha : EX X a (den G ea)) (h1 : nst a = true) (hs : ea.isStar = false) : EA X [a] (denL G [ea]) := ea_cons ha hs ea_nil (star_cons h1)
theorem ea_two {a b : Expr} {ea eb : E} (ha : EX X a (den G ea)) (h1 : nst a = true) (hs : ea.isStar = false) (hb : EX X b (den G eb)) (h2 : nst b = true) (hs2 : eb.isStar = false) : EA X [a, b] (denL G [ea, eb]) :=
  ea_cons ha hs (ea_one hb h2 hs2) (star_cons h1)
theorem rgE_ok (ok : XOk c X G) (hf : ∀ e ee, f e ee = true → EX X e (den G ee)) {e : Expr} {eas : List E} (h : rgE c X.env.scope f e eas = true) : EG X e (denL G eas) := by
  unfold rgE at h
  split at h
  · simp only [Bool.and_eq_true, decide_eq_true_eq, Bool.not_eq_true'] at h
    obtain ⟨⟨⟨⟨rfl, h1⟩, h2⟩, h3⟩, h4⟩ := h
    exact eg_1 (glC_of ok h1).1 (glC_of ok h1).2 (hf _ _ h4) h2 h3
  · simp only [Bool.and_eq_true, decide_eq_true_eq, Bool.not_eq_true'] at h
    obtain ⟨⟨⟨⟨⟨⟨⟨rfl, h1⟩, h2⟩, h3⟩, h4⟩, h5⟩, h6⟩, h7⟩ := h
    exact eg_2 (glC_of ok h1).1 (glC_of ok h1).2 (hf _ _ h4) h2 h3 (hf _ _ h7) h5 h6
  · cases h
theorem srcE_ok (ok : XOk c X G) (hf : ∀ e ee, f e ee = true → EX X e (den G ee)) {tg iter : Expr} {k : SK} {ss : List E} (h : srcE c X.env.scope f tg iter k ss = true) : EI X tg iter k (denL G ss) := by
  unfold srcE at h
  split at h
  · split at h
    · simp only [Bool.and_eq_true, Bool.not_eq_true'] at h
      exact ei_seq (hf _ _ h.2) h.1
    · cases h
  · split at h
    · simp only [rgE, Bool.and_eq_true, decide_eq_true_eq, Bool.not_eq_true'] at h
      obtain ⟨⟨⟨⟨rfl, h1⟩, h2⟩, h3⟩, h4⟩ := h
      exact ei_rng1 (glC_of ok h1).1 (glC_of ok h1).2 (ea_one (hf _ _ h4) h2 h3) h2 h3
    · cases h
  · split at h
    · simp only [rgE, Bool.and_eq_true, decide_eq_true_eq, Bool.not_eq_true'] at h
      obtain ⟨⟨⟨⟨⟨⟨⟨rfl, h1⟩, h2⟩, h3⟩, h4⟩, h5⟩, h6⟩, h7⟩ := h
      exact ei_rng2 (glC_of ok h1).1 (glC_of ok h1).2 (ea_two (hf _ _ h4) h2 h3 (hf _ _ h7) h5 h6) h2 h5 h3 h6
    · cases h
  · split at h
    · simp only [Bool.and_eq_true, decide_eq_true_eq, Bool.not_eq_true'] at h
      obtain ⟨⟨⟨⟨rfl, h1⟩, h2⟩, h3⟩, h4⟩ := h
      exact ei_enum (glC_of ok h1).1 (glC_of ok h1).2 (ea_one (hf _ _ h4) h2 h3) h2 h3
    · cases h
  · split at h
    · simp only [Bool.and_eq_true, decide_eq_true_eq, Bool.not_eq_true'] at h
      obtain ⟨⟨⟨⟨⟨⟨⟨rfl, h1⟩, h2⟩, h3⟩, h4⟩, h5⟩, h6⟩, h7⟩ := h
      exact ei_zip (glC_of ok h1).1 (glC_of ok h1).2 (ea_two (hf _ _ h4) h2 h3 (hf _ _ h7) h5 h6) h2 h5 h3 h6
    · cases h
end
def ChkOk (c : Ck) (G : Gf) (f : Scope → Expr → E → Bool) : Prop := ∀ (X : Cx) (e : Expr) (ee : E), XOk c X G → f X.env.scope e ee = true → EX X e (den G ee)
theorem denI_one {G : Gf} {ea : E} : denI G [ea] = den G ea := by
  funext s
  rw [denI]
section
variable {c : Ck} {X : Cx} {G : Gf} {f : Scope → Expr → E → Bool}
structure LcOk (X : Cx) (G : Gf) (el tg iter : Expr) (ifs' : List Expr) (scope : Scope) (own : List (Str × Nat)) (elt : E) (t : Tg) (k : SK) (ss ifs : List E) : Prop where
  ok : BlkOk X.N X.env.scope scope own
  ho : tgIn (own.map (·.2)) t = true
  hi : EI X tg iter k (denL G ss)
  hg : ∀ (s : Shared) (H : Hp) (C : Addr) (cl : List (Str × Addr)) (fp : List Addr), PG (X.blk s H scope (compEnvC scope cl C X.env) fp) tg (gTg X.K t)
  ht : ∀ (s : Shared) (H : Hp) (C : Addr) (cl : List (Str × Addr)) (fp : List Addr), PTs (X.blk s H scope (compEnvC scope cl C X.env) fp) ifs' (tT X.K (denI G ifs))
  he : ∀ (s : Shared) (H : Hp) (C : Addr) (cl : List (Str × Addr)) (fp : List Addr), PE (X.blk s H scope (compEnvC scope cl C X.env) fp) el (tD X.K (den G elt))
  hs : ∀ x, foldedSetIterable iter X.env x = pure x
theorem lcE_ok (ok : XOk c X G) (hf : ChkOk c G f) {e : Expr} {elt : E} {t : Tg} {k : SK} {ss ifs : List E} {own : List Nat} (h : lcE c X.env.scope f e elt t k ss ifs own = true) :
    ∃ el tg iter ifs' scope pos own', e = .ListComp el [⟨tg, iter, ifs', 0⟩] scope pos ∧ own'.map (·.2) = own ∧ LcOk X G el tg iter ifs' scope own' elt t k ss ifs := by
  unfold lcE at h
  split at h
  · rename_i el tg iter ifs' scope pos
    simp only [Bool.and_eq_true, decide_eq_true_eq] at h
    obtain ⟨⟨⟨⟨⟨⟨⟨h1, h2⟩, h3⟩, h4⟩, h5⟩, h6⟩, h7⟩, h8⟩ := h
    have ok' := fun s H C cl fp => ok.blk s H scope (compEnvC scope cl C X.env) fp
    refine ⟨el, tg, iter, ifs', scope, pos, ownP c.N own, rfl, h1, ⟨?_, by rw [h1]; exact h3, srcE_ok ok (fun e ee q => hf X e ee ok q) h4, fun s H C cl fp => ?_, fun s H C cl fp => ?_, fun s H C cl fp => (hf _ _ _ (ok' s H C cl fp) h7).pe, nset_of h8⟩⟩
    · rw [ok.N]
      exact blkOk_by h2
    · refine pg_of (X := X.blk s H scope (compEnvC scope cl C X.env) fp) ok.calm ok.nd tg t ?_
      rw [← ok.N] at h5
      exact h5
    · split at h6
      · refine ⟨fun pins s1 σ H1 Q I q => (pts_nil (X := X.blk s H scope (compEnvC scope cl C X.env) fp)).run pins s1 σ H1 Q I ?_⟩
        obtain ⟨O, al, s2, env, h⟩ := q
        rw [denI] at h
        obtain ⟨b, e, q⟩ := After.ok h env
        cases e
        exact q
      · refine pts_one ?_
        rw [denI_one]
        exact (hf _ _ _ (ok' s H C cl fp) h6).pt
      · cases h6
  · cases h
theorem isL_lst {eas : List E} : IsL (den G (.lst eas)) := by
  intro s d s' h
  rw [den] at h
  cases q : denL G eas s with
  | no => rw [q] at h; cases h
  | ok ds s1 =>
    rw [q] at h
    simp only [Ev.R.bind_ok] at h
    split at h
    · cases h; exact ⟨_, rfl⟩
    · cases h
theorem isL_rng {eas : List E} : IsL (den G (.rng eas)) := by
  intro s d s' h
  rw [den] at h
  cases q : denL G eas s with
  | no => rw [q] at h; cases h
  | ok ds s1 =>
    rw [q] at h
    simp only [Ev.R.bind_ok] at h
    cases q2 : rngD ds with
    | none => rw [q2] at h; cases h
    | some xs => rw [q2] at h; cases h; exact ⟨_, rfl⟩
theorem isL_ss {eas : List E} : IsL (den G (.bi .sortset eas)) := by
  intro s d s' h
  rw [den] at h
  cases q : denL G eas s with
  | no => rw [q] at h; cases h
  | ok ds s1 =>
    rw [q] at h
    simp only [Ev.R.bind_ok] at h
    cases q2 : biD s1.cs .sortset ds with
    | none => rw [q2] at h; cases h
    | some d2 =>
      rw [q2] at h
      cases h
      match ds, q2 with
      | [], q2 => simp [biD] at q2
      | [x], q2 =>
        simp only [biD, bi1, sortsetD] at q2
        split at q2
        · split at q2
          · cases q2; exact ⟨_, rfl⟩
          · cases q2
        · cases q2
      | [x, y], q2 => simp [biD, bi2] at q2
      | _ :: _ :: _ :: _, q2 => simp [biD] at q2
theorem isL_call {fi : Nat} {eas : List E} (hG : ∀ ds cs r, G fi ds cs = some r → ∃ xs, r.1 = .lst xs) : IsL (den G (.call fi eas)) := by
  intro s d s' h
  rw [den] at h
  cases q : denL G eas s with
  | no => rw [q] at h; cases h
  | ok ds s1 =>
    rw [q] at h
    simp only [Ev.R.bind_ok] at h
    cases q2 : G fi ds s1.cs with
    | none => rw [q2] at h; cases h
    | some r =>
      obtain ⟨d2, cs2⟩ := r
      rw [q2] at h
      cases h
      exact hG _ _ _ q2
theorem kwE_ok {f : Expr → E → Bool} (hf : ∀ e ee, f e ee = true → EX X e (den G ee)) (pos : Pos) : ∀ {kws : List Keyword} {eas : List E} {ks : List Str}, kwE f kws eas ks = true →
    PK X kws (tA X.K (denL G eas)) ∧ (backToKw pos (keywordEach kws X.env)).all (·.1.isSome) = true ∧ (backToKw pos (keywordEach kws X.env)).filterMap (·.1) = ks ∧ (backToKw pos (keywordEach kws X.env)).any (·.1.isNone) = false
  | [], [], [], _ => ⟨kn_nil, rfl, rfl, rfl⟩
  | ⟨some y, e, kp⟩ :: kws, ea :: eas, x :: xs, h => by
    simp only [kwE, Bool.and_eq_true, decide_eq_true_eq, Bool.not_eq_true'] at h
    obtain ⟨⟨⟨rfl, h1⟩, h2⟩, h3⟩ := h
    obtain ⟨i1, i2, i3, i4⟩ := kwE_ok hf pos h3
    refine ⟨kn_cons (hf _ _ h2) h1 i1, ?_, ?_, ?_⟩
    · simp only [keywordEach, backToKw, List.map_cons, List.all_cons] at i2 ⊢
      rw [i2]
      rfl
    · simp only [keywordEach, backToKw, List.map_cons] at i3 ⊢
      rw [List.filterMap_cons, i3]
    · simp only [keywordEach, backToKw, List.map_cons, List.any_cons] at i4 ⊢
      rw [i4]
      rfl
  | [], [], _ :: _, h => by simp [kwE] at h
  | [], _ :: _, _, h => by simp [kwE] at h
  | ⟨none, _, _⟩ :: _, _, _, h => by simp [kwE] at h
  | ⟨some _, _, _⟩ :: _, [], _, h => by simp [kwE] at h
  | ⟨some _, _, _⟩ :: _, _ :: _, [], h => by simp [kwE] at h
theorem isL_bi1 {b : BI} {ea : E} (hb : ∀ (cs : Cs) (d r : D), bi1 cs b d = some r → ∃ xs, r = .lst xs) (h2 : ∀ x y, bi2 b x y = none) : IsL (den G (.bi b [ea])) := by
  intro s d s' h
  rw [den] at h
  cases q : denL G [ea] s with
  | no => rw [q] at h; cases h
  | ok ds s1 =>
    rw [q] at h
    simp only [Ev.R.bind_ok] at h
    cases q2 : biD s1.cs b ds with
    | none => rw [q2] at h; cases h
    | some d2 =>
      rw [q2] at h
      cases h
      match ds, q2 with
      | [], q2 => simp [biD] at q2
      | [x], q2 => exact hb _ _ _ q2
      | [x, y], q2 => simp only [biD, h2] at q2; cases q2
      | _ :: _ :: _ :: _, q2 => simp [biD] at q2
theorem isL_list {ea : E} : IsL (den G (.bi .list [ea])) := isL_bi1 (fun cs d r q => by
  simp only [bi1, Option.map_eq_some_iff] at q
  obtain ⟨xs, _, rfl⟩ := q
  exact ⟨xs, rfl⟩) fun _ _ => rfl
theorem isL_sorted {ea : E} : IsL (den G (.bi .sorted [ea])) := isL_bi1 (fun cs d r q => by
  simp only [bi1, sortedD] at q
  split at q
  · split at q
    · cases q; exact ⟨_, rfl⟩
    · cases q
  · cases q) fun _ _ => rfl
theorem stepF_ok (ok : XOk c X G) (hf : ChkOk c G f) {e : Expr} {ee : E} (h : stepF c f X.env.scope e ee = true) : FX X e (den G ee) ∧ IsL (den G ee) := by
  have hfX : ∀ e ee, f X.env.scope e ee = true → EX X e (den G ee) := fun e ee q => hf X e ee ok q
  unfold stepF at h
  split at h
  · split at h
    · exact ⟨fx_lst (allE_ok hfX h), isL_lst⟩
    · cases h
  · split at h
    · simp only [Bool.and_eq_true, decide_eq_true_eq] at h
      obtain ⟨⟨⟨rfl, h1⟩, h2⟩, h3⟩ := h
      exact ⟨fx_rng ok.calm (glC_of ok h1).1 (glC_of ok h1).2 (rgE_ok ok hfX h3) h2, isL_rng⟩
    · cases h
  · obtain ⟨el, tg, iter, ifs', scope, pos, own', rfl, rfl, L⟩ := lcE_ok ok hf h
    exact ⟨fx_lc ok.calm ok.nd L.ok L.ho L.hi L.hg L.ht L.he L.hs, isL_lc⟩
  · rename_i ea
    split at h
    · simp only [Bool.and_eq_true, decide_eq_true_eq, Bool.not_eq_true'] at h
      obtain ⟨⟨⟨⟨⟨⟨rfl, rfl⟩, h1⟩, h2⟩, h3⟩, h4⟩, h5⟩ := h
      exact ⟨fx_ss ok.calm ok.un (glC_of ok h1).1 (glC_of ok h1).2 (glC_of ok h2).1 (glC_of ok h2).2 (hfX _ _ h5).pe (star_cons h3) h4, isL_ss⟩
    · cases h
  · rename_i ea
    split at h
    · simp only [Bool.and_eq_true, decide_eq_true_eq, Bool.not_eq_true'] at h
      obtain ⟨⟨⟨⟨rfl, h1⟩, h2⟩, h3⟩, h4⟩ := h
      exact ⟨fx_list (glC_of ok h1).1 (glC_of ok h1).2 (hfX _ _ h4) h3 h2, isL_list⟩
    · cases h
  · rename_i ea
    split at h
    · simp only [Bool.and_eq_true, decide_eq_true_eq, Bool.not_eq_true'] at h
      obtain ⟨⟨⟨⟨rfl, h1⟩, h2⟩, h3⟩, h4⟩ := h
      exact ⟨fx_sorted (by have := ok.un; omega) (glC_of ok h1).1 (glC_of ok h1).2 (hfX _ _ h4) h3 h2, isL_sorted⟩
    · cases h
  · rename_i fi eas
    split at h
    · rename_i x p a es pos y np hq
      simp only [Bool.and_eq_true, decide_eq_true_eq] at h
      obtain ⟨⟨⟨⟨⟨rfl, h1⟩, h2⟩, h3⟩, h4⟩, h5⟩ := h
      have F := ok.fs fi x np true hq
      obtain ⟨k, f', fd, ps, F1, hr, hm, hk, hb, hkb⟩ := F.ex
      have hG : ∀ ds cs r, G fi ds cs = some r → ds.length = np ∧ ∃ xs, r.1 = .lst xs := fun ds cs r q => ⟨(F.g ds cs r q).1, (F.g ds cs r q).2 rfl⟩
      exact ⟨fx_callU F1 hG hr ok.gd (gl_of h1) hm hk hb (allE_ok hfX h5) (okN_of h2).1 h3 h4, isL_call fun ds cs r q => (hG ds cs r q).2⟩
    · cases h
  · cases h

def ChkFOk (c : Ck) (G : Gf) (f : Scope → Expr → E → Bool) : Prop := ∀ (X : Cx) (e : Expr) (ee : E), XOk c X G → f X.env.scope e ee = true → FX X e (den G ee) ∧ IsL (den G ee)
theorem base_of {o : Str} {p : Pos} {nm : Str} {env : Env} {w : Sem Value} : attributeBase (.Name o p) nm env w = w := rfl
theorem few_of {e : Expr} {es : List Expr} {cpos : Pos} {env : Env} (h1 : nst e = true) (h2 : es.all nst = true) (h3 : es.length < 29) : ((backTo cpos (starEach (e :: es) env)).all (fun x => !x.1) && (backToKw cpos (keywordEach [] env)).all (fun x => x.1.isSome)
      && decide ((e :: es).length + ([] : List Keyword).length + (if ([] : List Keyword).isEmpty then 0 else 1) < 30)) = true := by
  have h4 : ∀ {xs : List Expr}, xs.all nst = true → (backTo cpos (starEach xs env)).all (fun x => !x.1) = true := by
    intro xs
    induction xs with
    | nil => intro _; rfl
    | cons x xs ih =>
      intro h
      simp only [List.all_cons, Bool.and_eq_true] at h
      rw [star_cons h.1]
      show (true && (backTo cpos (starEach xs env)).all (fun x => !x.1)) = true
      rw [ih h.2] <;> rfl
  rw [h4 (by simp [h1, h2])]
  show (true && true && decide ((e :: es).length + 0 + 0 < 30)) = true
  simp only [List.length_cons, Bool.true_and, decide_eq_true_eq]
  omega
theorem ex_callU2 (ok : XOk c X G) {fi np : Nat} {x : Str} {p pos : Pos} {a : Expr} {es : List Expr} {eas : List E} (hq : c.fs fi = some (x, np, false)) (hg : Gl X x) (hn : okN x = true) (h3 : nst a = true) (h4 : es.all nst = true) (ha : EA X (a :: es) (denL G eas)) : EX X (.Call (.Name x p) (a :: es) [] pos) (den G (.call fi eas)) := by
  have F := ok.fs fi x np false hq
  obtain ⟨k, f', fd, ps, F1, hr, hm, hk, hb, hkb⟩ := F.ex
  exact ex_callU F1 (fun ds cs r q => (F.g ds cs r q).1) hr ok.gd hg hm hk hb ha (okN_of hn).1 h3 h4
theorem stepE_ok {ff : Scope → Expr → E → Bool} (ok : XOk c X G) (hf : ChkOk c G f) (hff : ChkFOk c G ff) {e : Expr} {ee : E} (h : stepE c f ff X.env.scope e ee = true) : EX X e (den G ee) := by
  have hfX : ∀ e ee, f X.env.scope e ee = true → EX X e (den G ee) := fun e ee q => hf X e ee ok q
  cases ee with
  | var i =>
    unfold stepE at h
    simp only at h
    split at h
    · simp only [Bool.and_eq_true, decide_eq_true_eq] at h
      obtain ⟨⟨h1, h2⟩, h3⟩ := h
      exact ex_var (by rw [ok.N]; exact h1) (vis_of h2) (okN_of h3).1 (okN_of h3).2.1
    · cases h
  | kint i =>
    unfold stepE at h
    simp only at h
    split at h
    · cases of_decide_eq_true h
      exact ex_int
    · cases h
  | kbl i =>
    unfold stepE at h
    simp only at h
    split at h
    · cases of_decide_eq_true h
      exact ex_bl
    · cases h
  | knon =>
    unfold stepE at h
    simp only at h
    split at h
    · exact ex_non
    · cases h
  | kstr i =>
    unfold stepE at h
    simp only at h
    split at h
    · cases of_decide_eq_true h
      exact ex_str
    · cases h
  | gint y i =>
    unfold stepE at h
    simp only at h
    split at h
    · simp only [Bool.and_eq_true, decide_eq_true_eq] at h
      obtain ⟨⟨⟨rfl, h2⟩, h3⟩, h4⟩ := h
      obtain ⟨u, hu, r⟩ := ok.gi _ _ h4
      exact ex_gint (gl_of h2) hu r (okN_of h3).1
    · cases h
  | gstr y i =>
    unfold stepE at h
    simp only at h
    split at h
    · simp only [Bool.and_eq_true, decide_eq_true_eq] at h
      obtain ⟨⟨⟨rfl, h2⟩, h3⟩, h4⟩ := h
      obtain ⟨u, hu, r⟩ := ok.gs _ _ h4
      exact ex_gstr (gl_of h2) hu r (okN_of h3).1
    · cases h
  | qry q ea eb =>
    unfold stepE at h
    simp only at h
    split at h
    · simp only [Bool.and_eq_true, decide_eq_true_eq, Bool.not_eq_true'] at h
      obtain ⟨⟨⟨⟨⟨rfl, h1⟩, h2⟩, h3⟩, h4⟩, h5⟩ := h
      exact ex_qry (by have := ok.un; omega) (hfX _ _ h1) (hfX _ _ h5) h4 base_of (few_of h3 rfl (by decide)) h2 h3 fun _ => rfl
    · cases h
  | bin o ea eb =>
    unfold stepE at h
    simp only at h
    split at h
    · simp only [Bool.and_eq_true, decide_eq_true_eq] at h
      obtain ⟨⟨rfl, h2⟩, h3⟩ := h
      exact ex_bin (hfX _ _ h2) (hfX _ _ h3)
    · cases h
  | neg ea =>
    unfold stepE at h
    simp only at h
    split at h
    · exact ex_neg (hfX _ _ h)
    · cases h
  | cmp o ea eb =>
    unfold stepE at h
    simp only at h
    split at h
    · simp only [Bool.and_eq_true, decide_eq_true_eq] at h
      obtain ⟨⟨⟨rfl, h2⟩, h3⟩, h4⟩ := h
      exact ex_cmp (by have := ok.un; omega) (hfX _ _ h2) (hfX _ _ h3) (nset_in h4)
    · cases h
  | cmp2 o p ea eb ec =>
    unfold stepE at h
    simp only at h
    split at h
    · simp only [Bool.and_eq_true, decide_eq_true_eq] at h
      obtain ⟨⟨⟨⟨⟨rfl, rfl⟩, h2⟩, h3⟩, h4⟩, h5⟩ := h
      exact ex_cmp2 (by have := ok.un; omega) (hfX _ _ h2) (hfX _ _ h3) (hfX _ _ h4) (nset_in h5)
    · cases h
  | isn ea =>
    unfold stepE at h
    simp only at h
    split at h
    · exact ex_isn (hfX _ _ h)
    · cases h
  | nisn ea =>
    unfold stepE at h
    simp only at h
    split at h
    · exact ex_nisn (hfX _ _ h)
    · cases h
  | and ea eb =>
    unfold stepE at h
    simp only at h
    split at h
    · exact (andL_ok hfX h).ex
    · cases h
  | or ea eb =>
    unfold stepE at h
    simp only at h
    split at h
    · exact (orL_ok hfX h).ex
    · cases h
  | not ea =>
    unfold stepE at h
    simp only at h
    split at h
    · exact ex_not (hfX _ _ h)
    · cases h
  | ite ec ea eb =>
    unfold stepE at h
    simp only at h
    split at h
    · simp only [Bool.and_eq_true] at h
      exact ex_ite (hfX _ _ h.1.1) (hfX _ _ h.1.2) (hfX _ _ h.2)
    · cases h
  | tup eas =>
    unfold stepE at h
    simp only at h
    split at h
    · exact ex_tup (allE_ok hfX h)
    · cases h
  | idx ea eb =>
    unfold stepE at h
    simp only at h
    split at h
    · simp only [Bool.and_eq_true] at h
      exact ex_idx (hfX _ _ h.1.2) (hfX _ _ h.2) (plainIx_of h.1.1)
    · cases h
  | sl ea lo hi =>
    unfold stepE at h
    simp only at h
    split at h
    · simp only [Bool.and_eq_true] at h
      exact ex_sl (hfX _ _ h.1.1) (optE_ok hfX h.1.2) (optE_ok hfX h.2)
    · cases h
  | call fi eas =>
    unfold stepE at h
    simp only at h
    split at h
    · rename_i x p a es pos y np hq
      simp only [Bool.and_eq_true, decide_eq_true_eq] at h
      obtain ⟨⟨⟨⟨⟨rfl, h1⟩, h2⟩, h3⟩, h4⟩, h5⟩ := h
      exact ex_callU2 ok hq (gl_of h1) h2 h3 h4 (allE_ok hfX h5)
    · cases h
  | bi b eas =>
    unfold stepE at h
    simp only at h
    split at h
    · simp only [Bool.and_eq_true, decide_eq_true_eq] at h
      obtain ⟨⟨⟨⟨h0, h1⟩, h2⟩, h3⟩, h4⟩ := h
      exact ex_bi h0 ok.calm ok.un ok.gd (glC_of ok h1).1 (glC_of ok h1).2 (allE_ok hfX h4) h2 h3
    · cases h
  | isi t ea =>
    unfold stepE at h
    simp only at h
    split at h
    · simp only [Bool.and_eq_true, decide_eq_true_eq] at h
      obtain ⟨⟨⟨⟨⟨rfl, rfl⟩, h1⟩, h2⟩, h3⟩, h4⟩ := h
      exact ex_isi (glC_of ok h1).1 (glC_of ok h1).2 (glC_of ok h2).1 (glC_of ok h2).2 (hfX _ _ h4) h3
    · cases h
  | trng eas =>
    unfold stepE at h
    simp only at h
    split at h
    · simp only [Bool.and_eq_true, decide_eq_true_eq] at h
      obtain ⟨⟨⟨rfl, h1⟩, h2⟩, h3⟩ := h
      exact ex_trng ok.calm (glC_of ok h1).1 (glC_of ok h1).2 (rgE_ok ok hfX h3) h2
    · cases h
  | cel ea =>
    unfold stepE at h
    simp only [Bool.and_eq_true] at h
    exact ex_cel (hff X _ _ ok h.2).1 (plain_of h.1)
  | frz ea =>
    unfold stepE at h
    simp only [Bool.and_eq_true] at h
    exact ex_frz (hfX _ _ h.2) (plain_of h.1)
  | meth m ea eas =>
    unfold stepE at h
    simp only at h
    split at h
    · simp only [Bool.and_eq_true, decide_eq_true_eq] at h
      obtain ⟨⟨⟨⟨⟨⟨rfl, h1⟩, h2⟩, h3⟩, h4⟩, h5⟩, h6⟩ := h
      exact ex_meth (hfX _ _ h1) (allE_ok hfX h6) base_of (few_of h2 h3 h4) h5 h2 h3 fun _ => rfl
    · simp only [Bool.and_eq_true, decide_eq_true_eq] at h
      obtain ⟨⟨⟨rfl, h1⟩, h2⟩, h3⟩ := h
      split at h3
      · exact ex_meth0 (hfX _ _ h1) base_of h2 fun _ => rfl
      · cases h3
    · cases h
  | rev ea =>
    unfold stepE at h
    simp only at h
    split at h
    · exact ex_rev (hfX _ _ h)
    · cases h
  | callk fi eas pm =>
    unfold stepE at h
    simp only at h
    split at h
    · rename_i x p kws pos y np hq
      simp only [Bool.and_eq_true, decide_eq_true_eq, List.any_eq_true] at h
      obtain ⟨⟨⟨rfl, h1⟩, h2⟩, ⟨ks, pm'⟩, hm0, ⟨h3, h4⟩, h5⟩ := h
      simp only at h3 h4 h5
      subst h3
      have F := ok.fs fi x np false hq
      obtain ⟨k, f', fd, ps, F1, hr, hm, hk, hb, hkb⟩ := F.ex
      obtain ⟨i1, i2, i3, i4⟩ := kwE_ok hfX pos h5
      exact ex_callK F1 (fun ds cs r q => (F.g ds cs r q).1) hr ok.gd (gl_of h1) hm hk (hkb _ hm0) i1 (okN_of h2).1 h4 i2 i3 i4
    · cases h
  | star e => simp [stepE] at h
  | lst es => simp [stepE] at h
  | rng es => simp [stepE] at h
  | lc elt tg k ss ifs own => simp [stepE] at h
end
theorem chk_ok (c : Ck) (G : Gf) : ∀ n : Nat, ChkOk c G (chk c n false) ∧ ChkFOk c G (chk c n true)
  | 0 => ⟨fun X e ee ok h => by simp [chk] at h, fun X e ee ok h => by simp [chk] at h⟩
  | n + 1 => by
    obtain ⟨h1, h2⟩ := chk_ok c G n
    refine ⟨fun X e ee ok h => ?_, fun X e ee ok h => ?_⟩
    · rw [chk, Bool.or_eq_true] at h
      rcases h with h | h
      · exact stepE_ok ok h1 h2 h
      · rw [Bool.and_eq_true] at h
        obtain ⟨q1, q2⟩ := stepF_ok ok h1 h.2
        exact fx_exU q1 q2 (plain_of h.1)
    · rw [chk] at h
      exact stepF_ok ok h1 h
end Ev

set_option Elab.async false
set_option linter.all false
set_option maxRecDepth 100000
set_option maxHeartbeats 1000000
set_option autoImplicit false
/-! The evaluator, part U: the checker of statements. -/
namespace Ev
open PySem PySem.Spec PyProof.Rows L2
/-- the store of a comprehension goes ahead of its block's end -/
def swB (sc : Scope) (e : Expr) (x : Str) (p : Pos) : Bool := match e with
  | .ListComp _ _ scope pos => decide (sc.names.lookup x = some .local) && (p.line == pos.line) && !(scope.names.any fun (n, k) => n == x && (k == .local || k == .cell))
  | _ => false
theorem bk_fun {env : Env} (h : env.scope.kind = .function) : env.blockKind = .function := by unfold Env.blockKind; rw [h]; rfl
theorem swB_true {env : Env} {elt : Expr} {gs : List Comprehension} {scope : Scope} {pos p : Pos} {x : Str} {l : Nat} (hk : env.scope.kind = .function) (h : swB env.scope (.ListComp elt gs scope pos) x p = true) : swapsWith (.ListComp elt gs scope pos) (some (.Name x p)) l env = pure true ∧ env.scope.names.lookup x = some .local := by
  simp only [swB, Bool.and_eq_true, Bool.not_eq_true', decide_eq_true_eq] at h
  exact ⟨sw_true hk h.1.1 h.1.2 h.2, h.1.1⟩
theorem swB_false {env : Env} {e : Expr} {p : Pos} {x : Str} {l : Nat} (hk : env.scope.kind = .function) (hn : (match e with | .SetComp _ _ _ _ | .DictComp _ _ _ _ _ => false | _ => true) = true) (h : swB env.scope e x p = false) : swapsWith e (some (.Name x p)) l env = pure false := by
  cases e <;> first
    | rfl
    | (exact absurd hn Bool.false_ne_true)
    | skip
  rename_i elt gs scope pos
  have hb := bk_fun hk
  simp only [swB] at h
  unfold swapsWith
  simp only [hb, Expr.pos]
  have e1 : (env.kindOf x == some NameKind.local) = decide (env.scope.names.lookup x = some .local) := by
    show ((List.lookup x env.scope.names) == some NameKind.local) = _
    cases q : decide (env.scope.names.lookup x = some .local) with
    | true => rw [of_decide_eq_true q]; rfl
    | false =>
      have q := of_decide_eq_false q
      cases q2 : ((List.lookup x env.scope.names) == some NameKind.local) with
      | false => rfl
      | true => exact absurd (eq_of_beq q2) q
  rw [e1]
  have e2 : (ScopeKind.function == ScopeKind.function) = true := rfl
  rw [e2, Bool.true_and, h]
/-- the stores of a pair are not swapped -/
def locNm (sc : Scope) : Expr → Bool
  | .Name x _ => decide (sc.names.lookup x = some .local)
  | _ => false
def swN (sc : Scope) (ts : List Expr) (v : Expr) : Bool := match v with
  | .Tuple _ _ _ => !(ts.all (locNm sc))
  | _ => true
theorem fm_short {α β : Type} (f : α → Option β) : ∀ {l : List α}, (l.filterMap f).length ≤ l.length
  | [] => Nat.le_refl _
  | a :: l => by
    have ih := fm_short f (l := l)
    simp only [List.filterMap_cons]
    split
    · exact Nat.le_succ_of_le ih
    · exact Nat.succ_le_succ ih
theorem fm_lt {α β : Type} (f : α → Option β) (g : α → Bool) (hg : ∀ a, g a = false → f a = none) : ∀ {l : List α}, l.all g = false → (l.filterMap f).length < l.length
  | [], h => by simp at h
  | a :: l, h => by
    simp only [List.filterMap_cons, List.length_cons]
    simp only [List.all_cons, Bool.and_eq_false_iff] at h
    rcases h with h | h
    · rw [hg a h]
      exact Nat.lt_succ_of_le (fm_short f)
    · have ih := fm_lt f g hg h
      split
      · exact Nat.lt_succ_of_lt ih
      · exact Nat.succ_lt_succ ih
theorem swN_of {env : Env} {ts : List Expr} {k : Nat} {p : Pos} {v : Expr} (h : swN env.scope ts v = true) : swappedStores [.Tuple ts k p] v env = pure none := by
  cases v <;> first
    | rfl
    | skip
  rename_i vs k2 p2
  simp only [swN, Bool.not_eq_true'] at h
  unfold swappedStores
  simp only
  split
  · rfl
  · split
    · rfl
    · split
      · rfl
      · rename_i h3
        refine absurd ?_ h3
        rw [Bool.or_eq_true]
        refine .inl (bne_iff_ne.mpr (Nat.ne_of_lt (fm_lt _ (locNm env.scope) (fun a ha => ?_) h)))
        cases a <;> first | rfl | skip
        rename_i x q
        have : (env.kindOf x == some NameKind.local) = false := by
          simp only [locNm, decide_eq_false_iff_not] at ha
          cases q2 : (env.kindOf x == some NameKind.local) with
          | false => rfl
          | true => exact absurd (eq_of_beq q2) ha
        simp only [this, Bool.false_and, Bool.false_eq_true, if_false]
/-- the stores of a pair of local names are -/
def parB (sc : Scope) (x y : Str) (px py : Pos) (a b : Expr) : Bool := decide (sc.names.lookup x = some .local) && decide (sc.names.lookup y = some .local) && (py.line == px.line) && decide (x ≠ y) && nst a && nst b && !([a, b].all (foldedForSure 8)) && !([a, b].all (constantsAlone 8))
theorem nst_any {a b : Expr} (g : Expr → Bool) (hg : ∀ e, nst e = true → g e = false) (h1 : nst a = true) (h2 : nst b = true) : [a, b].any g = false := by simp [hg a h1, hg b h2]
theorem par_of {env : Env} {x y : Str} {px py pt p2 : Pos} {kt k2 : Nat} {a b : Expr} (hk : env.scope.kind = .function) (h : parB env.scope x y px py a b = true) : swappedStores [.Tuple [.Name x px, .Name y py] kt pt] (.Tuple [a, b] k2 p2) env = pure (some [x, y]) := by
  unfold parB at h
  simp only [Bool.and_eq_true, decide_eq_true_eq, Bool.not_eq_true'] at h
  obtain ⟨⟨⟨⟨⟨⟨⟨h1, h2⟩, h3⟩, h4⟩, h5⟩, h6⟩, h7⟩, h8⟩ := h
  have hb := bk_fun hk
  have k1 : (env.kindOf x == some NameKind.local) = true := by show (List.lookup x env.scope.names == some NameKind.local) = true; rw [h1]; rfl
  have k2 : (env.kindOf y == some NameKind.local) = true := by show (List.lookup y env.scope.names == some NameKind.local) = true; rw [h2]; rfl
  have hxy : (x == y) = false := by
    cases q : x == y with
    | false => rfl
    | true => exact absurd (eq_of_beq q) h4
  have hyx : (y == x) = false := by
    cases q : y == x with
    | false => rfl
    | true => exact absurd (eq_of_beq q).symm h4
  unfold swappedStores
  simp only [List.length_cons, List.length_nil, hb, h7, h8, List.filterMap_cons, List.filterMap_nil, List.head?_cons, Option.map_some, Option.getD_some, k1, k2, Expr.pos, beq_self_eq_true, h3, Bool.and_self, if_true]
  have hed : [x, y].eraseDups.length = 2 := by simp [List.eraseDups_cons, hxy, hyx]
  rw [hed, nst_any _ (fun e he => by cases e <;> first | rfl | exact absurd he Bool.false_ne_true) h5 h6]
  rfl

def tgN : Expr → Bool
  | .Tuple _ _ _ => true
  | _ => false
def nsd : Expr → Bool
  | .SetComp _ _ _ _ | .DictComp _ _ _ _ _ => false
  | _ => true
def stepS (c : Ck) (fe ff : Scope → Expr → E → Bool) (fb : List Stmt → List C → Bool) (sc : Scope) (st : Stmt) (cc : C) : Bool := match cc with
  | .set i ee => (match st with
    | .Assign [.Name x p] e _ => decide (c.N[i]? = some x) && locB sc x && nsd e && (if swB sc e x p then (match ee with
        | .lc elt t k ss ifs own => lcE c sc fe e elt t k ss ifs own
        | .cel (.lc elt t k ss ifs own) => lcE c sc fe e elt t k ss ifs own
        | _ => false) else fe sc e ee)
    | _ => false)
  | .setT t ee => (match st with
    | .Assign [.Tuple ts k p] e _ => chkT c.N (fun _ => true) sc (.Tuple ts k p) t && swN sc ts e && fe sc e ee
    | _ => false)
  | .par i j ea eb => (match st with
    | .Assign [.Tuple [.Name x px, .Name y py] _ _] (.Tuple [a, b] _ _) _ => decide (c.N[i]? = some x) && decide (c.N[j]? = some y) && parB sc x y px py a b && fe sc a ea && fe sc b eb
    | _ => false)
  | .setix ea eb ec => (match st with
    | .Assign [.Subscript a b _] e _ => ixE b && fe sc a ea && fe sc b eb && fe sc e ec
    | _ => false)
  | .exp ee => (match st with
    | .Expr e _ => nlc e && fe sc e ee
    | _ => false)
  | .ite ec c1 c2 => (match st with
    | .If e s1 s2 _ => fe sc e ec && fb s1 c1 && fb s2 c2
    | _ => false)
  | .whl ec c1 => (match st with
    | .While e s1 [] _ => fe sc e ec && fb s1 c1
    | _ => false)
  | .for t k ss c1 => (match st with
    | .For tg iter s1 [] _ => chkT c.N (fun _ => true) sc tg t && srcE c sc (fe sc) tg iter k ss && nsetE iter && fb s1 c1
    | _ => false)
  | .ret ee => (match st with
    | .Return (some e) _ => fe sc e ee
    | _ => false)
  | .retn => (match st with
    | .Return none _ => true
    | _ => false)
  | .brk => (match st with
    | .Break _ => true
    | _ => false)
  | .cnt => (match st with
    | .Continue _ => true
    | _ => false)
  | .pas => (match st with
    | .Pass _ => true
    | _ => false)
  | .never => true
def allS (f : Stmt → C → Bool) : List Stmt → List C → Bool
  | [], [] => true
  | s :: ss, c :: cs => f s c && allS f ss cs
  | _, _ => false
def chkS (c : Ck) (n : Nat) : Nat → Scope → Stmt → C → Bool
  | 0, _, _, _ => false
  | m + 1, sc, st, cc => stepS c (chk c n false) (chk c n true) (allS (chkS c n m sc)) sc st cc
section
variable {c : Ck} {X : Cx} {G : Gf}
theorem allS_ok {f : Stmt → C → Bool} (hf : ∀ st cc, f st cc = true → SX X st (denC G cc)) : ∀ {ss : List Stmt} {cs : List C}, allS f ss cs = true → SSX X ss (denCs G cs)
  | [], [], _ => ss_nil
  | [], _ :: _, h => by simp [allS] at h
  | _ :: _, [], h => by simp [allS] at h
  | s :: ss, c :: cs, h => by
    rw [allS, Bool.and_eq_true] at h
    exact ss_cons (hf _ _ h.1) (allS_ok hf h.2)
theorem kind_ok {st : Stmt} {fe ff : Scope → Expr → E → Bool} {fb : List Stmt → List C → Bool} {cc : C} (ok : XOk c X G) (hk : X.env.scope.kind = .function) (hfn : X.fn = fun _ => true) (hp : PassesOwn (model X.prog X.w) X.A X.env X.xe) (he : ChkOk c G fe) (hb : ∀ ss cs, fb ss cs = true → SSX X ss (denCs G cs))
    (h : stepS c fe ff fb X.env.scope st cc = true) : SX X st (denC G cc) := by
  have heX : ∀ e ee, fe X.env.scope e ee = true → EX X e (den G ee) := fun e ee q => he X e ee ok q
  have hT : ∀ tg t, chkT c.N (fun _ => true) X.env.scope tg t = true → PG X tg (gTg X.K t) := fun tg t q => pg_of ok.calm ok.nd tg t (by rw [ok.N, hfn]; exact q)
  have hfx : ∀ x, X.fn x = true := fun x => by rw [hfn]
  cases cc with
  | set i ee =>
    unfold stepS at h
    simp only at h
    split at h
    · rename_i x p e pos
      simp only [Bool.and_eq_true, decide_eq_true_eq] at h
      obtain ⟨⟨⟨h1, h2⟩, h3⟩, h4⟩ := h
      split at h4
      · rename_i hsw
        have key : ∀ {elt t k ss ifs own}, lcE c X.env.scope fe e elt t k ss ifs own = true → ∀ E', (E' = .lc elt t k ss ifs own ∨ E' = .cel (.lc elt t k ss ifs own)) → SX X (.Assign [.Name x p] e pos) (denC G (.set i E')) := by
          intro elt t k ss ifs own hl E' hE
          obtain ⟨el, tg, iter, ifs', scope, pos', own', rfl, rfl, L⟩ := lcE_ok ok he hl
          obtain ⟨q1, q2⟩ := swB_true (l := pos.line) hk hsw
          exact sx_setLc ok.calm ok.nd (by rw [ok.N]; exact h1) q2 q1 L.ok L.ho L.hi L.hg L.ht L.he L.hs hE
        split at h4
        · exact key h4 _ (.inl rfl)
        · exact key h4 _ (.inr rfl)
        · cases h4
      · rename_i hsw
        exact sx_set ok.nd (by rw [ok.N]; exact h1) (loc_of h2) (heX _ _ h4) (swB_false hk h3 (by simpa using hsw)) (.inl (hfx x))
    · cases h
  | setT t ee =>
    unfold stepS at h
    simp only at h
    split at h
    · simp only [Bool.and_eq_true] at h
      refine sx_setT (heX _ _ h.2) (hT _ _ h.1.1) ?_ (swN_of h.1.2) rfl
      rename_i e _
      cases e <;> rfl
    · cases h
  | par i j ea eb =>
    unfold stepS at h
    simp only at h
    split at h
    · simp only [Bool.and_eq_true, decide_eq_true_eq] at h
      obtain ⟨⟨⟨⟨h1, h2⟩, h3⟩, h4⟩, h5⟩ := h
      have h30 := h3
      unfold parB at h3
      simp only [Bool.and_eq_true, decide_eq_true_eq, Bool.not_eq_true'] at h3
      obtain ⟨⟨⟨⟨⟨⟨⟨k1, k2⟩, k3⟩, k4⟩, k5⟩, k6⟩, k7⟩, k8⟩ := h3
      refine sx_par ok.calm ok.nd (by rw [ok.N]; exact h1) (by rw [ok.N]; exact h2) (fun q => k4 ?_) k1 k2 (heX _ _ h4) (heX _ _ h5) k5 k6 (par_of hk h30) rfl
      subst q
      rw [h1] at h2
      exact Option.some.inj h2
    · cases h
  | setix ea eb ec =>
    unfold stepS at h
    simp only at h
    split at h
    · simp only [Bool.and_eq_true] at h
      obtain ⟨⟨⟨h1, h2⟩, h3⟩, h4⟩ := h
      refine sx_setix (heX _ _ h2) (heX _ _ h3) (heX _ _ h4) ?_ ?_ ?_ rfl
      · rename_i b _ _ _
        intro v
        cases b <;> first | rfl | (exact absurd h1 Bool.false_ne_true)
      · rename_i e _
        cases e <;> rfl
      · rfl
    · cases h
  | exp ee =>
    unfold stepS at h
    simp only at h
    split at h
    · rw [Bool.and_eq_true] at h
      exact sx_exp (heX _ _ h.2) (nlc_sw h.1)
    · cases h
  | ite ec c1 c2 =>
    unfold stepS at h
    simp only at h
    split at h
    · simp only [Bool.and_eq_true] at h
      exact sx_ite (heX _ _ h.1.1) (hb _ _ h.1.2) (hb _ _ h.2)
    · cases h
  | whl ec c1 =>
    unfold stepS at h
    simp only at h
    split at h
    · simp only [Bool.and_eq_true] at h
      exact sx_whl hp (heX _ _ h.1) (hb _ _ h.2)
    · cases h
  | «for» t k ss c1 =>
    unfold stepS at h
    simp only at h
    split at h
    · simp only [Bool.and_eq_true] at h
      exact sx_for hp ok.calm (srcE_ok ok heX h.1.1.2) (hT _ _ h.1.1.1) (hb _ _ h.2) (nset_of h.1.2)
    · cases h
  | ret ee =>
    unfold stepS at h
    simp only at h
    split at h
    · exact sx_ret (heX _ _ h)
    · cases h
  | retn =>
    unfold stepS at h
    simp only at h
    split at h
    · exact sx_retn
    · cases h
  | brk =>
    unfold stepS at h
    simp only at h
    split at h
    · exact sx_brk
    · cases h
  | cnt =>
    unfold stepS at h
    simp only at h
    split at h
    · exact sx_cnt
    · cases h
  | pas =>
    unfold stepS at h
    simp only at h
    split at h
    · exact sx_pass
    · cases h
  | never => exact sx_never
theorem chkS_ok (ok : XOk c X G) (hk : X.env.scope.kind = .function) (hfn : X.fn = fun _ => true) (hp : PassesOwn (model X.prog X.w) X.A X.env X.xe) (n : Nat) : ∀ m st cc, chkS c n m X.env.scope st cc = true → SX X st (denC G cc)
  | 0, _, _, h => by simp [chkS] at h
  | m + 1, st, cc, h => by
    rw [chkS] at h
    exact kind_ok ok hk hfn hp (chk_ok c G n).1 (fun ss cs q => allS_ok (fun st cc q => chkS_ok ok hk hfn hp n m st cc q) q) h
end
end Ev

set_option Elab.async false
set_option linter.all false
set_option maxRecDepth 100000
set_option maxHeartbeats 1000000
set_option autoImplicit false
/-! The evaluator, part G: defs. -/
namespace Ev
open PySem PySem.Spec PyProof.Rows L2
section
variable {K : FragK} {al : List Addr} {F F' : Addr → Prop} {H H' : Hp} {n : Nat}
mutual
theorem low_rp (keep : ∀ a o, ¬ F a → H a = some o → H' a = some o) (mu : ∀ a, F a → Mut (H a)) (sub : ∀ a, F' a → F a) : ∀ (d : D) (v : V), lowD n d = true → Rp K al F H d v → Rp K (al.take n) F' H' d v
  | .non, v, l, h => h
  | .bl b, v, l, h => h
  | .int i, v, l, h => h
  | .str x, v, l, h => h
  | .tup ds, v, l, h => by
    obtain ⟨a, vs, e, q, z, r⟩ := h
    rw [lowD] at l
    exact ⟨a, vs, e, sqT_keep keep mu q, z, low_rps keep mu sub ds vs l r⟩
  | .lst ds, v, l, h => by
    obtain ⟨a, vs, e, na, q, z, r⟩ := h
    rw [lowD] at l
    exact ⟨a, vs, e, fun f => na (sub a f), keep _ _ na q, z, low_rps keep mu sub ds vs l r⟩
  | .ro ds, v, l, h => by
    obtain ⟨a, vs, e, q, z, r⟩ := h
    rw [lowD] at l
    exact ⟨a, vs, e, sqR_keep keep mu q, z, low_rps keep mu sub ds vs l r⟩
  | .cell k, v, l, h => by
    obtain ⟨a, e, q⟩ := h
    rw [lowD, decide_eq_true_eq] at l
    exact ⟨a, e, by rw [List.getElem?_take_of_lt l]; exact q⟩
theorem low_rps (keep : ∀ a o, ¬ F a → H a = some o → H' a = some o) (mu : ∀ a, F a → Mut (H a)) (sub : ∀ a, F' a → F a) : ∀ (ds : List D) (vs : List V), lowDs n ds = true → Rps K al F H ds vs → Rps K (al.take n) F' H' ds vs
  | [], vs, l, h => h
  | d :: ds, vs, l, h => by
    obtain ⟨v, r, e, q, t⟩ := h
    rw [lowDs, Bool.and_eq_true] at l
    exact ⟨v, r, e, low_rp keep mu sub d v l.1 q, low_rps keep mu sub ds r l.2 t⟩
end
end
section
variable {K : FragK} {O : Addr → Prop} {al al' : List Addr} {cs cs0 : Cs} {H H' : Hp}
mutual
theorem low_le {m n : Nat} (hm : m ≤ n) : ∀ (d : D), lowD m d = true → lowD n d = true
  | .non, _ => by simp [lowD]
  | .bl _, _ => by simp [lowD]
  | .int _, _ => by simp [lowD]
  | .str _, _ => by simp [lowD]
  | .tup ds, h => by rw [lowD] at *; exact lows_le' hm ds h
  | .lst ds, h => by rw [lowD] at *; exact lows_le' hm ds h
  | .ro ds, h => by rw [lowD] at *; exact lows_le' hm ds h
  | .cell k, h => by rw [lowD, decide_eq_true_eq] at *; omega
theorem lows_le' {m n : Nat} (hm : m ≤ n) : ∀ (ds : List D), lowDs m ds = true → lowDs n ds = true
  | [], _ => by simp [lowDs]
  | d :: ds, h => by
    rw [lowDs, Bool.and_eq_true] at *
    exact ⟨low_le hm d h.1, lows_le' hm ds h.2⟩
end
theorem lows_le {m n : Nat} (hm : m ≤ n) {ds : List D} (h : lowDs m ds = true) : lowDs n ds = true := lows_le' hm ds h
/-- the callee's own cells are let go -/
theorem drop_cells (c0 : Cel K O al cs H) (st : Stp al cs H al' cs0 H') (c : Cel K O al' cs0 H') {H2 : Hp} (keep : ∀ a o, ¬ Forb O al' cs0 a → H' a = some o → H2 a = some o) (kal : ∀ a, a ∈ al ∨ O a → H2 a = H' a) (kold : ∀ a o, H a = some o → H2 a = H' a) (ko : KOff K H2) :
    Cel K O al (cs0.take cs.length) H2 ∧ Stp al cs H al (cs0.take cs.length) H2 ∧ (∀ d v, lowD cs.length d = true → Rp K al' (Forb O al' cs0) H' d v → Rp K al (Forb O al (cs0.take cs.length)) H2 d v) ∧ ∀ d v, lowDs cs.length d = true → Rps K al' (Forb O al' cs0) H' d v → Rps K al (Forb O al (cs0.take cs.length)) H2 d v := by
  have hal : al = al'.take cs.length := by
    obtain ⟨m, rfl⟩ := st.pre
    rw [← c0.len, List.take_left]
  have hle : cs.length ≤ cs0.length := by
    rw [← c.len, ← c0.len]
    exact st.pre.length_le
  have lv : ∀ a, Liv al (cs0.take cs.length) a → Liv al' cs0 a := by
    rintro a ⟨m, d, h1, h2⟩
    have hm : m < cs.length := by
      have := (List.getElem?_eq_some_iff.mp h2).1
      rw [c0.len] at this
      exact this
    rw [List.getElem?_take_of_lt hm] at h1
    exact ⟨m, d, h1, pre_get st.pre h2⟩
  have sub : ∀ a, Forb O al (cs0.take cs.length) a → Forb O al' cs0 a := fun a f => f.elim .inl fun q => .inr (lv a q)
  have tr : ∀ d v, lowD cs.length d = true → Rp K al' (Forb O al' cs0) H' d v → Rp K al (Forb O al (cs0.take cs.length)) H2 d v := fun d v l r => by
    have q := low_rp (n := cs.length) keep (fun _ => c.mut) sub d v l r
    rw [← hal] at q
    exact q
  have trs : ∀ d v, lowDs cs.length d = true → Rps K al' (Forb O al' cs0) H' d v → Rps K al (Forb O al (cs0.take cs.length)) H2 d v := fun d v l r => by
    have q := low_rps (n := cs.length) keep (fun _ => c.mut) sub d v l r
    rw [← hal] at q
    exact q
  refine ⟨⟨by rw [List.length_take, c0.len]; omega, c0.nd, fun m b d a h1 h2 => ?_, ko, fun a oa => ?_, fun m b xs h1 => ?_⟩, ⟨List.prefix_refl _, fun a o nl e => ?_, fun a q => st.frb a (lv a q)⟩, tr, trs⟩
  · have hm : m < cs.length := by
      have := (List.getElem?_eq_some_iff.mp h2).1
      rw [c0.len] at this
      exact this
    have h1' : cs0[m]? = some (b, d) := by rw [List.getElem?_take_of_lt hm] at h1; exact h1
    have x := c.cell m b d a h1' (pre_get st.pre h2)
    cases d with
    | lst ds =>
      obtain ⟨ws, e, z, r⟩ := x
      exact ⟨ws, by rw [kal a (.inl (List.mem_of_getElem? h2))]; exact e, z, trs _ _ (lows_le (Nat.le_of_lt hm) (c.low m b ds h1')) r⟩
    | _ => exact False.elim x
  · rw [kal a (.inr oa)]
    refine ⟨(c.om a oa).1, fun m => (c.om a oa).2 ?_⟩
    obtain ⟨t, rfl⟩ := st.pre
    exact List.mem_append_left _ m
  · have hm : m < cs.length := by
      have := (List.getElem?_eq_some_iff.mp h1).1
      rw [List.length_take] at this
      omega
    rw [List.getElem?_take_of_lt hm] at h1
    exact c.low m b xs h1
  · rw [kold a o e]
    exact st.keep a o nl e
end
/-- what a call's answer says -/
theorem callF_len {T : Nat → Option Df} {k f : Nat} {df : Df} (hT : T f = some df) {ds : List D} {cs : Cs} {r : D × Cs} (h : callF T k f ds cs = some r) : ds.length = df.np ∧ (df.fr = true → ∃ xs, r.1 = .lst xs) := by
  cases k with
  | zero => simp [callF] at h
  | succ k =>
    rw [callF, hT] at h
    simp only at h
    split at h
    · rename_i hl
      refine ⟨hl, fun hf => ?_⟩
      rw [hf] at h
      split at h
      · rename_i q; cases q
      · unfold outF at h
        split at h
        · split at h
          · split at h
            · cases h; exact ⟨_, rfl⟩
            · cases h
          · cases h
        · cases h
      · rename_i q; cases q
      · cases h
    · cases h
theorem body_end {K : FragK} {T : Nat → Option Df} {k f : Nat} {df : Df} (hT : T f = some df) {N : List Str} (hN : N.length = df.ns) {vs : List V} {H : Hp} {Q : VK} {E : XK} (h : spOf K (callF T (k + 1) f) df.np df.fr vs H Q E) : tS K (denCs (callF T k) df.body) { nx := fun _ H' => Q .non H', rt := Q } (L2.start N vs) H := by
  obtain ⟨hl, O, al, cs, ds, d, cs', c0, rs, hg, fin⟩ := h
  rw [callF, hT] at hg
  simp only at hg
  split at hg
  case isFalse => cases hg
  case isTrue hld =>
  refine ⟨O, al, ⟨ds.map some ++ List.replicate (df.ns - df.np) none, cs⟩, ⟨c0, ?_, fun i d h => ?_⟩, ?_⟩
  · unfold L2.start
    simp only [List.length_append, List.length_map, List.length_replicate]
    rw [rs.len, hld, hN]
  · have hi : i < ds.length := by
      by_cases hi : i < ds.length
      · exact hi
      · rw [List.getElem?_append_right (by simpa using hi), List.getElem?_replicate] at h
        split at h <;> cases h
    rw [List.getElem?_append_left (by simpa using hi), List.getElem?_map] at h
    cases q : ds[i]? with
    | none => rw [q] at h; cases h
    | some d' =>
      rw [q] at h
      cases h
      obtain ⟨v, hv, rv⟩ := rs.get q
      refine ⟨v, ?_, rv⟩
      unfold L2.start
      rw [List.getElem?_append_left (by rw [List.length_map, rs.len]; exact hi), List.getElem?_map, hv]
      rfl
  · have plain : ∀ (al' : List Addr) (v : V) (H' : Hp) (d0 : D) (cs0 : Cs), df.fr = false → Stp al cs H al' cs0 H' → Cel K O al' cs0 H' → Rp K al' (Forb O al' cs0) H' d0 v → outD cs.length d0 cs0 = some (d, cs') → Q v H' := by
      intro al' v H' d0 cs0 hfr st c rv ho
      unfold outD at ho
      split at ho
      · rename_i hlow
        cases ho
        rw [hfr] at fin
        obtain ⟨c2, st2, tr, _⟩ := drop_cells c0 st c (fun a o _ e => e) (fun _ _ => rfl) (fun _ _ _ => rfl) c.koff
        exact fin v H' st2 c2 (tr _ _ hlow rv)
      · cases ho
    cases hb : denCs (callF T k) df.body ⟨ds.map some ++ List.replicate (df.ns - df.np) none, cs⟩ with
    | nx s =>
      rw [hb] at hg
      cases hfr : df.fr with
      | true => rw [hfr] at hg; cases hg
      | false =>
        rw [hfr] at hg
        exact fun al' σ' H' st env => plain al' .non H' .non s.cs hfr st env.cr rfl hg
    | rt d0 cs0 =>
      rw [hb] at hg
      cases hfr : df.fr with
      | false =>
        rw [hfr] at hg
        exact fun al' v H' st c rv => plain al' v H' d0 cs0 hfr st c rv hg
      | true =>
        rw [hfr] at hg fin
        simp only at hg
        intro al' v H' st c rv
        unfold outF at hg
        split at hg
        · rename_i kk
          split at hg
          · rename_i xs hk
            split at hg
            · rename_i hlow
              cases hg
              simp only [Bool.and_eq_true, decide_eq_true_eq] at hlow
              obtain ⟨hn, hlx⟩ := hlow
              obtain ⟨p, rfl, hp⟩ := rv
              obtain ⟨us, hu, z, ru⟩ := c.cell kk true _ p hk hp
              obtain ⟨xs', e, fin⟩ := fin
              cases e
              have pal : p ∉ al := fun m => by
                obtain ⟨j, hj⟩ := List.getElem?_of_mem m
                have h2 := pre_get st.pre hj
                have e := al_inj c hp h2
                have := (List.getElem?_eq_some_iff.mp hj).1
                rw [c0.len] at this
                omega
              have hpo : ¬ O p := fun o => (c.om p o).2 (List.mem_of_getElem? hp)
              have hpH : H p = none := by
                rcases st.frb p ⟨kk, _, hk, hp⟩ with ⟨j, dd, _, hj⟩ | q
                · exact absurd (List.mem_of_getElem? hj) pal
                · exact q
              have fp : Forb O al' cs0 p := .inr ⟨kk, _, hk, hp⟩
              obtain ⟨c2, st2, _, tr⟩ := drop_cells (H2 := hm H' p) c0 st c (fun a o n e => by rw [hm_ne (fun q => n (by rw [q]; exact fp))]; exact e) (fun a q => hm_ne fun e => by
                rcases q with q | q
                · exact pal (e ▸ q)
                · exact hpo (e ▸ q)) (fun a o e => hm_ne fun q => by rw [q, hpH] at e; cases e) (koff_hm c.koff)
              have eu := upd_hm (o := .lst us) hu
              have q := fin p us (hm H' p) st2 c2 (if_pos rfl) (by rw [eu]; exact c.koff) (tr _ _ hlx (ru)) z
              rw [eu] at q
              exact q
            · cases hg
          · cases hg
        · cases hg
    | bk s => rw [hb] at hg; cases hg
    | ct s => rw [hb] at hg; cases hg
    | no => rw [hb] at hg; cases hg
end Ev

set_option Elab.async false
set_option linter.all false
set_option maxRecDepth 100000
set_option maxHeartbeats 1000000
set_option autoImplicit false
/-! The evaluator, part H: all defs, the head. -/
namespace Ev
open PySem PySem.Spec PyProof.Rows L2
structure Tb where
  tab : List (Nat × Str × Df)
  gi : List (Str × Int)
  bn : List Str
  kb : List (Nat × List (List Str × List Nat)) := []
  gs : List (Str × Str) := []
def Tb.T (t : Tb) : Nat → Option Df := fun j => (t.tab.lookup j).map (·.2)
def Tb.fs (t : Tb) : Nat → Option (Str × Nat × Bool) := fun j => (t.tab.lookup j).map fun p => (p.1, p.2.np, p.2.fr)
def Tb.kbs (t : Tb) : Nat → List (List Str × List Nat) := fun j => (t.kb.lookup j).getD []
structure DefF (K : FragK) (mg : Str → Option Value) (t : Tb) (j : Nat) (f : Addr) (fd : FuncData) (ps : List Str) (df : Df) (x : Str) : Prop where
  hT : t.T j = some df
  fs : t.fs j = some (x, df.np, df.fr)
  pl : ps.length = df.np
  mgf : mg x = some (.ref f)
  bi : Binds K fd ps []
  kb : ∀ e ∈ t.kbs j, KBd K fd ps e.1 e.2
  ex : ∃ (st : Stmt) (N : List Str) (n m : Nat), L2.Fun K x x st f fd ∧ FnScope N ps (L2.defScope st) ∧ N.length = df.ns ∧ allS (chkS ⟨N, t.gi, t.fs, t.bn, t.kbs, t.gs⟩ n m (L2.defScope st)) (L2.defBody st) df.body = true
theorem fn_ok {P : Program} {w : World} {K : FragK} {mg : Str → Option Value} {base : Heap} {t : Tb} (hall : ∀ (j : Nat) (x : Str) (np : Nat) (fr : Bool), t.fs j = some (x, np, fr) → ∃ f fd ps df, DefF K mg t j f fd ps df x)
    (hgi : ∀ x i, t.gi.lookup x = some i → ∃ u, mg x = some u ∧ RelV (.int i) u) (hgs : ∀ x i, t.gs.lookup x = some i → ∃ u, mg x = some u ∧ RelV (.str i) u) (hbn : ∀ x ∈ t.bn, mg x = none) :
    ∀ (k j : Nat) (f : Addr) (fd : FuncData) (ps : List Str) (df : Df) (x : Str), DefF K mg t j f fd ps df x → FnG P w K mg base k f fd ps (spOf K (callF t.T k j) df.np df.fr)
  | 0, j, f, fd, ps, df, x, F => ⟨fun vs H Q E h => by rw [F.pl]; exact h.1, fun A outer s H args us vs Q E _ _ _ _ _ h => by
      obtain ⟨_, O, al, cs, ds, d, cs', _, _, hg, _⟩ := h
      simp [callF] at hg⟩
  | k + 1, j, f, fd, ps, df, x, F => by
    obtain ⟨st, N, n, m, hf, S, hN, hc⟩ := F.ex
    refine fnG_of hf S (fun vs H Q E h => by rw [F.pl]; exact h.1) fun cdv A outer s H vs Q E hr gd h => ?_
    refine ⟨tS K (denCs (callF t.T k) df.body), ?_, body_end F.hT hN h⟩
    have ok : XOk ⟨N, t.gi, t.fs, t.bn, t.kbs, t.gs⟩ (cxOf L2.CX0 P w K mg base N x (L2.defScope st) f cdv A outer s H E).nox (callF t.T k) := by
      refine ⟨rfl, S.nd, rfl, ?_, gd, hbn, hgi, hgs, fun j' x' np fr q => ?_⟩
      · have := hr.un
        show (A.deeper _).units + 100 < cLine
        omega
      · obtain ⟨f', fd', ps', df', F'⟩ := hall j' x' np fr q
        have q : t.fs j' = some (x', np, fr) := q
        have e := F'.fs
        rw [q] at e
        cases e
        exact ⟨⟨k, f', fd', ps', fn_ok hall hgi hgs hbn k j' f' fd' ps' df' x' F', hr, F'.mgf, (by obtain ⟨st', N', n', m', hf', _⟩ := F'.ex; exact hf'.kp), F'.bi, F'.kb⟩, fun ds cs r hg => callF_len F'.hT hg⟩
    exact allS_ok (fun st' cc q => chkS_ok ok (show (L2.defScope st).kind = .function from S.kind) rfl PassesOwn.never n m st' cc q) hc
/-- the law's promise -/
def spTop (K : FragK) (g : List D → Cs → Option (D × Cs)) : Sp := fun vs H Q E => vs.length = 1 ∧ (KOff K H → spOf K g 1 false vs H Q E)
theorem top_ok {P : Program} {w : World} {K : FragK} {mg : Str → Option Value} {base : Heap} {k : Nat} {f : Addr} {fd : FuncData} {ps : List Str} {g : List D → Cs → Option (D × Cs)} (hl : ps.length = 1) (F : FnG P w K mg base k f fd ps (spOf K g 1 false)) : FnG P w K mg base k f fd ps (spTop K g) :=
  ⟨fun vs H Q E h => by rw [hl]; exact h.1, fun A outer s H args us vs Q E hr gd e0 hb hv h => F.go A outer s H args us vs Q E hr gd e0 hb hv (h.2 fun a o e => (e0.bs a o (e0.mod.kin a o e)).2)⟩
theorem top_sp {K : FragK} {g : List D → Cs → Option (D × Cs)} {H : Hp} {a : Addr} {ns : List Int} (hl : ns.length ≤ 63) (hO : Only H) (hS : SqL K H a (ns.map V.int)) (hg : g [.ro (ns.map D.int)] [] = some (.bl true, [])) : spTop K g [.ref a] H (fun v _ => v = .bl true) fun _ _ _ => False := by
  refine ⟨rfl, fun ko => ⟨rfl, fun _ => False, [], [], [.ro (ns.map D.int)], .bl true, [], ⟨rfl, List.nodup_nil, fun n b d a h => (by simp at h), ko, fun a h => h.elim, fun n b ds h => (by simp at h)⟩, ?_, hg, fun v H' st c rv => rv⟩⟩
  refine ⟨.ref a, [], rfl, ⟨a, ns.map V.int, rfl, ?_, ?_, Rps.int_of ns⟩, rfl⟩
  · rcases hS with (h | h) | h
    · rcases hO a with q | ⟨o, xs, q⟩
      · rw [q] at h; cases h
      · rw [q] at h; cases h
    · exact .inl h
    · exact .inr h
  · rw [List.length_map, sizeLine_eq]
    omega
def KbOk (x : Str) (st : Stmt) (ps ks : List Str) (pm : List Nat) : Prop := ∀ (kV doc pmv : Value) (an : Option Addr) (cdv ct : Value) (ws us : List Value), ws.length = ks.length → permL pm ws = some us →
  bindArgs (PySem.W.fnOf x x (defArgs st) (defBody st) (defScope st) .none kV doc pmv an cdv ct) ⟨[], ks.zip ws⟩ = pure (ps.zip us)
def KbAll (x : Str) (st : Stmt) (ps : List Str) : List (List Str × List Nat) → Prop
  | [] => True
  | e :: r => KbOk x st ps e.1 e.2 ∧ KbAll x st ps r
theorem kbd_by {K : FragK} {x : Str} {st : Stmt} {f : Addr} {fd : FuncData} {ps : List Str} (F : L2.Fun K x x st f fd) : ∀ {l : List (List Str × List Nat)}, KbAll x st ps l → ∀ e ∈ l, KBd K fd ps e.1 e.2
  | [], _, e, h => by cases h
  | e0 :: l, ⟨h1, h2⟩, e, h => by
    rcases List.mem_cons.mp h with q | q
    · subst q
      obtain ⟨oc, od, kV, doc, pm, an, cdv, ct, osl, rfl, lk, hcd⟩ := F.ex
      exact fun s ws us _ hl hp => .of_eq (h1 kV doc pm an cdv ct ws us hl hp)
    · exact kbd_by F h2 e q
/-- a Bool look at a def -/
theorem binds_by {K : FragK} {x qual : Str} {st : Stmt} {f : Addr} {fd : FuncData} {ps : List Str} (F : L2.Fun K x qual st f fd)
    (h : ∀ (kV doc pm : Value) (an : Option Addr) (cdv ct : Value) (us : List Value), us.length = ps.length → bindArgs (PySem.W.fnOf x qual (defArgs st) (defBody st) (defScope st) .none kV doc pm an cdv ct) ⟨us, []⟩ = pure (ps.zip us)) : Binds K fd ps [] := F.binds h
end Ev

set_option Elab.async false
set_option linter.all false
set_option maxRecDepth 100000
set_option maxHeartbeats 1000000
set_option autoImplicit false
/-! The evaluator, part I: what the top has written. -/
namespace Ev
open PySem PySem.Spec PyProof.Rows L2
structure DefK (K : FragK) (x : Str) (st : Stmt) (f : Addr) : Prop where
  ex : ∃ (oc : Value) (od an : Option Addr) (sl : Array (Option Value)) (kV doc pm cd ct : Value) (ag : Arguments) (bo : List Stmt) (sc : Scope), PySem.W.nsIn K mainGlobals x = some (some (.ref f)) ∧
    K.lookup f = some ⟨oc, od, .func (PySem.W.fnOf x x ag bo sc .none kV doc pm an cd ct), sl⟩ ∧ PySem.W.codeIn K cd x = true ∧ PySem.W.keepIn K (.ref f) = true ∧ L2.defArgs st = ag ∧ L2.defBody st = bo ∧ L2.defScope st = sc
def BindOk (x : Str) (st : Stmt) (ps : List Str) : Prop := ∀ (kV doc pm : Value) (an : Option Addr) (cdv ct : Value) (us : List Value), us.length = ps.length →
  bindArgs (PySem.W.fnOf x x (L2.defArgs st) (L2.defBody st) (L2.defScope st) .none kV doc pm an cdv ct) ⟨us, []⟩ = pure (ps.zip us)
abbrev Row := Stmt × List Str
def chkRow (t : Tb) (df : Df) (r : Row) : Bool :=
  C8.scC r.2 (r.2.take df.np) (L2.defScope r.1) && decide (r.2.length = df.ns) && decide ((r.2.take df.np).length = df.np) && allS (chkS ⟨r.2, t.gi, t.fs, t.bn, t.kbs, t.gs⟩ 60 20 (L2.defScope r.1)) (L2.defBody r.1) df.body
/-- all rows, the table's defs -/
inductive AllK (K : FragK) (t : Tb) : List (Nat × Str × Df) → List Row → Prop
  | nil : AllK K t [] []
  | cons {p : Nat × Str × Df} {r : Row} {ds : List (Nat × Str × Df)} {rs : List Row} {f : Addr} (k : DefK K p.2.1 r.1 f) (b : BindOk p.2.1 r.1 (r.2.take p.2.2.np)) (c : chkRow t p.2.2 r = true) (kb : KbAll p.2.1 r.1 (r.2.take p.2.2.np) (t.kbs p.1)) (tl : AllK K t ds rs) : AllK K t (p :: ds) (r :: rs)
theorem AllK.get {K : FragK} {t : Tb} : ∀ {ds : List (Nat × Str × Df)} {rs : List Row}, AllK K t ds rs → ∀ (j : Nat) (p : Str × Df), ds.lookup j = some p → ∃ r f, r ∈ rs ∧ DefK K p.1 r.1 f ∧ BindOk p.1 r.1 (r.2.take p.2.np) ∧ chkRow t p.2 r = true ∧ KbAll p.1 r.1 (r.2.take p.2.np) (t.kbs j)
  | _, _, .nil, j, p, h => by simp at h
  | q :: ds, r :: rs, .cons k b c kb tl, j, p, h => by
    rw [List.lookup_cons] at h
    cases e : j == q.1 with
    | true =>
      rw [e] at h
      cases h
      obtain rfl := eq_of_beq e
      exact ⟨r, _, List.mem_cons_self, k, b, c, kb⟩
    | false =>
      rw [e] at h
      obtain ⟨r, f, h1, h2⟩ := tl.get j p h
      exact ⟨r, f, List.mem_cons_of_mem _ h1, h2⟩
theorem defF_at {K : FragK} {h : Heap} {mg : Str → Option Value} (X : K.In h) (G : h.Ns mainGlobals mg) {t : Tb} {rs : List Row} (ak : AllK K t t.tab rs) (j : Nat) (x : Str) (df : Df) (hj : t.tab.lookup j = some (x, df)) : ∃ f fd r, r ∈ rs ∧ DefF K mg t j f fd (r.2.take df.np) df x ∧ ∀ (s : Shared) (us : List Value), us.length = (r.2.take df.np).length → BindsTo s fd ⟨us, []⟩ ((r.2.take df.np).zip us) := by
  obtain ⟨r, f, hr, k, b, c, kb⟩ := ak.get j _ hj
  obtain ⟨oc, od, an, sl, kV, doc, pm, cd, ct, ag, bo, sc, e1, e2, e3, e4, e5, e6, e7⟩ := k.ex
  subst e5 e6 e7
  unfold chkRow at c
  simp only [Bool.and_eq_true, decide_eq_true_eq] at c
  obtain ⟨⟨⟨c3, c4⟩, c5⟩, c6⟩ := c
  have F := L2.fun_mk (st := r.1) e2 e3 e4
  exact ⟨f, _, r, hr, ⟨by simp [Tb.T, hj], by simp [Tb.fs, hj], c5, PySem.W.mg_of X G e1, binds_by F b, kbd_by F kb, r.1, r.2, 60, 20, F, C8.fnScope_by c3, c4, c6⟩, fun s us hl => .of_eq (b kV doc pm an cd ct us hl)⟩
theorem AllK.at {K : FragK} {t : Tb} : ∀ {ds : List (Nat × Str × Df)} {rs : List Row}, AllK K t ds rs → ∀ (i : Nat) (p : Nat × Str × Df), ds[i]? = some p → ∃ r f, rs[i]? = some r ∧ DefK K p.2.1 r.1 f ∧ BindOk p.2.1 r.1 (r.2.take p.2.2.np) ∧ chkRow t p.2.2 r = true ∧ KbAll p.2.1 r.1 (r.2.take p.2.2.np) (t.kbs p.1)
  | _, _, .nil, i, p, h => by simp at h
  | _, _, .cons k b c kb tl, 0, p, h => by
    simp only [List.getElem?_cons_zero, Option.some.injEq] at h
    subst h
    exact ⟨_, _, rfl, k, b, c, kb⟩
  | _, _, .cons k b c kb tl, i + 1, p, h => by
    simp only [List.getElem?_cons_succ] at h
    obtain ⟨r, f, h1, h2⟩ := tl.at i p h
    exact ⟨r, f, by simpa using h1, h2⟩
theorem defF_of {K : FragK} {h : Heap} {mg : Str → Option Value} (X : K.In h) (G : h.Ns mainGlobals mg) {t : Tb} {rs : List Row} (ak : AllK K t t.tab rs) (j : Nat) (x : Str) (np : Nat) (fr : Bool) (hj : t.fs j = some (x, np, fr)) : ∃ f fd ps df, DefF K mg t j f fd ps df x := by
  simp only [Tb.fs, Option.map_eq_some_iff] at hj
  obtain ⟨⟨y, df⟩, h1, h2⟩ := hj
  cases h2
  obtain ⟨f, fd, r, _, F, _⟩ := defF_at X G ak j _ df h1
  exact ⟨f, fd, _, df, F⟩
structure GiK (K : FragK) (x : Str) (i : Int) : Prop where
  ex : ∃ tk, PySem.W.nsIn K mainGlobals x = some (some (.int i tk))
def AllGi (K : FragK) : List (Str × Int) → Prop
  | [] => True
  | (x, i) :: r => GiK K x i ∧ AllGi K r
structure GsK (K : FragK) (x : Str) (i : Str) : Prop where
  ex : ∃ tk, PySem.W.nsIn K mainGlobals x = some (some (.str i tk))
def AllGs (K : FragK) : List (Str × Str) → Prop
  | [] => True
  | (x, i) :: r => GsK K x i ∧ AllGs K r
def AllBn (K : FragK) : List Str → Prop
  | [] => True
  | x :: r => PySem.W.nsIn K mainGlobals x = some none ∧ AllBn K r
theorem gi_of {K : FragK} {h : Heap} {mg : Str → Option Value} (X : K.In h) (G : h.Ns mainGlobals mg) : ∀ {gi : List (Str × Int)}, AllGi K gi → ∀ x i, gi.lookup x = some i → ∃ u, mg x = some u ∧ RelV (.int i) u
  | [], _, x, i, h => by simp at h
  | (y, k) :: r, ⟨⟨tk, e⟩, a⟩, x, i, h => by
    rw [List.lookup_cons] at h
    cases q : x == y with
    | true =>
      rw [q] at h
      cases h
      obtain rfl := eq_of_beq q
      exact ⟨_, PySem.W.mg_of X G e, tk, rfl⟩
    | false =>
      rw [q] at h
      exact gi_of X G a x i h
theorem gs_of {K : FragK} {h : Heap} {mg : Str → Option Value} (X : K.In h) (G : h.Ns mainGlobals mg) : ∀ {gi : List (Str × Str)}, AllGs K gi → ∀ x i, gi.lookup x = some i → ∃ u, mg x = some u ∧ RelV (.str i) u
  | [], _, x, i, h => by simp at h
  | (y, k) :: r, ⟨⟨tk, e⟩, a⟩, x, i, h => by
    rw [List.lookup_cons] at h
    cases q : x == y with
    | true =>
      rw [q] at h
      cases h
      obtain rfl := eq_of_beq q
      exact ⟨_, PySem.W.mg_of X G e, tk, rfl⟩
    | false =>
      rw [q] at h
      exact gs_of X G a x i h
theorem bn_of {K : FragK} {h : Heap} {mg : Str → Option Value} (X : K.In h) (G : h.Ns mainGlobals mg) : ∀ {bn : List Str}, AllBn K bn → ∀ x ∈ bn, mg x = none
  | [], _, x, h => by cases h
  | y :: r, ⟨e, a⟩, x, h => by
    rcases List.mem_cons.mp h with q | h
    · rw [q]; exact PySem.W.mg_none_of X G e
    · exact bn_of X G a x h
/-- the law's promise, from the rows -/
theorem top_of {P : Program} {w : World} {K : FragK} {h : Heap} {mg : Str → Option Value} {fa : Addr} {x y : Str} {df : Df} {r0 : Row} (X : K.In h) (G : h.Ns mainGlobals mg) {t : Tb} {rs : List Row} (ak : AllK K t t.tab rs) (ag : AllGi K t.gi) (ags : AllGs K t.gs) (ab : AllBn K t.bn) (k i j : Nat) (hi : t.tab[i]? = some (j, y, df)) (hr : rs[i]? = some r0) (hj : t.tab.lookup j = some (y, df)) (h1 : df.np = 1) (h2 : df.fr = false) (hfa : mg y = some (.ref fa))
    (hps : r0.2.take 1 = [x]) :
    ∃ fd : FuncData, (∀ (s : Shared) (u : Value), BindsTo s fd ⟨[u], []⟩ [(x, u)]) ∧ ∀ base : Heap, K.In base → base.Ns mainGlobals mg → FnG P w K mg base k fa fd [x] (spTop K (callF t.T k j)) := by
  obtain ⟨r, f, hr', k', b, c, kb⟩ := ak.at i _ hi
  rw [hr] at hr'
  cases hr'
  obtain ⟨oc, od, an, sl, kV, doc, pm, cd, ct, ag', bo, sc, e1, e2, e3, e4, e5, e6, e7⟩ := k'.ex
  subst e5 e6 e7
  unfold chkRow at c
  simp only [Bool.and_eq_true, decide_eq_true_eq] at c
  obtain ⟨⟨⟨c3, c4⟩, c5⟩, c6⟩ := c
  have F := L2.fun_mk (st := r0.1) e2 e3 e4
  have e := PySem.W.mg_of X G e1
  rw [hfa] at e
  cases e
  have hps' : r0.2.take df.np = [x] := by rw [h1]; exact hps
  have FF : DefF K mg t j fa _ (r0.2.take df.np) df y := ⟨by simp [Tb.T, hj], by simp [Tb.fs, hj], c5, PySem.W.mg_of X G e1, binds_by F b, kbd_by F kb, r0.1, r0.2, 60, 20, F, C8.fnScope_by c3, c4, c6⟩
  refine ⟨PySem.W.fnOf y y (L2.defArgs r0.1) (L2.defBody r0.1) (L2.defScope r0.1) .none kV doc pm an cd ct, fun s u => ?_, fun base X' G' => top_ok rfl ?_⟩
  · have q := b kV doc pm an cd ct [u] (by rw [show (j, y, df).2.2.np = df.np from rfl, hps']; rfl)
    have q2 : r0.2.take (j, y, df).2.2.np = [x] := hps'
    rw [q2] at q
    exact .of_eq q
  · have q := fn_ok (P := P) (w := w) (base := base) (fun j x np fr hq => defF_of X G ak j x np fr hq) (gi_of X G ag) (gs_of X G ags) (bn_of X G ab) k j fa _ _ df _ FF
    rw [h1, h2] at q
    rw [hps] at q
    exact q
end Ev

set_option Elab.async false
set_option linter.all false
set_option maxRecDepth 100000
set_option maxHeartbeats 1000000
set_option autoImplicit false
/-! The evaluator, part J: the head, where no repr is under way. -/
namespace Ev
open PySem PySem.Spec PyProof.Rows L2
section
variable {P : Program} {w : World} {K : FragK} {mg mb : Str → Option Value} {k : Nat} {fa a : Addr} {fd : FuncData} {x : Str} {sp : Sp} {s1 : Shared} {vs : List Value} {ns : List Int} {H : Hp}
/-- from an abstract heap that tracks the script at most -/
theorem head_at (KX : K.In s1.heap) (hns : s1.heap.Ns mainGlobals mg) (hb : s1.heap.Ns builtinsNs mb) (hbb : ∀ x : Str, x ≠ "__name__" → mb x = bootBuiltins x) (hlim : s1.heap.NoLimit) (hgen : s1.gens = #[])
    (ha : s1.heap.get? a = some { cls := .type "list", data := .seq vs.toArray }) (room : Room k callerA) (F : ∀ base : Heap, K.In base → base.Ns mainGlobals mg → FnG P w K mg base k fa fd [x] sp)
    (bd : ∀ (s : Shared) (u : Value), BindsTo s fd ⟨[u], []⟩ [(x, u)]) (want : sp [.ref a] H (fun v _ => v = .bl true) fun _ _ _ => False) (few : Only H) (hok : HOk P w H s1.heap) (one : ∀ b, H b ≠ none → b = a) (offK : H a ≠ none → K.lookup a = none) :
    codeAny (model P w) callerA (.call (.ref fa) ⟨[.ref a], []⟩) (fun r s' => r = .ok (.ret (.bool true)) ∧ OldK s1.heap s'.heap ∧ s'.os = s1.os ∧ AllBare s'.gens) s1 := by
  have seen : ∀ {b : Addr} {o : Obj}, s1.heap.get? b = some o → (∀ v, H b = some v → False) → (hidT s1.heap H).get? b = some o := fun {b o} q no => hidT_get q (by cases z : H b with
    | none => rfl
    | some v => exact (no v z).elim)
  have isA : ∀ {b : Addr} {v : HO}, H b = some v → b = a := fun {b v} z => one b (by rw [z]; exact Option.some_ne_none _)
  have spaces : ∀ {b : Addr} {m : Str → Option Value}, s1.heap.Ns b m → (hidT s1.heap H).Ns b m := by
    rintro b m ⟨o, es, ep, q, dat, more⟩
    refine ⟨o, es, ep, seen q fun v z => ?_, dat, more⟩
    rw [isA z, ha] at q
    cases q
    cases dat
  have kin : K.In (hidT s1.heap H) := fun b o q => seen (KX b o q) fun v z => by
    have eb := isA z
    subst eb
    have z2 := offK (by rw [z]; exact Option.some_ne_none _)
    rw [z2] at q
    cases q
  obtain ⟨mc, l1, l2⟩ := hlim
  have md : Mod K mg (hidT s1.heap H) := ⟨kin, spaces hns, ⟨mb, spaces hb, hbb⟩, ⟨mc, spaces l1, l2⟩⟩
  have env : Env0 P w K mg (hidT s1.heap H) callerA [] s1 H := ⟨rfl, md, fun b o q => of_hidT q, Nat.le_of_eq (hidT_size _ _), trivial, fun b m => absurd m (List.not_mem_nil), hok, .of_eq hgen⟩
  refine codeAny_mono ((F _ kin (spaces hns)).go callerA [] s1 H ⟨[.ref a], []⟩ [.ref a] [.ref a] _ _ room rfl env (bd s1 (.ref a)) (.cons rfl .nil) want) fun res s2 z => ?_
  match res, z with
  | .ok (.ret u), ⟨v, H2, os, bare, un, hok2, rv, isT⟩ =>
    have isT : v = .bl true := isT
    subst isT
    have rv : u = Value.bool true := rv
    subst rv
    refine ⟨rfl, OldK.of_keep fun b o q => ?_, os, bare⟩
    cases z : H b with
    | none => exact un.keep b o q z (fun m => absurd m List.not_mem_nil) (by simp)
    | some v =>
      rcases few b with z2 | ⟨ob, xs, z2⟩
      · rw [z] at z2; cases z2
      · obtain ⟨g1, _⟩ := hok b _ z2
        obtain ⟨g2, _⟩ := hok2 b _ (un.frzs b ob _ z2)
        rw [q] at g1
        cases g1
        exact g2
theorem head_all (KX : K.In s1.heap) (hns : s1.heap.Ns mainGlobals mg) (hb : s1.heap.Ns builtinsNs mb) (hbb : ∀ x : Str, x ≠ "__name__" → mb x = bootBuiltins x) (hlim : s1.heap.NoLimit) (hgen : s1.gens = #[])
    (ha : s1.heap.get? a = some { cls := .type "list", data := .seq vs.toArray }) (hi : IntsAre vs ns) (hl : ns.length ≤ sizeLine) (room : Room k callerA) (F : ∀ base : Heap, K.In base → base.Ns mainGlobals mg → FnG P w K mg base k fa fd [x] sp)
    (bd : ∀ (s : Shared) (u : Value), BindsTo s fd ⟨[u], []⟩ [(x, u)]) (want : ∀ H : Hp, Only H → SqL K H a (ns.map V.int) → sp [.ref a] H (fun v _ => v = .bl true) fun _ _ _ => False) :
    codeAny (model P w) callerA (.call (.ref fa) ⟨[.ref a], []⟩) (fun r s' => r = .ok (.ret (.bool true)) ∧ OldK s1.heap s'.heap ∧ s'.os = s1.os ∧ AllBare s'.gens) s1 := by
  have rv := vals_ints hi
  have nv := hi.length
  cases lk : K.lookup a with
  | some o =>
    have q := KX a o lk
    rw [ha] at q
    cases q
    have few : Only fun _ => none := fun _ => .inl rfl
    exact head_at KX hns hb hbb hlim hgen ha room F bd (want _ few (.inr ⟨_, vs.toArray, _, lk, rfl, rfl, rfl, by rw [List.size_toArray, nv]; exact hl, by simpa using rv⟩)) few (fun b u z => nomatch z) (fun b z => absurd rfl z) fun z => absurd rfl z
  | none =>
    let H : Hp := fun b => if b = a then some (.frz { cls := .type "list", data := .seq vs.toArray } (.lst (ns.map V.int))) else none
    have at_a : H a = some (.frz { cls := .type "list", data := .seq vs.toArray } (.lst (ns.map V.int))) := if_pos rfl
    have off : ∀ b, b ≠ a → H b = none := fun b n => if_neg n
    have few : Only H := fun b => by
      by_cases n : b = a
      · subst n; exact .inr ⟨_, _, at_a⟩
      · exact .inl (off b n)
    refine head_at KX hns hb hbb hlim hgen ha room F bd (want H few (.inl (.inr ⟨_, at_a⟩))) few (fun b u z => ?_) (fun b z => ?_) fun _ => lk
    · by_cases n : b = a
      · subst n
        rw [at_a] at z
        cases z
        exact ⟨ha, by rw [List.length_map]; exact hl, vs, _, rv, ha⟩
      · rw [off b n] at z; cases z
    · by_cases n : b = a
      · exact n
      · exact absurd (off b n) z
end
/-- the goal of a law's row -/
theorem walkG {l : PySem.W.OpenLaw} {n k : Nat} {q : Program} {loose : List Str} {XP : (Str → Option Value) → Heap → Prop} {YP : World → Heap → Prop} {d : DefRec} {KK : Params → PySem.W.Frag} {sp : PySem.W.Frag → Sp} {x : Str} (hn : l.most = some n) (hn2 : n ≤ sizeLine)
    (hdf : d.params.defaults = []) (room : Room k callerA) (hY : ∀ (w : World) (h : Heap), YP w h → (KK w.params).In h)
    (F : ∀ (w : World) (mg : Str → Option Value) (fa : Addr) (h : Heap), (KK w.params).In h → h.Ns mainGlobals mg → mg d.name = some (.ref fa) →
      ∃ fd : FuncData, (∀ (s : Shared) (u : Value), BindsTo s fd ⟨[u], []⟩ [(x, u)]) ∧ ∀ base : Heap, (KK w.params).In base → base.Ns mainGlobals mg → FnG l.prog w (KK w.params) mg base k fa fd [x] (sp (KK w.params)))
    (want : ∀ (K : PySem.W.Frag) (H : Hp) (a : Addr) (ns : List Int), ns.length ≤ n → Only H → SqL K H a (ns.map V.int) → sp K [.ref a] H (fun v _ => v = .bl true) fun _ _ _ => False) :
    PySem.W.WalkO q loose XP YP l.row.toRowW d [] (fun f vs => PySem.call f vs) := by
  refine Att.attach_call hn hdf fun w s0 s1 mg mb fa o pm cd doc a vs ns G Y ho hd hcd hmg hobj hints hlen hgen => ?_
  obtain ⟨fd, bd, FF⟩ := F w mg fa _ (hY w _ Y) G.T.g hmg
  exact head_all (hY w _ Y) G.T.g G.T.b G.T.builtins G.T.nolimit hgen hobj hints (Nat.le_trans hlen hn2) room FF bd fun H few sq => want _ H a ns hlen few sq
end Ev

set_option Elab.async false
set_option linter.all false
set_option maxRecDepth 100000
set_option maxHeartbeats 1000000
set_option autoImplicit false
/-! Plain laws: how the evaluator is reckoned with. -/
namespace Ev
open PySem
abbrev Tf := Nat → Option Df
/-- a def of the table, called d deep or deeper: its answer, whatever the cells -/
def Ret (T : Tf) (d f : Nat) (ds : List D) (v : D) : Prop := ∀ k cs, d ≤ k → callF T k f ds cs = some (v, cs)
theorem Ret.mono {T : Tf} {d d' f : Nat} {ds : List D} {v : D} (h : Ret T d f ds v) (hd : d ≤ d') : Ret T d' f ds v := fun k cs hk => h k cs (Nat.le_trans hd hk)
/-- by the body -/
theorem Ret.of {T : Tf} {d f : Nat} {df : Df} {ds : List D} {v : D} (hT : T f = some df) (hn : ds.length = df.np) (hf : df.fr = false) (hv : lowD 0 v = true)
    (h : ∀ k cs, d ≤ k → denCs (callF T k) df.body ⟨ds.map some ++ List.replicate (df.ns - df.np) none, cs⟩ = .rt v cs) : Ret T (d + 1) f ds v := by
  intro k cs hk
  cases k with
  | zero => omega
  | succ k =>
    rw [callF, hT]
    simp only [hn, if_true, h k cs (by omega), hf, outD, low_le (Nat.zero_le _) v hv, List.take_length]
/-- by the body, nothing given -/
theorem Ret.ofN {T : Tf} {d f : Nat} {df : Df} {ds : List D} (hT : T f = some df) (hn : ds.length = df.np) (hf : df.fr = false)
    (h : ∀ k cs, d ≤ k → ∃ sl, denCs (callF T k) df.body ⟨ds.map some ++ List.replicate (df.ns - df.np) none, cs⟩ = .nx ⟨sl, cs⟩) : Ret T (d + 1) f ds .non := by
  intro k cs hk
  cases k with
  | zero => omega
  | succ k =>
    rw [callF, hT]
    obtain ⟨sl, e⟩ := h k cs (by omega)
    simp only [hn, if_true, e, hf, outD, lowD, List.take_length]
/-- a new list is given: the body ends at its own cell -/
theorem Ret.ofF {T : Tf} {d f : Nat} {df : Df} {ds xs : List D} (hT : T f = some df) (hn : ds.length = df.np) (hf : df.fr = true) (hv : lowDs 0 xs = true)
    (h : ∀ k cs, d ≤ k → ∃ n own, cs.length ≤ n ∧ (cs ++ own)[n]? = some (true, .lst xs) ∧ denCs (callF T k) df.body ⟨ds.map some ++ List.replicate (df.ns - df.np) none, cs⟩ = .rt (.cell n) (cs ++ own)) : Ret T (d + 1) f ds (.lst xs) := by
  intro k cs hk
  cases k with
  | zero => omega
  | succ k =>
    rw [callF, hT]
    obtain ⟨n, own, h1, h2, e⟩ := h k cs (by omega)
    simp only [hn, if_true, e, hf, outF, h2, h1, decide_true, lows_le (Nat.zero_le _) hv, Bool.and_self, List.take_left']
/-- a comprehension that changes no cell -/
theorem lcL_pure {α : Type} {enc : α → D} {sl : List (Option D)} {t : Tg} {test elt : M D} (b : α → List (Option D)) (p : α → Bool) (g : α → D) : ∀ {xs : List α} {acc : List D} {cs : Cs},
    (∀ x ∈ xs, bindT t (enc x) sl = some (b x) ∧ test ⟨b x, cs⟩ = .ok (.bl (p x)) ⟨b x, cs⟩ ∧ (p x = true → elt ⟨b x, cs⟩ = .ok (g x) ⟨b x, cs⟩)) → lcL sl t test elt (xs.map enc) acc cs = some (acc ++ (xs.filter p).map g, cs)
  | [], acc, cs, _ => by simp [lcL]
  | x :: xs, acc, cs, h => by
    obtain ⟨h1, h2, h3⟩ := h x List.mem_cons_self
    have ih := fun acc => lcL_pure b p g (xs := xs) (acc := acc) (cs := cs) fun y hy => h y (List.mem_cons_of_mem _ hy)
    rw [List.map_cons, lcL]
    simp only [h1, h2]
    cases q : p x with
    | true =>
      simp only [h3 q, ih, List.filter_cons, q, if_true, List.map_cons, List.append_assoc, List.singleton_append]
    | false =>
      simp only [ih, List.filter_cons, q, Bool.false_eq_true, if_false]
/-- the same without a test -/
theorem lcL_map {α : Type} {enc : α → D} {sl : List (Option D)} {t : Tg} {G : Gf} {elt : M D} (b : α → List (Option D)) (g : α → D) {xs : List α} {acc : List D} {cs : Cs}
    (h : ∀ x ∈ xs, bindT t (enc x) sl = some (b x) ∧ elt ⟨b x, cs⟩ = .ok (g x) ⟨b x, cs⟩) : lcL sl t (denI G []) elt (xs.map enc) acc cs = some (acc ++ xs.map g, cs) := by
  have q := lcL_pure (sl := sl) (t := t) (test := denI G []) (elt := elt) b (fun _ => true) g (xs := xs) (acc := acc) (cs := cs) fun x hx => ⟨(h x hx).1, by rw [denI], fun _ => (h x hx).2⟩
  rw [q, List.filter_eq_self.mpr fun _ _ => rfl]
@[simp] theorem lows_ints (n : Nat) (l : List Int) : lowDs n (l.map .int) = true := by rw [lows_iff]; intro d hd; obtain ⟨i, _, rfl⟩ := List.mem_map.mp hd; simp [lowD]
@[simp] theorem lows_bls (n : Nat) (l : List Bool) : lowDs n (l.map .bl) = true := by rw [lows_iff]; intro d hd; obtain ⟨i, _, rfl⟩ := List.mem_map.mp hd; simp [lowD]
@[simp] theorem bools_map : ∀ l : List Bool, bools (l.map .bl) = some l
  | [] => rfl
  | b :: l => by rw [List.map_cons, bools, bools_map l]; rfl
@[simp] theorem intsD_map : ∀ l : List Int, intsD (l.map .int) = some l
  | [] => rfl
  | b :: l => by rw [List.map_cons, intsD, intsD_map l]; rfl
@[simp] theorem pyDs_ints : ∀ l : List Int, pyDs (l.map .int) = some (l.map .int)
  | [] => by simp [pyDs]
  | b :: l => by rw [List.map_cons, pyDs, pyDs_ints l]; simp [pyD]
@[simp] theorem intD_int (n : Int) : intD (.int n) = some (.int n) := rfl
/-- what den does, step by step -/
theorem den_var {G : Gf} {i : Nat} {s : S} {d : D} (h : s.sl[i]? = some (some d)) : den G (.var i) s = .ok d s := by rw [den, h]

section
variable (cs : Cs) (ds : List D) (i j : Int) (b : Bool)
@[simp] theorem ix_tup : ixD cs (.tup ds) (.int i) = L2.atI ds i := rfl
@[simp] theorem ix_lst : ixD cs (.lst ds) (.int i) = L2.atI ds i := rfl
@[simp] theorem ix_ro : ixD cs (.ro ds) (.int i) = L2.atI ds i := rfl
@[simp] theorem len_tup : lenD cs (.tup ds) = some (.int ds.length) := rfl
@[simp] theorem len_lst : lenD cs (.lst ds) = some (.int ds.length) := rfl
@[simp] theorem len_ro : lenD cs (.ro ds) = some (.int ds.length) := rfl
@[simp] theorem eq_int : eqD cs (.int i) (.int j) = some (decide (i = j)) := by
  simp [eqD, pyC, deref, pyD, shal, PyData.depth, PyData.eqv]
  rfl
@[simp] theorem eq_bl (c : Bool) : eqD cs (.bl b) (.bl c) = some (b == c) := by
  simp [eqD, pyC, deref, pyD, shal, PyData.depth, PyData.eqv]
@[simp] theorem ty_i_i : tyD cs .int (.int i) = some true := rfl
@[simp] theorem ty_b_i : tyD cs .bool (.int i) = some false := rfl
@[simp] theorem ty_t_t : tyD cs .tuple (.tup ds) = some true := rfl
@[simp] theorem cmp_lt : cmpD cs .lt (.int i) (.int j) = some (decide (i < j)) := rfl
@[simp] theorem cmp_le : cmpD cs .le (.int i) (.int j) = some (decide (i ≤ j)) := rfl
@[simp] theorem cmp_gt : cmpD cs .gt (.int i) (.int j) = some (decide (j < i)) := rfl
@[simp] theorem cmp_ge : cmpD cs .ge (.int i) (.int j) = some (decide (j ≤ i)) := rfl
@[simp] theorem cmp_eq (x y : D) : cmpD cs .eq x y = eqD cs x y := by cases x <;> cases y <;> rfl
@[simp] theorem cmp_ne (x y : D) : cmpD cs .ne x y = (eqD cs x y).map (!·) := by cases x <;> cases y <;> rfl
@[simp] theorem cmp_in (x y : D) : cmpD cs .isin x y = inD cs x y := by cases x <;> cases y <;> rfl
@[simp] theorem cmp_nin (x y : D) : cmpD cs .notin x y = (inD cs x y).map (!·) := by cases x <;> cases y <;> rfl
@[simp] theorem add_int : binD cs .add (.int i) (.int j) = some (.int (i + j)) := rfl
@[simp] theorem sub_int : binD cs .sub (.int i) (.int j) = some (.int (i - j)) := rfl
@[simp] theorem bi_1 (f : BI) (d : D) : biD cs f [d] = bi1 cs f d := rfl
@[simp] theorem bi_2 (f : BI) (d e : D) : biD cs f [d, e] = bi2 f d e := rfl
@[simp] theorem bi_len' (d : D) : bi1 cs .len d = lenD cs d := rfl
@[simp] theorem bi_abs' : bi1 cs .abs (.int i) = some (.int (if i < 0 then -i else i)) := rfl
@[simp] theorem bi_int' : bi1 cs .int (.int i) = some (.int i) := rfl
@[simp] theorem bi_tup1 : bi1 cs .tuple (.tup ds) = some (.tup ds) := rfl
@[simp] theorem bi_tup2 : bi1 cs .tuple (.lst ds) = some (.tup ds) := rfl
@[simp] theorem bi_all' : bi1 cs .all (.lst ds) = (bools ds).map fun bs => .bl (bs.all id) := rfl
end
section
variable {α : Type} (a b c : α) (l : List α)
@[simp] theorem at_0 : L2.atI (a :: l) 0 = some a := by simp [L2.atI, L2.ixN]
@[simp] theorem at_1 : L2.atI (a :: b :: l) 1 = some b := by simp [L2.atI, L2.ixN]; split <;> first | rfl | omega
@[simp] theorem at_2 : L2.atI (a :: b :: c :: l) 2 = some c := by simp [L2.atI, L2.ixN]; split <;> first | rfl | omega
end

theorem cut_from (ds : List D) (k : Nat) : cutD ds (some (k : Int)) none = ds.drop k := by
  unfold cutD
  rw [HT.sIx_nat, HT.sIx_none]
  by_cases h : k ≤ ds.length
  · rw [Nat.min_eq_left h, List.take_of_length_le (by simp)]
  · rw [Nat.min_eq_right (by omega), List.drop_length, List.drop_eq_nil_of_le (by omega)]
    simp
theorem cut_to (ds : List D) (k : Nat) : cutD ds none (some (k : Int)) = ds.take k := by
  unfold cutD
  rw [HT.sIx_nat, HT.sIx_none, List.drop_zero, Nat.sub_zero]
  by_cases h : k ≤ ds.length
  · rw [Nat.min_eq_left h]
  · rw [Nat.min_eq_right (by omega), List.take_of_length_le (Nat.le_refl _), List.take_of_length_le (by omega)]
@[simp] theorem cut_from1 (ds : List D) : cutD ds (some 1) none = ds.drop 1 := cut_from ds 1
@[simp] theorem cut_to1 (ds : List D) : cutD ds none (some 1) = ds.take 1 := cut_to ds 1
@[simp] theorem sl_tup (cs : Cs) (ds : List D) (a b : Option Int) : slD cs (.tup ds) a b = some (.tup (cutD ds a b)) := rfl
@[simp] theorem sl_lst (cs : Cs) (ds : List D) (a b : Option Int) : slD cs (.lst ds) a b = some (.lst (cutD ds a b)) := rfl
@[simp] theorem sl_ro (cs : Cs) (ds : List D) (a b : Option Int) : slD cs (.ro ds) a b = some (.lst (cutD ds a b)) := rfl
theorem bools_of {α : Type} (f : α → Bool) (l : List α) : bools (l.map fun x => .bl (f x)) = some (l.map f) := by
  have e := bools_map (l.map f)
  rw [List.map_map] at e
  exact e
/-- one below the next, all along -/
def asc {α : Type} (lt : α → α → Bool) : List α → Bool
  | a :: b :: r => lt a b && asc lt (b :: r)
  | _ => true
theorem asc_zip {α : Type} (lt : α → α → Bool) : ∀ l : List α, asc lt l = (l.zip (l.drop 1)).all fun p => lt p.1 p.2
  | [] => rfl
  | [_] => rfl
  | a :: b :: r => by
    rw [asc, asc_zip lt (b :: r)]
    simp

@[simp] theorem all_tt {α : Type} (l : List α) : (l.all fun _ => true) = true := by
  rw [List.all_eq_true]
  exact fun _ _ => rfl

theorem any_ints (i : Int) (l : List Int) : ((l.map PyData.int).any fun z => PyData.eqv z (.int i)) = decide (i ∈ l) := by
  induction l with
  | nil => rfl
  | cons a l ih =>
    rw [List.map_cons, List.any_cons, ih]
    simp only [PyData.eqv, List.mem_cons]
    by_cases h : a = i
    · subst h
      simp
    · have h' : ¬ i = a := fun e => h e.symm
      simp [h, h']
@[simp] theorem in_tup (cs : Cs) (i : Int) (l : List Int) : inD cs (.int i) (.tup (l.map .int)) = some (decide (i ∈ l)) := by
  simp only [inD, pyC, deref, Option.bind_some, pyD, pyDs_ints, Option.map_some]
  rw [any_ints]
  simp [shal, PyData.depth]
@[simp] theorem in_lst (cs : Cs) (i : Int) (l : List Int) : inD cs (.int i) (.lst (l.map .int)) = some (decide (i ∈ l)) := by
  simp only [inD, pyC, deref, Option.bind_some, pyD, pyDs_ints, Option.map_some]
  rw [any_ints]
  simp [shal, PyData.depth]
@[simp] theorem in_two (cs : Cs) (i a b : Int) : inD cs (.int i) (.tup [.int a, .int b]) = some (decide (i = a ∨ i = b)) := by
  have e := in_tup cs i [a, b]
  simpa using e
theorem eqv_ints : ∀ a b : List Int, PyData.eqvAll (a.map .int) (b.map .int) = decide (a = b)
  | [], [] => by simp [PyData.eqvAll]
  | [], _ :: _ => by simp [PyData.eqvAll]
  | _ :: _, [] => by simp [PyData.eqvAll]
  | x :: a, y :: b => by
    rw [List.map_cons, List.map_cons, PyData.eqvAll, eqv_ints a b]
    simp only [PyData.eqv]
    by_cases h : x = y
    · subst h; simp
    · simp [h]

theorem depth_rowl (k : List Int) : (PyData.list (k.map .int)).depth = 1 := by
  rw [PyData.depth, PySem.W.depth_ints]
@[simp] theorem eq_tup (cs : Cs) (a b : List Int) : eqD cs (.tup (a.map .int)) (.tup (b.map .int)) = some (decide (a = b)) := by
  simp only [eqD, pyC, deref, Option.bind_some, pyD, pyDs_ints, Option.map_some, shal, depth_row, PyData.eqv, eqv_ints]
  rfl
@[simp] theorem eq_lst (cs : Cs) (a b : List Int) : eqD cs (.lst (a.map .int)) (.lst (b.map .int)) = some (decide (a = b)) := by
  simp only [eqD, pyC, deref, Option.bind_some, pyD, pyDs_ints, Option.map_some, shal, depth_rowl, PyData.eqv, eqv_ints]
  rfl
@[simp] theorem eq_lst0 (cs : Cs) (a : List Int) : eqD cs (.lst (a.map .int)) (.lst []) = some (decide (a = [])) := eq_lst cs a []
/-! sorted rows -/
theorem enc_row (r : List Int) : encD (rowD r) = .tuple (r.map .int) := by simp [encD, rowD, pyD]
theorem ltE_row (a b : List Int) : ltE (rowD a) (rowD b) = HT.lexLt a b := by
  unfold ltE
  rw [enc_row, enc_row, dataLt_rows]
theorem pyDs_rows : ∀ rs : List (List Int), pyDs (rs.map rowD) = some (rs.map fun r => .tuple (r.map .int))
  | [] => by simp [pyDs]
  | r :: rs => by
    rw [List.map_cons, pyDs, pyDs_rows rs]
    simp [rowD, pyD]
theorem depthAll_rows : ∀ rs : List (List Int), PyData.depthAll (rs.map fun r => .tuple (r.map .int)) ≤ 1
  | [] => by simp [PyData.depthAll]
  | r :: rs => by
    rw [List.map_cons, PyData.depthAll, depth_row]
    have := depthAll_rows rs
    omega
theorem okSort_rows (rs : List (List Int)) : okSort (rs.map rowD) = true := by
  unfold okSort
  rw [pyDs_rows]
  simp only [Bool.and_eq_true, Bool.or_eq_true, decide_eq_true_eq]
  refine ⟨⟨?_, Nat.le_trans (depthAll_rows rs) (by decide)⟩, .inl ?_⟩
  · unfold alikeB
    rw [List.all_eq_true]
    intro a ha
    rw [List.all_eq_true]
    intro b hb
    obtain ⟨x, _, rfl⟩ := List.mem_map.mp ha
    obtain ⟨y, _, rfl⟩ := List.mem_map.mp hb
    exact alike_rows x y
  · rw [List.all_eq_true]
    intro a ha
    obtain ⟨x, hx, rfl⟩ := List.mem_map.mp ha
    rfl
theorem sorted_all (cs : Cs) (rs : List (List Int)) : sortedD cs (.lst (rs.map rowD)) = some (.lst ((sortRows rs).map rowD)) := by
  unfold sortedD
  simp only [seqC, deref, Option.bind_some, seqD, okSort_rows rs, if_true]
  unfold sortRows
  rw [List.map_mergeSort (s := fun a b => !ltE b a) fun a _ b _ => by rw [ltE_row]; rfl]
theorem sorted_rows {cs : Cs} {rs : List (List Int)} (h : ∀ r ∈ rs, r ≠ []) : sortedD cs (.lst (rs.map rowD)) = some (.lst ((sortRows rs).map rowD)) := sorted_all cs rs
theorem rowsD_map : ∀ rs : List (List Int), rowsD (rs.map rowD) = some rs
  | [] => rfl
  | r :: rs => by
    rw [List.map_cons, rowD, rowsD, intsD_map, rowsD_map rs]
theorem sortset_rows {cs : Cs} {rs : List (List Int)} (h : ∀ r ∈ rs, r ≠ []) (hl : rs.length ≤ 300) : sortsetD cs (.lst (rs.map rowD)) = some (.lst ((sortRows rs.eraseDups).map rowD)) := by
  unfold sortsetD
  have : rs.all (!·.isEmpty) = true := by
    rw [List.all_eq_true]
    intro r hr
    have := h r hr
    cases r with
    | nil => exact absurd rfl this
    | cons _ _ => rfl
  simp only [lstC, deref, Option.bind_some, rowsD_map, hl, decide_true, this, Bool.and_self, if_true]
  rfl

@[simp] theorem bi_sorted' (cs : Cs) (d : D) : bi1 cs .sorted d = sortedD cs d := by cases d <;> rfl
@[simp] theorem bi_sortset' (cs : Cs) (d : D) : bi1 cs .sortset d = sortsetD cs d := by cases d <;> rfl
@[simp] theorem bi_min' (cs : Cs) (d : D) : bi1 cs .min d = minD cs d := by cases d <;> rfl
@[simp] theorem bi_max' (cs : Cs) (d : D) : bi1 cs .max d = maxD cs d := by cases d <;> rfl
@[simp] theorem bi_sum' (cs : Cs) (d : D) : bi1 cs .sum d = sumD cs d := by cases d <;> rfl

theorem and_b {G : Gf} {a b : E} {s : S} {p q : Bool} (h1 : den G a s = .ok (.bl p) s) (h2 : p = true → den G b s = .ok (.bl q) s) : den G (.and a b) s = .ok (.bl (p && q)) s := by
  rw [den, h1]
  cases p with
  | true => simp [h2 rfl]
  | false => rfl
theorem or_b {G : Gf} {a b : E} {s : S} {p q : Bool} (h1 : den G a s = .ok (.bl p) s) (h2 : p = false → den G b s = .ok (.bl q) s) : den G (.or a b) s = .ok (.bl (p || q)) s := by
  rw [den, h1]
  cases p with
  | true => rfl
  | false => simp [h2 rfl]
@[simp] theorem fits_len (n : Nat) : fits n = decide (n ≤ 16777216) := rfl

/-- a for over data, by a word about the state -/
theorem forL_inv {α β : Type} {enc : α → D} {t : Tg} {b : S → Rs} (Inv : β → S → Prop) (f : β → α → β) : ∀ {xs : List α} {acc : β} {s : S}, (∀ x ∈ xs, ∀ acc s, Inv acc s → ∃ sl s', bindT t (enc x) s.sl = some sl ∧ b ⟨sl, s.cs⟩ = .nx s' ∧ Inv (f acc x) s') → Inv acc s →
    ∃ s', forL t b (xs.map enc) s = .nx s' ∧ Inv (xs.foldl f acc) s'
  | [], acc, s, _, h => ⟨s, by simp [forL], h⟩
  | x :: xs, acc, s, hs, h => by
    obtain ⟨sl, s1, e1, e2, h1⟩ := hs x List.mem_cons_self acc s h
    obtain ⟨s', e3, h3⟩ := forL_inv (enc := enc) (t := t) (b := b) Inv f (xs := xs) (fun y hy => hs y (List.mem_cons_of_mem _ hy)) h1
    refine ⟨s', ?_, h3⟩
    rw [List.map_cons, forL]
    simp only [e1, e2, e3]
theorem enum_map {α : Type} (enc : α → D) (l : List α) : (List.range (l.map enc).length).zipWith (fun i x => D.tup [.int (i : Nat), x]) (l.map enc) = ((List.range l.length).zip l).map fun p => .tup [.int (p.1 : Nat), enc p.2] := by
  rw [List.length_map, List.zip_eq_zipWith, List.map_zipWith]
  conv => lhs; rw [← List.map_id (List.range l.length)]
  rw [List.zipWith_map]
  simp
theorem rangeD_map (lo hi : Int) : rangeD lo hi = (List.range (hi - lo).toNat).map fun i => .int (lo + (i : Nat)) := rfl
@[simp] theorem lows_mapint {α : Type} (n : Nat) (f : α → Int) (l : List α) : lowDs n (l.map fun x => .int (f x)) = true := by rw [lows_iff]; intro d hd; obtain ⟨i, _, rfl⟩ := List.mem_map.mp hd; simp [lowD]

theorem rng_of {j : Int} (h0 : 0 ≤ j) (h : j ≤ 100000) : rngD [.int j] = some (rangeD 0 j) := by
  simp only [rngD, smallR, fits]
  have h1 : -(2 ^ 62) ≤ j := by omega
  have h2 : j < 2 ^ 62 := by omega
  have h3 : j.toNat ≤ 16777216 := by omega
  simp only [decide_eq_true h1, decide_eq_true h2, decide_eq_true h3, Bool.and_self, if_true]
theorem rangeD_0 (j : Int) : rangeD 0 j = (List.range j.toNat).map fun i => D.int ((i : Nat) : Int) := by
  rw [rangeD_map]
  simp

theorem cons_nx {G : Gf} {c : C} {r : List C} {s s' : S} (h : denC G c s = .nx s') : denCs G (c :: r) s = denCs G r s' := by
  rw [denCs, h]
theorem cons_rt {G : Gf} {c : C} {r : List C} {s : S} {d : D} {cs : Cs} (h : denC G c s = .rt d cs) : denCs G (c :: r) s = .rt d cs := by
  rw [denCs, h]
theorem for_eq {G : Gf} {t : Tg} {k : SK} {ss : List E} {b : List C} {s s1 : S} {ds items : List D} {r : Rs} (h1 : denL G ss s = .ok ds s1) (h2 : srcD k ds = some items) (h3 : forL t (denCs G b) items s1 = r) : denC G (.for t k ss b) s = r := by
  rw [denC]
  simp only [h1, h2, h3]

/-- so often, while it goes on -/
def iter {β : Type} (more : β → Bool) (step : β → β) : Nat → β → β
  | 0, x => x
  | n + 1, x => if more x then iter more step n (step x) else x
theorem whlL_iter {β : Type} {c : M D} {b : S → Rs} (Inv : β → S → Prop) (more : β → Bool) (step : β → β) (hc : ∀ x s, Inv x s → c s = .ok (.bl (more x)) s) (hb : ∀ x s, Inv x s → more x = true → ∃ s', b s = .nx s' ∧ Inv (step x) s') :
    ∀ (n : Nat) (x : β) (s : S), Inv x s → more (iter more step n x) = false → ∀ N, n < N → ∃ s', whlL c b N s = .nx s' ∧ Inv (iter more step n x) s'
  | 0, x, s, h, hm, N, hN => by
    cases N with
    | zero => omega
    | succ N =>
      rw [iter] at hm
      refine ⟨s, ?_, h⟩
      rw [whlL, hc x s h, hm]
  | n + 1, x, s, h, hm, N, hN => by
    cases N with
    | zero => omega
    | succ N =>
      rw [whlL, hc x s h]
      cases q : more x with
      | false =>
        rw [iter, q] at hm
        rw [iter, q]
        exact ⟨s, rfl, h⟩
      | true =>
        rw [iter, q, if_pos rfl] at hm
        rw [iter, q, if_pos rfl]
        obtain ⟨s1, e1, h1⟩ := hb x s h q
        obtain ⟨s', e, h'⟩ := whlL_iter Inv more step hc hb n (step x) s1 h1 hm N (by omega)
        exact ⟨s', by simp only [e1, e], h'⟩
theorem iter_done {β : Type} {more : β → Bool} {step : β → β} (μ : β → Nat) (h : ∀ x, more x = true → μ (step x) < μ x) : ∀ (n : Nat) (x : β), μ x ≤ n → more (iter more step n x) = false
  | 0, x, hn => by
    rw [iter]
    cases q : more x with
    | false => rfl
    | true => have := h x q; omega
  | n + 1, x, hn => by
    rw [iter]
    cases q : more x with
    | false => simp [q]
    | true =>
      rw [if_pos rfl]
      exact iter_done μ h n (step x) (by have := h x q; omega)
theorem whl_eq {G : Gf} {c : E} {b : List C} {s : S} {r : Rs} (h : whlL (den G c) (denCs G b) fuel s = r) : denC G (.whl c b) s = r := by
  rw [denC, h]
theorem filter_lt {α : Type} (p : α → Bool) : ∀ {l : List α} {a : α}, a ∈ l → p a = false → (l.filter p).length < l.length
  | x :: l, a, h, q => by
    rw [List.filter_cons]
    rcases List.mem_cons.mp h with e | h
    · subst e
      simp only [q, Bool.false_eq_true, if_false, List.length_cons]
      exact Nat.lt_succ_of_le (List.length_filter_le _ _)
    · have ih := filter_lt p h q
      split
      · simpa using ih
      · simp only [List.length_cons]
        omega

/-- a for that ends at the first that is looked for -/
theorem forL_find {α : Type} {enc : α → D} {t : Tg} {b : S → Rs} (Inv : S → Prop) (p : α → Bool) (g : α → D) (cs : Cs) : ∀ {xs : List α} {s : S}, (∀ x ∈ xs, ∀ s, Inv s → ∃ sl, bindT t (enc x) s.sl = some sl ∧ (p x = true → b ⟨sl, s.cs⟩ = .rt (g x) cs) ∧ (p x = false → ∃ s', b ⟨sl, s.cs⟩ = .nx s' ∧ Inv s')) → Inv s →
    match xs.find? p with
    | some x => forL t b (xs.map enc) s = .rt (g x) cs
    | none => ∃ s', forL t b (xs.map enc) s = .nx s' ∧ Inv s'
  | [], s, _, h => ⟨s, by simp [forL], h⟩
  | x :: xs, s, hs, h => by
    obtain ⟨sl, e1, h1, h2⟩ := hs x List.mem_cons_self s h
    rw [List.find?_cons]
    cases q : p x with
    | true =>
      simp only
      rw [List.map_cons, forL]
      simp only [e1, h1 q]
    | false =>
      simp only
      obtain ⟨s', e2, hi⟩ := h2 q
      have ih := forL_find (enc := enc) (t := t) (b := b) Inv p g cs (xs := xs) (s := s') (fun y hy => hs y (List.mem_cons_of_mem _ hy)) hi
      have e : forL t b (List.map enc (x :: xs)) s = forL t b (List.map enc xs) s' := by
        rw [List.map_cons, forL]
        simp only [e1, e2]
      rw [e]
      exact ih
end Ev

set_option Elab.async false
set_option linter.all false
set_option maxRecDepth 100000
set_option maxHeartbeats 1000000
set_option autoImplicit false
namespace Dd
open Ev PySem
def d_is_integer : Df := ⟨1, 1, false, [
  .ret (.and (.isi .int (.var 0)) (.not (.isi .bool (.var 0))))]⟩
def d_is_between : Df := ⟨3, 3, false, [
  .ret (.and (.call 0 [(.var 0)]) (.cmp2 .le .le (.var 1) (.var 0) (.var 2)))]⟩
def d_are_between : Df := ⟨3, 4, false, [
  .ret (.and (.isi .tuple (.var 0)) (.bi .all [(.lc (.call 1 [(.var 3), (.var 1), (.var 2)]) (.name 3) .seq [(.var 0)] [] [3])]))]⟩
def d_is_ascending : Df := ⟨1, 3, false, [
  .ret (.bi .all [(.lc (.cmp .lt (.var 1) (.var 2)) (.tup [(.name 1), (.name 2)]) .zip [(.var 0), (.sl (.var 0) (some (.kint 1)) none)] [] [1, 2])])]⟩
def d_is_tie : Df := ⟨2, 2, false, [
  .ite (.or (.not (.isi .tuple (.var 1))) (.or (.cmp .ne (.bi .len [(.var 1)]) (.gint "THREE" 3)) (.not (.call 1 [(.idx (.var 1) (.kint 1)), (.kint 1), (.bin .sub (.var 0) (.kint 1))])))) [.ret (.kbl false)] [],
  .ret (.and (.call 1 [(.idx (.var 1) (.kint 0)), (.kint 0), (.bin .sub (.idx (.var 1) (.kint 1)) (.kint 1))]) (.and (.call 1 [(.idx (.var 1) (.kint 2)), (.neg (.kint 1)), (.kint 1)]) (.cmp .ne (.idx (.var 1) (.kint 2)) (.kint 0))))]⟩
def d_is_net : Df := ⟨1, 2, false, [
  .ite (.or (.not (.isi .tuple (.var 0))) (.or (.cmp .ne (.bi .len [(.var 0)]) (.kint 2)) (.not (.call 1 [(.idx (.var 0) (.kint 0)), (.kint 1), (.gint "MOST_HOUSES" 10)])))) [.ret (.kbl false)] [],
  .ite (.or (.not (.isi .tuple (.idx (.var 0) (.kint 1)))) (.not (.bi .all [(.lc (.call 4 [(.idx (.var 0) (.kint 0)), (.var 1)]) (.name 1) .seq [(.idx (.var 0) (.kint 1))] [] [1])]))) [.ret (.kbl false)] [],
  .ret (.call 3 [(.idx (.var 0) (.kint 1))])]⟩
def d_check_net : Df := ⟨1, 1, false, [
  .ite (.not (.call 5 [(.var 0)])) [.never] []]⟩
def d_is_lot_of : Df := ⟨2, 2, false, [
  .ret (.and (.call 2 [(.var 1), (.kint 0), (.bin .sub (.var 0) (.kint 1))]) (.call 3 [(.var 1)]))]⟩
def d_check_lot : Df := ⟨2, 2, false, [
  .ite (.not (.call 7 [(.idx (.var 0) (.kint 0)), (.var 1)])) [.never] []]⟩
def d_net_by : Df := ⟨2, 2, false, [
  .ret (.tup [(.var 0), (.bi .tuple [(.bi .sorted [(.var 1)])])])]⟩
def d_likings_to : Df := ⟨3, 6, false, [
  .ret (.bi .len [(.lc (.kint 1) (.tup [(.name 3), (.name 4), (.name 5)]) .seq [(.idx (.var 0) (.kint 1))] [(.and (.cmp .gt (.var 5) (.kint 0)) (.and (.cmp .isin (.var 1) (.tup [(.var 3), (.var 4)])) (.and (.cmp .isin (.var 3) (.var 2)) (.cmp .isin (.var 4) (.var 2)))))] [3, 4, 5])])]⟩
def d_feuds_to : Df := ⟨3, 6, false, [
  .ret (.bi .len [(.lc (.kint 1) (.tup [(.name 3), (.name 4), (.name 5)]) .seq [(.idx (.var 0) (.kint 1))] [(.and (.cmp .lt (.var 5) (.kint 0)) (.and (.cmp .isin (.var 1) (.tup [(.var 3), (.var 4)])) (.and (.cmp .isin (.var 3) (.var 2)) (.cmp .isin (.var 4) (.var 2)))))] [3, 4, 5])])]⟩
def d_core_of : Df := ⟨2, 6, false, [
  .setT (.tup [(.name 2), (.name 3)]) (.tup [(.rng [(.idx (.var 0) (.kint 0))]), (.cel (.lst []))]),
  .set 4 (.lc (.var 5) (.name 5) .seq [(.var 2)] [(.cmp .lt (.call 10 [(.var 0), (.var 5), (.var 2)]) (.var 1))] [5]),
  .whl (.cmp .ne (.var 4) (.lst [])) [.exp (.meth .append (.var 3) [(.idx (.var 4) (.kint 0))]), .set 2 (.lc (.var 5) (.name 5) .seq [(.var 2)] [(.cmp .ne (.var 5) (.idx (.var 4) (.kint 0)))] [5]), .set 4 (.lc (.var 5) (.name 5) .seq [(.var 2)] [(.cmp .lt (.call 10 [(.var 0), (.var 5), (.var 2)]) (.var 1))] [5])],
  .ret (.tup [(.bi .tuple [(.var 2)]), (.bi .tuple [(.var 3)])])]⟩
def d_check_least : Df := ⟨2, 2, false, [
  .exp (.call 6 [(.var 0)]),
  .ite (.not (.call 1 [(.var 1), (.kint 0), (.gint "MOST_LEAST" 10)])) [.never] []]⟩
def d_core : Df := ⟨2, 2, false, [
  .exp (.call 13 [(.var 0), (.var 1)]),
  .ret (.call 12 [(.var 0), (.var 1)])]⟩
def d_company : Df := ⟨2, 4, false, [
  .exp (.call 6 [(.var 0)]),
  .exp (.call 8 [(.var 0), (.var 1)]),
  .set 2 (.lc (.var 3) (.name 3) .seq [(.var 1)] [(.cmp .gt (.call 11 [(.var 0), (.var 3), (.var 1)]) (.call 10 [(.var 0), (.var 3), (.var 1)]))] [3]),
  .whl (.cmp .ne (.var 2) (.lst [])) [.set 1 (.bi .tuple [(.lc (.var 3) (.name 3) .seq [(.var 1)] [(.cmp .notin (.var 3) (.var 2))] [3])]), .set 2 (.lc (.var 3) (.name 3) .seq [(.var 1)] [(.cmp .gt (.call 11 [(.var 0), (.var 3), (.var 1)]) (.call 10 [(.var 0), (.var 3), (.var 1)]))] [3])],
  .ret (.var 1)]⟩
def d_are_sides : Df := ⟨2, 3, false, [
  .ite (.or (.not (.isi .tuple (.var 1))) (.or (.cmp .ne (.bi .len [(.var 1)]) (.idx (.var 0) (.kint 0))) (.not (.bi .all [(.lc (.call 0 [(.var 2)]) (.name 2) .seq [(.var 1)] [] [2])])))) [.ret (.kbl false)] [],
  .ret (.bi .all [(.lc (.cmp .eq (.bi .abs [(.var 2)]) (.kint 1)) (.name 2) .seq [(.var 1)] [] [2])])]⟩
def d_check_sides : Df := ⟨2, 2, false, [
  .ite (.not (.call 16 [(.var 0), (.var 1)])) [.never] []]⟩
def d_is_kept : Df := ⟨2, 2, false, [
  .ret (.cmp .eq (.bin .mul (.idx (.var 1) (.idx (.var 0) (.kint 0))) (.idx (.var 1) (.idx (.var 0) (.kint 1)))) (.idx (.var 0) (.kint 2)))]⟩
def d_broken_by : Df := ⟨2, 4, true, [
  .ret (.cel (.lc (.var 2) (.tup [(.name 2), (.name 3)]) .enum [(.idx (.var 0) (.kint 1))] [(.not (.call 18 [(.var 3), (.var 1)]))] [2, 3]))]⟩
def d_broken : Df := ⟨2, 2, false, [
  .exp (.call 6 [(.var 0)]),
  .exp (.call 17 [(.var 0), (.var 1)]),
  .ret (.bi .tuple [(.call 19 [(.var 0), (.var 1)])])]⟩
def d_switched_at : Df := ⟨2, 6, false, [
  .set 2 (.lc (.tup [(.var 3), (.var 4), (.ite (.cmp .ne (.cmp .isin (.var 3) (.var 1)) (.cmp .isin (.var 4) (.var 1))) (.bin .sub (.kint 0) (.var 5)) (.var 5))]) (.tup [(.name 3), (.name 4), (.name 5)]) .seq [(.idx (.var 0) (.kint 1))] [] [3, 4, 5]),
  .ret (.call 9 [(.idx (.var 0) (.kint 0)), (.var 2)])]⟩
def d_switched : Df := ⟨2, 2, false, [
  .exp (.call 6 [(.var 0)]),
  .exp (.call 8 [(.var 0), (.var 1)]),
  .ret (.call 21 [(.var 0), (.var 1)])]⟩
def d_every_sides : Df := ⟨1, 5, true, [
  .set 1 (.cel (.lst [(.tup [])])),
  .for (.name 2) .rng1 [(.var 0)] [.set 3 (.cel (.lst [])), .for (.name 4) .seq [(.frz (.var 1))] [.exp (.meth .extend (.var 3) [(.lst [(.tup [(.star (.var 4)), (.neg (.kint 1))]), (.tup [(.star (.var 4)), (.kint 1)])])])], .set 1 (.var 3)],
  .ret (.var 1)]⟩
def d_breaks_by : Df := ⟨2, 2, false, [
  .ret (.bi .len [(.call 19 [(.var 0), (.var 1)])])]⟩
def d_least_breaks : Df := ⟨1, 2, false, [
  .ret (.bi .min [(.lc (.tup [(.call 24 [(.var 0), (.tup [(.kint 1), (.star (.var 1))])]), (.tup [(.kint 1), (.star (.var 1))])]) (.name 1) .seq [(.call 23 [(.bin .sub (.idx (.var 0) (.kint 0)) (.kint 1))])] [] [1])])]⟩
def d_all_least : Df := ⟨1, 3, true, [
  .set 1 (.idx (.call 25 [(.var 0)]) (.kint 0)),
  .ret (.cel (.lc (.var 2) (.name 2) .seq [(.call 23 [(.idx (.var 0) (.kint 0))])] [(.cmp .eq (.call 24 [(.var 0), (.var 2)]) (.var 1))] [2]))]⟩
def d_least_sides : Df := ⟨1, 1, false, [
  .exp (.call 6 [(.var 0)]),
  .ret (.bi .tuple [(.call 26 [(.var 0)])])]⟩
def d_other_side : Df := ⟨2, 4, false, [
  .ret (.bi .tuple [(.lc (.ite (.cmp .eq (.var 2) (.var 1)) (.bin .sub (.kint 0) (.var 3)) (.var 3)) (.tup [(.name 2), (.name 3)]) .enum [(.var 0)] [] [2, 3])])]⟩
def d_better_of : Df := ⟨2, 4, false, [
  .set 2 (.call 24 [(.var 0), (.var 1)]),
  .for (.name 3) .rng1 [(.idx (.var 0) (.kint 0))] [.ite (.cmp .lt (.call 24 [(.var 0), (.call 28 [(.var 1), (.var 3)])]) (.var 2)) [.ret (.var 3)] []],
  .ret .knon]⟩
def d_calmed : Df := ⟨2, 3, false, [
  .exp (.call 6 [(.var 0)]),
  .exp (.call 17 [(.var 0), (.var 1)]),
  .set 2 (.call 29 [(.var 0), (.var 1)]),
  .whl (.nisn (.var 2)) [.set 1 (.call 28 [(.var 1), (.var 2)]), .set 2 (.call 29 [(.var 0), (.var 1)])],
  .ret (.var 1)]⟩
def d_pull_of : Df := ⟨3, 7, false, [
  .set 3 (.kint 0),
  .for (.tup [(.name 4), (.name 5), (.name 6)]) .seq [(.idx (.var 0) (.kint 1))] [.ite (.cmp .isin (.var 2) (.tup [(.var 4), (.var 5)])) [.set 3 (.bin .add (.var 3) (.bin .mul (.var 6) (.idx (.var 1) (.ite (.cmp .eq (.var 2) (.var 4)) (.var 5) (.var 4)))))] []],
  .ret (.var 3)]⟩
def d_pulls_of : Df := ⟨2, 3, true, [
  .ret (.cel (.lc (.call 31 [(.var 0), (.var 1), (.var 2)]) (.name 2) .rng1 [(.idx (.var 0) (.kint 0))] [] [2]))]⟩
def d_check_at : Df := ⟨2, 2, false, [
  .exp (.call 6 [(.var 0)]),
  .exp (.call 17 [(.var 0), (.var 1)])]⟩
def d_wanting_of : Df := ⟨2, 4, true, [
  .ret (.cel (.lc (.var 2) (.tup [(.name 2), (.name 3)]) .enum [(.call 32 [(.var 0), (.var 1)])] [(.cmp .lt (.bin .mul (.var 3) (.idx (.var 1) (.var 2))) (.kint 0))] [2, 3]))]⟩
def d_wanting : Df := ⟨2, 2, false, [
  .exp (.call 33 [(.var 0), (.var 1)]),
  .ret (.bi .tuple [(.call 34 [(.var 0), (.var 1)])])]⟩
def d_gone_by : Df := ⟨2, 4, false, [
  .ret (.bi .tuple [(.lc (.ite (.cmp .isin (.var 2) (.var 1)) (.bin .sub (.kint 0) (.var 3)) (.var 3)) (.tup [(.name 2), (.name 3)]) .enum [(.var 0)] [] [2, 3])])]⟩
def d_rested_of : Df := ⟨2, 4, false, [
  .par 2 3 (.cel (.lst [])) (.call 34 [(.var 0), (.var 1)]),
  .whl (.cmp .ne (.var 3) (.lst [])) [.exp (.meth .append (.var 2) [(.idx (.var 3) (.kint 0))]), .set 1 (.call 36 [(.var 1), (.sl (.var 3) none (some (.kint 1)))]), .set 3 (.call 34 [(.var 0), (.var 1)])],
  .ret (.tup [(.bi .tuple [(.var 2)]), (.var 1)])]⟩
def d_rested : Df := ⟨2, 2, false, [
  .exp (.call 33 [(.var 0), (.var 1)]),
  .ret (.call 37 [(.var 0), (.var 1)])]⟩
def d_rows_of : Df := ⟨1, 5, true, [
  .set 1 (.cel (.lst [(.tup [])])),
  .for (.name 2) .rng1 [(.var 0)] [.set 3 (.cel (.lst [])), .for (.name 4) .seq [(.frz (.var 1))] [.exp (.meth .extend (.var 3) [(.lst [(.tup [(.star (.var 4)), (.neg (.kint 1))]), (.tup [(.star (.var 4)), (.kint 1)])])])], .set 1 (.var 3)],
  .ret (.var 1)]⟩
def d_is_still : Df := ⟨2, 2, false, [
  .exp (.call 33 [(.var 0), (.var 1)]),
  .ret (.cmp .eq (.call 34 [(.var 0), (.var 1)]) (.lst []))]⟩
def d_still_of : Df := ⟨1, 2, true, [
  .ret (.cel (.lc (.var 1) (.name 1) .seq [(.call 39 [(.idx (.var 0) (.kint 0))])] [(.cmp .eq (.call 34 [(.var 0), (.var 1)]) (.lst []))] [1]))]⟩
def d_all_still : Df := ⟨1, 1, false, [
  .exp (.call 6 [(.var 0)]),
  .ret (.bi .tuple [(.call 41 [(.var 0)])])]⟩
def d__law_pot : Df := ⟨2, 5, true, [
  .set 2 (.ite (.cmp .lt (.var 1) (.bi .len [(.var 0)])) (.idx (.var 0) (.var 1)) (.bin .add (.bin .add (.bin .mod (.bi .int [(.bi .sum [(.sl (.var 0) none (some (.kint 1)))])]) (.kint 1000003)) (.bin .mul (.kint 2415) (.var 1))) (.kint 5051))),
  .set 3 (.bin .mul (.bin .mod (.bi .int [(.bi .abs [(.var 2)])]) (.bin .pow (.bin .pow (.kint 10) (.kint 60)) (.kint 5))) (.bi .int [(.cmp .ge (.bi .abs [(.var 2)]) (.bin .pow (.kint 10) (.kint 18)))])),
  .set 4 (.bin .mod (.bi .int [(.var 2)]) (.kint 2305843009213693951)),
  .ret (.cel (.lst [(.var 3), (.bin .mod (.bi .int [(.bin .add (.bin .add (.bin .mul (.var 4) (.kint 82429)) (.bin .mul (.bin .mul (.kint 11439) (.var 1)) (.var 1))) (.kint 1815))]) (.kint 2305843009213693921)), (.kint 0)]))]⟩
def d__law_take : Df := ⟨2, 5, false, [
  .ite (.cmp .gt (.idx (.var 0) (.kint 0)) (.kint 0)) [.set 4 (.bin .mod (.bi .int [(.idx (.var 0) (.kint 0))]) (.var 1)), .setix (.var 0) (.kint 0) (.bin .fdiv (.idx (.var 0) (.kint 0)) (.var 1)), .ret (.var 4)] [],
  .setix (.var 0) (.kint 2) (.bin .add (.idx (.var 0) (.kint 2)) (.kint 1)),
  .set 2 (.idx (.lst [(.kint 2147483647), (.kint 2147483629), (.kint 2147483587), (.kint 2147483579)]) (.bin .mod (.bi .int [(.idx (.var 0) (.kint 2))]) (.kint 4))),
  .set 3 (.bin .mod (.bi .int [(.bin .pow (.bi .int [(.bin .add (.bin .add (.idx (.var 0) (.kint 1)) (.bin .mul (.bin .mul (.kint 113289) (.idx (.var 0) (.kint 2))) (.idx (.var 0) (.kint 2)))) (.kint 2515))]) (.kint 3))]) (.var 2)),
  .ret (.bin .mod (.bi .int [(.bin .fdiv (.bin .mul (.var 3) (.bin .add (.bin .mod (.bi .int [(.var 3)]) (.kint 10007)) (.bin .mul (.kint 1717) (.idx (.var 0) (.kint 2))))) (.kint 307))]) (.var 1))]⟩
def d__law_cells : Df := ⟨2, 2, true, [
  .ret (.cel (.rng [(.bi .max2 [(.kint 1), (.bi .min2 [(.var 1), (.bi .len [(.var 0)])])])]))]⟩
def d__law_net : Df := ⟨3, 6, false, [
  .set 3 (.cel (.lst [])),
  .for (.name 4) .rng1 [(.ite (.cmp .gt (.var 1) (.kint 1)) (.call 44 [(.var 0), (.bin .add (.var 2) (.kint 1))]) (.kint 0))] [.set 5 (.call 44 [(.var 0), (.bin .sub (.var 1) (.kint 1))]), .exp (.meth .append (.var 3) [(.tup [(.bi .int [(.var 5)]), (.bi .int [(.bin .add (.bin .add (.var 5) (.kint 1)) (.call 44 [(.var 0), (.bin .sub (.bin .sub (.var 1) (.var 5)) (.kint 1))]))]), (.ite (.cmp .eq (.call 44 [(.var 0), (.kint 2)]) (.kint 0)) (.kint 1) (.neg (.kint 1)))])])],
  .ret (.tup [(.bi .int [(.var 1)]), (.bi .tuple [(.bi .sortset [(.var 3)])])])]⟩
def d__law_right : Df := ⟨1, 12, false, [
  .set 1 (.call 46 [(.var 0), (.bin .add (.kint 1) (.call 44 [(.var 0), (.kint 5)])), (.kint 9)]),
  .par 2 3 (.idx (.var 1) (.kint 0)) (.bi .tuple [(.rng [(.idx (.var 1) (.kint 0))])]),
  .set 4 (.bi .tuple [(.lc (.ite (.cmp .eq (.call 44 [(.var 0), (.kint 2)]) (.kint 0)) (.kint 1) (.neg (.kint 1))) (.name 10) .rng1 [(.var 2)] [] [10])]),
  .set 5 (.call 22 [(.var 1), (.bi .tuple [(.lc (.var 10) (.name 10) .rng1 [(.var 2)] [(.cmp .lt (.idx (.var 4) (.var 10)) (.kint 0))] [10])])]),
  .ite (.or (.cmp .ne (.call 40 [(.var 1), (.var 4)]) (.cmp .eq (.call 15 [(.var 5), (.var 3)]) (.var 3))) (.cmp .ne (.call 40 [(.var 5), (.bin .mul (.tup [(.kint 1)]) (.var 2))]) (.call 40 [(.var 1), (.var 4)]))) [.ret (.kbl false)] [],
  .set 6 (.bi .tuple [(.lc (.var 10) (.name 10) .seq [(.var 3)] [(.cmp .notin (.var 10) (.call 35 [(.var 1), (.var 4)]))] [10])]),
  .ite (.not (.bi .all [(.lc (.cmp .isin (.var 10) (.var 6)) (.name 10) .seq [(.call 15 [(.var 5), (.var 3)])] [] [10])])) [.ret (.kbl false)] [],
  .ite (.not (.bi .all [(.lc (.cmp .isin (.var 8) (.call 42 [(.var 1)])) (.name 8) .seq [(.call 27 [(.var 1)])] [] [8])])) [.ret (.kbl false)] [],
  .setT (.tup [(.name 7), (.name 8)]) (.call 38 [(.var 1), (.var 4)]),
  .ite (.or (.not (.call 40 [(.var 1), (.var 8)])) (.or (.cmp .gt (.bin .add (.bi .len [(.call 20 [(.var 1), (.var 8)])]) (.bi .len [(.var 7)])) (.bi .len [(.call 20 [(.var 1), (.var 4)])])) (.cmp .ne (.call 30 [(.var 1), (.var 4)]) (.var 8)))) [.ret (.kbl false)] [],
  .set 9 (.tup [(.var 2), (.bi .tuple [(.lc (.var 11) (.name 11) .seq [(.idx (.var 1) (.kint 1))] [(.cmp .gt (.idx (.var 11) (.kint 2)) (.kint 0))] [11])])]),
  .ret (.and (.cmp .eq (.call 15 [(.var 9), (.idx (.call 14 [(.var 1), (.kint 1)]) (.kint 0))]) (.idx (.call 14 [(.var 1), (.kint 1)]) (.kint 0))) (.cmp .eq (.idx (.call 14 [(.var 9), (.kint 2)]) (.kint 0)) (.idx (.call 14 [(.var 1), (.kint 2)]) (.kint 0))))]⟩
def d_law : Df := ⟨1, 4, false, [
  .for (.name 1) .seq [(.call 45 [(.var 0), (.kint 3)])] [.set 2 (.cel (.call 43 [(.var 0), (.var 1)])), .ite (.not (.bi .all [(.lc (.call 47 [(.var 2)]) (.name 3) .rng1 [(.kint 3)] [] [3])])) [.ret (.kbl false)] []],
  .ret (.kbl true)]⟩
end Dd
namespace Ev
open PySem Dd
variable {T : Tf}
theorem s_int (hT : T 0 = some d_is_integer) (i : Int) : Ret T 1 0 [.int i] (.bl true) :=
  .of hT rfl rfl (by simp [lowD]) fun k cs _ => by
    simp [d_is_integer, denCs, denC, den, tyD, deref, kindD]
theorem s_between (h0 : T 0 = some d_is_integer) (hT : T 1 = some d_is_between) (v lo hi : Int) : Ret T 2 1 [.int v, .int lo, .int hi] (.bl (decide (lo ≤ v) && decide (v ≤ hi))) :=
  .of hT rfl rfl (by simp [lowD]) fun k cs hk => by
    have e0 := fun i cs => s_int h0 i k cs hk
    simp [d_is_between, denCs, denC, den, denL, E.isStar, e0, cmpD]
    by_cases h : lo ≤ v <;> simp [h, cmpD]
/-- what is unfolded in each step -/
theorem s_are_between (h0 : T 0 = some d_is_integer) (h1 : T 1 = some d_is_between) (hT : T 2 = some d_are_between) (l : List Int) (lo hi : Int) : Ret T 3 2 [.tup (l.map .int), .int lo, .int hi] (.bl (l.all fun v => decide (lo ≤ v) && decide (v ≤ hi))) :=
  .of hT rfl rfl (by simp [lowD]) fun k cs hk => by
    have e0 := fun v lo hi cs => s_between h0 h1 v lo hi k cs hk
    simp [d_are_between, denCs, denC, den, denL, E.isStar, tyD, deref, kindD, srcD, wipeS]
    rw [lcL_map (fun v => [some (.tup (l.map .int)), some (.int lo), some (.int hi), some (.int v)]) (fun v => .bl (decide (lo ≤ v) && decide (v ≤ hi))) fun v _ => ⟨by simp [bindT], by simp [den, denL, E.isStar, e0]⟩]
    have e := bools_map (l.map fun v => decide (lo ≤ v) && decide (v ≤ hi))
    rw [List.map_map] at e
    simp [biD, bi1, allD, Function.comp_def] at e ⊢
    simp [e, List.all_map, Function.comp_def]
/-! ties, nets -/
abbrev Tie := Int × Int × Int
def tieR (t : Tie) : List Int := [t.1, t.2.1, t.2.2]
def tieD (t : Tie) : D := .tup ((tieR t).map .int)
structure Net where
  m : Int
  ts : List Tie
def netD (n : Net) : D := .tup [.int n.m, .tup (n.ts.map tieD)]
def tieOk (m : Int) (t : Tie) : Prop := 0 ≤ t.1 ∧ t.1 < t.2.1 ∧ t.2.1 < m ∧ (t.2.2 = 1 ∨ t.2.2 = -1)
structure Net.Ok (n : Net) : Prop where
  m1 : 1 ≤ n.m
  m10 : n.m ≤ 10
  ok : ∀ t ∈ n.ts, tieOk n.m t
  asc : asc (fun a b => HT.lexLt (tieR a) (tieR b)) n.ts = true
theorem s_tie (h0 : T 0 = some d_is_integer) (h1 : T 1 = some d_is_between) (hT : T 4 = some d_is_tie) {m : Int} {t : Tie} (h : tieOk m t) : Ret T 3 4 [.int m, tieD t] (.bl true) :=
  .of hT rfl rfl (by simp [lowD]) fun k cs hk => by
    have e0 := fun v lo hi cs => s_between h0 h1 v lo hi k cs hk
    obtain ⟨a, b, c⟩ := t
    obtain ⟨h2, h3, h4, h5⟩ := h
    simp only at h2 h3 h4 h5
    have f1 : 1 ≤ b := by omega
    have f2 : b ≤ m - 1 := by omega
    have f3 : a ≤ b - 1 := by omega
    have f4 : -1 ≤ c := by omega
    have f5 : c ≤ 1 := by omega
    have f6 : c ≠ 0 := by omega
    simp [d_is_tie, denCs, denC, den, denL, E.isStar, e0, tieD, tieR, f1, f2, f3, f4, f5, f6, h2]
theorem s_asc {α : Type} (enc : α → D) (lt : α → α → Bool) (hlt : ∀ a b cs, cmpD cs .lt (enc a) (enc b) = some (lt a b)) (hT : T 3 = some d_is_ascending) (l : List α) : Ret T 1 3 [.tup (l.map enc)] (.bl (asc lt l)) :=
  .of hT rfl rfl (by simp [lowD]) fun k cs hk => by
    have hz : List.zipWith (fun x y => D.tup [x, y]) (l.map enc) ((l.map enc).drop 1) = (l.zip (l.drop 1)).map fun p => .tup [enc p.1, enc p.2] := by
      rw [← List.map_drop, List.zipWith_map, List.zip_eq_zipWith, List.map_zipWith]
    simp only [d_is_ascending, denCs, denC, den, denL, denO, E.isStar, wipeS, srcD, R.bind_ok, sl_tup, cut_from1, R.of_some, List.map_cons, List.map_nil, List.cons_append, List.nil_append, List.getElem?_cons_zero, Bool.false_eq_true, if_false, hz, List.set]
    rw [lcL_map (fun p : α × α => [some (.tup (l.map enc)), some (enc p.1), some (enc p.2)]) (fun p => .bl (lt p.1 p.2)) fun p _ => ⟨by simp [bindT, bindTs], by simp [den, hlt]⟩]
    simp [bools_of, asc_zip, List.all_map, Function.comp_def]
/-! lots, sides -/
theorem s_net (h0 : T 0 = some d_is_integer) (h1 : T 1 = some d_is_between) (h3 : T 3 = some d_is_ascending) (h4 : T 4 = some d_is_tie) (hT : T 5 = some d_is_net) {n : Net} (h : n.Ok) : Ret T 4 5 [netD n] (.bl true) :=
  .of hT rfl rfl (by simp [lowD]) fun k cs hk => by
    have e0 := fun v lo hi cs => s_between h0 h1 v lo hi k cs (by omega)
    have e4 := fun t ht cs => s_tie h0 h1 h4 (h.ok t ht) k cs (by omega)
    have e3 := fun cs => s_asc tieD (fun a b => HT.lexLt (tieR a) (tieR b)) (fun a b cs => by simp [tieD, cmpD]) h3 n.ts k cs (by omega)
    have f1 := h.m1
    have f2 := h.m10
    simp only [d_is_net, denCs, denC, den, denL, E.isStar, wipeS, srcD]
    simp [e0, netD, f1, f2]
    rw [lcL_map (enc := tieD) (fun t => [some (netD n), some (tieD t)]) (fun t => .bl true) fun t ht => ⟨by simp [bindT, netD], by simp [den, denL, E.isStar, netD, e4 t ht]⟩]
    simp [bools_of, e3, h.asc]

/-- the defs of words and nets stand in the table -/
structure NetT (T : Tf) : Prop where
  h0 : T 0 = some d_is_integer
  h1 : T 1 = some d_is_between
  h3 : T 3 = some d_is_ascending
  h4 : T 4 = some d_is_tie
  h5 : T 5 = some d_is_net
  h6 : T 6 = some d_check_net
theorem s_check_net (N : NetT T) {n : Net} (h : n.Ok) : Ret T 5 6 [netD n] .non :=
  .ofN N.h6 rfl rfl fun k cs hk => by
    have e := fun cs => s_net N.h0 N.h1 N.h3 N.h4 N.h5 h k cs hk
    refine ⟨[some (netD n)], ?_⟩
    simp [d_check_net, denCs, denC, den, denL, E.isStar, e]
/-- a lot of m houses -/
def lotOk (m : Int) (l : List Int) : Prop := (∀ v ∈ l, 0 ≤ v ∧ v < m) ∧ asc (fun a b => decide (a < b)) l = true
structure LotT (T : Tf) : Prop extends NetT T where
  h2 : T 2 = some d_are_between
  h7 : T 7 = some d_is_lot_of
  h8 : T 8 = some d_check_lot
theorem s_lot (N : LotT T) {m : Int} {l : List Int} (h : lotOk m l) : Ret T 4 7 [.int m, .tup (l.map .int)] (.bl true) :=
  .of N.h7 rfl rfl (by simp [lowD]) fun k cs hk => by
    have e2 := fun lo hi cs => s_are_between N.h0 N.h1 N.h2 l lo hi k cs (by omega)
    have e3 := fun cs => s_asc D.int (fun a b => decide (a < b)) (fun a b cs => rfl) N.h3 l k cs (by omega)
    have ha : (l.all fun v => decide (0 ≤ v) && decide (v ≤ m - 1)) = true := by
      rw [List.all_eq_true]
      intro v hv
      obtain ⟨h1, h2⟩ := h.1 v hv
      simp [h1]
      omega
    simp [d_is_lot_of, denCs, denC, den, denL, E.isStar, e2, e3, ha, h.2]
theorem s_check_lot (N : LotT T) {n : Net} {l : List Int} (h : lotOk n.m l) : Ret T 5 8 [netD n, .tup (l.map .int)] .non :=
  .ofN N.h8 rfl rfl fun k cs hk => by
    have e := fun cs => s_lot N h k cs hk
    refine ⟨[some (netD n), some (.tup (l.map .int))], ?_⟩
    simp [d_check_lot, denCs, denC, den, denL, E.isStar, netD, e]
/-! net_by -/
def rowT : List Int → Tie
  | [a, b, c] => (a, b, c)
  | _ => (0, 0, 0)
theorem rowT_tie (t : Tie) : rowT (tieR t) = t := rfl
def sortT (ts : List Tie) : List Tie := ts.mergeSort fun a b => leRow (tieR a) (tieR b)
theorem sortT_rows (ts : List Tie) : (sortT ts).map tieR = sortRows (ts.map tieR) := by
  unfold sortT sortRows
  exact List.map_mergeSort fun a _ b _ => rfl
theorem ties_rows (ts : List Tie) : ts.map tieD = (ts.map tieR).map rowD := by rw [List.map_map]; rfl
theorem tieR_ne (ts : List Tie) : ∀ r ∈ ts.map tieR, r ≠ [] := by
  intro r hr
  obtain ⟨t, _, rfl⟩ := List.mem_map.mp hr
  simp [tieR]
theorem s_net_by (hT : T 9 = some d_net_by) (m : Int) (ts : List Tie) : Ret T 1 9 [.int m, .lst (ts.map tieD)] (netD ⟨m, sortT ts⟩) :=
  .of hT rfl rfl (by simp [lowD, netD, lowDs]; rw [ties_rows, lows_iff]; intro d hd; obtain ⟨r, _, rfl⟩ := List.mem_map.mp hd; simp [rowD, lowD]) fun k cs hk => by
    have e : bi1 cs .sorted (.lst (ts.map tieD)) = some (.lst ((sortT ts).map tieD)) := by
      rw [bi_sorted', ties_rows, sorted_rows (tieR_ne ts), ties_rows, sortT_rows]
    simp [d_net_by, denCs, denC, den, denL, E.isStar, e, fits, netD]
/-! likings, feuds -/
def linked (h : Int) (lot : List Int) (t : Tie) : Bool := decide (h = t.1 ∨ h = t.2.1) && decide (t.1 ∈ lot) && decide (t.2.1 ∈ lot)
def likes (n : Net) (h : Int) (lot : List Int) : Nat := (n.ts.filter fun t => decide (0 < t.2.2) && linked h lot t).length
def feuds (n : Net) (h : Int) (lot : List Int) : Nat := (n.ts.filter fun t => decide (t.2.2 < 0) && linked h lot t).length
/-- a lot as a tuple or as a list -/
inductive IsLot (l : List Int) : D → Prop
  | tup : IsLot l (.tup (l.map .int))
  | lst : IsLot l (.lst (l.map .int))
theorem IsLot.isin {l : List Int} {d : D} (h : IsLot l d) (cs : Cs) (i : Int) : inD cs (.int i) d = some (decide (i ∈ l)) := by
  cases h
  · exact in_tup cs i l
  · exact in_lst cs i l
theorem s_likes (hT : T 10 = some d_likings_to) (n : Net) (h : Int) {l : List Int} {d : D} (hl : IsLot l d) : Ret T 1 10 [netD n, .int h, d] (.int (likes n h l)) :=
  .of hT rfl rfl (by simp [lowD]) fun k cs hk => by
    simp only [d_likings_to, denCs, denC, den, denL, E.isStar, wipeS, srcD]
    simp [netD]
    rw [lcL_pure (enc := tieD) (fun t => [some (netD n), some (.int h), some d, some (.int t.1), some (.int t.2.1), some (.int t.2.2)]) (fun t => decide (0 < t.2.2) && linked h l t) (fun t => .int 1) fun t ht => ⟨by simp [bindT, bindTs, tieD, tieR, netD], ?_, fun _ => by simp [den]⟩]
    · simp [likes]
    · rw [denI]
      have e := and_b (G := callF T k) (a := .cmp .gt (.var 5) (.kint 0)) (b := .and (.cmp .isin (.var 1) (.tup [(.var 3), (.var 4)])) (.and (.cmp .isin (.var 3) (.var 2)) (.cmp .isin (.var 4) (.var 2)))) (s := ⟨[some (netD n), some (.int h), some d, some (.int t.1), some (.int t.2.1), some (.int t.2.2)], cs⟩) (p := decide (0 < t.2.2)) (q := decide (h = t.1 ∨ h = t.2.1) && (decide (t.1 ∈ l) && decide (t.2.1 ∈ l)))
        (by simp [den]) fun _ => and_b (by simp [den, denL, E.isStar]) fun _ => and_b (by simp [den, hl.isin]) fun _ => by simp [den, hl.isin]
      rw [e]
      simp [linked, Bool.and_assoc]
theorem s_feuds (hT : T 11 = some d_feuds_to) (n : Net) (h : Int) {l : List Int} {d : D} (hl : IsLot l d) : Ret T 1 11 [netD n, .int h, d] (.int (feuds n h l)) :=
  .of hT rfl rfl (by simp [lowD]) fun k cs hk => by
    simp only [d_feuds_to, denCs, denC, den, denL, E.isStar, wipeS, srcD]
    simp [netD]
    rw [lcL_pure (enc := tieD) (fun t => [some (netD n), some (.int h), some d, some (.int t.1), some (.int t.2.1), some (.int t.2.2)]) (fun t => decide (t.2.2 < 0) && linked h l t) (fun t => .int 1) fun t ht => ⟨by simp [bindT, bindTs, tieD, tieR, netD], ?_, fun _ => by simp [den]⟩]
    · simp [feuds]
    · rw [denI]
      have e := and_b (G := callF T k) (a := .cmp .lt (.var 5) (.kint 0)) (b := .and (.cmp .isin (.var 1) (.tup [(.var 3), (.var 4)])) (.and (.cmp .isin (.var 3) (.var 2)) (.cmp .isin (.var 4) (.var 2)))) (s := ⟨[some (netD n), some (.int h), some d, some (.int t.1), some (.int t.2.1), some (.int t.2.2)], cs⟩) (p := decide (t.2.2 < 0)) (q := decide (h = t.1 ∨ h = t.2.1) && (decide (t.1 ∈ l) && decide (t.2.1 ∈ l)))
        (by simp [den]) fun _ => and_b (by simp [den, denL, E.isStar]) fun _ => and_b (by simp [den, hl.isin]) fun _ => by simp [den, hl.isin]
      rw [e]
      simp [linked, Bool.and_assoc]

/-! sides -/
def sideOk (n : Net) (s : List Int) : Prop := (s.length : Int) = n.m ∧ ∀ v ∈ s, v = 1 ∨ v = -1
theorem s_are_sides (h0 : T 0 = some d_is_integer) (hT : T 16 = some d_are_sides) {n : Net} {s : List Int} (h : sideOk n s) : Ret T 2 16 [netD n, .tup (s.map .int)] (.bl true) :=
  .of hT rfl rfl (by simp [lowD]) fun k cs hk => by
    have e0 := fun i cs => s_int h0 i k cs (by omega)
    simp only [d_are_sides, denCs, denC, den, denL, E.isStar, wipeS, srcD]
    simp [netD, h.1]
    rw [lcL_map (enc := D.int) (fun v => [some (netD n), some (.tup (s.map .int)), some (.int v)]) (fun v => .bl true) fun v hv => ⟨by simp [bindT, netD], by simp [den, denL, E.isStar, e0]⟩]
    simp [bools_of]
    rw [lcL_map (enc := D.int) (fun v => [some (netD n), some (.tup (s.map .int)), some (.int v)]) (fun v => .bl true) fun v hv => ⟨by simp [bindT, netD], by rcases h.2 v hv with q | q <;> simp [q, den, denL, E.isStar]⟩]
    simp [bools_of]
structure SideT (T : Tf) : Prop extends NetT T where
  h16 : T 16 = some d_are_sides
  h17 : T 17 = some d_check_sides
theorem s_check_sides (N : SideT T) {n : Net} {s : List Int} (h : sideOk n s) : Ret T 3 17 [netD n, .tup (s.map .int)] .non :=
  .ofN N.h17 rfl rfl fun k cs hk => by
    have e := fun cs => s_are_sides N.h0 N.h16 h k cs hk
    refine ⟨[some (netD n), some (.tup (s.map .int))], ?_⟩
    simp [d_check_sides, denCs, denC, den, denL, E.isStar, e]
/-- the side of a house -/
def sideAt (s : List Int) (i : Int) : Int := s.getD i.toNat 0
theorem at_side {s : List Int} {i : Int} (h1 : 0 ≤ i) (h2 : i < s.length) : L2.atI (s.map D.int) i = some (.int (sideAt s i)) := by
  have h3 : i.toNat < s.length := by omega
  simp only [L2.atI, L2.ixN, List.length_map, h1, if_true, h2, Option.bind_some, List.getElem?_map]
  rw [List.getElem?_eq_getElem h3]
  simp [sideAt, List.getD_eq_getElem?_getD, List.getElem?_eq_getElem h3]
theorem side_pm {n : Net} {s : List Int} (h : sideOk n s) {i : Int} (h1 : 0 ≤ i) (h2 : i < n.m) : sideAt s i = 1 ∨ sideAt s i = -1 := by
  have h3 : i.toNat < s.length := by have := h.1; omega
  refine h.2 _ ?_
  simp only [sideAt, List.getD_eq_getElem?_getD, List.getElem?_eq_getElem h3, Option.getD_some]
  exact List.getElem_mem h3
def kept (s : List Int) (t : Tie) : Bool := decide (sideAt s t.1 * sideAt s t.2.1 = t.2.2)
theorem mul_small (cs : Cs) {i j : Int} (h : i = 1 ∨ i = -1) : binD cs .mul (.int i) (.int j) = some (.int (i * j)) := by
  rcases h with h | h <;> subst h <;> simp [binD, smallI]
theorem s_kept (hT : T 18 = some d_is_kept) {n : Net} (hn : n.Ok) {s : List Int} (h : sideOk n s) {t : Tie} (ht : t ∈ n.ts) : Ret T 1 18 [tieD t, .tup (s.map .int)] (.bl (kept s t)) :=
  .of hT rfl rfl (by simp [lowD]) fun k cs hk => by
    obtain ⟨a, b, c⟩ := t
    obtain ⟨o1, o2, o3, o4⟩ := hn.ok _ ht
    simp only at o1 o2 o3
    have hl := h.1
    have e1 := at_side (s := s) (i := a) o1 (by omega)
    have e2 := at_side (s := s) (i := b) (by omega) (by omega)
    have pm := side_pm h (i := a) o1 (by omega)
    simp [d_is_kept, denCs, denC, den, denL, E.isStar, tieD, tieR, e1, e2, mul_small cs pm, kept]
/-- the places of the broken ties -/
def places (n : Net) (s : List Int) : List (Nat × Tie) := ((List.range n.ts.length).zip n.ts).filter fun p => !kept s p.2
def placesD (n : Net) (s : List Int) : List D := (places n s).map fun p => .int (p.1 : Nat)
def nBroken (n : Net) (s : List Int) : Nat := (n.ts.filter fun t => !kept s t).length
theorem places_len (n : Net) (s : List Int) : (places n s).length = nBroken n s := by
  have e : (places n s).map (·.2) = n.ts.filter fun t => !kept s t := by
    unfold places
    have h : ((List.range n.ts.length).zip n.ts).map (·.2) = n.ts := List.map_snd_zip (by simp)
    conv => rhs; rw [← h]
    rw [List.filter_map]
    rfl
  rw [nBroken, ← e, List.length_map]
structure BrT (T : Tf) : Prop extends SideT T where
  h18 : T 18 = some d_is_kept
  h19 : T 19 = some d_broken_by
  h20 : T 20 = some d_broken
  h24 : T 24 = some d_breaks_by
theorem s_broken_by (N : BrT T) {n : Net} (hn : n.Ok) {s : List Int} (h : sideOk n s) : Ret T 2 19 [netD n, .tup (s.map .int)] (.lst (placesD n s)) :=
  .ofF N.h19 rfl rfl (by simp [placesD]) fun k cs hk => by
    have e0 := fun t ht cs => s_kept (T := T) N.h18 hn h (t := t) ht k cs (by omega)
    refine ⟨cs.length, [(true, .lst (placesD n s))], Nat.le_refl _, by simp, ?_⟩
    simp only [d_broken_by, denCs, denC, den, denL, E.isStar, wipeS, srcD]
    simp [netD]
    have em := enum_map tieD n.ts
    rw [List.length_map] at em
    rw [em, lcL_pure (fun p : Nat × Tie => [some (netD n), some (.tup (s.map .int)), some (.int (p.1 : Nat)), some (tieD p.2)]) (fun p => !kept s p.2) (fun p => .int (p.1 : Nat)) fun p hp => ⟨by simp [bindT, bindTs, netD], by rw [denI]; simp [den, denL, E.isStar, e0 p.2 (List.of_mem_zip hp).2], fun _ => by simp [den]⟩]
    simp [placesD, places]
theorem s_breaks (N : BrT T) {n : Net} (hn : n.Ok) {s : List Int} (h : sideOk n s) : Ret T 3 24 [netD n, .tup (s.map .int)] (.int (nBroken n s)) :=
  .of N.h24 rfl rfl (by simp [lowD]) fun k cs hk => by
    have e := fun cs => s_broken_by N hn h k cs hk
    simp [d_breaks_by, denCs, denC, den, denL, E.isStar, e, placesD, places_len]
theorem s_broken (N : BrT T) {n : Net} (hn : n.Ok) {s : List Int} (h : sideOk n s) : Ret T 6 20 [netD n, .tup (s.map .int)] (.tup (placesD n s)) :=
  .of N.h20 rfl rfl (by simp [lowD, placesD]) fun k cs hk => by
    have e := fun cs => s_broken_by N hn h k cs (by omega)
    have e6 := fun cs => s_check_net N.toNetT hn k cs (by omega)
    have e17 := fun cs => s_check_sides N.toSideT h k cs (by omega)
    simp [d_broken, denCs, denC, den, denL, E.isStar, e, e6, e17]
/-! a house turned -/
def turnedAt (s : List Int) (lot : List Int) : List Int := ((List.range s.length).zip s).map fun p => if ((p.1 : Nat) : Int) ∈ lot then 0 - p.2 else p.2
theorem s_other (hT : T 28 = some d_other_side) (s : List Int) (h : Int) : Ret T 1 28 [.tup (s.map .int), .int h] (.tup ((turnedAt s [h]).map .int)) :=
  .of hT rfl rfl (by simp [lowD]) fun k cs hk => by
    simp only [d_other_side, denCs, denC, den, denL, E.isStar, wipeS, srcD]
    simp
    have em := enum_map D.int s
    rw [List.length_map] at em
    rw [em, lcL_map (fun p : Nat × Int => [some (.tup (s.map .int)), some (.int h), some (.int (p.1 : Nat)), some (.int p.2)]) (fun p => .int (if ((p.1 : Nat) : Int) ∈ [h] then 0 - p.2 else p.2)) fun p hp => ⟨by simp [bindT, bindTs], by by_cases q : (p.1 : Int) = h <;> simp [den, denL, E.isStar, q]⟩]
    simp [turnedAt, Function.comp_def]
theorem s_gone (hT : T 36 = some d_gone_by) (s : List Int) {l : List Int} {d : D} (hl : IsLot l d) : Ret T 1 36 [.tup (s.map .int), d] (.tup ((turnedAt s l).map .int)) :=
  .of hT rfl rfl (by simp [lowD]) fun k cs hk => by
    simp only [d_gone_by, denCs, denC, den, denL, E.isStar, wipeS, srcD]
    simp
    have em := enum_map D.int s
    rw [List.length_map] at em
    rw [em, lcL_map (fun p : Nat × Int => [some (.tup (s.map .int)), some d, some (.int (p.1 : Nat)), some (.int p.2)]) (fun p => .int (if ((p.1 : Nat) : Int) ∈ l then 0 - p.2 else p.2)) fun p hp => ⟨by simp [bindT, bindTs], by by_cases q : ((p.1 : Nat) : Int) ∈ l <;> simp [den, denL, E.isStar, hl.isin, q]⟩]
    simp [turnedAt, Function.comp_def]

/-! pulls -/
def pullStep (s : List Int) (h acc : Int) (t : Tie) : Int := if h = t.1 ∨ h = t.2.1 then acc + t.2.2 * sideAt s (if h = t.1 then t.2.1 else t.1) else acc
def pull (n : Net) (s : List Int) (h : Int) : Int := n.ts.foldl (pullStep s h) 0
theorem s_pull (hT : T 31 = some d_pull_of) {n : Net} (hn : n.Ok) {s : List Int} (hs : sideOk n s) (h : Int) : Ret T 1 31 [netD n, .tup (s.map .int), .int h] (.int (pull n s h)) :=
  .of hT rfl rfl (by simp [lowD]) fun k cs hk => by
    have key := forL_inv (enc := tieD) (t := .tup [.name 4, .name 5, .name 6]) (b := denCs (callF T k) [.ite (.cmp .isin (.var 2) (.tup [(.var 4), (.var 5)])) [.set 3 (.bin .add (.var 3) (.bin .mul (.var 6) (.idx (.var 1) (.ite (.cmp .eq (.var 2) (.var 4)) (.var 5) (.var 4)))))] []])
      (fun (acc : Int) (st : S) => ∃ x1 x2 x3, st = ⟨[some (netD n), some (.tup (s.map .int)), some (.int h), some (.int acc), x1, x2, x3], cs⟩) (pullStep s h) (xs := n.ts) (acc := 0) (s := ⟨[some (netD n), some (.tup (s.map .int)), some (.int h), some (.int 0), none, none, none], cs⟩) ?_ ⟨_, _, _, rfl⟩
    · obtain ⟨s', e, x1, x2, x3, rfl⟩ := key
      refine (cons_nx (s' := ⟨[some (netD n), some (.tup (s.map .int)), some (.int h), some (.int 0), none, none, none], cs⟩) (by simp [denC, den, setS, d_pull_of])).trans ?_
      refine (cons_nx (for_eq (ds := [.tup (n.ts.map tieD)]) (items := n.ts.map tieD) (s1 := ⟨[some (netD n), some (.tup (s.map .int)), some (.int h), some (.int 0), none, none, none], cs⟩) (by simp [den, denL, E.isStar, netD]) rfl e)).trans ?_
      simp [denCs, denC, den, pull]
    · rintro t ht acc st ⟨x1, x2, x3, rfl⟩
      obtain ⟨o1, o2, o3, o4⟩ := hn.ok t ht
      have hl := hs.1
      have e1 := at_side (s := s) (i := t.1) o1 (by omega)
      have e2 := at_side (s := s) (i := t.2.1) (by omega) (by omega)
      refine ⟨[some (netD n), some (.tup (s.map .int)), some (.int h), some (.int acc), some (.int t.1), some (.int t.2.1), some (.int t.2.2)], ⟨[some (netD n), some (.tup (s.map .int)), some (.int h), some (.int (pullStep s h acc t)), some (.int t.1), some (.int t.2.1), some (.int t.2.2)], cs⟩, by simp [bindT, bindTs, tieD, tieR], ?_, _, _, _, rfl⟩
      by_cases q : h = t.1
      · simp [denCs, denC, den, denL, E.isStar, q, e2, mul_small cs o4, setS, pullStep]
      · by_cases q2 : h = t.2.1
        · have q3 : ¬ t.2.1 = t.1 := by omega
          simp [denCs, denC, den, denL, E.isStar, q, q2, q3, e1, mul_small cs o4, setS, pullStep]
        · simp [denCs, denC, den, denL, E.isStar, q, q2, setS, pullStep]
structure GoT (T : Tf) : Prop extends SideT T where
  h31 : T 31 = some d_pull_of
  h32 : T 32 = some d_pulls_of
  h33 : T 33 = some d_check_at
  h34 : T 34 = some d_wanting_of
structure StT (T : Tf) : Prop extends BrT T where
  h31 : T 31 = some d_pull_of
  h32 : T 32 = some d_pulls_of
  h33 : T 33 = some d_check_at
  h34 : T 34 = some d_wanting_of
  h35 : T 35 = some d_wanting
  h40 : T 40 = some d_is_still
theorem g_pulls (N : GoT T) {n : Net} (hn : n.Ok) {s : List Int} (hs : sideOk n s) : Ret T 2 32 [netD n, .tup (s.map .int)] (.lst ((List.range n.m.toNat).map fun i => .int (pull n s (i : Nat)))) :=
  .ofF N.h32 rfl rfl (by simp) fun k cs hk => by
    have e0 := fun h cs => s_pull (T := T) N.h31 hn hs h k cs (by omega)
    have hm := hn.m1
    have hm2 := hn.m10
    refine ⟨cs.length, [(true, .lst ((List.range n.m.toNat).map fun i => .int (pull n s (i : Nat))))], Nat.le_refl _, by simp, ?_⟩
    simp only [d_pulls_of, denCs, denC, den, denL, E.isStar, wipeS, srcD]
    simp [netD, rng_of (j := n.m) (by omega) (by omega), rangeD_0]
    rw [lcL_map (enc := fun i : Nat => D.int (i : Int)) (fun i : Nat => [some (netD n), some (.tup (s.map .int)), some (.int (i : Nat))]) (fun i => .int (pull n s (i : Nat))) fun i hi => ⟨by simp [bindT, netD], by simp [den, denL, E.isStar, e0]⟩]
    simp
def wants (n : Net) (s : List Int) : List Int := ((List.range n.m.toNat).filter fun i => decide (pull n s (i : Nat) * sideAt s (i : Nat) < 0)).map fun i => ((i : Nat) : Int)
theorem mul_smallR (cs : Cs) {i j : Int} (h : j = 1 ∨ j = -1) : binD cs .mul (.int i) (.int j) = some (.int (i * j)) := by
  rcases h with h | h <;> subst h <;> simp [binD, smallI]
theorem g_wants (N : GoT T) {n : Net} (hn : n.Ok) {s : List Int} (hs : sideOk n s) : Ret T 3 34 [netD n, .tup (s.map .int)] (.lst ((wants n s).map .int)) :=
  .ofF N.h34 rfl rfl (by simp) fun k cs hk => by
    have e0 := fun cs => g_pulls N hn hs k cs (by omega)
    have hl := hs.1
    refine ⟨cs.length, [(true, .lst ((wants n s).map .int))], Nat.le_refl _, by simp, ?_⟩
    simp only [d_wanting_of, denCs, denC, den, denL, E.isStar, wipeS, srcD]
    simp [e0]
    have em := enum_map (fun i : Nat => D.int (pull n s (i : Nat))) (List.range n.m.toNat)
    rw [List.length_map, List.length_range] at em
    rw [em, lcL_pure (fun p : Nat × Nat => [some (netD n), some (.tup (s.map .int)), some (.int (p.1 : Nat)), some (.int (pull n s (p.2 : Nat)))]) (fun p => decide (pull n s (p.2 : Nat) * sideAt s (p.1 : Nat) < 0)) (fun p => .int (p.1 : Nat)) fun p hp => ⟨by simp [bindT, bindTs], ?_, fun _ => by simp [den]⟩]
    · have hz : (List.range n.m.toNat).zip (List.range n.m.toNat) = (List.range n.m.toNat).map fun i => (i, i) := by
        rw [List.zip_eq_zipWith]
        exact List.zipWith_self ..
      simp [wants, hz, List.filter_map, Function.comp_def]
    · have h1 := List.mem_range.mp (List.of_mem_zip hp).1
      have e2 := at_side (s := s) (i := ((p.1 : Nat) : Int)) (by omega) (by omega)
      have pm := side_pm hs (i := ((p.1 : Nat) : Int)) (by omega) (by omega)
      rw [denI]
      simp [den, denL, E.isStar, e2, mul_smallR cs pm]
theorem g_check_at (N : GoT T) {n : Net} (hn : n.Ok) {s : List Int} (hs : sideOk n s) : Ret T 6 33 [netD n, .tup (s.map .int)] .non :=
  .ofN N.h33 rfl rfl fun k cs hk => by
    have e6 := fun cs => s_check_net N.toNetT hn k cs (by omega)
    have e17 := fun cs => s_check_sides N.toSideT hs k cs (by omega)
    refine ⟨[some (netD n), some (.tup (s.map .int))], ?_⟩
    simp [d_check_at, denCs, denC, den, denL, E.isStar, e6, e17]
theorem g_wanting (N : GoT T) (h35 : T 35 = some d_wanting) {n : Net} (hn : n.Ok) {s : List Int} (hs : sideOk n s) : Ret T 7 35 [netD n, .tup (s.map .int)] (.tup ((wants n s).map .int)) :=
  .of h35 rfl rfl (by simp [lowD]) fun k cs hk => by
    have e := fun cs => g_wants N hn hs k cs (by omega)
    have e1 := fun cs => g_check_at N hn hs k cs (by omega)
    simp [d_wanting, denCs, denC, den, denL, E.isStar, e, e1]
theorem StT.go (N : StT T) : GoT T := ⟨N.toSideT, N.h31, N.h32, N.h33, N.h34⟩
theorem s_pulls (N : StT T) {n : Net} (hn : n.Ok) {s : List Int} (hs : sideOk n s) : Ret T 2 32 [netD n, .tup (s.map .int)] (.lst ((List.range n.m.toNat).map fun i => .int (pull n s (i : Nat)))) := g_pulls N.go hn hs
theorem s_wants (N : StT T) {n : Net} (hn : n.Ok) {s : List Int} (hs : sideOk n s) : Ret T 3 34 [netD n, .tup (s.map .int)] (.lst ((wants n s).map .int)) := g_wants N.go hn hs
theorem s_check_at (N : StT T) {n : Net} (hn : n.Ok) {s : List Int} (hs : sideOk n s) : Ret T 6 33 [netD n, .tup (s.map .int)] .non := g_check_at N.go hn hs
theorem s_wanting (N : StT T) {n : Net} (hn : n.Ok) {s : List Int} (hs : sideOk n s) : Ret T 7 35 [netD n, .tup (s.map .int)] (.tup ((wants n s).map .int)) := g_wanting N.go N.h35 hn hs
theorem g_still (N : GoT T) (h40 : T 40 = some d_is_still) {n : Net} (hn : n.Ok) {s : List Int} (hs : sideOk n s) : Ret T 7 40 [netD n, .tup (s.map .int)] (.bl (decide (wants n s = []))) :=
  .of h40 rfl rfl (by simp [lowD]) fun k cs hk => by
    have e := fun cs => g_wants N hn hs k cs (by omega)
    have e1 := fun cs => g_check_at N hn hs k cs (by omega)
    simp [d_is_still, denCs, denC, den, denL, E.isStar, e, e1]
theorem s_still (N : StT T) {n : Net} (hn : n.Ok) {s : List Int} (hs : sideOk n s) : Ret T 7 40 [netD n, .tup (s.map .int)] (.bl (decide (wants n s = []))) := g_still N.go N.h40 hn hs

/-! company -/
def weak (n : Net) (l : List Int) : List Int := l.filter fun h => decide ((likes n h l : Int) < (feuds n h l : Int))
def goOn (n : Net) (l : List Int) : Bool := !decide (weak n l = [])
def rest (n : Net) (l : List Int) : List Int := l.filter fun h => !decide (h ∈ weak n l)
def companyL (n : Net) (l : List Int) : List Int := iter (goOn n) (rest n) l.length l
theorem rest_lt (n : Net) (l : List Int) (h : goOn n l = true) : (rest n l).length < l.length := by
  unfold goOn at h
  simp only [Bool.not_eq_true', decide_eq_false_iff_not] at h
  obtain ⟨a, ha⟩ := List.exists_mem_of_ne_nil _ h
  exact filter_lt _ (List.mem_filter.mp ha).1 (by simp [ha])
structure CoT (T : Tf) : Prop extends LotT T where
  h10 : T 10 = some d_likings_to
  h11 : T 11 = some d_feuds_to
  h15 : T 15 = some d_company
theorem s_company (N : CoT T) {n : Net} (hn : n.Ok) {l : List Int} (hl : lotOk n.m l) (hz : l.length < 1000) : Ret T 6 15 [netD n, .tup (l.map .int)] (.tup ((companyL n l).map .int)) :=
  .of N.h15 rfl rfl (by simp [lowD]) fun k cs hk => by
    have e6 := fun cs => s_check_net N.toNetT hn k cs (by omega)
    have e8 := fun cs => s_check_lot N.toLotT hl k cs (by omega)
    have eL := fun h l cs => s_likes (T := T) N.h10 n h (IsLot.tup (l := l)) k cs (by omega)
    have eF := fun h l cs => s_feuds (T := T) N.h11 n h (IsLot.tup (l := l)) k cs (by omega)
    have eW : ∀ (l : List Int) x2 x3, denC (callF T k) (.set 2 (.lc (.var 3) (.name 3) .seq [(.var 1)] [(.cmp .gt (.call 11 [(.var 0), (.var 3), (.var 1)]) (.call 10 [(.var 0), (.var 3), (.var 1)]))] [3])) ⟨[some (netD n), some (.tup (l.map .int)), x2, x3], cs⟩ = .nx ⟨[some (netD n), some (.tup (l.map .int)), some (.lst ((weak n l).map .int)), x3], cs⟩ := by
      intro l x2 x3
      simp [denC, den, denL, E.isStar, wipeS, srcD]
      rw [lcL_pure (enc := D.int) (fun h => [some (netD n), some (.tup (l.map .int)), x2, some (.int h)]) (fun h => decide ((likes n h l : Int) < (feuds n h l : Int))) (fun h => .int h) fun h hh => ⟨by simp [bindT], by rw [denI]; simp [den, denL, E.isStar, eL, eF], fun _ => by simp [den]⟩]
      simp [setS, weak]
    have key := whlL_iter (c := den (callF T k) (.cmp .ne (.var 2) (.lst []))) (b := denCs (callF T k) [.set 1 (.bi .tuple [(.lc (.var 3) (.name 3) .seq [(.var 1)] [(.cmp .notin (.var 3) (.var 2))] [3])]), .set 2 (.lc (.var 3) (.name 3) .seq [(.var 1)] [(.cmp .gt (.call 11 [(.var 0), (.var 3), (.var 1)]) (.call 10 [(.var 0), (.var 3), (.var 1)]))] [3])])
      (fun (l : List Int) (st : S) => ∃ x3, st = ⟨[some (netD n), some (.tup (l.map .int)), some (.lst ((weak n l).map .int)), x3], cs⟩) (goOn n) (rest n) ?_ ?_ l.length l ⟨[some (netD n), some (.tup (l.map .int)), some (.lst ((weak n l).map .int)), none], cs⟩ ⟨_, rfl⟩ (iter_done List.length (rest_lt n) l.length l (Nat.le_refl _)) fuel (by unfold fuel; omega)
    · obtain ⟨s', e, x3, rfl⟩ := key
      refine (cons_nx (s' := ⟨[some (netD n), some (.tup (l.map .int)), none, none], cs⟩) (by simp [denC, den, denL, E.isStar, e6, d_company])).trans ?_
      refine (cons_nx (s' := ⟨[some (netD n), some (.tup (l.map .int)), none, none], cs⟩) (by simp [denC, den, denL, E.isStar, e8])).trans ?_
      refine (cons_nx (eW l none none)).trans ?_
      refine (cons_nx (whl_eq e)).trans ?_
      simp [denCs, denC, den, companyL]
    · rintro l st ⟨x3, rfl⟩
      simp [den, denL, goOn]
    · rintro l st ⟨x3, rfl⟩ hm
      refine ⟨⟨[some (netD n), some (.tup ((rest n l).map .int)), some (.lst ((weak n (rest n l)).map .int)), x3], cs⟩, ?_, _, rfl⟩
      refine (cons_nx (s' := ⟨[some (netD n), some (.tup ((rest n l).map .int)), some (.lst ((weak n l).map .int)), x3], cs⟩) ?_).trans ?_
      · simp [denC, den, denL, E.isStar, wipeS, srcD]
        rw [lcL_pure (enc := D.int) (fun h => [some (netD n), some (.tup (l.map .int)), some (.lst ((weak n l).map .int)), some (.int h)]) (fun h => !decide (h ∈ weak n l)) (fun h => .int h) fun h hh => ⟨by simp [bindT], by rw [denI]; simp [den], fun _ => by simp [den]⟩]
        simp [setS, rest]
      · refine (cons_nx (eW (rest n l) _ x3)).trans ?_
        simp [denCs]

/-! all rows of so many sides -/
def rowsN : Nat → List (List Int)
  | 0 => [[]]
  | k + 1 => (rowsN k).flatMap fun r => [r ++ [-1], r ++ [1]]
theorem rowsN_len : ∀ (k : Nat), ∀ r ∈ rowsN k, r.length = k
  | 0, r, h => by
    rw [rowsN, List.mem_singleton] at h
    rw [h]; rfl
  | k + 1, r, h => by
    rw [rowsN, List.mem_flatMap] at h
    obtain ⟨q, hq, h⟩ := h
    have := rowsN_len k q hq
    rcases List.mem_cons.mp h with h | h
    · rw [h]; simp [this]
    · rw [List.mem_singleton.mp h]; simp [this]
theorem rowsN_count : ∀ k : Nat, (rowsN k).length = 2 ^ k
  | 0 => rfl
  | k + 1 => by
    rw [rowsN, List.length_flatMap]
    have e : ((rowsN k).map fun r => [r ++ [(-1 : Int)], r ++ [1]].length) = (rowsN k).map fun _ => 2 := by simp
    rw [e, List.map_const', List.sum_replicate_nat, rowsN_count k, Nat.pow_succ]
theorem rowsN_mem : ∀ {k : Nat} {r : List Int}, r ∈ rowsN k ↔ r.length = k ∧ ∀ v ∈ r, v = 1 ∨ v = -1
  | 0, r => by
    rw [rowsN, List.mem_singleton]
    constructor
    · intro h
      subst h
      simp
    · intro h
      exact List.length_eq_zero_iff.mp h.1
  | k + 1, r => by
    rw [rowsN, List.mem_flatMap]
    constructor
    · rintro ⟨q, hq, h⟩
      obtain ⟨h1, h2⟩ := rowsN_mem.mp hq
      rcases List.mem_cons.mp h with h | h
      · subst h
        refine ⟨by simp [h1], fun v hv => ?_⟩
        rcases List.mem_append.mp hv with hv | hv
        · exact h2 v hv
        · exact .inr (List.mem_singleton.mp hv)
      · rw [List.mem_singleton] at h
        subst h
        refine ⟨by simp [h1], fun v hv => ?_⟩
        rcases List.mem_append.mp hv with hv | hv
        · exact h2 v hv
        · exact .inl (List.mem_singleton.mp hv)
    · rintro ⟨h1, h2⟩
      have hne : r ≠ [] := by
        intro e
        rw [e] at h1
        cases h1
      have e := List.dropLast_concat_getLast hne
      refine ⟨r.dropLast, rowsN_mem.mpr ⟨by rw [List.length_dropLast, h1]; rfl, fun v hv => h2 v (List.dropLast_subset _ hv)⟩, ?_⟩
      rcases h2 _ (List.getLast_mem hne) with q | q
      · rw [q] at e
        rw [← e]
        simp
      · rw [q] at e
        rw [← e]
        simp

def rwD (r : List Int) : D := .tup (r.map .int)
def lapB : List C := [.set 3 (.cel (.lst [])), .for (.name 4) .seq [(.frz (.var 1))] [.exp (.meth .extend (.var 3) [(.lst [(.tup [(.star (.var 4)), (.neg (.kint 1))]), (.tup [(.star (.var 4)), (.kint 1)])])])], .set 1 (.var 3)]
theorem lows_rw (n : Nat) (rs : List (List Int)) : lowDs n (rs.map rwD) = true := by
  rw [lows_iff]
  intro d hd
  obtain ⟨r, _, rfl⟩ := List.mem_map.mp hd
  simp [rwD, lowD]
/-- the inner loop: one row after another goes twice into the new list -/
theorem lap_inner {G : Gf} {m : Int} {x1 x2 : Option D} {n : Nat} : ∀ (rs done : List (List Int)) (x4 : Option D) (cs : Cs), (∀ r ∈ rs, r.length ≤ 100) → done.length + 2 * rs.length ≤ 100000 → cs[n]? = some (true, .lst (done.map rwD)) →
    ∃ x4', forL (.name 4) (denCs G [.exp (.meth .extend (.var 3) [(.lst [(.tup [(.star (.var 4)), (.neg (.kint 1))]), (.tup [(.star (.var 4)), (.kint 1)])])])]) (rs.map rwD) ⟨[some (.int m), x1, x2, some (.cell n), x4], cs⟩ =
      .nx ⟨[some (.int m), x1, x2, some (.cell n), x4'], cs.set n (true, .lst ((done ++ rs.flatMap fun r => [r ++ [-1], r ++ [1]]).map rwD))⟩
  | [], done, x4, cs, _, _, hn => by
    refine ⟨x4, ?_⟩
    have e : cs.set n (true, D.lst (done.map rwD)) = cs := by
      apply List.ext_getElem?
      intro i
      by_cases q : n = i
      · subst q
        rw [List.getElem?_set_self (List.getElem?_eq_some_iff.mp hn).1, hn]
      · rw [List.getElem?_set_ne q]
    simp [forL, e]
  | r :: rs, done, x4, cs, h1, h2, hn => by
    have hr := h1 r List.mem_cons_self
    have hlt := (List.getElem?_eq_some_iff.mp hn).1
    have step : denCs G [.exp (.meth .extend (.var 3) [(.lst [(.tup [(.star (.var 4)), (.neg (.kint 1))]), (.tup [(.star (.var 4)), (.kint 1)])])])] ⟨[some (.int m), x1, x2, some (.cell n), some (rwD r)], cs⟩ =
        .nx ⟨[some (.int m), x1, x2, some (.cell n), some (rwD r)], cs.set n (true, .lst ((done ++ [r ++ [-1], r ++ [1]]).map rwD))⟩ := by
      have l1 : r.length + 1 ≤ 16777216 := by omega
      have l2 : done.length + 2 ≤ 16777216 := by simp at h2; omega
      simp [denCs, denC, den, denL, E.isStar, rwD, seqC, deref, seqD, methD, hn, l1, l2, lowD, lowDs]
      have e1 : lowDs n (r.map D.int ++ [D.int (-1)]) = true := lows_app (lows_ints n r) (by simp [lowDs, lowD])
      have e2 : lowDs n (r.map D.int ++ [D.int 1]) = true := lows_app (lows_ints n r) (by simp [lowDs, lowD])
      simp [e1, e2]
    obtain ⟨x4', e⟩ := lap_inner rs (done ++ [r ++ [-1], r ++ [1]]) (some (rwD r)) (cs.set n (true, .lst ((done ++ [r ++ [-1], r ++ [1]]).map rwD))) (fun q hq => h1 q (List.mem_cons_of_mem _ hq)) (by simp at h2 ⊢; omega) (List.getElem?_set_self hlt)
    refine ⟨x4', ?_⟩
    have hb : bindT (.name 4) (rwD r) [some (.int m), x1, x2, some (.cell n), x4] = some [some (.int m), x1, x2, some (.cell n), some (rwD r)] := by simp [bindT]
    rw [List.map_cons, forL]
    simp only [hb, step]
    rw [List.set_set] at e
    rw [e]
    simp [List.flatMap_cons, List.append_assoc]
/-- how the laps go on -/
theorem laps {G : Gf} {m : Int} : ∀ (is : List Nat) (k : Nat) (st : S) (cs : Cs), k + is.length ≤ 10 → (∃ n own x2 x3 x4, st = ⟨[some (.int m), some (.cell n), x2, x3, x4], cs ++ own⟩ ∧ cs.length ≤ n ∧ (cs ++ own)[n]? = some (true, .lst ((rowsN k).map rwD))) →
    ∃ n own x2 x3 x4, forL (.name 2) (denCs G lapB) (is.map fun i => .int (i : Nat)) st = .nx ⟨[some (.int m), some (.cell n), x2, x3, x4], cs ++ own⟩ ∧ cs.length ≤ n ∧ (cs ++ own)[n]? = some (true, .lst ((rowsN (k + is.length)).map rwD))
  | [], k, st, cs, _, ⟨n, own, x2, x3, x4, e, h1, h2⟩ => ⟨n, own, x2, x3, x4, by simp [forL, e], h1, h2⟩
  | i :: is, k, st, cs, hk, ⟨n, own, x2, x3, x4, e, h1, h2⟩ => by
    subst e
    have hn := (List.getElem?_eq_some_iff.mp h2).1
    have hcount := rowsN_count k
    have hk10 : k ≤ 10 := by simp at hk; omega
    have hpow : 2 ^ k ≤ 2 ^ 10 := Nat.pow_le_pow_right (by decide) hk10
    -- the new list, the old one frozen
    let cs1 := (cs ++ own ++ [(true, D.lst [])]).set n (false, .lst ((rowsN k).map rwD))
    have hlen1 : (cs ++ own ++ [(true, D.lst [])]).length = (cs ++ own).length + 1 := by simp [Nat.add_assoc]
    have hq : cs1[(cs ++ own).length]? = some (true, .lst (([] : List (List Int)).map rwD)) := by
      show ((cs ++ own ++ [(true, D.lst [])]).set n _)[(cs ++ own).length]? = _
      rw [List.getElem?_set_ne (by omega), List.getElem?_append_right (Nat.le_refl _)]
      simp
    obtain ⟨x4', e⟩ := lap_inner (G := G) (m := m) (x1 := some (.cell n)) (x2 := some (.int (i : Nat))) (n := (cs ++ own).length) (rowsN k) [] x4 cs1 (fun r hr => by rw [rowsN_len k r hr]; omega) (by simp; omega) hq
    let cs2 := cs1.set (cs ++ own).length (true, D.lst (([] ++ (rowsN k).flatMap fun r => [r ++ [-1], r ++ [1]]).map rwD))
    have hc2 : cs2 = cs ++ cs2.drop cs.length := by
      have ht : cs2.take cs.length = cs := by
        show (List.set (List.set (cs ++ own ++ [(true, D.lst [])]) n _) (cs ++ own).length _).take cs.length = cs
        rw [List.take_set_of_le (by simp), List.take_set_of_le h1, List.append_assoc, List.take_left]
      conv => lhs; rw [← List.take_append_drop cs.length cs2, ht]
    have hlast : cs2[(cs ++ own).length]? = some (true, .lst ((rowsN (k + 1)).map rwD)) := by
      show (List.set cs1 _ _)[_]? = _
      rw [List.getElem?_set_self (by show _ < (List.set _ _ _).length; rw [List.length_set, hlen1]; omega)]
      rfl
    have body : denCs G lapB ⟨[some (.int m), some (.cell n), some (.int (i : Nat)), x3, x4], cs ++ own⟩ = .nx ⟨[some (.int m), some (.cell (cs ++ own).length), some (.int (i : Nat)), some (.cell (cs ++ own).length), x4'], cs2⟩ := by
      refine (cons_nx (s' := ⟨[some (.int m), some (.cell n), some (.int (i : Nat)), some (.cell (cs ++ own).length), x4], cs ++ own ++ [(true, .lst [])]⟩) (by simp [denC, den, denL, setS, lowDs])).trans ?_
      refine (cons_nx (for_eq (ds := [.lst ((rowsN k).map rwD)]) (items := (rowsN k).map rwD) (s1 := ⟨[some (.int m), some (.cell n), some (.int (i : Nat)), some (.cell (cs ++ own).length), x4], cs1⟩) ?_ rfl e)).trans ?_
      · have h3 : (cs ++ own ++ [(true, D.lst [])])[n]? = some (true, .lst ((rowsN k).map rwD)) := by rw [List.getElem?_append_left hn]; exact h2
        simp only [denL, den, List.getElem?_cons_succ, List.getElem?_cons_zero, R.bind_ok, h3, E.isStar, Bool.false_eq_true, if_false]
        rfl
      · simp [denCs, denC, den, setS, cs2]
    have ih := laps (G := G) (m := m) is (k + 1) ⟨[some (.int m), some (.cell (cs ++ own).length), some (.int (i : Nat)), some (.cell (cs ++ own).length), x4'], cs2⟩ cs (by simp at hk ⊢; omega) ⟨(cs ++ own).length, cs2.drop cs.length, _, _, _, by rw [← hc2], by simp, by rw [← hc2]; exact hlast⟩
    obtain ⟨n', own', y2, y3, y4, e', h1', h2'⟩ := ih
    refine ⟨n', own', y2, y3, y4, ?_, h1', ?_⟩
    · rw [List.map_cons, forL]
      have hb : bindT (.name 2) (D.int (i : Nat)) [some (.int m), some (.cell n), x2, x3, x4] = some [some (.int m), some (.cell n), some (.int (i : Nat)), x3, x4] := by simp [bindT]
      simp only [hb, body]
      exact e'
    · rw [h2']
      have : k + 1 + is.length = k + (i :: is).length := by simp; omega
      rw [this]

theorem rows_body {T : Tf} {d f : Nat} {df : Df} (hT : T f = some df) (hdf : df = ⟨1, 5, true, [.set 1 (.cel (.lst [(.tup [])])), .for (.name 2) .rng1 [(.var 0)] lapB, .ret (.var 1)]⟩) {m : Int} (h0 : 0 ≤ m) (h1 : m ≤ 10) : Ret T (d + 1) f [.int m] (.lst ((rowsN m.toNat).map rwD)) :=
  .ofF hT (by rw [hdf]; rfl) (by rw [hdf]) (lows_rw 0 _) fun k cs hk => by
    subst hdf
    obtain ⟨n, own, x2, x3, x4, e, h2, h3⟩ := laps (G := callF T k) (m := m) (List.range m.toNat) 0 ⟨[some (.int m), some (.cell cs.length), none, none, none], cs ++ [(true, .lst ((rowsN 0).map rwD))]⟩ cs (by simp; omega) ⟨cs.length, _, _, _, _, rfl, Nat.le_refl _, by simp⟩
    simp only [List.length_range, Nat.zero_add] at h3
    refine ⟨n, own, h2, h3, ?_⟩
    refine (cons_nx (s' := ⟨[some (.int m), some (.cell cs.length), none, none, none], cs ++ [(true, .lst ((rowsN 0).map rwD))]⟩) (by simp [denC, den, denL, E.isStar, setS, lowDs, lowD, rowsN, rwD])).trans ?_
    refine (cons_nx (for_eq (ds := [.int m]) (items := rangeD 0 m) (s1 := ⟨[some (.int m), some (.cell cs.length), none, none, none], cs ++ [(true, .lst ((rowsN 0).map rwD))]⟩) (by simp [den, denL, E.isStar]) (by simp [srcD, rng_of h0 (by omega)]) (by rw [rangeD_0]; exact e))).trans ?_
    simp [denCs, denC, den]
theorem s_every (hT : T 23 = some d_every_sides) {m : Int} (h0 : 0 ≤ m) (h1 : m ≤ 10) : Ret T 1 23 [.int m] (.lst ((rowsN m.toNat).map rwD)) := rows_body hT rfl h0 h1
theorem s_rows_of (hT : T 39 = some d_rows_of) {m : Int} (h0 : 0 ≤ m) (h1 : m ≤ 10) : Ret T 1 39 [.int m] (.lst ((rowsN m.toNat).map rwD)) := rows_body hT rfl h0 h1
theorem row_side {n : Net} (hn : n.Ok) {r : List Int} (h : r ∈ rowsN n.m.toNat) : sideOk n r := by
  obtain ⟨h1, h2⟩ := rowsN_mem.mp h
  have := hn.m1
  exact ⟨by rw [h1]; omega, h2⟩
structure AllT (T : Tf) : Prop extends StT T where
  h39 : T 39 = some d_rows_of
  h41 : T 41 = some d_still_of
  h42 : T 42 = some d_all_still
def stillRows (n : Net) : List (List Int) := (rowsN n.m.toNat).filter fun r => decide (wants n r = [])
theorem s_still_of (N : AllT T) {n : Net} (hn : n.Ok) : Ret T 4 41 [netD n] (.lst ((stillRows n).map rwD)) :=
  .ofF N.h41 rfl rfl (lows_rw 0 _) fun k cs hk => by
    have m1 := hn.m1
    have m2 := hn.m10
    have e0 := fun cs => s_rows_of (T := T) N.h39 (m := n.m) (by omega) (by omega) k cs (by omega)
    have e1 := fun r hr cs => s_wants N.toStT hn (row_side hn (r := r) hr) k cs (by omega)
    refine ⟨cs.length, [(true, .lst ((stillRows n).map rwD))], Nat.le_refl _, by simp, ?_⟩
    simp only [d_still_of, denCs, denC, den, denL, E.isStar, wipeS, srcD]
    simp [netD, e0]
    rw [lcL_pure (enc := rwD) (fun r => [some (netD n), some (rwD r)]) (fun r => decide (wants n r = [])) rwD fun r hr => ⟨by simp [bindT, netD], by rw [denI]; simp [den, denL, E.isStar, rwD, e1 r hr], fun _ => by simp [den]⟩]
    simp [stillRows, lows_rw]
theorem s_all_still (N : AllT T) {n : Net} (hn : n.Ok) : Ret T 6 42 [netD n] (.tup ((stillRows n).map rwD)) :=
  .of N.h42 rfl rfl (by rw [lowD]; exact lows_rw 0 _) fun k cs hk => by
    have e0 := fun cs => s_still_of N hn k cs (by omega)
    have e6 := fun cs => s_check_net N.toNetT hn k cs (by omega)
    simp [d_all_still, denCs, denC, den, denL, E.isStar, e0, e6]

/-! a better house -/
theorem turned_len (s l : List Int) : (turnedAt s l).length = s.length := by simp [turnedAt]
theorem turned_ok {n : Net} {s : List Int} (h : sideOk n s) (l : List Int) : sideOk n (turnedAt s l) := by
  refine ⟨by rw [turned_len]; exact h.1, fun v hv => ?_⟩
  obtain ⟨p, hp, rfl⟩ := List.mem_map.mp hv
  have := h.2 _ (List.of_mem_zip hp).2
  split <;> omega
def better (n : Net) (s : List Int) : Option Nat := (List.range n.m.toNat).find? fun i : Nat => decide ((nBroken n (turnedAt s [(i : Int)]) : Int) < (nBroken n s : Int))
def optI : Option Nat → D
  | none => .non
  | some i => .int (i : Nat)
structure CaT (T : Tf) : Prop extends BrT T where
  h28 : T 28 = some d_other_side
  h29 : T 29 = some d_better_of
  h30 : T 30 = some d_calmed
theorem s_better (N : CaT T) {n : Net} (hn : n.Ok) {s : List Int} (hs : sideOk n s) : Ret T 4 29 [netD n, .tup (s.map .int)] (optI (better n s)) :=
  .of N.h29 rfl rfl (by cases better n s <;> simp [optI, lowD]) fun k cs hk => by
    have m1 := hn.m1
    have m2 := hn.m10
    have e0 := fun s (hs : sideOk n s) cs => s_breaks N.toBrT hn hs k cs (by omega)
    have e1 := fun h cs => s_other (T := T) N.h28 s h k cs (by omega)
    have key := forL_find (enc := fun i : Nat => D.int (i : Int)) (t := .name 3) (b := denCs (callF T k) [.ite (.cmp .lt (.call 24 [(.var 0), (.call 28 [(.var 1), (.var 3)])]) (.var 2)) [.ret (.var 3)] []])
      (fun st => ∃ x, st = ⟨[some (netD n), some (.tup (s.map .int)), some (.int (nBroken n s)), x], cs⟩) (fun i : Nat => decide ((nBroken n (turnedAt s [(i : Int)]) : Int) < (nBroken n s : Int))) (fun i => .int (i : Nat)) cs (xs := List.range n.m.toNat) (s := ⟨[some (netD n), some (.tup (s.map .int)), some (.int (nBroken n s)), none], cs⟩) ?_ ⟨none, rfl⟩
    · refine (cons_nx (s' := ⟨[some (netD n), some (.tup (s.map .int)), some (.int (nBroken n s)), none], cs⟩) (by simp [denC, den, denL, E.isStar, setS, e0 s hs, d_better_of])).trans ?_
      have hf : ∀ r, forL (.name 3) (denCs (callF T k) [.ite (.cmp .lt (.call 24 [(.var 0), (.call 28 [(.var 1), (.var 3)])]) (.var 2)) [.ret (.var 3)] []]) ((List.range n.m.toNat).map fun i : Nat => D.int (i : Int)) ⟨[some (netD n), some (.tup (s.map .int)), some (.int (nBroken n s)), none], cs⟩ = r →
          denC (callF T k) (.for (.name 3) .rng1 [(.idx (.var 0) (.kint 0))] [.ite (.cmp .lt (.call 24 [(.var 0), (.call 28 [(.var 1), (.var 3)])]) (.var 2)) [.ret (.var 3)] []]) ⟨[some (netD n), some (.tup (s.map .int)), some (.int (nBroken n s)), none], cs⟩ = r := fun r hr =>
        for_eq (ds := [.int n.m]) (items := rangeD 0 n.m) (s1 := ⟨[some (netD n), some (.tup (s.map .int)), some (.int (nBroken n s)), none], cs⟩) (by simp [den, denL, E.isStar, netD]) (by simp [srcD, rng_of (j := n.m) (by omega) (by omega)]) (by rw [rangeD_0]; exact hr)
      unfold better
      cases hb : (List.range n.m.toNat).find? fun i : Nat => decide ((nBroken n (turnedAt s [(i : Int)]) : Int) < (nBroken n s : Int)) with
      | some i =>
        rw [hb] at key
        exact cons_rt (hf _ key)
      | none =>
        rw [hb] at key
        obtain ⟨s', e, x, rfl⟩ := key
        refine (cons_nx (hf _ e)).trans ?_
        simp [denCs, denC, den, optI]
    · rintro i hi st ⟨x, rfl⟩
      refine ⟨[some (netD n), some (.tup (s.map .int)), some (.int (nBroken n s)), some (.int (i : Nat))], by simp [bindT], fun q => ?_, fun q => ⟨⟨[some (netD n), some (.tup (s.map .int)), some (.int (nBroken n s)), some (.int (i : Nat))], cs⟩, ?_, _, rfl⟩⟩
      · have q := of_decide_eq_true q
        simp [denCs, denC, den, denL, E.isStar, e1, e0 _ (turned_ok hs [(i : Int)]), q]
      · have q := of_decide_eq_false q
        simp [denCs, denC, den, denL, E.isStar, e1, e0 _ (turned_ok hs [(i : Int)]), q]
def calmStep (n : Net) (s : List Int) : List Int := match better n s with
  | some i => turnedAt s [(i : Int)]
  | none => s
def calm (n : Net) (s : List Int) : List Int := iter (fun s => (better n s).isSome) (calmStep n) (nBroken n s) s
theorem calm_lt (n : Net) (s : List Int) (h : (better n s).isSome = true) : nBroken n (calmStep n s) < nBroken n s := by
  unfold calmStep
  cases q : better n s with
  | none => rw [q] at h; cases h
  | some i =>
    have := List.find?_some q
    have := of_decide_eq_true this
    simp only
    omega

theorem calm_step_ok {n : Net} {s : List Int} (h : sideOk n s) : sideOk n (calmStep n s) := by
  unfold calmStep
  split
  · exact turned_ok h _
  · exact h
theorem s_calmed (N : CaT T) {n : Net} (hn : n.Ok) {s : List Int} (hs : sideOk n s) (hz : n.ts.length < 1000) : Ret T 6 30 [netD n, .tup (s.map .int)] (.tup ((calm n s).map .int)) :=
  .of N.h30 rfl rfl (by simp [lowD]) fun k cs hk => by
    have e6 := fun cs => s_check_net N.toNetT hn k cs (by omega)
    have e17 := fun cs => s_check_sides N.toSideT hs k cs (by omega)
    have e0 := fun s (hs : sideOk n s) cs => s_better N hn hs k cs (by omega)
    have e1 := fun s h cs => s_other (T := T) N.h28 s h k cs (by omega)
    have hb : nBroken n s ≤ n.ts.length := List.length_filter_le _ _
    have key := whlL_iter (c := den (callF T k) (.nisn (.var 2))) (b := denCs (callF T k) [.set 1 (.call 28 [(.var 1), (.var 2)]), .set 2 (.call 29 [(.var 0), (.var 1)])])
      (fun (s : List Int) (st : S) => sideOk n s ∧ st = ⟨[some (netD n), some (.tup (s.map .int)), some (optI (better n s))], cs⟩) (fun s => (better n s).isSome) (calmStep n) ?_ ?_ (nBroken n s) s ⟨[some (netD n), some (.tup (s.map .int)), some (optI (better n s))], cs⟩ ⟨hs, rfl⟩ (iter_done (nBroken n) (calm_lt n) (nBroken n s) s (Nat.le_refl _)) fuel (by unfold fuel; omega)
    · obtain ⟨s', e, _, rfl⟩ := key
      refine (cons_nx (s' := ⟨[some (netD n), some (.tup (s.map .int)), none], cs⟩) (by simp [denC, den, denL, E.isStar, e6, d_calmed])).trans ?_
      refine (cons_nx (s' := ⟨[some (netD n), some (.tup (s.map .int)), none], cs⟩) (by simp [denC, den, denL, E.isStar, e17])).trans ?_
      refine (cons_nx (s' := ⟨[some (netD n), some (.tup (s.map .int)), some (optI (better n s))], cs⟩) (by simp [denC, den, denL, E.isStar, e0 s hs, setS])).trans ?_
      refine (cons_nx (whl_eq e)).trans ?_
      simp [denCs, denC, den, calm]
    · rintro s st ⟨hs, rfl⟩
      cases q : better n s <;> simp [den, optI]
    · rintro s st ⟨hs, rfl⟩ hm
      have hs' := calm_step_ok hs
      refine ⟨⟨[some (netD n), some (.tup ((calmStep n s).map .int)), some (optI (better n (calmStep n s)))], cs⟩, ?_, hs', rfl⟩
      cases q : better n s with
      | none => rw [q] at hm; cases hm
      | some i =>
        have ec : calmStep n s = turnedAt s [(i : Int)] := by unfold calmStep; rw [q]
        rw [ec] at hs' ⊢
        refine (cons_nx (s' := ⟨[some (netD n), some (.tup ((turnedAt s [(i : Int)]).map .int)), some (optI (some i))], cs⟩) (by simp [denC, den, denL, E.isStar, optI, e1, setS])).trans ?_
        refine (cons_nx (s' := ⟨[some (netD n), some (.tup ((turnedAt s [(i : Int)]).map .int)), some (optI (better n (turnedAt s [(i : Int)])))], cs⟩) (by simp [denC, den, denL, E.isStar, e0 _ hs', setS])).trans ?_
        simp [denCs]
/-! rested: the wanting houses turned, the first first -/
theorem wants_range {n : Net} {s : List Int} {h : Int} (hh : h ∈ wants n s) : 0 ≤ h ∧ h < n.m := by
  unfold wants at hh
  obtain ⟨i, hi, rfl⟩ := List.mem_map.mp hh
  have := List.mem_range.mp (List.mem_filter.mp hi).1
  omega
end Ev

set_option Elab.async false
set_option linter.all false
set_option maxRecDepth 100000
set_option maxHeartbeats 1000000
set_option autoImplicit false
namespace Ev
open PySem Dd
variable {T : Tf}
theorem side_turned {s : List Int} (l : List Int) {i : Int} (h1 : 0 ≤ i) (h2 : i < s.length) : sideAt (turnedAt s l) i = if i ∈ l then - sideAt s i else sideAt s i := by
  have h3 : i.toNat < s.length := by omega
  have h4 : ((i.toNat : Nat) : Int) = i := by omega
  have e : ((List.range s.length).zip s)[i.toNat]? = some (i.toNat, s[i.toNat]) := List.getElem?_zip_eq_some.mpr ⟨by rw [List.getElem?_range h3], List.getElem?_eq_getElem h3⟩
  unfold sideAt turnedAt
  rw [List.getD_eq_getElem?_getD, List.getD_eq_getElem?_getD, List.getElem?_map, e]
  simp only [Option.map_some, Option.getD_some, h4, List.getElem?_eq_getElem h3]
  split <;> omega
def term (s : List Int) (h : Int) (t : Tie) : Int := if h = t.1 ∨ h = t.2.1 then t.2.2 * sideAt s (if h = t.1 then t.2.1 else t.1) else 0
theorem pull_sum (s : List Int) (h : Int) : ∀ (ts : List Tie) (acc : Int), ts.foldl (pullStep s h) acc = acc + (ts.map (term s h)).sum
  | [], acc => by simp
  | t :: ts, acc => by
    rw [List.foldl_cons, pull_sum s h ts, List.map_cons, List.sum_cons]
    unfold pullStep term
    split <;> omega
def b2i (b : Bool) : Int := if b then 1 else 0
theorem broken_sum (s : List Int) : ∀ ts : List Tie, ((ts.filter fun t => !kept s t).length : Int) = (ts.map fun t => b2i (!kept s t)).sum
  | [] => rfl
  | t :: ts => by
    rw [List.filter_cons, List.map_cons, List.sum_cons, ← broken_sum s ts]
    cases kept s t <;> simp [b2i] <;> omega
theorem kept_turn {n : Net} {s : List Int} (hs : sideOk n s) {t : Tie} (ht : tieOk n.m t) {h : Int} (h0 : 0 ≤ h) (h1 : h < n.m) : b2i (!kept (turnedAt s [h]) t) = b2i (!kept s t) + term s h t * sideAt s h := by
  obtain ⟨a, b, c⟩ := t
  obtain ⟨o1, o2, o3, o4⟩ := ht
  simp only at o1 o2 o3 o4
  have hl := hs.1
  have ea := side_turned [h] (s := s) (i := a) o1 (by omega)
  have eb := side_turned [h] (s := s) (i := b) (by omega) (by omega)
  have pa := side_pm hs (i := a) o1 (by omega)
  have pb := side_pm hs (i := b) (by omega) (by omega)
  simp only [kept, term, ea, eb, List.mem_singleton]
  by_cases q : h = a
  · subst q
    have q2 : ¬ b = h := by omega
    simp only [q2, if_false, if_true, true_or]
    rcases pa with pa | pa <;> rcases pb with pb | pb <;> rcases o4 with o4 | o4 <;> simp [pa, pb, o4, b2i]
  · by_cases q2 : h = b
    · subst q2
      have q3 : ¬ a = h := by omega
      have q4 : ¬ h = a := q
      simp only [q3, q4, if_false, if_true, or_true]
      rcases pa with pa | pa <;> rcases pb with pb | pb <;> rcases o4 with o4 | o4 <;> simp [pa, pb, o4, b2i]
    · have q3 : ¬ a = h := fun e => q e.symm
      have q4 : ¬ b = h := fun e => q2 e.symm
      simp [q, q2, q3, q4]
theorem sum_add {α : Type} (f g : α → Int) (k : Int) : ∀ l : List α, (l.map fun x => f x + g x * k).sum = (l.map f).sum + (l.map g).sum * k
  | [] => by simp
  | x :: l => by
    simp only [List.map_cons, List.sum_cons, sum_add f g k l, Int.add_mul]
    omega
theorem broken_turn {n : Net} (hn : n.Ok) {s : List Int} (hs : sideOk n s) {h : Int} (h0 : 0 ≤ h) (h1 : h < n.m) : (nBroken n (turnedAt s [h]) : Int) = nBroken n s + pull n s h * sideAt s h := by
  unfold nBroken pull
  rw [broken_sum, broken_sum, pull_sum, Int.zero_add, ← sum_add]
  congr 1
  exact List.map_congr_left fun t ht => kept_turn hs (hn.ok t ht) h0 h1

theorem better_eq {n : Net} (hn : n.Ok) {s : List Int} (hs : sideOk n s) : better n s = ((List.range n.m.toNat).filter fun i : Nat => decide (pull n s (i : Nat) * sideAt s (i : Nat) < 0)).head? := by
  rw [List.head?_filter]
  unfold better
  have h : ∀ (l : List Nat), (∀ i ∈ l, (i : Int) < n.m) → (l.find? fun i : Nat => decide ((nBroken n (turnedAt s [(i : Int)]) : Int) < (nBroken n s : Int))) = l.find? fun i : Nat => decide (pull n s (i : Nat) * sideAt s (i : Nat) < 0) := by
    intro l
    induction l with
    | nil => intro _; rfl
    | cons i l ih =>
      intro hl
      have e := broken_turn hn hs (h := (i : Int)) (by omega) (hl i List.mem_cons_self)
      have e2 : decide ((nBroken n (turnedAt s [(i : Int)]) : Int) < (nBroken n s : Int)) = decide (pull n s (i : Nat) * sideAt s (i : Nat) < 0) := by
        rw [e]
        exact decide_eq_decide.mpr ⟨fun q => by omega, fun q => by omega⟩
      rw [List.find?_cons, List.find?_cons, e2, ih fun j hj => hl j (List.mem_cons_of_mem _ hj)]
  exact h _ fun i hi => by have := List.mem_range.mp hi; omega
theorem better_wants {n : Net} (hn : n.Ok) {s : List Int} (hs : sideOk n s) : (better n s).map (fun i => ((i : Nat) : Int)) = (wants n s).head? := by
  rw [better_eq hn hs]
  unfold wants
  rw [List.head?_map]
/-- a row with the fewest broken ties wants nothing -/
theorem least_still {n : Net} (hn : n.Ok) {s : List Int} (hs : sideOk n s) (h : ∀ s', sideOk n s' → nBroken n s ≤ nBroken n s') : wants n s = [] := by
  cases q : wants n s with
  | nil => rfl
  | cons a r =>
    exfalso
    have e := better_wants hn hs
    rw [q, List.head?_cons] at e
    cases hb : better n s with
    | none => rw [hb] at e; cases e
    | some i =>
      have := List.find?_some hb
      have := of_decide_eq_true this
      have := h _ (turned_ok hs [(i : Int)])
      omega

/-! rested -/
def restMore (n : Net) (x : List Int × List Int) : Bool := !decide (wants n x.2 = [])
def restStep (n : Net) (x : List Int × List Int) : List Int × List Int := match wants n x.2 with
  | h :: _ => (x.1 ++ [h], turnedAt x.2 [h])
  | [] => x
def restedL (n : Net) (s : List Int) : List Int × List Int := iter (restMore n) (restStep n) (nBroken n s) ([], s)
theorem rest_step {n : Net} (hn : n.Ok) {x : List Int × List Int} (hs : sideOk n x.2) (h : restMore n x = true) : ∃ a r, wants n x.2 = a :: r ∧ restStep n x = (x.1 ++ [a], turnedAt x.2 [a]) ∧ nBroken n (turnedAt x.2 [a]) < nBroken n x.2 := by
  unfold restMore at h
  cases q : wants n x.2 with
  | nil => rw [q] at h; simp at h
  | cons a r =>
    refine ⟨a, r, rfl, by unfold restStep; rw [q], ?_⟩
    have e := better_wants hn hs
    rw [q, List.head?_cons] at e
    cases hb : better n x.2 with
    | none => rw [hb] at e; cases e
    | some i =>
      rw [hb] at e
      have e : ((i : Nat) : Int) = a := by simpa using e
      have := List.find?_some hb
      have := of_decide_eq_true this
      rw [← e]
      omega
theorem set_last (cs : Cs) (c c' : Bool × D) : (cs ++ [c]).set cs.length c' = cs ++ [c'] := by
  rw [List.set_append_right _ _ (Nat.le_refl _), Nat.sub_self]
  rfl
theorem get_last (cs : Cs) (c : Bool × D) : (cs ++ [c])[cs.length]? = some c := by simp
/-- by the body, with cells of its own -/
theorem Ret.ofO {T : Tf} {d f : Nat} {df : Df} {ds : List D} {v : D} (hT : T f = some df) (hn : ds.length = df.np) (hf : df.fr = false) (hv : lowD 0 v = true)
    (h : ∀ k cs, d ≤ k → ∃ own, denCs (callF T k) df.body ⟨ds.map some ++ List.replicate (df.ns - df.np) none, cs⟩ = .rt v (cs ++ own)) : Ret T (d + 1) f ds v := by
  intro k cs hk
  cases k with
  | zero => omega
  | succ k =>
    rw [callF, hT]
    obtain ⟨own, e⟩ := h k cs (by omega)
    simp only [hn, if_true, e, hf, outD, low_le (Nat.zero_le _) v hv, List.take_left]
structure RstT (T : Tf) : Prop extends GoT T where
  h36 : T 36 = some d_gone_by
  h37 : T 37 = some d_rested_of
  h38 : T 38 = some d_rested
structure ReT (T : Tf) : Prop extends AllT T where
  h36 : T 36 = some d_gone_by
  h37 : T 37 = some d_rested_of
  h38 : T 38 = some d_rested
theorem whlL_iterP {β : Type} {c : M D} {b : S → Rs} (Inv : β → S → Prop) (P : β → Prop) (more : β → Bool) (step : β → β) (hP : ∀ x, P x → more x = true → P (step x)) (hc : ∀ x s, P x → Inv x s → c s = .ok (.bl (more x)) s) (hb : ∀ x s, P x → Inv x s → more x = true → ∃ s', b s = .nx s' ∧ Inv (step x) s') (n : Nat) (x : β) (s : S) (h0 : P x) (h : Inv x s) (hm : more (iter more step n x) = false) (N : Nat) (hN : n < N) : ∃ s', whlL c b N s = .nx s' ∧ Inv (iter more step n x) s' ∧ P (iter more step n x) := by
  obtain ⟨s', e, h1, h2⟩ := whlL_iter (c := c) (b := b) (fun x s => Inv x s ∧ P x) more step (fun x s h => hc x s h.2 h.1) (fun x s h q => let ⟨s', e, i⟩ := hb x s h.2 h.1 q; ⟨s', e, i, hP x h.2 q⟩) n x s ⟨h, h0⟩ hm N hN
  exact ⟨s', e, h1, h2⟩
theorem iter_doneP {β : Type} {more : β → Bool} {step : β → β} (P : β → Prop) (μ : β → Nat) (hP : ∀ x, P x → more x = true → P (step x)) (h : ∀ x, P x → more x = true → μ (step x) < μ x) : ∀ (n : Nat) (x : β), P x → μ x ≤ n → more (iter more step n x) = false
  | 0, x, p, hn => by
    rw [iter]
    cases q : more x with
    | false => rfl
    | true => have := h x p q; omega
  | n + 1, x, p, hn => by
    rw [iter]
    cases q : more x with
    | false => simp [q]
    | true =>
      rw [if_pos rfl]
      exact iter_doneP P μ hP h n (step x) (hP x p q) (by have := h x p q; omega)
theorem rest_ok {n : Net} (hn : n.Ok) {x : List Int × List Int} (hs : sideOk n x.2) (h : restMore n x = true) : sideOk n (restStep n x).2 := by
  obtain ⟨a, r, _, e, _⟩ := rest_step hn hs h
  rw [e]
  exact turned_ok hs [a]
theorem rest_done {n : Net} (hn : n.Ok) {s : List Int} (hs : sideOk n s) : restMore n (restedL n s) = false :=
  iter_doneP (fun x : List Int × List Int => sideOk n x.2) (fun x : List Int × List Int => nBroken n x.2) (fun x p q => rest_ok hn p q) (fun x p q => by obtain ⟨a, r, _, e, lt⟩ := rest_step hn p q; rw [e]; exact lt) _ _ hs (Nat.le_refl _)
theorem g_rested_of (N : RstT T) {n : Net} (hn : n.Ok) {s : List Int} (hs : sideOk n s) (hz : n.ts.length < 1000) : Ret T 4 37 [netD n, .tup (s.map .int)] (.tup [.tup ((restedL n s).1.map .int), .tup ((restedL n s).2.map .int)]) :=
  .ofO N.h37 rfl rfl (by simp [lowD, lowDs]) fun k cs hk => by
    have e0 := fun s (hs : sideOk n s) cs => g_wants N.toGoT hn hs k cs (by omega)
    have e1 := fun s l cs => s_gone (T := T) N.h36 s (IsLot.lst (l := l)) k cs (by omega)
    have hb : nBroken n s ≤ n.ts.length := List.length_filter_le _ _
    let st : List Int × List Int → S := fun x => ⟨[some (netD n), some (.tup (x.2.map .int)), some (.cell cs.length), some (.lst ((wants n x.2).map .int))], cs ++ [(true, .lst (x.1.map .int))]⟩
    have key := whlL_iterP (c := den (callF T k) (.cmp .ne (.var 3) (.lst []))) (b := denCs (callF T k) [.exp (.meth .append (.var 2) [(.idx (.var 3) (.kint 0))]), .set 1 (.call 36 [(.var 1), (.sl (.var 3) none (some (.kint 1)))]), .set 3 (.call 34 [(.var 0), (.var 1)])])
      (fun x s' => s' = st x) (fun x => sideOk n x.2 ∧ x.1.length + nBroken n x.2 ≤ n.ts.length) (restMore n) (restStep n) (fun x p q => ?_) (fun x s' p e => ?_) (fun x s' p e q => ?_) (nBroken n s) ([], s) (st ([], s)) ⟨hs, by simpa using hb⟩ rfl (rest_done hn hs) fuel (by unfold fuel; omega)
    · obtain ⟨s', e, e2, _⟩ := key
      refine ⟨[(true, .lst ((restedL n s).1.map .int))], ?_⟩
      refine (cons_nx (s' := st ([], s)) (by simp [st, denC, den, denL, E.isStar, e0 s hs, d_rested_of, lowDs])).trans ?_
      refine (cons_nx (whl_eq e)).trans ?_
      rw [e2]
      simp [st, denCs, denC, den, denL, E.isStar, bi1, seqC, deref, seqD, restedL, get_last]
    · obtain ⟨a, r, _, e, lt⟩ := rest_step hn p.1 q
      refine ⟨rest_ok hn p.1 q, ?_⟩
      rw [e]
      have := p.2
      simp
      omega
    · subst e
      simp [st, den, denL, restMore]
    · subst e
      obtain ⟨a, r, ew, es, lt⟩ := rest_step hn p.1 q
      refine ⟨st (restStep n x), ?_, rfl⟩
      rw [es]
      have l1 : x.1.length ≤ 16777215 := by have := p.2; omega
      have es' : turnedAt x.2 ((wants n x.2).take 1) = turnedAt x.2 [a] := by rw [ew]; rfl
      refine (cons_nx (s' := ⟨[some (netD n), some (.tup (x.2.map .int)), some (.cell cs.length), some (.lst ((wants n x.2).map .int))], cs ++ [(true, .lst ((x.1 ++ [a]).map .int))]⟩) ?_).trans ?_
      · simp [st, denC, den, denL, E.isStar, ew, methD, l1, lowD, get_last, set_last]
      · refine (cons_nx (s' := ⟨[some (netD n), some (.tup ((turnedAt x.2 [a]).map .int)), some (.cell cs.length), some (.lst ((wants n x.2).map .int))], cs ++ [(true, .lst ((x.1 ++ [a]).map .int))]⟩) ?_).trans ?_
        · have e3 := e1 x.2 ((wants n x.2).take 1) (cs ++ [(true, .lst ((x.1 ++ [a]).map .int))])
          rw [es', List.map_take] at e3
          simp [denC, den, denL, denO, E.isStar, setS] at e3 ⊢
          simp [e3]
        · simp [denCs, denC, den, denL, E.isStar, setS, e0 _ (turned_ok p.1 [a]), st]

theorem g_rested (N : RstT T) {n : Net} (hn : n.Ok) {s : List Int} (hs : sideOk n s) (hz : n.ts.length < 1000) : Ret T 7 38 [netD n, .tup (s.map .int)] (.tup [.tup ((restedL n s).1.map .int), .tup ((restedL n s).2.map .int)]) :=
  .of N.h38 rfl rfl (by simp [lowD, lowDs]) fun k cs hk => by
    have e := fun cs => g_rested_of N hn hs hz k cs (by omega)
    have e1 := fun cs => g_check_at N.toGoT hn hs k cs (by omega)
    simp [d_rested, denCs, denC, den, denL, E.isStar, e, e1]
theorem ReT.rst (N : ReT T) : RstT T := ⟨N.toStT.go, N.h36, N.h37, N.h38⟩
theorem s_rested_of (N : ReT T) {n : Net} (hn : n.Ok) {s : List Int} (hs : sideOk n s) (hz : n.ts.length < 1000) : Ret T 4 37 [netD n, .tup (s.map .int)] (.tup [.tup ((restedL n s).1.map .int), .tup ((restedL n s).2.map .int)]) := g_rested_of N.rst hn hs hz
theorem s_rested (N : ReT T) {n : Net} (hn : n.Ok) {s : List Int} (hs : sideOk n s) (hz : n.ts.length < 1000) : Ret T 7 38 [netD n, .tup (s.map .int)] (.tup [.tup ((restedL n s).1.map .int), .tup ((restedL n s).2.map .int)]) := g_rested N.rst hn hs hz
theorem iter_inv {β : Type} {more : β → Bool} {step : β → β} (P : β → Prop) (hP : ∀ x, P x → more x = true → P (step x)) : ∀ (n : Nat) (x : β), P x → P (iter more step n x)
  | 0, x, h => h
  | n + 1, x, h => by
    rw [iter]
    split
    · rename_i q
      exact iter_inv P hP n _ (hP x h q)
    · exact h
theorem rested_inv {n : Net} (hn : n.Ok) {s : List Int} (hs : sideOk n s) : sideOk n (restedL n s).2 ∧ nBroken n (restedL n s).2 + (restedL n s).1.length ≤ nBroken n s :=
  iter_inv (fun x : List Int × List Int => sideOk n x.2 ∧ nBroken n x.2 + x.1.length ≤ nBroken n s) (fun x p q => by
    obtain ⟨a, r, _, e, lt⟩ := rest_step hn p.1 q
    refine ⟨rest_ok hn p.1 q, ?_⟩
    rw [e]
    have := p.2
    simp
    omega) _ _ ⟨hs, by simp⟩
theorem rested_still {n : Net} (hn : n.Ok) {s : List Int} (hs : sideOk n s) : wants n (restedL n s).2 = [] := by
  have h := rest_done hn hs
  unfold restMore at h
  simpa using h
theorem calm_rested {n : Net} (hn : n.Ok) : ∀ (k : Nat) (x : List Int × List Int), sideOk n x.2 → iter (fun s => (better n s).isSome) (calmStep n) k x.2 = (iter (restMore n) (restStep n) k x).2
  | 0, x, _ => rfl
  | k + 1, x, hs => by
    have e := better_wants hn hs
    rw [iter, iter]
    cases q : wants n x.2 with
    | nil =>
      rw [q] at e
      cases hb : better n x.2 with
      | none => simp [restMore, q]
      | some i => rw [hb] at e; cases e
    | cons a r =>
      rw [q] at e
      cases hb : better n x.2 with
      | none => rw [hb] at e; cases e
      | some i =>
        rw [hb] at e
        have e : ((i : Nat) : Int) = a := by simpa using e
        have hm : restMore n x = true := by simp [restMore, q]
        have e1 : calmStep n x.2 = (restStep n x).2 := by simp [calmStep, restStep, hb, q, e]
        simp only [Option.isSome_some, if_true, hm, e1]
        exact calm_rested hn k (restStep n x) (rest_ok hn hs hm)
theorem calm_eq {n : Net} (hn : n.Ok) {s : List Int} (hs : sideOk n s) : calm n s = (restedL n s).2 := calm_rested hn _ ([], s) hs
end Ev

set_option Elab.async false
set_option linter.all false
set_option maxRecDepth 100000
set_option maxHeartbeats 1000000
set_option autoImplicit false
namespace Ev
open PySem Dd
variable {T : Tf}
/-! the core -/
def weakC (n : Net) (c : Int) (l : List Int) : List Int := l.filter fun h => decide ((likes n h l : Int) < c)
def coreMore (n : Net) (c : Int) (x : List Int × List Int) : Bool := !decide (weakC n c x.1 = [])
def coreStep (n : Net) (c : Int) (x : List Int × List Int) : List Int × List Int := match weakC n c x.1 with
  | h :: _ => (x.1.filter (fun v => !decide (v = h)), x.2 ++ [h])
  | [] => x
def allH (n : Net) : List Int := (List.range n.m.toNat).map fun i => ((i : Nat) : Int)
def coreL (n : Net) (c : Int) : List Int × List Int := iter (coreMore n c) (coreStep n c) n.m.toNat (allH n, [])
theorem core_step {n : Net} {c : Int} {x : List Int × List Int} (h : coreMore n c x = true) : ∃ a r, weakC n c x.1 = a :: r ∧ coreStep n c x = (x.1.filter (fun v => !decide (v = a)), x.2 ++ [a]) ∧ (x.1.filter (fun v => !decide (v = a))).length < x.1.length := by
  unfold coreMore at h
  cases q : weakC n c x.1 with
  | nil => rw [q] at h; simp at h
  | cons a r =>
    refine ⟨a, r, rfl, by unfold coreStep; rw [q], filter_lt _ (a := a) ?_ (by simp)⟩
    have : a ∈ weakC n c x.1 := by rw [q]; exact List.mem_cons_self
    exact (List.mem_filter.mp this).1
theorem core_done (n : Net) (c : Int) : coreMore n c (coreL n c) = false :=
  iter_done (fun x : List Int × List Int => x.1.length) (fun x q => by obtain ⟨a, r, _, e, lt⟩ := core_step q; rw [e]; exact lt) _ _ (by simp [allH])
structure CrT (T : Tf) : Prop extends CoT T where
  h12 : T 12 = some d_core_of
  h13 : T 13 = some d_check_least
  h14 : T 14 = some d_core
theorem s_core_of (N : CrT T) {n : Net} (hn : n.Ok) (c : Int) : Ret T 2 12 [netD n, .int c] (.tup [.tup ((coreL n c).1.map .int), .tup ((coreL n c).2.map .int)]) :=
  .ofO N.h12 rfl rfl (by simp [lowD, lowDs]) fun k cs hk => by
    have m1 := hn.m1
    have m2 := hn.m10
    have eL := fun h l cs => s_likes (T := T) N.h10 n h (IsLot.lst (l := l)) k cs (by omega)
    have eW : ∀ (l : List Int) (row : List Int) x4 x5, denC (callF T k) (.set 4 (.lc (.var 5) (.name 5) .seq [(.var 2)] [(.cmp .lt (.call 10 [(.var 0), (.var 5), (.var 2)]) (.var 1))] [5])) ⟨[some (netD n), some (.int c), some (.lst (l.map .int)), some (.cell cs.length), x4, x5], cs ++ [(true, .lst (row.map .int))]⟩ =
        .nx ⟨[some (netD n), some (.int c), some (.lst (l.map .int)), some (.cell cs.length), some (.lst ((weakC n c l).map .int)), x5], cs ++ [(true, .lst (row.map .int))]⟩ := by
      intro l row x4 x5
      simp [denC, den, denL, E.isStar, wipeS, srcD]
      rw [lcL_pure (enc := D.int) (fun h => [some (netD n), some (.int c), some (.lst (l.map .int)), some (.cell cs.length), x4, some (.int h)]) (fun h => decide ((likes n h l : Int) < c)) (fun h => .int h) fun h hh => ⟨by simp [bindT], by rw [denI]; simp [den, denL, E.isStar, eL], fun _ => by simp [den]⟩]
      simp [setS, weakC]
    let st : List Int × List Int → Option D → S := fun x x5 => ⟨[some (netD n), some (.int c), some (.lst (x.1.map .int)), some (.cell cs.length), some (.lst ((weakC n c x.1).map .int)), x5], cs ++ [(true, .lst (x.2.map .int))]⟩
    have key := whlL_iterP (c := den (callF T k) (.cmp .ne (.var 4) (.lst []))) (b := denCs (callF T k) [.exp (.meth .append (.var 3) [(.idx (.var 4) (.kint 0))]), .set 2 (.lc (.var 5) (.name 5) .seq [(.var 2)] [(.cmp .ne (.var 5) (.idx (.var 4) (.kint 0)))] [5]), .set 4 (.lc (.var 5) (.name 5) .seq [(.var 2)] [(.cmp .lt (.call 10 [(.var 0), (.var 5), (.var 2)]) (.var 1))] [5])])
      (fun x s' => ∃ x5, s' = st x x5) (fun x => x.1.length + x.2.length ≤ 100) (coreMore n c) (coreStep n c) (fun x p q => ?_) (fun x s' p e => ?_) (fun x s' p e q => ?_) n.m.toNat (allH n, []) (st (allH n, []) none) (by simp [allH]; omega) ⟨none, rfl⟩ (core_done n c) fuel (by unfold fuel; omega)
    · obtain ⟨s', e, ⟨x5, e2⟩, _⟩ := key
      refine ⟨[(true, .lst ((coreL n c).2.map .int))], ?_⟩
      refine (cons_nx (s' := ⟨[some (netD n), some (.int c), some (.lst ((allH n).map .int)), some (.cell cs.length), none, none], cs ++ [(true, .lst [])]⟩) ?_).trans ?_
      · have hd : den (callF T k) (.tup [.rng [.idx (.var 0) (.kint 0)], .cel (.lst [])]) ⟨[some (netD n), some (.int c), none, none, none, none], cs⟩ = .ok (.tup [.lst ((allH n).map .int), .cell cs.length]) ⟨[some (netD n), some (.int c), none, none, none, none], cs ++ [(true, .lst [])]⟩ := by
          simp [den, denL, E.isStar, netD, rng_of (j := n.m) (by omega) (by omega), rangeD_0, lowDs, allH, Function.comp_def]
        show denC (callF T k) (.setT (.tup [.name 2, .name 3]) (.tup [.rng [.idx (.var 0) (.kint 0)], .cel (.lst [])])) ⟨[some (netD n), some (.int c), none, none, none, none], cs⟩ = _
        rw [denC, hd]
        rfl
      · refine (cons_nx (eW (allH n) [] none none)).trans ?_
        refine (cons_nx (whl_eq e)).trans ?_
        rw [e2]
        simp [st, denCs, denC, den, denL, E.isStar, bi1, seqC, deref, seqD, coreL, get_last]
    · obtain ⟨a, r, _, e, lt⟩ := core_step q
      rw [e]
      simp
      omega
    · obtain ⟨x5, rfl⟩ := e
      simp [st, den, denL, coreMore]
    · obtain ⟨x5, rfl⟩ := e
      obtain ⟨a, r, ew, es, lt⟩ := core_step q
      rw [es]
      refine ⟨st (x.1.filter (fun v => !decide (v = a)), x.2 ++ [a]) x5, ?_, x5, rfl⟩
      have l1 : x.2.length ≤ 16777215 := by have := p; omega
      refine (cons_nx (s' := ⟨[some (netD n), some (.int c), some (.lst (x.1.map .int)), some (.cell cs.length), some (.lst ((weakC n c x.1).map .int)), x5], cs ++ [(true, .lst ((x.2 ++ [a]).map .int))]⟩) ?_).trans ?_
      · simp [st, denC, den, denL, E.isStar, ew, methD, l1, lowD, get_last, set_last]
      · refine (cons_nx (s' := ⟨[some (netD n), some (.int c), some (.lst ((x.1.filter (fun v => !decide (v = a))).map .int)), some (.cell cs.length), some (.lst ((weakC n c x.1).map .int)), x5], cs ++ [(true, .lst ((x.2 ++ [a]).map .int))]⟩) ?_).trans ?_
        · simp [denC, den, denL, E.isStar, wipeS, srcD]
          rw [lcL_pure (enc := D.int) (fun h => [some (netD n), some (.int c), some (.lst (x.1.map .int)), some (.cell cs.length), some (.lst ((weakC n c x.1).map .int)), some (.int h)]) (fun v => !decide (v = a)) (fun h => .int h) fun h hh => ⟨by simp [bindT], by rw [denI]; simp [den, ew], fun _ => by simp [den]⟩]
          simp [setS]
        · refine (cons_nx (eW (x.1.filter (fun v => !decide (v = a))) (x.2 ++ [a]) _ x5)).trans ?_
          simp [denCs, st]

theorem s_check_least (N : CrT T) {n : Net} (hn : n.Ok) {c : Int} (h0 : 0 ≤ c) (h1 : c ≤ 10) : Ret T 6 13 [netD n, .int c] .non :=
  .ofN N.h13 rfl rfl fun k cs hk => by
    have e6 := fun cs => s_check_net N.toNetT hn k cs (by omega)
    have e1 := fun v lo hi cs => s_between (T := T) N.h0 N.h1 v lo hi k cs (by omega)
    refine ⟨[some (netD n), some (.int c)], ?_⟩
    simp [d_check_least, denCs, denC, den, denL, E.isStar, e6, e1, h0, h1]
theorem s_core (N : CrT T) {n : Net} (hn : n.Ok) {c : Int} (h0 : 0 ≤ c) (h1 : c ≤ 10) : Ret T 7 14 [netD n, .int c] (.tup [.tup ((coreL n c).1.map .int), .tup ((coreL n c).2.map .int)]) :=
  .of N.h14 rfl rfl (by simp [lowD, lowDs]) fun k cs hk => by
    have e1 := fun cs => s_check_least N hn h0 h1 k cs (by omega)
    have e := fun cs => s_core_of N hn c k cs (by omega)
    simp [d_core, denCs, denC, den, denL, E.isStar, e, e1]
/-- two nets with the same likings have the same cores -/
theorem core_alike {n n' : Net} (hm : n.m = n'.m) (h : ∀ a l, likes n a l = likes n' a l) (c : Int) : coreL n c = coreL n' c := by
  have hw : weakC n c = weakC n' c := by
    funext l
    unfold weakC
    exact List.filter_congr fun a _ => by rw [h]
  have h1 : coreMore n c = coreMore n' c := by funext x; unfold coreMore; rw [hw]
  have h2 : coreStep n c = coreStep n' c := by funext x; unfold coreStep; rw [hw]
  unfold coreL allH
  rw [h1, h2, hm]
/-- the net of likings -/
def likeNet (n : Net) : Net := ⟨n.m, n.ts.filter fun t => decide (0 < t.2.2)⟩
theorem likeNet_likes (n : Net) (a : Int) (l : List Int) : likes (likeNet n) a l = likes n a l := by
  unfold likes likeNet
  simp only [List.filter_filter]
  congr 1
  exact List.filter_congr fun t _ => by cases decide (0 < t.2.2) <;> simp
theorem likeNet_feuds (n : Net) (a : Int) (l : List Int) : feuds (likeNet n) a l = 0 := by
  unfold feuds likeNet
  simp only [List.filter_filter]
  rw [List.length_eq_zero_iff, List.filter_eq_nil_iff]
  intro t _ q
  simp at q
  omega
theorem likeNet_core (n : Net) (c : Int) : coreL (likeNet n) c = coreL n c := core_alike (n := likeNet n) (n' := n) rfl (fun a l => likeNet_likes n a l) c
theorem likeNet_company (n : Net) (l : List Int) : companyL (likeNet n) l = l := by
  have hw : weak (likeNet n) l = [] := by
    unfold weak
    rw [List.filter_eq_nil_iff]
    intro a _ q
    rw [likeNet_feuds] at q
    simp at q
    omega
  unfold companyL
  cases l.length with
  | zero => rfl
  | succ k =>
    rw [iter]
    simp [goOn, hw]
end Ev

set_option Elab.async false
set_option linter.all false
set_option maxRecDepth 100000
set_option maxHeartbeats 1000000
set_option autoImplicit false
namespace Ev
open PySem Dd
variable {T : Tf}
/-! switched -/
def switchT (l : List Int) (t : Tie) : Tie := (t.1, t.2.1, if decide (t.1 ∈ l) != decide (t.2.1 ∈ l) then 0 - t.2.2 else t.2.2)
def switchN (n : Net) (l : List Int) : Net := ⟨n.m, sortT (n.ts.map (switchT l))⟩
structure SwT (T : Tf) : Prop extends LotT T where
  h9 : T 9 = some d_net_by
  h21 : T 21 = some d_switched_at
  h22 : T 22 = some d_switched
theorem low_net (n : Net) : lowD 0 (netD n) = true := by
  simp [lowD, netD, lowDs]
  rw [ties_rows, lows_iff]
  intro d hd
  obtain ⟨r, _, rfl⟩ := List.mem_map.mp hd
  simp [rowD, lowD]
theorem g_switched_at (h9 : T 9 = some d_net_by) (h21 : T 21 = some d_switched_at) (n : Net) (l : List Int) : Ret T 2 21 [netD n, .tup (l.map .int)] (netD (switchN n l)) :=
  .of h21 rfl rfl (low_net _) fun k cs hk => by
    have e9 := fun m ts cs => s_net_by (T := T) h9 m ts k cs (by omega)
    have h1 : denC (callF T k) (.set 2 (.lc (.tup [(.var 3), (.var 4), (.ite (.cmp .ne (.cmp .isin (.var 3) (.var 1)) (.cmp .isin (.var 4) (.var 1))) (.bin .sub (.kint 0) (.var 5)) (.var 5))]) (.tup [(.name 3), (.name 4), (.name 5)]) .seq [(.idx (.var 0) (.kint 1))] [] [3, 4, 5])) ⟨[some (netD n), some (.tup (l.map .int)), none, none, none, none], cs⟩ =
        .nx ⟨[some (netD n), some (.tup (l.map .int)), some (.lst ((n.ts.map (switchT l)).map tieD)), none, none, none], cs⟩ := by
      simp only [denC, den, denL, E.isStar, wipeS, srcD]
      simp [netD]
      rw [lcL_map (enc := tieD) (fun t => [some (netD n), some (.tup (l.map .int)), none, some (.int t.1), some (.int t.2.1), some (.int t.2.2)]) (fun t => tieD (switchT l t)) fun t ht => ⟨by simp [bindT, bindTs, tieD, tieR, netD], ?_⟩]
      · simp [setS, Function.comp_def]
      · cases h3 : decide (t.1 ∈ l) <;> cases h4 : decide (t.2.1 ∈ l) <;> simp [den, denL, E.isStar, h3, h4, tieD, tieR, switchT]
    refine (cons_nx h1).trans ?_
    have e := e9 n.m (n.ts.map (switchT l)) cs
    simp [denCs, denC, den, denL, E.isStar, netD] at e ⊢
    simp [e, switchN, netD]
theorem s_switched_at (N : SwT T) (n : Net) (l : List Int) : Ret T 2 21 [netD n, .tup (l.map .int)] (netD (switchN n l)) := g_switched_at N.h9 N.h21 n l
theorem s_switched (N : SwT T) {n : Net} (hn : n.Ok) {l : List Int} (hl : lotOk n.m l) : Ret T 6 22 [netD n, .tup (l.map .int)] (netD (switchN n l)) :=
  .of N.h22 rfl rfl (low_net _) fun k cs hk => by
    have e6 := fun cs => s_check_net N.toNetT hn k cs (by omega)
    have e8 := fun cs => s_check_lot N.toLotT hl k cs (by omega)
    have e := fun cs => s_switched_at N n l k cs (by omega)
    simp [d_switched, denCs, denC, den, denL, E.isStar, e6, e8, e]

theorem sortT_perm (ts : List Tie) : (sortT ts).Perm ts := List.mergeSort_perm _ _
/-- rows in order, none twice: strictly ascending -/
theorem asc_of {α : Type} (f : α → List Int) : ∀ l : List α, l.Pairwise (fun a b => leRow (f a) (f b) = true) → (l.map f).Nodup → asc (fun a b => HT.lexLt (f a) (f b)) l = true
  | [], _, _ => rfl
  | [_], _, _ => rfl
  | a :: b :: r, hp, hn => by
    rw [asc, Bool.and_eq_true]
    obtain ⟨h1, h2⟩ := List.pairwise_cons.mp hp
    rw [List.map_cons, List.nodup_cons] at hn
    refine ⟨?_, asc_of f (b :: r) h2 hn.2⟩
    have hab := h1 b List.mem_cons_self
    rcases lex_tri (f a) (f b) with q | q | q
    · exact q
    · exact absurd (by rw [q]; simp) hn.1
    · unfold leRow at hab
      rw [q] at hab
      cases hab
theorem asc_nodup {α : Type} (f : α → List Int) : ∀ l : List α, asc (fun a b => HT.lexLt (f a) (f b)) l = true → l.Pairwise fun a b => HT.lexLt (f a) (f b) = true
  | [], _ => .nil
  | [a], _ => List.pairwise_singleton _ _
  | a :: b :: r, h => by
    rw [asc, Bool.and_eq_true] at h
    have ih := asc_nodup f (b :: r) h.2
    refine List.pairwise_cons.mpr ⟨fun c hc => ?_, ih⟩
    rcases List.mem_cons.mp hc with e | hc
    · rw [e]; exact h.1
    · exact lex_trans h.1 ((List.pairwise_cons.mp ih).1 c hc)
theorem sortT_sorted (ts : List Tie) : (sortT ts).Pairwise fun a b => leRow (tieR a) (tieR b) = true :=
  List.pairwise_mergeSort (le := fun a b : Tie => leRow (tieR a) (tieR b)) (fun a b c => leRow_trans _ _ _) (fun a b => leRow_total _ _) ts
theorem tieR_inj {a b : Tie} (h : tieR a = tieR b) : a = b := by
  have := congrArg rowT h
  exact this
/-- a net of ties that are none twice -/
theorem net_ok {m : Int} {ts : List Tie} (h1 : 1 ≤ m) (h2 : m ≤ 10) (h3 : ∀ t ∈ ts, tieOk m t) (h4 : ts.Nodup) : Net.Ok ⟨m, sortT ts⟩ where
  m1 := h1
  m10 := h2
  ok := fun t ht => h3 t ((sortT_perm ts).mem_iff.mp ht)
  asc := asc_of tieR _ (sortT_sorted ts) (by
    have hn : (sortT ts).Nodup := (sortT_perm ts).nodup_iff.mpr h4
    exact List.pairwise_map.mpr (hn.imp fun h e => h (tieR_inj e)))
theorem Net.Ok.nodup {n : Net} (h : n.Ok) : n.ts.Nodup := (asc_nodup tieR _ h.asc).imp fun {a b} q e => by rw [e, lex_irr] at q; cases q
theorem switch_inj (l : List Int) {a b : Tie} (h : switchT l a = switchT l b) : a = b := by
  obtain ⟨a1, a2, a3⟩ := a
  obtain ⟨b1, b2, b3⟩ := b
  simp only [switchT, Prod.mk.injEq] at h
  obtain ⟨rfl, rfl, h⟩ := h
  have : a3 = b3 := by split at h <;> omega
  rw [this]
theorem switch_ok {n : Net} (h : n.Ok) (l : List Int) : (switchN n l).Ok :=
  net_ok h.m1 h.m10 (fun t ht => by
    obtain ⟨u, hu, rfl⟩ := List.mem_map.mp ht
    obtain ⟨h1, h2, h3, h4⟩ := h.ok u hu
    refine ⟨h1, h2, h3, ?_⟩
    show (switchT l u).2.2 = 1 ∨ (switchT l u).2.2 = -1
    simp only [switchT]
    rcases h4 with q | q <;> rw [q] <;> split <;> decide) (List.pairwise_map.mpr (h.nodup.imp fun h e => h (switch_inj l e)))
end Ev

set_option Elab.async false
set_option linter.all false
set_option maxRecDepth 100000
set_option maxHeartbeats 1000000
set_option autoImplicit false
namespace Ev
open PySem Dd
variable {T : Tf}
theorem mem_allH {n : Net} {i : Int} : i ∈ allH n ↔ 0 ≤ i ∧ i < n.m := by
  unfold allH
  rw [List.mem_map]
  constructor
  · rintro ⟨k, hk, rfl⟩
    have := List.mem_range.mp hk
    omega
  · rintro ⟨h1, h2⟩
    exact ⟨i.toNat, List.mem_range.mpr (by omega), by omega⟩
def at1 (h : Int) (t : Tie) : Int := if h = t.1 ∨ h = t.2.1 then t.2.2 else 0
theorem lf_list (m : Int) (n : Net) (hm : n.m = m) (h : Int) : ∀ ts : List Tie, (∀ t ∈ ts, tieOk m t) →
    ((ts.filter fun t => decide (0 < t.2.2) && linked h (allH n) t).length : Int) - ((ts.filter fun t => decide (t.2.2 < 0) && linked h (allH n) t).length : Int) = (ts.map (at1 h)).sum
  | [], _ => rfl
  | t :: ts, ho => by
    have ih := lf_list m n hm h ts fun u hu => ho u (List.mem_cons_of_mem _ hu)
    obtain ⟨o1, o2, o3, o4⟩ := ho t List.mem_cons_self
    have l1 : t.1 ∈ allH n := mem_allH.mpr (by omega)
    have l2 : t.2.1 ∈ allH n := mem_allH.mpr (by omega)
    have hl : linked h (allH n) t = decide (h = t.1 ∨ h = t.2.1) := by simp [linked, l1, l2]
    rw [List.filter_cons, List.filter_cons, List.map_cons, List.sum_cons, ← ih, hl]
    unfold at1
    by_cases q : h = t.1 ∨ h = t.2.1
    · rw [if_pos q]
      rcases o4 with o4 | o4
      · simp [q, o4]; omega
      · simp [q, o4]; omega
    · rw [if_neg q]
      simp [q]
theorem likes_feuds {n : Net} (hn : n.Ok) (h : Int) : (likes n h (allH n) : Int) - feuds n h (allH n) = (n.ts.map (at1 h)).sum := lf_list n.m n rfl h n.ts hn.ok

theorem perm_sum {α : Type} (f : α → Int) {a b : List α} (p : a.Perm b) : (a.map f).sum = (b.map f).sum := by
  induction p with
  | nil => rfl
  | cons x _ ih => simp only [List.map_cons, List.sum_cons, ih]
  | swap x y l => simp only [List.map_cons, List.sum_cons]; omega
  | trans _ _ h1 h2 => exact h1.trans h2
/-- the houses of the one side -/
def negs (n : Net) (s : List Int) : List Int := (allH n).filter fun i => decide (sideAt s i < 0)
theorem at1_switch {n : Net} {s : List Int} (hs : sideOk n s) {t : Tie} (ht : tieOk n.m t) (h : Int) : at1 h (switchT (negs n s) t) = term s h t * sideAt s h := by
  obtain ⟨a, b, c⟩ := t
  obtain ⟨o1, o2, o3, o4⟩ := ht
  simp only at o1 o2 o3 o4
  have pa := side_pm hs (i := a) o1 (by omega)
  have pb := side_pm hs (i := b) (by omega) (by omega)
  have ma : a ∈ negs n s ↔ sideAt s a < 0 := by
    unfold negs
    rw [List.mem_filter, mem_allH]
    simp
    omega
  have mb : b ∈ negs n s ↔ sideAt s b < 0 := by
    unfold negs
    rw [List.mem_filter, mem_allH]
    simp
    omega
  simp only [at1, switchT, term, ma, mb]
  by_cases q : h = a
  · subst q
    rcases pa with pa | pa <;> rcases pb with pb | pb <;> rcases o4 with o4 | o4 <;> simp [pa, pb, o4]
  · by_cases q2 : h = b
    · subst q2
      rcases pa with pa | pa <;> rcases pb with pb | pb <;> rcases o4 with o4 | o4 <;> simp [pa, pb, o4, q]
    · simp [q, q2]
theorem sum_mul {α : Type} (f : α → Int) (k : Int) : ∀ l : List α, (l.map fun x => f x * k).sum = (l.map f).sum * k
  | [] => by simp
  | x :: l => by
    simp only [List.map_cons, List.sum_cons, sum_mul f k l, Int.add_mul]
/-- in the switched net a house's likings less its feuds are its pull by its side -/
theorem switch_pull {n : Net} (hn : n.Ok) {s : List Int} (hs : sideOk n s) (h : Int) : (likes (switchN n (negs n s)) h (allH n) : Int) - feuds (switchN n (negs n s)) h (allH n) = pull n s h * sideAt s h := by
  have e := likes_feuds (switch_ok hn (negs n s)) h
  have ea : allH (switchN n (negs n s)) = allH n := rfl
  rw [ea] at e
  rw [e]
  show ((sortT (n.ts.map (switchT (negs n s)))).map (at1 h)).sum = _
  rw [perm_sum _ (sortT_perm _), List.map_map]
  unfold pull
  rw [pull_sum, Int.zero_add, ← sum_mul]
  congr 1
  exact List.map_congr_left fun t ht => at1_switch hs (hn.ok t ht) h

theorem weak_wants {n : Net} (hn : n.Ok) {s : List Int} (hs : sideOk n s) : weak (switchN n (negs n s)) (allH n) = wants n s := by
  have e : ∀ h, decide ((likes (switchN n (negs n s)) h (allH n) : Int) < (feuds (switchN n (negs n s)) h (allH n) : Int)) = decide (pull n s h * sideAt s h < 0) := fun h => by
    rw [← switch_pull hn hs h]
    exact decide_eq_decide.mpr ⟨fun q => by omega, fun q => by omega⟩
  have e2 : weak (switchN n (negs n s)) (allH n) = (allH n).filter fun h => decide (pull n s h * sideAt s h < 0) := by
    unfold weak
    exact List.filter_congr fun h _ => e h
  rw [e2]
  unfold allH wants
  rw [List.filter_map]
  rfl

/-! company drops the weak first -/
theorem iter_sub (n : Net) : ∀ (k : Nat) (l : List Int), ∀ x ∈ iter (goOn n) (rest n) k l, x ∈ l
  | 0, l, x, h => h
  | k + 1, l, x, h => by
    rw [iter] at h
    split at h
    · exact (List.mem_filter.mp (iter_sub n k _ x h)).1
    · exact h
theorem company_none {n : Net} {l : List Int} (h : weak n l = []) : companyL n l = l := by
  unfold companyL
  cases l.length with
  | zero => rfl
  | succ k =>
    rw [iter]
    simp [goOn, h]
theorem company_some {n : Net} {l : List Int} (h : weak n l ≠ []) : ∀ x ∈ companyL n l, x ∈ l ∧ x ∉ weak n l := by
  intro x hx
  unfold companyL at hx
  have hl : l.length ≠ 0 := fun e => by
    obtain ⟨a, ha⟩ := List.exists_mem_of_ne_nil _ h
    have := (List.mem_filter.mp ha).1
    rw [List.length_eq_zero_iff.mp e] at this
    cases this
  obtain ⟨k, hk⟩ := Nat.exists_eq_succ_of_ne_zero hl
  rw [hk, iter] at hx
  have hg : goOn n l = true := by simp [goOn, h]
  rw [if_pos hg] at hx
  have := List.mem_filter.mp (iter_sub n k _ x hx)
  exact ⟨this.1, by simpa using this.2⟩
theorem company_all {n : Net} {l : List Int} : companyL n l = l ↔ weak n l = [] := by
  constructor
  · intro e
    cases q : weak n l with
    | nil => rfl
    | cons a r =>
      exfalso
      have ha : a ∈ weak n l := by rw [q]; exact List.mem_cons_self
      have := company_some (n := n) (l := l) (by rw [q]; simp) a (by rw [e]; exact (List.mem_filter.mp ha).1)
      exact this.2 ha
  · exact company_none
end Ev

set_option Elab.async false
set_option linter.all false
set_option maxRecDepth 100000
set_option maxHeartbeats 1000000
set_option autoImplicit false
/-! Draws, for all laws. -/
namespace Ev
open PySem Dd
variable {T : Tf}
/-! how the evaluator goes, by parts -/
theorem den_lc {G : Gf} {elt : E} {tg : Tg} {k : SK} {ss ifs : List E} {own : List Nat} {s : S} {ds items ys : List D} {cs' : Cs} (h1 : denL G ss s = .ok ds s) (h2 : srcD k ds = some items) (h3 : lcL (wipeS s.sl own) tg (denI G ifs) (den G elt) items [] s.cs = some (ys, cs')) : den G (.lc elt tg k ss ifs own) s = .ok (.lst ys) ⟨s.sl, cs'⟩ := by
  rw [den, h1]
  simp only [R.bind_ok, h2, h3]
theorem denL_one {G : Gf} {e : E} {s s1 : S} {d : D} (hs : e.isStar = false) (h : den G e s = .ok d s1) : denL G [e] s = .ok [d] s1 := by
  simp [denL, h, hs]
theorem den_tup {G : Gf} {e : E} {s s1 : S} {ds : List D} (hs : e.isStar = false) (h : den G e s = .ok (.lst ds) s1) : den G (.bi .tuple [e]) s = .ok (.tup ds) s1 := by
  rw [den, denL_one hs h]
  rfl
theorem denC_set {G : Gf} {e : E} {i : Nat} {s s1 : S} {d : D} (h : den G e s = .ok d s1) (hi : i < s1.sl.length) : denC G (.set i e) s = .nx ⟨s1.sl.set i (some d), s1.cs⟩ := by
  rw [denC, h]
  simp [setS, hi]
theorem den_call2 {G : Gf} {a b : E} {f : Nat} {s s2 : S} {x y d : D} {cs : Cs} (ha : a.isStar = false) (hb : b.isStar = false) (h1 : den G a s = .ok x s) (h2 : den G b s = .ok y s2) (h3 : G f [x, y] s2.cs = some (d, cs)) : den G (.call f [a, b]) s = .ok d ⟨s2.sl, cs⟩ := by
  simp [den, denL, ha, hb, h1, h2, h3]
theorem den_pair {G : Gf} {a b : E} {s s2 : S} {x y : D} (ha : a.isStar = false) (hb : b.isStar = false) (h1 : den G a s = .ok x s) (h2 : den G b s = .ok y s2) : den G (.tup [a, b]) s = .ok (.tup [x, y]) s2 := by
  simp [den, denL, ha, hb, h1, h2]
theorem denC_setT {G : Gf} {t : Tg} {e : E} {s s1 : S} {d : D} {sl : List (Option D)} (h : den G e s = .ok d s1) (h2 : bindT t d s1.sl = some sl) : denC G (.setT t e) s = .nx ⟨sl, s1.cs⟩ := by
  rw [denC, h, R.run_ok, h2]
theorem ret_of {G : Gf} {e : E} {s s1 : S} {d : D} (h : den G e s = .ok d s1) : denC G (.ret e) s = .rt d s1.cs := by
  rw [denC, h]
  rfl
theorem den_bi1 {G : Gf} {b : BI} {e : E} {s s1 : S} {x d : D} (hs : e.isStar = false) (h : den G e s = .ok x s1) (h2 : bi1 s1.cs b x = some d) : den G (.bi b [e]) s = .ok d s1 := by
  rw [den, denL_one hs h]
  simp [h2]
theorem den_bin {G : Gf} {o : BO} {a b : E} {s s1 s2 : S} {x y d : D} (h1 : den G a s = .ok x s1) (h2 : den G b s1 = .ok y s2) (h3 : binD s2.cs o x y = some d) : den G (.bin o a b) s = .ok d s2 := by
  rw [den, h1]
  simp [h2, h3]
theorem den_cmp {G : Gf} {o : CO} {a b : E} {s s1 s2 : S} {x y : D} {q : Bool} (h1 : den G a s = .ok x s1) (h2 : den G b s1 = .ok y s2) (h3 : cmpD s2.cs o x y = some q) : den G (.cmp o a b) s = .ok (.bl q) s2 := by
  rw [den, h1]
  simp [h2, h3]
theorem den_idx {G : Gf} {a b : E} {s s1 s2 : S} {x y d : D} (h1 : den G a s = .ok x s1) (h2 : den G b s1 = .ok y s2) (h3 : ixD s2.cs x y = some d) : den G (.idx a b) s = .ok d s2 := by
  rw [den, h1]
  simp [h2, h3]
theorem den_not {G : Gf} {a : E} {s s1 : S} {q : Bool} (h1 : den G a s = .ok (.bl q) s1) : den G (.not a) s = .ok (.bl (!q)) s1 := by
  rw [den, h1]
  rfl
theorem den_all {G : Gf} {e : E} {s s1 : S} {bs : List Bool} (hs : e.isStar = false) (h : den G e s = .ok (.lst (bs.map .bl)) s1) : den G (.bi .all [e]) s = .ok (.bl (bs.all id)) s1 := den_bi1 hs h (by simp [bi1, allD])
theorem ite_f {G : Gf} {c : E} {a b : List C} {s s1 : S} (h : den G c s = .ok (.bl false) s1) : denC G (.ite c a b) s = denCs G b s1 := by
  rw [denC, h]
  rfl
theorem ite_t {G : Gf} {c : E} {a b : List C} {s s1 : S} (h : den G c s = .ok (.bl true) s1) : denC G (.ite c a b) s = denCs G a s1 := by
  rw [denC, h]
  rfl
theorem den_call1 {G : Gf} {a : E} {f : Nat} {s s1 : S} {x d : D} {cs : Cs} (ha : a.isStar = false) (h1 : den G a s = .ok x s1) (h3 : G f [x] s1.cs = some (d, cs)) : den G (.call f [a]) s = .ok d ⟨s1.sl, cs⟩ := by
  simp [den, denL, ha, h1, h3]
theorem if_all {G : Gf} {e : E} {s s1 : S} {c : List C} {bs : List Bool} (hs : e.isStar = false) (h : den G e s = .ok (.lst (bs.map .bl)) s1) (hb : bs.all id = true) : denC G (.ite (.not (.bi .all [e])) c []) s = .nx s1 := by
  rw [denC, den, den, denL_one hs h]
  simp [bi1, allD, bools_map, hb, denCs]
/-- a pot: what is left of the number, the seed, how often it was drawn -/
structure Pot where
  a : Int
  b : Int
  c : Int
def potD (p : Pot) : D := .lst [.int p.a, .int p.b, .int p.c]
structure Pot.Ok (p : Pot) (m : Int) : Prop where
  a0 : 0 ≤ p.a
  b0 : 0 ≤ p.b
  b1 : p.b < 2305843009213693951
  c0 : 0 ≤ p.c
  c1 : p.c ≤ m
/-- the two defs that draw, by their numbers -/
def takeDf (A B C : Int) : Df := ⟨2, 5, false, [
  .ite (.cmp .gt (.idx (.var 0) (.kint 0)) (.kint 0)) [.set 4 (.bin .mod (.bi .int [(.idx (.var 0) (.kint 0))]) (.var 1)), .setix (.var 0) (.kint 0) (.bin .fdiv (.idx (.var 0) (.kint 0)) (.var 1)), .ret (.var 4)] [],
  .setix (.var 0) (.kint 2) (.bin .add (.idx (.var 0) (.kint 2)) (.kint 1)),
  .set 2 (.idx (.lst [(.kint 2147483647), (.kint 2147483629), (.kint 2147483587), (.kint 2147483579)]) (.bin .mod (.bi .int [(.idx (.var 0) (.kint 2))]) (.kint 4))),
  .set 3 (.bin .mod (.bi .int [(.bin .pow (.bi .int [(.bin .add (.bin .add (.idx (.var 0) (.kint 1)) (.bin .mul (.bin .mul (.kint A) (.idx (.var 0) (.kint 2))) (.idx (.var 0) (.kint 2)))) (.kint B))]) (.kint 3))]) (.var 2)),
  .ret (.bin .mod (.bi .int [(.bin .fdiv (.bin .mul (.var 3) (.bin .add (.bin .mod (.bi .int [(.var 3)]) (.kint 10007)) (.bin .mul (.kint C) (.idx (.var 0) (.kint 2))))) (.kint 307))]) (.var 1))]⟩
def potDf (A B A2 B2 C2 : Int) : Df := ⟨2, 5, true, [
  .set 2 (.ite (.cmp .lt (.var 1) (.bi .len [(.var 0)])) (.idx (.var 0) (.var 1)) (.bin .add (.bin .add (.bin .mod (.bi .int [(.bi .sum [(.sl (.var 0) none (some (.kint 1)))])]) (.kint 1000003)) (.bin .mul (.kint A) (.var 1))) (.kint B))),
  .set 3 (.bin .mul (.bin .mod (.bi .int [(.bi .abs [(.var 2)])]) (.bin .pow (.bin .pow (.kint 10) (.kint 60)) (.kint 5))) (.bi .int [(.cmp .ge (.bi .abs [(.var 2)]) (.bin .pow (.kint 10) (.kint 18)))])),
  .set 4 (.bin .mod (.bi .int [(.var 2)]) (.kint 2305843009213693951)),
  .ret (.cel (.lst [(.var 3), (.bin .mod (.bi .int [(.bin .add (.bin .add (.bin .mul (.var 4) (.kint A2)) (.bin .mul (.bin .mul (.kint B2) (.var 1)) (.var 1))) (.kint C2))]) (.kint 2305843009213693921)), (.kint 0)]))]⟩
/-- the numbers are small -/
structure Sm (A B C : Int) : Prop where
  a0 : 0 ≤ A
  a1 : A ≤ 200000
  b0 : 0 ≤ B
  b1 : B ≤ 100000
  c0 : 0 ≤ C
  c1 : C ≤ 100000
/-- a draw -/
def takeA (p : Pot) (u : Int) : Pot := ⟨p.a.fdiv u, p.b, p.c⟩
def prime (c : Int) : Int := if c.fmod 4 = 0 then 2147483647 else if c.fmod 4 = 1 then 2147483629 else if c.fmod 4 = 2 then 2147483587 else 2147483579
theorem fmod_bd (i : Int) {u : Int} (h : 0 < u) : 0 ≤ i.fmod u ∧ i.fmod u < u := by
  rw [Int.fmod_eq_emod_of_nonneg i (by omega)]
  exact ⟨Int.emod_nonneg _ (by omega), Int.emod_lt_of_pos _ h⟩

theorem ix_cell {cs : Cs} {n : Nat} {b : Bool} {ds : List D} (h : cs[n]? = some (b, .lst ds)) (i : Int) : ixD cs (.cell n) (.int i) = L2.atI ds i := by
  simp [ixD, seqC, deref, h, seqD]
theorem mod_i (cs : Cs) (i : Int) {u : Int} (h : 0 < u) : binD cs .mod (.int i) (.int u) = some (.int (i.fmod u)) := by
  have : u ≠ 0 := by omega
  simp [binD, this]
theorem fdiv_i (cs : Cs) (i : Int) {u : Int} (h : 0 < u) (h2 : u < 1073741824) : binD cs .fdiv (.int i) (.int u) = some (.int (i.fdiv u)) := by
  have : u ≠ 0 := by omega
  have h3 : ¬ 1073741824 ≤ u.natAbs := by omega
  simp [binD, this, h3]
theorem mul_l (cs : Cs) {i j : Int} (h : -(2 ^ 64) < i ∧ i < 2 ^ 64) : binD cs .mul (.int i) (.int j) = some (.int (i * j)) := by
  simp only [binD, smallI, decide_eq_true h.1, decide_eq_true h.2, Bool.and_self, Bool.true_or, if_true]
theorem mul_r (cs : Cs) {i j : Int} (h : -(2 ^ 64) < j ∧ j < 2 ^ 64) : binD cs .mul (.int i) (.int j) = some (.int (i * j)) := by
  simp only [binD, smallI, decide_eq_true h.1, decide_eq_true h.2, Bool.and_self, Bool.or_true, if_true]
theorem s_takeA {A B C : Int} {tk : Nat} (hT : T tk = some (takeDf A B C)) {p : Pot} (ha : 0 < p.a) {u : Int} (hu : 0 < u) (hu2 : u < 1000) {k n : Nat} {cs : Cs} (hk : 1 ≤ k) (hc : cs[n]? = some (true, potD p)) :
    callF T k tk [.cell n, .int u] cs = some (.int (p.a.fmod u), cs.set n (true, potD (takeA p u))) := by
  have hn : n < cs.length := (List.getElem?_eq_some_iff.mp hc).1
  cases k with
  | zero => omega
  | succ k =>
    rw [callF, hT]
    have e1 := ix_cell hc 0
    have key : denCs (callF T k) (takeDf A B C).body ⟨[some (.cell n), some (.int u), none, none, none], cs⟩ = .rt (.int (p.a.fmod u)) (cs.set n (true, potD (takeA p u))) := by
      refine cons_rt ?_
      have e2 := fdiv_i cs p.a hu (show u < 1073741824 by omega)
      have hc' : cs[n]? = some (true, .lst [.int p.a, .int p.b, .int p.c]) := hc
      simp [denC, denCs, den, denL, E.isStar, e1, ha, mod_i, e2, hu, setS, potD, L2.ixN, hc', lowD, takeA]
    simp only [takeDf, List.length_cons, List.length_nil, if_true] at key ⊢
    have hd : List.map some [D.cell n, D.int u] ++ List.replicate (5 - 2) none = [some (.cell n), some (.int u), none, none, none] := rfl
    rw [hd, key]
    simp only [outD, lowD, if_true]
    rw [List.take_of_length_le (by rw [List.length_set]; exact Nat.le_refl _)]

theorem pow3 (cs : Cs) {i : Int} (h0 : 0 ≤ i) (h1 : i < 2 ^ 64) : binD cs .pow (.int i) (.int 3) = some (.int (i ^ 3)) := by
  have hb := PySem.intBits_le_64 (k := i) (by omega) h1
  have h2 : (Builtin.Int.intBits i : Int) * 3 ≤ 2 ^ 27 := by omega
  simp only [binD, show decide ((0 : Int) ≤ 3) = true from rfl, decide_eq_true h2, Bool.and_self, if_true]
  rfl
theorem at_prime (c : Int) : ∃ q : Int, 0 < q ∧ q ≤ 2147483647 ∧ L2.atI [D.int 2147483647, .int 2147483629, .int 2147483587, .int 2147483579] (c.fmod 4) = some (.int q) := by
  obtain ⟨h1, h2⟩ := fmod_bd c (u := 4) (by decide)
  generalize c.fmod 4 = r at h1 h2
  have h : r = 0 ∨ r = 1 ∨ r = 2 ∨ r = 3 := by omega
  rcases h with h | h | h | h <;> subst h
  · exact ⟨2147483647, by decide, by decide, rfl⟩
  · exact ⟨2147483629, by decide, by decide, rfl⟩
  · exact ⟨2147483587, by decide, by decide, rfl⟩
  · exact ⟨2147483579, by decide, by decide, rfl⟩

def takeB (p : Pot) : Pot := ⟨p.a, p.b, p.c + 1⟩
theorem s_takeB {A B0 C : Int} {tk : Nat} (hT : T tk = some (takeDf A B0 C)) (sm : Sm A B0 C) {p : Pot} (ha : ¬ 0 < p.a) (hp : p.Ok 10000) {u : Int} (hu : 0 < u) (hu2 : u < 1000) {k n : Nat} {cs : Cs} (hk : 1 ≤ k) (hc : cs[n]? = some (true, potD p)) :
    ∃ v, 0 ≤ v ∧ v < u ∧ callF T k tk [.cell n, .int u] cs = some (.int v, cs.set n (true, potD (takeB p))) := by
  have hn : n < cs.length := (List.getElem?_eq_some_iff.mp hc).1
  cases k with
  | zero => omega
  | succ k =>
    obtain ⟨a0, b0, b1, c0, c1⟩ := hp
    obtain ⟨q, q0, q1, eq⟩ := at_prime (p.c + 1)
    have hc' : cs[n]? = some (true, .lst [.int p.a, .int p.b, .int p.c]) := hc
    have e1 := ix_cell hc 0
    have e2 := ix_cell hc 2
    have hc1 : (cs.set n (true, potD (takeB p)))[n]? = some (true, .lst [.int p.a, .int p.b, .int (p.c + 1)]) := List.getElem?_set_self hn
    have f1 := ix_cell hc1 1
    have f2 := ix_cell hc1 2
    have m1 : ∀ cs, binD cs .mul (.int A) (.int (p.c + 1)) = some (.int (A * (p.c + 1))) := fun cs => mul_l cs (by have := sm; obtain ⟨_, _, _, _, _, _⟩ := this; omega)
    have m2 : ∀ cs, binD cs .mul (.int (A * (p.c + 1))) (.int (p.c + 1)) = some (.int (A * (p.c + 1) * (p.c + 1))) := fun cs => mul_r cs (by omega)
    have m3 : ∀ cs, binD cs .mul (.int C) (.int (p.c + 1)) = some (.int (C * (p.c + 1))) := fun cs => mul_l cs (by have := sm; obtain ⟨_, _, _, _, _, _⟩ := this; omega)
    obtain ⟨sa0, sa1, sb0, sb1, sc0, sc1⟩ := sm
    have hsq : 0 ≤ A * (p.c + 1) * (p.c + 1) ∧ A * (p.c + 1) * (p.c + 1) ≤ 200000 * 10001 * 10001 := by
      have h3 : 0 ≤ p.c + 1 := by omega
      have h4 : p.c + 1 ≤ 10001 := by omega
      have h1 : 0 ≤ A * (p.c + 1) := Int.mul_nonneg sa0 h3
      have h2 : A * (p.c + 1) ≤ 200000 * 10001 := Int.mul_le_mul sa1 h4 h3 (by omega)
      exact ⟨Int.mul_nonneg h1 h3, Int.mul_le_mul h2 h4 h3 (by omega)⟩
    generalize hX : A * (p.c + 1) * (p.c + 1) = X at m2 hsq
    have pw : ∀ cs, binD cs .pow (.int (p.b + X + B0)) (.int 3) = some (.int ((p.b + X + B0) ^ 3)) := fun cs => pow3 cs (by omega) (by omega)
    obtain ⟨g1, g2⟩ := fmod_bd ((p.b + X + B0) ^ 3) q0
    generalize hB : ((p.b + X + B0) ^ 3).fmod q = B at g1 g2
    have m4 : ∀ cs Y, binD cs .mul (.int B) (.int Y) = some (.int (B * Y)) := fun cs Y => mul_l cs (by omega)
    obtain ⟨v0, v1⟩ := fmod_bd ((B * (B.fmod 10007 + C * (p.c + 1))).fdiv 307) hu
    refine ⟨_, v0, v1, ?_⟩
    rw [callF, hT]
    have key : denCs (callF T k) (takeDf A B0 C).body ⟨[some (.cell n), some (.int u), none, none, none], cs⟩ = .rt (.int (((B * (B.fmod 10007 + C * (p.c + 1))).fdiv 307).fmod u)) (cs.set n (true, potD (takeB p))) := by
      refine (cons_nx (s' := ⟨[some (.cell n), some (.int u), none, none, none], cs⟩) (by simp [denC, denCs, den, denL, e1, ha])).trans ?_
      refine (cons_nx (s' := ⟨[some (.cell n), some (.int u), none, none, none], cs.set n (true, potD (takeB p))⟩) (by simp [denC, den, denL, e2, L2.ixN, hc', lowD, potD, takeB])).trans ?_
      refine (cons_nx (s' := ⟨[some (.cell n), some (.int u), some (.int q), none, none], cs.set n (true, potD (takeB p))⟩) (by simp [denC, den, denL, E.isStar, f2, mod_i, eq, setS])).trans ?_
      refine (cons_nx (s' := ⟨[some (.cell n), some (.int u), some (.int q), some (.int B), none], cs.set n (true, potD (takeB p))⟩) (by simp [denC, den, denL, E.isStar, f1, f2, m1, m2, pw, mod_i, q0, hB, setS])).trans ?_
      simp [denCs, denC, den, denL, E.isStar, f2, mod_i, fdiv_i, m3, m4, hu]
    simp only [takeDf, List.length_cons, List.length_nil, if_true] at key ⊢
    have hd : List.map some [D.cell n, D.int u] ++ List.replicate (5 - 2) none = [some (.cell n), some (.int u), none, none, none] := rfl
    rw [hd, key]
    simp only [outD, lowD, if_true]
    rw [List.take_of_length_le (by rw [List.length_set]; exact Nat.le_refl _)]

theorem s_take {A B C : Int} {tk : Nat} (hT : T tk = some (takeDf A B C)) (sm : Sm A B C) {p : Pot} {m : Int} (hp : p.Ok m) (hm : m ≤ 10000) {u : Int} (hu : 0 < u) (hu2 : u < 1000) {k n : Nat} {cs : Cs} (hk : 1 ≤ k) (hc : cs[n]? = some (true, potD p)) :
    ∃ v p', 0 ≤ v ∧ v < u ∧ Pot.Ok p' (m + 1) ∧ callF T k tk [.cell n, .int u] cs = some (.int v, cs.set n (true, potD p')) := by
  obtain ⟨a0, b0, b1, c0, c1⟩ := hp
  by_cases ha : 0 < p.a
  · obtain ⟨h1, h2⟩ := fmod_bd p.a hu
    have h3 : 0 ≤ p.a.fdiv u := by
      rw [Int.fdiv_eq_ediv_of_nonneg p.a (by omega)]
      exact Int.ediv_nonneg a0 (by omega)
    exact ⟨_, takeA p u, h1, h2, ⟨h3, b0, b1, c0, by show p.c ≤ m + 1; omega⟩, s_takeA hT ha hu hu2 hk hc⟩
  · obtain ⟨v, h1, h2, e⟩ := s_takeB hT sm ha ⟨a0, b0, b1, c0, by omega⟩ hu hu2 hk hc
    exact ⟨v, takeB p, h1, h2, ⟨a0, b0, b1, by show 0 ≤ p.c + 1; omega, by show p.c + 1 ≤ m + 1; omega⟩, e⟩
theorem set_app (cs : Cs) {n : Nat} (hn : n < cs.length) (x z y : Bool × D) : (cs.set n x ++ [y]).set n z = cs.set n z ++ [y] := by
  rw [List.set_append_left _ _ (by rw [List.length_set]; exact hn), List.set_set]
theorem get_app (cs : Cs) {n : Nat} (hn : n < cs.length) (x y : Bool × D) : (cs.set n x ++ [y])[n]? = some x := by
  rw [List.getElem?_append_left (by rw [List.length_set]; exact hn), List.getElem?_set_self hn]
theorem get_app2 (cs : Cs) {n : Nat} (x y : Bool × D) : (cs.set n x ++ [y])[cs.length]? = some y := by
  rw [List.getElem?_append_right (by rw [List.length_set]; exact Nat.le_refl _), List.length_set, Nat.sub_self]
  rfl
theorem set_app2 (cs : Cs) {n : Nat} (x y z : Bool × D) : (cs.set n x ++ [y]).set cs.length z = cs.set n x ++ [z] := by
  rw [List.set_append_right _ _ (by rw [List.length_set]; exact Nat.le_refl _), List.length_set, Nat.sub_self]
  rfl
/-- the rows of drawn ties, each once, in order -/
def netOf (m : Int) (L : List Tie) : Net := ⟨m, (sortRows (L.map tieR).eraseDups).map rowT⟩
theorem row_back {L : List Tie} {r : List Int} (h : r ∈ sortRows (L.map tieR).eraseDups) : ∃ t ∈ L, tieR t = r := by
  have h := (List.mergeSort_perm _ _).mem_iff.mp h
  rw [List.mem_eraseDups] at h
  obtain ⟨t, ht, e⟩ := List.mem_map.mp h
  exact ⟨t, ht, e⟩
theorem netOf_rows (m : Int) (L : List Tie) : (netOf m L).ts.map tieR = sortRows (L.map tieR).eraseDups := by
  show ((sortRows (L.map tieR).eraseDups).map rowT).map tieR = _
  rw [List.map_map]
  conv => rhs; rw [← List.map_id (sortRows (L.map tieR).eraseDups)]
  refine List.map_congr_left fun r hr => ?_
  obtain ⟨t, _, e⟩ := row_back hr
  subst e
  rfl
theorem netOf_ok {m : Int} (h1 : 1 ≤ m) (h2 : m ≤ 10) {L : List Tie} (h : ∀ t ∈ L, tieOk m t) : (netOf m L).Ok where
  m1 := h1
  m10 := h2
  ok := fun t ht => by
    obtain ⟨r, hr, rfl⟩ := List.mem_map.mp ht
    obtain ⟨t', ht', e⟩ := row_back hr
    subst e
    exact h t' ht'
  asc := by
    refine asc_of tieR _ ?_ ?_
    · have e := List.pairwise_mergeSort leRow_trans leRow_total (L.map tieR).eraseDups
      have e : (sortRows (L.map tieR).eraseDups).Pairwise fun a b => leRow a b = true := e
      rw [← netOf_rows m L] at e
      exact List.pairwise_map.mp e
    · rw [netOf_rows]
      exact (List.mergeSort_perm _ _).nodup_iff.mpr (nodup_dups _ _ (Nat.le_refl _))
theorem netOf_len (m : Int) (L : List Tie) : (netOf m L).ts.length ≤ L.length := by
  have e := congrArg List.length (netOf_rows m L)
  rw [List.length_map] at e
  rw [e]
  unfold sortRows
  rw [List.length_mergeSort]
  have : ∀ (n : Nat) (l : List (List Int)), l.length ≤ n → l.eraseDups.length ≤ l.length := by
    intro n
    induction n with
    | zero =>
      intro l hl
      rw [List.length_eq_zero_iff.mp (Nat.le_zero.mp hl)]
      simp
    | succ n ih =>
      intro l hl
      cases l with
      | nil => simp
      | cons a l =>
        rw [List.eraseDups_cons]
        have h1 := List.length_filter_le (fun b => !b == a) l
        have h2 := ih (l.filter fun b => !b == a) (by simp at hl; omega)
        simp only [List.length_cons]
        omega
  have h := this _ (L.map tieR) (Nat.le_refl _)
  rw [List.length_map] at h
  exact h

/-! draws while cells of one's own stand behind -/
theorem set_apps (cs : Cs) {n : Nat} (hn : n < cs.length) (x z : Bool × D) (own : Cs) : (cs.set n x ++ own).set n z = cs.set n z ++ own := by
  rw [List.set_append_left _ _ (by rw [List.length_set]; exact hn), List.set_set]
theorem get_apps (cs : Cs) {n : Nat} (hn : n < cs.length) (x : Bool × D) (own : Cs) : (cs.set n x ++ own)[n]? = some x := by
  rw [List.getElem?_append_left (by rw [List.length_set]; exact hn), List.getElem?_set_self hn]
theorem take_apps {A B C : Int} {tk : Nat} (hT : T tk = some (takeDf A B C)) (sm : Sm A B C) {p : Pot} {c : Int} (hp : p.Ok c) (hc : c ≤ 10000) {u : Int} (hu : 0 < u) (hu2 : u < 1000) {k n : Nat} (hk : 1 ≤ k) {cs : Cs} (hn : n < cs.length) (own : Cs) :
    ∃ v p', 0 ≤ v ∧ v < u ∧ Pot.Ok p' (c + 1) ∧ callF T k tk [.cell n, .int u] (cs.set n (true, potD p) ++ own) = some (.int v, cs.set n (true, potD p') ++ own) := by
  obtain ⟨v, p', h1, h2, h3, e⟩ := s_take hT sm hp hc hu hu2 hk (cs := cs.set n (true, potD p) ++ own) (get_apps cs hn _ own)
  exact ⟨v, p', h1, h2, h3, by rw [e, set_apps cs hn]⟩
theorem Pot.Ok.mono {p : Pot} {c d : Int} (h : p.Ok c) (hd : c ≤ d) : p.Ok d := ⟨h.a0, h.b0, h.b1, h.c0, Int.le_trans h.c1 hd⟩
theorem set_same {cs : Cs} {n : Nat} {x : Bool × D} (h : cs[n]? = some x) : cs.set n x = cs := by
  obtain ⟨h1, h2⟩ := List.getElem?_eq_some_iff.mp h
  subst h2
  exact List.set_getElem_self h1
theorem exp_meth {G : Gf} {s s1 : S} {m : ME} {i : Nat} {e : E} {d x v : D} {cs' : Cs} (h0 : s.sl[i]? = some (some d)) (hs : e.isStar = false) (h1 : den G e s = .ok x s1) (h2 : methD m d [x] s1.cs = some (v, cs')) : denC G (.exp (.meth m (.var i) [e])) s = .nx ⟨s1.sl, cs'⟩ := by
  simp [denC, den, denL, h0, h1, hs, h2]
/-! drawn ties -/
abbrev lapNet (tk : Nat) : List C := [.set 5 (.call tk [(.var 0), (.bin .sub (.var 1) (.kint 1))]), .exp (.meth .append (.var 3) [(.tup [(.bi .int [(.var 5)]), (.bi .int [(.bin .add (.bin .add (.var 5) (.kint 1)) (.call tk [(.var 0), (.bin .sub (.bin .sub (.var 1) (.var 5)) (.kint 1))]))]), (.ite (.cmp .eq (.call tk [(.var 0), (.kint 2)]) (.kint 0)) (.kint 1) (.neg (.kint 1)))])])]
def netDf (tk : Nat) : Df := ⟨3, 6, false, [
  .set 3 (.cel (.lst [])),
  .for (.name 4) .rng1 [(.ite (.cmp .gt (.var 1) (.kint 1)) (.call tk [(.var 0), (.bin .add (.var 2) (.kint 1))]) (.kint 0))] (lapNet tk),
  .ret (.tup [(.bi .int [(.var 1)]), (.bi .tuple [(.bi .sortset [(.var 3)])])])]⟩
theorem tie_low (n : Nat) (t : Tie) : lowD n (tieD t) = true := by simp [tieD, lowD]
theorem laps_net {A B C : Int} {tk : Nat} (hT : T tk = some (takeDf A B C)) (sm : Sm A B C) {k n : Nat} (hk : 1 ≤ k) {cs : Cs} (hn : n < cs.length) {m : Int} (m1 : 2 ≤ m) (m2 : m ≤ 10) (q : D) : ∀ (is : List Nat) (p : Pot) (c : Int) (L : List Tie) (x4 x5 : Option D), p.Ok c → c + 3 * is.length ≤ 10000 → L.length + is.length ≤ 10000 → (∀ t ∈ L, tieOk m t) →
    ∃ (L' : List Tie) (p' : Pot) (y4 y5 : Option D), forL (.name 4) (denCs (callF T k) (lapNet tk)) (is.map fun i => .int (i : Nat)) ⟨[some (.cell n), some (.int m), some q, some (.cell cs.length), x4, x5], cs.set n (true, potD p) ++ [(true, .lst (L.map tieD))]⟩ =
      .nx ⟨[some (.cell n), some (.int m), some q, some (.cell cs.length), y4, y5], cs.set n (true, potD p') ++ [(true, .lst (L'.map tieD))]⟩ ∧ p'.Ok (c + 3 * is.length) ∧ (∀ t ∈ L', tieOk m t) ∧ L'.length = L.length + is.length
  | [], p, c, L, x4, x5, hp, _, _, hL => ⟨L, p, x4, x5, by simp [forL], hp.mono (by simp), hL, by simp⟩
  | i :: is, p, c, L, x4, x5, hp, hc, hl, hL => by
    simp only [List.length_cons] at hc hl
    obtain ⟨a, p1, a0, a1, hp1, e1⟩ := take_apps hT sm hp (by omega) (u := m - 1) (by omega) (by omega) hk hn [(true, .lst (L.map tieD))]
    obtain ⟨b, p2, b0, b1, hp2, e2⟩ := take_apps hT sm hp1 (by omega) (u := m - a - 1) (by omega) (by omega) hk hn [(true, .lst (L.map tieD))]
    obtain ⟨z, p3, z0, z1, hp3, e3⟩ := take_apps hT sm hp2 (by omega) (u := 2) (by omega) (by omega) hk hn [(true, .lst (L.map tieD))]
    let t : Tie := (a, a + 1 + b, if z = 0 then 1 else -1)
    have ht : tieOk m t := ⟨a0, by show a < a + 1 + b; omega, by show a + 1 + b < m; omega, by show (if z = 0 then (1 : Int) else -1) = 1 ∨ (if z = 0 then (1 : Int) else -1) = -1; split <;> simp⟩
    have l1 : L.length ≤ 16777215 := by omega
    have g1 := get_app2 cs (n := n) (true, potD p3) (true, .lst (L.map tieD))
    have g2 := set_app2 cs (n := n) (true, potD p3) (true, .lst (L.map tieD)) (true, .lst ((L ++ [t]).map tieD))
    have step : denCs (callF T k) (lapNet tk) ⟨[some (.cell n), some (.int m), some q, some (.cell cs.length), some (.int (i : Nat)), x5], cs.set n (true, potD p) ++ [(true, .lst (L.map tieD))]⟩ =
        .nx ⟨[some (.cell n), some (.int m), some q, some (.cell cs.length), some (.int (i : Nat)), some (.int a)], cs.set n (true, potD p3) ++ [(true, .lst ((L ++ [t]).map tieD))]⟩ := by
      refine (cons_nx (s' := ⟨[some (.cell n), some (.int m), some q, some (.cell cs.length), some (.int (i : Nat)), some (.int a)], cs.set n (true, potD p1) ++ [(true, .lst (L.map tieD))]⟩) (by simp [denC, den, denL, E.isStar, e1, setS])).trans ?_
      have hd : den (callF T k) (.tup [(.bi .int [(.var 5)]), (.bi .int [(.bin .add (.bin .add (.var 5) (.kint 1)) (.call tk [(.var 0), (.bin .sub (.bin .sub (.var 1) (.var 5)) (.kint 1))]))]), (.ite (.cmp .eq (.call tk [(.var 0), (.kint 2)]) (.kint 0)) (.kint 1) (.neg (.kint 1)))]) ⟨[some (.cell n), some (.int m), some q, some (.cell cs.length), some (.int (i : Nat)), some (.int a)], cs.set n (true, potD p1) ++ [(true, .lst (L.map tieD))]⟩ =
          .ok (tieD t) ⟨[some (.cell n), some (.int m), some q, some (.cell cs.length), some (.int (i : Nat)), some (.int a)], cs.set n (true, potD p3) ++ [(true, .lst (L.map tieD))]⟩ := by
        by_cases hz : z = 0
        · simp [den, denL, E.isStar, e2, e3, hz, tieD, tieR, t]
        · simp [den, denL, E.isStar, e2, e3, hz, tieD, tieR, t]
      have hm : methD .append (.cell cs.length) [tieD t] (cs.set n (true, potD p3) ++ [(true, .lst (L.map tieD))]) = some (.non, cs.set n (true, potD p3) ++ [(true, .lst ((L ++ [t]).map tieD))]) := by
        have g1' : (cs.set n (true, potD p3) ++ [(true, .lst (L.map tieD))])[cs.length]? = some (true, .lst (L.map tieD)) := g1
        simp only [methD, g1', List.length_map, fits_len, tie_low, Bool.and_true]
        rw [if_pos (by simp; omega)]
        rw [← g2, List.map_append]
        rfl
      exact (cons_nx (exp_meth (d := .cell cs.length) rfl rfl hd hm)).trans (by simp [denCs])
    obtain ⟨L', p', y4, y5, e, h1, h2, h3⟩ := laps_net hT sm hk hn m1 m2 q is p3 (c + 1 + 1 + 1) (L ++ [t]) (some (.int (i : Nat))) (some (.int a)) hp3 (by omega) (by simp; omega) (fun u hu => by
      rcases List.mem_append.mp hu with hu | hu
      · exact hL u hu
      · rw [List.mem_singleton.mp hu]; exact ht)
    refine ⟨L', p', y4, y5, ?_, h1.mono (by simp only [List.length_cons]; omega), h2, by simp [h3]; omega⟩
    rw [List.map_cons, forL]
    have hb : bindT (.name 4) (D.int ((i : Nat) : Int)) [some (.cell n), some (.int m), some q, some (.cell cs.length), x4, x5] = some [some (.cell n), some (.int m), some q, some (.cell cs.length), some (.int (i : Nat)), x5] := by simp [bindT]
    simp only [hb, step]
    exact e
theorem sortset_cell {cs : Cs} {j : Nat} {b : Bool} {ds : List D} (h : cs[j]? = some (b, .lst ds)) : sortsetD cs (.cell j) = sortsetD cs (.lst ds) := by
  simp [sortsetD, lstC, deref, h]
theorem sortset_ties (cs : Cs) {L : List Tie} (m : Int) (h : L.length ≤ 300) : sortsetD cs (.lst (L.map tieD)) = some (.lst ((netOf m L).ts.map tieD)) := by
  rw [ties_rows, ties_rows, netOf_rows, sortset_rows (tieR_ne L) (by simpa using h)]
theorem s_netL {A B C : Int} {tk nt : Nat} (hA : T tk = some (takeDf A B C)) (sm : Sm A B C) (hT : T nt = some (netDf tk)) {p : Pot} {c : Int} (hp : p.Ok c) (hc : c + 200 ≤ 10000) {m q : Int} (m1 : 1 ≤ m) (m2 : m ≤ 10) (q0 : 0 ≤ q) (q1 : q ≤ 60) {k n : Nat} (hk : 2 ≤ k) {cs : Cs} (hn : n < cs.length) (own : Cs) :
    ∃ (L : List Tie) (p' : Pot), callF T k nt [.cell n, .int m, .int q] (cs.set n (true, potD p) ++ own) = some (netD (netOf m L), cs.set n (true, potD p') ++ own) ∧ p'.Ok (c + 1 + 3 * q) ∧ (∀ t ∈ L, tieOk m t) ∧ (L.length : Int) ≤ q := by
  cases k with
  | zero => omega
  | succ k =>
    let c0 := cs ++ own
    have hn0 : n < c0.length := by simp [c0]; omega
    have eset : ∀ x, cs.set n x ++ own = c0.set n x := fun x => by
      show cs.set n x ++ own = (cs ++ own).set n x
      rw [List.set_append_left _ _ hn]
    simp only [eset]
    have fin : ∀ (L : List Tie) (p' : Pot) (y4 y5 : Option D), (∀ t ∈ L, tieOk m t) → (L.length : Int) ≤ q → denCs (callF T k) [.ret (.tup [(.bi .int [(.var 1)]), (.bi .tuple [(.bi .sortset [(.var 3)])])])] ⟨[some (.cell n), some (.int m), some (.int q), some (.cell c0.length), y4, y5], c0.set n (true, potD p') ++ [(true, .lst (L.map tieD))]⟩ =
        .rt (netD (netOf m L)) (c0.set n (true, potD p') ++ [(true, .lst (L.map tieD))]) := by
      intro L p' y4 y5 hL hq
      have g1 : (c0.set n (true, potD p') ++ [(true, .lst (L.map tieD))])[c0.length]? = some (true, .lst (L.map tieD)) := get_app2 c0 _ _
      have e := sortset_ties (c0.set n (true, potD p') ++ [(true, .lst (L.map tieD))]) m (L := L) (by omega)
      simp [denCs, denC, den, denL, E.isStar, sortset_cell g1, e, netD, netOf]
    have low : ∀ L, lowD c0.length (netD (netOf m L)) = true := fun L => low_le (Nat.zero_le _) _ (low_net _)
    have key : ∃ (L : List Tie) (p' : Pot), denCs (callF T k) (netDf tk).body ⟨[some (.cell n), some (.int m), some (.int q), none, none, none], c0.set n (true, potD p)⟩ = .rt (netD (netOf m L)) (c0.set n (true, potD p') ++ [(true, .lst (L.map tieD))]) ∧ p'.Ok (c + 1 + 3 * q) ∧ (∀ t ∈ L, tieOk m t) ∧ (L.length : Int) ≤ q := by
      have hset : denC (callF T k) (.set 3 (.cel (.lst []))) ⟨[some (.cell n), some (.int m), some (.int q), none, none, none], c0.set n (true, potD p)⟩ = .nx ⟨[some (.cell n), some (.int m), some (.int q), some (.cell c0.length), none, none], c0.set n (true, potD p) ++ [(true, .lst [])]⟩ := by
        simp [denC, den, denL, E.isStar, setS, lowDs]
      by_cases hm : m = 1
      · refine ⟨[], p, ?_, hp.mono (by omega), by simp, by simpa using q0⟩
        refine (cons_nx hset).trans ?_
        refine (cons_nx (for_eq (ds := [.int 0]) (items := []) (s1 := ⟨[some (.cell n), some (.int m), some (.int q), some (.cell c0.length), none, none], c0.set n (true, potD p) ++ [(true, .lst [])]⟩) (by simp [den, denL, E.isStar, hm]) rfl (by rw [forL]))).trans ?_
        exact fin [] p none none (by simp) (by simpa using q0)
      · obtain ⟨a, p1, a0, a1, hp1, e1⟩ := take_apps hA sm hp (by omega) (u := q + 1) (by omega) (by omega) (k := k) (by omega) hn0 [(true, .lst [])]
        obtain ⟨L, p', y4, y5, e, h1, h2, h3⟩ := laps_net hA sm (k := k) (by omega) hn0 (m := m) (by omega) m2 (.int q) (List.range a.toNat) p1 (c + 1) [] none none hp1 (by simp; omega) (by simp; omega) (by simp)
        simp only [List.length_range, List.length_nil, Nat.zero_add] at h1 h3
        refine ⟨L, p', ?_, h1.mono (by omega), h2, by omega⟩
        refine (cons_nx hset).trans ?_
        refine (cons_nx (for_eq (ds := [.int a]) (items := rangeD 0 a) (s1 := ⟨[some (.cell n), some (.int m), some (.int q), some (.cell c0.length), none, none], c0.set n (true, potD p1) ++ [(true, .lst [])]⟩) ?_ (by simp [srcD, rng_of a0 (by omega)]) (by rw [rangeD_0]; exact e))).trans ?_
        · have hm2 : 1 < m := by omega
          simp [den, denL, E.isStar, hm2, e1]
        · exact fin L p' y4 y5 h2 (by omega)
    obtain ⟨L, p', e, h1, h2, h3⟩ := key
    refine ⟨L, p', ?_, h1, h2, h3⟩
    rw [callF, hT]
    have hd : List.map some [D.cell n, D.int m, D.int q] ++ List.replicate ((netDf tk).ns - (netDf tk).np) none = [some (.cell n), some (.int m), some (.int q), none, none, none] := rfl
    have hl : [D.cell n, D.int m, D.int q].length = (netDf tk).np := rfl
    have hf : (netDf tk).fr = false := rfl
    simp only [hl, if_true, hd, e, hf, outD, List.length_set, low L]
    rw [List.take_left' (by rw [List.length_set])]
/-! the pot of a cell -/
theorem pow_i (cs : Cs) {i j : Int} (h0 : 0 ≤ j) {b : Nat} (hb : i.natAbs < 2 ^ b) (hj : (b : Int) * j ≤ 2 ^ 27) : binD cs .pow (.int i) (.int j) = some (.int (i ^ j.toNat)) := by
  have hb := PyProof.Rows.intBits_le hb
  have h2 : (Builtin.Int.intBits i : Int) * j ≤ 2 ^ 27 := Int.le_trans (Int.mul_le_mul_of_nonneg_right (by omega) h0) hj
  simp only [binD, decide_eq_true h0, decide_eq_true h2, Bool.and_self, if_true]
theorem sum_take (cs : Cs) (ns : List Int) : sumD cs (.lst ((ns.map D.int).take 1)) = some (.int (ns.take 1).sum) := by
  rw [← List.map_take]
  simp only [sumD, sumC, lstC, deref, Option.bind_some, intsD_map]
theorem ro_at (cs : Cs) (ns : List Int) {j : Nat} (h : j < ns.length) : L2.atI (ns.map D.int) (j : Int) = some (.int ns[j]) := by
  have h0 : (0 : Int) ≤ (j : Int) := by omega
  have h1 : (j : Int) < (ns.length : Int) := by omega
  simp only [L2.atI, L2.ixN, List.length_map, h0, h1, if_true, Option.bind_some, List.getElem?_map, Int.toNat_natCast]
  rw [List.getElem?_eq_getElem h]
  rfl
theorem abs_0 (c : Int) : (0 : Int) ≤ (if c < 0 then -c else c) := by split <;> omega
theorem own_step (c Q1 Q2 R3 : Int) (p1 : ∀ cs, binD cs .pow (.int 10) (.int 60) = some (.int Q1)) (p2 : ∀ cs, binD cs .pow (.int Q1) (.int 5) = some (.int Q2)) (p3 : ∀ cs, binD cs .pow (.int 10) (.int 18) = some (.int R3)) (hQ : 0 < Q2) :
    ∃ a : Int, 0 ≤ a ∧ ∀ (G : Gf) (x0 x1 : Option D) (cs : Cs), denC G (.set 3 (.bin .mul (.bin .mod (.bi .int [(.bi .abs [(.var 2)])]) (.bin .pow (.bin .pow (.kint 10) (.kint 60)) (.kint 5))) (.bi .int [(.cmp .ge (.bi .abs [(.var 2)]) (.bin .pow (.kint 10) (.kint 18)))]))) ⟨[x0, x1, some (.int c), none, none], cs⟩ = .nx ⟨[x0, x1, some (.int c), some (.int a), none], cs⟩ := by
  generalize hA : (if c < 0 then -c else c) = A
  have ha : ∀ cs, bi1 cs .abs (.int c) = some (.int A) := fun cs => by rw [← hA]; rfl
  obtain ⟨f0, f1⟩ := fmod_bd A hQ
  have md := fun cs => mod_i cs A hQ
  have cg : ∀ cs, ∀ b : Bool, bi1 cs .int (.bl b) = some (.int (b2i b)) := fun cs b => rfl
  have mb : ∀ cs, ∀ (X : Int) (b : Bool), binD cs .mul (.int X) (.int (b2i b)) = some (.int (X * b2i b)) := fun cs X b => mul_r cs (by cases b <;> decide)
  refine ⟨A.fmod Q2 * b2i (decide (R3 ≤ A)), Int.mul_nonneg f0 (by cases decide (R3 ≤ A) <;> decide), fun G x0 x1 cs => ?_⟩
  simp only [denC, den, denL, denO, E.isStar, List.getElem?_cons_zero, List.getElem?_cons_succ, R.bind_ok, Bool.false_eq_true, if_false, bi_1, ha, R.of_some, bi_int', p1, p2, p3, md, cmp_ge, Option.map_some, cg, mb]
  rfl
theorem pow_pos_i (cs : Cs) {i j : Int} (hi : 0 < i) (h0 : 0 ≤ j) {b : Nat} (hb : i.natAbs < 2 ^ b) (hj : (b : Int) * j ≤ 2 ^ 27) : ∃ Q : Int, 0 < Q ∧ Q.natAbs < 2 ^ (b * j.toNat) + 1 ∧ ∀ cs : Cs, binD cs .pow (.int i) (.int j) = some (.int Q) := by
  refine ⟨i ^ j.toNat, Int.pow_pos hi, ?_, fun cs => pow_i cs h0 hb hj⟩
  rw [Int.natAbs_pow, Nat.pow_mul]
  exact Nat.lt_succ_of_le (Nat.pow_le_pow_left (Nat.le_of_lt hb) _)
theorem cell_step (M A B : Int) (hM : 0 < M) (hA : -(2 ^ 64) < A ∧ A < 2 ^ 64) (ns : List Int) (j : Nat) : ∃ c : Int, ∀ (G : Gf) (cs : Cs),
    denC G (.set 2 (.ite (.cmp .lt (.var 1) (.bi .len [(.var 0)])) (.idx (.var 0) (.var 1)) (.bin .add (.bin .add (.bin .mod (.bi .int [(.bi .sum [(.sl (.var 0) none (some (.kint 1)))])]) (.kint M)) (.bin .mul (.kint A) (.var 1))) (.kint B)))) ⟨[some (.ro (ns.map .int)), some (.int (j : Nat)), none, none, none], cs⟩ = .nx ⟨[some (.ro (ns.map .int)), some (.int (j : Nat)), some (.int c), none, none], cs⟩ := by
  have m1 : ∀ cs, binD cs .mul (.int A) (.int (j : Nat)) = some (.int (A * j)) := fun cs => mul_l cs hA
  by_cases h : j < ns.length
  · refine ⟨ns[j], fun G cs => ?_⟩
    have h' : (j : Int) < (ns.length : Int) := by omega
    have e := ro_at cs ns h
    simp [denC, den, denL, E.isStar, h', e, setS]
  · refine ⟨(ns.take 1).sum.fmod M + A * j + B, fun G cs => ?_⟩
    have h' : ¬ (j : Int) < (ns.length : Int) := by omega
    have e := sum_take cs ns
    simp only [denC, den, denL, denO, E.isStar, List.getElem?_cons_zero, List.getElem?_cons_succ, R.bind_ok, Bool.false_eq_true, if_false, bi_1, bi_len', len_ro, R.of_some, cmp_lt, Option.map_some, List.length_map, decide_eq_false h', sl_ro, cut_to1, bi_sum', e, bi_int', mod_i cs _ hM, m1, add_int]
    rfl
theorem small_step (M : Int) (hM : 0 < M) (x0 x1 : Option D) (c : Int) (x3 : Option D) : ∃ sm : Int, 0 ≤ sm ∧ sm < M ∧ ∀ (G : Gf) (cs : Cs),
    denC G (.set 4 (.bin .mod (.bi .int [(.var 2)]) (.kint M))) ⟨[x0, x1, some (.int c), x3, none], cs⟩ = .nx ⟨[x0, x1, some (.int c), x3, some (.int sm)], cs⟩ := by
  obtain ⟨s0, s1⟩ := fmod_bd c hM
  refine ⟨c.fmod M, s0, s1, fun G cs => ?_⟩
  have md := mod_i cs c hM
  simp only [denC, den, denL, denO, E.isStar, List.getElem?_cons_zero, List.getElem?_cons_succ, R.bind_ok, Bool.false_eq_true, if_false, bi_1, R.of_some, bi_int', md]
  rfl
theorem pot_step (M A B C : Int) (hM : 0 < M) (hA : -(2 ^ 64) < A ∧ A < 2 ^ 64) (hB : -(2 ^ 64) < B ∧ B < 2 ^ 64) (x0 x2 : Option D) (j : Nat) (hj : j < 1000) (a sm : Int) : ∃ b : Int, 0 ≤ b ∧ b < M ∧ ∀ (G : Gf) (cs : Cs),
    denC G (.ret (.cel (.lst [(.var 3), (.bin .mod (.bi .int [(.bin .add (.bin .add (.bin .mul (.var 4) (.kint A)) (.bin .mul (.bin .mul (.kint B) (.var 1)) (.var 1))) (.kint C))]) (.kint M)), (.kint 0)]))) ⟨[x0, some (.int (j : Nat)), x2, some (.int a), some (.int sm)], cs⟩ = .rt (.cell cs.length) (cs ++ [(true, potD ⟨a, b, 0⟩)]) := by
  generalize hX : sm * A + B * j * j + C = X
  obtain ⟨b0, b1⟩ := fmod_bd X hM
  refine ⟨X.fmod M, b0, b1, fun G cs => ?_⟩
  have m2 : ∀ cs, binD cs .mul (.int B) (.int (j : Nat)) = some (.int (B * j)) := fun cs => mul_l cs hB
  have m3 : ∀ cs X, binD cs .mul (.int X) (.int (j : Nat)) = some (.int (X * j)) := fun cs X => mul_r cs (by omega)
  have m4 : ∀ cs X, binD cs .mul (.int X) (.int A) = some (.int (X * A)) := fun cs X => mul_r cs hA
  have md := mod_i cs X hM
  have lo : lowDs cs.length [D.int a, .int (X.fmod M), .int 0] = true := by simp [lowDs, lowD]
  simp only [denC, den, denL, denO, E.isStar, List.getElem?_cons_zero, List.getElem?_cons_succ, R.bind_ok, Bool.false_eq_true, if_false, bi_1, R.of_some, bi_int', m2, m3, m4, add_int, hX, md, fits_len, List.length_cons, List.length_nil, lo, if_true]
  rfl
theorem s_pot {A B A2 B2 C2 : Int} {pt : Nat} (hT : T pt = some (potDf A B A2 B2 C2)) (hA : -(2 ^ 64) < A ∧ A < 2 ^ 64) (hA2 : -(2 ^ 64) < A2 ∧ A2 < 2 ^ 64) (hB2 : -(2 ^ 64) < B2 ∧ B2 < 2 ^ 64) (ns : List Int) {j : Nat} (hj : j < 1000) : ∃ p : Pot, p.Ok 0 ∧ Ret T 1 pt [.ro (ns.map .int), .int (j : Nat)] (potD p) := by
  obtain ⟨Q1, q1, l1, p1⟩ := pow_pos_i [] (i := 10) (j := 60) (b := 4) (by decide) (by decide) (by decide) (by decide)
  obtain ⟨Q2, q2, l2, p2⟩ := pow_pos_i [] (i := Q1) (j := 5) (b := 241) q1 (by decide) (Nat.lt_of_lt_of_le l1 (by decide)) (by decide)
  obtain ⟨R3, q3, l3, p3⟩ := pow_pos_i [] (i := 10) (j := 18) (b := 4) (by decide) (by decide) (by decide) (by decide)
  obtain ⟨c, r1⟩ := cell_step 1000003 A B (by decide) hA ns j
  obtain ⟨a, a0, r2⟩ := own_step c Q1 Q2 R3 p1 p2 p3 q2
  obtain ⟨sm, s0, s1, r3⟩ := small_step 2305843009213693951 (by decide) (some (.ro (ns.map .int))) (some (.int (j : Nat))) c (some (.int a))
  obtain ⟨b, b0, b1, r4⟩ := pot_step 2305843009213693921 A2 B2 C2 (by decide) hA2 hB2 (some (.ro (ns.map .int))) (some (.int c)) j hj a sm
  refine ⟨⟨a, b, 0⟩, ⟨a0, b0, by show b < _; omega, Int.le_refl _, Int.le_refl _⟩, ?_⟩
  refine .ofF hT rfl rfl (by simp [lowDs, lowD]) fun k cs hk => ?_
  refine ⟨cs.length, [(true, potD ⟨a, b, 0⟩)], Nat.le_refl _, by simp [potD], ?_⟩
  refine (cons_nx (r1 _ _)).trans ((cons_nx (r2 _ _ _ _)).trans ((cons_nx (r3 _ _)).trans ?_))
  exact cons_rt (r4 _ _)
theorem s_cells (hT : T 45 = some d__law_cells) (ns : List Int) {q : Nat} (hq : q < 1000) : ∃ w : Nat, w ≤ max 1 q ∧ Ret T 1 45 [.ro (ns.map .int), .int (q : Nat)] (.lst ((List.range w).map fun i => .int (i : Nat))) := by
  let mn : Int := if (ns.length : Int) < (q : Int) then (ns.length : Int) else (q : Int)
  let mx : Int := if mn > 1 then mn else 1
  have h0 : 0 ≤ mx := by simp only [mx]; split <;> omega
  have h1 : mx ≤ max 1 q := by
    simp only [mx, mn]
    split <;> split <;> omega
  refine ⟨mx.toNat, by omega, ?_⟩
  have e := rangeD_0 mx
  refine .ofF hT rfl rfl (by simp) fun k cs hk => ⟨cs.length, [(true, .lst ((List.range mx.toNat).map fun i => .int (i : Nat)))], Nat.le_refl _, by simp, ?_⟩
  have b1 : bi2 .min2 (.int (q : Nat)) (.int (ns.length : Nat)) = some (.int mn) := rfl
  have b2 : bi2 .max2 (.int 1) (.int mn) = some (.int mx) := rfl
  have e2 := rng_of h0 (by omega)
  simp [d__law_cells, denCs, denC, den, denL, E.isStar, b1, b2, e2, e]
end Ev

set_option Elab.async false
set_option linter.all false
set_option maxRecDepth 100000
set_option maxHeartbeats 1000000
set_option autoImplicit false
/-! repr of what is compared. -/
namespace Ev
open PySem Dd
variable {T : Tf}
theorem ok_app {a b : Str} (ha : PyData.strOk a = true) (hb : PyData.strOk b = true) : PyData.strOk (a ++ b) = true := by
  unfold PyData.strOk at *
  show (a.cps ++ b.cps).all _ = true
  rw [Array.all_append, ha, hb]
  rfl
theorem ok_of (x : String) : PyData.strOk (Str.ofString x) = true := by
  rw [Str.ofString_eq_toList]
  unfold PyData.strOk
  rw [List.all_toArray, List.all_eq_true]
  intro n hn
  obtain ⟨c, _, rfl⟩ := List.mem_map.mp hn
  have h : c.toNat < 0xd800 ∨ (0xdfff < c.toNat ∧ c.toNat < 0x110000) := c.valid
  exact decide_eq_true (by omega)
theorem ok_join (sep : Str) (hs : PyData.strOk sep = true) : ∀ l : List Str, (∀ t ∈ l, PyData.strOk t = true) → PyData.strOk (Str.join sep l) = true
  | [], _ => by simp [Str.join, PyData.strOk, Str.empty]
  | [x], h => h x List.mem_cons_self
  | x :: y :: r, h => by
    show PyData.strOk (x ++ sep ++ Str.join sep (y :: r)) = true
    exact ok_app (ok_app (h x List.mem_cons_self) hs) (ok_join sep hs (y :: r) fun t ht => h t (List.mem_cons_of_mem _ ht))
theorem shown_ints : ∀ l : List Int, PyData.shownAll (l.map .int) = l.map fun i => Str.ofString (toString i)
  | [] => by simp [PyData.shownAll]
  | i :: l => by
    rw [List.map_cons, PyData.shownAll, shown_ints l, PyData.shown]
    rfl
theorem showable_ints : ∀ {l : List Int}, (∀ i ∈ l, i.natAbs < 10 ^ 20) → PyData.showableAll (l.map .int) = true
  | [], _ => by simp [PyData.showableAll]
  | i :: l, h => by
    rw [List.map_cons, PyData.showableAll, showable_ints fun j hj => h j (List.mem_cons_of_mem _ hj), PyData.showable]
    have h1 := h i List.mem_cons_self
    have : i.natAbs.log2 < 1920 := by
      by_cases z : i.natAbs = 0
      · rw [z]; decide
      · exact Nat.lt_of_lt_of_le ((Nat.log2_lt z).mpr (Nat.lt_trans h1 (show 10 ^ 20 < 2 ^ 100 by decide))) (by decide)
    simp [this]
theorem noDict_ints : ∀ l : List Int, PyData.hasDictAll (l.map .int) = false
  | [] => by simp [PyData.hasDictAll]
  | i :: l => by rw [List.map_cons, PyData.hasDictAll, noDict_ints l, PyData.hasDict]; rfl
theorem reprOk_row {l : List Int} (h : ∀ i ∈ l, i.natAbs < 10 ^ 20) (hl : l.length ≤ 1000) : reprOk (.tuple (l.map .int)) = true := by
  unfold reprOk
  have h1 : (PyData.tuple (l.map .int)).showable = true := by rw [PyData.showable]; exact showable_ints h
  have h2 : (PyData.tuple (l.map .int)).hasDict = false := by rw [PyData.hasDict]; exact noDict_ints l
  have h3 : (PyData.tuple (l.map .int)).shown = tupleText (l.map fun i => Str.ofString (toString i)) := by rw [PyData.shown, shown_ints]
  have h4 : (PyData.tuple (l.map .int)).shown.length ≤ sizeLine := by
    rw [h3]
    refine Nat.le_trans (tupleText_len_le _) ?_
    have : ∀ l : List Int, (∀ i ∈ l, i.natAbs < 10 ^ 20) → ((l.map fun i => Str.ofString (toString i)).map (·.length)).sum ≤ 21 * l.length := by
      intro l
      induction l with
      | nil => intro _; exact Nat.le_refl _
      | cons i l ih =>
        intro h
        have e := int_text_length_le10 (k := 20) (by decide) (h i List.mem_cons_self)
        have ih := ih fun j hj => h j (List.mem_cons_of_mem _ hj)
        simp only [List.map_cons, List.sum_cons, List.length_cons, PySem.ofString_length] at ih ⊢
        omega
    have := this l h
    rw [List.length_map, PySem.sizeLine_eq]
    omega
  have h5 : (PyData.tuple (l.map .int)).depth = 1 := depth_row l
  have h6 : PyData.strOk (PyData.tuple (l.map .int)).shown = true := by
    rw [h3]
    unfold tupleText
    refine ok_app (ok_app (ok_of "(") (ok_join _ (ok_of ", ") _ fun t ht => ?_)) ?_
    · obtain ⟨i, _, rfl⟩ := List.mem_map.mp ht
      exact ok_of _
    · split
      · exact ok_of ",)"
      · exact ok_of ")"
  rw [h1, h2, h5, h6]
  simp [h4]
theorem repr_row {l : List Int} (cs : Cs) (h : ∀ i ∈ l, i.natAbs < 10 ^ 20) (hl : l.length ≤ 1000) : reprD cs (.tup (l.map .int)) = some (.str (PyData.tuple (l.map .int)).shown) := by
  simp [reprD, pyC, deref, pyD, reprOk_row h hl]
theorem repr_bl (cs : Cs) (b : Bool) : reprD cs (.bl b) = some (.str (PyData.bool b).shown) := by
  have : reprOk (.bool b) = true := by cases b <;> decide +kernel
  simp [reprD, pyC, deref, pyD, this]
theorem eq_str (cs : Cs) {x : Str} (h : PyData.strOk x = true) : eqD cs (.str x) (.str x) = some true := by
  simp [eqD, pyC, deref, pyD, h, shal, PyData.depth, PyData.eqv]
theorem ok_row {l : List Int} (h : ∀ i ∈ l, i.natAbs < 10 ^ 20) (hl : l.length ≤ 1000) : PyData.strOk (PyData.tuple (l.map .int)).shown = true := by
  have := reprOk_row h hl
  unfold reprOk at this
  simp only [Bool.and_eq_true] at this
  exact this.2
theorem ok_bl (b : Bool) : PyData.strOk (PyData.bool b).shown = true := by cases b <;> decide +kernel
@[simp] theorem bi_repr' (cs : Cs) (d : D) : bi1 cs .repr d = reprD cs d := by cases d <;> rfl
end Ev

set_option Elab.async false
set_option linter.all false
set_option maxRecDepth 100000
set_option maxHeartbeats 1000000
set_option autoImplicit false
/-! Draws of the laws with five primes; one of several, a row drawn, sides drawn. -/
namespace Ev
open PySem Dd
variable {T : Tf} {tk : Nat}
def ofDf (tk : Nat) : Df := ⟨2, 2, false, [
  .ret (.idx (.var 1) (.call tk [(.var 0), (.bi .len [(.var 1)])]))]⟩
def someDf (tk : Nat) : Df := ⟨3, 6, true, [
  .par 3 4 (.cel (.bi .list [(.var 1)])) (.cel (.lst [])),
  .for (.name 5) .rng1 [(.var 2)] [.exp (.meth .append (.var 4) [(.meth .popAt (.var 3) [(.call tk [(.var 0), (.bi .len [(.var 3)])])])])],
  .ret (.var 4)]⟩
theorem low_at {n : Nat} {ds : List D} (h : lowDs n ds = true) {i : Nat} (hi : i < ds.length) : lowD n ds[i] = true := by
  rw [lows_iff] at h
  exact h _ (List.getElem_mem hi)
theorem atI_lt {α : Type} {ds : List α} {v : Int} (h0 : 0 ≤ v) (h1 : v < ds.length) : ∃ h : v.toNat < ds.length, L2.atI ds v = some ds[v.toNat] := by
  have h : v.toNat < ds.length := by omega
  refine ⟨h, ?_⟩
  simp only [L2.atI, L2.ixN, h0, if_true, h1, Option.bind_some]
  rw [List.getElem?_eq_getElem h]
theorem erase_map {α β : Type} (f : α → β) : ∀ (l : List α) (i : Nat), (l.map f).eraseIdx i = (l.eraseIdx i).map f
  | [], i => rfl
  | a :: l, 0 => rfl
  | a :: l, i + 1 => by
    simp only [List.map_cons, List.eraseIdx_cons_succ, erase_map f l i]
theorem den_meth {G : Gf} {m : ME} {a e : E} {s s1 : S} {d x v : D} {cs' : Cs} (ha : den G a s = .ok d s) (hs : e.isStar = false) (h1 : den G e s = .ok x s1) (h2 : methD m d [x] s1.cs = some (v, cs')) : den G (.meth m a [e]) s = .ok v ⟨s1.sl, cs'⟩ := by
  rw [den, ha]
  simp only [R.bind_ok]
  rw [denL_one hs h1]
  simp only [R.bind_ok, h2]
/-- tk draws -/
structure Drw (T : Tf) (tk : Nat) : Prop where
  take : ∀ {p : Pot} {m : Int}, p.Ok m → m ≤ 10000 → ∀ {u : Int}, 0 < u → u < 1000 → ∀ {k n : Nat} {cs : Cs}, 1 ≤ k → cs[n]? = some (true, potD p) →
    ∃ v p', 0 ≤ v ∧ v < u ∧ Pot.Ok p' (m + 1) ∧ callF T k tk [.cell n, .int u] cs = some (.int v, cs.set n (true, potD p'))
theorem Drw.apps (W : Drw T tk) {p : Pot} {c : Int} (hp : p.Ok c) (hc : c ≤ 10000) {u : Int} (hu : 0 < u) (hu2 : u < 1000) {k n : Nat} (hk : 1 ≤ k) {cs : Cs} (hn : n < cs.length) (own : Cs) :
    ∃ v p', 0 ≤ v ∧ v < u ∧ Pot.Ok p' (c + 1) ∧ callF T k tk [.cell n, .int u] (cs.set n (true, potD p) ++ own) = some (.int v, cs.set n (true, potD p') ++ own) := by
  obtain ⟨v, p', h0, h1, h2, e⟩ := W.take hp hc hu hu2 hk (get_apps cs hn (true, potD p) own)
  exact ⟨v, p', h0, h1, h2, by rw [e, set_apps cs hn]⟩
def take5 (p1 p2 p3 p4 p5 A B M C W Z : Int) : Df := ⟨2, 5, false, [
  .ite (.cmp .gt (.idx (.var 0) (.kint 0)) (.kint 0)) [.set 4 (.bin .mod (.bi .int [(.idx (.var 0) (.kint 0))]) (.var 1)), .setix (.var 0) (.kint 0) (.bin .fdiv (.idx (.var 0) (.kint 0)) (.var 1)), .ret (.var 4)] [],
  .setix (.var 0) (.kint 2) (.bin .add (.idx (.var 0) (.kint 2)) (.kint 1)),
  .set 2 (.idx (.lst [(.kint p1), (.kint p2), (.kint p3), (.kint p4), (.kint p5)]) (.bin .mod (.bi .int [(.idx (.var 0) (.kint 2))]) (.kint 5))),
  .set 3 (.bin .mod (.bi .int [(.bin .pow (.bi .int [(.bin .add (.bin .add (.idx (.var 0) (.kint 1)) (.bin .mul (.bin .mul (.kint A) (.idx (.var 0) (.kint 2))) (.idx (.var 0) (.kint 2)))) (.kint B))]) (.kint 3))]) (.var 2)),
  .set 3 (.bin .mod (.bi .int [(.bin .mul (.var 3) (.bin .add (.bin .mod (.bi .int [(.var 3)]) (.kint M)) (.bin .mul (.kint C) (.idx (.var 0) (.kint 2)))))]) (.kint W)),
  .ret (.bin .mod (.bi .int [(.bin .fdiv (.var 3) (.kint Z))]) (.var 1))]⟩
structure Sm5 (p1 p2 p3 p4 p5 A B M C W Z : Int) : Prop where
  q1 : 0 < p1 ∧ p1 ≤ 2147483647
  q2 : 0 < p2 ∧ p2 ≤ 2147483647
  q3 : 0 < p3 ∧ p3 ≤ 2147483647
  q4 : 0 < p4 ∧ p4 ≤ 2147483647
  q5 : 0 < p5 ∧ p5 ≤ 2147483647
  a : 0 ≤ A ∧ A ≤ 200000
  b : 0 ≤ B ∧ B ≤ 100000
  m : 0 < M
  c : 0 ≤ C ∧ C ≤ 100000
  w : 0 < W
  z : 0 < Z ∧ Z < 1073741824
variable {p1 p2 p3 p4 p5 A B M C W Z : Int}
theorem at_5 (sm : Sm5 p1 p2 p3 p4 p5 A B M C W Z) (c : Int) : ∃ q : Int, 0 < q ∧ q ≤ 2147483647 ∧ L2.atI [D.int p1, .int p2, .int p3, .int p4, .int p5] (c.fmod 5) = some (.int q) := by
  obtain ⟨h1, h2⟩ := fmod_bd c (u := 5) (by decide)
  generalize c.fmod 5 = r at h1 h2
  have h : r = 0 ∨ r = 1 ∨ r = 2 ∨ r = 3 ∨ r = 4 := by omega
  rcases h with h | h | h | h | h <;> subst h
  · exact ⟨p1, sm.q1.1, sm.q1.2, rfl⟩
  · exact ⟨p2, sm.q2.1, sm.q2.2, rfl⟩
  · exact ⟨p3, sm.q3.1, sm.q3.2, rfl⟩
  · exact ⟨p4, sm.q4.1, sm.q4.2, rfl⟩
  · exact ⟨p5, sm.q5.1, sm.q5.2, rfl⟩
theorem take5A (hT : T tk = some (take5 p1 p2 p3 p4 p5 A B M C W Z)) {p : Pot} (ha : 0 < p.a) {u : Int} (hu : 0 < u) (hu2 : u < 1000) {k n : Nat} {cs : Cs} (hk : 1 ≤ k) (hc : cs[n]? = some (true, potD p)) :
    callF T k tk [.cell n, .int u] cs = some (.int (p.a.fmod u), cs.set n (true, potD (takeA p u))) := by
  have hn : n < cs.length := (List.getElem?_eq_some_iff.mp hc).1
  cases k with
  | zero => omega
  | succ k =>
    rw [callF, hT]
    have e1 := ix_cell hc 0
    have key : denCs (callF T k) (take5 p1 p2 p3 p4 p5 A B M C W Z).body ⟨[some (.cell n), some (.int u), none, none, none], cs⟩ = .rt (.int (p.a.fmod u)) (cs.set n (true, potD (takeA p u))) := by
      refine cons_rt ?_
      have e2 := fdiv_i cs p.a hu (show u < 1073741824 by omega)
      have hc' : cs[n]? = some (true, .lst [.int p.a, .int p.b, .int p.c]) := hc
      simp [denC, denCs, den, denL, E.isStar, e1, ha, mod_i, e2, hu, setS, potD, L2.ixN, hc', lowD, takeA]
    simp only [take5, List.length_cons, List.length_nil, if_true] at key ⊢
    have hd : List.map some [D.cell n, D.int u] ++ List.replicate (5 - 2) none = [some (.cell n), some (.int u), none, none, none] := rfl
    rw [hd, key]
    simp only [outD, lowD, if_true]
    rw [List.take_of_length_le (by rw [List.length_set]; exact Nat.le_refl _)]
theorem take5B (hT : T tk = some (take5 p1 p2 p3 p4 p5 A B M C W Z)) (sm : Sm5 p1 p2 p3 p4 p5 A B M C W Z) {p : Pot} (ha : ¬ 0 < p.a) (hp : p.Ok 10000) {u : Int} (hu : 0 < u) (hu2 : u < 1000) {k n : Nat} {cs : Cs} (hk : 1 ≤ k) (hc : cs[n]? = some (true, potD p)) :
    ∃ v, 0 ≤ v ∧ v < u ∧ callF T k tk [.cell n, .int u] cs = some (.int v, cs.set n (true, potD (takeB p))) := by
  have hn : n < cs.length := (List.getElem?_eq_some_iff.mp hc).1
  cases k with
  | zero => omega
  | succ k =>
    obtain ⟨a0, b0, b1, c0, c1⟩ := hp
    obtain ⟨q, q0, q1, eq⟩ := at_5 sm (p.c + 1)
    have hc' : cs[n]? = some (true, .lst [.int p.a, .int p.b, .int p.c]) := hc
    have e1 := ix_cell hc 0
    have e2 := ix_cell hc 2
    have hc1 : (cs.set n (true, potD (takeB p)))[n]? = some (true, .lst [.int p.a, .int p.b, .int (p.c + 1)]) := List.getElem?_set_self hn
    have f1 := ix_cell hc1 1
    have f2 := ix_cell hc1 2
    obtain ⟨sa0, sa1⟩ := sm.a
    obtain ⟨sb0, sb1⟩ := sm.b
    obtain ⟨sc0, sc1⟩ := sm.c
    have m1 : ∀ cs, binD cs .mul (.int A) (.int (p.c + 1)) = some (.int (A * (p.c + 1))) := fun cs => mul_l cs (by omega)
    have m2 : ∀ cs, binD cs .mul (.int (A * (p.c + 1))) (.int (p.c + 1)) = some (.int (A * (p.c + 1) * (p.c + 1))) := fun cs => mul_r cs (by omega)
    have m3 : ∀ cs, binD cs .mul (.int C) (.int (p.c + 1)) = some (.int (C * (p.c + 1))) := fun cs => mul_l cs (by omega)
    have hsq : 0 ≤ A * (p.c + 1) * (p.c + 1) ∧ A * (p.c + 1) * (p.c + 1) ≤ 200000 * 10001 * 10001 := by
      have h3 : 0 ≤ p.c + 1 := by omega
      have h4 : p.c + 1 ≤ 10001 := by omega
      have h1 : 0 ≤ A * (p.c + 1) := Int.mul_nonneg sa0 h3
      have h2 : A * (p.c + 1) ≤ 200000 * 10001 := Int.mul_le_mul sa1 h4 h3 (by omega)
      exact ⟨Int.mul_nonneg h1 h3, Int.mul_le_mul h2 h4 h3 (by omega)⟩
    generalize hX : A * (p.c + 1) * (p.c + 1) = X at m2 hsq
    have pw : ∀ cs, binD cs .pow (.int (p.b + X + B)) (.int 3) = some (.int ((p.b + X + B) ^ 3)) := fun cs => pow3 cs (by omega) (by omega)
    obtain ⟨g1, g2⟩ := fmod_bd ((p.b + X + B) ^ 3) q0
    generalize hB : ((p.b + X + B) ^ 3).fmod q = Y at g1 g2
    have m4 : ∀ cs V, binD cs .mul (.int Y) (.int V) = some (.int (Y * V)) := fun cs V => mul_l cs (by omega)
    have w0 := sm.w
    have z0 := sm.z
    have mm := sm.m
    generalize hV : (Y * (Y.fmod M + C * (p.c + 1))).fmod W = V
    obtain ⟨v0, v1⟩ := fmod_bd (V.fdiv Z) hu
    refine ⟨_, v0, v1, ?_⟩
    rw [callF, hT]
    have dv : ∀ cs, binD cs .fdiv (.int V) (.int Z) = some (.int (V.fdiv Z)) := fun cs => fdiv_i cs V z0.1 z0.2
    have key : denCs (callF T k) (take5 p1 p2 p3 p4 p5 A B M C W Z).body ⟨[some (.cell n), some (.int u), none, none, none], cs⟩ = .rt (.int ((V.fdiv Z).fmod u)) (cs.set n (true, potD (takeB p))) := by
      refine (cons_nx (s' := ⟨[some (.cell n), some (.int u), none, none, none], cs⟩) (by simp [denC, denCs, den, denL, e1, ha])).trans ?_
      refine (cons_nx (s' := ⟨[some (.cell n), some (.int u), none, none, none], cs.set n (true, potD (takeB p))⟩) (by simp [denC, den, denL, e2, L2.ixN, hc', lowD, potD, takeB])).trans ?_
      refine (cons_nx (s' := ⟨[some (.cell n), some (.int u), some (.int q), none, none], cs.set n (true, potD (takeB p))⟩) (by simp [denC, den, denL, E.isStar, f2, mod_i, eq, setS])).trans ?_
      refine (cons_nx (s' := ⟨[some (.cell n), some (.int u), some (.int q), some (.int Y), none], cs.set n (true, potD (takeB p))⟩) (by simp [denC, den, denL, E.isStar, f1, f2, m1, m2, pw, mod_i, q0, hB, setS])).trans ?_
      refine (cons_nx (s' := ⟨[some (.cell n), some (.int u), some (.int q), some (.int V), none], cs.set n (true, potD (takeB p))⟩) (by simp [denC, den, denL, E.isStar, f2, mod_i, m3, m4, mm, w0, hV, setS])).trans ?_
      simp [denCs, denC, den, denL, E.isStar, mod_i, dv, hu]
    simp only [take5, List.length_cons, List.length_nil, if_true] at key ⊢
    have hd : List.map some [D.cell n, D.int u] ++ List.replicate (5 - 2) none = [some (.cell n), some (.int u), none, none, none] := rfl
    rw [hd, key]
    simp only [outD, lowD, if_true]
    rw [List.take_of_length_le (by rw [List.length_set]; exact Nat.le_refl _)]
theorem drw5 (hT : T tk = some (take5 p1 p2 p3 p4 p5 A B M C W Z)) (sm : Sm5 p1 p2 p3 p4 p5 A B M C W Z) : Drw T tk where
  take := fun {p m} hp hm {u} hu hu2 {k n cs} hk hc => by
    obtain ⟨a0, b0, b1, c0, c1⟩ := hp
    by_cases ha : 0 < p.a
    · obtain ⟨h1, h2⟩ := fmod_bd p.a hu
      have h3 : 0 ≤ p.a.fdiv u := by
        rw [Int.fdiv_eq_ediv_of_nonneg p.a (by omega)]
        exact Int.ediv_nonneg a0 (by omega)
      exact ⟨_, takeA p u, h1, h2, ⟨h3, b0, b1, c0, by show p.c ≤ m + 1; omega⟩, take5A hT ha hu hu2 hk hc⟩
    · obtain ⟨v, h1, h2, e⟩ := take5B hT sm ha ⟨a0, b0, b1, c0, by omega⟩ hu hu2 hk hc
      exact ⟨v, takeB p, h1, h2, ⟨a0, b0, b1, by show 0 ≤ p.c + 1; omega, by show p.c + 1 ≤ m + 1; omega⟩, e⟩
theorem drw4 {A B C : Int} (hT : T tk = some (takeDf A B C)) (sm : Sm A B C) : Drw T tk := ⟨fun hp hm _ hu hu2 _ _ _ hk hc => s_take hT sm hp hm hu hu2 hk hc⟩
/-- the pot, the sum as it is -/
def pot5 (M A B A2 B2 C2 : Int) : Df := ⟨2, 5, true, [
  .set 2 (.ite (.cmp .lt (.var 1) (.bi .len [(.var 0)])) (.idx (.var 0) (.var 1)) (.bin .add (.bin .add (.bin .mod (.bi .sum [(.sl (.var 0) none (some (.kint 1)))]) (.kint M)) (.bin .mul (.kint A) (.var 1))) (.kint B))),
  .set 3 (.bin .mul (.bin .mod (.bi .int [(.bi .abs [(.var 2)])]) (.bin .pow (.bin .pow (.kint 10) (.kint 60)) (.kint 5))) (.bi .int [(.cmp .ge (.bi .abs [(.var 2)]) (.bin .pow (.kint 10) (.kint 18)))])),
  .set 4 (.bin .mod (.bi .int [(.var 2)]) (.kint 2305843009213693951)),
  .ret (.cel (.lst [(.var 3), (.bin .mod (.bi .int [(.bin .add (.bin .add (.bin .mul (.var 4) (.kint A2)) (.bin .mul (.bin .mul (.kint B2) (.var 1)) (.var 1))) (.kint C2))]) (.kint 2305843009213693921)), (.kint 0)]))]⟩
theorem cell_step5 (M A B : Int) (hM : 0 < M) (hA : -(2 ^ 64) < A ∧ A < 2 ^ 64) (ns : List Int) (j : Nat) : ∃ c : Int, ∀ (G : Gf) (cs : Cs),
    denC G (.set 2 (.ite (.cmp .lt (.var 1) (.bi .len [(.var 0)])) (.idx (.var 0) (.var 1)) (.bin .add (.bin .add (.bin .mod (.bi .sum [(.sl (.var 0) none (some (.kint 1)))]) (.kint M)) (.bin .mul (.kint A) (.var 1))) (.kint B)))) ⟨[some (.ro (ns.map .int)), some (.int (j : Nat)), none, none, none], cs⟩ = .nx ⟨[some (.ro (ns.map .int)), some (.int (j : Nat)), some (.int c), none, none], cs⟩ := by
  have m1 : ∀ cs, binD cs .mul (.int A) (.int (j : Nat)) = some (.int (A * j)) := fun cs => mul_l cs hA
  by_cases h : j < ns.length
  · refine ⟨ns[j], fun G cs => ?_⟩
    have h' : (j : Int) < (ns.length : Int) := by omega
    have e := ro_at cs ns h
    simp [denC, den, denL, E.isStar, h', e, setS]
  · refine ⟨(ns.take 1).sum.fmod M + A * j + B, fun G cs => ?_⟩
    have h' : ¬ (j : Int) < (ns.length : Int) := by omega
    have e := sum_take cs ns
    simp only [denC, den, denL, denO, E.isStar, List.getElem?_cons_zero, List.getElem?_cons_succ, R.bind_ok, Bool.false_eq_true, if_false, bi_1, bi_len', len_ro, R.of_some, cmp_lt, Option.map_some, List.length_map, decide_eq_false h', sl_ro, cut_to1, bi_sum', e, mod_i cs _ hM, m1, add_int]
    rfl
theorem s_pot5 {M A B A2 B2 C2 : Int} {pt : Nat} (hT : T pt = some (pot5 M A B A2 B2 C2)) (hM : 0 < M) (hA : -(2 ^ 64) < A ∧ A < 2 ^ 64) (hA2 : -(2 ^ 64) < A2 ∧ A2 < 2 ^ 64) (hB2 : -(2 ^ 64) < B2 ∧ B2 < 2 ^ 64) (ns : List Int) {j : Nat} (hj : j < 1000) : ∃ p : Pot, p.Ok 0 ∧ Ret T 1 pt [.ro (ns.map .int), .int (j : Nat)] (potD p) := by
  obtain ⟨Q1, q1, l1, p1⟩ := pow_pos_i [] (i := 10) (j := 60) (b := 4) (by decide) (by decide) (by decide) (by decide)
  obtain ⟨Q2, q2, l2, p2⟩ := pow_pos_i [] (i := Q1) (j := 5) (b := 241) q1 (by decide) (Nat.lt_of_lt_of_le l1 (by decide)) (by decide)
  obtain ⟨R3, q3, l3, p3⟩ := pow_pos_i [] (i := 10) (j := 18) (b := 4) (by decide) (by decide) (by decide) (by decide)
  obtain ⟨c, r1⟩ := cell_step5 M A B hM hA ns j
  obtain ⟨a, a0, r2⟩ := own_step c Q1 Q2 R3 p1 p2 p3 q2
  obtain ⟨sm, s0, s1, r3⟩ := small_step 2305843009213693951 (by decide) (some (.ro (ns.map .int))) (some (.int (j : Nat))) c (some (.int a))
  obtain ⟨b, b0, b1, r4⟩ := pot_step 2305843009213693921 A2 B2 C2 (by decide) hA2 hB2 (some (.ro (ns.map .int))) (some (.int c)) j hj a sm
  refine ⟨⟨a, b, 0⟩, ⟨a0, b0, by show b < _; omega, Int.le_refl _, Int.le_refl _⟩, ?_⟩
  refine .ofF hT rfl rfl (by simp [lowDs, lowD]) fun k cs hk => ?_
  refine ⟨cs.length, [(true, potD ⟨a, b, 0⟩)], Nat.le_refl _, by simp [potD], ?_⟩
  refine (cons_nx (r1 _ _)).trans ((cons_nx (r2 _ _ _ _)).trans ((cons_nx (r3 _ _)).trans ?_))
  exact cons_rt (r4 _ _)
/-- one of several -/
theorem Drw.of (W : Drw T tk) {of : Nat} (hT : T of = some (ofDf tk)) {p : Pot} {c : Int} (hp : p.Ok c) (hc : c ≤ 10000) {ds : List D} (l0 : 0 < ds.length) (l1 : ds.length < 1000) (hlow : lowDs 0 ds = true) {d : D} (hd : d = .lst ds ∨ d = .tup ds) {k n : Nat} (hk : 2 ≤ k) {cs : Cs} (hn : n < cs.length) (own : Cs) :
    ∃ (i : Nat) (hi : i < ds.length) (p' : Pot), callF T k of [.cell n, d] (cs.set n (true, potD p) ++ own) = some (ds[i], cs.set n (true, potD p') ++ own) ∧ p'.Ok (c + 1) := by
  cases k with
  | zero => omega
  | succ k =>
    obtain ⟨v, p', v0, v1, hp', e⟩ := W.apps hp hc (u := ds.length) (by omega) (by omega) (k := k) (by omega) hn own
    obtain ⟨hv, ea⟩ := atI_lt (ds := ds) v0 v1
    refine ⟨v.toNat, hv, p', ?_, hp'⟩
    rw [callF, hT]
    have hi : ∀ cs, ixD cs d (.int v) = some ds[v.toNat] := fun cs => by rcases hd with rfl | rfl <;> exact ea
    have hl : ∀ cs, bi1 cs .len d = some (.int ds.length) := fun cs => by rcases hd with rfl | rfl <;> rfl
    have key : denCs (callF T k) (ofDf tk).body ⟨[some (.cell n), some d], cs.set n (true, potD p) ++ own⟩ = .rt ds[v.toNat] (cs.set n (true, potD p') ++ own) := by
      refine cons_rt (ret_of (den_idx (s1 := ⟨[some (.cell n), some d], cs.set n (true, potD p) ++ own⟩) (den_var rfl) (den_call2 (x := .cell n) (y := .int ds.length) (s2 := ⟨[some (.cell n), some d], cs.set n (true, potD p) ++ own⟩) rfl rfl (den_var rfl) (den_bi1 rfl (den_var rfl) (hl _)) e) (hi _)))
    have h1 : List.map some [D.cell n, d] ++ List.replicate ((ofDf tk).ns - (ofDf tk).np) none = [some (.cell n), some d] := rfl
    have h2 : [D.cell n, d].length = (ofDf tk).np := rfl
    have h3 : (ofDf tk).fr = false := rfl
    simp only [h2, if_true, h1, key, h3, outD, low_le (Nat.zero_le _) _ (low_at hlow hv)]
    rw [List.take_of_length_le (by simp)]
theorem Drw.sign (W : Drw T tk) {of : Nat} (hT : T of = some (ofDf tk)) {p : Pot} {c : Int} (hp : p.Ok c) (hc : c ≤ 10000) {k n : Nat} (hk : 2 ≤ k) {cs : Cs} (hn : n < cs.length) (own : Cs) :
    ∃ (v : Int) (p' : Pot), (v = 1 ∨ v = -1) ∧ callF T k of [.cell n, .lst [.int 1, .int (-1)]] (cs.set n (true, potD p) ++ own) = some (.int v, cs.set n (true, potD p') ++ own) ∧ p'.Ok (c + 1) := by
  obtain ⟨i, hi, p', e, h⟩ := W.of hT hp hc (ds := [.int 1, .int (-1)]) (by simp) (by simp) (by simp [lowDs, lowD]) (.inl rfl) hk hn own
  simp only [List.length_cons, List.length_nil] at hi
  have : i = 0 ∨ i = 1 := by omega
  rcases this with rfl | rfl
  · exact ⟨1, p', .inl rfl, e, h⟩
  · exact ⟨-1, p', .inr rfl, e, h⟩
end Ev

set_option Elab.async false
set_option linter.all false
set_option maxRecDepth 100000
set_option maxHeartbeats 1000000
set_option autoImplicit false
/-! Nets drawn pair by pair. -/
namespace Ev
open PySem Dd
variable {T : Tf} {tk of pr nt : Nat}
abbrev Pr := Int × Int
def pairD (p : Pr) : D := .tup [.int p.1, .int p.2]
def rowP (m : Int) (i : Nat) : List Pr := (List.range (m - ((i : Nat) + 1)).toNat).map fun j => ((i : Int), (i : Int) + 1 + (j : Nat))
def pairsL (m : Int) : List Pr := (List.range m.toNat).foldl (fun acc i => acc ++ rowP m i) []
def pairsDf : Df := ⟨1, 4, true, [
  .set 1 (.cel (.lst [])),
  .for (.name 2) .rng1 [(.var 0)] [.exp (.meth .extend (.var 1) [(.lc (.tup [(.var 2), (.var 3)]) (.name 3) .rng2 [(.bin .add (.var 2) (.kint 1)), (.var 0)] [] [3])])],
  .ret (.var 1)]⟩
theorem fold_app {α β : Type} (f : α → List β) : ∀ (l : List α) (acc : List β), l.foldl (fun acc i => acc ++ f i) acc = acc ++ l.flatMap f
  | [], acc => by simp
  | a :: l, acc => by rw [List.foldl_cons, fold_app f l]; simp
theorem pairsL_eq (m : Int) : pairsL m = (List.range m.toNat).flatMap (rowP m) := by rw [pairsL, fold_app]; simp
theorem mem_pairs {m : Int} {p : Pr} : p ∈ pairsL m ↔ 0 ≤ p.1 ∧ p.1 < p.2 ∧ p.2 < m := by
  rw [pairsL_eq]
  simp only [List.mem_flatMap, List.mem_range, rowP, List.mem_map]
  constructor
  · rintro ⟨i, hi, j, hj, rfl⟩
    refine ⟨?_, ?_, ?_⟩ <;> simp only <;> omega
  · rintro ⟨h1, h2, h3⟩
    refine ⟨p.1.toNat, by omega, (p.2 - p.1 - 1).toNat, by omega, ?_⟩
    ext <;> simp only <;> omega
theorem rows_len (m : Int) (b : Nat) : ∀ l : List Nat, (∀ i ∈ l, (rowP m i).length ≤ b) → (l.flatMap (rowP m)).length ≤ b * l.length
  | [], _ => by simp
  | i :: l, h => by
    rw [List.flatMap_cons, List.length_append, List.length_cons, Nat.mul_succ]
    have := rows_len m b l fun j hj => h j (List.mem_cons_of_mem _ hj)
    have := h i List.mem_cons_self
    omega
theorem pairs_few {m : Int} (hm : m ≤ 10) : (pairsL m).length ≤ 90 := by
  rw [pairsL_eq]
  refine Nat.le_trans (rows_len m 9 _ fun i _ => ?_) ?_
  · simp only [rowP, List.length_map, List.length_range]; omega
  · simp only [List.length_range]; omega
theorem rng2_of {i j : Int} (h0 : -100000 ≤ i) (h1 : i ≤ 100000) (h2 : -100000 ≤ j) (h3 : j ≤ 100000) : rngD [.int i, .int j] = some (rangeD i j) := by
  have a1 : -(2 ^ 62) ≤ i := by omega
  have a2 : i < 2 ^ 62 := by omega
  have a3 : -(2 ^ 62) ≤ j := by omega
  have a4 : j < 2 ^ 62 := by omega
  have a5 : (j - i).toNat ≤ 16777216 := by omega
  simp only [rngD, smallR, fits, decide_eq_true a1, decide_eq_true a2, decide_eq_true a3, decide_eq_true a4, decide_eq_true a5, Bool.and_self, if_true]
theorem pair_low (n : Nat) (p : Pr) : lowD n (pairD p) = true := by simp [pairD, lowD, lowDs]
theorem lows_pairs (n : Nat) (l : List Pr) : lowDs n (l.map pairD) = true := by
  rw [lows_iff]
  intro d hd
  obtain ⟨p, _, rfl⟩ := List.mem_map.mp hd
  exact pair_low n p
abbrev lapPairs : List C := [.exp (.meth .extend (.var 1) [(.lc (.tup [(.var 2), (.var 3)]) (.name 3) .rng2 [(.bin .add (.var 2) (.kint 1)), (.var 0)] [] [3])])]
theorem end_get (cs : Cs) (x : Bool × D) : (cs ++ [x])[cs.length]? = some x := by
  rw [List.getElem?_append_right (Nat.le_refl _), Nat.sub_self]
  rfl
theorem end_set (cs : Cs) (x y : Bool × D) : (cs ++ [x]).set cs.length y = cs ++ [y] := by
  rw [List.set_append_right _ _ (Nat.le_refl _), Nat.sub_self]
  rfl
theorem forL_cons {tg : Tg} {b : S → Rs} {d : D} {r : List D} {s s' : S} {sl : List (Option D)} (h1 : bindT tg d s.sl = some sl) (h2 : b ⟨sl, s.cs⟩ = .nx s') : forL tg b (d :: r) s = forL tg b r s' := by
  rw [forL]
  simp only [h1, h2]
theorem lc_pairs {G : Gf} {m : Int} (h0 : 0 ≤ m) (h1 : m ≤ 10) {i : Nat} (i9 : i ≤ 1000) (x1 : Option D) (cs : Cs) :
    den G (.lc (.tup [(.var 2), (.var 3)]) (.name 3) .rng2 [(.bin .add (.var 2) (.kint 1)), (.var 0)] [] [3]) ⟨[some (.int m), x1, some (.int (i : Nat)), none], cs⟩ = .ok (.lst ((rowP m i).map pairD)) ⟨[some (.int m), x1, some (.int (i : Nat)), none], cs⟩ := by
  have hr : rngD [.int ((i : Nat) + 1), .int m] = some (rangeD ((i : Nat) + 1) m) := rng2_of (by omega) (by omega) (by omega) (by omega)
  refine den_lc (ds := [.int ((i : Nat) + 1), .int m]) (items := rangeD ((i : Nat) + 1) m) (by simp [den, denL, E.isStar]) (by rw [srcD]; exact hr) ?_
  rw [rangeD_map]
  have q := lcL_map (sl := wipeS [some (.int m), x1, some (.int (i : Nat)), none] [3]) (t := .name 3) (G := G) (elt := den G (.tup [(.var 2), (.var 3)])) (enc := fun j : Nat => D.int ((i : Nat) + 1 + (j : Nat))) (fun j => [some (.int m), x1, some (.int (i : Nat)), some (.int ((i : Nat) + 1 + (j : Nat)))])
    (fun j => pairD ((i : Nat), (i : Nat) + 1 + (j : Nat))) (xs := List.range (m - ((i : Nat) + 1)).toNat) (acc := []) (cs := cs) (fun j hj => ⟨by simp [bindT, wipeS], by simp [den, denL, E.isStar, pairD]⟩)
  rw [List.nil_append] at q
  refine q.trans ?_
  rw [rowP, List.map_map]
  rfl
theorem ext_pairs (cs : Cs) {acc more : List Pr} (h : acc.length + more.length ≤ 1000) : methD .extend (.cell cs.length) [.lst (more.map pairD)] (cs ++ [(true, .lst (acc.map pairD))]) = some (.non, cs ++ [(true, .lst ((acc ++ more).map pairD))]) := by
  have f : fits ((acc.map pairD).length + (more.map pairD).length) = true := by
    rw [List.length_map, List.length_map, fits]
    exact decide_eq_true (by omega)
  simp only [methD, end_get, f, lows_pairs, Bool.and_self, if_true, end_set, List.map_append]
theorem lap_pairs {G : Gf} {m : Int} (h0 : 0 ≤ m) (h1 : m ≤ 10) (cs : Cs) {i : Nat} (i9 : i ≤ 1000) {acc : List Pr} (hl : acc.length ≤ 900) :
    denCs G lapPairs ⟨[some (.int m), some (.cell cs.length), some (.int (i : Nat)), none], cs ++ [(true, .lst (acc.map pairD))]⟩ = .nx ⟨[some (.int m), some (.cell cs.length), some (.int (i : Nat)), none], cs ++ [(true, .lst ((acc ++ rowP m i).map pairD))]⟩ := by
  have rl : (rowP m i).length ≤ 10 := by simp only [rowP, List.length_map, List.length_range]; omega
  exact (cons_nx (exp_meth (d := .cell cs.length) rfl rfl (lc_pairs h0 h1 i9 _ _) (ext_pairs cs (by omega)))).trans (by simp [denCs])
theorem laps_pairs {b : S → Rs} {m : Int} (cs : Cs) (hb : ∀ (i : Nat) (acc : List Pr), i ≤ 1000 → acc.length ≤ 900 → b ⟨[some (.int m), some (.cell cs.length), some (.int (i : Nat)), none], cs ++ [(true, .lst (acc.map pairD))]⟩ = .nx ⟨[some (.int m), some (.cell cs.length), some (.int (i : Nat)), none], cs ++ [(true, .lst ((acc ++ rowP m i).map pairD))]⟩)
    (h1 : m ≤ 10) : ∀ (is : List Nat) (acc : List Pr) (x2 : Option D), (∀ i ∈ is, i ≤ 1000) → acc.length + 10 * is.length ≤ 900 →
    ∃ y2, forL (.name 2) b (is.map fun i => .int (i : Nat)) ⟨[some (.int m), some (.cell cs.length), x2, none], cs ++ [(true, .lst (acc.map pairD))]⟩ = .nx ⟨[some (.int m), some (.cell cs.length), y2, none], cs ++ [(true, .lst ((acc ++ is.flatMap (rowP m)).map pairD))]⟩
  | [], acc, x2, _, _ => ⟨x2, by simp [forL]⟩
  | i :: is, acc, x2, hi, hl => by
    rw [List.length_cons] at hl
    have rl : (rowP m i).length ≤ 10 := by simp only [rowP, List.length_map, List.length_range]; omega
    obtain ⟨y2, e⟩ := laps_pairs cs hb h1 is (acc ++ rowP m i) (some (.int (i : Nat))) (fun j hj => hi j (List.mem_cons_of_mem _ hj)) (by rw [List.length_append]; omega)
    refine ⟨y2, ?_⟩
    have step := hb i acc (hi i List.mem_cons_self) (by omega)
    have ht : bindT (.name 2) (D.int ((i : Nat) : Int)) [some (.int m), some (.cell cs.length), x2, none] = some [some (.int m), some (.cell cs.length), some (.int (i : Nat)), none] := by simp [bindT]
    rw [List.map_cons, forL]
    simp only [ht, step, e]
    rw [List.flatMap_cons, List.append_assoc]
theorem s_pairs (hT : T pr = some pairsDf) {m : Int} (h0 : 0 ≤ m) (h1 : m ≤ 10) : Ret T 1 pr [.int m] (.lst ((pairsL m).map pairD)) := by
  refine .ofF hT rfl rfl (lows_pairs 0 _) fun k cs hk => ?_
  refine ⟨cs.length, [(true, .lst ((pairsL m).map pairD))], Nat.le_refl _, end_get cs _, ?_⟩
  have hs : denC (callF T k) (.set 1 (.cel (.lst []))) ⟨[some (.int m), none, none, none], cs⟩ = .nx ⟨[some (.int m), some (.cell cs.length), none, none], cs ++ [(true, .lst [])]⟩ := by
    simp [denC, den, denL, E.isStar, setS, lowDs]
  obtain ⟨y2, e⟩ := laps_pairs (b := denCs (callF T k) lapPairs) cs (fun i acc i9 hl => lap_pairs h0 h1 cs i9 hl) h1 (List.range m.toNat) [] none (fun i hi => by have := List.mem_range.mp hi; omega) (by simp; omega)
  refine (cons_nx hs).trans ?_
  refine (cons_nx (for_eq (ds := [.int m]) (items := rangeD 0 m) (s1 := ⟨[some (.int m), some (.cell cs.length), none, none], cs ++ [(true, .lst [])]⟩) (by simp [den, denL, E.isStar]) (by simp [srcD, rng_of h0 (by omega)]) (by rw [rangeD_0]; exact e))).trans ?_
  rw [pairsL_eq]
  exact cons_rt (ret_of (den_var rfl))
/-! the net -/
abbrev lapNet5 (tk of : Nat) : List C := [.set 8 (.call of [(.var 0), (.lst [(.kint 1), (.neg (.kint 1))])]), .ite (.or (.cmp .eq (.var 3) (.kint 2)) (.cmp .gt (.call tk [(.var 0), (.var 6)]) (.kint 0))) [.exp (.meth .append (.var 5) [(.bin .add (.var 7) (.tup [(.var 8)]))])] [], .ite (.and (.cmp .eq (.var 3) (.kint 0)) (.cmp .eq (.call tk [(.var 0), (.kint 7)]) (.kint 0))) [.exp (.meth .append (.var 5) [(.bin .add (.var 7) (.tup [(.neg (.var 8))]))])] []]
def net5Df (tk of pr : Nat) : Df := ⟨4, 9, false, [
  .par 4 5 (.bin .add (.var 1) (.call tk [(.var 0), (.bin .add (.bin .sub (.var 2) (.var 1)) (.kint 1))])) (.cel (.lst [])),
  .set 6 (.bin .add (.kint 2) (.call tk [(.var 0), (.kint 3)])),
  .for (.name 7) .seq [(.call pr [(.var 4)])] (lapNet5 tk of),
  .ret (.tup [(.var 4), (.bi .tuple [(.bi .sortset [(.var 5)])])])]⟩
theorem app_tie {cs : Cs} {L : List Tie} {n : Nat} {p : Pot} (t : Tie) (hl : L.length ≤ 100000) : methD .append (.cell cs.length) [tieD t] (cs.set n (true, potD p) ++ [(true, .lst (L.map tieD))]) = some (.non, cs.set n (true, potD p) ++ [(true, .lst ((L ++ [t]).map tieD))]) := by
  have g := get_app2 cs (n := n) (true, potD p) (true, .lst (L.map tieD))
  have f : fits ((L.map tieD).length + 1) = true := by simp [fits]; omega
  simp only [methD, g, f, tie_low, Bool.and_self, if_true, set_app2, List.map_append]
  rfl
theorem lap_net5 (W : Drw T tk) (hO : T of = some (ofDf tk)) {k n : Nat} (hk : 2 ≤ k) {cs : Cs} (hn : n < cs.length) {m way rare : Int} (r0 : 2 ≤ rare) (r1 : rare < 1000) {pq : Pr} (h0 : 0 ≤ pq.1) (h1 : pq.1 < pq.2) (h2 : pq.2 < m) (lo hi x8 : Option D) {p : Pot} {c : Int} (hp : p.Ok c) (hc : c + 3 ≤ 10000) {L : List Tie} (hL : ∀ t ∈ L, tieOk m t) (hl : L.length + 2 ≤ 100000) :
    ∃ (L' : List Tie) (p' : Pot) (y8 : Option D), denCs (callF T k) (lapNet5 tk of) ⟨[some (.cell n), lo, hi, some (.int way), some (.int m), some (.cell cs.length), some (.int rare), some (pairD pq), x8], cs.set n (true, potD p) ++ [(true, .lst (L.map tieD))]⟩ =
      .nx ⟨[some (.cell n), lo, hi, some (.int way), some (.int m), some (.cell cs.length), some (.int rare), some (pairD pq), y8], cs.set n (true, potD p') ++ [(true, .lst (L'.map tieD))]⟩ ∧ p'.Ok (c + 3) ∧ (∀ t ∈ L', tieOk m t) ∧ L'.length ≤ L.length + 2 ∧ (∃ M, L' = L ++ M ∧ (∀ t ∈ M, t.1 = pq.1 ∧ t.2.1 = pq.2) ∧ (way = 2 → M.length = 1) ∧ (way ≠ 0 → M.length ≤ 1)) := by
  let sl : Option D → List (Option D) := fun y => [some (.cell n), lo, hi, some (.int way), some (.int m), some (.cell cs.length), some (.int rare), some (pairD pq), y]
  let st : Pot → List Tie → Cs := fun p L => cs.set n (true, potD p) ++ [(true, .lst (L.map tieD))]
  obtain ⟨v, p1, hv, e1, hp1⟩ := W.sign hO hp (by omega) (k := k) hk hn [(true, .lst (L.map tieD))]
  have tie1 : tieOk m (pq.1, pq.2, v) := ⟨h0, h1, h2, hv⟩
  have tie2 : tieOk m (pq.1, pq.2, -v) := ⟨h0, h1, h2, by rcases hv with rfl | rfl <;> simp⟩
  have g1 : denC (callF T k) (.set 8 (.call of [(.var 0), (.lst [(.kint 1), (.neg (.kint 1))])])) ⟨sl x8, st p L⟩ = .nx ⟨sl (some (.int v)), st p1 L⟩ :=
    denC_set (den_call2 (x := .cell n) (y := .lst [.int 1, .int (-1)]) (s2 := ⟨sl x8, st p L⟩) rfl rfl (den_var rfl) (by simp [den, denL, E.isStar]) e1) (by simp [sl])
  have d1 : ∀ C, den (callF T k) (.bin .add (.var 7) (.tup [(.var 8)])) ⟨sl (some (.int v)), C⟩ = .ok (tieD (pq.1, pq.2, v)) ⟨sl (some (.int v)), C⟩ := fun C => by simp [den, denL, E.isStar, sl, pairD, tieD, tieR]; rfl
  have d2 : ∀ C, den (callF T k) (.bin .add (.var 7) (.tup [(.neg (.var 8))])) ⟨sl (some (.int v)), C⟩ = .ok (tieD (pq.1, pq.2, -v)) ⟨sl (some (.int v)), C⟩ := fun C => by simp [den, denL, E.isStar, sl, pairD, tieD, tieR]; rfl
  have t1 : ∃ (b : Bool) (p2 : Pot), den (callF T k) (.or (.cmp .eq (.var 3) (.kint 2)) (.cmp .gt (.call tk [(.var 0), (.var 6)]) (.kint 0))) ⟨sl (some (.int v)), st p1 L⟩ = .ok (.bl b) ⟨sl (some (.int v)), st p2 L⟩ ∧ p2.Ok (c + 2) ∧ (way = 2 → b = true) := by
    by_cases hw : way = 2
    · exact ⟨true, p1, by simp [den, denL, E.isStar, sl, hw], hp1.mono (by omega), fun _ => rfl⟩
    · obtain ⟨z, p2, z0, z1, hp2, e2⟩ := W.apps hp1 (by omega) (u := rare) (by omega) r1 (k := k) (by omega) hn [(true, .lst (L.map tieD))]
      exact ⟨decide (0 < z), p2, by simp [den, denL, E.isStar, sl, hw, st, e2], hp2.mono (by omega), fun q => absurd q hw⟩
  obtain ⟨b, p2, e2, hp2, fb⟩ := t1
  let L1 : List Tie := if b then L ++ [(pq.1, pq.2, v)] else L
  have g2 : denC (callF T k) (.ite (.or (.cmp .eq (.var 3) (.kint 2)) (.cmp .gt (.call tk [(.var 0), (.var 6)]) (.kint 0))) [.exp (.meth .append (.var 5) [(.bin .add (.var 7) (.tup [(.var 8)]))])] []) ⟨sl (some (.int v)), st p1 L⟩ = .nx ⟨sl (some (.int v)), st p2 L1⟩ := by
    cases b with
    | true => exact (ite_t e2).trans ((cons_nx (exp_meth (i := 5) (d := .cell cs.length) rfl rfl (d1 _) (app_tie _ (by omega)))).trans (by simp [denCs, L1, st]))
    | false => exact (ite_f e2).trans (by simp [denCs, L1])
  have t2 : ∃ (b : Bool) (p3 : Pot), den (callF T k) (.and (.cmp .eq (.var 3) (.kint 0)) (.cmp .eq (.call tk [(.var 0), (.kint 7)]) (.kint 0))) ⟨sl (some (.int v)), st p2 L1⟩ = .ok (.bl b) ⟨sl (some (.int v)), st p3 L1⟩ ∧ p3.Ok (c + 3) ∧ (way ≠ 0 → b = false) := by
    by_cases hw : way = 0
    · obtain ⟨z, p3, z0, z1, hp3, e3⟩ := W.apps hp2 (by omega) (u := 7) (by omega) (by omega) (k := k) (by omega) hn [(true, .lst (L1.map tieD))]
      exact ⟨decide (z = 0), p3, by simp [den, denL, E.isStar, sl, hw, st, e3], hp3.mono (by omega), fun q => absurd hw q⟩
    · exact ⟨false, p2, by simp [den, denL, E.isStar, sl, hw], hp2.mono (by omega), fun _ => rfl⟩
  obtain ⟨b3, p3, e3, hp3, fb3⟩ := t2
  have l1 : L1.length ≤ L.length + 1 := by cases b <;> simp [L1]
  have o1 : ∀ t ∈ L1, tieOk m t := fun t ht => by
    cases b with
    | false => exact hL t ht
    | true =>
      rcases List.mem_append.mp ht with q | q
      · exact hL t q
      · rw [List.mem_singleton.mp q]; exact tie1
  let L2 : List Tie := if b3 then L1 ++ [(pq.1, pq.2, -v)] else L1
  have g3 : denC (callF T k) (.ite (.and (.cmp .eq (.var 3) (.kint 0)) (.cmp .eq (.call tk [(.var 0), (.kint 7)]) (.kint 0))) [.exp (.meth .append (.var 5) [(.bin .add (.var 7) (.tup [(.neg (.var 8))]))])] []) ⟨sl (some (.int v)), st p2 L1⟩ = .nx ⟨sl (some (.int v)), st p3 L2⟩ := by
    cases b3 with
    | true => exact (ite_t e3).trans ((cons_nx (exp_meth (i := 5) (d := .cell cs.length) rfl rfl (d2 _) (app_tie _ (by omega)))).trans (by simp [denCs, L2, st]))
    | false => exact (ite_f e3).trans (by simp [denCs, L2])
  refine ⟨L2, p3, some (.int v), (cons_nx g1).trans ((cons_nx g2).trans ((cons_nx g3).trans (by simp [denCs, sl, st]))), hp3, fun t ht => ?_, ?_, (if b then [(pq.1, pq.2, v)] else []) ++ (if b3 then [(pq.1, pq.2, -v)] else []), ?_, fun t ht => ?_, fun hw => ?_, fun hw => ?_⟩
  · cases b3 with
    | false => exact o1 t ht
    | true =>
      rcases List.mem_append.mp ht with q | q
      · exact o1 t q
      · rw [List.mem_singleton.mp q]; exact tie2
  · cases b3 <;> simp [L2] <;> omega
  · cases b <;> cases b3 <;> simp [L2, L1]
  · cases b <;> cases b3 <;> simp at ht
    · rw [ht]; exact ⟨rfl, rfl⟩
    · rw [ht]; exact ⟨rfl, rfl⟩
    · rcases ht with rfl | rfl <;> exact ⟨rfl, rfl⟩
  · rw [fb hw, fb3 (by omega)]; rfl
  · rw [fb3 hw]; cases b <;> simp
end Ev

set_option Elab.async false
set_option linter.all false
set_option maxRecDepth 100000
set_option maxHeartbeats 1000000
set_option autoImplicit false
/-! Nets, sides and rows drawn. -/
namespace Ev
open PySem Dd
variable {T : Tf} {tk of pr nt : Nat}
theorem laps_net5 {b : S → Rs} {n : Nat} {cs : Cs} {m way rare : Int} {lo hi : Option D}
    (hb : ∀ (pq : Pr) (p : Pot) (c : Int) (L : List Tie) (x8 : Option D), 0 ≤ pq.1 → pq.1 < pq.2 → pq.2 < m → p.Ok c → c + 3 ≤ 10000 → (∀ t ∈ L, tieOk m t) → L.length + 2 ≤ 100000 →
      ∃ (L' : List Tie) (p' : Pot) (y8 : Option D), b ⟨[some (.cell n), lo, hi, some (.int way), some (.int m), some (.cell cs.length), some (.int rare), some (pairD pq), x8], cs.set n (true, potD p) ++ [(true, .lst (L.map tieD))]⟩ =
        .nx ⟨[some (.cell n), lo, hi, some (.int way), some (.int m), some (.cell cs.length), some (.int rare), some (pairD pq), y8], cs.set n (true, potD p') ++ [(true, .lst (L'.map tieD))]⟩ ∧ p'.Ok (c + 3) ∧ (∀ t ∈ L', tieOk m t) ∧ L'.length ≤ L.length + 2) :
    ∀ (ps : List Pr) (p : Pot) (c : Int) (L : List Tie) (x7 x8 : Option D), (∀ q ∈ ps, 0 ≤ q.1 ∧ q.1 < q.2 ∧ q.2 < m) → p.Ok c → c + 3 * ps.length ≤ 9000 → (∀ t ∈ L, tieOk m t) → L.length + 2 * ps.length ≤ 9000 →
      ∃ (L' : List Tie) (p' : Pot) (y7 y8 : Option D), forL (.name 7) b (ps.map pairD) ⟨[some (.cell n), lo, hi, some (.int way), some (.int m), some (.cell cs.length), some (.int rare), x7, x8], cs.set n (true, potD p) ++ [(true, .lst (L.map tieD))]⟩ =
        .nx ⟨[some (.cell n), lo, hi, some (.int way), some (.int m), some (.cell cs.length), some (.int rare), y7, y8], cs.set n (true, potD p') ++ [(true, .lst (L'.map tieD))]⟩ ∧ p'.Ok (c + 3 * ps.length) ∧ (∀ t ∈ L', tieOk m t) ∧ L'.length ≤ L.length + 2 * ps.length
  | [], p, c, L, x7, x8, _, hp, _, hL, _ => ⟨L, p, x7, x8, by simp [forL], hp.mono (by simp), hL, by simp⟩
  | q :: ps, p, c, L, x7, x8, hq, hp, hc, hL, hl => by
    rw [List.length_cons] at hc hl
    obtain ⟨q0, q1, q2⟩ := hq q List.mem_cons_self
    obtain ⟨L1, p1, y8, e1, hp1, o1, l1⟩ := hb q p c L x8 q0 q1 q2 hp (by omega) hL (by omega)
    obtain ⟨L2, p2, z7, z8, e2, hp2, o2, l2⟩ := laps_net5 hb ps p1 (c + 3) L1 (some (pairD q)) y8 (fun r hr => hq r (List.mem_cons_of_mem _ hr)) hp1 (by omega) o1 (by omega)
    refine ⟨L2, p2, z7, z8, ?_, hp2.mono (by rw [List.length_cons]; omega), o2, by rw [List.length_cons]; omega⟩
    have ht : bindT (.name 7) (pairD q) [some (.cell n), lo, hi, some (.int way), some (.int m), some (.cell cs.length), some (.int rare), x7, x8] = some [some (.cell n), lo, hi, some (.int way), some (.int m), some (.cell cs.length), some (.int rare), some (pairD q), x8] := by simp [bindT]
    rw [List.map_cons, forL]
    simp only [ht, e1, e2]
theorem s_net5 (W : Drw T tk) (hO : T of = some (ofDf tk)) (hP : T pr = some pairsDf) (hT : T nt = some (net5Df tk of pr)) {p : Pot} {c : Int} (hp : p.Ok c) (hc : c + 300 ≤ 9000) {lo hi way : Int} (h0 : 1 ≤ lo) (h1 : lo ≤ hi) (h2 : hi ≤ 10) {k n : Nat} (hk : 3 ≤ k) {cs : Cs} (hn : n < cs.length) (own : Cs) :
    ∃ (m : Int) (L : List Tie) (p' : Pot), callF T k nt [.cell n, .int lo, .int hi, .int way] (cs.set n (true, potD p) ++ own) = some (netD (netOf m L), cs.set n (true, potD p') ++ own) ∧ p'.Ok (c + 300) ∧ lo ≤ m ∧ m ≤ hi ∧ (∀ t ∈ L, tieOk m t) ∧ L.length ≤ 180 := by
  cases k with
  | zero => omega
  | succ k =>
    obtain ⟨c0, ec0⟩ : ∃ c0, c0 = cs ++ own := ⟨_, rfl⟩
    have hn0 : n < c0.length := by rw [ec0, List.length_append]; omega
    have eset : ∀ x, cs.set n x ++ own = c0.set n x := fun x => by rw [ec0, List.set_append_left _ _ hn]
    simp only [eset]
    obtain ⟨v, p1, v0, v1, hp1, e1⟩ := W.apps hp (by omega) (u := hi - lo + 1) (by omega) (by omega) (k := k) (by omega) hn0 []
    rw [List.append_nil, List.append_nil] at e1
    obtain ⟨r, p2, r0, r1, hp2, e2⟩ := W.apps hp1 (by omega) (u := 3) (by omega) (by omega) (k := k) (by omega) hn0 [(true, .lst [])]
    obtain ⟨m, em⟩ : ∃ m, m = lo + v := ⟨_, rfl⟩
    have pf := pairs_few (m := m) (by omega)
    obtain ⟨L, p3, y7, y8, e3, hp3, o3, l3⟩ := laps_net5 (b := denCs (callF T k) (lapNet5 tk of)) (n := n) (cs := c0) (m := m) (way := way) (rare := 2 + r) (lo := some (.int lo)) (hi := some (.int hi)) (fun pq p c L x8 a1 a2 a3 a4 a5 a6 a7 => by
      obtain ⟨L', p', y8, b1, b2, b3, b4, _⟩ := lap_net5 W hO (k := k) (by omega) hn0 (way := way) (rare := 2 + r) (by omega) (by omega) a1 a2 a3 (some (.int lo)) (some (.int hi)) x8 a4 a5 a6 a7
      exact ⟨L', p', y8, b1, b2, b3, b4⟩) (pairsL m) p2 (c + 1 + 1) [] none none (fun q hq => mem_pairs.mp hq) hp2 (by omega) (by simp) (by simp; omega)
    simp only [List.length_nil, Nat.zero_add] at l3
    have hset : denC (callF T k) (.par 4 5 (.bin .add (.var 1) (.call tk [(.var 0), (.bin .add (.bin .sub (.var 2) (.var 1)) (.kint 1))])) (.cel (.lst []))) ⟨[some (.cell n), some (.int lo), some (.int hi), some (.int way), none, none, none, none, none], c0.set n (true, potD p)⟩ =
        .nx ⟨[some (.cell n), some (.int lo), some (.int hi), some (.int way), some (.int m), some (.cell c0.length), none, none, none], c0.set n (true, potD p1) ++ [(true, .lst [])]⟩ := by
      simp [denC, den, denL, E.isStar, e1, lowDs, em]
    have hset2 : denC (callF T k) (.set 6 (.bin .add (.kint 2) (.call tk [(.var 0), (.kint 3)]))) ⟨[some (.cell n), some (.int lo), some (.int hi), some (.int way), some (.int m), some (.cell c0.length), none, none, none], c0.set n (true, potD p1) ++ [(true, .lst [])]⟩ =
        .nx ⟨[some (.cell n), some (.int lo), some (.int hi), some (.int way), some (.int m), some (.cell c0.length), some (.int (2 + r)), none, none], c0.set n (true, potD p2) ++ [(true, .lst [])]⟩ := by
      simp [denC, den, denL, E.isStar, e2, setS]
    have pc : ∀ C, callF T k pr [.int m] C = some (.lst ((pairsL m).map pairD), C) := fun C => s_pairs hP (by omega) (by omega) k C (by omega)
    have hfor : denC (callF T k) (.for (.name 7) .seq [(.call pr [(.var 4)])] (lapNet5 tk of)) ⟨[some (.cell n), some (.int lo), some (.int hi), some (.int way), some (.int m), some (.cell c0.length), some (.int (2 + r)), none, none], c0.set n (true, potD p2) ++ [(true, .lst [])]⟩ =
        .nx ⟨[some (.cell n), some (.int lo), some (.int hi), some (.int way), some (.int m), some (.cell c0.length), some (.int (2 + r)), y7, y8], c0.set n (true, potD p3) ++ [(true, .lst (L.map tieD))]⟩ :=
      for_eq (ds := [.lst ((pairsL m).map pairD)]) (items := (pairsL m).map pairD) (s1 := ⟨[some (.cell n), some (.int lo), some (.int hi), some (.int way), some (.int m), some (.cell c0.length), some (.int (2 + r)), none, none], c0.set n (true, potD p2) ++ [(true, .lst [])]⟩) (by simp [den, denL, E.isStar, pc]) rfl e3
    have g1 : (c0.set n (true, potD p3) ++ [(true, .lst (L.map tieD))])[c0.length]? = some (true, .lst (L.map tieD)) := get_app2 c0 _ _
    have fin := sortset_ties (c0.set n (true, potD p3) ++ [(true, .lst (L.map tieD))]) m (L := L) (by omega)
    have hret : denC (callF T k) (.ret (.tup [(.var 4), (.bi .tuple [(.bi .sortset [(.var 5)])])])) ⟨[some (.cell n), some (.int lo), some (.int hi), some (.int way), some (.int m), some (.cell c0.length), some (.int (2 + r)), y7, y8], c0.set n (true, potD p3) ++ [(true, .lst (L.map tieD))]⟩ =
        .rt (netD (netOf m L)) (c0.set n (true, potD p3) ++ [(true, .lst (L.map tieD))]) := by
      simp [denC, den, denL, E.isStar, sortset_cell g1, fin, netD, netOf]
    refine ⟨m, L, p3, ?_, hp3.mono (by omega), by omega, by omega, o3, by omega⟩
    rw [callF, hT]
    have key : denCs (callF T k) (net5Df tk of pr).body ⟨[some (.cell n), some (.int lo), some (.int hi), some (.int way), none, none, none, none, none], c0.set n (true, potD p)⟩ = .rt (netD (netOf m L)) (c0.set n (true, potD p3) ++ [(true, .lst (L.map tieD))]) :=
      (cons_nx hset).trans ((cons_nx hset2).trans ((cons_nx hfor).trans (cons_rt hret)))
    have hd : List.map some [D.cell n, D.int lo, D.int hi, D.int way] ++ List.replicate ((net5Df tk of pr).ns - (net5Df tk of pr).np) none = [some (.cell n), some (.int lo), some (.int hi), some (.int way), none, none, none, none, none] := rfl
    have hl : [D.cell n, D.int lo, D.int hi, D.int way].length = (net5Df tk of pr).np := rfl
    have hf : (net5Df tk of pr).fr = false := rfl
    have low : lowD c0.length (netD (netOf m L)) = true := low_le (Nat.zero_le _) _ (low_net _)
    simp only [hl, if_true, hd, key, hf, outD, List.length_set, low]
    rw [List.take_left' (by rw [List.length_set])]
/-! sides -/
theorem lc_drawn {G : Gf} {elt : M D} {sl : List (Option D)} {v n : Nat} {cs own : Cs} (hv : v < sl.length)
    (he : ∀ (d : D) (p : Pot) (c : Int), p.Ok c → c ≤ 9999 → ∃ (x : Int) (p' : Pot), elt ⟨sl.set v (some d), cs.set n (true, potD p) ++ own⟩ = .ok (.int x) ⟨sl.set v (some d), cs.set n (true, potD p') ++ own⟩ ∧ p'.Ok (c + 1) ∧ (x = 1 ∨ x = -1)) :
    ∀ (is : List Nat) (p : Pot) (c : Int) (acc : List D), p.Ok c → c + is.length ≤ 9999 →
      ∃ (vs : List Int) (p' : Pot), lcL sl (.name v) (denI G []) elt (is.map fun i => .int (i : Nat)) acc (cs.set n (true, potD p) ++ own) = some (acc ++ vs.map .int, cs.set n (true, potD p') ++ own) ∧ p'.Ok (c + is.length) ∧ vs.length = is.length ∧ ∀ x ∈ vs, x = 1 ∨ x = -1
  | [], p, c, acc, hp, _ => ⟨[], p, by simp [lcL], hp.mono (by simp), rfl, by simp⟩
  | i :: is, p, c, acc, hp, hc => by
    rw [List.length_cons] at hc
    obtain ⟨x, p1, e1, hp1, hx⟩ := he (.int (i : Nat)) p c hp (by omega)
    obtain ⟨vs, p', e, h1, h2, h3⟩ := lc_drawn (G := G) hv he is p1 (c + 1) (acc ++ [.int x]) hp1 (by omega)
    refine ⟨x :: vs, p', ?_, h1.mono (by rw [List.length_cons]; omega), by simp [h2], fun y hy => ?_⟩
    · rw [List.map_cons, lcL]
      have hb : bindT (.name v) (D.int (i : Nat)) sl = some (sl.set v (some (.int (i : Nat)))) := by simp [bindT, hv]
      have hi : ∀ s, denI G [] s = .ok (.bl true) s := fun s => by rw [denI]
      simp only [hb, hi, e1]
      rw [e]
      simp
    · rcases List.mem_cons.mp hy with q | hy
      · rw [q]; exact hx
      · exact h3 y hy
def sides5Df (of : Nat) : Df := ⟨2, 3, false, [
  .ret (.bi .tuple [(.lc (.call of [(.var 0), (.lst [(.kint 1), (.neg (.kint 1))])]) (.name 2) .rng1 [(.var 1)] [] [2])])]⟩
theorem s_sides5 (W : Drw T tk) (hO : T of = some (ofDf tk)) {sd : Nat} (hT : T sd = some (sides5Df of)) {p : Pot} {c : Int} (hp : p.Ok c) {m : Int} (h0 : 0 ≤ m) (h1 : m ≤ 100) (hc : c + m ≤ 9000) {k n : Nat} (hk : 3 ≤ k) {cs : Cs} (hn : n < cs.length) (own : Cs) :
    ∃ (vs : List Int) (p' : Pot), callF T k sd [.cell n, .int m] (cs.set n (true, potD p) ++ own) = some (.tup (vs.map .int), cs.set n (true, potD p') ++ own) ∧ p'.Ok (c + m) ∧ (vs.length : Int) = m ∧ ∀ x ∈ vs, x = 1 ∨ x = -1 := by
  cases k with
  | zero => omega
  | succ k =>
    obtain ⟨vs, p', e, h2, h3, h4⟩ := lc_drawn (G := callF T k) (elt := den (callF T k) (.call of [(.var 0), (.lst [(.kint 1), (.neg (.kint 1))])])) (sl := [some (.cell n), some (.int m), none]) (v := 2) (n := n) (cs := cs) (own := own) (by simp) (fun d p c hp hc => by
      obtain ⟨x, p', hx, e, hp'⟩ := W.sign hO hp (by omega) (k := k) (by omega) hn own
      exact ⟨x, p', den_call2 (x := .cell n) (y := .lst [.int 1, .int (-1)]) (s2 := ⟨[some (.cell n), some (.int m), some d], cs.set n (true, potD p) ++ own⟩) rfl rfl (den_var rfl) (by simp [den, denL, E.isStar]) e, hp', hx⟩) (List.range m.toNat) p c [] hp (by simp; omega)
    simp only [List.length_range] at h2 h3
    refine ⟨vs, p', ?_, h2.mono (by omega), by omega, h4⟩
    rw [callF, hT]
    have key : denCs (callF T k) (sides5Df of).body ⟨[some (.cell n), some (.int m), none], cs.set n (true, potD p) ++ own⟩ = .rt (.tup (vs.map .int)) (cs.set n (true, potD p') ++ own) := by
      refine cons_rt (ret_of (s1 := ⟨[some (.cell n), some (.int m), none], cs.set n (true, potD p') ++ own⟩) (den_tup rfl (den_lc (ds := [.int m]) (items := rangeD 0 m) (by simp [den, denL, E.isStar]) (by rw [srcD]; exact rng_of h0 (by omega)) ?_)))
      rw [rangeD_0]
      rw [List.nil_append] at e
      exact e
    have hd : List.map some [D.cell n, D.int m] ++ List.replicate ((sides5Df of).ns - (sides5Df of).np) none = [some (.cell n), some (.int m), none] := rfl
    have hl : [D.cell n, D.int m].length = (sides5Df of).np := rfl
    have hf : (sides5Df of).fr = false := rfl
    have low : lowD (cs.set n (true, potD p) ++ own).length (.tup (vs.map .int)) = true := by simp [lowD]
    simp only [hl, if_true, hd, key, hf, outD, low]
    rw [List.take_of_length_le (by simp)]
end Ev

set_option Elab.async false
set_option linter.all false
set_option maxRecDepth 100000
set_option maxHeartbeats 1000000
set_option autoImplicit false
/-! Rows drawn, each once; the repr of what is nested; cells. -/
namespace Ev
open PySem Dd
variable {T : Tf} {tk : Nat}
theorem erase_perm : ∀ {l : List Int} {v : Nat} (hv : v < l.length), ([l[v]] ++ l.eraseIdx v).Perm l
  | a :: l, 0, _ => .refl _
  | a :: l, v + 1, h => by
    have ih := erase_perm (l := l) (v := v) (Nat.lt_of_succ_lt_succ h)
    simp only [List.getElem_cons_succ, List.eraseIdx_cons_succ, List.singleton_append] at ih ⊢
    exact (List.Perm.swap _ _ _).trans (ih.cons a)
abbrev lapSome (tk : Nat) : List C := [.exp (.meth .append (.var 4) [(.meth .popAt (.var 3) [(.call tk [(.var 0), (.bi .len [(.var 3)])])])])]
theorem lap_some (W : Drw T tk) {k n : Nat} (hk : 1 ≤ k) {cs : Cs} (hn : n < cs.length) (x1 x2 x5 : Option D) {p : Pot} {c : Int} {lf fd : List Int} (hp : p.Ok c) (hc : c ≤ 9999) (l0 : 0 < lf.length) (l1 : lf.length < 1000) (hf : fd.length ≤ 9999) :
    ∃ (v : Nat) (hv : v < lf.length) (p1 : Pot), denCs (callF T k) (lapSome tk) ⟨[some (.cell n), x1, x2, some (.cell cs.length), some (.cell (cs.length + 1)), x5], cs.set n (true, potD p) ++ [(true, .lst (lf.map .int)), (true, .lst (fd.map .int))]⟩ =
      .nx ⟨[some (.cell n), x1, x2, some (.cell cs.length), some (.cell (cs.length + 1)), x5], cs.set n (true, potD p1) ++ [(true, .lst ((lf.eraseIdx v).map .int)), (true, .lst ((fd ++ [lf[v]]).map .int))]⟩ ∧ p1.Ok (c + 1) := by
  obtain ⟨v, p1, v0, v1, hp1, e1⟩ := W.apps hp (by omega) (u := lf.length) (by omega) (by omega) (k := k) hk hn [(true, .lst (lf.map .int)), (true, .lst (fd.map .int))]
  have hv : v.toNat < lf.length := by omega
  refine ⟨v.toNat, hv, p1, ?_, hp1⟩
  have gl : ∀ (q : Pot) (a b : Bool × D), (cs.set n (true, potD q) ++ [a, b])[cs.length]? = some a := fun q a b => by
    rw [List.getElem?_append_right (by rw [List.length_set]; exact Nat.le_refl _), List.length_set, Nat.sub_self]
    rfl
  have gf : ∀ (q : Pot) (a b : Bool × D), (cs.set n (true, potD q) ++ [a, b])[cs.length + 1]? = some b := fun q a b => by
    rw [List.getElem?_append_right (by rw [List.length_set]; omega), List.length_set, Nat.add_sub_cancel_left]
    rfl
  have sl : ∀ (q : Pot) (a b a' : Bool × D), (cs.set n (true, potD q) ++ [a, b]).set cs.length a' = cs.set n (true, potD q) ++ [a', b] := fun q a b a' => by
    rw [List.set_append_right _ _ (by rw [List.length_set]; exact Nat.le_refl _), List.length_set, Nat.sub_self]
    rfl
  have sf : ∀ (q : Pot) (a b b' : Bool × D), (cs.set n (true, potD q) ++ [a, b]).set (cs.length + 1) b' = cs.set n (true, potD q) ++ [a, b'] := fun q a b b' => by
    rw [List.set_append_right _ _ (by rw [List.length_set]; omega), List.length_set, Nat.add_sub_cancel_left]
    rfl
  let s0 : S := ⟨[some (.cell n), x1, x2, some (.cell cs.length), some (.cell (cs.length + 1)), x5], cs.set n (true, potD p) ++ [(true, .lst (lf.map .int)), (true, .lst (fd.map .int))]⟩
  have m1 : methD .popAt (.cell cs.length) [.int v] (cs.set n (true, potD p1) ++ [(true, .lst (lf.map .int)), (true, .lst (fd.map .int))]) = some (.int lf[v.toNat], cs.set n (true, potD p1) ++ [(true, .lst ((lf.eraseIdx v.toNat).map .int)), (true, .lst (fd.map .int))]) := by
    have g1 : L2.ixN (lf.map D.int).length v = some v.toNat := by simp [L2.ixN, v0, v1]
    simp only [methD, gl, g1, List.getElem?_map, List.getElem?_eq_getElem hv, Option.map_some, sl]
    rw [erase_map]
  have m2 : methD .append (.cell (cs.length + 1)) [.int lf[v.toNat]] (cs.set n (true, potD p1) ++ [(true, .lst ((lf.eraseIdx v.toNat).map .int)), (true, .lst (fd.map .int))]) = some (.non, cs.set n (true, potD p1) ++ [(true, .lst ((lf.eraseIdx v.toNat).map .int)), (true, .lst ((fd ++ [lf[v.toNat]]).map .int))]) := by
    have g2 : fits ((fd.map D.int).length + 1) = true := by simp [fits]; omega
    simp only [methD, gf, g2, lowD, Bool.and_self, if_true, sf, List.map_append]
    rfl
  have hlen : bi1 (cs.set n (true, potD p) ++ [(true, .lst (lf.map .int)), (true, .lst (fd.map .int))]) .len (.cell cs.length) = some (.int lf.length) := by
    simp [bi1, lenD, seqC, deref, gl, seqD]
  have t1 : den (callF T k) (.call tk [(.var 0), (.bi .len [(.var 3)])]) s0 = .ok (.int v) ⟨s0.sl, cs.set n (true, potD p1) ++ [(true, .lst (lf.map .int)), (true, .lst (fd.map .int))]⟩ :=
    den_call2 (x := .cell n) (y := .int lf.length) (s2 := s0) rfl rfl (den_var rfl) (den_bi1 rfl (den_var rfl) hlen) e1
  have t2 := den_meth (m := .popAt) (a := .var 3) (d := .cell cs.length) (den_var rfl) rfl t1 m1
  have t3 := exp_meth (m := .append) (i := 4) (d := .cell (cs.length + 1)) (s := s0) rfl rfl t2 m2
  exact (cons_nx t3).trans (by simp [denCs, s0])
theorem laps_some {b : S → Rs} {n : Nat} {cs : Cs} (x1 x2 : Option D)
    (hb : ∀ (p : Pot) (c : Int) (lf fd : List Int) (x5 : Option D), p.Ok c → c ≤ 9999 → 0 < lf.length → lf.length < 1000 → fd.length ≤ 9999 → ∃ (v : Nat) (hv : v < lf.length) (p1 : Pot), b ⟨[some (.cell n), x1, x2, some (.cell cs.length), some (.cell (cs.length + 1)), x5], cs.set n (true, potD p) ++ [(true, .lst (lf.map .int)), (true, .lst (fd.map .int))]⟩ =
      .nx ⟨[some (.cell n), x1, x2, some (.cell cs.length), some (.cell (cs.length + 1)), x5], cs.set n (true, potD p1) ++ [(true, .lst ((lf.eraseIdx v).map .int)), (true, .lst ((fd ++ [lf[v]]).map .int))]⟩ ∧ p1.Ok (c + 1)) :
    ∀ (is : List Nat) (p : Pot) (c : Int) (lf fd : List Int) (x5 : Option D), p.Ok c → c + is.length ≤ 9999 → is.length ≤ lf.length → lf.length < 1000 → fd.length + is.length ≤ 9999 →
    ∃ (lf' fd' : List Int) (p' : Pot) (y5 : Option D), forL (.name 5) b (is.map fun i => .int (i : Nat)) ⟨[some (.cell n), x1, x2, some (.cell cs.length), some (.cell (cs.length + 1)), x5], cs.set n (true, potD p) ++ [(true, .lst (lf.map .int)), (true, .lst (fd.map .int))]⟩ =
      .nx ⟨[some (.cell n), x1, x2, some (.cell cs.length), some (.cell (cs.length + 1)), y5], cs.set n (true, potD p') ++ [(true, .lst (lf'.map .int)), (true, .lst (fd'.map .int))]⟩ ∧ p'.Ok (c + is.length) ∧ (fd' ++ lf').Perm (fd ++ lf) ∧ fd'.length = fd.length + is.length
  | [], p, c, lf, fd, x5, hp, _, _, _, _ => ⟨lf, fd, p, x5, by simp [forL], hp.mono (by simp), .refl _, by simp⟩
  | i :: is, p, c, lf, fd, x5, hp, hc, hl, hz, hf => by
    rw [List.length_cons] at hc hl hf
    obtain ⟨v, hv, p1, e1, hp1⟩ := hb p c lf fd (some (.int (i : Nat))) hp (by omega) (by omega) hz (by omega)
    have le : (lf.eraseIdx v).length = lf.length - 1 := by rw [List.length_eraseIdx, if_pos hv]
    obtain ⟨lf', fd', p', y5, e, h1, h2, h3⟩ := laps_some x1 x2 hb is p1 (c + 1) (lf.eraseIdx v) (fd ++ [lf[v]]) (some (.int (i : Nat))) hp1 (by omega) (by omega) (by omega) (by simp; omega)
    refine ⟨lf', fd', p', y5, ?_, h1.mono (by rw [List.length_cons]; omega), h2.trans ?_, by rw [h3]; simp; omega⟩
    · rw [List.map_cons, forL]
      have ht : bindT (.name 5) (D.int ((i : Nat) : Int)) [some (.cell n), x1, x2, some (.cell cs.length), some (.cell (cs.length + 1)), x5] = some [some (.cell n), x1, x2, some (.cell cs.length), some (.cell (cs.length + 1)), some (.int (i : Nat))] := by simp [bindT]
      simp only [ht, e1, e]
    · rw [List.append_assoc]
      exact (List.Perm.refl fd).append (erase_perm hv)
/-- some of a row, each once -/
theorem Drw.rowOf (W : Drw T tk) {so : Nat} (hT : T so = some (someDf tk)) {p : Pot} {c : Int} (hp : p.Ok c) {l : List Int} (hl : l.length < 1000) {w : Nat} (hw : w ≤ l.length) (hc : c + w ≤ 9999) {d : D} (hd : d = .lst (l.map .int) ∨ d = .tup (l.map .int)) {k n : Nat} (hk : 2 ≤ k) {cs : Cs} (hn : n < cs.length) (own : Cs) :
    ∃ (xs rs : List Int) (p' : Pot), callF T k so [.cell n, d, .int w] (cs.set n (true, potD p) ++ own) = some (.lst (xs.map .int), cs.set n (true, potD p') ++ own) ∧ p'.Ok (c + w) ∧ xs.length = w ∧ (xs ++ rs).Perm l := by
  cases k with
  | zero => omega
  | succ k =>
    obtain ⟨c0, ec0⟩ : ∃ c0, c0 = cs ++ own := ⟨_, rfl⟩
    have hn0 : n < c0.length := by rw [ec0, List.length_append]; omega
    have eset : ∀ x, cs.set n x ++ own = c0.set n x := fun x => by rw [ec0, List.set_append_left _ _ hn]
    simp only [eset]
    obtain ⟨rs, xs, p', y5, e, h1, h2, h3⟩ := laps_some (b := denCs (callF T k) (lapSome tk)) (n := n) (cs := c0) (some d) (some (.int w)) (fun p c lf fd x5 a1 a2 a3 a4 a5 => lap_some W (k := k) (by omega) hn0 _ _ x5 a1 a2 a3 a4 a5) (List.range w) p c l [] none hp (by simpa using hc) (by simpa using hw) hl (by simp; omega)
    simp only [List.length_range, List.length_nil, Nat.zero_add] at h1 h3
    refine ⟨xs, rs, p', ?_, h1, h3, by simpa using h2⟩
    rw [callF, hT]
    have hcl : ∀ q, (c0.set n (true, potD q)).length = c0.length := fun q => List.length_set
    have r1 : denC (callF T k) (.par 3 4 (.cel (.bi .list [(.var 1)])) (.cel (.lst []))) ⟨[some (.cell n), some d, some (.int w), none, none, none], c0.set n (true, potD p)⟩ = .nx ⟨[some (.cell n), some d, some (.int w), some (.cell c0.length), some (.cell (c0.length + 1)), none], c0.set n (true, potD p) ++ [(true, .lst (l.map .int)), (true, .lst [])]⟩ := by
      have hb : bi1 (c0.set n (true, potD p)) .list d = some (.lst (l.map .int)) := by rcases hd with rfl | rfl <;> rfl
      simp [denC, den, denL, E.isStar, hb, lowDs]
    have hr : srcD .rng1 [.int w] = some ((List.range w).map fun i => .int (i : Nat)) := by
      rw [srcD, rng_of (j := w) (by omega) (by omega), rangeD_0, Int.toNat_natCast]
    have key : denCs (callF T k) (someDf tk).body ⟨[some (.cell n), some d, some (.int w), none, none, none], c0.set n (true, potD p)⟩ = .rt (.cell (c0.length + 1)) (c0.set n (true, potD p') ++ [(true, .lst (rs.map .int)), (true, .lst (xs.map .int))]) := by
      refine (cons_nx r1).trans ?_
      refine (cons_nx (for_eq (ds := [.int w]) (s1 := ⟨[some (.cell n), some d, some (.int w), some (.cell c0.length), some (.cell (c0.length + 1)), none], c0.set n (true, potD p) ++ [(true, .lst (l.map .int)), (true, .lst [])]⟩) (by simp [den, denL, E.isStar]) hr e)).trans ?_
      exact cons_rt (ret_of (den_var rfl))
    have q1 : List.map some [D.cell n, d, D.int w] ++ List.replicate ((someDf tk).ns - (someDf tk).np) none = [some (.cell n), some d, some (.int w), none, none, none] := rfl
    have q2 : [D.cell n, d, D.int w].length = (someDf tk).np := rfl
    have q3 : (someDf tk).fr = true := rfl
    have g : (c0.set n (true, potD p') ++ [(true, D.lst (rs.map .int)), (true, D.lst (xs.map .int))])[c0.length + 1]? = some (true, .lst (xs.map .int)) := by
      rw [List.getElem?_append_right (by rw [hcl]; omega), hcl, Nat.add_sub_cancel_left]
      rfl
    simp only [q2, if_true, q1, key, q3, outF, g, hcl, lows_ints, Nat.le_add_right, decide_true, Bool.and_self]
    rw [List.take_left' (hcl _)]
/-- the cells of a script -/
def cellsDf : Df := ⟨2, 2, true, [.ret (.cel (.rng [(.bi .max2 [(.kint 1), (.bi .min2 [(.var 1), (.bi .len [(.var 0)])])])]))]⟩
theorem s_cells5 {ct : Nat} (hT : T ct = some cellsDf) (ns : List Int) {q : Nat} (hq : q < 1000) : ∃ w : Nat, w ≤ max 1 q ∧ Ret T 1 ct [.ro (ns.map .int), .int (q : Nat)] (.lst ((List.range w).map fun i => .int (i : Nat))) := by
  let mn : Int := if (ns.length : Int) < (q : Int) then (ns.length : Int) else (q : Int)
  let mx : Int := if mn > 1 then mn else 1
  have h0 : 0 ≤ mx := by simp only [mx]; split <;> omega
  have h1 : mx ≤ max 1 q := by
    simp only [mx, mn]
    split <;> split <;> omega
  refine ⟨mx.toNat, by omega, ?_⟩
  have e := rangeD_0 mx
  refine .ofF hT rfl rfl (by simp) fun k cs hk => ⟨cs.length, [(true, .lst ((List.range mx.toNat).map fun i => .int (i : Nat)))], Nat.le_refl _, by simp, ?_⟩
  have b1 : bi2 .min2 (.int (q : Nat)) (.int (ns.length : Nat)) = some (.int mn) := rfl
  have b2 : bi2 .max2 (.int 1) (.int mn) = some (.int mx) := rfl
  have e2 := rng_of h0 (by omega)
  simp [cellsDf, denCs, denC, den, denL, E.isStar, b1, b2, e2, e]
/-! ### repr of what is nested -/
structure Rok (c dp : Nat) (p : PyData) : Prop where
  sh : p.showable = true
  nd : p.hasDict = false
  len : p.shown.length ≤ c
  dep : p.depth ≤ dp
  ok : PyData.strOk p.shown = true
theorem Rok.mono {c c' dp dp' : Nat} {p : PyData} (h : Rok c dp p) (h1 : c ≤ c') (h2 : dp ≤ dp') : Rok c' dp' p := ⟨h.sh, h.nd, Nat.le_trans h.len h1, Nat.le_trans h.dep h2, h.ok⟩
theorem Rok.int {i : Int} (h : i.natAbs < 10 ^ 20) : Rok 21 0 (.int i) where
  sh := by
    have := showable_ints (l := [i]) (by simpa using h)
    simpa [PyData.showableAll] using this
  nd := by rw [PyData.hasDict]
  len := by
    have e := int_text_length_le10 (k := 20) (by decide) h
    rw [PyData.shown]
    simpa [PySem.ofString_length] using e
  dep := by rw [PyData.depth]; exact Nat.zero_le _
  ok := by rw [PyData.shown]; exact ok_of _
theorem Rok.bool (b : Bool) : Rok 5 0 (.bool b) := by
  cases b <;> exact ⟨by decide +kernel, by decide +kernel, by decide +kernel, by decide +kernel, by decide +kernel⟩
theorem all_rok {c dp : Nat} : ∀ {l : List PyData}, (∀ p ∈ l, Rok c dp p) → PyData.showableAll l = true ∧ PyData.hasDictAll l = false ∧ PyData.shownAll l = l.map PyData.shown ∧ PyData.depthAll l ≤ dp ∧ ((l.map PyData.shown).map (·.length)).sum ≤ c * l.length
  | [], _ => ⟨by simp [PyData.showableAll], by simp [PyData.hasDictAll], by simp [PyData.shownAll], by simp [PyData.depthAll], by simp⟩
  | p :: l, h => by
    obtain ⟨a1, a2, a3, a4, a5⟩ := all_rok fun q hq => h q (List.mem_cons_of_mem _ hq)
    have hp := h p List.mem_cons_self
    refine ⟨by rw [PyData.showableAll, hp.sh, a1]; rfl, by rw [PyData.hasDictAll, hp.nd, a2]; rfl, by rw [PyData.shownAll, a3]; rfl, by rw [PyData.depthAll]; exact Nat.max_le.mpr ⟨hp.dep, a4⟩, ?_⟩
    have := hp.len
    simp only [List.map_cons, List.sum_cons, List.length_cons, Nat.mul_succ]
    omega
theorem Rok.tup {c dp : Nat} {l : List PyData} (h : ∀ p ∈ l, Rok c dp p) : Rok ((c + 2) * l.length + 3) (dp + 1) (.tuple l) := by
  obtain ⟨a1, a2, a3, a4, a5⟩ := all_rok h
  have e : (PyData.tuple l).shown = tupleText (l.map PyData.shown) := by rw [PyData.shown, a3]
  refine ⟨by rw [PyData.showable]; exact a1, by rw [PyData.hasDict]; exact a2, ?_, by rw [PyData.depth]; omega, ?_⟩
  · rw [e]
    refine Nat.le_trans (tupleText_len_le _) ?_
    rw [List.length_map, Nat.add_mul]
    omega
  · rw [e]
    unfold tupleText
    refine ok_app (ok_app (ok_of "(") (ok_join _ (ok_of ", ") _ fun t ht => ?_)) ?_
    · obtain ⟨q, hq, rfl⟩ := List.mem_map.mp ht
      exact (h q hq).ok
    · split
      · exact ok_of ",)"
      · exact ok_of ")"
def RD (c dp : Nat) (d : D) : Prop := ∃ p, pyD d = some p ∧ Rok c dp p
theorem RD.mono {c c' dp dp' : Nat} {d : D} (h : RD c dp d) (h1 : c ≤ c') (h2 : dp ≤ dp') : RD c' dp' d := by
  obtain ⟨p, e, r⟩ := h
  exact ⟨p, e, r.mono h1 h2⟩
theorem RD.int {i : Int} (h : i.natAbs < 10 ^ 20) : RD 21 0 (.int i) := ⟨_, by simp [pyD], .int h⟩
theorem RD.bl (b : Bool) : RD 21 0 (.bl b) := ⟨_, by simp [pyD], (Rok.bool b).mono (by decide) (by decide)⟩
theorem RD.all {c dp : Nat} : ∀ {ds : List D}, (∀ d ∈ ds, RD c dp d) → ∃ l, pyDs ds = some l ∧ l.length = ds.length ∧ ∀ p ∈ l, Rok c dp p
  | [], _ => ⟨[], by simp [pyDs], rfl, by simp⟩
  | d :: ds, h => by
    obtain ⟨p, e1, r1⟩ := h d List.mem_cons_self
    obtain ⟨l, e2, e3, r2⟩ := RD.all fun q hq => h q (List.mem_cons_of_mem _ hq)
    exact ⟨p :: l, by rw [pyDs, e1, e2], by simp [e3], fun q hq => (List.mem_cons.mp hq).elim (fun z => z ▸ r1) (r2 q)⟩
theorem RD.tup {c dp : Nat} {ds : List D} (h : ∀ d ∈ ds, RD c dp d) : RD ((c + 2) * ds.length + 3) (dp + 1) (.tup ds) := by
  obtain ⟨l, e, n, r⟩ := RD.all h
  exact ⟨.tuple l, by rw [pyD, e]; rfl, by rw [← n]; exact .tup r⟩
theorem RD.row {l : List Int} (h : ∀ i ∈ l, i.natAbs < 10 ^ 20) {c : Nat} (hl : 23 * l.length + 3 ≤ c) : RD c 1 (.tup (l.map .int)) := by
  have := RD.tup (c := 21) (dp := 0) (ds := l.map D.int) fun d hd => by
    obtain ⟨i, hi, rfl⟩ := List.mem_map.mp hd
    exact .int (h i hi)
  exact this.mono (by simpa using hl) (Nat.le_refl _)
theorem RD.pair {c dp : Nat} {a b : D} (ha : RD c dp a) (hb : RD c dp b) : RD (2 * c + 7) (dp + 1) (.tup [a, b]) :=
  (RD.tup (ds := [a, b]) fun d hd => by
    rcases List.mem_cons.mp hd with rfl | hd
    · exact ha
    · rw [List.mem_singleton.mp hd]; exact hb).mono (by simp; omega) (Nat.le_refl _)
/-- a repr, and like to itself -/
theorem RD.repr {c dp : Nat} {d : D} (h : RD c dp d) (h1 : c ≤ 16777216) (h2 : dp ≤ 64) (cs : Cs) : ∃ x, (∀ cs, reprD cs d = some (.str x)) ∧ PyData.strOk x = true := by
  obtain ⟨p, e, r⟩ := h
  refine ⟨p.shown, fun cs => ?_, r.ok⟩
  have hp : pyC cs d = some p := by
    cases d with
    | cell n => simp [pyD] at e
    | _ => exact e
  have l := r.len
  have dp := r.dep
  have hl : p.shown.length ≤ sizeLine := by rw [PySem.sizeLine_eq]; omega
  have hk : reprOk p = true := by
    unfold reprOk
    rw [r.sh, r.nd, r.ok, decide_eq_true hl, decide_eq_true (show p.depth ≤ 64 by omega)]
    rfl
  simp [reprD, hp, hk]
/-- two texts of one value -/
theorem den_reprs {G : Gf} {a b : E} {s s1 s2 : S} {d : D} {c dp : Nat} (h : RD c dp d) (h1 : c ≤ 16777216) (h2 : dp ≤ 64) (ha : a.isStar = false) (hb : b.isStar = false) (ea : den G a s = .ok d s1) (eb : den G b s1 = .ok d s2) :
    den G (.cmp .eq (.bi .repr [a]) (.bi .repr [b])) s = .ok (.bl true) s2 := by
  obtain ⟨x, e, k⟩ := h.repr h1 h2 []
  exact den_cmp (den_bi1 ha ea (by rw [bi_repr', e])) (den_bi1 hb eb (by rw [bi_repr', e])) (by simp [cmpD, eq_str _ k])
theorem den_unlike {G : Gf} {a b : E} {s s1 s2 : S} {d : D} {c dp : Nat} (h : RD c dp d) (h1 : c ≤ 16777216) (h2 : dp ≤ 64) (ha : a.isStar = false) (hb : b.isStar = false) (ea : den G a s = .ok d s1) (eb : den G b s1 = .ok d s2) :
    den G (.cmp .ne (.bi .repr [a]) (.bi .repr [b])) s = .ok (.bl false) s2 := by
  obtain ⟨x, e, k⟩ := h.repr h1 h2 []
  exact den_cmp (den_bi1 ha ea (by rw [bi_repr', e])) (den_bi1 hb eb (by rw [bi_repr', e])) (by simp [cmpD, eq_str _ k])
end Ev

set_option Elab.async false
set_option linter.all false
set_option maxRecDepth 100000
set_option maxHeartbeats 1000000
set_option autoImplicit false
/-! The defs of law k46 that are new, as the evaluator takes them (printed by gen.py). -/
namespace Dd
open Ev PySem
def d_check_house : Df := ⟨2, 2, false, [
  .ite (.not (.call 1 [(.var 1), (.kint 0), (.bin .sub (.idx (.var 0) (.kint 0)) (.kint 1))])) [.never] []]⟩
def d_pull : Df := ⟨3, 3, false, [
  .exp (.call 33 [(.var 0), (.var 1)]),
  .exp (.call 53 [(.var 0), (.var 2)]),
  .ret (.call 31 [(.var 0), (.var 1), (.var 2)])]⟩
def d_loose : Df := ⟨2, 4, false, [
  .exp (.call 33 [(.var 0), (.var 1)]),
  .ret (.bi .tuple [(.lc (.var 2) (.tup [(.name 2), (.name 3)]) .enum [(.call 32 [(.var 0), (.var 1)])] [(.cmp .eq (.var 3) (.kint 0))] [2, 3])])]⟩
def d_gone : Df := ⟨3, 3, false, [
  .exp (.call 33 [(.var 0), (.var 1)]),
  .exp (.call 53 [(.var 0), (.var 2)]),
  .ret (.call 36 [(.var 1), (.tup [(.var 2)])])]⟩
def d_lap_of : Df := ⟨3, 4, false, [
  .for (.name 3) .seq [(.var 2)] [.ite (.cmp .lt (.bin .mul (.call 31 [(.var 0), (.var 1), (.var 3)]) (.idx (.var 1) (.var 3))) (.kint 0)) [.set 1 (.call 36 [(.var 1), (.tup [(.var 3)])])] []],
  .ret (.var 1)]⟩
def d_laps : Df := ⟨3, 5, false, [
  .exp (.call 33 [(.var 0), (.var 1)]),
  .ite (.or (.not (.call 2 [(.var 2), (.kint 0), (.bin .sub (.idx (.var 0) (.kint 0)) (.kint 1))])) (.cmp .ne (.bi .sorted [(.var 2)]) (.rng [(.idx (.var 0) (.kint 0))]))) [.never] [],
  .par 3 4 (.kint 0) (.call 1200 [(.var 0), (.var 1), (.var 2)]),
  .whl (.cmp .ne (.var 4) (.var 1)) [.par 3 1 (.bin .add (.var 3) (.kint 1)) (.var 4), .set 4 (.call 1200 [(.var 0), (.var 1), (.var 2)])],
  .ret (.tup [(.var 3), (.var 1)])]⟩
def d__law_pot_39 : Df := ⟨2, 5, true, [
  .set 2 (.ite (.cmp .lt (.var 1) (.bi .len [(.var 0)])) (.idx (.var 0) (.var 1)) (.bin .add (.bin .add (.bin .mod (.bi .sum [(.sl (.var 0) none (some (.kint 1)))]) (.kint 1000187)) (.bin .mul (.kint 4733) (.var 1))) (.kint 613))),
  .set 3 (.bin .mul (.bin .mod (.bi .int [(.bi .abs [(.var 2)])]) (.bin .pow (.bin .pow (.kint 10) (.kint 60)) (.kint 5))) (.bi .int [(.cmp .ge (.bi .abs [(.var 2)]) (.bin .pow (.kint 10) (.kint 18)))])),
  .set 4 (.bin .mod (.bi .int [(.var 2)]) (.kint 2305843009213693951)),
  .ret (.cel (.lst [(.var 3), (.bin .mod (.bi .int [(.bin .add (.bin .add (.bin .mul (.var 4) (.kint 73019)) (.bin .mul (.bin .mul (.kint 6871) (.var 1)) (.var 1))) (.kint 977))]) (.kint 2305843009213693921)), (.kint 0)]))]⟩
def d__law_take_39 : Df := ⟨2, 5, false, [
  .ite (.cmp .gt (.idx (.var 0) (.kint 0)) (.kint 0)) [.set 4 (.bin .mod (.bi .int [(.idx (.var 0) (.kint 0))]) (.var 1)), .setix (.var 0) (.kint 0) (.bin .fdiv (.idx (.var 0) (.kint 0)) (.var 1)), .ret (.var 4)] [],
  .setix (.var 0) (.kint 2) (.bin .add (.idx (.var 0) (.kint 2)) (.kint 1)),
  .set 2 (.idx (.lst [(.kint 2147482763), (.kint 2147482739), (.kint 2147482697), (.kint 2147482693), (.kint 2147482681)]) (.bin .mod (.bi .int [(.idx (.var 0) (.kint 2))]) (.kint 5))),
  .set 3 (.bin .mod (.bi .int [(.bin .pow (.bi .int [(.bin .add (.bin .add (.idx (.var 0) (.kint 1)) (.bin .mul (.bin .mul (.kint 77659) (.idx (.var 0) (.kint 2))) (.idx (.var 0) (.kint 2)))) (.kint 1381))]) (.kint 3))]) (.var 2)),
  .set 3 (.bin .mod (.bi .int [(.bin .mul (.var 3) (.bin .add (.bin .mod (.bi .int [(.var 3)]) (.kint 8093)) (.bin .mul (.kint 271) (.idx (.var 0) (.kint 2)))))]) (.kint 2305843009213693907)),
  .ret (.bin .mod (.bi .int [(.bin .fdiv (.var 3) (.kint 167))]) (.var 1))]⟩
def d__law_of_36 : Df := ⟨2, 2, false, [
  .ret (.idx (.var 1) (.call 1115 [(.var 0), (.bi .len [(.var 1)])]))]⟩
def d__law_some_31 : Df := ⟨3, 6, true, [
  .par 3 4 (.cel (.bi .list [(.var 1)])) (.cel (.lst [])),
  .for (.name 5) .rng1 [(.var 2)] [.exp (.meth .append (.var 4) [(.meth .popAt (.var 3) [(.call 1115 [(.var 0), (.bi .len [(.var 3)])])])])],
  .ret (.var 4)]⟩
def d__law_cells_2 : Df := ⟨2, 2, true, [
  .ret (.cel (.rng [(.bi .max2 [(.kint 1), (.bi .min2 [(.var 1), (.bi .len [(.var 0)])])])]))]⟩
def d__law_pairs : Df := ⟨1, 4, true, [
  .set 1 (.cel (.lst [])),
  .for (.name 2) .rng1 [(.var 0)] [.exp (.meth .extend (.var 1) [(.lc (.tup [(.var 2), (.var 3)]) (.name 3) .rng2 [(.bin .add (.var 2) (.kint 1)), (.var 0)] [] [3])])],
  .ret (.var 1)]⟩
def d__law_net_29 : Df := ⟨4, 9, false, [
  .par 4 5 (.bin .add (.var 1) (.call 1115 [(.var 0), (.bin .add (.bin .sub (.var 2) (.var 1)) (.kint 1))])) (.cel (.lst [])),
  .set 6 (.bin .add (.kint 2) (.call 1115 [(.var 0), (.kint 3)])),
  .for (.name 7) .seq [(.call 1118 [(.var 4)])] [.set 8 (.call 1116 [(.var 0), (.lst [(.kint 1), (.neg (.kint 1))])]), .ite (.or (.cmp .eq (.var 3) (.kint 2)) (.cmp .gt (.call 1115 [(.var 0), (.var 6)]) (.kint 0))) [.exp (.meth .append (.var 5) [(.bin .add (.var 7) (.tup [(.var 8)]))])] [], .ite (.and (.cmp .eq (.var 3) (.kint 0)) (.cmp .eq (.call 1115 [(.var 0), (.kint 7)]) (.kint 0))) [.exp (.meth .append (.var 5) [(.bin .add (.var 7) (.tup [(.neg (.var 8))]))])] []],
  .ret (.tup [(.var 4), (.bi .tuple [(.bi .sortset [(.var 5)])])])]⟩
def d__law_sides_2 : Df := ⟨2, 3, false, [
  .ret (.bi .tuple [(.lc (.call 1116 [(.var 0), (.lst [(.kint 1), (.neg (.kint 1))])]) (.name 2) .rng1 [(.var 1)] [] [2])])]⟩
def d__law_breaks_3 : Df := ⟨2, 3, false, [
  .ret (.bi .len [(.lc (.var 2) (.name 2) .seq [(.idx (.var 0) (.kint 1))] [(.cmp .ne (.bin .mul (.idx (.var 1) (.idx (.var 2) (.kint 0))) (.idx (.var 1) (.idx (.var 2) (.kint 1)))) (.idx (.var 2) (.kint 2)))] [2])])]⟩
def d__law_pull : Df := ⟨3, 7, false, [
  .set 3 (.kint 0),
  .for (.tup [(.name 4), (.name 5), (.name 6)]) .seq [(.idx (.var 0) (.kint 1))] [.set 3 (.bin .add (.var 3) (.bin .mul (.var 6) (.bin .add (.bin .mul (.idx (.var 1) (.var 5)) (.bi .int [(.cmp .eq (.var 2) (.var 4))])) (.bin .mul (.idx (.var 1) (.var 4)) (.bi .int [(.cmp .eq (.var 2) (.var 5))])))))],
  .ret (.var 3)]⟩
def d__law_gone : Df := ⟨2, 4, false, [
  .ret (.bi .tuple [(.lc (.ite (.cmp .isin (.var 2) (.var 1)) (.neg (.var 3)) (.var 3)) (.tup [(.name 2), (.name 3)]) .enum [(.var 0)] [] [2, 3])])]⟩
def d__law_wanting : Df := ⟨2, 3, true, [
  .ret (.cel (.lc (.var 2) (.name 2) .rng1 [(.idx (.var 0) (.kint 0))] [(.cmp .lt (.call 1204 [(.var 0), (.call 1206 [(.var 1), (.lst [(.var 2)])])]) (.call 1204 [(.var 0), (.var 1)]))] [2]))]⟩
def d__law_rested : Df := ⟨2, 5, false, [
  .set 2 (.tup []),
  .for (.name 3) .rng1 [(.bin .add (.bi .len [(.idx (.var 0) (.kint 1))]) (.kint 1))] [.set 4 (.call 1207 [(.var 0), (.var 1)]), .ite (.cmp .eq (.var 4) (.lst [])) [.ret (.tup [(.var 2), (.var 1)])] [], .par 2 1 (.bin .add (.var 2) (.tup [(.idx (.var 4) (.kint 0))])) (.call 1206 [(.var 1), (.sl (.var 4) none (some (.kint 1)))])],
  .ret .knon]⟩
def d__law_lapped : Df := ⟨3, 7, false, [
  .set 3 (.kint 0),
  .for (.name 4) .rng1 [(.bin .add (.bi .len [(.idx (.var 0) (.kint 1))]) (.kint 2))] [.set 5 (.var 1), .for (.name 6) .seq [(.var 2)] [.ite (.cmp .lt (.call 1204 [(.var 0), (.call 1206 [(.var 1), (.lst [(.var 6)])])]) (.call 1204 [(.var 0), (.var 1)])) [.set 1 (.call 1206 [(.var 1), (.lst [(.var 6)])])] []], .ite (.cmp .eq (.var 1) (.var 5)) [.ret (.tup [(.var 3), (.var 1)])] [], .set 3 (.bin .add (.var 3) (.kint 1))],
  .ret .knon]⟩
def d__law_right_40 : Df := ⟨2, 11, false, [
  .set 2 (.idx (.var 1) (.kint 0)),
  .set 3 (.call 1203 [(.var 0), (.var 2)]),
  .set 4 (.lc (.call 1205 [(.var 1), (.var 3), (.var 7)]) (.name 7) .rng1 [(.var 2)] [] [7]),
  .ite (.not (.bi .all [(.lc (.cmp .eq (.bi .repr [(.call 1197 [(.var 1), (.var 3), (.var 7)])]) (.bi .repr [(.idx (.var 4) (.var 7))])) (.name 7) .rng1 [(.var 2)] [] [7])])) [.ret (.kbl false)] [],
  .set 5 (.call 1207 [(.var 1), (.var 3)]),
  .ite (.cmp .ne (.bi .repr [(.tup [(.call 35 [(.var 1), (.var 3)]), (.call 1198 [(.var 1), (.var 3)])])]) (.bi .repr [(.tup [(.bi .tuple [(.var 5)]), (.bi .tuple [(.lc (.var 7) (.name 7) .rng1 [(.var 2)] [(.cmp .eq (.idx (.var 4) (.var 7)) (.kint 0))] [7])])])])) [.ret (.kbl false)] [],
  .set 6 (.call 1204 [(.var 1), (.var 3)]),
  .for (.name 7) .rng1 [(.var 2)] [.set 10 (.call 1199 [(.var 1), (.var 3), (.var 7)]), .ite (.or (.cmp .ne (.bi .repr [(.var 10)]) (.bi .repr [(.call 1206 [(.var 3), (.lst [(.var 7)])])])) (.cmp .ne (.bin .sub (.call 1204 [(.var 1), (.var 10)]) (.var 6)) (.bin .mul (.idx (.var 4) (.var 7)) (.idx (.var 3) (.var 7))))) [.ret (.kbl false)] []],
  .set 8 (.call 38 [(.var 1), (.var 3)]),
  .ite (.or (.cmp .ne (.bi .repr [(.var 8)]) (.bi .repr [(.call 1208 [(.var 1), (.var 3)])])) (.or (.cmp .gt (.bi .len [(.idx (.var 8) (.kint 0))]) (.var 6)) (.cmp .ne (.call 1207 [(.var 1), (.idx (.var 8) (.kint 1))]) (.lst [])))) [.ret (.kbl false)] [],
  .set 9 (.bi .tuple [(.call 1202 [(.var 0), (.rng [(.var 2)]), (.var 2)])]),
  .ret (.and (.cmp .eq (.bi .repr [(.call 1201 [(.var 1), (.var 3), (.var 9)])]) (.bi .repr [(.call 1209 [(.var 1), (.var 3), (.var 9)])])) (.cmp .le (.bin .mul (.kint 2) (.call 1204 [(.var 1), (.idx (.var 8) (.kint 1))])) (.bi .len [(.idx (.var 1) (.kint 1))])))]⟩
def d_law_45 : Df := ⟨1, 4, false, [
  .for (.name 1) .seq [(.call 1117 [(.var 0), (.kint 3)])] [.set 2 (.cel (.call 1114 [(.var 0), (.var 1)])), .for (.name 3) .rng1 [(.kint 3)] [.ite (.or (.not (.call 1210 [(.var 2), (.call 1119 [(.var 2), (.kint 1), (.kint 6), (.call 1115 [(.var 2), (.kint 3)])])])) (.not (.call 1210 [(.var 2), (.call 1119 [(.var 2), (.kint 7), (.kint 10), (.call 1115 [(.var 2), (.kint 3)])])]))) [.ret (.kbl false)] []]],
  .ret (.kbl true)]⟩
end Dd

set_option Elab.async false
set_option linter.all false
set_option maxRecDepth 100000
set_option maxHeartbeats 1000000
set_option autoImplicit false
/-! Houses that go over: what the program's defs give. -/
namespace Ev
open PySem Dd
variable {T : Tf}
/-! numbers sorted -/
def sortI (l : List Int) : List Int := l.mergeSort fun a b => !decide (b < a)
theorem sortI_perm (l : List Int) : (sortI l).Perm l := List.mergeSort_perm _ _
theorem okSort_ints (l : List Int) : okSort (l.map .int) = true := by
  unfold okSort
  rw [pyDs_ints]
  simp only [Bool.and_eq_true, Bool.or_eq_true, decide_eq_true_eq]
  refine ⟨⟨?_, by rw [PySem.W.depth_ints]; decide⟩, .inr ?_⟩
  · unfold alikeB
    rw [List.all_eq_true]
    intro a ha
    rw [List.all_eq_true]
    intro b hb
    obtain ⟨x, _, rfl⟩ := List.mem_map.mp ha
    obtain ⟨y, _, rfl⟩ := List.mem_map.mp hb
    simp [PySem.W.alike]
  · rw [List.all_eq_true]
    intro a ha
    obtain ⟨x, _, rfl⟩ := List.mem_map.mp ha
    rfl
theorem ltE_int (a b : Int) : ltE (.int a) (.int b) = decide (a < b) := by
  simp [ltE, encD, pyD, PySem.W.dataLt_int]
theorem sorted_ints (cs : Cs) (l : List Int) : sortedD cs (.tup (l.map .int)) = some (.lst ((sortI l).map .int)) := by
  unfold sortedD
  simp only [seqC, deref, Option.bind_some, seqD, okSort_ints l, if_true]
  unfold sortI
  rw [List.map_mergeSort (s := fun a b => !ltE b a) fun a _ b _ => by rw [ltE_int]]
/-- 0 .. m-1 -/
def upto (m : Int) : List Int := (List.range m.toNat).map fun i => ((i : Nat) : Int)
theorem upto_asc (m : Int) : (upto m).Pairwise (· < ·) := by
  unfold upto
  exact List.pairwise_map.mpr (List.pairwise_lt_range.imp fun h => by omega)
theorem mem_upto {m v : Int} : v ∈ upto m ↔ 0 ≤ v ∧ v < m := by
  unfold upto
  simp only [List.mem_map, List.mem_range]
  constructor
  · rintro ⟨i, hi, rfl⟩; omega
  · intro h; exact ⟨v.toNat, by omega, by omega⟩
theorem sortI_upto {m : Int} {l : List Int} (h : l.Perm (upto m)) : sortI l = upto m := by
  have h1 : (sortI l).Pairwise fun a b => (!decide (b < a)) = true := List.pairwise_mergeSort (fun a b c h1 h2 => by simp at *; omega) (fun a b => by simp; omega) l
  refine ((sortI_perm l).trans h).eq_of_pairwise (le := fun a b => a ≤ b) (fun x y _ _ h1 h2 => by omega) (h1.imp fun q => by simp at q; omega) ((upto_asc m).imp fun q => by omega)
theorem upto_D (m : Int) : (upto m).map D.int = (List.range m.toNat).map fun i => D.int ((i : Nat) : Int) := by
  unfold upto
  rw [List.map_map]
  rfl
structure OverT (T : Tf) : Prop extends RstT T where
  h35 : T 35 = some d_wanting
  h2 : T 2 = some d_are_between
  h53 : T 53 = some d_check_house
  h1197 : T 1197 = some d_pull
  h1198 : T 1198 = some d_loose
  h1199 : T 1199 = some d_gone
  h1200 : T 1200 = some d_lap_of
  h1201 : T 1201 = some d_laps
theorem s_check_house (N : NetT T) (h53 : T 53 = some d_check_house) {n : Net} {h : Int} (h0 : 0 ≤ h) (h1 : h < n.m) : Ret T 3 53 [netD n, .int h] .non :=
  .ofN h53 rfl rfl fun k cs hk => by
    have e := fun v lo hi cs => s_between N.h0 N.h1 v lo hi k cs (by omega)
    have h2 : h ≤ n.m - 1 := by omega
    refine ⟨[some (netD n), some (.int h)], ?_⟩
    simp [d_check_house, denCs, denC, den, denL, E.isStar, e, netD, h0, h2]
theorem s_pullP (N : OverT T) {n : Net} (hn : n.Ok) {s : List Int} (hs : sideOk n s) {h : Int} (h0 : 0 ≤ h) (h1 : h < n.m) : Ret T 7 1197 [netD n, .tup (s.map .int), .int h] (.int (pull n s h)) :=
  .of N.h1197 rfl rfl (by simp [lowD]) fun k cs hk => by
    have e := fun cs => s_pull (T := T) N.h31 hn hs h k cs (by omega)
    have e1 := fun cs => g_check_at N.toGoT hn hs k cs (by omega)
    have e2 := fun cs => s_check_house N.toNetT N.h53 h0 h1 k cs (by omega)
    simp [d_pull, denCs, denC, den, denL, E.isStar, e, e1, e2]
def looseL (n : Net) (s : List Int) : List Int := ((List.range n.m.toNat).filter fun i => decide (pull n s (i : Nat) = 0)).map fun i => ((i : Nat) : Int)
theorem s_loose (N : OverT T) {n : Net} (hn : n.Ok) {s : List Int} (hs : sideOk n s) : Ret T 7 1198 [netD n, .tup (s.map .int)] (.tup ((looseL n s).map .int)) :=
  .of N.h1198 rfl rfl (by simp [lowD]) fun k cs hk => by
    have e1 := fun cs => g_check_at N.toGoT hn hs k cs (by omega)
    have e0 := fun cs => g_pulls N.toGoT hn hs k cs (by omega)
    simp only [d_loose, denCs, denC, den, denL, E.isStar, wipeS, srcD]
    simp [e0, e1]
    have em := enum_map (fun i : Nat => D.int (pull n s (i : Nat))) (List.range n.m.toNat)
    rw [List.length_map, List.length_range] at em
    rw [em, lcL_pure (fun p : Nat × Nat => [some (netD n), some (.tup (s.map .int)), some (.int (p.1 : Nat)), some (.int (pull n s (p.2 : Nat)))]) (fun p => decide (pull n s (p.2 : Nat) = 0)) (fun p => .int (p.1 : Nat)) fun p hp => ⟨by simp [bindT, bindTs], by rw [denI]; simp [den, denL, E.isStar], fun _ => by simp [den]⟩]
    have hz : (List.range n.m.toNat).zip (List.range n.m.toNat) = (List.range n.m.toNat).map fun i => (i, i) := by
      rw [List.zip_eq_zipWith]
      exact List.zipWith_self ..
    simp [looseL, hz, List.filter_map, Function.comp_def]
theorem s_goneP (N : OverT T) {n : Net} (hn : n.Ok) {s : List Int} (hs : sideOk n s) {h : Int} (h0 : 0 ≤ h) (h1 : h < n.m) : Ret T 7 1199 [netD n, .tup (s.map .int), .int h] (.tup ((turnedAt s [h]).map .int)) :=
  .of N.h1199 rfl rfl (by simp [lowD]) fun k cs hk => by
    have e := fun cs => s_gone (T := T) N.h36 s (IsLot.tup (l := [h])) k cs (by omega)
    have e1 := fun cs => g_check_at N.toGoT hn hs k cs (by omega)
    have e2 := fun cs => s_check_house N.toNetT N.h53 h0 h1 k cs (by omega)
    simp only [List.map_cons, List.map_nil] at e
    simp [d_gone, denCs, denC, den, denL, E.isStar, e, e1, e2]
/-! laps -/
def overStep (n : Net) (s : List Int) (h : Int) : List Int := if pull n s h * sideAt s h < 0 then turnedAt s [h] else s
def lapL (n : Net) (row s : List Int) : List Int := row.foldl (overStep n) s
theorem over_ok {n : Net} {s : List Int} (h : sideOk n s) (x : Int) : sideOk n (overStep n s x) := by
  unfold overStep
  split
  · exact turned_ok h _
  · exact h
theorem lap_ok {n : Net} : ∀ (row s : List Int), sideOk n s → sideOk n (lapL n row s)
  | [], _, h => h
  | x :: row, s, h => lap_ok row _ (over_ok h x)
theorem over_less {n : Net} (hn : n.Ok) {s : List Int} (hs : sideOk n s) {x : Int} (h0 : 0 ≤ x) (h1 : x < n.m) : overStep n s x = s ∨ nBroken n (overStep n s x) < nBroken n s := by
  unfold overStep
  split
  · have := broken_turn hn hs h0 h1
    right
    omega
  · exact .inl rfl
theorem lap_less {n : Net} (hn : n.Ok) : ∀ (row s : List Int), sideOk n s → (∀ x ∈ row, 0 ≤ x ∧ x < n.m) → lapL n row s = s ∨ nBroken n (lapL n row s) < nBroken n s
  | [], _, _, _ => .inl rfl
  | x :: row, s, hs, hr => by
    obtain ⟨h0, h1⟩ := hr x List.mem_cons_self
    have ih := lap_less hn row (overStep n s x) (over_ok hs x) fun y hy => hr y (List.mem_cons_of_mem _ hy)
    show lapL n row (overStep n s x) = s ∨ nBroken n (lapL n row (overStep n s x)) < nBroken n s
    rcases over_less hn hs h0 h1 with a | a <;> rcases ih with b | b
    · exact .inl (b.trans a)
    · exact .inr (by rw [a] at b ⊢; exact b)
    · exact .inr (by rw [b]; exact a)
    · exact .inr (Nat.lt_trans b a)
def lapMore (n : Net) (row : List Int) (x : Int × List Int) : Bool := !decide (lapL n row x.2 = x.2)
def lapNext (n : Net) (row : List Int) (x : Int × List Int) : Int × List Int := (x.1 + 1, lapL n row x.2)
def lapsL (n : Net) (row s : List Int) : Int × List Int := iter (lapMore n row) (lapNext n row) (nBroken n s) (0, s)
theorem lapsL_done {n : Net} (hn : n.Ok) {row s : List Int} (hr : ∀ x ∈ row, 0 ≤ x ∧ x < n.m) (hs : sideOk n s) : lapMore n row (lapsL n row s) = false :=
  iter_doneP (fun x : Int × List Int => sideOk n x.2) (fun x : Int × List Int => nBroken n x.2) (fun x p q => lap_ok _ _ p) (fun x p q => by
    rcases lap_less hn row x.2 p hr with e | e
    · simp [lapMore, e] at q
    · exact e) _ _ hs (Nat.le_refl _)
theorem lapsL_inv {n : Net} (hn : n.Ok) {row s : List Int} (hr : ∀ x ∈ row, 0 ≤ x ∧ x < n.m) (hs : sideOk n s) : sideOk n (lapsL n row s).2 ∧ 0 ≤ (lapsL n row s).1 ∧ (nBroken n (lapsL n row s).2 : Int) + (lapsL n row s).1 ≤ nBroken n s :=
  iter_inv (fun x : Int × List Int => sideOk n x.2 ∧ 0 ≤ x.1 ∧ (nBroken n x.2 : Int) + x.1 ≤ nBroken n s) (fun x p q => by
    refine ⟨lap_ok _ _ p.1, by show 0 ≤ x.1 + 1; omega, ?_⟩
    have h3 := p.2.2
    rcases lap_less hn row x.2 p.1 hr with e | e
    · simp [lapMore, e] at q
    · show (nBroken n (lapL n row x.2) : Int) + (x.1 + 1) ≤ _
      omega) _ _ ⟨hs, Int.le_refl _, by simp⟩
theorem s_lap (N : OverT T) {n : Net} (hn : n.Ok) {s row : List Int} (hs : sideOk n s) (hr : ∀ x ∈ row, 0 ≤ x ∧ x < n.m) : Ret T 2 1200 [netD n, .tup (s.map .int), .tup (row.map .int)] (.tup ((lapL n row s).map .int)) :=
  .of N.h1200 rfl rfl (by simp [lowD]) fun k cs hk => by
    have key := forL_inv (enc := D.int) (t := .name 3) (b := denCs (callF T k) [.ite (.cmp .lt (.bin .mul (.call 31 [(.var 0), (.var 1), (.var 3)]) (.idx (.var 1) (.var 3))) (.kint 0)) [.set 1 (.call 36 [(.var 1), (.tup [(.var 3)])])] []])
      (fun (acc : List Int) (st : S) => sideOk n acc ∧ ∃ x3, st = ⟨[some (netD n), some (.tup (acc.map .int)), some (.tup (row.map .int)), x3], cs⟩) (overStep n) (xs := row) (acc := s) (s := ⟨[some (netD n), some (.tup (s.map .int)), some (.tup (row.map .int)), none], cs⟩) ?_ ⟨hs, _, rfl⟩
    · obtain ⟨s', e, ho, x3, rfl⟩ := key
      show denCs (callF T k) d_lap_of.body ⟨[some (netD n), some (.tup (s.map .int)), some (.tup (row.map .int)), none], cs⟩ = _
      refine (cons_nx (for_eq (ds := [.tup (row.map .int)]) (items := row.map .int) (s1 := ⟨[some (netD n), some (.tup (s.map .int)), some (.tup (row.map .int)), none], cs⟩) (by simp [den, denL, E.isStar]) rfl e)).trans ?_
      exact cons_rt (ret_of (den_var rfl))
    · rintro x hx acc st ⟨ho, x3, rfl⟩
      obtain ⟨h0, h1⟩ := hr x hx
      have hl := ho.1
      have e1 := at_side (s := acc) (i := x) h0 (by omega)
      have pm := side_pm ho (i := x) h0 h1
      have e2 := fun cs => s_pull (T := T) N.h31 hn ho x k cs (by omega)
      have e3 := fun cs => s_gone (T := T) N.h36 acc (IsLot.tup (l := [x])) k cs (by omega)
      simp only [List.map_cons, List.map_nil] at e3
      refine ⟨[some (netD n), some (.tup (acc.map .int)), some (.tup (row.map .int)), some (.int x)], ⟨[some (netD n), some (.tup ((overStep n acc x).map .int)), some (.tup (row.map .int)), some (.int x)], cs⟩, by simp [bindT], ?_, over_ok ho x, _, rfl⟩
      by_cases q : pull n acc x * sideAt acc x < 0
      · simp [denCs, denC, den, denL, E.isStar, e1, e2, e3, mul_smallR cs pm, q, overStep, setS]
      · simp [denCs, denC, den, denL, E.isStar, e1, e2, mul_smallR cs pm, q, overStep]
theorem eq_rows (cs : Cs) (a b : List Int) : eqD cs (.tup (a.map .int)) (.tup (b.map .int)) = some (decide (a = b)) := by
  have h1 : pyC cs (.tup (a.map .int)) = some (.tuple (a.map .int)) := by simp [pyC, deref, pyD]
  have h2 : pyC cs (.tup (b.map .int)) = some (.tuple (b.map .int)) := by simp [pyC, deref, pyD]
  have d1 : shal (.tuple (a.map .int)) = true := by unfold shal; rw [depth_row]; rfl
  have d2 : shal (.tuple (b.map .int)) = true := by unfold shal; rw [depth_row]; rfl
  simp only [eqD, h1, h2, d1, d2, Bool.and_self, if_true]
  rw [PyData.eqv, eqv_ints]
theorem eq_lists (cs : Cs) (a b : List Int) : eqD cs (.lst (a.map .int)) (.lst (b.map .int)) = some (decide (a = b)) := by
  have h1 : pyC cs (.lst (a.map .int)) = some (.list (a.map .int)) := by simp [pyC, deref, pyD]
  have h2 : pyC cs (.lst (b.map .int)) = some (.list (b.map .int)) := by simp [pyC, deref, pyD]
  have d1 : shal (.list (a.map .int)) = true := by unfold shal; rw [depth_rowl]; rfl
  have d2 : shal (.list (b.map .int)) = true := by unfold shal; rw [depth_rowl]; rfl
  simp only [eqD, h1, h2, d1, d2, Bool.and_self, if_true]
  rw [PyData.eqv, eqv_ints]
theorem rng_upto (m : Int) (h0 : 0 ≤ m) (h1 : m ≤ 100000) : rngD [.int m] = some ((upto m).map .int) := by rw [rng_of h0 h1, rangeD_0, upto_D]
theorem s_laps (N : OverT T) {n : Net} (hn : n.Ok) {s row : List Int} (hs : sideOk n s) (hr : row.Perm (upto n.m)) (hz : n.ts.length < 1000) : Ret T 7 1201 [netD n, .tup (s.map .int), .tup (row.map .int)] (.tup [.int (lapsL n row s).1, .tup ((lapsL n row s).2.map .int)]) :=
  .of N.h1201 rfl rfl (by simp [lowD, lowDs]) fun k cs hk => by
    have hr2 : ∀ x ∈ row, 0 ≤ x ∧ x < n.m := fun x hx => mem_upto.mp (hr.mem_iff.mp hx)
    have e1 := fun cs => g_check_at N.toGoT hn hs k cs (by omega)
    have e2 := fun lo hi cs => s_are_between (T := T) N.h0 N.h1 N.h2 row lo hi k cs (by omega)
    have e3 := fun s (hs : sideOk n s) cs => s_lap N hn (row := row) hs hr2 k cs (by omega)
    have ha : (row.all fun v => decide (0 ≤ v) && decide (v ≤ n.m - 1)) = true := by
      rw [List.all_eq_true]
      intro v hv
      obtain ⟨h1, h2⟩ := hr2 v hv
      simp
      omega
    have hm := hn.m1
    have hm2 := hn.m10
    have hb : nBroken n s ≤ n.ts.length := List.length_filter_le _ _
    let st : Int × List Int → S := fun x => ⟨[some (netD n), some (.tup (x.2.map .int)), some (.tup (row.map .int)), some (.int x.1), some (.tup ((lapL n row x.2).map .int))], cs⟩
    show denCs (callF T k) d_laps.body ⟨[some (netD n), some (.tup (s.map .int)), some (.tup (row.map .int)), none, none], cs⟩ = _
    have key := whlL_iterP (c := den (callF T k) (.cmp .ne (.var 4) (.var 1))) (b := denCs (callF T k) [.par 3 1 (.bin .add (.var 3) (.kint 1)) (.var 4), .set 4 (.call 1200 [(.var 0), (.var 1), (.var 2)])])
      (fun x s' => s' = st x) (fun x => sideOk n x.2) (lapMore n row) (lapNext n row) (fun x p q => lap_ok row x.2 p) (fun x s' p e => ?_) (fun x s' p e q => ?_) (nBroken n s) (0, s) (st (0, s)) hs rfl (lapsL_done hn hr2 hs) fuel (by unfold fuel; omega)
    · obtain ⟨s', e, e5, _⟩ := key
      have q1 : denC (callF T k) (.exp (.call 33 [(.var 0), (.var 1)])) ⟨[some (netD n), some (.tup (s.map .int)), some (.tup (row.map .int)), none, none], cs⟩ = .nx ⟨[some (netD n), some (.tup (s.map .int)), some (.tup (row.map .int)), none, none], cs⟩ := by
        simp [denC, den, denL, E.isStar, e1]
      have q2 : den (callF T k) (.or (.not (.call 2 [(.var 2), (.kint 0), (.bin .sub (.idx (.var 0) (.kint 0)) (.kint 1))])) (.cmp .ne (.bi .sorted [(.var 2)]) (.rng [(.idx (.var 0) (.kint 0))]))) ⟨[some (netD n), some (.tup (s.map .int)), some (.tup (row.map .int)), none, none], cs⟩ = .ok (.bl false) ⟨[some (netD n), some (.tup (s.map .int)), some (.tup (row.map .int)), none, none], cs⟩ := by
        have r := rng_upto n.m (by omega) (by omega)
        simp [den, denL, E.isStar, netD, e2, ha, sorted_ints, sortI_upto hr, r, cmpD, eq_lists]
      have q3 : denC (callF T k) (.par 3 4 (.kint 0) (.call 1200 [(.var 0), (.var 1), (.var 2)])) ⟨[some (netD n), some (.tup (s.map .int)), some (.tup (row.map .int)), none, none], cs⟩ = .nx (st (0, s)) := by
        simp [denC, den, denL, E.isStar, e3 s hs, st]
      refine (cons_nx q1).trans ((cons_nx ((ite_f q2).trans (by rw [denCs]))).trans ((cons_nx q3).trans ((cons_nx (whl_eq e)).trans ?_)))
      rw [e5]
      simp [st, denCs, denC, den, denL, E.isStar, lapsL]
    · subst e
      simp [st, den, cmpD, eq_rows, lapMore]
    · subst e
      refine ⟨st (lapNext n row x), ?_, rfl⟩
      simp [st, denCs, denC, den, denL, E.isStar, lapNext, e3 _ (lap_ok row x.2 p), setS]
end Ev

set_option Elab.async false
set_option linter.all false
set_option maxRecDepth 100000
set_option maxHeartbeats 1000000
set_option autoImplicit false
/-! Houses that go over: what the law's own defs give. -/
namespace Ev
open PySem Dd
variable {T : Tf}
structure OwnT (T : Tf) : Prop where
  h1204 : T 1204 = some d__law_breaks_3
  h1205 : T 1205 = some d__law_pull
  h1206 : T 1206 = some d__law_gone
  h1207 : T 1207 = some d__law_wanting
  h1208 : T 1208 = some d__law_rested
  h1209 : T 1209 = some d__law_lapped
theorem l_breaks (N : OwnT T) {n : Net} (hn : n.Ok) {s : List Int} (hs : sideOk n s) : Ret T 1 1204 [netD n, .tup (s.map .int)] (.int (nBroken n s)) :=
  .of N.h1204 rfl rfl (by simp [lowD]) fun k cs hk => by
    show denCs (callF T k) d__law_breaks_3.body ⟨[some (netD n), some (.tup (s.map .int)), none], cs⟩ = _
    have hl := hs.1
    have q : lcL (wipeS [some (netD n), some (.tup (s.map .int)), none] [2]) (.name 2) (denI (callF T k) [(.cmp .ne (.bin .mul (.idx (.var 1) (.idx (.var 2) (.kint 0))) (.idx (.var 1) (.idx (.var 2) (.kint 1)))) (.idx (.var 2) (.kint 2)))]) (den (callF T k) (.var 2)) (n.ts.map tieD) [] cs = some ((n.ts.filter fun t => !kept s t).map tieD, cs) := by
      refine (lcL_pure (fun t => [some (netD n), some (.tup (s.map .int)), some (tieD t)]) (fun t => !kept s t) tieD fun t ht => ⟨by simp [bindT, wipeS], ?_, fun _ => by simp [den]⟩).trans (by rw [List.nil_append])
      obtain ⟨a, b, c⟩ := t
      obtain ⟨o1, o2, o3, o4⟩ := hn.ok _ ht
      simp only at o1 o2 o3
      have e1 := at_side (s := s) (i := a) o1 (by omega)
      have e2 := at_side (s := s) (i := b) (by omega) (by omega)
      have pm := side_pm hs (i := a) o1 (by omega)
      rw [denI]
      simp [den, denL, denI, E.isStar, tieD, tieR, e1, e2, mul_small cs pm, kept]
    have e := den_lc (G := callF T k) (elt := .var 2) (tg := .name 2) (k := .seq) (ss := [(.idx (.var 0) (.kint 1))]) (own := [2]) (s := ⟨[some (netD n), some (.tup (s.map .int)), none], cs⟩) (ds := [.tup (n.ts.map tieD)]) (by simp [den, denL, E.isStar, netD]) rfl q
    refine cons_rt (ret_of (den_bi1 rfl e ?_))
    simp [bi1, lenD, seqC, deref, seqD, nBroken]
theorem cmp_eqi (cs : Cs) (a b : Int) : cmpD cs .eq (.int a) (.int b) = some (decide (a = b)) := by simp
theorem pull_step {s : List Int} {h acc : Int} {t : Tie} (ht : t.1 < t.2.1) : acc + t.2.2 * (sideAt s t.2.1 * b2i (decide (h = t.1)) + sideAt s t.1 * b2i (decide (h = t.2.1))) = pullStep s h acc t := by
  unfold pullStep
  by_cases q : h = t.1
  · have q2 : ¬ t.1 = t.2.1 := by omega
    simp [q, q2, b2i]
  · by_cases q2 : h = t.2.1
    · have q3 : ¬ t.2.1 = t.1 := by omega
      simp [q, q2, q3, b2i]
    · simp [q, q2, b2i]
theorem l_pullT (hT : T 1205 = some d__law_pull) {n : Net} (hn : n.Ok) {s : List Int} (hs : sideOk n s) (h : Int) : Ret T 1 1205 [netD n, .tup (s.map .int), .int h] (.int (pull n s h)) :=
  .of hT rfl rfl (by simp [lowD]) fun k cs hk => by
    show denCs (callF T k) d__law_pull.body ⟨[some (netD n), some (.tup (s.map .int)), some (.int h), none, none, none, none], cs⟩ = _
    have key := forL_inv (enc := tieD) (t := .tup [.name 4, .name 5, .name 6]) (b := denCs (callF T k) [.set 3 (.bin .add (.var 3) (.bin .mul (.var 6) (.bin .add (.bin .mul (.idx (.var 1) (.var 5)) (.bi .int [(.cmp .eq (.var 2) (.var 4))])) (.bin .mul (.idx (.var 1) (.var 4)) (.bi .int [(.cmp .eq (.var 2) (.var 5))])))))])
      (fun (acc : Int) (st : S) => ∃ x1 x2 x3, st = ⟨[some (netD n), some (.tup (s.map .int)), some (.int h), some (.int acc), x1, x2, x3], cs⟩) (pullStep s h) (xs := n.ts) (acc := 0) (s := ⟨[some (netD n), some (.tup (s.map .int)), some (.int h), some (.int 0), none, none, none], cs⟩) ?_ ⟨_, _, _, rfl⟩
    · obtain ⟨s', e, x1, x2, x3, rfl⟩ := key
      refine (cons_nx (s' := ⟨[some (netD n), some (.tup (s.map .int)), some (.int h), some (.int 0), none, none, none], cs⟩) (by simp [denC, den, setS])).trans ?_
      refine (cons_nx (for_eq (ds := [.tup (n.ts.map tieD)]) (items := n.ts.map tieD) (s1 := ⟨[some (netD n), some (.tup (s.map .int)), some (.int h), some (.int 0), none, none, none], cs⟩) (by simp [den, denL, E.isStar, netD]) rfl e)).trans ?_
      simp [denCs, denC, den, pull]
    · rintro t ht acc st ⟨x1, x2, x3, rfl⟩
      obtain ⟨o1, o2, o3, o4⟩ := hn.ok t ht
      have hl := hs.1
      have e1 := at_side (s := s) (i := t.1) o1 (by omega)
      have e2 := at_side (s := s) (i := t.2.1) (by omega) (by omega)
      have p1 := side_pm hs (i := t.1) o1 (by omega)
      have p2 := side_pm hs (i := t.2.1) (by omega) o3
      have m1 := mul_small cs (j := b2i (decide (h = t.1))) p2
      have m2 := mul_small cs (j := b2i (decide (h = t.2.1))) p1
      have m3 := fun X => mul_small cs (j := X) o4
      have cg : ∀ b : Bool, bi1 cs .int (.bl b) = some (.int (b2i b)) := fun b => rfl
      refine ⟨[some (netD n), some (.tup (s.map .int)), some (.int h), some (.int acc), some (.int t.1), some (.int t.2.1), some (.int t.2.2)], ⟨[some (netD n), some (.tup (s.map .int)), some (.int h), some (.int (pullStep s h acc t)), some (.int t.1), some (.int t.2.1), some (.int t.2.2)], cs⟩, by simp [bindT, bindTs, tieD, tieR], ?_, _, _, _, rfl⟩
      have hd : den (callF T k) (.bin .add (.var 3) (.bin .mul (.var 6) (.bin .add (.bin .mul (.idx (.var 1) (.var 5)) (.bi .int [(.cmp .eq (.var 2) (.var 4))])) (.bin .mul (.idx (.var 1) (.var 4)) (.bi .int [(.cmp .eq (.var 2) (.var 5))]))))) ⟨[some (netD n), some (.tup (s.map .int)), some (.int h), some (.int acc), some (.int t.1), some (.int t.2.1), some (.int t.2.2)], cs⟩ = .ok (.int (pullStep s h acc t)) ⟨[some (netD n), some (.tup (s.map .int)), some (.int h), some (.int acc), some (.int t.1), some (.int t.2.1), some (.int t.2.2)], cs⟩ := by
        rw [← pull_step (s := s) (h := h) (acc := acc) (t := t) o2]
        have t1 : den (callF T k) (.bin .mul (.idx (.var 1) (.var 5)) (.bi .int [(.cmp .eq (.var 2) (.var 4))])) ⟨[some (netD n), some (.tup (s.map .int)), some (.int h), some (.int acc), some (.int t.1), some (.int t.2.1), some (.int t.2.2)], cs⟩ = .ok (.int (sideAt s t.2.1 * b2i (decide (h = t.1)))) ⟨[some (netD n), some (.tup (s.map .int)), some (.int h), some (.int acc), some (.int t.1), some (.int t.2.1), some (.int t.2.2)], cs⟩ :=
          den_bin (den_idx (den_var rfl) (den_var rfl) e2) (den_bi1 rfl (den_cmp (den_var rfl) (den_var rfl) (cmp_eqi cs h t.1)) (cg _)) m1
        have t2 : den (callF T k) (.bin .mul (.idx (.var 1) (.var 4)) (.bi .int [(.cmp .eq (.var 2) (.var 5))])) ⟨[some (netD n), some (.tup (s.map .int)), some (.int h), some (.int acc), some (.int t.1), some (.int t.2.1), some (.int t.2.2)], cs⟩ = .ok (.int (sideAt s t.1 * b2i (decide (h = t.2.1)))) ⟨[some (netD n), some (.tup (s.map .int)), some (.int h), some (.int acc), some (.int t.1), some (.int t.2.1), some (.int t.2.2)], cs⟩ :=
          den_bin (den_idx (den_var rfl) (den_var rfl) e1) (den_bi1 rfl (den_cmp (den_var rfl) (den_var rfl) (cmp_eqi cs h t.2.1)) (cg _)) m2
        exact den_bin (den_var rfl) (den_bin (den_var rfl) (den_bin t1 t2 rfl) (m3 _)) rfl
      exact (cons_nx (denC_set hd (by simp))).trans (by simp [denCs])
theorem l_pull (N : OwnT T) {n : Net} (hn : n.Ok) {s : List Int} (hs : sideOk n s) (h : Int) : Ret T 1 1205 [netD n, .tup (s.map .int), .int h] (.int (pull n s h)) := l_pullT N.h1205 hn hs h
theorem l_goneT (hT : T 1206 = some d__law_gone) (s : List Int) {l : List Int} {d : D} (hl : IsLot l d) : Ret T 1 1206 [.tup (s.map .int), d] (.tup ((turnedAt s l).map .int)) :=
  .of hT rfl rfl (by simp [lowD]) fun k cs hk => by
    simp only [d__law_gone, denCs, denC, den, denL, E.isStar, wipeS, srcD]
    simp
    have em := enum_map D.int s
    rw [List.length_map] at em
    rw [em, lcL_map (fun p : Nat × Int => [some (.tup (s.map .int)), some d, some (.int (p.1 : Nat)), some (.int p.2)]) (fun p => .int (if ((p.1 : Nat) : Int) ∈ l then 0 - p.2 else p.2)) fun p hp => ⟨by simp [bindT, bindTs], by by_cases q : ((p.1 : Nat) : Int) ∈ l <;> simp [den, denL, E.isStar, hl.isin, q]⟩]
    simp [turnedAt, Function.comp_def]
theorem l_gone (N : OwnT T) (s : List Int) {l : List Int} {d : D} (hl : IsLot l d) : Ret T 1 1206 [.tup (s.map .int), d] (.tup ((turnedAt s l).map .int)) := l_goneT N.h1206 s hl
theorem den_cel {G : Gf} {e : E} {s s1 : S} {ds : List D} (h : den G e s = .ok (.lst ds) s1) (hl : lowDs s1.cs.length ds = true) : den G (.cel e) s = .ok (.cell s1.cs.length) ⟨s1.sl, s1.cs ++ [(true, .lst ds)]⟩ := by
  rw [den, h]
  simp [hl]
theorem l_wanting (N : OwnT T) {n : Net} (hn : n.Ok) {s : List Int} (hs : sideOk n s) : Ret T 2 1207 [netD n, .tup (s.map .int)] (.lst ((wants n s).map .int)) :=
  .ofF N.h1207 rfl rfl (by simp) fun k cs hk => by
    refine ⟨cs.length, [(true, .lst ((wants n s).map .int))], Nat.le_refl _, by simp, ?_⟩
    show denCs (callF T k) d__law_wanting.body ⟨[some (netD n), some (.tup (s.map .int)), none], cs⟩ = _
    have hm := hn.m1
    have hm2 := hn.m10
    have q : lcL (wipeS [some (netD n), some (.tup (s.map .int)), none] [2]) (.name 2) (denI (callF T k) [(.cmp .lt (.call 1204 [(.var 0), (.call 1206 [(.var 1), (.lst [(.var 2)])])]) (.call 1204 [(.var 0), (.var 1)]))]) (den (callF T k) (.var 2)) ((List.range n.m.toNat).map fun i => .int (i : Nat)) [] cs = some ((wants n s).map .int, cs) := by
      refine (lcL_pure (fun i : Nat => [some (netD n), some (.tup (s.map .int)), some (.int (i : Nat))]) (fun i => decide (pull n s (i : Nat) * sideAt s (i : Nat) < 0)) (fun i => .int (i : Nat)) fun i hi => ⟨by simp [bindT, wipeS], ?_, fun _ => by simp [den]⟩).trans (by rw [List.nil_append, wants, List.map_map]; rfl)
      have hi := List.mem_range.mp hi
      have e1 := fun cs => l_gone N s (IsLot.lst (l := [((i : Nat) : Int)])) k cs (by omega)
      have e2 := fun s (hs : sideOk n s) cs => l_breaks N hn hs k cs (by omega)
      have bt := broken_turn hn hs (h := ((i : Nat) : Int)) (by omega) (by omega)
      simp only [List.map_cons, List.map_nil] at e1
      have eb : decide ((nBroken n (turnedAt s [((i : Nat) : Int)]) : Int) < (nBroken n s : Int)) = decide (pull n s (i : Nat) * sideAt s (i : Nat) < 0) := by
        rw [decide_eq_decide]
        omega
      rw [denI]
      simp [den, denL, denI, E.isStar, e1, e2 _ hs, e2 _ (turned_ok hs _), ← eb]
    have e := den_lc (G := callF T k) (elt := .var 2) (tg := .name 2) (k := .rng1) (ss := [(.idx (.var 0) (.kint 0))]) (own := [2]) (s := ⟨[some (netD n), some (.tup (s.map .int)), none], cs⟩) (ds := [.int n.m]) (by simp [den, denL, E.isStar, netD]) (by rw [srcD, rng_of (by omega) (by omega), rangeD_0]) q
    exact cons_rt (ret_of (den_cel e (lows_ints _ _)))
/-- a for over numbers that goes on until it gives -/
theorem forL_ret {β : Type} {b : S → Rs} {t : Tg} {cs : Cs} (Inv : β → S → Prop) (P : β → Prop) (more : β → Bool) (step : β → β) (out : β → D) (hP : ∀ x, P x → more x = true → P (step x))
    (hb : ∀ (i : Nat) x s, P x → Inv x s → ∃ sl, bindT t (.int (i : Nat)) s.sl = some sl ∧ (more x = true → ∃ s', b ⟨sl, s.cs⟩ = .nx s' ∧ Inv (step x) s') ∧ (more x = false → b ⟨sl, s.cs⟩ = .rt (out x) cs)) :
    ∀ (N : Nat) (is : List Nat) (x : β) (s : S), P x → Inv x s → N < is.length → more (iter more step N x) = false → forL t b (is.map fun i => .int (i : Nat)) s = .rt (out (iter more step N x)) cs
  | _, [], _, _, _, _, z, _ => absurd z (Nat.not_lt_zero _)
  | 0, i :: is, x, s, p, h, _, hm => by
    obtain ⟨sl, e1, _, e2⟩ := hb i x s p h
    rw [iter] at hm ⊢
    rw [List.map_cons, forL]
    simp only [e1, e2 hm]
  | N + 1, i :: is, x, s, p, h, z, hm => by
    obtain ⟨sl, e1, e2, e3⟩ := hb i x s p h
    rw [iter] at hm ⊢
    rw [List.map_cons, forL]
    cases q : more x with
    | false =>
      simp only [e1, e3 q]
      rfl
    | true =>
      rw [q, if_pos rfl] at hm
      obtain ⟨s', e4, h'⟩ := e2 q
      have ih := forL_ret Inv P more step out hP hb N is (step x) s' (hP x p q) h' (Nat.lt_of_succ_lt_succ z) hm
      simp only [e1, e4, ih, if_true]
theorem l_rested (N : OwnT T) {n : Net} (hn : n.Ok) {s : List Int} (hs : sideOk n s) (hz : n.ts.length < 1000) : Ret T 3 1208 [netD n, .tup (s.map .int)] (.tup [.tup ((restedL n s).1.map .int), .tup ((restedL n s).2.map .int)]) :=
  .of N.h1208 rfl rfl (by simp [lowD, lowDs]) fun k cs hk => by
    show denCs (callF T k) d__law_rested.body ⟨[some (netD n), some (.tup (s.map .int)), none, none, none], cs⟩ = _
    have e0 := fun s (hs : sideOk n s) cs => l_wanting N hn hs k cs (by omega)
    have e1 := fun s l cs => l_gone N s (IsLot.lst (l := l)) k cs (by omega)
    have hb : nBroken n s ≤ n.ts.length := List.length_filter_le _ _
    have key := forL_ret (t := .name 3) (cs := cs) (b := denCs (callF T k) [.set 4 (.call 1207 [(.var 0), (.var 1)]), .ite (.cmp .eq (.var 4) (.lst [])) [.ret (.tup [(.var 2), (.var 1)])] [], .par 2 1 (.bin .add (.var 2) (.tup [(.idx (.var 4) (.kint 0))])) (.call 1206 [(.var 1), (.sl (.var 4) none (some (.kint 1)))])])
      (fun (x : List Int × List Int) (st : S) => ∃ x3 x4, st = ⟨[some (netD n), some (.tup (x.2.map .int)), some (.tup (x.1.map .int)), x3, x4], cs⟩) (fun x => sideOk n x.2 ∧ x.1.length + nBroken n x.2 ≤ n.ts.length) (restMore n) (restStep n) (fun x => .tup [.tup (x.1.map .int), .tup (x.2.map .int)])
      (fun x p q => ?_) (fun i x st p h => ?_) (nBroken n s) (List.range (n.ts.length + 1)) ([], s) ⟨[some (netD n), some (.tup (s.map .int)), some (.tup []), none, none], cs⟩ ⟨hs, by simpa using hb⟩ ⟨none, none, rfl⟩ (by simp; omega) (rest_done hn hs)
    · refine (cons_nx (s' := ⟨[some (netD n), some (.tup (s.map .int)), some (.tup []), none, none], cs⟩) (by simp [denC, den, denL, setS])).trans ?_
      refine cons_rt ((for_eq (ds := [.int (n.ts.length + 1)]) (items := rangeD 0 (n.ts.length + 1)) (s1 := ⟨[some (netD n), some (.tup (s.map .int)), some (.tup []), none, none], cs⟩) (by simp [den, denL, E.isStar, netD, bi1, lenD, seqC, deref, seqD]) (by rw [srcD]; exact rng_of (by omega) (by omega)) ?_))
      rw [rangeD_0]
      exact key
    · obtain ⟨a, r, _, e, lt⟩ := rest_step hn p.1 q
      refine ⟨rest_ok hn p.1 q, ?_⟩
      rw [e]
      have := p.2
      simp
      omega
    · obtain ⟨x3, x4, rfl⟩ := h
      have g1 : denC (callF T k) (.set 4 (.call 1207 [(.var 0), (.var 1)])) ⟨[some (netD n), some (.tup (x.2.map .int)), some (.tup (x.1.map .int)), some (.int (i : Nat)), x4], cs⟩ = .nx ⟨[some (netD n), some (.tup (x.2.map .int)), some (.tup (x.1.map .int)), some (.int (i : Nat)), some (.lst ((wants n x.2).map .int))], cs⟩ := by
        simp [denC, den, denL, E.isStar, e0 _ p.1, setS]
      have g2 : den (callF T k) (.cmp .eq (.var 4) (.lst [])) ⟨[some (netD n), some (.tup (x.2.map .int)), some (.tup (x.1.map .int)), some (.int (i : Nat)), some (.lst ((wants n x.2).map .int))], cs⟩ = .ok (.bl (decide (wants n x.2 = []))) ⟨[some (netD n), some (.tup (x.2.map .int)), some (.tup (x.1.map .int)), some (.int (i : Nat)), some (.lst ((wants n x.2).map .int))], cs⟩ :=
        den_cmp (y := .lst []) (den_var rfl) (by simp [den, denL, E.isStar]) (by rw [cmp_eq]; exact eq_lists cs _ [])
      refine ⟨[some (netD n), some (.tup (x.2.map .int)), some (.tup (x.1.map .int)), some (.int (i : Nat)), x4], by simp [bindT], fun q => ?_, fun q => ?_⟩
      · obtain ⟨a, r, ew, es, lt⟩ := rest_step hn p.1 q
        refine ⟨⟨[some (netD n), some (.tup ((restStep n x).2.map .int)), some (.tup ((restStep n x).1.map .int)), some (.int (i : Nat)), some (.lst ((wants n x.2).map .int))], cs⟩, ?_, _, _, rfl⟩
        rw [es]
        have l1 : x.1.length ≤ 16777215 := by have := p.2; omega
        have nz : decide (wants n x.2 = []) = false := by rw [ew]; rfl
        rw [nz] at g2
        refine (cons_nx g1).trans ((cons_nx ((ite_f g2).trans (by rw [denCs]))).trans ?_)
        have e3 := e1 x.2 [a] cs
        have e4 : turnedAt x.2 [a] = turnedAt x.2 ((wants n x.2).take 1) := by rw [ew]; rfl
        have c1 : cutD ((wants n x.2).map D.int) none (some 1) = [a].map D.int := by
          have := cut_to ((wants n x.2).map D.int) 1
          rw [ew] at this ⊢
          exact this
        have a0 : L2.atI ((wants n x.2).map D.int) 0 = some (.int a) := by rw [ew]; simp [L2.atI, L2.ixN]
        have b1 : binD cs .add (.tup (x.1.map .int)) (.tup [.int a]) = some (.tup ((x.1 ++ [a]).map .int)) := by
          rw [List.map_append]
          simp [binD, fits, l1]
        simp only [List.map_cons, List.map_nil] at e3
        simp [denCs, denC, den, denL, denO, E.isStar, a0, b1, c1, e3]
      · have nz : decide (wants n x.2 = []) = true := by
          simp only [restMore, Bool.not_eq_false'] at q
          exact q
        rw [nz] at g2
        refine (cons_nx g1).trans (cons_rt ((ite_t g2).trans (cons_rt (ret_of (den_pair rfl rfl (den_var rfl) (den_var rfl))))))
theorem l_lapped (N : OwnT T) {n : Net} (hn : n.Ok) {s row : List Int} (hs : sideOk n s) (hr : ∀ x ∈ row, 0 ≤ x ∧ x < n.m) (hz : n.ts.length < 1000) : Ret T 2 1209 [netD n, .tup (s.map .int), .tup (row.map .int)] (.tup [.int (lapsL n row s).1, .tup ((lapsL n row s).2.map .int)]) :=
  .of N.h1209 rfl rfl (by simp [lowD, lowDs]) fun k cs hk => by
    show denCs (callF T k) d__law_lapped.body ⟨[some (netD n), some (.tup (s.map .int)), some (.tup (row.map .int)), none, none, none, none], cs⟩ = _
    have hb : nBroken n s ≤ n.ts.length := List.length_filter_le _ _
    have inner : ∀ (s : List Int) (x3 x4 x5 x6 : Option D), sideOk n s → ∃ y6, forL (.name 6) (denCs (callF T k) [.ite (.cmp .lt (.call 1204 [(.var 0), (.call 1206 [(.var 1), (.lst [(.var 6)])])]) (.call 1204 [(.var 0), (.var 1)])) [.set 1 (.call 1206 [(.var 1), (.lst [(.var 6)])])] []]) (row.map .int) ⟨[some (netD n), some (.tup (s.map .int)), some (.tup (row.map .int)), x3, x4, x5, x6], cs⟩ =
        .nx ⟨[some (netD n), some (.tup ((lapL n row s).map .int)), some (.tup (row.map .int)), x3, x4, x5, y6], cs⟩ := fun s x3 x4 x5 x6 hs => by
      obtain ⟨s', e, ho, y6, rfl⟩ := forL_inv (enc := D.int) (t := .name 6) (b := denCs (callF T k) [.ite (.cmp .lt (.call 1204 [(.var 0), (.call 1206 [(.var 1), (.lst [(.var 6)])])]) (.call 1204 [(.var 0), (.var 1)])) [.set 1 (.call 1206 [(.var 1), (.lst [(.var 6)])])] []])
        (fun (acc : List Int) (st : S) => sideOk n acc ∧ ∃ x6, st = ⟨[some (netD n), some (.tup (acc.map .int)), some (.tup (row.map .int)), x3, x4, x5, x6], cs⟩) (overStep n) (xs := row) (acc := s) (s := ⟨[some (netD n), some (.tup (s.map .int)), some (.tup (row.map .int)), x3, x4, x5, x6], cs⟩) (fun x hx acc st h => by
          obtain ⟨ho, x6, rfl⟩ := h
          obtain ⟨h0, h1⟩ := hr x hx
          have e1 := fun cs => l_gone N acc (IsLot.lst (l := [x])) k cs (by omega)
          have e2 := fun s (hs : sideOk n s) cs => l_breaks N hn hs k cs (by omega)
          have bt := broken_turn hn ho h0 h1
          simp only [List.map_cons, List.map_nil] at e1
          refine ⟨[some (netD n), some (.tup (acc.map .int)), some (.tup (row.map .int)), x3, x4, x5, some (.int x)], ⟨[some (netD n), some (.tup ((overStep n acc x).map .int)), some (.tup (row.map .int)), x3, x4, x5, some (.int x)], cs⟩, by simp [bindT], ?_, over_ok ho x, _, rfl⟩
          by_cases q : pull n acc x * sideAt acc x < 0
          · have q2 : (nBroken n (turnedAt acc [x]) : Int) < (nBroken n acc : Int) := by omega
            simp [denCs, denC, den, denL, E.isStar, e1, e2 _ ho, e2 _ (turned_ok ho _), q, q2, overStep, setS]
          · have q2 : ¬ (nBroken n (turnedAt acc [x]) : Int) < (nBroken n acc : Int) := by omega
            simp [denCs, denC, den, denL, E.isStar, e1, e2 _ ho, e2 _ (turned_ok ho _), q, q2, overStep]) ⟨hs, _, rfl⟩
      exact ⟨y6, e⟩
    have key := forL_ret (t := .name 4) (cs := cs) (b := denCs (callF T k) [.set 5 (.var 1), .for (.name 6) .seq [(.var 2)] [.ite (.cmp .lt (.call 1204 [(.var 0), (.call 1206 [(.var 1), (.lst [(.var 6)])])]) (.call 1204 [(.var 0), (.var 1)])) [.set 1 (.call 1206 [(.var 1), (.lst [(.var 6)])])] []], .ite (.cmp .eq (.var 1) (.var 5)) [.ret (.tup [(.var 3), (.var 1)])] [], .set 3 (.bin .add (.var 3) (.kint 1))])
      (fun (x : Int × List Int) (st : S) => ∃ x4 x5 x6, st = ⟨[some (netD n), some (.tup (x.2.map .int)), some (.tup (row.map .int)), some (.int x.1), x4, x5, x6], cs⟩) (fun x => sideOk n x.2) (lapMore n row) (lapNext n row) (fun x => .tup [.int x.1, .tup (x.2.map .int)])
      (fun x p q => lap_ok row x.2 p) (fun i x st p h => ?_) (nBroken n s) (List.range (n.ts.length + 2)) (0, s) ⟨[some (netD n), some (.tup (s.map .int)), some (.tup (row.map .int)), some (.int 0), none, none, none], cs⟩ hs ⟨none, none, none, rfl⟩ (by simp; omega) (lapsL_done hn hr hs)
    · refine (cons_nx (s' := ⟨[some (netD n), some (.tup (s.map .int)), some (.tup (row.map .int)), some (.int 0), none, none, none], cs⟩) (by simp [denC, den, denL, setS])).trans ?_
      refine cons_rt ((for_eq (ds := [.int (n.ts.length + 2)]) (items := rangeD 0 (n.ts.length + 2)) (s1 := ⟨[some (netD n), some (.tup (s.map .int)), some (.tup (row.map .int)), some (.int 0), none, none, none], cs⟩) (by simp [den, denL, E.isStar, netD, bi1, lenD, seqC, deref, seqD]) (by rw [srcD]; exact rng_of (by omega) (by omega)) ?_))
      rw [rangeD_0]
      exact key
    · obtain ⟨x4, x5, x6, rfl⟩ := h
      obtain ⟨y6, ei⟩ := inner x.2 (some (.int x.1)) (some (.int (i : Nat))) (some (.tup (x.2.map .int))) x6 p
      have g1 : denC (callF T k) (.set 5 (.var 1)) ⟨[some (netD n), some (.tup (x.2.map .int)), some (.tup (row.map .int)), some (.int x.1), some (.int (i : Nat)), x5, x6], cs⟩ = .nx ⟨[some (netD n), some (.tup (x.2.map .int)), some (.tup (row.map .int)), some (.int x.1), some (.int (i : Nat)), some (.tup (x.2.map .int)), x6], cs⟩ := by
        simp [denC, den, setS]
      have g2 := for_eq (G := callF T k) (t := .name 6) (k := .seq) (ss := [(.var 2)]) (b := [.ite (.cmp .lt (.call 1204 [(.var 0), (.call 1206 [(.var 1), (.lst [(.var 6)])])]) (.call 1204 [(.var 0), (.var 1)])) [.set 1 (.call 1206 [(.var 1), (.lst [(.var 6)])])] []]) (s := ⟨[some (netD n), some (.tup (x.2.map .int)), some (.tup (row.map .int)), some (.int x.1), some (.int (i : Nat)), some (.tup (x.2.map .int)), x6], cs⟩) (ds := [.tup (row.map .int)]) (by simp [den, denL, E.isStar]) rfl ei
      have g3 : den (callF T k) (.cmp .eq (.var 1) (.var 5)) ⟨[some (netD n), some (.tup ((lapL n row x.2).map .int)), some (.tup (row.map .int)), some (.int x.1), some (.int (i : Nat)), some (.tup (x.2.map .int)), y6], cs⟩ = .ok (.bl (decide (lapL n row x.2 = x.2))) ⟨[some (netD n), some (.tup ((lapL n row x.2).map .int)), some (.tup (row.map .int)), some (.int x.1), some (.int (i : Nat)), some (.tup (x.2.map .int)), y6], cs⟩ :=
        den_cmp (den_var rfl) (den_var rfl) (by rw [cmp_eq]; exact eq_rows cs _ _)
      refine ⟨[some (netD n), some (.tup (x.2.map .int)), some (.tup (row.map .int)), some (.int x.1), some (.int (i : Nat)), x5, x6], by simp [bindT], fun q => ?_, fun q => ?_⟩
      · have nz : decide (lapL n row x.2 = x.2) = false := by simpa [lapMore] using q
        rw [nz] at g3
        refine ⟨⟨[some (netD n), some (.tup ((lapL n row x.2).map .int)), some (.tup (row.map .int)), some (.int (x.1 + 1)), some (.int (i : Nat)), some (.tup (x.2.map .int)), y6], cs⟩, ?_, _, _, _, rfl⟩
        refine (cons_nx g1).trans ((cons_nx g2).trans ((cons_nx ((ite_f g3).trans (by rw [denCs]))).trans ?_))
        simp [denCs, denC, den, denL, E.isStar, setS]
      · have nz : decide (lapL n row x.2 = x.2) = true := by simpa [lapMore] using q
        rw [nz] at g3
        have same : lapL n row x.2 = x.2 := of_decide_eq_true nz
        rw [same] at g3 g2
        exact (cons_nx g1).trans ((cons_nx g2).trans (cons_rt ((ite_t g3).trans (cons_rt (ret_of (den_pair rfl rfl (den_var rfl) (den_var rfl)))))))
end Ev

set_option Elab.async false
set_option linter.all false
set_option maxRecDepth 100000
set_option maxHeartbeats 2000000
set_option autoImplicit false
/-! Houses that go over: sums over houses and ties. -/
namespace Ev
open PySem Dd
theorem ind_sum (X : Int) (a : Nat) : ∀ m : Nat, ((List.range m).map fun h => if h = a then X else 0).sum = if a < m then X else 0
  | 0 => rfl
  | m + 1 => by
    rw [List.range_succ, List.map_append, List.sum_append, ind_sum X a m]
    simp only [List.map_cons, List.map_nil, List.sum_cons, List.sum_nil]
    by_cases h : a < m
    · have h1 : a < m + 1 := by omega
      have h2 : ¬ m = a := by omega
      simp [h, h1, h2]
    · by_cases h3 : m = a
      · subst h3; simp
      · have h1 : ¬ a < m + 1 := by omega
        simp [h, h1, h3]
theorem sum_two {α : Type} (f g : α → Int) : ∀ l : List α, (l.map fun x => f x + g x).sum = (l.map f).sum + (l.map g).sum
  | [] => rfl
  | x :: l => by simp only [List.map_cons, List.sum_cons, sum_two f g l]; omega
theorem sum_swap {α β : Type} (f : α → β → Int) (ts : List β) : ∀ hs : List α, (hs.map fun h => (ts.map (f h)).sum).sum = (ts.map fun t => (hs.map fun h => f h t).sum).sum
  | [] => by
    simp only [List.map_nil, List.sum_nil]
    induction ts with
    | nil => rfl
    | cons t ts ih => simp only [List.map_cons, List.sum_cons, ← ih]; rfl
  | h :: hs => by
    simp only [List.map_cons, List.sum_cons]
    rw [sum_swap f ts hs, sum_two (f h) fun t => (hs.map fun h => f h t).sum]
theorem sum_le {α : Type} (f : α → Int) (h0 : ∀ x, 0 ≤ f x) : ∀ l : List α, 0 ≤ (l.map f).sum
  | [] => Int.le_refl _
  | x :: l => by
    have := sum_le f h0 l
    have := h0 x
    simp only [List.map_cons, List.sum_cons]
    omega
theorem sum_pos {α : Type} (f : α → Int) : ∀ l : List α, (∀ x ∈ l, 0 ≤ f x) → 0 ≤ (l.map f).sum
  | [], _ => Int.le_refl _
  | x :: l, h => by
    have := sum_pos f l fun y hy => h y (List.mem_cons_of_mem _ hy)
    have := h x List.mem_cons_self
    simp only [List.map_cons, List.sum_cons]
    omega
theorem sum_mulr {α : Type} (f : α → Int) (k : Int) : ∀ l : List α, (l.map f).sum * k = (l.map fun x => f x * k).sum
  | [] => by simp
  | x :: l => by simp only [List.map_cons, List.sum_cons, Int.add_mul, sum_mulr f k l]
def prodAt (s : List Int) (t : Tie) : Int := t.2.2 * sideAt s t.1 * sideAt s t.2.1
theorem tie_sum {n : Net} {s : List Int} {t : Tie} (ht : tieOk n.m t) : ((List.range n.m.toNat).map fun h : Nat => term s (h : Int) t * sideAt s (h : Int)).sum = 2 * prodAt s t := by
  obtain ⟨o1, o2, o3, o4⟩ := ht
  have e : ∀ h : Nat, term s (h : Int) t * sideAt s (h : Int) = (if h = t.1.toNat then prodAt s t else 0) + (if h = t.2.1.toNat then prodAt s t else 0) := fun h => by
    unfold term prodAt
    by_cases q : (h : Int) = t.1
    · have q1 : h = t.1.toNat := by omega
      have q2 : ¬ h = t.2.1.toNat := by omega
      rw [if_pos q1, if_neg q2, Int.add_zero, q, if_pos (.inl rfl), if_pos rfl, Int.mul_assoc, Int.mul_comm (sideAt s t.2.1), ← Int.mul_assoc]
    · have q1 : ¬ h = t.1.toNat := by omega
      by_cases q2 : (h : Int) = t.2.1
      · have q3 : h = t.2.1.toNat := by omega
        have q4 : ¬ t.2.1 = t.1 := by omega
        rw [if_neg q1, if_pos q3, Int.zero_add, q2, if_pos (.inr rfl), if_neg q4]
      · have q3 : ¬ h = t.2.1.toNat := by omega
        simp [q, q1, q2, q3]
  rw [List.map_congr_left fun h _ => e h, sum_two, ind_sum, ind_sum, if_pos (by omega), if_pos (by omega)]
  omega
theorem pulls_sum {n : Net} (hn : n.Ok) (s : List Int) : ((List.range n.m.toNat).map fun h : Nat => pull n s (h : Int) * sideAt s (h : Int)).sum = (n.ts.map fun t => 2 * prodAt s t).sum := by
  have e : ∀ h : Nat, pull n s (h : Int) * sideAt s (h : Int) = (n.ts.map fun t => term s (h : Int) t * sideAt s (h : Int)).sum := fun h => by
    unfold pull
    rw [pull_sum, Int.zero_add, sum_mulr]
  rw [List.map_congr_left fun h _ => e h, sum_swap (fun (h : Nat) t => term s (h : Int) t * sideAt s (h : Int))]
  congr 1
  exact List.map_congr_left fun t ht => tie_sum (hn.ok t ht)
theorem prod_sum {n : Net} {s : List Int} (hs : sideOk n s) : ∀ ts : List Tie, (∀ t ∈ ts, tieOk n.m t) → (ts.map fun t => 2 * prodAt s t).sum = 2 * ((ts.length : Int) - 2 * ((ts.filter fun t => !kept s t).length : Int))
  | [], _ => rfl
  | t :: ts, h => by
    have ih := prod_sum hs ts fun u hu => h u (List.mem_cons_of_mem _ hu)
    obtain ⟨o1, o2, o3, o4⟩ := h t List.mem_cons_self
    have pa := side_pm hs (i := t.1) o1 (by omega)
    have pb := side_pm hs (i := t.2.1) (by omega) o3
    simp only [List.map_cons, List.sum_cons, List.length_cons, List.filter_cons, ih]
    have e : (prodAt s t = 1 ∧ kept s t = true) ∨ (prodAt s t = -1 ∧ kept s t = false) := by
      unfold prodAt kept
      rcases pa with pa | pa <;> rcases pb with pb | pb <;> rcases o4 with o4 | o4 <;> simp [pa, pb, o4]
    rcases e with ⟨e1, e2⟩ | ⟨e1, e2⟩
    · simp only [e1, e2, Bool.not_true, Bool.false_eq_true, if_false]
      omega
    · simp only [e1, e2, Bool.not_false, if_true, List.length_cons]
      omega
/-- where nobody wants to go over, no more than half of all ties are broken -/
theorem half_broken {n : Net} (hn : n.Ok) {s : List Int} (hs : sideOk n s) (hw : wants n s = []) : 2 * (nBroken n s : Int) ≤ n.ts.length := by
  have h0 : 0 ≤ ((List.range n.m.toNat).map fun h : Nat => pull n s (h : Int) * sideAt s (h : Int)).sum := sum_pos _ _ fun i hi => by
    by_cases q : pull n s (i : Nat) * sideAt s (i : Nat) < 0
    · have : ((i : Nat) : Int) ∈ wants n s := List.mem_map.mpr ⟨i, List.mem_filter.mpr ⟨hi, by simpa using q⟩, rfl⟩
      rw [hw] at this
      cases this
    · omega
  rw [pulls_sum hn, prod_sum hs _ hn.ok] at h0
  unfold nBroken
  omega
theorem pull_small {n : Net} (hn : n.Ok) {s : List Int} (hs : sideOk n s) (h : Int) : (pull n s h).natAbs ≤ n.ts.length := by
  unfold pull
  rw [pull_sum, Int.zero_add]
  have key : ∀ ts : List Tie, (∀ t ∈ ts, tieOk n.m t) → ((ts.map (term s h)).sum).natAbs ≤ ts.length := by
    intro ts
    induction ts with
    | nil => intro _; exact Nat.le_refl _
    | cons t ts ih =>
      intro hh
      have ih := ih fun u hu => hh u (List.mem_cons_of_mem _ hu)
      obtain ⟨o1, o2, o3, o4⟩ := hh t List.mem_cons_self
      have pa := side_pm hs (i := t.1) o1 (by omega)
      have pb := side_pm hs (i := t.2.1) (by omega) o3
      have : (term s h t).natAbs ≤ 1 := by
        unfold term
        split
        · split <;> (rcases pa with pa | pa <;> rcases pb with pb | pb <;> rcases o4 with o4 | o4 <;> simp [pa, pb, o4])
        · simp
      simp only [List.map_cons, List.sum_cons, List.length_cons]
      omega
  exact key n.ts hn.ok
theorem rest_range {n : Net} (hn : n.Ok) {s : List Int} (hs : sideOk n s) : ∀ v ∈ (restedL n s).1, 0 ≤ v ∧ v < n.m :=
  (iter_inv (fun x : List Int × List Int => sideOk n x.2 ∧ ∀ v ∈ x.1, 0 ≤ v ∧ v < n.m) (fun x p q => by
    obtain ⟨a, r, ew, e, lt⟩ := rest_step hn p.1 q
    refine ⟨rest_ok hn p.1 q, ?_⟩
    rw [e]
    intro v hv
    rcases List.mem_append.mp hv with hv | hv
    · exact p.2 v hv
    · rw [List.mem_singleton.mp hv]
      exact wants_range (by rw [ew]; exact List.mem_cons_self)) _ _ ⟨hs, by simp⟩).2
end Ev

set_option Elab.async false
set_option linter.all false
set_option maxRecDepth 100000
set_option maxHeartbeats 2000000
set_option autoImplicit false
/-! Houses that go over: one net. -/
namespace Ev
open PySem Dd
variable {T : Tf}
theorem den_kint {G : Gf} {i : Int} {s : S} : den G (.kint i) s = .ok (.int i) s := by rw [den]
theorem den_pairs {G : Gf} {a b : E} {s s1 s2 : S} {x y : D} (ha : a.isStar = false) (hb : b.isStar = false) (h1 : den G a s = .ok x s1) (h2 : den G b s1 = .ok y s2) : den G (.tup [a, b]) s = .ok (.tup [x, y]) s2 := by
  simp [den, denL, ha, hb, h1, h2]
theorem den_call3 {G : Gf} {a b c : E} {f : Nat} {s : S} {x y z d : D} {cs : Cs} (ha : a.isStar = false) (hb : b.isStar = false) (hc : c.isStar = false) (h1 : den G a s = .ok x s) (h2 : den G b s = .ok y s) (h3 : den G c s = .ok z s) (h4 : G f [x, y, z] s.cs = some (d, cs)) : den G (.call f [a, b, c]) s = .ok d ⟨s.sl, cs⟩ := by
  simp [den, denL, ha, hb, hc, h1, h2, h3, h4]
theorem range_rd {m : Int} (hm : m ≤ 10) {l : List Int} (h : ∀ v ∈ l, 0 ≤ v ∧ v < m) : ∀ v ∈ l, v.natAbs < 10 ^ 20 := fun v hv => by
  obtain ⟨h1, h2⟩ := h v hv
  omega
theorem side_rd {n : Net} {s : List Int} (h : sideOk n s) : ∀ v ∈ s, v.natAbs < 10 ^ 20 := fun v hv => by
  rcases h.2 v hv with q | q <;> rw [q] <;> decide
structure K46T (T : Tf) : Prop extends OverT T, OwnT T where
  h1114 : T 1114 = some (pot5 1000187 4733 613 73019 6871 977)
  h1115 : T 1115 = some (take5 2147482763 2147482739 2147482697 2147482693 2147482681 77659 1381 8093 271 2305843009213693907 167)
  h1116 : T 1116 = some (ofDf 1115)
  h1202 : T 1202 = some (someDf 1115)
  h1117 : T 1117 = some cellsDf
  h1118 : T 1118 = some pairsDf
  h1119 : T 1119 = some (net5Df 1115 1116 1118)
  h1203 : T 1203 = some (sides5Df 1116)
  h1210 : T 1210 = some d__law_right_40
  h1211 : T 1211 = some d_law_45
theorem K46T.drw (N : K46T T) : Drw T 1115 := drw5 N.h1115 ⟨by decide, by decide, by decide, by decide, by decide, by decide, by decide, by decide, by decide, by decide, by decide⟩
theorem right46 (N : K46T T) {n : Net} (hn : n.Ok) (hz : n.ts.length ≤ 200) {p : Pot} {c : Int} (hp : p.Ok c) (hc : c + 100 ≤ 9000) {k i : Nat} (hk : 9 ≤ k) {cs : Cs} (hi : i < cs.length) :
    ∃ p', p'.Ok (c + 20) ∧ callF T (k + 1) 1210 [.cell i, netD n] (cs.set i (true, potD p)) = some (.bl true, cs.set i (true, potD p')) := by
  have hm := hn.m1
  have hm2 := hn.m10
  obtain ⟨s, p1, e1, hp1, ls, vs⟩ := s_sides5 N.drw N.h1116 N.h1203 hp (m := n.m) (by omega) (by omega) (by omega) (k := k) (by omega) hi []
  have hs : sideOk n s := ⟨ls, vs⟩
  obtain ⟨row, rs, p2, e2, hp2, lr, pr⟩ := N.drw.rowOf N.h1202 hp1 (l := upto n.m) (by simp [upto]; omega) (w := n.m.toNat) (by simp [upto]) (by omega) (.inl rfl) (k := k) (by omega) hi []
  simp only [List.append_nil] at e1 e2
  have rs0 : rs = [] := by
    have := pr.length_eq
    simp [upto] at this
    exact List.length_eq_zero_iff.mp (by omega)
  rw [rs0, List.append_nil] at pr
  have hr : ∀ x ∈ row, 0 ≤ x ∧ x < n.m := fun x hx => mem_upto.mp (pr.mem_iff.mp hx)
  have m0 : ((n.m.toNat : Nat) : Int) = n.m := by omega
  rw [m0] at e2
  have hz' : n.ts.length < 1000 := by omega
  refine ⟨p2, hp2.mono (by omega), ?_⟩
  obtain ⟨C, eC⟩ : ∃ C, C = cs.set i (true, potD p1) := ⟨_, rfl⟩
  rw [← eC] at e1 e2
  -- what is called
  have fPull := fun (h : Int) h0 h1 C => s_pullP N.toOverT hn hs (h := h) h0 h1 k C (by omega)
  have fLoose := fun C => s_loose N.toOverT hn hs k C (by omega)
  have fWant := fun C => g_wanting N.toGoT N.h35 hn hs k C (by omega)
  have fGone := fun (h : Int) h0 h1 C => s_goneP N.toOverT hn hs (h := h) h0 h1 k C (by omega)
  have fRest := fun C => g_rested N.toRstT hn hs hz' k C (by omega)
  have fLaps := fun C => s_laps N.toOverT hn hs pr hz' k C (by omega)
  have gBr := fun s (hs : sideOk n s) C => l_breaks N.toOwnT hn hs k C (by omega)
  have gPull := fun h C => l_pull N.toOwnT hn hs h k C (by omega)
  have gGone := fun (h : Int) C => l_gone N.toOwnT s (IsLot.lst (l := [h])) k C (by omega)
  have gWant := fun s (hs : sideOk n s) C => l_wanting N.toOwnT hn hs k C (by omega)
  have gRest := fun C => l_rested N.toOwnT hn hs hz' k C (by omega)
  have gLaps := fun C => l_lapped N.toOwnT hn hs hr hz' k C (by omega)
  obtain ⟨ro, rb⟩ := rested_inv hn hs
  have rw0 := rested_still hn hs
  have half := half_broken hn ro rw0
  have rr := rest_range hn hs
  obtain ⟨lo, l0, lb⟩ := lapsL_inv hn hr hs
  have nb : nBroken n s ≤ n.ts.length := List.length_filter_le _ _
  -- texts
  have pl := fun h => pull_small hn hs h
  have rdP : ∀ h, RD 21 0 (.int (pull n s h)) := fun h => .int (by have := pl h; omega)
  have lw : (wants n s).length ≤ 10 := by
    unfold wants
    rw [List.length_map]
    refine Nat.le_trans (List.length_filter_le _ _) ?_
    rw [List.length_range]
    omega
  have ll : (looseL n s).length ≤ 10 := by
    unfold looseL
    rw [List.length_map]
    refine Nat.le_trans (List.length_filter_le _ _) ?_
    rw [List.length_range]
    omega
  have lrange : ∀ v ∈ looseL n s, 0 ≤ v ∧ v < n.m := fun v hv => by
    obtain ⟨j, hj, rfl⟩ := List.mem_map.mp hv
    have := List.mem_range.mp (List.mem_filter.mp hj).1
    omega
  have len_side : ∀ {u : List Int}, sideOk n u → u.length ≤ 10 := fun h => by have := h.1; omega
  have rdW : RD 10000 2 (.tup [.tup ((wants n s).map .int), .tup ((looseL n s).map .int)]) :=
    (RD.pair (.row (c := 4000) (range_rd hm2 fun v hv => wants_range hv) (by omega)) (.row (range_rd hm2 lrange) (by omega))).mono (by omega) (by omega)
  have rdS : ∀ {u : List Int}, sideOk n u → RD 4000 1 (.tup (u.map .int)) := fun h => .row (side_rd h) (by have := len_side h; omega)
  have rdR : RD 100000 2 (.tup [.tup ((restedL n s).1.map .int), .tup ((restedL n s).2.map .int)]) :=
    (RD.pair (.row (c := 9000) (range_rd hm2 rr) (by omega)) ((rdS ro).mono (by omega) (by omega))).mono (by omega) (by omega)
  have rdL : RD 100000 2 (.tup [.int (lapsL n row s).1, .tup ((lapsL n row s).2.map .int)]) :=
    (RD.pair ((RD.int (i := (lapsL n row s).1) (by omega)).mono (c' := 4000) (dp' := 1) (by omega) (by omega)) (rdS lo)).mono (by omega) (by omega)
  -- the steps
  let pD : D := .lst ((List.range n.m.toNat).map fun j => .int (pull n s (j : Nat)))
  let rD : D := .tup [.tup ((restedL n s).1.map .int), .tup ((restedL n s).2.map .int)]
  have rg : srcD .rng1 [.int n.m] = some ((List.range n.m.toNat).map fun j => .int (j : Nat)) := by rw [srcD, rng_of (by omega) (by omega), rangeD_0]
  have atP : ∀ j : Nat, j < n.m.toNat → ∀ C, ixD C pD (.int (j : Nat)) = some (.int (pull n s (j : Nat))) := fun j hj C => by
    show L2.atI ((List.range n.m.toNat).map fun j => D.int (pull n s (j : Nat))) (j : Int) = _
    have h0 : (0 : Int) ≤ (j : Int) := by omega
    have h1 : (j : Int) < (n.m.toNat : Int) := by omega
    simp only [L2.atI, L2.ixN, List.length_map, List.length_range, h0, h1, if_true, Option.bind_some, List.getElem?_map, Int.toNat_natCast, List.getElem?_range hj]
    rfl
  have a1 : denC (callF T k) (.set 2 (.idx (.var 1) (.kint 0))) ⟨[some (.cell i), some (netD n), none, none, none, none, none, none, none, none, none], cs.set i (true, potD p)⟩ = .nx ⟨[some (.cell i), some (netD n), some (.int n.m), none, none, none, none, none, none, none, none], cs.set i (true, potD p)⟩ :=
    (denC_set (den_idx (den_var rfl) den_kint rfl) (by simp)).trans rfl
  have a2 : denC (callF T k) (.set 3 (.call 1203 [(.var 0), (.var 2)])) ⟨[some (.cell i), some (netD n), some (.int n.m), none, none, none, none, none, none, none, none], cs.set i (true, potD p)⟩ = .nx ⟨[some (.cell i), some (netD n), some (.int n.m), some (.tup (s.map .int)), none, none, none, none, none, none, none], C⟩ :=
    (denC_set (den_call2 rfl rfl (den_var rfl) (den_var rfl) e1) (by simp)).trans rfl
  have a3 : denC (callF T k) (.set 4 (.lc (.call 1205 [(.var 1), (.var 3), (.var 7)]) (.name 7) .rng1 [(.var 2)] [] [7])) ⟨[some (.cell i), some (netD n), some (.int n.m), some (.tup (s.map .int)), none, none, none, none, none, none, none], C⟩ = .nx ⟨[some (.cell i), some (netD n), some (.int n.m), some (.tup (s.map .int)), some pD, none, none, none, none, none, none], C⟩ := by
    refine (denC_set (d := pD) (s1 := ⟨[some (.cell i), some (netD n), some (.int n.m), some (.tup (s.map .int)), none, none, none, none, none, none, none], C⟩) (den_lc (ds := [.int n.m]) (by simp [den, denL, E.isStar]) rg ?_) (by simp)).trans rfl
    exact (lcL_map (fun j : Nat => [some (.cell i), some (netD n), some (.int n.m), some (.tup (s.map .int)), none, none, none, some (.int (j : Nat)), none, none, none]) (fun j => .int (pull n s (j : Nat))) fun j hj => ⟨by simp [bindT, wipeS], den_call3 rfl rfl rfl (den_var rfl) (den_var rfl) (den_var rfl) (gPull _ C)⟩).trans (by rw [List.nil_append])
  let s4 : List (Option D) := [some (.cell i), some (netD n), some (.int n.m), some (.tup (s.map .int)), some pD, none, none, none, none, none, none]
  have a4 : denC (callF T k) (.ite (.not (.bi .all [(.lc (.cmp .eq (.bi .repr [(.call 1197 [(.var 1), (.var 3), (.var 7)])]) (.bi .repr [(.idx (.var 4) (.var 7))])) (.name 7) .rng1 [(.var 2)] [] [7])])) [.ret (.kbl false)] []) ⟨s4, C⟩ = .nx ⟨s4, C⟩ := by
    refine if_all (bs := (List.range n.m.toNat).map fun _ => true) rfl (den_lc (ds := [.int n.m]) (by simp [den, denL, E.isStar, s4]) rg ?_) (by simp)
    refine (lcL_map (fun j : Nat => [some (.cell i), some (netD n), some (.int n.m), some (.tup (s.map .int)), some pD, none, none, some (.int (j : Nat)), none, none, none]) (fun j => .bl true) fun j hj => ⟨by simp [bindT, wipeS, s4], ?_⟩).trans (by rw [List.nil_append, List.map_map]; rfl)
    have hj := List.mem_range.mp hj
    exact den_reprs (rdP (j : Nat)) (by decide) (by decide) rfl rfl (den_call3 rfl rfl rfl (den_var rfl) (den_var rfl) (den_var rfl) (fPull _ (by omega) (by omega) C)) (den_idx (den_var rfl) (den_var rfl) (atP j hj C))
  have a5 : denC (callF T k) (.set 5 (.call 1207 [(.var 1), (.var 3)])) ⟨s4, C⟩ = .nx ⟨[some (.cell i), some (netD n), some (.int n.m), some (.tup (s.map .int)), some pD, some (.lst ((wants n s).map .int)), none, none, none, none, none], C⟩ :=
    (denC_set (den_call2 rfl rfl (den_var rfl) (den_var rfl) (gWant s hs C)) (show 5 < 11 by decide)).trans rfl
  let s5 : List (Option D) := [some (.cell i), some (netD n), some (.int n.m), some (.tup (s.map .int)), some pD, some (.lst ((wants n s).map .int)), none, none, none, none, none]
  have lc6 : den (callF T k) (.lc (.var 7) (.name 7) .rng1 [(.var 2)] [(.cmp .eq (.idx (.var 4) (.var 7)) (.kint 0))] [7]) ⟨s5, C⟩ = .ok (.lst ((looseL n s).map .int)) ⟨s5, C⟩ := by
    refine den_lc (ds := [.int n.m]) (by simp [den, denL, E.isStar, s5]) rg ?_
    refine (lcL_pure (fun j : Nat => [some (.cell i), some (netD n), some (.int n.m), some (.tup (s.map .int)), some pD, some (.lst ((wants n s).map .int)), none, some (.int (j : Nat)), none, none, none]) (fun j => decide (pull n s (j : Nat) = 0)) (fun j => .int (j : Nat)) fun j hj => ⟨by simp [bindT, wipeS, s5], ?_, fun _ => den_var rfl⟩).trans (by rw [List.nil_append, looseL, List.map_map]; rfl)
    have hj := List.mem_range.mp hj
    have q := den_cmp (G := callF T k) (o := .eq) (s := ⟨[some (.cell i), some (netD n), some (.int n.m), some (.tup (s.map .int)), some pD, some (.lst ((wants n s).map .int)), none, some (.int (j : Nat)), none, none, none], C⟩) (den_idx (den_var (i := 4) rfl) (den_var (i := 7) rfl) (atP j hj C)) den_kint (cmp_eqi C _ 0)
    rw [denI, q]
  have a6 : denC (callF T k) (.ite (.cmp .ne (.bi .repr [(.tup [(.call 35 [(.var 1), (.var 3)]), (.call 1198 [(.var 1), (.var 3)])])]) (.bi .repr [(.tup [(.bi .tuple [(.var 5)]), (.bi .tuple [(.lc (.var 7) (.name 7) .rng1 [(.var 2)] [(.cmp .eq (.idx (.var 4) (.var 7)) (.kint 0))] [7])])])])) [.ret (.kbl false)] []) ⟨s5, C⟩ = .nx ⟨s5, C⟩ := by
    refine (ite_f (den_unlike rdW (by decide) (by decide) rfl rfl (den_pairs rfl rfl (den_call2 rfl rfl (den_var rfl) (den_var rfl) (fWant C)) (den_call2 rfl rfl (den_var rfl) (den_var rfl) (fLoose C))) (den_pairs rfl rfl (den_tup rfl (den_var rfl)) (den_tup rfl lc6)))).trans (by rw [denCs])
  have a7 : denC (callF T k) (.set 6 (.call 1204 [(.var 1), (.var 3)])) ⟨s5, C⟩ = .nx ⟨[some (.cell i), some (netD n), some (.int n.m), some (.tup (s.map .int)), some pD, some (.lst ((wants n s).map .int)), some (.int (nBroken n s)), none, none, none, none], C⟩ :=
    (denC_set (den_call2 rfl rfl (den_var rfl) (den_var rfl) (gBr s hs C)) (show 6 < 11 by decide)).trans rfl
  let s7 : Option D → Option D → List (Option D) := fun x y => [some (.cell i), some (netD n), some (.int n.m), some (.tup (s.map .int)), some pD, some (.lst ((wants n s).map .int)), some (.int (nBroken n s)), x, none, none, y]
  have lap8 : ∀ (j : Nat) (y : Option D), j < n.m.toNat → denCs (callF T k) [.set 10 (.call 1199 [(.var 1), (.var 3), (.var 7)]), .ite (.or (.cmp .ne (.bi .repr [(.var 10)]) (.bi .repr [(.call 1206 [(.var 3), (.lst [(.var 7)])])])) (.cmp .ne (.bin .sub (.call 1204 [(.var 1), (.var 10)]) (.var 6)) (.bin .mul (.idx (.var 4) (.var 7)) (.idx (.var 3) (.var 7))))) [.ret (.kbl false)] []] ⟨s7 (some (.int (j : Nat))) y, C⟩ = .nx ⟨s7 (some (.int (j : Nat))) (some (.tup ((turnedAt s [((j : Nat) : Int)]).map .int))), C⟩ := fun j y hj => by
    have b1 := den_call3 (G := callF T k) (s := ⟨s7 (some (.int (j : Nat))) y, C⟩) (a := .var 1) (b := .var 3) (c := .var 7) rfl rfl rfl (den_var rfl) (den_var rfl) (den_var rfl) (fGone ((j : Nat) : Int) (by omega) (by omega) C)
    have g := gGone ((j : Nat) : Int) C
    simp only [List.map_cons, List.map_nil] at g
    have b2 := den_call2 (G := callF T k) (s := ⟨s7 (some (.int (j : Nat))) (some (.tup ((turnedAt s [((j : Nat) : Int)]).map .int))), C⟩) (a := .var 3) (b := .lst [(.var 7)]) (x := .tup (s.map .int)) (y := .lst [.int (j : Nat)]) (s2 := ⟨s7 (some (.int (j : Nat))) (some (.tup ((turnedAt s [((j : Nat) : Int)]).map .int))), C⟩) rfl rfl (den_var rfl) (by simp [den, denL, E.isStar, s7]) g
    have to := turned_ok hs [((j : Nat) : Int)]
    have b3 := den_unlike (G := callF T k) (rdS to) (by decide) (by decide) (a := .var 10) rfl rfl (den_var rfl) b2
    have bt := broken_turn hn hs (h := ((j : Nat) : Int)) (by omega) (by omega)
    have as := at_side (s := s) (i := ((j : Nat) : Int)) (by omega) (by omega)
    have pm := side_pm hs (i := ((j : Nat) : Int)) (by omega) (by omega)
    have b4 : den (callF T k) (.cmp .ne (.bin .sub (.call 1204 [(.var 1), (.var 10)]) (.var 6)) (.bin .mul (.idx (.var 4) (.var 7)) (.idx (.var 3) (.var 7)))) ⟨s7 (some (.int (j : Nat))) (some (.tup ((turnedAt s [((j : Nat) : Int)]).map .int))), C⟩ = .ok (.bl false) ⟨s7 (some (.int (j : Nat))) (some (.tup ((turnedAt s [((j : Nat) : Int)]).map .int))), C⟩ := by
      refine den_cmp (den_bin (den_call2 rfl rfl (den_var rfl) (den_var rfl) (gBr _ to C)) (den_var rfl) rfl) (den_bin (den_idx (den_var rfl) (den_var rfl) (atP j hj C)) (den_idx (den_var rfl) (den_var rfl) as) (mul_smallR C pm)) ?_
      have : (nBroken n (turnedAt s [((j : Nat) : Int)]) : Int) - (nBroken n s : Int) = pull n s (j : Nat) * sideAt s (j : Nat) := by omega
      rw [this]
      simp [cmpD]
    exact (cons_nx (denC_set b1 (show 10 < 11 by decide))).trans ((cons_nx ((ite_f (or_b b3 fun _ => b4)).trans (by rw [denCs]))).trans (by rw [denCs]))
  obtain ⟨s', e8, x7, x10, rfl⟩ := forL_inv (enc := fun j : Nat => D.int (j : Nat)) (t := .name 7) (b := denCs (callF T k) [.set 10 (.call 1199 [(.var 1), (.var 3), (.var 7)]), .ite (.or (.cmp .ne (.bi .repr [(.var 10)]) (.bi .repr [(.call 1206 [(.var 3), (.lst [(.var 7)])])])) (.cmp .ne (.bin .sub (.call 1204 [(.var 1), (.var 10)]) (.var 6)) (.bin .mul (.idx (.var 4) (.var 7)) (.idx (.var 3) (.var 7))))) [.ret (.kbl false)] []])
    (fun (_ : Unit) (st : S) => ∃ x y, st = ⟨s7 x y, C⟩) (fun _ _ => ()) (xs := List.range n.m.toNat) (acc := ()) (s := ⟨s7 none none, C⟩) (fun j hj _ st h => by
      obtain ⟨x, y, rfl⟩ := h
      exact ⟨s7 (some (.int (j : Nat))) y, _, by simp [bindT, s7], lap8 j y (List.mem_range.mp hj), _, _, rfl⟩) ⟨_, _, rfl⟩
  have a8 := for_eq (G := callF T k) (t := .name 7) (k := .rng1) (ss := [(.var 2)]) (b := [.set 10 (.call 1199 [(.var 1), (.var 3), (.var 7)]), .ite (.or (.cmp .ne (.bi .repr [(.var 10)]) (.bi .repr [(.call 1206 [(.var 3), (.lst [(.var 7)])])])) (.cmp .ne (.bin .sub (.call 1204 [(.var 1), (.var 10)]) (.var 6)) (.bin .mul (.idx (.var 4) (.var 7)) (.idx (.var 3) (.var 7))))) [.ret (.kbl false)] []]) (s := ⟨s7 none none, C⟩) (ds := [.int n.m]) (by simp [den, denL, E.isStar, s7]) rg e8
  let s8 : Option D → List (Option D) := fun z => [some (.cell i), some (netD n), some (.int n.m), some (.tup (s.map .int)), some pD, some (.lst ((wants n s).map .int)), some (.int (nBroken n s)), x7, some rD, z, x10]
  have a9 : denC (callF T k) (.set 8 (.call 38 [(.var 1), (.var 3)])) ⟨s7 x7 x10, C⟩ = .nx ⟨s8 none, C⟩ := (denC_set (den_call2 rfl rfl (den_var rfl) (den_var rfl) (fRest C)) (show 8 < 11 by decide)).trans rfl
  have i80 : ∀ z C, den (callF T k) (.idx (.var 8) (.kint 0)) ⟨s8 z, C⟩ = .ok (.tup ((restedL n s).1.map .int)) ⟨s8 z, C⟩ := fun z C => den_idx (den_var rfl) (by rw [den]) rfl
  have i81 : ∀ z C, den (callF T k) (.idx (.var 8) (.kint 1)) ⟨s8 z, C⟩ = .ok (.tup ((restedL n s).2.map .int)) ⟨s8 z, C⟩ := fun z C => den_idx (den_var rfl) (by rw [den]) rfl
  have a10 : denC (callF T k) (.ite (.or (.cmp .ne (.bi .repr [(.var 8)]) (.bi .repr [(.call 1208 [(.var 1), (.var 3)])])) (.or (.cmp .gt (.bi .len [(.idx (.var 8) (.kint 0))]) (.var 6)) (.cmp .ne (.call 1207 [(.var 1), (.idx (.var 8) (.kint 1))]) (.lst [])))) [.ret (.kbl false)] []) ⟨s8 none, C⟩ = .nx ⟨s8 none, C⟩ := by
    have b1 := den_unlike (G := callF T k) rdR (by decide) (by decide) (a := .var 8) (s := ⟨s8 none, C⟩) rfl rfl (den_var rfl) (den_call2 (a := .var 1) (b := .var 3) rfl rfl (den_var rfl) (den_var rfl) (gRest C))
    have b2 : den (callF T k) (.cmp .gt (.bi .len [(.idx (.var 8) (.kint 0))]) (.var 6)) ⟨s8 none, C⟩ = .ok (.bl false) ⟨s8 none, C⟩ := by
      refine den_cmp (den_bi1 (d := .int ((restedL n s).1.length : Nat)) rfl (i80 _ C) (by simp [bi1, lenD, seqC, deref, seqD])) (den_var (d := .int (nBroken n s)) rfl) ?_
      have : ¬ (nBroken n s : Int) < ((restedL n s).1.length : Int) := by omega
      simp [this]
    have b3 : den (callF T k) (.cmp .ne (.call 1207 [(.var 1), (.idx (.var 8) (.kint 1))]) (.lst [])) ⟨s8 none, C⟩ = .ok (.bl false) ⟨s8 none, C⟩ := by
      refine den_cmp (y := .lst []) (den_call2 rfl rfl (den_var rfl) (i81 _ C) (gWant _ ro C)) (by simp [den, denL, E.isStar]) ?_
      rw [rw0]
      have := eq_lists C [] []
      simp only [List.map_nil] at this ⊢
      simp [cmpD, this]
    exact (ite_f (or_b b1 fun _ => or_b b2 fun _ => b3)).trans (by rw [denCs])
  have a11 : denC (callF T k) (.set 9 (.bi .tuple [(.call 1202 [(.var 0), (.rng [(.var 2)]), (.var 2)])])) ⟨s8 none, C⟩ = .nx ⟨s8 (some (.tup (row.map .int))), cs.set i (true, potD p2)⟩ := by
    refine (denC_set (d := .tup (row.map .int)) (s1 := ⟨s8 none, cs.set i (true, potD p2)⟩) (den_tup rfl ?_) (show 9 < 11 by decide)).trans rfl
    have hr : den (callF T k) (.rng [(.var 2)]) ⟨s8 none, C⟩ = .ok (.lst ((upto n.m).map .int)) ⟨s8 none, C⟩ := by
      have := rng_upto n.m (by omega) (by omega)
      simp [den, denL, E.isStar, s8, this]
    exact den_call3 rfl rfl rfl (den_var rfl) hr (den_var rfl) (by rw [eC]; rw [eC] at e2; exact e2)
  have a12 : denC (callF T k) (.ret (.and (.cmp .eq (.bi .repr [(.call 1201 [(.var 1), (.var 3), (.var 9)])]) (.bi .repr [(.call 1209 [(.var 1), (.var 3), (.var 9)])])) (.cmp .le (.bin .mul (.kint 2) (.call 1204 [(.var 1), (.idx (.var 8) (.kint 1))])) (.bi .len [(.idx (.var 1) (.kint 1))])))) ⟨s8 (some (.tup (row.map .int))), cs.set i (true, potD p2)⟩ = .rt (.bl true) (cs.set i (true, potD p2)) := by
    have b1 := den_reprs (G := callF T k) rdL (by decide) (by decide) (s := ⟨s8 (some (.tup (row.map .int))), cs.set i (true, potD p2)⟩) rfl rfl (den_call3 (a := .var 1) (b := .var 3) (c := .var 9) rfl rfl rfl (den_var rfl) (den_var rfl) (den_var rfl) (fLaps _)) (den_call3 (a := .var 1) (b := .var 3) (c := .var 9) rfl rfl rfl (den_var rfl) (den_var rfl) (den_var rfl) (gLaps _))
    have b2 : den (callF T k) (.cmp .le (.bin .mul (.kint 2) (.call 1204 [(.var 1), (.idx (.var 8) (.kint 1))])) (.bi .len [(.idx (.var 1) (.kint 1))])) ⟨s8 (some (.tup (row.map .int))), cs.set i (true, potD p2)⟩ = .ok (.bl true) ⟨s8 (some (.tup (row.map .int))), cs.set i (true, potD p2)⟩ := by
      refine den_cmp (den_bin den_kint (den_call2 rfl rfl (den_var rfl) (i81 _ _) (gBr _ ro _)) (mul_l _ (by decide))) (den_bi1 (x := .tup (n.ts.map tieD)) (d := .int (n.ts.length : Nat)) rfl (den_idx (den_var rfl) den_kint rfl) (by simp [bi1, lenD, seqC, deref, seqD])) ?_
      simp [cmpD, half]
    exact ret_of (and_b b1 fun _ => b2)
  rw [callF, N.h1210]
  have key : denCs (callF T k) d__law_right_40.body ⟨[some (.cell i), some (netD n), none, none, none, none, none, none, none, none, none], cs.set i (true, potD p)⟩ = .rt (.bl true) (cs.set i (true, potD p2)) :=
    (cons_nx a1).trans ((cons_nx a2).trans ((cons_nx a3).trans ((cons_nx a4).trans ((cons_nx a5).trans ((cons_nx a6).trans ((cons_nx a7).trans ((cons_nx a8).trans ((cons_nx a9).trans ((cons_nx a10).trans ((cons_nx a11).trans (cons_rt a12)))))))))))
  have q1 : List.map some [D.cell i, netD n] ++ List.replicate (d__law_right_40.ns - d__law_right_40.np) none = [some (.cell i), some (netD n), none, none, none, none, none, none, none, none, none] := rfl
  have q2 : [D.cell i, netD n].length = d__law_right_40.np := rfl
  have q3 : d__law_right_40.fr = false := rfl
  simp only [q2, if_true, q1, key, q3, outD, lowD]
  rw [List.take_of_length_le (by simp)]
end Ev

set_option Elab.async false
set_option linter.all false
set_option maxRecDepth 100000
set_option maxHeartbeats 1000000
set_option autoImplicit false
/-! Storms: what comes when all go over at once. -/
namespace Ev
open PySem Dd
def overL (n : Net) (s : List Int) : List Int := turnedAt s (wants n s)
def stm (n : Net) (s : List Int) : Nat → List Int
  | 0 => s
  | i + 1 => overL n (stm n s i)
theorem overL_ok {n : Net} {s : List Int} (h : sideOk n s) : sideOk n (overL n s) := turned_ok h _
theorem stm_ok {n : Net} {s : List Int} (h : sideOk n s) : ∀ i, sideOk n (stm n s i)
  | 0 => h
  | i + 1 => overL_ok (stm_ok h i)
theorem mem_wants {n : Net} {s : List Int} {h : Int} : h ∈ wants n s ↔ 0 ≤ h ∧ h < n.m ∧ pull n s h * sideAt s h < 0 := by
  unfold wants
  rw [List.mem_map]
  constructor
  · rintro ⟨i, hi, rfl⟩
    have h1 := List.mem_range.mp (List.mem_filter.mp hi).1
    have h2 := of_decide_eq_true (List.mem_filter.mp hi).2
    exact ⟨by omega, by omega, h2⟩
  · rintro ⟨h0, h1, h2⟩
    refine ⟨h.toNat, List.mem_filter.mpr ⟨List.mem_range.mpr (by omega), ?_⟩, by omega⟩
    have e : ((h.toNat : Nat) : Int) = h := by omega
    rw [e]
    exact decide_eq_true h2
theorem over_at {n : Net} {s : List Int} (hs : sideOk n s) {h : Int} (h0 : 0 ≤ h) (h1 : h < n.m) : sideAt (overL n s) h = if pull n s h * sideAt s h < 0 then - sideAt s h else sideAt s h := by
  have hl := hs.1
  unfold overL
  rw [side_turned _ h0 (by omega)]
  by_cases q : pull n s h * sideAt s h < 0
  · rw [if_pos q, if_pos (mem_wants.mpr ⟨h0, h1, q⟩)]
  · rw [if_neg q, if_neg fun z => q (mem_wants.mp z).2.2]
theorem sides_ext {n : Net} {a b : List Int} (ha : sideOk n a) (hb : sideOk n b) (h : ∀ i : Int, 0 ≤ i → i < n.m → sideAt a i = sideAt b i) : a = b := by
  have la := ha.1
  have lb := hb.1
  refine List.ext_getElem (by omega) fun i h1 h2 => ?_
  have := h (i : Nat) (by omega) (by omega)
  simpa [sideAt, List.getD_eq_getElem?_getD, List.getElem?_eq_getElem h1, List.getElem?_eq_getElem h2] using this
/-! the energy -/
def both (n : Net) (a b : List Int) : Int := ((List.range n.m.toNat).map fun h : Nat => sideAt b (h : Int) * pull n a (h : Int)).sum
theorem tie_both {n : Net} {a b : List Int} {t : Tie} (ht : tieOk n.m t) : ((List.range n.m.toNat).map fun h : Nat => term a (h : Int) t * sideAt b (h : Int)).sum = t.2.2 * sideAt a t.2.1 * sideAt b t.1 + t.2.2 * sideAt a t.1 * sideAt b t.2.1 := by
  obtain ⟨o1, o2, o3, o4⟩ := ht
  have e : ∀ h : Nat, term a (h : Int) t * sideAt b (h : Int) = (if h = t.1.toNat then t.2.2 * sideAt a t.2.1 * sideAt b t.1 else 0) + (if h = t.2.1.toNat then t.2.2 * sideAt a t.1 * sideAt b t.2.1 else 0) := fun h => by
    unfold term
    by_cases q : (h : Int) = t.1
    · have q1 : h = t.1.toNat := by omega
      have q2 : ¬ h = t.2.1.toNat := by omega
      rw [if_pos q1, if_neg q2, Int.add_zero, q, if_pos (.inl rfl), if_pos rfl]
    · have q1 : ¬ h = t.1.toNat := by omega
      by_cases q2 : (h : Int) = t.2.1
      · have q3 : h = t.2.1.toNat := by omega
        have q4 : ¬ t.2.1 = t.1 := by omega
        rw [if_neg q1, if_pos q3, Int.zero_add, q2, if_pos (.inr rfl), if_neg q4]
      · have q3 : ¬ h = t.2.1.toNat := by omega
        simp [q, q1, q2, q3]
  rw [List.map_congr_left fun h _ => e h, sum_two, ind_sum, ind_sum, if_pos (by omega), if_pos (by omega)]
theorem both_ties {n : Net} (hn : n.Ok) (a b : List Int) : both n a b = (n.ts.map fun t => t.2.2 * sideAt a t.2.1 * sideAt b t.1 + t.2.2 * sideAt a t.1 * sideAt b t.2.1).sum := by
  have e : ∀ h : Nat, sideAt b (h : Int) * pull n a (h : Int) = (n.ts.map fun t => term a (h : Int) t * sideAt b (h : Int)).sum := fun h => by
    unfold pull
    rw [pull_sum, Int.zero_add, Int.mul_comm, sum_mulr]
  unfold both
  rw [List.map_congr_left fun h _ => e h, sum_swap (fun (h : Nat) t => term a (h : Int) t * sideAt b (h : Int))]
  congr 1
  exact List.map_congr_left fun t ht => tie_both (hn.ok t ht)
theorem both_comm {n : Net} (hn : n.Ok) (a b : List Int) : both n a b = both n b a := by
  rw [both_ties hn, both_ties hn]
  congr 1
  refine List.map_congr_left fun t _ => ?_
  rw [Int.mul_assoc, Int.mul_assoc, Int.mul_assoc, Int.mul_assoc, Int.mul_comm (sideAt b t.2.1), Int.mul_comm (sideAt b t.1), Int.add_comm]
theorem sum_subs {α : Type} (f g : α → Int) : ∀ l : List α, (l.map f).sum - (l.map g).sum = (l.map fun x => f x - g x).sum
  | [] => rfl
  | x :: l => by
    have := sum_subs f g l
    simp only [List.map_cons, List.sum_cons]
    omega
theorem sum_zero {α : Type} (f : α → Int) : ∀ l : List α, (∀ x ∈ l, 0 ≤ f x) → (l.map f).sum = 0 → ∀ x ∈ l, f x = 0
  | [], _, _ => by simp
  | a :: l, h, e => by
    have h1 := h a List.mem_cons_self
    have h2 := sum_pos f l fun y hy => h y (List.mem_cons_of_mem _ hy)
    simp only [List.map_cons, List.sum_cons] at e
    intro x hx
    rcases List.mem_cons.mp hx with q | hx
    · rw [q]; omega
    · exact sum_zero f l (fun y hy => h y (List.mem_cons_of_mem _ hy)) (by omega) x hx
/-- what one house adds -/
theorem gain {p s c r : Int} (hs : s = 1 ∨ s = -1) (hc : c = 1 ∨ c = -1) (hr : r = if p * s < 0 then -s else s) : 0 ≤ r * p - c * p ∧ (r * p - c * p = 0 → r = c ∨ p = 0) := by
  subst hr
  rcases hs with rfl | rfl <;> rcases hc with rfl | rfl <;> split <;> constructor <;> intros <;> omega
theorem E_diff {n : Net} (hn : n.Ok) {s : List Int} (hs : sideOk n s) (t : Nat) : both n (stm n s (t + 1)) (stm n s (t + 2)) - both n (stm n s t) (stm n s (t + 1)) =
    ((List.range n.m.toNat).map fun h : Nat => sideAt (stm n s (t + 2)) (h : Int) * pull n (stm n s (t + 1)) (h : Int) - sideAt (stm n s t) (h : Int) * pull n (stm n s (t + 1)) (h : Int)).sum := by
  rw [both_comm hn (stm n s t)]
  unfold both
  rw [sum_subs]
theorem E_gain {n : Net} (hn : n.Ok) {s : List Int} (hs : sideOk n s) (t : Nat) {h : Nat} (hh : h ∈ List.range n.m.toNat) : 0 ≤ sideAt (stm n s (t + 2)) (h : Int) * pull n (stm n s (t + 1)) (h : Int) - sideAt (stm n s t) (h : Int) * pull n (stm n s (t + 1)) (h : Int) ∧
    (sideAt (stm n s (t + 2)) (h : Int) * pull n (stm n s (t + 1)) (h : Int) - sideAt (stm n s t) (h : Int) * pull n (stm n s (t + 1)) (h : Int) = 0 → sideAt (stm n s (t + 2)) (h : Int) = sideAt (stm n s t) (h : Int) ∨ pull n (stm n s (t + 1)) (h : Int) = 0) :=
  have h1 := List.mem_range.mp hh
  gain (p := pull n (stm n s (t + 1)) (h : Int)) (s := sideAt (stm n s (t + 1)) (h : Int)) (c := sideAt (stm n s t) (h : Int)) (r := sideAt (stm n s (t + 2)) (h : Int)) (side_pm (stm_ok hs _) (by omega) (by omega)) (side_pm (stm_ok hs _) (by omega) (by omega)) (over_at (stm_ok hs (t + 1)) (by omega) (by omega))
theorem E_le {n : Net} (hn : n.Ok) {s : List Int} (hs : sideOk n s) (t : Nat) : both n (stm n s t) (stm n s (t + 1)) ≤ both n (stm n s (t + 1)) (stm n s (t + 2)) := by
  have e := E_diff hn hs t
  have := sum_pos (fun h : Nat => sideAt (stm n s (t + 2)) (h : Int) * pull n (stm n s (t + 1)) (h : Int) - sideAt (stm n s t) (h : Int) * pull n (stm n s (t + 1)) (h : Int)) (List.range n.m.toNat) fun h hh => (E_gain hn hs t hh).1
  omega
theorem E_eq {n : Net} (hn : n.Ok) {s : List Int} (hs : sideOk n s) {t : Nat} (q : both n (stm n s t) (stm n s (t + 1)) = both n (stm n s (t + 1)) (stm n s (t + 2))) {h : Int} (h0 : 0 ≤ h) (h1 : h < n.m) :
    sideAt (stm n s (t + 2)) h = sideAt (stm n s t) h ∨ pull n (stm n s (t + 1)) h = 0 := by
  have e := E_diff hn hs t
  have hm : h.toNat ∈ List.range n.m.toNat := List.mem_range.mpr (by omega)
  have z := sum_zero (fun h : Nat => sideAt (stm n s (t + 2)) (h : Int) * pull n (stm n s (t + 1)) (h : Int) - sideAt (stm n s t) (h : Int) * pull n (stm n s (t + 1)) (h : Int)) (List.range n.m.toNat) (fun h hh => (E_gain hn hs t hh).1) (by omega) _ hm
  have g := (E_gain hn hs t hm).2 z
  have c : ((h.toNat : Nat) : Int) = h := by omega
  rw [c] at g
  exact g
/-- who changes -/
def chg (n : Net) (s : List Int) (t : Nat) (h : Int) : Prop := sideAt (stm n s (t + 1)) h ≠ sideAt (stm n s t) h
theorem chg_down {n : Net} (hn : n.Ok) {s : List Int} (hs : sideOk n s) {t : Nat} (q : both n (stm n s t) (stm n s (t + 1)) = both n (stm n s (t + 1)) (stm n s (t + 2))) {h : Int} (h0 : 0 ≤ h) (h1 : h < n.m) (c : chg n s (t + 1) h) : chg n s t h := by
  have o := over_at (stm_ok hs (t + 1)) h0 h1
  have c' : sideAt (overL n (stm n s (t + 1))) h ≠ sideAt (stm n s (t + 1)) h := c
  rw [o] at c'
  have np : pull n (stm n s (t + 1)) h ≠ 0 := fun z => c' (by rw [z, Int.zero_mul, if_neg (by decide)])
  rcases E_eq hn hs q h0 h1 with e | e
  · exact fun z => c (by rw [e, ← z])
  · exact absurd e np
theorem E_mono {n : Net} (hn : n.Ok) {s : List Int} (hs : sideOk n s) : ∀ (a d : Nat), both n (stm n s a) (stm n s (a + 1)) ≤ both n (stm n s (a + d)) (stm n s (a + d + 1))
  | a, 0 => Int.le_refl _
  | a, d + 1 => Int.le_trans (E_mono hn hs a d) (E_le hn hs (a + d))
theorem period {n : Net} (hn : n.Ok) {s : List Int} (hs : sideOk n s) {i j : Nat} (hij : i < j) (e : stm n s j = stm n s i) : stm n s (i + 2) = stm n s i := by
  have ee : both n (stm n s j) (stm n s (j + 1)) = both n (stm n s i) (stm n s (i + 1)) := by
    show both n (stm n s j) (overL n (stm n s j)) = both n (stm n s i) (overL n (stm n s i))
    rw [e]
  have flat : ∀ t, i ≤ t → t < j → both n (stm n s t) (stm n s (t + 1)) = both n (stm n s (t + 1)) (stm n s (t + 2)) := fun t h1 h2 => by
    have a := E_mono hn hs i (t - i)
    have b := E_mono hn hs (t + 1) (j - (t + 1))
    have c := E_le hn hs t
    rw [show i + (t - i) = t by omega] at a
    rw [show t + 1 + (j - (t + 1)) = j by omega] at b
    have b' : both n (stm n s (t + 1)) (stm n s (t + 2)) ≤ both n (stm n s j) (stm n s (j + 1)) := b
    omega
  have down : ∀ (d : Nat) (h : Int), 0 ≤ h → h < n.m → i + 1 + d ≤ j → chg n s (i + 1 + d) h → chg n s (i + 1) h := by
    intro d
    induction d with
    | zero => exact fun h _ _ _ c => c
    | succ d ih => exact fun h h0 h1 hd c => ih h h0 h1 (by omega) (chg_down hn hs (flat (i + 1 + d) (by omega) (by omega)) h0 h1 c)
  refine sides_ext (stm_ok hs _) (stm_ok hs _) fun h h0 h1 => ?_
  have p0 := side_pm (stm_ok hs i) h0 h1
  have p1 := side_pm (stm_ok hs (i + 1)) h0 h1
  have p2 := side_pm (stm_ok hs (i + 2)) h0 h1
  by_cases c : chg n s i h
  · have cj : chg n s j h := by
      show sideAt (overL n (stm n s j)) h ≠ sideAt (stm n s j) h
      rw [e]
      exact c
    have c1 := down (j - (i + 1)) h h0 h1 (by omega) (by rw [show i + 1 + (j - (i + 1)) = j by omega]; exact cj)
    have c1' : sideAt (stm n s (i + 2)) h ≠ sideAt (stm n s (i + 1)) h := c1
    have c' : sideAt (stm n s (i + 1)) h ≠ sideAt (stm n s i) h := c
    omega
  · have c1 : ¬ chg n s (i + 1) h := fun z => c (chg_down hn hs (flat i (Nat.le_refl _) hij) h0 h1 z)
    have c1' : sideAt (stm n s (i + 2)) h = sideAt (stm n s (i + 1)) h := Classical.not_not.mp c1
    have c' : sideAt (stm n s (i + 1)) h = sideAt (stm n s i) h := Classical.not_not.mp c
    rw [c1', c']
/-! the first row that comes again -/
structure Again (n : Net) (s : List Int) (J i : Nat) : Prop where
  le : i ≤ J
  big : J ≤ 1024
  eq : stm n s (J + 1) = stm n s i
  nd : ∀ a b, a < b → b ≤ J → stm n s a ≠ stm n s b
theorem nodup_short {α : Type} [DecidableEq α] : ∀ {l l' : List α}, l.Nodup → (∀ x ∈ l, x ∈ l') → l.length ≤ l'.length
  | [], _, _, _ => Nat.zero_le _
  | a :: l, l', h, hs => by
    have ha : a ∈ l' := hs a List.mem_cons_self
    obtain ⟨h1, h2⟩ := List.nodup_cons.mp h
    have := nodup_short (l := l) (l' := l'.erase a) h2 fun x hx => (List.mem_erase_of_ne fun e : x = a => h1 (by rw [← e]; exact hx)).mpr (hs x (List.mem_cons_of_mem _ hx))
    rw [List.length_erase_of_mem ha] at this
    have := List.length_pos_of_mem ha
    rw [List.length_cons]
    omega
theorem least_of {P : Nat → Prop} (h : ∃ j, P j) : ∃ j, P j ∧ ∀ i, i < j → ¬ P i := by
  obtain ⟨j, hj⟩ := h
  induction j using Nat.strongRecOn with
  | _ j ih =>
    by_cases q : ∃ i, i < j ∧ P i
    · obtain ⟨i, hi, hp⟩ := q
      exact ih i hi hp
    · exact ⟨j, hj, fun i hi hp => q ⟨i, hi, hp⟩⟩
theorem again_ex {n : Net} (hn : n.Ok) {s : List Int} (hs : sideOk n s) : ∃ J i, Again n s J i := by
  have some : ∃ j, j ≤ 1024 ∧ ∃ i, i ≤ j ∧ stm n s (j + 1) = stm n s i := by
    refine Classical.byContradiction fun no => ?_
    have nd : ∀ a b, a < b → b ≤ 1025 → stm n s a ≠ stm n s b := fun a b h1 h2 e => no ⟨b - 1, by omega, a, by omega, by rw [show b - 1 + 1 = b by omega]; exact e.symm⟩
    have hl := nodup_short (l := (List.range 1026).map (stm n s)) (l' := rowsN n.m.toNat) (List.pairwise_map.mpr (List.pairwise_lt_range.imp_of_mem fun {a b} ha hb lt => nd a b lt (by have := List.mem_range.mp hb; omega))) fun r hr => by
      obtain ⟨k, _, rfl⟩ := List.mem_map.mp hr
      have ok := stm_ok hs k
      exact rowsN_mem.mpr ⟨by have := ok.1; omega, ok.2⟩
    rw [List.length_map, List.length_range, rowsN_count] at hl
    have h10 := hn.m10
    have : 2 ^ n.m.toNat ≤ 2 ^ 10 := Nat.pow_le_pow_right (by decide) (by omega)
    omega
  obtain ⟨J, ⟨h1, i, h2, h3⟩, h4⟩ := least_of (P := fun j => j ≤ 1024 ∧ ∃ i, i ≤ j ∧ stm n s (j + 1) = stm n s i) some
  exact ⟨J, i, h2, h1, h3, fun a b hab hb e => h4 (b - 1) (by omega) ⟨by omega, a, by omega, by rw [show b - 1 + 1 = b by omega]; exact e.symm⟩⟩
theorem Again.back {n : Net} (hn : n.Ok) {s : List Int} (hs : sideOk n s) {J i : Nat} (A : Again n s J i) : J = i ∨ J = i + 1 := by
  have p := period hn hs (i := i) (j := J + 1) (by have := A.le; omega) A.eq
  have := A.le
  by_cases h : i + 2 ≤ J
  · exact absurd p.symm (A.nd i (i + 2) (by omega) h)
  · omega
/-! switched -/
def sg (l : List Int) (h : Int) : Int := if h ∈ l then -1 else 1
theorem sg_pm (l : List Int) (h : Int) : sg l h = 1 ∨ sg l h = -1 := by
  unfold sg
  split
  · exact .inr rfl
  · exact .inl rfl
theorem side_sg {s : List Int} (l : List Int) {i : Int} (h1 : 0 ≤ i) (h2 : i < s.length) : sideAt (turnedAt s l) i = sg l i * sideAt s i := by
  rw [side_turned l h1 h2]
  unfold sg
  split <;> omega
theorem term_sg {n : Net} {s : List Int} (hs : sideOk n s) {t : Tie} (ht : tieOk n.m t) (l : List Int) (h : Int) : term (turnedAt s l) h (switchT l t) = sg l h * term s h t := by
  obtain ⟨o1, o2, o3, o4⟩ := ht
  have hl := hs.1
  have e1 := side_sg (s := s) l (i := t.1) o1 (by omega)
  have e2 := side_sg (s := s) l (i := t.2.1) (by omega) (by omega)
  have sw : (switchT l t).2.2 = sg l t.1 * sg l t.2.1 * t.2.2 := by
    unfold switchT sg
    by_cases p : t.1 ∈ l <;> by_cases q : t.2.1 ∈ l <;> simp [p, q]
  unfold term
  rw [sw, show (switchT l t).1 = t.1 from rfl, show (switchT l t).2.1 = t.2.1 from rfl]
  rcases sg_pm l t.1 with p | p <;> rcases sg_pm l t.2.1 with q | q <;> by_cases a : h = t.1
  all_goals first
    | (subst a; simp [p, q, e2, Int.neg_mul, Int.mul_neg]; done)
    | (by_cases b : h = t.2.1
       · subst b
         simp [p, q, a, e1, Int.neg_mul, Int.mul_neg]
       · simp [a, b])
theorem pull_sg {n : Net} (hn : n.Ok) {s : List Int} (hs : sideOk n s) (l : List Int) (h : Int) : pull (switchN n l) (turnedAt s l) h = sg l h * pull n s h := by
  unfold pull
  rw [pull_sum, pull_sum, Int.zero_add, Int.zero_add, show (switchN n l).ts = sortT (n.ts.map (switchT l)) from rfl, perm_sum _ (sortT_perm _), List.map_map, Int.mul_comm, sum_mulr]
  congr 1
  refine List.map_congr_left fun t ht => ?_
  rw [Int.mul_comm]
  exact term_sg hs (hn.ok t ht) l h
theorem switch_side {n : Net} {s : List Int} (hs : sideOk n s) (l : List Int) : sideOk (switchN n l) (turnedAt s l) := turned_ok (n := n) hs l
theorem over_sg {n : Net} (hn : n.Ok) {s : List Int} (hs : sideOk n s) (l : List Int) : overL (switchN n l) (turnedAt s l) = turnedAt (overL n s) l := by
  have hl := hs.1
  have hl2 := (overL_ok (n := n) hs).1
  refine sides_ext (n := n) (overL_ok (n := switchN n l) (switch_side hs l)) (turned_ok (overL_ok hs) l) fun h h0 h1 => ?_
  rw [over_at (n := switchN n l) (switch_side hs l) h0 h1, pull_sg hn hs, side_sg l h0 (by omega), side_sg l h0 (by omega), over_at hs h0 h1]
  rcases sg_pm l h with p | p
  · simp [p]
  · simp only [p]
    have e : -1 * pull n s h * (-1 * sideAt s h) = pull n s h * sideAt s h := by
      rw [Int.neg_one_mul, Int.neg_one_mul, Int.neg_mul_neg]
    rw [e]
    split <;> omega
theorem stm_sg {n : Net} (hn : n.Ok) {s : List Int} (hs : sideOk n s) (l : List Int) : ∀ i, stm (switchN n l) (turnedAt s l) i = turnedAt (stm n s i) l
  | 0 => rfl
  | i + 1 => by
    show overL (switchN n l) (stm (switchN n l) (turnedAt s l) i) = _
    rw [stm_sg hn hs l i, over_sg hn (stm_ok hs i) l]
    rfl
theorem turn_twice {n : Net} {s : List Int} (hs : sideOk n s) (l : List Int) : turnedAt (turnedAt s l) l = s := by
  have hl := hs.1
  have hl2 := (turned_ok hs l).1
  refine sides_ext (n := n) (turned_ok (turned_ok hs l) l) hs fun h h0 h1 => ?_
  rw [side_sg l h0 (by omega), side_sg l h0 (by omega)]
  rcases sg_pm l h with p | p <;> rw [p] <;> omega
theorem again_sg {n : Net} (hn : n.Ok) {s : List Int} (hs : sideOk n s) (l : List Int) {J i : Nat} (A : Again n s J i) : Again (switchN n l) (turnedAt s l) J i where
  le := A.le
  big := A.big
  eq := by rw [stm_sg hn hs, stm_sg hn hs, A.eq]
  nd := fun a b h1 h2 e => A.nd a b h1 h2 (by
    rw [stm_sg hn hs, stm_sg hn hs] at e
    have := congrArg (turnedAt · l) e
    rw [turn_twice (stm_ok hs a), turn_twice (stm_ok hs b)] at this
    exact this)
end Ev

set_option Elab.async false
set_option linter.all false
set_option maxRecDepth 100000
set_option maxHeartbeats 1000000
set_option autoImplicit false
/-! The defs of law k48 that are new, as the evaluator takes them (printed by gen.py). -/
namespace Dd
open Ev PySem
def d_over_of : Df := ⟨2, 2, false, [
  .ret (.call 36 [(.var 1), (.call 34 [(.var 0), (.var 1)])])]⟩
def d_all_over : Df := ⟨2, 2, false, [
  .exp (.call 33 [(.var 0), (.var 1)]),
  .ret (.call 1218 [(.var 0), (.var 1)])]⟩
def d_storm : Df := ⟨2, 4, false, [
  .exp (.call 33 [(.var 0), (.var 1)]),
  .par 2 3 (.cel (.lst [(.var 1)])) (.call 1218 [(.var 0), (.var 1)]),
  .whl (.cmp .notin (.var 3) (.var 2)) [.exp (.meth .append (.var 2) [(.var 3)]), .set 3 (.call 1218 [(.var 0), (.var 3)])],
  .ret (.tup [(.bi .tuple [(.var 2)]), (.qry .index (.var 2) (.var 3))])]⟩
def d_twins : Df := ⟨1, 4, false, [
  .exp (.call 6 [(.var 0)]),
  .set 1 (.cel (.lst [])),
  .for (.name 2) .seq [(.call 39 [(.idx (.var 0) (.kint 0))])] [.set 3 (.call 1218 [(.var 0), (.var 2)]), .ite (.and (.cmp .lt (.var 2) (.var 3)) (.cmp .eq (.call 1218 [(.var 0), (.var 3)]) (.var 2))) [.exp (.meth .append (.var 1) [(.tup [(.var 2), (.var 3)])])] []],
  .ret (.bi .tuple [(.var 1)])]⟩
def d_both_pulls : Df := ⟨3, 5, false, [
  .exp (.call 33 [(.var 0), (.var 1)]),
  .exp (.call 17 [(.var 0), (.var 2)]),
  .ret (.bi .sum [(.lc (.bin .mul (.var 3) (.var 4)) (.tup [(.name 3), (.name 4)]) .zip [(.var 2), (.call 32 [(.var 0), (.var 1)])] [] [3, 4])])]⟩
def d__law_lot_12 : Df := ⟨2, 3, false, [
  .ret (.bi .tuple [(.lc (.var 2) (.name 2) .rng1 [(.var 1)] [(.cmp .eq (.call 1115 [(.var 0), (.kint 2)]) (.kint 0))] [2])])]⟩
def d__law_all_sides : Df := ⟨1, 5, true, [
  .set 1 (.cel (.lst [(.tup [])])),
  .for (.name 2) .rng1 [(.var 0)] [.set 3 (.cel (.lst [])), .for (.name 4) .seq [(.frz (.var 1))] [.exp (.meth .extend (.var 3) [(.lst [(.bin .add (.var 4) (.tup [(.neg (.kint 1))])), (.bin .add (.var 4) (.tup [(.kint 1)]))])])], .set 1 (.var 3)],
  .ret (.var 1)]⟩
def d__law_over : Df := ⟨2, 4, false, [
  .ret (.bi .tuple [(.lc (.ite (.cmp .lt (.bin .mul (.var 3) (.call 1205 [(.var 0), (.var 1), (.var 2)])) (.kint 0)) (.neg (.var 3)) (.var 3)) (.tup [(.name 2), (.name 3)]) .enum [(.var 1)] [] [2, 3])])]⟩
def d__law_storm : Df := ⟨2, 5, false, [
  .set 2 (.cel (.lst [(.var 1)])),
  .for (.name 3) .rng1 [(.kint 1025)] [.set 4 (.call 1223 [(.var 0), (.idx (.var 2) (.neg (.kint 1)))]), .ite (.cmp .isin (.var 4) (.var 2)) [.ret (.tup [(.bi .tuple [(.var 2)]), (.qry .index (.var 2) (.var 4))])] [], .exp (.meth .append (.var 2) [(.var 4)])],
  .ret .knon]⟩
def d__law_both : Df := ⟨3, 4, false, [
  .ret (.bi .sum [(.lc (.bin .mul (.idx (.var 2) (.var 3)) (.call 1205 [(.var 0), (.var 1), (.var 3)])) (.name 3) .rng1 [(.idx (.var 0) (.kint 0))] [] [3])])]⟩
def d__law_is_storm_right : Df := ⟨2, 11, false, [
  .set 2 (.call 1220 [(.var 0), (.var 1)]),
  .ite (.or (.cmp .ne (.bi .repr [(.var 2)]) (.bi .repr [(.call 1224 [(.var 0), (.var 1)])])) (.cmp .ne (.bi .repr [(.call 1219 [(.var 0), (.var 1)])]) (.bi .repr [(.call 1223 [(.var 0), (.var 1)])]))) [.ret (.kbl false)] [],
  .setT (.tup [(.name 3), (.name 4)]) (.var 2),
  .ite (.cmp .notin (.bin .sub (.bi .len [(.var 3)]) (.var 4)) (.tup [(.kint 1), (.kint 2)])) [.ret (.kbl false)] [],
  .set 5 (.bin .add (.bi .list [(.var 3)]) (.lst [(.idx (.var 3) (.var 4))])),
  .set 6 (.lc (.call 1225 [(.var 0), (.var 7), (.var 8)]) (.tup [(.name 7), (.name 8)]) .zip [(.var 5), (.sl (.var 5) (some (.kint 1)) none)] [] [7, 8]),
  .ite (.bi .any [(.lc (.cmp .lt (.var 10) (.var 9)) (.tup [(.name 9), (.name 10)]) .zip [(.var 6), (.sl (.var 6) (some (.kint 1)) none)] [] [9, 10])]) [.ret (.kbl false)] [],
  .ret (.bi .all [(.lc (.cmp2 .eq .eq (.bi .repr [(.call 1222 [(.var 0), (.var 7), (.var 8)])]) (.bi .repr [(.call 1225 [(.var 0), (.var 7), (.var 8)])]) (.bi .repr [(.call 1225 [(.var 0), (.var 8), (.var 7)])])) (.tup [(.name 7), (.name 8)]) .zip [(.var 5), (.sl (.var 5) (some (.kint 1)) none)] [] [7, 8])])]⟩
def d__law_are_twins_right : Df := ⟨1, 4, false, [
  .set 1 (.cel (.lst [])),
  .for (.name 2) .seq [(.call 1214 [(.idx (.var 0) (.kint 0))])] [.set 3 (.call 1223 [(.var 0), (.var 2)]), .ite (.and (.cmp .lt (.var 2) (.var 3)) (.cmp .eq (.call 1223 [(.var 0), (.var 3)]) (.var 2))) [.exp (.meth .append (.var 1) [(.tup [(.var 2), (.var 3)])])] []],
  .ret (.cmp .eq (.bi .repr [(.call 1221 [(.var 0)])]) (.bi .repr [(.bi .tuple [(.var 1)])]))]⟩
def d__law_is_switched_right : Df := ⟨2, 7, false, [
  .setT (.tup [(.name 2), (.name 3)]) (.tup [(.call 1134 [(.var 0), (.idx (.var 1) (.kint 0))]), (.call 1203 [(.var 0), (.idx (.var 1) (.kint 0))])]),
  .setT (.tup [(.name 4), (.name 5)]) (.call 1220 [(.call 22 [(.var 1), (.var 2)]), (.call 1206 [(.var 3), (.var 2)])]),
  .ret (.cmp .eq (.tup [(.bi .tuple [(.lc (.call 1206 [(.var 6), (.var 2)]) (.name 6) .seq [(.var 4)] [] [6])]), (.var 5)]) (.call 1220 [(.var 1), (.var 3)]))]⟩
def d_law_47 : Df := ⟨1, 6, false, [
  .for (.name 1) .seq [(.call 1117 [(.var 0), (.kint 3)])] [.set 2 (.cel (.call 1114 [(.var 0), (.var 1)])), .set 3 (.call 1119 [(.var 2), (.kint 1), (.kint 5), (.call 1115 [(.var 2), (.kint 3)])]), .ite (.or (.not (.bi .all [(.lc (.call 1226 [(.var 3), (.var 5)]) (.name 5) .seq [(.call 1214 [(.idx (.var 3) (.kint 0))])] [] [5])])) (.not (.call 1227 [(.var 3)]))) [.ret (.kbl false)] [], .for (.name 4) .rng1 [(.kint 3)] [.set 3 (.call 1119 [(.var 2), (.kint 6), (.kint 10), (.call 1115 [(.var 2), (.kint 3)])]), .ite (.or (.not (.call 1226 [(.var 3), (.call 1203 [(.var 2), (.idx (.var 3) (.kint 0))])])) (.not (.call 1228 [(.var 2), (.var 3)]))) [.ret (.kbl false)] []], .ite (.not (.call 1227 [(.call 1119 [(.var 2), (.kint 6), (.kint 7), (.kint 2)])])) [.ret (.kbl false)] []],
  .ret (.kbl true)]⟩
end Dd

set_option Elab.async false
set_option linter.all false
set_option maxRecDepth 100000
set_option maxHeartbeats 2000000
set_option autoImplicit false
/-! Storms: what the defs give. -/
namespace Ev
open PySem Dd
variable {T : Tf}
structure StoT (T : Tf) : Prop extends GoT T, SwT T where
  h36 : T 36 = some d_gone_by
  h39 : T 39 = some d_rows_of
  h1218 : T 1218 = some d_over_of
  h1219 : T 1219 = some d_all_over
  h1220 : T 1220 = some d_storm
  h1221 : T 1221 = some d_twins
  h1222 : T 1222 = some d_both_pulls
  h1205 : T 1205 = some d__law_pull
  h1206 : T 1206 = some d__law_gone
  h1214 : T 1214 = some d__law_all_sides
  h1223 : T 1223 = some d__law_over
  h1224 : T 1224 = some d__law_storm
  h1225 : T 1225 = some d__law_both
/-! rows in cells -/
theorem in_rowc {cs : Cs} {n : Nat} {b : Bool} {rs : List (List Int)} (h : cs[n]? = some (b, .lst (rs.map rwD))) (r : List Int) : inD cs (rwD r) (.cell n) = some (decide (r ∈ rs)) := by
  have e : pyDs (rs.map rwD) = some (rs.map fun r => .tuple (r.map .int)) := pyDs_rows rs
  simp only [inD, pyC, deref, h, Option.map_some, Option.bind_some, pyD, e, rwD, pyDs_ints, shal, depth_row]
  have q : (rs.map fun r => PyData.tuple (r.map .int)).any (fun z => PyData.eqv z (.tuple (r.map .int))) = decide (r ∈ rs) := any_rowsX r rs
  rw [q]
  rfl
where any_rowsX (r : List Int) : ∀ rs : List (List Int), ((rs.map fun r => PyData.tuple (r.map .int)).any fun z => PyData.eqv z (.tuple (r.map .int))) = decide (r ∈ rs)
  | [] => rfl
  | a :: l => by
    rw [List.map_cons, List.any_cons, any_rowsX r l]
    simp only [PyData.eqv, eqv_ints, List.mem_cons]
    by_cases h : a = r
    · subst h; simp
    · have h' : ¬ r = a := fun e => h e.symm
      simp [h, h']
theorem find_rows (r : List Int) : ∀ (rs : List (List Int)) (i : Nat), rs[i]? = some r → (∀ m r', m < i → rs[m]? = some r' → r' ≠ r) → (rs.map fun r => PyData.tuple (r.map .int)).findIdx? (fun z => PyData.eqv z (.tuple (r.map .int))) = some i
  | [], i, h, _ => by simp at h
  | a :: l, 0, h, _ => by
    have : a = r := by simpa using h
    subst this
    rw [List.map_cons, List.findIdx?_cons]
    simp [PyData.eqv, eqv_ints]
  | a :: l, i + 1, h, g => by
    have na : a ≠ r := g 0 a (by omega) rfl
    rw [List.map_cons, List.findIdx?_cons, find_rows r l i (by simpa using h) fun m r' hm e => g (m + 1) r' (by omega) (by simpa using e)]
    simp [PyData.eqv, eqv_ints, na]
theorem qry_rows {cs : Cs} {n : Nat} {b : Bool} {rs : List (List Int)} (h : cs[n]? = some (b, .lst (rs.map rwD))) {r : List Int} {i : Nat} (hi : rs[i]? = some r) (g : ∀ m r', m < i → rs[m]? = some r' → r' ≠ r) :
    qryD cs .index (.cell n) (rwD r) = some (.int (i : Nat)) := by
  have e : pyDs (rs.map rwD) = some (rs.map fun r => .tuple (r.map .int)) := pyDs_rows rs
  have sh : shal (.list (rs.map fun r => PyData.tuple (r.map .int))) = true := by
    have := depthAll_rows rs
    show decide ((PyData.list _).depth ≤ 64) = true
    rw [decide_eq_true_eq, PyData.depth]
    exact Nat.le_trans (Nat.succ_le_succ this) (by decide)
  have sh2 : shal (.tuple (r.map .int)) = true := by simp [shal, depth_row]
  simp only [qryD, pyC, deref, h, Option.map_some, Option.bind_some, pyD, e, rwD, pyDs_ints, sh, sh2, Bool.and_self, if_true, find_rows r rs i hi g]
/-! all go over -/
theorem s_over_of (N : StoT T) {n : Net} (hn : n.Ok) {s : List Int} (hs : sideOk n s) : Ret T 4 1218 [netD n, rwD s] (rwD (overL n s)) :=
  .of N.h1218 rfl rfl (by simp [lowD, rwD]) fun k cs hk => by
    have e1 := fun cs => g_wants N.toGoT hn hs k cs (by omega)
    have e2 := fun cs => s_gone N.h36 s (IsLot.lst (l := wants n s)) k cs (by omega)
    simp [d_over_of, denCs, denC, den, denL, E.isStar, rwD, e1, e2, overL]
theorem s_all_over (N : StoT T) {n : Net} (hn : n.Ok) {s : List Int} (hs : sideOk n s) : Ret T 7 1219 [netD n, rwD s] (rwD (overL n s)) :=
  .of N.h1219 rfl rfl (by simp [lowD, rwD]) fun k cs hk => by
    have e1 := fun cs => s_over_of N hn hs k cs (by omega)
    have e2 := fun cs => g_check_at N.toGoT hn hs k cs (by omega)
    simp only [rwD] at e1
    simp [d_all_over, denCs, denC, den, denL, E.isStar, rwD, e1, e2]
theorem l_over (N : StoT T) {n : Net} (hn : n.Ok) {s : List Int} (hs : sideOk n s) : Ret T 2 1223 [netD n, rwD s] (rwD (overL n s)) :=
  .of N.h1223 rfl rfl (by simp [lowD, rwD]) fun k cs hk => by
    show denCs (callF T k) d__law_over.body ⟨[some (netD n), some (.tup (s.map .int)), none, none], cs⟩ = _
    have e1 := fun h cs => l_pullT N.h1205 hn hs h k cs (by omega)
    have hl := hs.1
    have em := enum_map D.int s
    rw [List.length_map] at em
    have q : lcL (wipeS [some (netD n), some (.tup (s.map .int)), none, none] [2, 3]) (.tup [.name 2, .name 3]) (denI (callF T k) []) (den (callF T k) (.ite (.cmp .lt (.bin .mul (.var 3) (.call 1205 [(.var 0), (.var 1), (.var 2)])) (.kint 0)) (.neg (.var 3)) (.var 3))) (((List.range s.length).zip s).map fun p => .tup [.int (p.1 : Nat), .int p.2]) [] cs = some ((overL n s).map .int, cs) := by
      refine (lcL_map (enc := fun p : Nat × Int => .tup [.int (p.1 : Nat), .int p.2]) (fun p : Nat × Int => [some (netD n), some (.tup (s.map .int)), some (.int (p.1 : Nat)), some (.int p.2)]) (fun p => .int (if ((p.1 : Nat) : Int) ∈ wants n s then 0 - p.2 else p.2)) fun p hp => ⟨by simp [bindT, bindTs, wipeS], ?_⟩).trans ?_
      · have h1 := List.mem_range.mp (List.of_mem_zip hp).1
        have h2 : sideAt s (p.1 : Nat) = p.2 := by
          obtain ⟨i, hi⟩ := List.getElem?_of_mem hp
          rw [List.getElem?_zip_eq_some] at hi
          obtain ⟨g1, g2⟩ := hi
          have : i = p.1 := by
            rw [List.getElem?_range (by have := (List.getElem?_eq_some_iff.mp g2).1; omega)] at g1
            simpa using g1
          subst this
          simp [sideAt, List.getD_eq_getElem?_getD, g2]
        have pm := side_pm hs (i := ((p.1 : Nat) : Int)) (by omega) (by omega)
        rw [h2] at pm
        have ms := mul_small cs (j := pull n s (p.1 : Nat)) pm
        by_cases w : p.2 * pull n s (p.1 : Nat) < 0
        · have hw : ((p.1 : Nat) : Int) ∈ wants n s := mem_wants.mpr ⟨by omega, by omega, by rw [h2, Int.mul_comm]; exact w⟩
          simp [den, denL, E.isStar, e1, ms, w, hw]
        · have hw : ¬ ((p.1 : Nat) : Int) ∈ wants n s := fun z => w (by have := (mem_wants.mp z).2.2; rw [h2, Int.mul_comm] at this; exact this)
          simp [den, denL, E.isStar, e1, ms, w, hw]
      · rw [List.nil_append, overL, turnedAt, List.map_map]
        rfl
    have e := den_lc (G := callF T k) (elt := (.ite (.cmp .lt (.bin .mul (.var 3) (.call 1205 [(.var 0), (.var 1), (.var 2)])) (.kint 0)) (.neg (.var 3)) (.var 3))) (tg := .tup [.name 2, .name 3]) (k := .enum) (ss := [.var 1]) (own := [2, 3]) (ifs := []) (s := ⟨[some (netD n), some (.tup (s.map .int)), none, none], cs⟩) (ds := [.tup (s.map .int)]) (by simp [denL, den, E.isStar]) (by rw [srcD, List.length_map, em]) q
    exact cons_rt (ret_of (den_tup rfl e))
/-! the storm -/
def stRows (n : Net) (s : List Int) (J : Nat) : List (List Int) := (List.range (J + 1)).map (stm n s)
theorem stRows_next (n : Net) (s : List Int) (J : Nat) : stRows n s (J + 1) = stRows n s J ++ [stm n s (J + 1)] := by
  unfold stRows
  rw [List.range_succ, List.map_append]
  rfl
theorem stRows_get (n : Net) (s : List Int) {J m : Nat} (h : m ≤ J) : (stRows n s J)[m]? = some (stm n s m) := by
  unfold stRows
  rw [List.getElem?_map, List.getElem?_range (by omega)]
  rfl
def stMore (n : Net) (s : List Int) (i : Nat) : Bool := !decide (stm n s (i + 1) ∈ stRows n s i)
theorem stMore_lt {n : Net} {s : List Int} {J i : Nat} (A : Again n s J i) {m : Nat} (h : m < J) : stMore n s m = true := by
  unfold stMore
  have : ¬ stm n s (m + 1) ∈ stRows n s m := fun z => by
    obtain ⟨a, ha, e⟩ := List.mem_map.mp z
    have := List.mem_range.mp ha
    exact A.nd a (m + 1) (by omega) (by omega) e
  simp [this]
theorem stMore_end {n : Net} {s : List Int} {J i : Nat} (A : Again n s J i) : stMore n s J = false := by
  unfold stMore
  have : stm n s (J + 1) ∈ stRows n s J := by
    rw [A.eq]
    exact List.mem_map.mpr ⟨i, List.mem_range.mpr (by have := A.le; omega), rfl⟩
  simp [this]
theorem iter_to {more : Nat → Bool} {J : Nat} (h1 : ∀ m, m < J → more m = true) (h2 : more J = false) : ∀ (N x : Nat), x ≤ J → J ≤ x + N → iter more (· + 1) N x = J
  | 0, x, a, b => by rw [iter]; omega
  | N + 1, x, a, b => by
    rw [iter]
    by_cases q : x = J
    · subst q
      rw [h2]
      rfl
    · rw [h1 x (by omega), if_pos rfl]
      exact iter_to h1 h2 N (x + 1) (by omega) (by omega)
theorem st_first {n : Net} {s : List Int} {J i : Nat} (A : Again n s J i) : (stRows n s J)[i]? = some (stm n s (J + 1)) ∧ ∀ m r', m < i → (stRows n s J)[m]? = some r' → r' ≠ stm n s (J + 1) := by
  have := A.le
  refine ⟨by rw [stRows_get n s A.le, A.eq], fun m r' hm e => ?_⟩
  rw [stRows_get n s (by omega)] at e
  cases e
  rw [A.eq]
  exact A.nd m i hm A.le
theorem app_row {cs : Cs} {L : List (List Int)} (r : List Int) (hl : L.length ≤ 100000) : methD .append (.cell cs.length) [rwD r] (cs ++ [(true, .lst (L.map rwD))]) = some (.non, cs ++ [(true, .lst ((L ++ [r]).map rwD))]) := by
  have lw : lowD cs.length (rwD r) = true := by simp [rwD, lowD]
  have hf : L.length + 1 ≤ 16777216 := by omega
  simp only [methD, end_get, List.length_map, fits_len, hf, decide_true, lw, Bool.and_self, if_true, end_set, List.map_append, List.map_cons, List.map_nil]
theorem stRows_len (n : Net) (s : List Int) (J : Nat) : (stRows n s J).length = J + 1 := by simp [stRows]
def stormD (n : Net) (s : List Int) (J i : Nat) : D := .tup [.tup ((stRows n s J).map rwD), .int (i : Nat)]
theorem low_storm (m : Nat) (n : Net) (s : List Int) (J i : Nat) : lowD m (stormD n s J i) = true := by
  simp [stormD, lowD, lowDs, lows_rw]
theorem den_tup_cell {G : Gf} {i n : Nat} {b : Bool} {ds : List D} {s : S} (h0 : s.sl[i]? = some (some (.cell n))) (h : s.cs[n]? = some (b, .lst ds)) : den G (.bi .tuple [.var i]) s = .ok (.tup ds) s :=
  den_bi1 rfl (den_var h0) (by simp [bi1, seqC, deref, h, seqD])
theorem den_qry {G : Gf} {q : QK} {a b : E} {s s1 s2 : S} {x y d : D} (h1 : den G a s = .ok x s1) (h2 : den G b s1 = .ok y s2) (h3 : qryD s2.cs q x y = some d) : den G (.qry q a b) s = .ok d s2 := by
  rw [den, h1]
  simp only [R.bind_ok, h2, h3, R.of_some]
theorem nin_row {cs : Cs} {n : Nat} {b : Bool} {rs : List (List Int)} (h : cs[n]? = some (b, .lst (rs.map rwD))) (r : List Int) : cmpD cs .notin (rwD r) (.cell n) = some (!decide (r ∈ rs)) := by
  rw [cmp_nin, in_rowc h]
  rfl
theorem s_storm (N : StoT T) {n : Net} (hn : n.Ok) {s : List Int} (hs : sideOk n s) {J i : Nat} (A : Again n s J i) : Ret T 7 1220 [netD n, rwD s] (stormD n s J i) :=
  .ofO N.h1220 rfl rfl (low_storm 0 n s J i) fun k cs hk => by
    refine ⟨[(true, .lst ((stRows n s J).map rwD))], ?_⟩
    show denCs (callF T k) d_storm.body ⟨[some (netD n), some (rwD s), none, none], cs⟩ = _
    have e1 : ∀ (i : Nat) cs, callF T k 1218 [netD n, rwD (stm n s i)] cs = some (rwD (stm n s (i + 1)), cs) := fun i cs => s_over_of N hn (stm_ok hs i) k cs (by omega)
    have e2 : ∀ cs, callF T k 33 [netD n, rwD s] cs = some (.non, cs) := fun cs => g_check_at N.toGoT hn hs k cs (by omega)
    have hb := A.big
    have hl := A.le
    have done := iter_to (fun m h => stMore_lt A h) (stMore_end A) 1024 0 (Nat.zero_le _) (by omega)
    have key := whlL_iter (c := den (callF T k) (.cmp .notin (.var 3) (.var 2))) (b := denCs (callF T k) [.exp (.meth .append (.var 2) [(.var 3)]), .set 3 (.call 1218 [(.var 0), (.var 3)])])
      (fun (x : Nat) st => x ≤ J ∧ st = ⟨[some (netD n), some (rwD s), some (.cell cs.length), some (rwD (stm n s (x + 1)))], cs ++ [(true, .lst ((stRows n s x).map rwD))]⟩) (stMore n s) (· + 1) ?_ ?_ 1024 0 ⟨[some (netD n), some (rwD s), some (.cell cs.length), some (rwD (stm n s 1))], cs ++ [(true, .lst ((stRows n s 0).map rwD))]⟩ ⟨Nat.zero_le _, rfl⟩
      (by rw [done]; exact stMore_end A) fuel (by decide)
    · obtain ⟨s', e, hx⟩ := key
      rw [done] at hx
      obtain ⟨_, rfl⟩ := hx
      have p0 : denC (callF T k) (.exp (.call 33 [(.var 0), (.var 1)])) ⟨[some (netD n), some (rwD s), none, none], cs⟩ = .nx ⟨[some (netD n), some (rwD s), none, none], cs⟩ := by
        simp [denC, den, denL, E.isStar, e2]
      have p1 : denC (callF T k) (.par 2 3 (.cel (.lst [(.var 1)])) (.call 1218 [(.var 0), (.var 1)])) ⟨[some (netD n), some (rwD s), none, none], cs⟩ = .nx ⟨[some (netD n), some (rwD s), some (.cell cs.length), some (rwD (stm n s 1))], cs ++ [(true, .lst ((stRows n s 0).map rwD))]⟩ := by
        have lw : lowDs cs.length [rwD s] = true := by simp [lowDs, rwD, lowD]
        have o0 : ∀ cs, callF T k 1218 [netD n, rwD s] cs = some (rwD (stm n s 1), cs) := fun cs => e1 0 cs
        simp [denC, den, denL, E.isStar, lw, o0, stRows, stm]
      have g := st_first A
      have e4 := qry_rows (cs := cs ++ [(true, .lst ((stRows n s J).map rwD))]) (n := cs.length) (b := true) (end_get cs _) g.1 g.2
      have p3 : denC (callF T k) (.ret (.tup [(.bi .tuple [(.var 2)]), (.qry .index (.var 2) (.var 3))])) ⟨[some (netD n), some (rwD s), some (.cell cs.length), some (rwD (stm n s (J + 1)))], cs ++ [(true, .lst ((stRows n s J).map rwD))]⟩ = .rt (stormD n s J i) (cs ++ [(true, .lst ((stRows n s J).map rwD))]) :=
        ret_of (den_pairs rfl rfl (den_tup_cell rfl (end_get cs _)) (den_qry (den_var rfl) (den_var rfl) e4))
      exact (cons_nx p0).trans ((cons_nx p1).trans ((cons_nx (whl_eq e)).trans (cons_rt p3)))
    · rintro x st ⟨hx, rfl⟩
      exact den_cmp (den_var rfl) (den_var rfl) (nin_row (end_get cs _) _)
    · rintro x st ⟨hx, rfl⟩ hm
      have lt : x < J := by
        by_cases q : x = J
        · rw [q, stMore_end A] at hm; cases hm
        · omega
      refine ⟨⟨[some (netD n), some (rwD s), some (.cell cs.length), some (rwD (stm n s (x + 1 + 1)))], cs ++ [(true, .lst ((stRows n s (x + 1)).map rwD))]⟩, ?_, lt, rfl⟩
      have a1 : denC (callF T k) (.exp (.meth .append (.var 2) [(.var 3)])) ⟨[some (netD n), some (rwD s), some (.cell cs.length), some (rwD (stm n s (x + 1)))], cs ++ [(true, .lst ((stRows n s x).map rwD))]⟩ = .nx ⟨[some (netD n), some (rwD s), some (.cell cs.length), some (rwD (stm n s (x + 1)))], cs ++ [(true, .lst ((stRows n s (x + 1)).map rwD))]⟩ := by
        rw [stRows_next]
        exact exp_meth rfl rfl (den_var rfl) (app_row _ (by rw [stRows_len]; omega))
      exact (cons_nx a1).trans ((cons_nx (denC_set (den_call2 rfl rfl (den_var rfl) (den_var rfl) (e1 (x + 1) _)) (show 3 < 4 by decide))).trans (by rw [denCs]; rfl))
theorem den_negk {G : Gf} {s : S} : den G (.neg (.kint 1)) s = .ok (.int (-1)) s := by simp [den]
theorem at_lastrow (n : Net) (s : List Int) (x : Nat) : L2.atI ((stRows n s x).map rwD) (-1) = some (rwD (stm n s x)) := by
  have h : (stRows n s x)[x]? = some (stm n s x) := stRows_get n s (Nat.le_refl _)
  unfold L2.atI L2.ixN
  rw [if_neg (by decide), if_pos (by rw [List.length_map, stRows_len]; omega), List.length_map, stRows_len]
  have e : ((-1 : Int) + ((x + 1 : Nat) : Int)).toNat = x := by omega
  rw [e]
  simp [h]
theorem l_storm (N : StoT T) {n : Net} (hn : n.Ok) {s : List Int} (hs : sideOk n s) {J i : Nat} (A : Again n s J i) : Ret T 3 1224 [netD n, rwD s] (stormD n s J i) :=
  .ofO N.h1224 rfl rfl (low_storm 0 n s J i) fun k cs hk => by
    refine ⟨[(true, .lst ((stRows n s J).map rwD))], ?_⟩
    show denCs (callF T k) d__law_storm.body ⟨[some (netD n), some (rwD s), none, none, none], cs⟩ = _
    have e1 : ∀ (i : Nat) cs, callF T k 1223 [netD n, rwD (stm n s i)] cs = some (rwD (stm n s (i + 1)), cs) := fun i cs => l_over N hn (stm_ok hs i) k cs (by omega)
    have hb := A.big
    have hl := A.le
    have done := iter_to (fun m h => stMore_lt A h) (stMore_end A) 1024 0 (Nat.zero_le _) (by omega)
    obtain ⟨is, his, hlen⟩ : ∃ is : List Nat, rngD [.int 1025] = some (is.map fun i => .int (i : Nat)) ∧ 1024 < is.length := ⟨List.range (1025 : Int).toNat, by rw [rng_of (by decide) (by decide), rangeD_0], by rw [List.length_range]; decide⟩
    have key := forL_ret (b := denCs (callF T k) [.set 4 (.call 1223 [(.var 0), (.idx (.var 2) (.neg (.kint 1)))]), .ite (.cmp .isin (.var 4) (.var 2)) [.ret (.tup [(.bi .tuple [(.var 2)]), (.qry .index (.var 2) (.var 4))])] [], .exp (.meth .append (.var 2) [(.var 4)])]) (t := .name 3) (cs := cs ++ [(true, .lst ((stRows n s J).map rwD))])
      (fun (x : Nat) st => ∃ x3 x4, st = ⟨[some (netD n), some (rwD s), some (.cell cs.length), x3, x4], cs ++ [(true, .lst ((stRows n s x).map rwD))]⟩) (fun x => x ≤ J) (stMore n s) (· + 1) (fun _ => stormD n s J i) (fun x hx hm => ?_) (fun j x st hx hi => ?_) 1024 is 0 ⟨[some (netD n), some (rwD s), some (.cell cs.length), none, none], cs ++ [(true, .lst ((stRows n s 0).map rwD))]⟩ (Nat.zero_le _) ⟨_, _, rfl⟩ hlen (by rw [done]; exact stMore_end A)
    · have p1 : denC (callF T k) (.set 2 (.cel (.lst [(.var 1)]))) ⟨[some (netD n), some (rwD s), none, none, none], cs⟩ = .nx ⟨[some (netD n), some (rwD s), some (.cell cs.length), none, none], cs ++ [(true, .lst ((stRows n s 0).map rwD))]⟩ := by
        have lw : lowDs cs.length [rwD s] = true := by simp [lowDs, rwD, lowD]
        simp [denC, den, denL, E.isStar, lw, stRows, stm, setS]
      refine (cons_nx p1).trans (cons_rt (for_eq (ds := [.int 1025]) (items := is.map fun i => .int (i : Nat)) (s1 := ⟨[some (netD n), some (rwD s), some (.cell cs.length), none, none], cs ++ [(true, .lst ((stRows n s 0).map rwD))]⟩) (by simp [denL, den, E.isStar]) ?_ key))
      rw [srcD]
      exact his
    · by_cases q : x = J
      · rw [q, stMore_end A] at hm; cases hm
      · omega
    · obtain ⟨x3, x4, rfl⟩ := hi
      refine ⟨[some (netD n), some (rwD s), some (.cell cs.length), some (.int (j : Nat)), x4], by simp [bindT], fun hm => ?_, fun hm => ?_⟩
      all_goals
        have b1 : denC (callF T k) (.set 4 (.call 1223 [(.var 0), (.idx (.var 2) (.neg (.kint 1)))])) ⟨[some (netD n), some (rwD s), some (.cell cs.length), some (.int (j : Nat)), x4], cs ++ [(true, .lst ((stRows n s x).map rwD))]⟩ = .nx ⟨[some (netD n), some (rwD s), some (.cell cs.length), some (.int (j : Nat)), some (rwD (stm n s (x + 1)))], cs ++ [(true, .lst ((stRows n s x).map rwD))]⟩ :=
          (denC_set (den_call2 rfl rfl (den_var rfl) (den_idx (den_var rfl) den_negk ((ix_cell (end_get cs _) (-1)).trans (at_lastrow n s x))) (e1 x _)) (show 4 < 5 by decide)).trans rfl
        have b2 : den (callF T k) (.cmp .isin (.var 4) (.var 2)) ⟨[some (netD n), some (rwD s), some (.cell cs.length), some (.int (j : Nat)), some (rwD (stm n s (x + 1)))], cs ++ [(true, .lst ((stRows n s x).map rwD))]⟩ = .ok (.bl (!stMore n s x)) ⟨[some (netD n), some (rwD s), some (.cell cs.length), some (.int (j : Nat)), some (rwD (stm n s (x + 1)))], cs ++ [(true, .lst ((stRows n s x).map rwD))]⟩ := by
          refine den_cmp (den_var rfl) (den_var rfl) ?_
          rw [cmp_in, in_rowc (end_get cs _), stMore, Bool.not_not]
      · have lt : x < J := by
          by_cases q : x = J
          · rw [q, stMore_end A] at hm; cases hm
          · omega
        rw [hm] at b2
        refine ⟨⟨[some (netD n), some (rwD s), some (.cell cs.length), some (.int (j : Nat)), some (rwD (stm n s (x + 1)))], cs ++ [(true, .lst ((stRows n s (x + 1)).map rwD))]⟩, ?_, _, _, rfl⟩
        refine (cons_nx b1).trans ((cons_nx ((ite_f b2).trans (by rw [denCs]))).trans ((cons_nx ?_).trans (by rw [denCs])))
        rw [stRows_next]
        exact exp_meth rfl rfl (den_var rfl) (app_row _ (by rw [stRows_len]; omega))
      · have e : x = J := by
          by_cases q : x = J
          · exact q
          · rw [stMore_lt A (by omega)] at hm; cases hm
        subst e
        rw [hm] at b2
        have g := st_first A
        have e4 := qry_rows (cs := cs ++ [(true, .lst ((stRows n s x).map rwD))]) (n := cs.length) (b := true) (end_get cs _) g.1 g.2
        refine (cons_nx b1).trans (cons_rt ((ite_t b2).trans (cons_rt (ret_of (den_pairs rfl rfl (den_tup_cell rfl (end_get cs _)) (den_qry (den_var rfl) (den_var rfl) e4))))))
/-! the energy -/
theorem sides_map {n : Net} {b : List Int} (hb : sideOk n b) : b.map D.int = (List.range n.m.toNat).map fun i : Nat => D.int (sideAt b (i : Int)) := by
  have hl := hb.1
  refine List.ext_getElem (by simp; omega) fun i h1 h2 => ?_
  simp only [List.length_map] at h1
  simp [sideAt, List.getD_eq_getElem?_getD, List.getElem?_eq_getElem h1]
theorem s_both (N : StoT T) {n : Net} (hn : n.Ok) {a b : List Int} (ha : sideOk n a) (hb : sideOk n b) : Ret T 7 1222 [netD n, rwD a, rwD b] (.int (both n a b)) :=
  .of N.h1222 rfl rfl (by simp [lowD]) fun k cs hk => by
    show denCs (callF T k) d_both_pulls.body ⟨[some (netD n), some (rwD a), some (rwD b), none, none], cs⟩ = _
    have e1 : ∀ cs, callF T k 33 [netD n, rwD a] cs = some (.non, cs) := fun cs => g_check_at N.toGoT hn ha k cs (by omega)
    have e2 : ∀ cs, callF T k 17 [netD n, rwD b] cs = some (.non, cs) := fun cs => s_check_sides N.toSideT hb k cs (by omega)
    have e3 : ∀ cs, callF T k 32 [netD n, rwD a] cs = some (.lst ((List.range n.m.toNat).map fun i => .int (pull n a (i : Nat))), cs) := fun cs => g_pulls N.toGoT hn ha k cs (by omega)
    have p0 : denC (callF T k) (.exp (.call 33 [(.var 0), (.var 1)])) ⟨[some (netD n), some (rwD a), some (rwD b), none, none], cs⟩ = .nx ⟨[some (netD n), some (rwD a), some (rwD b), none, none], cs⟩ := by
      simp [denC, den, denL, E.isStar, e1]
    have p1 : denC (callF T k) (.exp (.call 17 [(.var 0), (.var 2)])) ⟨[some (netD n), some (rwD a), some (rwD b), none, none], cs⟩ = .nx ⟨[some (netD n), some (rwD a), some (rwD b), none, none], cs⟩ := by
      simp [denC, den, denL, E.isStar, e2]
    have hz : srcD .zip [rwD b, .lst ((List.range n.m.toNat).map fun i => .int (pull n a (i : Nat)))] = some ((List.range n.m.toNat).map fun i : Nat => .tup [.int (sideAt b (i : Int)), .int (pull n a (i : Int))]) := by
      rw [rwD, sides_map hb, srcD, List.zipWith_map, List.zipWith_self]
    have q : lcL (wipeS [some (netD n), some (rwD a), some (rwD b), none, none] [3, 4]) (.tup [.name 3, .name 4]) (denI (callF T k) []) (den (callF T k) (.bin .mul (.var 3) (.var 4))) ((List.range n.m.toNat).map fun i : Nat => .tup [.int (sideAt b (i : Int)), .int (pull n a (i : Int))]) [] cs = some (((List.range n.m.toNat).map fun h : Nat => sideAt b (h : Int) * pull n a (h : Int)).map .int, cs) := by
      refine (lcL_map (enc := fun i : Nat => D.tup [.int (sideAt b (i : Int)), .int (pull n a (i : Int))]) (fun i : Nat => [some (netD n), some (rwD a), some (rwD b), some (.int (sideAt b (i : Int))), some (.int (pull n a (i : Int)))]) (fun i => .int (sideAt b (i : Int) * pull n a (i : Int))) fun i hi => ⟨by simp [bindT, bindTs, wipeS], ?_⟩).trans (by rw [List.nil_append, List.map_map]; rfl)
      have h1 := List.mem_range.mp hi
      exact den_bin (den_var rfl) (den_var rfl) (mul_small cs (side_pm hb (by omega) (by omega)))
    have e := den_lc (G := callF T k) (elt := (.bin .mul (.var 3) (.var 4))) (tg := .tup [.name 3, .name 4]) (k := .zip) (ss := [(.var 2), (.call 32 [(.var 0), (.var 1)])]) (ifs := []) (own := [3, 4]) (s := ⟨[some (netD n), some (rwD a), some (rwD b), none, none], cs⟩) (by simp [denL, den, E.isStar, e3]) hz q
    exact (cons_nx p0).trans ((cons_nx p1).trans (cons_rt (ret_of (den_bi1 rfl e (by rw [bi_sum']; exact sum_intsX cs _)))))
where sum_intsX (cs : Cs) (l : List Int) : sumD cs (.lst (l.map .int)) = some (.int l.sum) := by simp only [sumD, sumC, lstC, deref, Option.bind_some, intsD_map]
theorem l_both (N : StoT T) {n : Net} (hn : n.Ok) {a b : List Int} (ha : sideOk n a) (hb : sideOk n b) : Ret T 2 1225 [netD n, rwD a, rwD b] (.int (both n a b)) :=
  .of N.h1225 rfl rfl (by simp [lowD]) fun k cs hk => by
    show denCs (callF T k) d__law_both.body ⟨[some (netD n), some (rwD a), some (rwD b), none], cs⟩ = _
    have m1 := hn.m1
    have m2 := hn.m10
    have hl := hb.1
    have e1 : ∀ h cs, callF T k 1205 [netD n, rwD a, .int h] cs = some (.int (pull n a h), cs) := fun h cs => l_pullT N.h1205 hn ha h k cs (by omega)
    have q : lcL (wipeS [some (netD n), some (rwD a), some (rwD b), none] [3]) (.name 3) (denI (callF T k) []) (den (callF T k) (.bin .mul (.idx (.var 2) (.var 3)) (.call 1205 [(.var 0), (.var 1), (.var 3)]))) ((List.range n.m.toNat).map fun i : Nat => .int (i : Nat)) [] cs = some (((List.range n.m.toNat).map fun h : Nat => sideAt b (h : Int) * pull n a (h : Int)).map .int, cs) := by
      refine (lcL_map (enc := fun i : Nat => D.int (i : Nat)) (fun i : Nat => [some (netD n), some (rwD a), some (rwD b), some (.int (i : Nat))]) (fun i => .int (sideAt b (i : Int) * pull n a (i : Int))) fun i hi => ⟨by simp [bindT, wipeS], ?_⟩).trans (by rw [List.nil_append, List.map_map]; rfl)
      have h1 := List.mem_range.mp hi
      exact den_bin (den_idx (den_var rfl) (den_var rfl) (show ixD cs (.tup (b.map .int)) (.int (i : Nat)) = _ from at_side (by omega) (by omega))) (den_call3 rfl rfl rfl (den_var rfl) (den_var rfl) (den_var rfl) (e1 _ cs)) (mul_small cs (side_pm hb (by omega) (by omega)))
    have e := den_lc (G := callF T k) (elt := (.bin .mul (.idx (.var 2) (.var 3)) (.call 1205 [(.var 0), (.var 1), (.var 3)]))) (tg := .name 3) (k := .rng1) (ss := [(.idx (.var 0) (.kint 0))]) (ifs := []) (own := [3]) (s := ⟨[some (netD n), some (rwD a), some (rwD b), none], cs⟩) (ds := [.int n.m]) (by simp [denL, den, E.isStar, netD]) (by rw [srcD, rng_of (by omega) (by omega), rangeD_0]) q
    exact cons_rt (ret_of (den_bi1 rfl e (by rw [bi_sum']; exact s_both.sum_intsX cs _)))
end Ev

set_option Elab.async false
set_option linter.all false
set_option maxRecDepth 100000
set_option maxHeartbeats 2000000
set_option autoImplicit false
/-! Storms: rows by sums, twins, drawn lots, the law's parts. -/
namespace Ev
open PySem Dd
variable {T : Tf}
def lapBP : List C := [.set 3 (.cel (.lst [])), .for (.name 4) .seq [(.frz (.var 1))] [.exp (.meth .extend (.var 3) [(.lst [(.bin .add (.var 4) (.tup [(.neg (.kint 1))])), (.bin .add (.var 4) (.tup [(.kint 1)]))])])], .set 1 (.var 3)]
/-- the inner loop: one row after another goes twice into the new list -/
theorem lap_innerP {G : Gf} {m : Int} {x1 x2 : Option D} {n : Nat} : ∀ (rs done : List (List Int)) (x4 : Option D) (cs : Cs), (∀ r ∈ rs, r.length ≤ 100) → done.length + 2 * rs.length ≤ 100000 → cs[n]? = some (true, .lst (done.map rwD)) →
    ∃ x4', forL (.name 4) (denCs G [.exp (.meth .extend (.var 3) [(.lst [(.bin .add (.var 4) (.tup [(.neg (.kint 1))])), (.bin .add (.var 4) (.tup [(.kint 1)]))])])]) (rs.map rwD) ⟨[some (.int m), x1, x2, some (.cell n), x4], cs⟩ =
      .nx ⟨[some (.int m), x1, x2, some (.cell n), x4'], cs.set n (true, .lst ((done ++ rs.flatMap fun r => [r ++ [-1], r ++ [1]]).map rwD))⟩
  | [], done, x4, cs, _, _, hn => by
    refine ⟨x4, ?_⟩
    have e : cs.set n (true, D.lst (done.map rwD)) = cs := by
      apply List.ext_getElem?
      intro i
      by_cases q : n = i
      · subst q
        rw [List.getElem?_set_self (List.getElem?_eq_some_iff.mp hn).1, hn]
      · rw [List.getElem?_set_ne q]
    simp [forL, e]
  | r :: rs, done, x4, cs, h1, h2, hn => by
    have hr := h1 r List.mem_cons_self
    have hlt := (List.getElem?_eq_some_iff.mp hn).1
    have step : denCs G [.exp (.meth .extend (.var 3) [(.lst [(.bin .add (.var 4) (.tup [(.neg (.kint 1))])), (.bin .add (.var 4) (.tup [(.kint 1)]))])])] ⟨[some (.int m), x1, x2, some (.cell n), some (rwD r)], cs⟩ =
        .nx ⟨[some (.int m), x1, x2, some (.cell n), some (rwD r)], cs.set n (true, .lst ((done ++ [r ++ [-1], r ++ [1]]).map rwD))⟩ := by
      have l1 : r.length + 1 ≤ 16777216 := by omega
      have l2 : done.length + 2 ≤ 16777216 := by simp at h2; omega
      have t1 : den G (.bin .add (.var 4) (.tup [(.neg (.kint 1))])) ⟨[some (.int m), x1, x2, some (.cell n), some (rwD r)], cs⟩ = .ok (rwD (r ++ [-1])) ⟨[some (.int m), x1, x2, some (.cell n), some (rwD r)], cs⟩ :=
        den_bin (y := .tup [.int (-1)]) (den_var rfl) (by simp [den, denL, E.isStar]) (by simp [binD, l1, rwD])
      have t2 : den G (.bin .add (.var 4) (.tup [(.kint 1)])) ⟨[some (.int m), x1, x2, some (.cell n), some (rwD r)], cs⟩ = .ok (rwD (r ++ [1])) ⟨[some (.int m), x1, x2, some (.cell n), some (rwD r)], cs⟩ :=
        den_bin (y := .tup [.int 1]) (den_var rfl) (by simp [den, denL, E.isStar]) (by simp [binD, l1, rwD])
      have t3 : den G (.lst [(.bin .add (.var 4) (.tup [(.neg (.kint 1))])), (.bin .add (.var 4) (.tup [(.kint 1)]))]) ⟨[some (.int m), x1, x2, some (.cell n), some (rwD r)], cs⟩ = .ok (.lst ([r ++ [-1], r ++ [1]].map rwD)) ⟨[some (.int m), x1, x2, some (.cell n), some (rwD r)], cs⟩ := by
        rw [den]
        simp only [denL, t1, t2, E.isStar, R.bind_ok, Bool.false_eq_true, if_false]
        rfl
      refine (cons_nx (exp_meth (v := .non) (cs' := cs.set n (true, .lst ((done ++ [r ++ [-1], r ++ [1]]).map rwD))) rfl rfl t3 ?_)).trans (by rw [denCs])
      have lw : lowDs n ([r ++ [-1], r ++ [1]].map rwD) = true := lows_rw n _
      have l3 : (done.map rwD).length + ([r ++ [-1], r ++ [1]].map rwD).length ≤ 16777216 := by rw [List.length_map]; exact l2
      simp only [methD, hn, fits_len, l3, decide_true, lw, Bool.and_self, if_true, List.map_append]
    obtain ⟨x4', e⟩ := lap_innerP rs (done ++ [r ++ [-1], r ++ [1]]) (some (rwD r)) (cs.set n (true, .lst ((done ++ [r ++ [-1], r ++ [1]]).map rwD))) (fun q hq => h1 q (List.mem_cons_of_mem _ hq)) (by simp at h2 ⊢; omega) (List.getElem?_set_self hlt)
    refine ⟨x4', ?_⟩
    have hb : bindT (.name 4) (rwD r) [some (.int m), x1, x2, some (.cell n), x4] = some [some (.int m), x1, x2, some (.cell n), some (rwD r)] := by simp [bindT]
    rw [List.map_cons, forL]
    simp only [hb, step]
    rw [List.set_set] at e
    rw [e]
    simp [List.flatMap_cons, List.append_assoc]
/-- how the lapsP go on -/
theorem lapsP {G : Gf} {m : Int} : ∀ (is : List Nat) (k : Nat) (st : S) (cs : Cs), k + is.length ≤ 10 → (∃ n own x2 x3 x4, st = ⟨[some (.int m), some (.cell n), x2, x3, x4], cs ++ own⟩ ∧ cs.length ≤ n ∧ (cs ++ own)[n]? = some (true, .lst ((rowsN k).map rwD))) →
    ∃ n own x2 x3 x4, forL (.name 2) (denCs G lapBP) (is.map fun i => .int (i : Nat)) st = .nx ⟨[some (.int m), some (.cell n), x2, x3, x4], cs ++ own⟩ ∧ cs.length ≤ n ∧ (cs ++ own)[n]? = some (true, .lst ((rowsN (k + is.length)).map rwD))
  | [], k, st, cs, _, ⟨n, own, x2, x3, x4, e, h1, h2⟩ => ⟨n, own, x2, x3, x4, by simp [forL, e], h1, h2⟩
  | i :: is, k, st, cs, hk, ⟨n, own, x2, x3, x4, e, h1, h2⟩ => by
    subst e
    have hn := (List.getElem?_eq_some_iff.mp h2).1
    have hcount := rowsN_count k
    have hk10 : k ≤ 10 := by simp at hk; omega
    have hpow : 2 ^ k ≤ 2 ^ 10 := Nat.pow_le_pow_right (by decide) hk10
    -- the new list, the old one frozen
    let cs1 := (cs ++ own ++ [(true, D.lst [])]).set n (false, .lst ((rowsN k).map rwD))
    have hlen1 : (cs ++ own ++ [(true, D.lst [])]).length = (cs ++ own).length + 1 := by simp [Nat.add_assoc]
    have hq : cs1[(cs ++ own).length]? = some (true, .lst (([] : List (List Int)).map rwD)) := by
      show ((cs ++ own ++ [(true, D.lst [])]).set n _)[(cs ++ own).length]? = _
      rw [List.getElem?_set_ne (by omega), List.getElem?_append_right (Nat.le_refl _)]
      simp
    obtain ⟨x4', e⟩ := lap_innerP (G := G) (m := m) (x1 := some (.cell n)) (x2 := some (.int (i : Nat))) (n := (cs ++ own).length) (rowsN k) [] x4 cs1 (fun r hr => by rw [rowsN_len k r hr]; omega) (by simp; omega) hq
    let cs2 := cs1.set (cs ++ own).length (true, D.lst (([] ++ (rowsN k).flatMap fun r => [r ++ [-1], r ++ [1]]).map rwD))
    have hc2 : cs2 = cs ++ cs2.drop cs.length := by
      have ht : cs2.take cs.length = cs := by
        show (List.set (List.set (cs ++ own ++ [(true, D.lst [])]) n _) (cs ++ own).length _).take cs.length = cs
        rw [List.take_set_of_le (by simp), List.take_set_of_le h1, List.append_assoc, List.take_left]
      conv => lhs; rw [← List.take_append_drop cs.length cs2, ht]
    have hlast : cs2[(cs ++ own).length]? = some (true, .lst ((rowsN (k + 1)).map rwD)) := by
      show (List.set cs1 _ _)[_]? = _
      rw [List.getElem?_set_self (by show _ < (List.set _ _ _).length; rw [List.length_set, hlen1]; omega)]
      rfl
    have body : denCs G lapBP ⟨[some (.int m), some (.cell n), some (.int (i : Nat)), x3, x4], cs ++ own⟩ = .nx ⟨[some (.int m), some (.cell (cs ++ own).length), some (.int (i : Nat)), some (.cell (cs ++ own).length), x4'], cs2⟩ := by
      refine (cons_nx (s' := ⟨[some (.int m), some (.cell n), some (.int (i : Nat)), some (.cell (cs ++ own).length), x4], cs ++ own ++ [(true, .lst [])]⟩) (by simp [denC, den, denL, setS, lowDs])).trans ?_
      refine (cons_nx (for_eq (ds := [.lst ((rowsN k).map rwD)]) (items := (rowsN k).map rwD) (s1 := ⟨[some (.int m), some (.cell n), some (.int (i : Nat)), some (.cell (cs ++ own).length), x4], cs1⟩) ?_ rfl e)).trans ?_
      · have h3 : (cs ++ own ++ [(true, D.lst [])])[n]? = some (true, .lst ((rowsN k).map rwD)) := by rw [List.getElem?_append_left hn]; exact h2
        simp only [denL, den, List.getElem?_cons_succ, List.getElem?_cons_zero, R.bind_ok, h3, E.isStar, Bool.false_eq_true, if_false]
        rfl
      · simp [denCs, denC, den, setS, cs2]
    have ih := lapsP (G := G) (m := m) is (k + 1) ⟨[some (.int m), some (.cell (cs ++ own).length), some (.int (i : Nat)), some (.cell (cs ++ own).length), x4'], cs2⟩ cs (by simp at hk ⊢; omega) ⟨(cs ++ own).length, cs2.drop cs.length, _, _, _, by rw [← hc2], by simp, by rw [← hc2]; exact hlast⟩
    obtain ⟨n', own', y2, y3, y4, e', h1', h2'⟩ := ih
    refine ⟨n', own', y2, y3, y4, ?_, h1', ?_⟩
    · rw [List.map_cons, forL]
      have hb : bindT (.name 2) (D.int (i : Nat)) [some (.int m), some (.cell n), x2, x3, x4] = some [some (.int m), some (.cell n), some (.int (i : Nat)), x3, x4] := by simp [bindT]
      simp only [hb, body]
      exact e'
    · rw [h2']
      have : k + 1 + is.length = k + (i :: is).length := by simp; omega
      rw [this]

theorem rows_bodyP {T : Tf} {d f : Nat} {df : Df} (hT : T f = some df) (hdf : df = ⟨1, 5, true, [.set 1 (.cel (.lst [(.tup [])])), .for (.name 2) .rng1 [(.var 0)] lapBP, .ret (.var 1)]⟩) {m : Int} (h0 : 0 ≤ m) (h1 : m ≤ 10) : Ret T (d + 1) f [.int m] (.lst ((rowsN m.toNat).map rwD)) :=
  .ofF hT (by rw [hdf]; rfl) (by rw [hdf]) (lows_rw 0 _) fun k cs hk => by
    subst hdf
    obtain ⟨n, own, x2, x3, x4, e, h2, h3⟩ := lapsP (G := callF T k) (m := m) (List.range m.toNat) 0 ⟨[some (.int m), some (.cell cs.length), none, none, none], cs ++ [(true, .lst ((rowsN 0).map rwD))]⟩ cs (by simp; omega) ⟨cs.length, _, _, _, _, rfl, Nat.le_refl _, by simp⟩
    simp only [List.length_range, Nat.zero_add] at h3
    refine ⟨n, own, h2, h3, ?_⟩
    refine (cons_nx (s' := ⟨[some (.int m), some (.cell cs.length), none, none, none], cs ++ [(true, .lst ((rowsN 0).map rwD))]⟩) (by simp [denC, den, denL, E.isStar, setS, lowDs, lowD, rowsN, rwD])).trans ?_
    refine (cons_nx (for_eq (ds := [.int m]) (items := rangeD 0 m) (s1 := ⟨[some (.int m), some (.cell cs.length), none, none, none], cs ++ [(true, .lst ((rowsN 0).map rwD))]⟩) (by simp [den, denL, E.isStar]) (by simp [srcD, rng_of h0 (by omega)]) (by rw [rangeD_0]; exact e))).trans ?_
    simp [denCs, denC, den]
theorem s_all_sides (hT : T 1214 = some d__law_all_sides) {m : Int} (h0 : 0 ≤ m) (h1 : m ≤ 10) : Ret T 1 1214 [.int m] (.lst ((rowsN m.toNat).map rwD)) := rows_bodyP hT rfl h0 h1
/-! twins -/
def twB (ov : Nat) : List C := [.set 3 (.call ov [(.var 0), (.var 2)]), .ite (.and (.cmp .lt (.var 2) (.var 3)) (.cmp .eq (.call ov [(.var 0), (.var 3)]) (.var 2))) [.exp (.meth .append (.var 1) [(.tup [(.var 2), (.var 3)])])] []]
def isTwin (n : Net) (a : List Int) : Bool := HT.lexLt a (overL n a) && decide (overL n (overL n a) = a)
def twP (n : Net) (a : List Int) : D := .tup [rwD a, rwD (overL n a)]
theorem low_tw (m : Nat) (n : Net) (a : List Int) : lowD m (twP n a) = true := by simp [twP, rwD, lowD, lowDs]
theorem lows_tw (m : Nat) (n : Net) (l : List (List Int)) : lowDs m (l.map (twP n)) = true := by
  rw [lows_iff]
  intro d hd
  obtain ⟨a, _, rfl⟩ := List.mem_map.mp hd
  exact low_tw m n a
theorem app_tw {cs : Cs} {n : Net} {L : List (List Int)} (r : List Int) (hl : L.length ≤ 100000) : methD .append (.cell cs.length) [twP n r] (cs ++ [(true, .lst (L.map (twP n)))]) = some (.non, cs ++ [(true, .lst ((L ++ [r]).map (twP n)))]) := by
  have hf : L.length + 1 ≤ 16777216 := by omega
  simp only [methD, end_get, List.length_map, fits_len, hf, decide_true, low_tw, Bool.and_self, if_true, end_set, List.map_append, List.map_cons, List.map_nil]
theorem tw_loop {G : Gf} {ov : Nat} {n : Net} (ho : ∀ r, sideOk n r → ∀ cs, G ov [netD n, rwD r] cs = some (rwD (overL n r), cs)) (cs : Cs) :
    ∀ (rs acc : List (List Int)) (x2 x3 : Option D), (∀ r ∈ rs, sideOk n r) → acc.length + rs.length ≤ 100000 →
      ∃ y2 y3, forL (.name 2) (denCs G (twB ov)) (rs.map rwD) ⟨[some (netD n), some (.cell cs.length), x2, x3], cs ++ [(true, .lst (acc.map (twP n)))]⟩ = .nx ⟨[some (netD n), some (.cell cs.length), y2, y3], cs ++ [(true, .lst ((acc ++ rs.filter (isTwin n)).map (twP n)))]⟩
  | [], acc, x2, x3, _, _ => ⟨x2, x3, by simp [forL]⟩
  | r :: rs, acc, x2, x3, hr, hl => by
    have hr0 := hr r List.mem_cons_self
    rw [List.length_cons] at hl
    have hb : bindT (.name 2) (rwD r) [some (netD n), some (.cell cs.length), x2, x3] = some [some (netD n), some (.cell cs.length), some (rwD r), x3] := by simp [bindT]
    have C := cs ++ [(true, .lst (acc.map (twP n)))]
    have a1 : denC G (.set 3 (.call ov [(.var 0), (.var 2)])) ⟨[some (netD n), some (.cell cs.length), some (rwD r), x3], cs ++ [(true, .lst (acc.map (twP n)))]⟩ = .nx ⟨[some (netD n), some (.cell cs.length), some (rwD r), some (rwD (overL n r))], cs ++ [(true, .lst (acc.map (twP n)))]⟩ :=
      (denC_set (den_call2 rfl rfl (den_var rfl) (den_var rfl) (ho r hr0 _)) (show 3 < 4 by decide)).trans rfl
    have t1 : den G (.and (.cmp .lt (.var 2) (.var 3)) (.cmp .eq (.call ov [(.var 0), (.var 3)]) (.var 2))) ⟨[some (netD n), some (.cell cs.length), some (rwD r), some (rwD (overL n r))], cs ++ [(true, .lst (acc.map (twP n)))]⟩ = .ok (.bl (isTwin n r)) ⟨[some (netD n), some (.cell cs.length), some (rwD r), some (rwD (overL n r))], cs ++ [(true, .lst (acc.map (twP n)))]⟩ :=
      and_b (den_cmp (den_var rfl) (den_var rfl) (by simp [rwD, cmpD])) fun _ => den_cmp (den_call2 rfl rfl (den_var rfl) (den_var rfl) (ho _ (overL_ok hr0) _)) (den_var rfl) (by rw [cmp_eq]; exact eq_tup _ _ _)
    cases q : isTwin n r with
    | false =>
      rw [q] at t1
      obtain ⟨y2, y3, e⟩ := tw_loop ho cs rs acc (some (rwD r)) (some (rwD (overL n r))) (fun u hu => hr u (List.mem_cons_of_mem _ hu)) (by omega)
      refine ⟨y2, y3, ?_⟩
      rw [List.map_cons, forL, List.filter_cons, q]
      have body : denCs G (twB ov) ⟨[some (netD n), some (.cell cs.length), some (rwD r), x3], cs ++ [(true, .lst (acc.map (twP n)))]⟩ = .nx ⟨[some (netD n), some (.cell cs.length), some (rwD r), some (rwD (overL n r))], cs ++ [(true, .lst (acc.map (twP n)))]⟩ :=
        (cons_nx a1).trans ((cons_nx ((ite_f t1).trans (by rw [denCs]))).trans (by rw [denCs]))
      simp only [hb, body, Bool.false_eq_true, if_false]
      exact e
    | true =>
      rw [q] at t1
      obtain ⟨y2, y3, e⟩ := tw_loop ho cs rs (acc ++ [r]) (some (rwD r)) (some (rwD (overL n r))) (fun u hu => hr u (List.mem_cons_of_mem _ hu)) (by simp; omega)
      refine ⟨y2, y3, ?_⟩
      rw [List.map_cons, forL, List.filter_cons, q]
      have body : denCs G (twB ov) ⟨[some (netD n), some (.cell cs.length), some (rwD r), x3], cs ++ [(true, .lst (acc.map (twP n)))]⟩ = .nx ⟨[some (netD n), some (.cell cs.length), some (rwD r), some (rwD (overL n r))], cs ++ [(true, .lst ((acc ++ [r]).map (twP n)))]⟩ :=
        (cons_nx a1).trans ((cons_nx ((ite_t t1).trans ((cons_nx (exp_meth rfl rfl (den_pairs rfl rfl (den_var rfl) (den_var rfl)) (app_tw r (by omega)))).trans (by rw [denCs])))).trans (by rw [denCs]))
      simp only [hb, body, if_true]
      rw [e]
      simp
def twinsD (n : Net) : D := .tup (((rowsN n.m.toNat).filter (isTwin n)).map (twP n))
theorem rows_few {n : Net} (hn : n.Ok) : (rowsN n.m.toNat).length ≤ 1024 := by
  have := hn.m10
  rw [rowsN_count]
  exact Nat.pow_le_pow_right (by decide) (show n.m.toNat ≤ 10 by omega)
theorem s_twins (N : StoT T) {n : Net} (hn : n.Ok) : Ret T 6 1221 [netD n] (twinsD n) :=
  .ofO N.h1221 rfl rfl (by rw [twinsD, lowD]; exact lows_tw 0 n _) fun k cs hk => by
    have hm := hn.m1
    have hm2 := hn.m10
    have few := rows_few hn
    obtain ⟨y2, y3, e⟩ := tw_loop (G := callF T k) (ov := 1218) (n := n) (fun r hr cs => s_over_of N hn hr k cs (by omega)) cs (rowsN n.m.toNat) [] none none (fun r hr => row_side hn hr) (by simp; omega)
    refine ⟨[(true, .lst (((rowsN n.m.toNat).filter (isTwin n)).map (twP n)))], ?_⟩
    show denCs (callF T k) d_twins.body ⟨[some (netD n), none, none, none], cs⟩ = _
    have e1 : ∀ cs, callF T k 6 [netD n] cs = some (.non, cs) := fun cs => s_check_net N.toGoT.toNetT hn k cs (by omega)
    have e2 : ∀ cs, callF T k 39 [.int n.m] cs = some (.lst ((rowsN n.m.toNat).map rwD), cs) := fun cs => s_rows_of N.h39 (by omega) (by omega) k cs (by omega)
    have p0 : denC (callF T k) (.exp (.call 6 [(.var 0)])) ⟨[some (netD n), none, none, none], cs⟩ = .nx ⟨[some (netD n), none, none, none], cs⟩ := by simp [denC, den, denL, E.isStar, e1]
    have p1 : denC (callF T k) (.set 1 (.cel (.lst []))) ⟨[some (netD n), none, none, none], cs⟩ = .nx ⟨[some (netD n), some (.cell cs.length), none, none], cs ++ [(true, .lst (([] : List (List Int)).map (twP n)))]⟩ := by simp [denC, den, denL, setS, lowDs]
    refine (cons_nx p0).trans ((cons_nx p1).trans ((cons_nx (for_eq (ds := [.lst ((rowsN n.m.toNat).map rwD)]) (items := (rowsN n.m.toNat).map rwD) (s1 := ⟨[some (netD n), some (.cell cs.length), none, none], cs ++ [(true, .lst (([] : List (List Int)).map (twP n)))]⟩) ?_ rfl e)).trans (cons_rt (ret_of (den_tup_cell rfl (end_get cs _))))))
    have e3 : ∀ C, ixD C (netD n) (.int 0) = some (.int n.m) := fun C => by simp [netD]
    simp [denL, den, E.isStar, e3, e2]
/-! judged alike -/
mutual
theorem plain_of_pyD : ∀ (d : D) (p : PyData), pyD d = some p → p.plain = true
  | .non, p, h => by simp [pyD] at h; subst h; rfl
  | .bl b, p, h => by simp [pyD] at h; subst h; rfl
  | .int i, p, h => by simp [pyD] at h; subst h; rfl
  | .str x, p, h => by
    simp only [pyD] at h
    split at h
    · cases h; rfl
    · cases h
  | .tup ds, p, h => by
    simp only [pyD, Option.map_eq_some_iff] at h
    obtain ⟨xs, h, rfl⟩ := h
    exact plain_of_pyDs ds xs h
  | .lst ds, p, h => by
    simp only [pyD, Option.map_eq_some_iff] at h
    obtain ⟨xs, h, rfl⟩ := h
    exact plain_of_pyDs ds xs h
  | .ro ds, p, h => by simp [pyD] at h
  | .cell n, p, h => by simp [pyD] at h
theorem plain_of_pyDs : ∀ (ds : List D) (xs : List PyData), pyDs ds = some xs → PyData.plainAll xs = true
  | [], xs, h => by simp [pyDs] at h; subst h; rfl
  | d :: ds, xs, h => by
    simp only [pyDs] at h
    split at h
    · rename_i x ys e1 e2
      cases h
      simp [PyData.plainAll, plain_of_pyD d x e1, plain_of_pyDs ds ys e2]
    · cases h
end
theorem RD.same {c dp : Nat} {d : D} (h : RD c dp d) (h2 : dp ≤ 64) (cs : Cs) : eqD cs d d = some true := by
  obtain ⟨p, e, r⟩ := h
  have hp : pyC cs d = some p := by
    cases d with
    | cell n => simp [pyD] at e
    | _ => exact e
  have dd := r.dep
  have sh : shal p = true := by simp only [shal, decide_eq_true_eq]; omega
  simp only [eqD, hp, sh, Bool.and_self, if_true, PySem.SeqAt.eqv_refl_plain p (plain_of_pyD d p e)]
theorem den_reprs3 {G : Gf} {a b c : E} {s : S} {d : D} {w dp : Nat} (h : RD w dp d) (h1 : w ≤ 16777216) (h2 : dp ≤ 64) (ha : a.isStar = false) (hb : b.isStar = false) (hc : c.isStar = false) (ea : den G a s = .ok d s) (eb : den G b s = .ok d s) (ec : den G c s = .ok d s) :
    den G (.cmp2 .eq .eq (.bi .repr [a]) (.bi .repr [b]) (.bi .repr [c])) s = .ok (.bl true) s := by
  obtain ⟨x, e, k⟩ := h.repr h1 h2 []
  have f1 : den G (.bi .repr [a]) s = .ok (.str x) s := den_bi1 ha ea (by rw [bi_repr', e])
  have f2 : den G (.bi .repr [b]) s = .ok (.str x) s := den_bi1 hb eb (by rw [bi_repr', e])
  have f3 : den G (.bi .repr [c]) s = .ok (.str x) s := den_bi1 hc ec (by rw [bi_repr', e])
  rw [den, f1]
  simp only [R.bind_ok, f2, f3, cmp_eq, eq_str _ k, Option.map_some, R.of_some]
/-! how great they are -/
theorem row_RD {n : Net} (hn : n.Ok) {s : List Int} (hs : sideOk n s) : RD 233 1 (rwD s) :=
  .row (fun v hv => by rcases hs.2 v hv with q | q <;> subst q <;> decide) (by have := hs.1; have := hn.m10; omega)
theorem storm_RD {n : Net} (hn : n.Ok) {s : List Int} (hs : sideOk n s) {J i : Nat} (A : Again n s J i) : RD 500000 3 (stormD n s J i) := by
  have each : ∀ d ∈ (stRows n s J).map rwD, RD 233 1 d := fun d hd => by
    obtain ⟨r, hr, rfl⟩ := List.mem_map.mp hd
    obtain ⟨t, _, rfl⟩ := List.mem_map.mp hr
    exact row_RD hn (stm_ok hs t)
  have hb := A.big
  have hl := A.le
  have q := RD.tup each
  rw [List.length_map, stRows_len] at q
  have q2 : RD 240878 2 (.tup ((stRows n s J).map rwD)) := q.mono (by omega) (Nat.le_refl _)
  have q3 : RD 240878 2 (.int (i : Nat)) := (RD.int (by omega)).mono (by decide) (by decide)
  exact (RD.pair q2 q3).mono (by decide) (Nat.le_refl _)
theorem twins_RD {n : Net} (hn : n.Ok) : RD 500000 3 (twinsD n) := by
  have each : ∀ d ∈ ((rowsN n.m.toNat).filter (isTwin n)).map (twP n), RD 473 2 d := fun d hd => by
    obtain ⟨r, hr, rfl⟩ := List.mem_map.mp hd
    have hr := row_side hn (List.mem_filter.mp hr).1
    exact (RD.pair (row_RD hn hr) (row_RD hn (overL_ok hr))).mono (by decide) (Nat.le_refl _)
  have few := rows_few hn
  have q := RD.tup each
  have l := List.length_filter_le (isTwin n) (rowsN n.m.toNat)
  rw [List.length_map] at q
  exact q.mono (by omega) (Nat.le_refl _)
theorem both_RD {n : Net} (hn : n.Ok) (hz : n.ts.length ≤ 200) {a b : List Int} (ha : sideOk n a) (hb : sideOk n b) : RD 21 0 (.int (both n a b)) := by
  refine .int ?_
  have key : ∀ l : List Nat, (∀ h ∈ l, h < n.m.toNat) → ((l.map fun h : Nat => sideAt b (h : Int) * pull n a (h : Int)).sum).natAbs ≤ 200 * l.length := by
    intro l
    induction l with
    | nil => intro _; exact Nat.le_refl _
    | cons h l ih =>
      intro q
      have ih := ih fun u hu => q u (List.mem_cons_of_mem _ hu)
      have h1 := q h List.mem_cons_self
      have p1 := pull_small hn ha (h : Int)
      have p2 := side_pm hb (i := (h : Int)) (by omega) (by omega)
      rw [List.map_cons, List.sum_cons, List.length_cons]
      have : (sideAt b (h : Int) * pull n a (h : Int)).natAbs ≤ 200 := by
        rcases p2 with p2 | p2 <;> rw [p2] <;> omega
      omega
  have k := key (List.range n.m.toNat) fun h hh => List.mem_range.mp hh
  have := hn.m10
  rw [List.length_range] at k
  unfold both
  omega
/-! one storm -/
theorem zip_next (g : Nat → D) (k : Nat) : List.zipWith (fun x y => D.tup [x, y]) ((List.range (k + 1)).map g) (((List.range (k + 1)).map g).drop 1) = (List.range k).map fun t => .tup [g t, g (t + 1)] := by
  refine List.ext_getElem (by simp) fun i h1 h2 => ?_
  simp [Nat.add_comm]
structure K48T (T : Tf) : Prop extends StoT T where
  h1114 : T 1114 = some (pot5 1000187 4733 613 73019 6871 977)
  h1115 : T 1115 = some (take5 2147482763 2147482739 2147482697 2147482693 2147482681 77659 1381 8093 271 2305843009213693907 167)
  h1116 : T 1116 = some (ofDf 1115)
  h1117 : T 1117 = some cellsDf
  h1118 : T 1118 = some pairsDf
  h1119 : T 1119 = some (net5Df 1115 1116 1118)
  h1203 : T 1203 = some (sides5Df 1116)
  h1134 : T 1134 = some d__law_lot_12
  h1226 : T 1226 = some d__law_is_storm_right
  h1227 : T 1227 = some d__law_are_twins_right
  h1228 : T 1228 = some d__law_is_switched_right
  h1229 : T 1229 = some d_law_47
theorem K48T.drw (N : K48T T) : Drw T 1115 := drw5 N.h1115 ⟨by decide, by decide, by decide, by decide, by decide, by decide, by decide, by decide, by decide, by decide, by decide⟩
theorem s_twright (N : K48T T) {n : Net} (hn : n.Ok) : Ret T 7 1227 [netD n] (.bl true) :=
  .ofO N.h1227 rfl rfl (by simp [lowD]) fun k cs hk => by
    have hm := hn.m1
    have hm2 := hn.m10
    have few := rows_few hn
    obtain ⟨y2, y3, e⟩ := tw_loop (G := callF T k) (ov := 1223) (n := n) (fun r hr cs => l_over N.toStoT hn hr k cs (by omega)) cs (rowsN n.m.toNat) [] none none (fun r hr => row_side hn hr) (by simp; omega)
    refine ⟨[(true, .lst (((rowsN n.m.toNat).filter (isTwin n)).map (twP n)))], ?_⟩
    show denCs (callF T k) d__law_are_twins_right.body ⟨[some (netD n), none, none, none], cs⟩ = _
    have e1 : ∀ cs, callF T k 1221 [netD n] cs = some (twinsD n, cs) := fun cs => s_twins N.toStoT hn k cs (by omega)
    have e2 : ∀ cs, callF T k 1214 [.int n.m] cs = some (.lst ((rowsN n.m.toNat).map rwD), cs) := fun cs => s_all_sides N.h1214 (by omega) (by omega) k cs (by omega)
    have p1 : denC (callF T k) (.set 1 (.cel (.lst []))) ⟨[some (netD n), none, none, none], cs⟩ = .nx ⟨[some (netD n), some (.cell cs.length), none, none], cs ++ [(true, .lst (([] : List (List Int)).map (twP n)))]⟩ := by simp [denC, den, denL, setS, lowDs]
    refine (cons_nx p1).trans ((cons_nx (for_eq (ds := [.lst ((rowsN n.m.toNat).map rwD)]) (items := (rowsN n.m.toNat).map rwD) (s1 := ⟨[some (netD n), some (.cell cs.length), none, none], cs ++ [(true, .lst (([] : List (List Int)).map (twP n)))]⟩) ?_ rfl e)).trans (cons_rt (ret_of (den_reprs (twins_RD hn) (by decide) (by decide) rfl rfl (den_call1 rfl (den_var rfl) (e1 _)) (den_tup_cell rfl (end_get cs _))))))
    have e3 : ∀ C, ixD C (netD n) (.int 0) = some (.int n.m) := fun C => by simp [netD]
    simp [denL, den, E.isStar, e3, e2]
theorem s_stright (N : K48T T) {n : Net} (hn : n.Ok) (hz : n.ts.length ≤ 200) {s : List Int} (hs : sideOk n s) : Ret T 8 1226 [netD n, rwD s] (.bl true) :=
  .of N.h1226 rfl rfl (by simp [lowD]) fun k cs hk => by
    obtain ⟨J, i, A⟩ := again_ex hn hs
    have hb := A.big
    have hl := A.le
    have bk := A.back hn hs
    have e1 : ∀ cs, callF T k 1220 [netD n, rwD s] cs = some (stormD n s J i, cs) := fun cs => s_storm N.toStoT hn hs A k cs (by omega)
    have e2 : ∀ cs, callF T k 1224 [netD n, rwD s] cs = some (stormD n s J i, cs) := fun cs => l_storm N.toStoT hn hs A k cs (by omega)
    have e3 : ∀ cs, callF T k 1219 [netD n, rwD s] cs = some (rwD (overL n s), cs) := fun cs => s_all_over N.toStoT hn hs k cs (by omega)
    have e4 : ∀ cs, callF T k 1223 [netD n, rwD s] cs = some (rwD (overL n s), cs) := fun cs => l_over N.toStoT hn hs k cs (by omega)
    have e5 : ∀ {a b : List Int} (ha : sideOk n a) (hb : sideOk n b) cs, callF T k 1222 [netD n, rwD a, rwD b] cs = some (.int (both n a b), cs) := fun ha hb cs => s_both N.toStoT hn ha hb k cs (by omega)
    have e6 : ∀ {a b : List Int} (ha : sideOk n a) (hb : sideOk n b) cs, callF T k 1225 [netD n, rwD a, rwD b] cs = some (.int (both n a b), cs) := fun ha hb cs => l_both N.toStoT hn ha hb k cs (by omega)
    show denCs (callF T k) d__law_is_storm_right.body ⟨[some (netD n), some (rwD s), none, none, none, none, none, none, none, none, none], cs⟩ = _
    let RW : D := .tup ((stRows n s J).map rwD)
    let g : Nat → D := fun t => rwD (stm n s t)
    let Et : Nat → Int := fun t => both n (stm n s t) (stm n s (t + 1))
    let s2 : List (Option D) := [some (netD n), some (rwD s), some (stormD n s J i), none, none, none, none, none, none, none, none]
    let s4 : List (Option D) := [some (netD n), some (rwD s), some (stormD n s J i), some RW, some (.int (i : Nat)), none, none, none, none, none, none]
    let s5 : List (Option D) := [some (netD n), some (rwD s), some (stormD n s J i), some RW, some (.int (i : Nat)), some (.lst ((List.range (J + 2)).map g)), none, none, none, none, none]
    let s6 : List (Option D) := [some (netD n), some (rwD s), some (stormD n s J i), some RW, some (.int (i : Nat)), some (.lst ((List.range (J + 2)).map g)), some (.lst ((List.range (J + 1)).map fun t => .int (Et t))), none, none, none, none]
    have a1 : denC (callF T k) (.set 2 (.call 1220 [(.var 0), (.var 1)])) ⟨[some (netD n), some (rwD s), none, none, none, none, none, none, none, none, none], cs⟩ = .nx ⟨s2, cs⟩ :=
      (denC_set (den_call2 rfl rfl (den_var rfl) (den_var rfl) (e1 cs)) (show 2 < 11 by decide)).trans rfl
    have a2 : denC (callF T k) (.ite (.or (.cmp .ne (.bi .repr [(.var 2)]) (.bi .repr [(.call 1224 [(.var 0), (.var 1)])])) (.cmp .ne (.bi .repr [(.call 1219 [(.var 0), (.var 1)])]) (.bi .repr [(.call 1223 [(.var 0), (.var 1)])]))) [.ret (.kbl false)] []) ⟨s2, cs⟩ = .nx ⟨s2, cs⟩ := by
      have b1 : den (callF T k) (.cmp .ne (.bi .repr [(.var 2)]) (.bi .repr [(.call 1224 [(.var 0), (.var 1)])])) ⟨s2, cs⟩ = .ok (.bl false) ⟨s2, cs⟩ := den_unlike (storm_RD hn hs A) (by decide) (by decide) rfl rfl (den_var rfl) (den_call2 rfl rfl (den_var rfl) (den_var rfl) (e2 cs))
      have b2 : den (callF T k) (.cmp .ne (.bi .repr [(.call 1219 [(.var 0), (.var 1)])]) (.bi .repr [(.call 1223 [(.var 0), (.var 1)])])) ⟨s2, cs⟩ = .ok (.bl false) ⟨s2, cs⟩ := den_unlike (row_RD hn (overL_ok hs)) (by decide) (by decide) rfl rfl (den_call2 rfl rfl (den_var rfl) (den_var rfl) (e3 cs)) (den_call2 rfl rfl (den_var rfl) (den_var rfl) (e4 cs))
      exact (ite_f (or_b b1 fun _ => b2)).trans (by rw [denCs])
    have a3 : denC (callF T k) (.setT (.tup [(.name 3), (.name 4)]) (.var 2)) ⟨s2, cs⟩ = .nx ⟨s4, cs⟩ := denC_setT (den_var rfl) rfl
    have lenR : den (callF T k) (.bi .len [(.var 3)]) ⟨s4, cs⟩ = .ok (.int ((J : Int) + 1)) ⟨s4, cs⟩ :=
      den_bi1 rfl (den_var rfl) (by show lenD cs (.tup ((stRows n s J).map rwD)) = _; rw [len_tup, List.length_map, stRows_len]; rfl)
    have a4 : denC (callF T k) (.ite (.cmp .notin (.bin .sub (.bi .len [(.var 3)]) (.var 4)) (.tup [(.kint 1), (.kint 2)])) [.ret (.kbl false)] []) ⟨s4, cs⟩ = .nx ⟨s4, cs⟩ := by
      refine (ite_f (den_cmp (x := .int ((J : Int) + 1 - i)) (y := .tup [.int 1, .int 2]) (den_bin lenR (den_var rfl) rfl) (den_pairs rfl rfl den_kint den_kint) ?_)).trans (by rw [denCs])
      rw [cmp_nin, in_two]
      have : (J : Int) + 1 - i = 1 ∨ (J : Int) + 1 - i = 2 := by omega
      simp [this]
    have rowsW : (List.range (J + 2)).map g = ((stRows n s J) ++ [stm n s i]).map rwD := by
      rw [← A.eq, ← stRows_next]
      unfold stRows
      rw [List.map_map]
      rfl
    have a5 : denC (callF T k) (.set 5 (.bin .add (.bi .list [(.var 3)]) (.lst [(.idx (.var 3) (.var 4))]))) ⟨s4, cs⟩ = .nx ⟨s5, cs⟩ := by
      have t1 : den (callF T k) (.bi .list [(.var 3)]) ⟨s4, cs⟩ = .ok (.lst ((stRows n s J).map rwD)) ⟨s4, cs⟩ := den_bi1 rfl (den_var rfl) rfl
      have hi : L2.atI ((stRows n s J).map rwD) ((i : Nat) : Int) = some (rwD (stm n s i)) := by
        unfold L2.atI L2.ixN
        rw [if_pos (by omega), if_pos (by rw [List.length_map, stRows_len]; omega)]
        simp [stRows_get n s A.le]
      have t2 : den (callF T k) (.lst [(.idx (.var 3) (.var 4))]) ⟨s4, cs⟩ = .ok (.lst [rwD (stm n s i)]) ⟨s4, cs⟩ := by
        have : den (callF T k) (.idx (.var 3) (.var 4)) ⟨s4, cs⟩ = .ok (rwD (stm n s i)) ⟨s4, cs⟩ := den_idx (den_var rfl) (den_var rfl) hi
        rw [den]
        simp [denL, this, E.isStar]
      refine (denC_set (den_bin t1 t2 (d := .lst ((List.range (J + 2)).map g)) ?_) (show 5 < 11 by decide)).trans rfl
      rw [rowsW]
      have : (stRows n s J).length + 1 ≤ 16777216 := by rw [stRows_len]; omega
      simp [binD, this]
    have cut : den (callF T k) (.sl (.var 5) (some (.kint 1)) none) ⟨s5, cs⟩ = .ok (.lst (((List.range (J + 2)).map g).drop 1)) ⟨s5, cs⟩ := by
      rw [den, den_var (d := .lst ((List.range (J + 2)).map g)) rfl]
      simp [denO, den]
    have a6 : denC (callF T k) (.set 6 (.lc (.call 1225 [(.var 0), (.var 7), (.var 8)]) (.tup [(.name 7), (.name 8)]) .zip [(.var 5), (.sl (.var 5) (some (.kint 1)) none)] [] [7, 8])) ⟨s5, cs⟩ = .nx ⟨s6, cs⟩ := by
      refine (denC_set (den_lc (ds := [.lst ((List.range (J + 2)).map g), .lst (((List.range (J + 2)).map g).drop 1)]) (items := (List.range (J + 1)).map fun t => .tup [g t, g (t + 1)]) (ys := (List.range (J + 1)).map fun t => .int (Et t)) ?_ (by rw [srcD, zip_next]) ?_) (show 6 < 11 by decide)).trans rfl
      · simp only [denL, den_var (G := callF T k) (i := 5) (s := ⟨s5, cs⟩) (d := .lst ((List.range (J + 2)).map g)) rfl, cut, E.isStar, R.bind_ok, Bool.false_eq_true, if_false]
      · refine (lcL_map (enc := fun t : Nat => D.tup [g t, g (t + 1)]) (fun t => [some (netD n), some (rwD s), some (stormD n s J i), some RW, some (.int (i : Nat)), some (.lst ((List.range (J + 2)).map g)), none, some (g t), some (g (t + 1)), none, none]) (fun t => .int (Et t)) fun t ht => ⟨by simp [bindT, bindTs, wipeS, s5], ?_⟩).trans (by rw [List.nil_append])
        exact den_call3 rfl rfl rfl (den_var rfl) (den_var rfl) (den_var rfl) (e6 (stm_ok hs t) (stm_ok hs (t + 1)) cs)
    have cut6 : den (callF T k) (.sl (.var 6) (some (.kint 1)) none) ⟨s6, cs⟩ = .ok (.lst (((List.range (J + 1)).map fun t => D.int (Et t)).drop 1)) ⟨s6, cs⟩ := by
      rw [den, den_var (d := .lst ((List.range (J + 1)).map fun t => .int (Et t))) rfl]
      simp [denO, den]
    have a7 : denC (callF T k) (.ite (.bi .any [(.lc (.cmp .lt (.var 10) (.var 9)) (.tup [(.name 9), (.name 10)]) .zip [(.var 6), (.sl (.var 6) (some (.kint 1)) none)] [] [9, 10])]) [.ret (.kbl false)] []) ⟨s6, cs⟩ = .nx ⟨s6, cs⟩ := by
      have q := den_lc (G := callF T k) (elt := .cmp .lt (.var 10) (.var 9)) (tg := .tup [(.name 9), (.name 10)]) (k := .zip) (ss := [(.var 6), (.sl (.var 6) (some (.kint 1)) none)]) (ifs := []) (own := [9, 10]) (s := ⟨s6, cs⟩) (ds := [.lst ((List.range (J + 1)).map fun t => .int (Et t)), .lst (((List.range (J + 1)).map fun t => .int (Et t)).drop 1)]) (items := (List.range J).map fun t => .tup [.int (Et t), .int (Et (t + 1))]) (ys := ((List.range J).map fun _ => false).map .bl) (cs' := cs) ?_ (by rw [srcD, zip_next fun t => D.int (Et t)]) ?_
      · refine (ite_f (den_bi1 (d := .bl false) rfl q ?_)).trans (by rw [denCs])
        show anyD (.lst _) = _
        rw [anyD, bools_map]
        simp
      · simp only [denL, den_var (G := callF T k) (i := 6) (s := ⟨s6, cs⟩) (d := .lst ((List.range (J + 1)).map fun t => .int (Et t))) rfl, cut6, E.isStar, R.bind_ok, Bool.false_eq_true, if_false]
      · refine (lcL_map (enc := fun t : Nat => D.tup [.int (Et t), .int (Et (t + 1))]) (fun t => [some (netD n), some (rwD s), some (stormD n s J i), some RW, some (.int (i : Nat)), some (.lst ((List.range (J + 2)).map g)), some (.lst ((List.range (J + 1)).map fun t => .int (Et t))), none, none, some (.int (Et t)), some (.int (Et (t + 1)))]) (fun t => .bl false) fun t ht => ⟨by simp [bindT, bindTs, wipeS, s6], ?_⟩).trans (by rw [List.nil_append, List.map_map]; rfl)
        refine den_cmp (den_var rfl) (den_var rfl) ?_
        have := E_le hn hs t
        rw [cmp_lt]
        have : ¬ Et (t + 1) < Et t := by show ¬ both n (stm n s (t + 1)) (stm n s (t + 2)) < both n (stm n s t) (stm n s (t + 1)); omega
        simp [this]
    have cut5 : den (callF T k) (.sl (.var 5) (some (.kint 1)) none) ⟨s6, cs⟩ = .ok (.lst (((List.range (J + 2)).map g).drop 1)) ⟨s6, cs⟩ := by
      rw [den, den_var (d := .lst ((List.range (J + 2)).map g)) rfl]
      simp [denO, den]
    have a8 : den (callF T k) (.lc (.cmp2 .eq .eq (.bi .repr [(.call 1222 [(.var 0), (.var 7), (.var 8)])]) (.bi .repr [(.call 1225 [(.var 0), (.var 7), (.var 8)])]) (.bi .repr [(.call 1225 [(.var 0), (.var 8), (.var 7)])])) (.tup [(.name 7), (.name 8)]) .zip [(.var 5), (.sl (.var 5) (some (.kint 1)) none)] [] [7, 8]) ⟨s6, cs⟩ = .ok (.lst (((List.range (J + 1)).map fun _ => true).map .bl)) ⟨s6, cs⟩ := by
      refine den_lc (ds := [.lst ((List.range (J + 2)).map g), .lst (((List.range (J + 2)).map g).drop 1)]) (items := (List.range (J + 1)).map fun t => .tup [g t, g (t + 1)]) ?_ (by rw [srcD, zip_next]) ?_
      · simp only [denL, den_var (G := callF T k) (i := 5) (s := ⟨s6, cs⟩) (d := .lst ((List.range (J + 2)).map g)) rfl, cut5, E.isStar, R.bind_ok, Bool.false_eq_true, if_false]
      · refine (lcL_map (enc := fun t : Nat => D.tup [g t, g (t + 1)]) (fun t => [some (netD n), some (rwD s), some (stormD n s J i), some RW, some (.int (i : Nat)), some (.lst ((List.range (J + 2)).map g)), some (.lst ((List.range (J + 1)).map fun t => .int (Et t))), some (g t), some (g (t + 1)), none, none]) (fun t => .bl true) fun t ht => ⟨by simp [bindT, bindTs, wipeS, s6], ?_⟩).trans (by rw [List.nil_append, List.map_map]; rfl)
        have o1 := stm_ok hs t
        have o2 := stm_ok hs (t + 1)
        exact den_reprs3 (both_RD hn hz o1 o2) (by decide) (by decide) rfl rfl rfl (den_call3 rfl rfl rfl (den_var rfl) (den_var rfl) (den_var rfl) (e5 o1 o2 cs)) (den_call3 rfl rfl rfl (den_var rfl) (den_var rfl) (den_var rfl) (e6 o1 o2 cs)) (by rw [both_comm hn]; exact den_call3 rfl rfl rfl (den_var rfl) (den_var rfl) (den_var rfl) (e6 o2 o1 cs))
    have a9 := den_all rfl a8
    have al : (((List.range (J + 1)).map fun _ => true).all id) = true := by simp
    rw [al] at a9
    exact (cons_nx a1).trans ((cons_nx a2).trans ((cons_nx a3).trans ((cons_nx a4).trans ((cons_nx a5).trans ((cons_nx a6).trans ((cons_nx a7).trans (cons_rt (ret_of a9))))))))
end Ev

set_option Elab.async false
set_option linter.all false
set_option maxRecDepth 100000
set_option maxHeartbeats 2000000
set_option autoImplicit false
/-! Storms: switched nets, the law. -/
namespace Ev
open PySem Dd
variable {T : Tf}
/-! a drawn lot -/
theorem lc_taken {G : Gf} {test : M D} {sl : List (Option D)} {v n : Nat} {cs own : Cs} (hv : v < sl.length)
    (he : ∀ (d : D) (p : Pot) (c : Int), p.Ok c → c ≤ 9999 → ∃ (x : Bool) (p' : Pot), test ⟨sl.set v (some d), cs.set n (true, potD p) ++ own⟩ = .ok (.bl x) ⟨sl.set v (some d), cs.set n (true, potD p') ++ own⟩ ∧ p'.Ok (c + 1)) :
    ∀ (is : List Nat) (p : Pot) (c : Int) (acc : List D), p.Ok c → c + is.length ≤ 9999 →
      ∃ (vs : List Nat) (p' : Pot), lcL sl (.name v) test (den G (.var v)) (is.map fun i => .int (i : Nat)) acc (cs.set n (true, potD p) ++ own) = some (acc ++ vs.map fun i => .int (i : Nat), cs.set n (true, potD p') ++ own) ∧ p'.Ok (c + is.length) ∧ vs.Sublist is
  | [], p, c, acc, hp, _ => ⟨[], p, by simp [lcL], hp.mono (by simp), .slnil⟩
  | i :: is, p, c, acc, hp, hc => by
    rw [List.length_cons] at hc
    obtain ⟨x, p1, e1, hp1⟩ := he (.int (i : Nat)) p c hp (by omega)
    have hb : bindT (.name v) (D.int (i : Nat)) sl = some (sl.set v (some (.int (i : Nat)))) := by simp [bindT, hv]
    cases x with
    | true =>
      obtain ⟨vs, p', e, h1, h2⟩ := lc_taken (G := G) hv he is p1 (c + 1) (acc ++ [.int (i : Nat)]) hp1 (by omega)
      refine ⟨i :: vs, p', ?_, h1.mono (by rw [List.length_cons]; omega), h2.cons_cons i⟩
      rw [List.map_cons, lcL]
      have hd : den G (.var v) ⟨sl.set v (some (.int (i : Nat))), cs.set n (true, potD p1) ++ own⟩ = .ok (.int (i : Nat)) ⟨sl.set v (some (.int (i : Nat))), cs.set n (true, potD p1) ++ own⟩ := den_var (by simp [hv])
      simp only [hb, e1, hd]
      rw [e]
      simp
    | false =>
      obtain ⟨vs, p', e, h1, h2⟩ := lc_taken (G := G) hv he is p1 (c + 1) acc hp1 (by omega)
      refine ⟨vs, p', ?_, h1.mono (by rw [List.length_cons]; omega), h2.cons i⟩
      rw [List.map_cons, lcL]
      simp only [hb, e1]
      rw [e]
theorem asc_pairX : ∀ {l : List Int}, l.Pairwise (· < ·) → asc (fun a b => decide (a < b)) l = true
  | [], _ => rfl
  | [_], _ => rfl
  | a :: b :: r, h => by
    rw [asc, asc_pairX (List.pairwise_cons.mp h).2]
    simp [(List.pairwise_cons.mp h).1 b List.mem_cons_self]
theorem lot_of {m : Int} {vs : List Nat} (h : vs.Sublist (List.range m.toNat)) : lotOk m (vs.map fun i : Nat => (i : Int)) := by
  refine ⟨fun v hv => ?_, asc_pairX (List.pairwise_map.mpr ((List.pairwise_lt_range.sublist h).imp fun {a b} q => by omega))⟩
  obtain ⟨i, hi, rfl⟩ := List.mem_map.mp hv
  have := List.mem_range.mp (h.subset hi)
  omega
theorem s_lot48 (N : K48T T) {p : Pot} {c : Int} (hp : p.Ok c) {m : Int} (h0 : 0 ≤ m) (h1 : m ≤ 100) (hc : c + m ≤ 9000) {k n : Nat} (hk : 3 ≤ k) {cs : Cs} (hn : n < cs.length) (own : Cs) :
    ∃ (l : List Int) (p' : Pot), callF T k 1134 [.cell n, .int m] (cs.set n (true, potD p) ++ own) = some (.tup (l.map .int), cs.set n (true, potD p') ++ own) ∧ p'.Ok (c + m) ∧ lotOk m l := by
  cases k with
  | zero => omega
  | succ k =>
    obtain ⟨vs, p', e, h2, h3⟩ := lc_taken (G := callF T k) (test := denI (callF T k) [(.cmp .eq (.call 1115 [(.var 0), (.kint 2)]) (.kint 0))]) (sl := [some (.cell n), some (.int m), none]) (v := 2) (n := n) (cs := cs) (own := own) (by simp) (fun d p c hp hc => by
      obtain ⟨x, p', x0, x1, hp', e⟩ := N.drw.apps hp (by omega) (u := 2) (by omega) (by omega) (k := k) (by omega) hn own
      refine ⟨decide (x = 0), p', ?_, hp'⟩
      rw [denI]
      exact den_cmp (den_call2 (x := .cell n) (y := .int 2) (s2 := ⟨[some (.cell n), some (.int m), some d], cs.set n (true, potD p) ++ own⟩) rfl rfl (den_var rfl) den_kint e) den_kint (cmp_eqi _ x 0)) (List.range m.toNat) p c [] hp (by simp; omega)
    simp only [List.length_range] at h2
    refine ⟨vs.map fun i : Nat => (i : Int), p', ?_, h2.mono (by omega), lot_of h3⟩
    rw [callF, N.h1134]
    have key : denCs (callF T k) d__law_lot_12.body ⟨[some (.cell n), some (.int m), none], cs.set n (true, potD p) ++ own⟩ = .rt (.tup ((vs.map fun i : Nat => (i : Int)).map .int)) (cs.set n (true, potD p') ++ own) := by
      refine cons_rt (ret_of (s1 := ⟨[some (.cell n), some (.int m), none], cs.set n (true, potD p') ++ own⟩) (den_tup rfl (den_lc (ds := [.int m]) (items := rangeD 0 m) (by simp [den, denL, E.isStar]) (by rw [srcD]; exact rng_of h0 (by omega)) ?_)))
      rw [rangeD_0]
      rw [List.nil_append] at e
      rw [List.map_map]
      exact e
    have hd : List.map some [D.cell n, D.int m] ++ List.replicate (d__law_lot_12.ns - d__law_lot_12.np) none = [some (.cell n), some (.int m), none] := rfl
    have hl : [D.cell n, D.int m].length = d__law_lot_12.np := rfl
    have hf : d__law_lot_12.fr = false := rfl
    have low : lowD (cs.set n (true, potD p) ++ own).length (.tup ((vs.map fun i : Nat => (i : Int)).map .int)) = true := by rw [lowD]; exact lows_ints _ _
    simp only [hl, if_true, hd, key, hf, outD, low]
    rw [List.take_of_length_le (by simp)]
/-! switched -/
theorem switch_okX {n : Net} (hn : n.Ok) (l : List Int) : (switchN n l).Ok := switch_ok hn l
theorem s_swright (N : K48T T) {n : Net} (hn : n.Ok) {p : Pot} {c : Int} (hp : p.Ok c) (hc : c + 100 ≤ 9000) {k i : Nat} (hk : 9 ≤ k) {cs : Cs} (hi : i < cs.length) :
    ∃ p', p'.Ok (c + 20) ∧ callF T (k + 1) 1228 [.cell i, netD n] (cs.set i (true, potD p)) = some (.bl true, cs.set i (true, potD p')) := by
  have hm := hn.m1
  have hm2 := hn.m10
  obtain ⟨l, p1, e1, hp1, hl⟩ := s_lot48 N hp (m := n.m) (by omega) (by omega) (by omega) (k := k) (by omega) hi []
  obtain ⟨s, p2, e2, hp2, ls, vs⟩ := s_sides5 N.drw N.h1116 N.h1203 hp1 (m := n.m) (by omega) (by omega) (by omega) (k := k) (by omega) hi []
  have hs : sideOk n s := ⟨ls, vs⟩
  simp only [List.append_nil] at e1 e2
  refine ⟨p2, hp2.mono (by omega), ?_⟩
  obtain ⟨J, j, A⟩ := again_ex hn hs
  have A2 := again_sg hn hs l A
  have f1 : ∀ C, callF T k 1220 [netD n, rwD s] C = some (stormD n s J j, C) := fun C => s_storm N.toStoT hn hs A k C (by omega)
  have f2 : ∀ C, callF T k 1220 [netD (switchN n l), rwD (turnedAt s l)] C = some (stormD (switchN n l) (turnedAt s l) J j, C) := fun C => s_storm N.toStoT (switch_ok hn l) (switch_side hs l) A2 k C (by omega)
  have f3 : ∀ C, callF T k 22 [netD n, rwD l] C = some (netD (switchN n l), C) := fun C => s_switched N.toSwT hn hl k C (by omega)
  have f4 : ∀ r C, callF T k 1206 [rwD r, rwD l] C = some (rwD (turnedAt r l), C) := fun r C => l_goneT N.h1206 r (IsLot.tup (l := l)) k C (by omega)
  let C0 := cs.set i (true, potD p)
  let C1 := cs.set i (true, potD p1)
  let C2 := cs.set i (true, potD p2)
  let s0 : List (Option D) := [some (.cell i), some (netD n), none, none, none, none, none]
  let s3 : List (Option D) := [some (.cell i), some (netD n), some (rwD l), some (rwD s), none, none, none]
  let R2 : D := .tup ((stRows (switchN n l) (turnedAt s l) J).map rwD)
  let s5 : List (Option D) := [some (.cell i), some (netD n), some (rwD l), some (rwD s), some R2, some (.int (j : Nat)), none]
  have m0 : ∀ (sl : List (Option D)) C, sl[1]? = some (some (netD n)) → den (callF T k) (.idx (.var 1) (.kint 0)) ⟨sl, C⟩ = .ok (.int n.m) ⟨sl, C⟩ := fun sl C h => den_idx (den_var h) den_kint (by simp [netD])
  have t1 : den (callF T k) (.tup [(.call 1134 [(.var 0), (.idx (.var 1) (.kint 0))]), (.call 1203 [(.var 0), (.idx (.var 1) (.kint 0))])]) ⟨s0, C0⟩ = .ok (.tup [rwD l, rwD s]) ⟨s0, C2⟩ :=
    den_pairs rfl rfl (den_call2 rfl rfl (den_var rfl) (m0 s0 C0 rfl) e1) (den_call2 rfl rfl (den_var rfl) (m0 s0 C1 rfl) e2)
  have a1 : denC (callF T k) (.setT (.tup [(.name 2), (.name 3)]) (.tup [(.call 1134 [(.var 0), (.idx (.var 1) (.kint 0))]), (.call 1203 [(.var 0), (.idx (.var 1) (.kint 0))])])) ⟨s0, C0⟩ = .nx ⟨s3, C2⟩ := denC_setT t1 rfl
  have y1 : den (callF T k) (.call 22 [(.var 1), (.var 2)]) ⟨s3, C2⟩ = .ok (netD (switchN n l)) ⟨s3, C2⟩ := den_call2 rfl rfl (den_var rfl) (den_var rfl) (f3 C2)
  have y2 : den (callF T k) (.call 1206 [(.var 3), (.var 2)]) ⟨s3, C2⟩ = .ok (rwD (turnedAt s l)) ⟨s3, C2⟩ := den_call2 rfl rfl (den_var rfl) (den_var rfl) (f4 s C2)
  have t2 : den (callF T k) (.call 1220 [(.call 22 [(.var 1), (.var 2)]), (.call 1206 [(.var 3), (.var 2)])]) ⟨s3, C2⟩ = .ok (stormD (switchN n l) (turnedAt s l) J j) ⟨s3, C2⟩ :=
    den_call2 rfl rfl y1 y2 (f2 C2)
  have a2 : denC (callF T k) (.setT (.tup [(.name 4), (.name 5)]) (.call 1220 [(.call 22 [(.var 1), (.var 2)]), (.call 1206 [(.var 3), (.var 2)])])) ⟨s3, C2⟩ = .nx ⟨s5, C2⟩ := denC_setT t2 rfl
  have t3 : den (callF T k) (.lc (.call 1206 [(.var 6), (.var 2)]) (.name 6) .seq [(.var 4)] [] [6]) ⟨s5, C2⟩ = .ok (.lst ((stRows n s J).map rwD)) ⟨s5, C2⟩ := by
    refine den_lc (ds := [R2]) (items := (stRows (switchN n l) (turnedAt s l) J).map rwD) (by simp [den, denL, E.isStar, s5]) rfl ?_
    refine (lcL_map (enc := rwD) (fun r => [some (.cell i), some (netD n), some (rwD l), some (rwD s), some R2, some (.int (j : Nat)), some (rwD r)]) (fun r => rwD (turnedAt r l)) fun r hr => ⟨by simp [bindT, wipeS, s5], den_call2 rfl rfl (den_var rfl) (den_var rfl) (f4 r C2)⟩).trans ?_
    rw [List.nil_append]
    congr 2
    unfold stRows
    rw [List.map_map, List.map_map]
    refine List.map_congr_left fun t _ => ?_
    simp only [Function.comp_def]
    rw [stm_sg hn hs, turn_twice (stm_ok hs t)]
  have t4 : den (callF T k) (.cmp .eq (.tup [(.bi .tuple [(.lc (.call 1206 [(.var 6), (.var 2)]) (.name 6) .seq [(.var 4)] [] [6])]), (.var 5)]) (.call 1220 [(.var 1), (.var 3)])) ⟨s5, C2⟩ = .ok (.bl true) ⟨s5, C2⟩ :=
    den_cmp (x := stormD n s J j) (y := stormD n s J j) (den_pairs rfl rfl (den_tup rfl t3) (den_var rfl)) (den_call2 rfl rfl (den_var rfl) (den_var rfl) (f1 C2)) (by rw [cmp_eq]; exact (storm_RD hn hs A).same (by decide) _)
  rw [callF, N.h1228]
  have key : denCs (callF T k) d__law_is_switched_right.body ⟨s0, C0⟩ = .rt (.bl true) C2 := (cons_nx a1).trans ((cons_nx a2).trans (cons_rt (ret_of t4)))
  have hd : List.map some [D.cell i, netD n] ++ List.replicate (d__law_is_switched_right.ns - d__law_is_switched_right.np) none = s0 := rfl
  have hl2 : [D.cell i, netD n].length = d__law_is_switched_right.np := rfl
  have hf : d__law_is_switched_right.fr = false := rfl
  simp only [hl2, if_true, hd, hf]
  rw [show cs.set i (true, potD p) = C0 from rfl, key]
  simp only [outD, lowD, if_true]
  rw [List.take_of_length_le (by simp [C0, C2])]
/-! the law -/
theorem net48 (N : K48T T) {k i : Nat} (hk : 10 ≤ k) {cs : Cs} (hi : i < cs.length) {lo hi' : Int} (l0 : 1 ≤ lo) (l1 : lo ≤ hi') (l2 : hi' ≤ 10) {p : Pot} {c : Int} (hp : p.Ok c) (hc : c + 500 ≤ 9000) :
    ∃ n p', n.Ok ∧ n.ts.length ≤ 200 ∧ p'.Ok (c + 301) ∧ ∀ sl : List (Option D), sl[2]? = some (some (.cell i)) → den (callF T k) (.call 1119 [(.var 2), (.kint lo), (.kint hi'), (.call 1115 [(.var 2), (.kint 3)])]) ⟨sl, cs.set i (true, potD p)⟩ = .ok (netD n) ⟨sl, cs.set i (true, potD p')⟩ := by
  obtain ⟨v, p1, v0, v1, hp1, e1⟩ := N.drw.apps hp (by omega) (u := 3) (by omega) (by omega) (k := k) (by omega) hi []
  obtain ⟨m, L, p2, e2, hp2, m0, m1, hL, lL⟩ := s_net5 N.drw N.h1116 N.h1118 N.h1119 hp1 (by omega) l0 l1 l2 (way := v) (k := k) (by omega) hi []
  simp only [List.append_nil] at e1 e2
  refine ⟨netOf m L, p2, netOf_ok (by omega) (by omega) hL, Nat.le_trans (netOf_len m L) (by omega), hp2.mono (by omega), fun sl h2 => ?_⟩
  simp [den, denL, E.isStar, h2, e1, e2]
theorem net48w (N : K48T T) {k i : Nat} (hk : 10 ≤ k) {cs : Cs} (hi : i < cs.length) {lo hi' w : Int} (l0 : 1 ≤ lo) (l1 : lo ≤ hi') (l2 : hi' ≤ 10) {p : Pot} {c : Int} (hp : p.Ok c) (hc : c + 500 ≤ 9000) :
    ∃ n p', n.Ok ∧ p'.Ok (c + 300) ∧ ∀ sl : List (Option D), sl[2]? = some (some (.cell i)) → den (callF T k) (.call 1119 [(.var 2), (.kint lo), (.kint hi'), (.kint w)]) ⟨sl, cs.set i (true, potD p)⟩ = .ok (netD n) ⟨sl, cs.set i (true, potD p')⟩ := by
  obtain ⟨m, L, p2, e2, hp2, m0, m1, hL, lL⟩ := s_net5 N.drw N.h1116 N.h1118 N.h1119 hp (by omega) l0 l1 l2 (way := w) (k := k) (by omega) hi []
  simp only [List.append_nil] at e2
  refine ⟨netOf m L, p2, netOf_ok (by omega) (by omega) hL, hp2.mono (by omega), fun sl h2 => ?_⟩
  simp [den, denL, E.isStar, h2, e2]
theorem den_or2 {G : Gf} {a b : E} {s s1 s2 : S} {q : Bool} (h1 : den G a s = .ok (.bl false) s1) (h2 : den G b s1 = .ok (.bl q) s2) : den G (.or a b) s = .ok (.bl q) s2 := by
  rw [den, h1]
  exact h2
abbrev big48 : List C := [.set 3 (.call 1119 [(.var 2), (.kint 6), (.kint 10), (.call 1115 [(.var 2), (.kint 3)])]), .ite (.or (.not (.call 1226 [(.var 3), (.call 1203 [(.var 2), (.idx (.var 3) (.kint 0))])])) (.not (.call 1228 [(.var 2), (.var 3)]))) [.ret (.kbl false)] []]
theorem big_lap (N : K48T T) {k i : Nat} (hk : 11 ≤ k) {cs : Cs} (hi : i < cs.length) (x0 x1 x3 x4 x5 : Option D) {p : Pot} {c : Int} (hp : p.Ok c) (hc : c + 1000 ≤ 9000) :
    ∃ x3' p', p'.Ok (c + 400) ∧ denCs (callF T k) big48 ⟨[x0, x1, some (.cell i), x3, x4, x5], cs.set i (true, potD p)⟩ = .nx ⟨[x0, x1, some (.cell i), x3', x4, x5], cs.set i (true, potD p')⟩ := by
  obtain ⟨n, p1, hn, hz, hp1, e1⟩ := net48 N (k := k) (by omega) hi (lo := 6) (hi' := 10) (by omega) (by omega) (by omega) hp (by omega)
  have hm := hn.m1
  have hm2 := hn.m10
  obtain ⟨s, p2, e2, hp2, ls, vs⟩ := s_sides5 N.drw N.h1116 N.h1203 hp1 (m := n.m) (by omega) (by omega) (by omega) (k := k) (by omega) hi []
  have hs : sideOk n s := ⟨ls, vs⟩
  simp only [List.append_nil] at e2
  cases k with
  | zero => omega
  | succ k =>
    obtain ⟨p3, hp3, e3⟩ := s_swright N hn hp2 (by omega) (k := k) (by omega) hi
    refine ⟨some (netD n), p3, hp3.mono (by omega), ?_⟩
    have a1 : denC (callF T (k + 1)) (.set 3 (.call 1119 [(.var 2), (.kint 6), (.kint 10), (.call 1115 [(.var 2), (.kint 3)])])) ⟨[x0, x1, some (.cell i), x3, x4, x5], cs.set i (true, potD p)⟩ = .nx ⟨[x0, x1, some (.cell i), some (netD n), x4, x5], cs.set i (true, potD p1)⟩ :=
      (denC_set (e1 _ rfl) (show 3 < 6 by decide)).trans rfl
    let s3 : List (Option D) := [x0, x1, some (.cell i), some (netD n), x4, x5]
    have m0 : den (callF T (k + 1)) (.idx (.var 3) (.kint 0)) ⟨s3, cs.set i (true, potD p1)⟩ = .ok (.int n.m) ⟨s3, cs.set i (true, potD p1)⟩ := den_idx (den_var (d := netD n) rfl) den_kint (by simp [netD])
    have t1 : den (callF T (k + 1)) (.call 1203 [(.var 2), (.idx (.var 3) (.kint 0))]) ⟨s3, cs.set i (true, potD p1)⟩ = .ok (rwD s) ⟨s3, cs.set i (true, potD p2)⟩ := den_call2 rfl rfl (den_var rfl) m0 e2
    have t2 : den (callF T (k + 1)) (.call 1226 [(.var 3), (.call 1203 [(.var 2), (.idx (.var 3) (.kint 0))])]) ⟨s3, cs.set i (true, potD p1)⟩ = .ok (.bl true) ⟨s3, cs.set i (true, potD p2)⟩ := den_call2 rfl rfl (den_var rfl) t1 (s_stright N hn hz hs (k + 1) _ (by omega))
    have t3 : den (callF T (k + 1)) (.call 1228 [(.var 2), (.var 3)]) ⟨s3, cs.set i (true, potD p2)⟩ = .ok (.bl true) ⟨s3, cs.set i (true, potD p3)⟩ := den_call2 rfl rfl (den_var rfl) (den_var rfl) e3
    exact (cons_nx a1).trans ((cons_nx ((ite_f (den_or2 (den_not t2) (den_not t3))).trans (by rw [denCs]))).trans (by rw [denCs]))
theorem s_law48 (N : K48T T) (ns : List Int) {k : Nat} (hk : 11 ≤ k) : callF T (k + 1) 1229 [.ro (ns.map .int)] [] = some (.bl true, []) := by
  obtain ⟨w, hw, eC⟩ := s_cells5 N.h1117 ns (q := 3) (by decide)
  let B : List C := [.set 2 (.cel (.call 1114 [(.var 0), (.var 1)])), .set 3 (.call 1119 [(.var 2), (.kint 1), (.kint 5), (.call 1115 [(.var 2), (.kint 3)])]), .ite (.or (.not (.bi .all [(.lc (.call 1226 [(.var 3), (.var 5)]) (.name 5) .seq [(.call 1214 [(.idx (.var 3) (.kint 0))])] [] [5])])) (.not (.call 1227 [(.var 3)]))) [.ret (.kbl false)] [], .for (.name 4) .rng1 [(.kint 3)] big48, .ite (.not (.call 1227 [(.call 1119 [(.var 2), (.kint 6), (.kint 7), (.kint 2)])])) [.ret (.kbl false)] []]
  have key := forL_inv (enc := fun i : Nat => D.int (i : Int)) (t := .name 1) (b := denCs (callF T k) B) (fun (_ : Unit) st => ∃ x1 x2 x3 x4 x5 cs, st = ⟨[some (.ro (ns.map .int)), x1, x2, x3, x4, x5], cs⟩) (fun _ _ => ()) (xs := List.range w) (acc := ()) (s := ⟨[some (.ro (ns.map .int)), none, none, none, none, none], []⟩) ?_ ⟨_, _, _, _, _, _, rfl⟩
  · obtain ⟨s', e, x1, x2, x3, x4, x5, cs, rfl⟩ := key
    have e0 := eC k [] (by omega)
    have hb : denCs (callF T k) d_law_47.body ⟨[some (.ro (ns.map .int)), none, none, none, none, none], []⟩ = .rt (.bl true) cs := by
      refine (cons_nx (for_eq (ds := [.lst ((List.range w).map fun i => .int (i : Nat))]) (items := (List.range w).map fun i => .int (i : Nat)) (s1 := ⟨[some (.ro (ns.map .int)), none, none, none, none, none], []⟩) ?_ rfl e)).trans ?_
      · have e0' : callF T k 1117 [.ro (ns.map .int), .int 3] [] = _ := e0
        simp [den, denL, E.isStar, e0']
      · simp [denCs, denC, den]
    rw [callF, N.h1229]
    have hd : List.map some [D.ro (ns.map .int)] ++ List.replicate (d_law_47.ns - d_law_47.np) none = [some (.ro (ns.map .int)), none, none, none, none, none] := rfl
    have hl : [D.ro (ns.map .int)].length = d_law_47.np := rfl
    have hf : d_law_47.fr = false := rfl
    simp only [hl, if_true, hd, hb, hf, outD, lowD, List.length_nil, List.take_zero]
  · rintro i hi acc st ⟨x1, x2, x3, x4, x5, cs, rfl⟩
    have hi := List.mem_range.mp hi
    obtain ⟨p, hp, eP⟩ := s_pot5 N.h1114 (by decide) (by decide) (by decide) (by decide) ns (j := i) (by omega)
    have eP' := eP k cs (by omega)
    have lp : ∀ m, lowDs m [D.int p.a, .int p.b, .int p.c] = true := fun m => by simp [lowDs, lowD]
    obtain ⟨c0, ec0⟩ : ∃ c0 : Cs, c0 = cs ++ [(true, potD p)] := ⟨_, rfl⟩
    have hn : cs.length < c0.length := by rw [ec0]; simp
    have here : c0.set cs.length (true, potD p) = c0 := by rw [ec0]; exact set_last cs _ _
    let X0 : Option D := some (.ro (ns.map .int))
    let X1 : Option D := some (.int (i : Nat))
    let X2 : Option D := some (.cell cs.length)
    have a1 : denC (callF T k) (.set 2 (.cel (.call 1114 [(.var 0), (.var 1)]))) ⟨[X0, X1, x2, x3, x4, x5], cs⟩ = .nx ⟨[X0, X1, X2, x3, x4, x5], c0.set cs.length (true, potD p)⟩ := by
      rw [here, ec0]
      simp only [denC, denL, den, E.isStar, List.getElem?_cons_succ, List.getElem?_cons_zero, R.bind_ok, Bool.false_eq_true, if_false, eP', potD, lp, if_true, X0, X1, X2]
      rfl
    obtain ⟨n, p1, ok, hz, hp1, e1⟩ := net48 N (k := k) (by omega) hn (lo := 1) (hi' := 5) (by omega) (by omega) (by omega) hp (by omega)
    have hm := ok.m1
    have hm2 := ok.m10
    have a2 : denC (callF T k) (.set 3 (.call 1119 [(.var 2), (.kint 1), (.kint 5), (.call 1115 [(.var 2), (.kint 3)])])) ⟨[X0, X1, X2, x3, x4, x5], c0.set cs.length (true, potD p)⟩ = .nx ⟨[X0, X1, X2, some (netD n), x4, x5], c0.set cs.length (true, potD p1)⟩ :=
      (denC_set (e1 _ rfl) (show 3 < 6 by decide)).trans rfl
    let s3 : List (Option D) := [X0, X1, X2, some (netD n), x4, x5]
    let C1 := c0.set cs.length (true, potD p1)
    have m0 : den (callF T k) (.idx (.var 3) (.kint 0)) ⟨s3, C1⟩ = .ok (.int n.m) ⟨s3, C1⟩ := den_idx (den_var (d := netD n) rfl) den_kint (by simp [netD])
    have rws : den (callF T k) (.call 1214 [(.idx (.var 3) (.kint 0))]) ⟨s3, C1⟩ = .ok (.lst ((rowsN n.m.toNat).map rwD)) ⟨s3, C1⟩ := den_call1 rfl m0 (s_all_sides N.h1214 (by omega) (by omega) k C1 (by omega))
    have lc : den (callF T k) (.lc (.call 1226 [(.var 3), (.var 5)]) (.name 5) .seq [(.call 1214 [(.idx (.var 3) (.kint 0))])] [] [5]) ⟨s3, C1⟩ = .ok (.lst (((rowsN n.m.toNat).map fun _ => true).map .bl)) ⟨s3, C1⟩ := by
      refine den_lc (ds := [.lst ((rowsN n.m.toNat).map rwD)]) (by simp only [denL, rws, E.isStar, R.bind_ok, Bool.false_eq_true, if_false]) rfl ?_
      refine (lcL_map (enc := rwD) (fun r => [X0, X1, X2, some (netD n), x4, some (rwD r)]) (fun r => .bl true) fun r hr => ⟨by simp [bindT, wipeS, s3], ?_⟩).trans (by rw [List.nil_append, List.map_map]; rfl)
      exact den_call2 rfl rfl (den_var rfl) (den_var rfl) (s_stright N ok hz (row_side ok hr) k C1 (by omega))
    have al : (((rowsN n.m.toNat).map fun _ => true).all id) = true := by simp
    have b1 := den_not (den_all rfl lc)
    rw [al] at b1
    have b2 : den (callF T k) (.call 1227 [(.var 3)]) ⟨s3, C1⟩ = .ok (.bl true) ⟨s3, C1⟩ := den_call1 rfl (den_var rfl) (s_twright N ok k C1 (by omega))
    have a3 : denC (callF T k) (.ite (.or (.not (.bi .all [(.lc (.call 1226 [(.var 3), (.var 5)]) (.name 5) .seq [(.call 1214 [(.idx (.var 3) (.kint 0))])] [] [5])])) (.not (.call 1227 [(.var 3)]))) [.ret (.kbl false)] []) ⟨s3, C1⟩ = .nx ⟨s3, C1⟩ :=
      (ite_f (den_or2 b1 (den_not b2))).trans (by rw [denCs])
    obtain ⟨y1, q1, hq1, f1⟩ := big_lap N (k := k) (by omega) hn X0 X1 (some (netD n)) (some (.int 0)) x5 hp1 (by omega)
    obtain ⟨y2, q2, hq2, f2⟩ := big_lap N (k := k) (by omega) hn X0 X1 y1 (some (.int 1)) x5 hq1 (by omega)
    obtain ⟨y3, q3, hq3, f3⟩ := big_lap N (k := k) (by omega) hn X0 X1 y2 (some (.int 2)) x5 hq2 (by omega)
    have hr : srcD .rng1 [.int 3] = some [.int 0, .int 1, .int 2] := rfl
    have hl : forL (.name 4) (denCs (callF T k) big48) [.int 0, .int 1, .int 2] ⟨s3, C1⟩ = .nx ⟨[X0, X1, X2, y3, some (.int 2), x5], c0.set cs.length (true, potD q3)⟩ := by
      have b : ∀ (d : D) x y, bindT (.name 4) d [X0, X1, X2, y, x, x5] = some [X0, X1, X2, y, some d, x5] := fun d x y => by simp [bindT]
      simp only [forL, b, s3, C1, X2, f1, f2, f3]
    have a4 : denC (callF T k) (.for (.name 4) .rng1 [(.kint 3)] big48) ⟨s3, C1⟩ = .nx ⟨[X0, X1, X2, y3, some (.int 2), x5], c0.set cs.length (true, potD q3)⟩ := for_eq (ds := [.int 3]) (by simp [denL, den, E.isStar]) hr hl
    obtain ⟨n2, q4, ok2, hq4, e4⟩ := net48w N (k := k) (by omega) hn (lo := 6) (hi' := 7) (w := 2) (by omega) (by omega) (by omega) hq3 (by omega)
    have a5 : denC (callF T k) (.ite (.not (.call 1227 [(.call 1119 [(.var 2), (.kint 6), (.kint 7), (.kint 2)])])) [.ret (.kbl false)] []) ⟨[X0, X1, X2, y3, some (.int 2), x5], c0.set cs.length (true, potD q3)⟩ = .nx ⟨[X0, X1, X2, y3, some (.int 2), x5], c0.set cs.length (true, potD q4)⟩ :=
      (ite_f (den_not (den_call1 rfl (e4 _ rfl) (s_twright N ok2 k _ (by omega))))).trans (by rw [denCs])
    exact ⟨[X0, X1, x2, x3, x4, x5], ⟨[X0, X1, X2, y3, some (.int 2), x5], c0.set cs.length (true, potD q4)⟩, by simp [bindT, X0, X1], (cons_nx a1).trans ((cons_nx a2).trans ((cons_nx a3).trans ((cons_nx a4).trans ((cons_nx a5).trans (by rw [denCs]))))), _, _, _, _, _, _, rfl⟩
end Ev

set_option Elab.async false
set_option linter.all false
set_option maxRecDepth 100000
set_option maxHeartbeats 1000000
set_option autoImplicit false
namespace K48
open Ev PySem Dd
def tb : Tb := ⟨[(0, ("is_integer" : Str), d_is_integer), (1, ("is_between" : Str), d_is_between), (2, ("are_between" : Str), d_are_between), (3, ("is_ascending" : Str), d_is_ascending), (4, ("is_tie" : Str), d_is_tie), (5, ("is_net" : Str), d_is_net), (6, ("check_net" : Str), d_check_net), (7, ("is_lot_of" : Str), d_is_lot_of), (8, ("check_lot" : Str), d_check_lot), (9, ("net_by" : Str), d_net_by), (16, ("are_sides" : Str), d_are_sides), (17, ("check_sides" : Str), d_check_sides), (31, ("pull_of" : Str), d_pull_of), (32, ("pulls_of" : Str), d_pulls_of), (33, ("check_at" : Str), d_check_at), (34, ("wanting_of" : Str), d_wanting_of), (36, ("gone_by" : Str), d_gone_by), (39, ("rows_of" : Str), d_rows_of), (1218, ("over_of" : Str), d_over_of), (1219, ("all_over" : Str), d_all_over), (1220, ("storm" : Str), d_storm), (1221, ("twins" : Str), d_twins), (1222, ("both_pulls" : Str), d_both_pulls), (21, ("switched_at" : Str), d_switched_at), (22, ("switched" : Str), d_switched), (1114, ("_law_pot" : Str), d__law_pot_39), (1115, ("_law_take" : Str), d__law_take_39), (1116, ("_law_of" : Str), d__law_of_36), (1117, ("_law_cells" : Str), d__law_cells_2), (1118, ("_law_pairs" : Str), d__law_pairs), (1119, ("_law_net" : Str), d__law_net_29), (1134, ("_law_lot" : Str), d__law_lot_12), (1214, ("_law_all_sides" : Str), d__law_all_sides), (1203, ("_law_sides" : Str), d__law_sides_2), (1205, ("_law_pull" : Str), d__law_pull), (1206, ("_law_gone" : Str), d__law_gone), (1223, ("_law_over" : Str), d__law_over), (1224, ("_law_storm" : Str), d__law_storm), (1225, ("_law_both" : Str), d__law_both), (1226, ("_law_is_storm_right" : Str), d__law_is_storm_right), (1227, ("_law_are_twins_right" : Str), d__law_are_twins_right), (1228, ("_law_is_switched_right" : Str), d__law_is_switched_right), (1229, ("law" : Str), d_law_47)],
  [(("MOST_HOUSES" : Str), 10), (("THREE" : Str), 3)],
  ["abs", "all", "any", "bool", "enumerate", "int", "isinstance", "len", "list", "max", "min", "range", "repr", "set", "sorted", "sum", "tuple", "zip"],
  [],
  []⟩
def stAt (i : Nat) : Stmt := PySem.Challenge.pw_amongfoes_k48_whole_storms_of_houses.main.body.getD i (.Pass ⟨0, 0, 0, 0⟩)
def n_is_integer : List Str := ["value"]
def n_is_between : List Str := ["value", "low", "high"]
def n_are_between : List Str := ["value", "low", "high", "one"]
def n_is_ascending : List Str := ["items", "one", "other"]
def n_is_tie : List Str := ["many", "value"]
def n_is_net : List Str := ["value", "tie"]
def n_check_net : List Str := ["value"]
def n_is_lot_of : List Str := ["many", "value"]
def n_check_lot : List Str := ["net", "value"]
def n_net_by : List Str := ["many", "ties"]
def n_are_sides : List Str := ["net", "value", "one"]
def n_check_sides : List Str := ["net", "value"]
def n_pull_of : List Str := ["net", "sides", "house", "found", "one", "other", "sign"]
def n_pulls_of : List Str := ["net", "sides", "house"]
def n_check_at : List Str := ["net", "sides"]
def n_wanting_of : List Str := ["net", "sides", "house", "number"]
def n_gone_by : List Str := ["sides", "lot", "house", "side"]
def n_rows_of : List Str := ["many", "found", "lap", "longer", "row"]
def n_over_of : List Str := ["net", "sides"]
def n_all_over : List Str := ["net", "sides"]
def n_storm : List Str := ["net", "sides", "rows", "later"]
def n_twins : List Str := ["net", "found", "one", "other"]
def n_both_pulls : List Str := ["net", "one", "other", "side", "number"]
def n_switched_at : List Str := ["net", "lot", "ties", "one", "other", "sign"]
def n_switched : List Str := ["net", "lot"]
def n__law_pot : List Str := ["script", "place", "cell", "own", "small"]
def n__law_take : List Str := ["pot", "upto", "prime", "blend", "digit"]
def n__law_of : List Str := ["pot", "some"]
def n__law_cells : List Str := ["script", "most"]
def n__law_pairs : List Str := ["many", "found", "one", "other"]
def n__law_net : List Str := ["pot", "low", "high", "way", "many", "ties", "rare", "pair", "sign"]
def n__law_lot : List Str := ["pot", "many", "house"]
def n__law_all_sides : List Str := ["many", "found", "house", "later", "sides"]
def n__law_sides : List Str := ["pot", "many", "house"]
def n__law_pull : List Str := ["net", "sides", "house", "found", "one", "other", "sign"]
def n__law_gone : List Str := ["sides", "lot", "house", "side"]
def n__law_over : List Str := ["net", "sides", "house", "side"]
def n__law_storm : List Str := ["net", "sides", "rows", "lap", "later"]
def n__law_both : List Str := ["net", "one", "other", "house"]
def n__law_is_storm_right : List Str := ["net", "sides", "told", "rows", "back", "ways", "numbers", "one", "other", "number", "later"]
def n__law_are_twins_right : List Str := ["net", "found", "one", "other"]
def n__law_is_switched_right : List Str := ["pot", "net", "lot", "sides", "rows", "back", "row"]
def n_law : List Str := ["script", "place", "pot", "net", "lap", "sides"]
def rows : List Row := [(stAt 6, n_is_integer), (stAt 7, n_is_between), (stAt 8, n_are_between), (stAt 9, n_is_ascending), (stAt 13, n_is_tie), (stAt 14, n_is_net), (stAt 15, n_check_net), (stAt 16, n_is_lot_of), (stAt 17, n_check_lot), (stAt 18, n_net_by), (stAt 20, n_are_sides), (stAt 21, n_check_sides), (stAt 23, n_pull_of), (stAt 24, n_pulls_of), (stAt 25, n_check_at), (stAt 26, n_wanting_of), (stAt 27, n_gone_by), (stAt 29, n_rows_of), (stAt 31, n_over_of), (stAt 32, n_all_over), (stAt 33, n_storm), (stAt 34, n_twins), (stAt 35, n_both_pulls), (stAt 37, n_switched_at), (stAt 38, n_switched), (stAt 40, n__law_pot), (stAt 41, n__law_take), (stAt 42, n__law_of), (stAt 43, n__law_cells), (stAt 44, n__law_pairs), (stAt 45, n__law_net), (stAt 46, n__law_lot), (stAt 47, n__law_all_sides), (stAt 48, n__law_sides), (stAt 49, n__law_pull), (stAt 50, n__law_gone), (stAt 51, n__law_over), (stAt 52, n__law_storm), (stAt 53, n__law_both), (stAt 54, n__law_is_storm_right), (stAt 55, n__law_are_twins_right), (stAt 56, n__law_is_switched_right), (stAt 57, n_law)]
theorem c_is_integer : chkRow tb d_is_integer (stAt 6, n_is_integer) = true := by decide +kernel
theorem b_is_integer : BindOk "is_integer" (stAt 6) ((stAt 6, n_is_integer).2.take 1) := fun _ _ _ _ _ _ us hl => match us, hl with | [_], _ => rfl
theorem kb_is_integer : KbAll "is_integer" (stAt 6) ((stAt 6, n_is_integer).2.take 1) (tb.kbs 0) := trivial
theorem c_is_between : chkRow tb d_is_between (stAt 7, n_is_between) = true := by decide +kernel
theorem b_is_between : BindOk "is_between" (stAt 7) ((stAt 7, n_is_between).2.take 3) := fun _ _ _ _ _ _ us hl => match us, hl with | [_, _, _], _ => rfl
theorem kb_is_between : KbAll "is_between" (stAt 7) ((stAt 7, n_is_between).2.take 3) (tb.kbs 1) := trivial
theorem c_are_between : chkRow tb d_are_between (stAt 8, n_are_between) = true := by decide +kernel
theorem b_are_between : BindOk "are_between" (stAt 8) ((stAt 8, n_are_between).2.take 3) := fun _ _ _ _ _ _ us hl => match us, hl with | [_, _, _], _ => rfl
theorem kb_are_between : KbAll "are_between" (stAt 8) ((stAt 8, n_are_between).2.take 3) (tb.kbs 2) := trivial
theorem c_is_ascending : chkRow tb d_is_ascending (stAt 9, n_is_ascending) = true := by decide +kernel
theorem b_is_ascending : BindOk "is_ascending" (stAt 9) ((stAt 9, n_is_ascending).2.take 1) := fun _ _ _ _ _ _ us hl => match us, hl with | [_], _ => rfl
theorem kb_is_ascending : KbAll "is_ascending" (stAt 9) ((stAt 9, n_is_ascending).2.take 1) (tb.kbs 3) := trivial
theorem c_is_tie : chkRow tb d_is_tie (stAt 13, n_is_tie) = true := by decide +kernel
theorem b_is_tie : BindOk "is_tie" (stAt 13) ((stAt 13, n_is_tie).2.take 2) := fun _ _ _ _ _ _ us hl => match us, hl with | [_, _], _ => rfl
theorem kb_is_tie : KbAll "is_tie" (stAt 13) ((stAt 13, n_is_tie).2.take 2) (tb.kbs 4) := trivial
theorem c_is_net : chkRow tb d_is_net (stAt 14, n_is_net) = true := by decide +kernel
theorem b_is_net : BindOk "is_net" (stAt 14) ((stAt 14, n_is_net).2.take 1) := fun _ _ _ _ _ _ us hl => match us, hl with | [_], _ => rfl
theorem kb_is_net : KbAll "is_net" (stAt 14) ((stAt 14, n_is_net).2.take 1) (tb.kbs 5) := trivial
theorem c_check_net : chkRow tb d_check_net (stAt 15, n_check_net) = true := by decide +kernel
theorem b_check_net : BindOk "check_net" (stAt 15) ((stAt 15, n_check_net).2.take 1) := fun _ _ _ _ _ _ us hl => match us, hl with | [_], _ => rfl
theorem kb_check_net : KbAll "check_net" (stAt 15) ((stAt 15, n_check_net).2.take 1) (tb.kbs 6) := trivial
theorem c_is_lot_of : chkRow tb d_is_lot_of (stAt 16, n_is_lot_of) = true := by decide +kernel
theorem b_is_lot_of : BindOk "is_lot_of" (stAt 16) ((stAt 16, n_is_lot_of).2.take 2) := fun _ _ _ _ _ _ us hl => match us, hl with | [_, _], _ => rfl
theorem kb_is_lot_of : KbAll "is_lot_of" (stAt 16) ((stAt 16, n_is_lot_of).2.take 2) (tb.kbs 7) := trivial
theorem c_check_lot : chkRow tb d_check_lot (stAt 17, n_check_lot) = true := by decide +kernel
theorem b_check_lot : BindOk "check_lot" (stAt 17) ((stAt 17, n_check_lot).2.take 2) := fun _ _ _ _ _ _ us hl => match us, hl with | [_, _], _ => rfl
theorem kb_check_lot : KbAll "check_lot" (stAt 17) ((stAt 17, n_check_lot).2.take 2) (tb.kbs 8) := trivial
theorem c_net_by : chkRow tb d_net_by (stAt 18, n_net_by) = true := by decide +kernel
theorem b_net_by : BindOk "net_by" (stAt 18) ((stAt 18, n_net_by).2.take 2) := fun _ _ _ _ _ _ us hl => match us, hl with | [_, _], _ => rfl
theorem kb_net_by : KbAll "net_by" (stAt 18) ((stAt 18, n_net_by).2.take 2) (tb.kbs 9) := trivial
theorem c_are_sides : chkRow tb d_are_sides (stAt 20, n_are_sides) = true := by decide +kernel
theorem b_are_sides : BindOk "are_sides" (stAt 20) ((stAt 20, n_are_sides).2.take 2) := fun _ _ _ _ _ _ us hl => match us, hl with | [_, _], _ => rfl
theorem kb_are_sides : KbAll "are_sides" (stAt 20) ((stAt 20, n_are_sides).2.take 2) (tb.kbs 16) := trivial
theorem c_check_sides : chkRow tb d_check_sides (stAt 21, n_check_sides) = true := by decide +kernel
theorem b_check_sides : BindOk "check_sides" (stAt 21) ((stAt 21, n_check_sides).2.take 2) := fun _ _ _ _ _ _ us hl => match us, hl with | [_, _], _ => rfl
theorem kb_check_sides : KbAll "check_sides" (stAt 21) ((stAt 21, n_check_sides).2.take 2) (tb.kbs 17) := trivial
theorem c_pull_of : chkRow tb d_pull_of (stAt 23, n_pull_of) = true := by decide +kernel
theorem b_pull_of : BindOk "pull_of" (stAt 23) ((stAt 23, n_pull_of).2.take 3) := fun _ _ _ _ _ _ us hl => match us, hl with | [_, _, _], _ => rfl
theorem kb_pull_of : KbAll "pull_of" (stAt 23) ((stAt 23, n_pull_of).2.take 3) (tb.kbs 31) := trivial
theorem c_pulls_of : chkRow tb d_pulls_of (stAt 24, n_pulls_of) = true := by decide +kernel
theorem b_pulls_of : BindOk "pulls_of" (stAt 24) ((stAt 24, n_pulls_of).2.take 2) := fun _ _ _ _ _ _ us hl => match us, hl with | [_, _], _ => rfl
theorem kb_pulls_of : KbAll "pulls_of" (stAt 24) ((stAt 24, n_pulls_of).2.take 2) (tb.kbs 32) := trivial
theorem c_check_at : chkRow tb d_check_at (stAt 25, n_check_at) = true := by decide +kernel
theorem b_check_at : BindOk "check_at" (stAt 25) ((stAt 25, n_check_at).2.take 2) := fun _ _ _ _ _ _ us hl => match us, hl with | [_, _], _ => rfl
theorem kb_check_at : KbAll "check_at" (stAt 25) ((stAt 25, n_check_at).2.take 2) (tb.kbs 33) := trivial
theorem c_wanting_of : chkRow tb d_wanting_of (stAt 26, n_wanting_of) = true := by decide +kernel
theorem b_wanting_of : BindOk "wanting_of" (stAt 26) ((stAt 26, n_wanting_of).2.take 2) := fun _ _ _ _ _ _ us hl => match us, hl with | [_, _], _ => rfl
theorem kb_wanting_of : KbAll "wanting_of" (stAt 26) ((stAt 26, n_wanting_of).2.take 2) (tb.kbs 34) := trivial
theorem c_gone_by : chkRow tb d_gone_by (stAt 27, n_gone_by) = true := by decide +kernel
theorem b_gone_by : BindOk "gone_by" (stAt 27) ((stAt 27, n_gone_by).2.take 2) := fun _ _ _ _ _ _ us hl => match us, hl with | [_, _], _ => rfl
theorem kb_gone_by : KbAll "gone_by" (stAt 27) ((stAt 27, n_gone_by).2.take 2) (tb.kbs 36) := trivial
theorem c_rows_of : chkRow tb d_rows_of (stAt 29, n_rows_of) = true := by decide +kernel
theorem b_rows_of : BindOk "rows_of" (stAt 29) ((stAt 29, n_rows_of).2.take 1) := fun _ _ _ _ _ _ us hl => match us, hl with | [_], _ => rfl
theorem kb_rows_of : KbAll "rows_of" (stAt 29) ((stAt 29, n_rows_of).2.take 1) (tb.kbs 39) := trivial
theorem c_over_of : chkRow tb d_over_of (stAt 31, n_over_of) = true := by decide +kernel
theorem b_over_of : BindOk "over_of" (stAt 31) ((stAt 31, n_over_of).2.take 2) := fun _ _ _ _ _ _ us hl => match us, hl with | [_, _], _ => rfl
theorem kb_over_of : KbAll "over_of" (stAt 31) ((stAt 31, n_over_of).2.take 2) (tb.kbs 1218) := trivial
theorem c_all_over : chkRow tb d_all_over (stAt 32, n_all_over) = true := by decide +kernel
theorem b_all_over : BindOk "all_over" (stAt 32) ((stAt 32, n_all_over).2.take 2) := fun _ _ _ _ _ _ us hl => match us, hl with | [_, _], _ => rfl
theorem kb_all_over : KbAll "all_over" (stAt 32) ((stAt 32, n_all_over).2.take 2) (tb.kbs 1219) := trivial
theorem c_storm : chkRow tb d_storm (stAt 33, n_storm) = true := by decide +kernel
theorem b_storm : BindOk "storm" (stAt 33) ((stAt 33, n_storm).2.take 2) := fun _ _ _ _ _ _ us hl => match us, hl with | [_, _], _ => rfl
theorem kb_storm : KbAll "storm" (stAt 33) ((stAt 33, n_storm).2.take 2) (tb.kbs 1220) := trivial
theorem c_twins : chkRow tb d_twins (stAt 34, n_twins) = true := by decide +kernel
theorem b_twins : BindOk "twins" (stAt 34) ((stAt 34, n_twins).2.take 1) := fun _ _ _ _ _ _ us hl => match us, hl with | [_], _ => rfl
theorem kb_twins : KbAll "twins" (stAt 34) ((stAt 34, n_twins).2.take 1) (tb.kbs 1221) := trivial
theorem c_both_pulls : chkRow tb d_both_pulls (stAt 35, n_both_pulls) = true := by decide +kernel
theorem b_both_pulls : BindOk "both_pulls" (stAt 35) ((stAt 35, n_both_pulls).2.take 3) := fun _ _ _ _ _ _ us hl => match us, hl with | [_, _, _], _ => rfl
theorem kb_both_pulls : KbAll "both_pulls" (stAt 35) ((stAt 35, n_both_pulls).2.take 3) (tb.kbs 1222) := trivial
theorem c_switched_at : chkRow tb d_switched_at (stAt 37, n_switched_at) = true := by decide +kernel
theorem b_switched_at : BindOk "switched_at" (stAt 37) ((stAt 37, n_switched_at).2.take 2) := fun _ _ _ _ _ _ us hl => match us, hl with | [_, _], _ => rfl
theorem kb_switched_at : KbAll "switched_at" (stAt 37) ((stAt 37, n_switched_at).2.take 2) (tb.kbs 21) := trivial
theorem c_switched : chkRow tb d_switched (stAt 38, n_switched) = true := by decide +kernel
theorem b_switched : BindOk "switched" (stAt 38) ((stAt 38, n_switched).2.take 2) := fun _ _ _ _ _ _ us hl => match us, hl with | [_, _], _ => rfl
theorem kb_switched : KbAll "switched" (stAt 38) ((stAt 38, n_switched).2.take 2) (tb.kbs 22) := trivial
theorem c__law_pot : chkRow tb d__law_pot_39 (stAt 40, n__law_pot) = true := by decide +kernel
theorem b__law_pot : BindOk "_law_pot" (stAt 40) ((stAt 40, n__law_pot).2.take 2) := fun _ _ _ _ _ _ us hl => match us, hl with | [_, _], _ => rfl
theorem kb__law_pot : KbAll "_law_pot" (stAt 40) ((stAt 40, n__law_pot).2.take 2) (tb.kbs 1114) := trivial
theorem c__law_take : chkRow tb d__law_take_39 (stAt 41, n__law_take) = true := by decide +kernel
theorem b__law_take : BindOk "_law_take" (stAt 41) ((stAt 41, n__law_take).2.take 2) := fun _ _ _ _ _ _ us hl => match us, hl with | [_, _], _ => rfl
theorem kb__law_take : KbAll "_law_take" (stAt 41) ((stAt 41, n__law_take).2.take 2) (tb.kbs 1115) := trivial
theorem c__law_of : chkRow tb d__law_of_36 (stAt 42, n__law_of) = true := by decide +kernel
theorem b__law_of : BindOk "_law_of" (stAt 42) ((stAt 42, n__law_of).2.take 2) := fun _ _ _ _ _ _ us hl => match us, hl with | [_, _], _ => rfl
theorem kb__law_of : KbAll "_law_of" (stAt 42) ((stAt 42, n__law_of).2.take 2) (tb.kbs 1116) := trivial
theorem c__law_cells : chkRow tb d__law_cells_2 (stAt 43, n__law_cells) = true := by decide +kernel
theorem b__law_cells : BindOk "_law_cells" (stAt 43) ((stAt 43, n__law_cells).2.take 2) := fun _ _ _ _ _ _ us hl => match us, hl with | [_, _], _ => rfl
theorem kb__law_cells : KbAll "_law_cells" (stAt 43) ((stAt 43, n__law_cells).2.take 2) (tb.kbs 1117) := trivial
theorem c__law_pairs : chkRow tb d__law_pairs (stAt 44, n__law_pairs) = true := by decide +kernel
theorem b__law_pairs : BindOk "_law_pairs" (stAt 44) ((stAt 44, n__law_pairs).2.take 1) := fun _ _ _ _ _ _ us hl => match us, hl with | [_], _ => rfl
theorem kb__law_pairs : KbAll "_law_pairs" (stAt 44) ((stAt 44, n__law_pairs).2.take 1) (tb.kbs 1118) := trivial
theorem c__law_net : chkRow tb d__law_net_29 (stAt 45, n__law_net) = true := by decide +kernel
theorem b__law_net : BindOk "_law_net" (stAt 45) ((stAt 45, n__law_net).2.take 4) := fun _ _ _ _ _ _ us hl => match us, hl with | [_, _, _, _], _ => rfl
theorem kb__law_net : KbAll "_law_net" (stAt 45) ((stAt 45, n__law_net).2.take 4) (tb.kbs 1119) := trivial
theorem c__law_lot : chkRow tb d__law_lot_12 (stAt 46, n__law_lot) = true := by decide +kernel
theorem b__law_lot : BindOk "_law_lot" (stAt 46) ((stAt 46, n__law_lot).2.take 2) := fun _ _ _ _ _ _ us hl => match us, hl with | [_, _], _ => rfl
theorem kb__law_lot : KbAll "_law_lot" (stAt 46) ((stAt 46, n__law_lot).2.take 2) (tb.kbs 1134) := trivial
theorem c__law_all_sides : chkRow tb d__law_all_sides (stAt 47, n__law_all_sides) = true := by decide +kernel
theorem b__law_all_sides : BindOk "_law_all_sides" (stAt 47) ((stAt 47, n__law_all_sides).2.take 1) := fun _ _ _ _ _ _ us hl => match us, hl with | [_], _ => rfl
theorem kb__law_all_sides : KbAll "_law_all_sides" (stAt 47) ((stAt 47, n__law_all_sides).2.take 1) (tb.kbs 1214) := trivial
theorem c__law_sides : chkRow tb d__law_sides_2 (stAt 48, n__law_sides) = true := by decide +kernel
theorem b__law_sides : BindOk "_law_sides" (stAt 48) ((stAt 48, n__law_sides).2.take 2) := fun _ _ _ _ _ _ us hl => match us, hl with | [_, _], _ => rfl
theorem kb__law_sides : KbAll "_law_sides" (stAt 48) ((stAt 48, n__law_sides).2.take 2) (tb.kbs 1203) := trivial
theorem c__law_pull : chkRow tb d__law_pull (stAt 49, n__law_pull) = true := by decide +kernel
theorem b__law_pull : BindOk "_law_pull" (stAt 49) ((stAt 49, n__law_pull).2.take 3) := fun _ _ _ _ _ _ us hl => match us, hl with | [_, _, _], _ => rfl
theorem kb__law_pull : KbAll "_law_pull" (stAt 49) ((stAt 49, n__law_pull).2.take 3) (tb.kbs 1205) := trivial
theorem c__law_gone : chkRow tb d__law_gone (stAt 50, n__law_gone) = true := by decide +kernel
theorem b__law_gone : BindOk "_law_gone" (stAt 50) ((stAt 50, n__law_gone).2.take 2) := fun _ _ _ _ _ _ us hl => match us, hl with | [_, _], _ => rfl
theorem kb__law_gone : KbAll "_law_gone" (stAt 50) ((stAt 50, n__law_gone).2.take 2) (tb.kbs 1206) := trivial
theorem c__law_over : chkRow tb d__law_over (stAt 51, n__law_over) = true := by decide +kernel
theorem b__law_over : BindOk "_law_over" (stAt 51) ((stAt 51, n__law_over).2.take 2) := fun _ _ _ _ _ _ us hl => match us, hl with | [_, _], _ => rfl
theorem kb__law_over : KbAll "_law_over" (stAt 51) ((stAt 51, n__law_over).2.take 2) (tb.kbs 1223) := trivial
theorem c__law_storm : chkRow tb d__law_storm (stAt 52, n__law_storm) = true := by decide +kernel
theorem b__law_storm : BindOk "_law_storm" (stAt 52) ((stAt 52, n__law_storm).2.take 2) := fun _ _ _ _ _ _ us hl => match us, hl with | [_, _], _ => rfl
theorem kb__law_storm : KbAll "_law_storm" (stAt 52) ((stAt 52, n__law_storm).2.take 2) (tb.kbs 1224) := trivial
theorem c__law_both : chkRow tb d__law_both (stAt 53, n__law_both) = true := by decide +kernel
theorem b__law_both : BindOk "_law_both" (stAt 53) ((stAt 53, n__law_both).2.take 3) := fun _ _ _ _ _ _ us hl => match us, hl with | [_, _, _], _ => rfl
theorem kb__law_both : KbAll "_law_both" (stAt 53) ((stAt 53, n__law_both).2.take 3) (tb.kbs 1225) := trivial
theorem c__law_is_storm_right : chkRow tb d__law_is_storm_right (stAt 54, n__law_is_storm_right) = true := by decide +kernel
theorem b__law_is_storm_right : BindOk "_law_is_storm_right" (stAt 54) ((stAt 54, n__law_is_storm_right).2.take 2) := fun _ _ _ _ _ _ us hl => match us, hl with | [_, _], _ => rfl
theorem kb__law_is_storm_right : KbAll "_law_is_storm_right" (stAt 54) ((stAt 54, n__law_is_storm_right).2.take 2) (tb.kbs 1226) := trivial
theorem c__law_are_twins_right : chkRow tb d__law_are_twins_right (stAt 55, n__law_are_twins_right) = true := by decide +kernel
theorem b__law_are_twins_right : BindOk "_law_are_twins_right" (stAt 55) ((stAt 55, n__law_are_twins_right).2.take 1) := fun _ _ _ _ _ _ us hl => match us, hl with | [_], _ => rfl
theorem kb__law_are_twins_right : KbAll "_law_are_twins_right" (stAt 55) ((stAt 55, n__law_are_twins_right).2.take 1) (tb.kbs 1227) := trivial
theorem c__law_is_switched_right : chkRow tb d__law_is_switched_right (stAt 56, n__law_is_switched_right) = true := by decide +kernel
theorem b__law_is_switched_right : BindOk "_law_is_switched_right" (stAt 56) ((stAt 56, n__law_is_switched_right).2.take 2) := fun _ _ _ _ _ _ us hl => match us, hl with | [_, _], _ => rfl
theorem kb__law_is_switched_right : KbAll "_law_is_switched_right" (stAt 56) ((stAt 56, n__law_is_switched_right).2.take 2) (tb.kbs 1228) := trivial
theorem c_law : chkRow tb d_law_47 (stAt 57, n_law) = true := by decide +kernel
theorem b_law : BindOk "law" (stAt 57) ((stAt 57, n_law).2.take 1) := fun _ _ _ _ _ _ us hl => match us, hl with | [_], _ => rfl
theorem kb_law : KbAll "law" (stAt 57) ((stAt 57, n_law).2.take 1) (tb.kbs 1229) := trivial
theorem all_k {K : PySem.W.Frag}
    (k_is_integer : ∃ f, DefK K "is_integer" (stAt 6) f)
    (k_is_between : ∃ f, DefK K "is_between" (stAt 7) f)
    (k_are_between : ∃ f, DefK K "are_between" (stAt 8) f)
    (k_is_ascending : ∃ f, DefK K "is_ascending" (stAt 9) f)
    (k_is_tie : ∃ f, DefK K "is_tie" (stAt 13) f)
    (k_is_net : ∃ f, DefK K "is_net" (stAt 14) f)
    (k_check_net : ∃ f, DefK K "check_net" (stAt 15) f)
    (k_is_lot_of : ∃ f, DefK K "is_lot_of" (stAt 16) f)
    (k_check_lot : ∃ f, DefK K "check_lot" (stAt 17) f)
    (k_net_by : ∃ f, DefK K "net_by" (stAt 18) f)
    (k_are_sides : ∃ f, DefK K "are_sides" (stAt 20) f)
    (k_check_sides : ∃ f, DefK K "check_sides" (stAt 21) f)
    (k_pull_of : ∃ f, DefK K "pull_of" (stAt 23) f)
    (k_pulls_of : ∃ f, DefK K "pulls_of" (stAt 24) f)
    (k_check_at : ∃ f, DefK K "check_at" (stAt 25) f)
    (k_wanting_of : ∃ f, DefK K "wanting_of" (stAt 26) f)
    (k_gone_by : ∃ f, DefK K "gone_by" (stAt 27) f)
    (k_rows_of : ∃ f, DefK K "rows_of" (stAt 29) f)
    (k_over_of : ∃ f, DefK K "over_of" (stAt 31) f)
    (k_all_over : ∃ f, DefK K "all_over" (stAt 32) f)
    (k_storm : ∃ f, DefK K "storm" (stAt 33) f)
    (k_twins : ∃ f, DefK K "twins" (stAt 34) f)
    (k_both_pulls : ∃ f, DefK K "both_pulls" (stAt 35) f)
    (k_switched_at : ∃ f, DefK K "switched_at" (stAt 37) f)
    (k_switched : ∃ f, DefK K "switched" (stAt 38) f)
    (k__law_pot : ∃ f, DefK K "_law_pot" (stAt 40) f)
    (k__law_take : ∃ f, DefK K "_law_take" (stAt 41) f)
    (k__law_of : ∃ f, DefK K "_law_of" (stAt 42) f)
    (k__law_cells : ∃ f, DefK K "_law_cells" (stAt 43) f)
    (k__law_pairs : ∃ f, DefK K "_law_pairs" (stAt 44) f)
    (k__law_net : ∃ f, DefK K "_law_net" (stAt 45) f)
    (k__law_lot : ∃ f, DefK K "_law_lot" (stAt 46) f)
    (k__law_all_sides : ∃ f, DefK K "_law_all_sides" (stAt 47) f)
    (k__law_sides : ∃ f, DefK K "_law_sides" (stAt 48) f)
    (k__law_pull : ∃ f, DefK K "_law_pull" (stAt 49) f)
    (k__law_gone : ∃ f, DefK K "_law_gone" (stAt 50) f)
    (k__law_over : ∃ f, DefK K "_law_over" (stAt 51) f)
    (k__law_storm : ∃ f, DefK K "_law_storm" (stAt 52) f)
    (k__law_both : ∃ f, DefK K "_law_both" (stAt 53) f)
    (k__law_is_storm_right : ∃ f, DefK K "_law_is_storm_right" (stAt 54) f)
    (k__law_are_twins_right : ∃ f, DefK K "_law_are_twins_right" (stAt 55) f)
    (k__law_is_switched_right : ∃ f, DefK K "_law_is_switched_right" (stAt 56) f)
    (k_law : ∃ f, DefK K "law" (stAt 57) f)
    : AllK K tb tb.tab rows := by
  obtain ⟨_, k_is_integer⟩ := k_is_integer
  obtain ⟨_, k_is_between⟩ := k_is_between
  obtain ⟨_, k_are_between⟩ := k_are_between
  obtain ⟨_, k_is_ascending⟩ := k_is_ascending
  obtain ⟨_, k_is_tie⟩ := k_is_tie
  obtain ⟨_, k_is_net⟩ := k_is_net
  obtain ⟨_, k_check_net⟩ := k_check_net
  obtain ⟨_, k_is_lot_of⟩ := k_is_lot_of
  obtain ⟨_, k_check_lot⟩ := k_check_lot
  obtain ⟨_, k_net_by⟩ := k_net_by
  obtain ⟨_, k_are_sides⟩ := k_are_sides
  obtain ⟨_, k_check_sides⟩ := k_check_sides
  obtain ⟨_, k_pull_of⟩ := k_pull_of
  obtain ⟨_, k_pulls_of⟩ := k_pulls_of
  obtain ⟨_, k_check_at⟩ := k_check_at
  obtain ⟨_, k_wanting_of⟩ := k_wanting_of
  obtain ⟨_, k_gone_by⟩ := k_gone_by
  obtain ⟨_, k_rows_of⟩ := k_rows_of
  obtain ⟨_, k_over_of⟩ := k_over_of
  obtain ⟨_, k_all_over⟩ := k_all_over
  obtain ⟨_, k_storm⟩ := k_storm
  obtain ⟨_, k_twins⟩ := k_twins
  obtain ⟨_, k_both_pulls⟩ := k_both_pulls
  obtain ⟨_, k_switched_at⟩ := k_switched_at
  obtain ⟨_, k_switched⟩ := k_switched
  obtain ⟨_, k__law_pot⟩ := k__law_pot
  obtain ⟨_, k__law_take⟩ := k__law_take
  obtain ⟨_, k__law_of⟩ := k__law_of
  obtain ⟨_, k__law_cells⟩ := k__law_cells
  obtain ⟨_, k__law_pairs⟩ := k__law_pairs
  obtain ⟨_, k__law_net⟩ := k__law_net
  obtain ⟨_, k__law_lot⟩ := k__law_lot
  obtain ⟨_, k__law_all_sides⟩ := k__law_all_sides
  obtain ⟨_, k__law_sides⟩ := k__law_sides
  obtain ⟨_, k__law_pull⟩ := k__law_pull
  obtain ⟨_, k__law_gone⟩ := k__law_gone
  obtain ⟨_, k__law_over⟩ := k__law_over
  obtain ⟨_, k__law_storm⟩ := k__law_storm
  obtain ⟨_, k__law_both⟩ := k__law_both
  obtain ⟨_, k__law_is_storm_right⟩ := k__law_is_storm_right
  obtain ⟨_, k__law_are_twins_right⟩ := k__law_are_twins_right
  obtain ⟨_, k__law_is_switched_right⟩ := k__law_is_switched_right
  obtain ⟨_, k_law⟩ := k_law
  exact .cons k_is_integer b_is_integer c_is_integer kb_is_integer <| .cons k_is_between b_is_between c_is_between kb_is_between <| .cons k_are_between b_are_between c_are_between kb_are_between <| .cons k_is_ascending b_is_ascending c_is_ascending kb_is_ascending <| .cons k_is_tie b_is_tie c_is_tie kb_is_tie <| .cons k_is_net b_is_net c_is_net kb_is_net <| .cons k_check_net b_check_net c_check_net kb_check_net <| .cons k_is_lot_of b_is_lot_of c_is_lot_of kb_is_lot_of <| .cons k_check_lot b_check_lot c_check_lot kb_check_lot <| .cons k_net_by b_net_by c_net_by kb_net_by <| .cons k_are_sides b_are_sides c_are_sides kb_are_sides <| .cons k_check_sides b_check_sides c_check_sides kb_check_sides <| .cons k_pull_of b_pull_of c_pull_of kb_pull_of <| .cons k_pulls_of b_pulls_of c_pulls_of kb_pulls_of <| .cons k_check_at b_check_at c_check_at kb_check_at <| .cons k_wanting_of b_wanting_of c_wanting_of kb_wanting_of <| .cons k_gone_by b_gone_by c_gone_by kb_gone_by <| .cons k_rows_of b_rows_of c_rows_of kb_rows_of <| .cons k_over_of b_over_of c_over_of kb_over_of <| .cons k_all_over b_all_over c_all_over kb_all_over <| .cons k_storm b_storm c_storm kb_storm <| .cons k_twins b_twins c_twins kb_twins <| .cons k_both_pulls b_both_pulls c_both_pulls kb_both_pulls <| .cons k_switched_at b_switched_at c_switched_at kb_switched_at <| .cons k_switched b_switched c_switched kb_switched <| .cons k__law_pot b__law_pot c__law_pot kb__law_pot <| .cons k__law_take b__law_take c__law_take kb__law_take <| .cons k__law_of b__law_of c__law_of kb__law_of <| .cons k__law_cells b__law_cells c__law_cells kb__law_cells <| .cons k__law_pairs b__law_pairs c__law_pairs kb__law_pairs <| .cons k__law_net b__law_net c__law_net kb__law_net <| .cons k__law_lot b__law_lot c__law_lot kb__law_lot <| .cons k__law_all_sides b__law_all_sides c__law_all_sides kb__law_all_sides <| .cons k__law_sides b__law_sides c__law_sides kb__law_sides <| .cons k__law_pull b__law_pull c__law_pull kb__law_pull <| .cons k__law_gone b__law_gone c__law_gone kb__law_gone <| .cons k__law_over b__law_over c__law_over kb__law_over <| .cons k__law_storm b__law_storm c__law_storm kb__law_storm <| .cons k__law_both b__law_both c__law_both kb__law_both <| .cons k__law_is_storm_right b__law_is_storm_right c__law_is_storm_right kb__law_is_storm_right <| .cons k__law_are_twins_right b__law_are_twins_right c__law_are_twins_right kb__law_are_twins_right <| .cons k__law_is_switched_right b__law_is_switched_right c__law_is_switched_right kb__law_is_switched_right <| .cons k_law b_law c_law kb_law <| .nil
end K48
theorem K48.t : Ev.K48T K48.tb.T where
  h0 := rfl
  h1 := rfl
  h3 := rfl
  h4 := rfl
  h5 := rfl
  h6 := rfl
  h16 := rfl
  h17 := rfl
  h31 := rfl
  h32 := rfl
  h33 := rfl
  h34 := rfl
  h2 := rfl
  h7 := rfl
  h8 := rfl
  h9 := rfl
  h21 := rfl
  h22 := rfl
  h36 := rfl
  h39 := rfl
  h1218 := rfl
  h1219 := rfl
  h1220 := rfl
  h1221 := rfl
  h1222 := rfl
  h1205 := rfl
  h1206 := rfl
  h1214 := rfl
  h1223 := rfl
  h1224 := rfl
  h1225 := rfl
  h1114 := rfl
  h1115 := rfl
  h1116 := rfl
  h1117 := rfl
  h1118 := rfl
  h1119 := rfl
  h1203 := rfl
  h1134 := rfl
  h1226 := rfl
  h1227 := rfl
  h1228 := rfl
  h1229 := rfl
theorem K48.plain (ns : List Int) (h : ns.length ≤ 63) : Ev.callF K48.tb.T 12 1229 [.ro (ns.map Ev.D.int)] [] = some (.bl true, []) := Ev.s_law48 K48.t ns (k := 11) (by decide)

open PySem PySem.W PyProof.Rows in
set_option maxRecDepth 100000 in
set_option maxHeartbeats 0 in
theorem PySem.Challenge.cw_amongfoes_k48_whole_storms_of_houses_holds : PySem.Challenge.rw_amongfoes_k48_whole_storms_of_houses.Holds := by
  w_on; o_law; k_head; (case hw => w_witness2)
  k_fill
  refine Ev.walkG (n := 63) (k := 12) (x := "script") (sp := fun K => Ev.spTop K (Ev.callF K48.tb.T 12 1229)) rfl (by decide) rfl ⟨rfl, by decide, by decide⟩ (fun w h Y => PySem.W.kIn_of Y) ?F fun K H a ns hl hO hS => Ev.top_sp hl hO hS (K48.plain ns hl)
  case F =>
    intro w mg fa h KX G hmg
    refine Ev.top_of (t := K48.tb) (rs := K48.rows) (x := "script") (y := "law") KX G ?ak ?ag ?ags ?ab 12 42 1229 rfl rfl rfl rfl rfl hmg rfl
    case ak =>
      refine K48.all_k ?k_is_integer ?k_is_between ?k_are_between ?k_is_ascending ?k_is_tie ?k_is_net ?k_check_net ?k_is_lot_of ?k_check_lot ?k_net_by ?k_are_sides ?k_check_sides ?k_pull_of ?k_pulls_of ?k_check_at ?k_wanting_of ?k_gone_by ?k_rows_of ?k_over_of ?k_all_over ?k_storm ?k_twins ?k_both_pulls ?k_switched_at ?k_switched ?k__law_pot ?k__law_take ?k__law_of ?k__law_cells ?k__law_pairs ?k__law_net ?k__law_lot ?k__law_all_sides ?k__law_sides ?k__law_pull ?k__law_gone ?k__law_over ?k__law_storm ?k__law_both ?k__law_is_storm_right ?k__law_are_twins_right ?k__law_is_switched_right ?k_law
      (case k_is_integer => refine' ⟨_, ⟨_, _, _, _, _, _, _, _, _, _, _, _, ?a, ?l, ?c, ?k, ?x, ?y, ?z⟩⟩; (case a => k_is); (case l => first | k_is | exact rfl); (case c => k_is); (case k => k_is); (case x => kernel_rfl); (case y => kernel_rfl); (case z => kernel_rfl))
      (case k_is_between => refine' ⟨_, ⟨_, _, _, _, _, _, _, _, _, _, _, _, ?a, ?l, ?c, ?k, ?x, ?y, ?z⟩⟩; (case a => k_is); (case l => first | k_is | exact rfl); (case c => k_is); (case k => k_is); (case x => kernel_rfl); (case y => kernel_rfl); (case z => kernel_rfl))
      (case k_are_between => refine' ⟨_, ⟨_, _, _, _, _, _, _, _, _, _, _, _, ?a, ?l, ?c, ?k, ?x, ?y, ?z⟩⟩; (case a => k_is); (case l => first | k_is | exact rfl); (case c => k_is); (case k => k_is); (case x => kernel_rfl); (case y => kernel_rfl); (case z => kernel_rfl))
      (case k_is_ascending => refine' ⟨_, ⟨_, _, _, _, _, _, _, _, _, _, _, _, ?a, ?l, ?c, ?k, ?x, ?y, ?z⟩⟩; (case a => k_is); (case l => first | k_is | exact rfl); (case c => k_is); (case k => k_is); (case x => kernel_rfl); (case y => kernel_rfl); (case z => kernel_rfl))
      (case k_is_tie => refine' ⟨_, ⟨_, _, _, _, _, _, _, _, _, _, _, _, ?a, ?l, ?c, ?k, ?x, ?y, ?z⟩⟩; (case a => k_is); (case l => first | k_is | exact rfl); (case c => k_is); (case k => k_is); (case x => kernel_rfl); (case y => kernel_rfl); (case z => kernel_rfl))
      (case k_is_net => refine' ⟨_, ⟨_, _, _, _, _, _, _, _, _, _, _, _, ?a, ?l, ?c, ?k, ?x, ?y, ?z⟩⟩; (case a => k_is); (case l => first | k_is | exact rfl); (case c => k_is); (case k => k_is); (case x => kernel_rfl); (case y => kernel_rfl); (case z => kernel_rfl))
      (case k_check_net => refine' ⟨_, ⟨_, _, _, _, _, _, _, _, _, _, _, _, ?a, ?l, ?c, ?k, ?x, ?y, ?z⟩⟩; (case a => k_is); (case l => first | k_is | exact rfl); (case c => k_is); (case k => k_is); (case x => kernel_rfl); (case y => kernel_rfl); (case z => kernel_rfl))
      (case k_is_lot_of => refine' ⟨_, ⟨_, _, _, _, _, _, _, _, _, _, _, _, ?a, ?l, ?c, ?k, ?x, ?y, ?z⟩⟩; (case a => k_is); (case l => first | k_is | exact rfl); (case c => k_is); (case k => k_is); (case x => kernel_rfl); (case y => kernel_rfl); (case z => kernel_rfl))
      (case k_check_lot => refine' ⟨_, ⟨_, _, _, _, _, _, _, _, _, _, _, _, ?a, ?l, ?c, ?k, ?x, ?y, ?z⟩⟩; (case a => k_is); (case l => first | k_is | exact rfl); (case c => k_is); (case k => k_is); (case x => kernel_rfl); (case y => kernel_rfl); (case z => kernel_rfl))
      (case k_net_by => refine' ⟨_, ⟨_, _, _, _, _, _, _, _, _, _, _, _, ?a, ?l, ?c, ?k, ?x, ?y, ?z⟩⟩; (case a => k_is); (case l => first | k_is | exact rfl); (case c => k_is); (case k => k_is); (case x => kernel_rfl); (case y => kernel_rfl); (case z => kernel_rfl))
      (case k_are_sides => refine' ⟨_, ⟨_, _, _, _, _, _, _, _, _, _, _, _, ?a, ?l, ?c, ?k, ?x, ?y, ?z⟩⟩; (case a => k_is); (case l => first | k_is | exact rfl); (case c => k_is); (case k => k_is); (case x => kernel_rfl); (case y => kernel_rfl); (case z => kernel_rfl))
      (case k_check_sides => refine' ⟨_, ⟨_, _, _, _, _, _, _, _, _, _, _, _, ?a, ?l, ?c, ?k, ?x, ?y, ?z⟩⟩; (case a => k_is); (case l => first | k_is | exact rfl); (case c => k_is); (case k => k_is); (case x => kernel_rfl); (case y => kernel_rfl); (case z => kernel_rfl))
      (case k_pull_of => refine' ⟨_, ⟨_, _, _, _, _, _, _, _, _, _, _, _, ?a, ?l, ?c, ?k, ?x, ?y, ?z⟩⟩; (case a => k_is); (case l => first | k_is | exact rfl); (case c => k_is); (case k => k_is); (case x => kernel_rfl); (case y => kernel_rfl); (case z => kernel_rfl))
      (case k_pulls_of => refine' ⟨_, ⟨_, _, _, _, _, _, _, _, _, _, _, _, ?a, ?l, ?c, ?k, ?x, ?y, ?z⟩⟩; (case a => k_is); (case l => first | k_is | exact rfl); (case c => k_is); (case k => k_is); (case x => kernel_rfl); (case y => kernel_rfl); (case z => kernel_rfl))
      (case k_check_at => refine' ⟨_, ⟨_, _, _, _, _, _, _, _, _, _, _, _, ?a, ?l, ?c, ?k, ?x, ?y, ?z⟩⟩; (case a => k_is); (case l => first | k_is | exact rfl); (case c => k_is); (case k => k_is); (case x => kernel_rfl); (case y => kernel_rfl); (case z => kernel_rfl))
      (case k_wanting_of => refine' ⟨_, ⟨_, _, _, _, _, _, _, _, _, _, _, _, ?a, ?l, ?c, ?k, ?x, ?y, ?z⟩⟩; (case a => k_is); (case l => first | k_is | exact rfl); (case c => k_is); (case k => k_is); (case x => kernel_rfl); (case y => kernel_rfl); (case z => kernel_rfl))
      (case k_gone_by => refine' ⟨_, ⟨_, _, _, _, _, _, _, _, _, _, _, _, ?a, ?l, ?c, ?k, ?x, ?y, ?z⟩⟩; (case a => k_is); (case l => first | k_is | exact rfl); (case c => k_is); (case k => k_is); (case x => kernel_rfl); (case y => kernel_rfl); (case z => kernel_rfl))
      (case k_rows_of => refine' ⟨_, ⟨_, _, _, _, _, _, _, _, _, _, _, _, ?a, ?l, ?c, ?k, ?x, ?y, ?z⟩⟩; (case a => k_is); (case l => first | k_is | exact rfl); (case c => k_is); (case k => k_is); (case x => kernel_rfl); (case y => kernel_rfl); (case z => kernel_rfl))
      (case k_over_of => refine' ⟨_, ⟨_, _, _, _, _, _, _, _, _, _, _, _, ?a, ?l, ?c, ?k, ?x, ?y, ?z⟩⟩; (case a => k_is); (case l => first | k_is | exact rfl); (case c => k_is); (case k => k_is); (case x => kernel_rfl); (case y => kernel_rfl); (case z => kernel_rfl))
      (case k_all_over => refine' ⟨_, ⟨_, _, _, _, _, _, _, _, _, _, _, _, ?a, ?l, ?c, ?k, ?x, ?y, ?z⟩⟩; (case a => k_is); (case l => first | k_is | exact rfl); (case c => k_is); (case k => k_is); (case x => kernel_rfl); (case y => kernel_rfl); (case z => kernel_rfl))
      (case k_storm => refine' ⟨_, ⟨_, _, _, _, _, _, _, _, _, _, _, _, ?a, ?l, ?c, ?k, ?x, ?y, ?z⟩⟩; (case a => k_is); (case l => first | k_is | exact rfl); (case c => k_is); (case k => k_is); (case x => kernel_rfl); (case y => kernel_rfl); (case z => kernel_rfl))
      (case k_twins => refine' ⟨_, ⟨_, _, _, _, _, _, _, _, _, _, _, _, ?a, ?l, ?c, ?k, ?x, ?y, ?z⟩⟩; (case a => k_is); (case l => first | k_is | exact rfl); (case c => k_is); (case k => k_is); (case x => kernel_rfl); (case y => kernel_rfl); (case z => kernel_rfl))
      (case k_both_pulls => refine' ⟨_, ⟨_, _, _, _, _, _, _, _, _, _, _, _, ?a, ?l, ?c, ?k, ?x, ?y, ?z⟩⟩; (case a => k_is); (case l => first | k_is | exact rfl); (case c => k_is); (case k => k_is); (case x => kernel_rfl); (case y => kernel_rfl); (case z => kernel_rfl))
      (case k_switched_at => refine' ⟨_, ⟨_, _, _, _, _, _, _, _, _, _, _, _, ?a, ?l, ?c, ?k, ?x, ?y, ?z⟩⟩; (case a => k_is); (case l => first | k_is | exact rfl); (case c => k_is); (case k => k_is); (case x => kernel_rfl); (case y => kernel_rfl); (case z => kernel_rfl))
      (case k_switched => refine' ⟨_, ⟨_, _, _, _, _, _, _, _, _, _, _, _, ?a, ?l, ?c, ?k, ?x, ?y, ?z⟩⟩; (case a => k_is); (case l => first | k_is | exact rfl); (case c => k_is); (case k => k_is); (case x => kernel_rfl); (case y => kernel_rfl); (case z => kernel_rfl))
      (case k__law_pot => refine' ⟨_, ⟨_, _, _, _, _, _, _, _, _, _, _, _, ?a, ?l, ?c, ?k, ?x, ?y, ?z⟩⟩; (case a => k_is); (case l => first | k_is | exact rfl); (case c => k_is); (case k => k_is); (case x => kernel_rfl); (case y => kernel_rfl); (case z => kernel_rfl))
      (case k__law_take => refine' ⟨_, ⟨_, _, _, _, _, _, _, _, _, _, _, _, ?a, ?l, ?c, ?k, ?x, ?y, ?z⟩⟩; (case a => k_is); (case l => first | k_is | exact rfl); (case c => k_is); (case k => k_is); (case x => kernel_rfl); (case y => kernel_rfl); (case z => kernel_rfl))
      (case k__law_of => refine' ⟨_, ⟨_, _, _, _, _, _, _, _, _, _, _, _, ?a, ?l, ?c, ?k, ?x, ?y, ?z⟩⟩; (case a => k_is); (case l => first | k_is | exact rfl); (case c => k_is); (case k => k_is); (case x => kernel_rfl); (case y => kernel_rfl); (case z => kernel_rfl))
      (case k__law_cells => refine' ⟨_, ⟨_, _, _, _, _, _, _, _, _, _, _, _, ?a, ?l, ?c, ?k, ?x, ?y, ?z⟩⟩; (case a => k_is); (case l => first | k_is | exact rfl); (case c => k_is); (case k => k_is); (case x => kernel_rfl); (case y => kernel_rfl); (case z => kernel_rfl))
      (case k__law_pairs => refine' ⟨_, ⟨_, _, _, _, _, _, _, _, _, _, _, _, ?a, ?l, ?c, ?k, ?x, ?y, ?z⟩⟩; (case a => k_is); (case l => first | k_is | exact rfl); (case c => k_is); (case k => k_is); (case x => kernel_rfl); (case y => kernel_rfl); (case z => kernel_rfl))
      (case k__law_net => refine' ⟨_, ⟨_, _, _, _, _, _, _, _, _, _, _, _, ?a, ?l, ?c, ?k, ?x, ?y, ?z⟩⟩; (case a => k_is); (case l => first | k_is | exact rfl); (case c => k_is); (case k => k_is); (case x => kernel_rfl); (case y => kernel_rfl); (case z => kernel_rfl))
      (case k__law_lot => refine' ⟨_, ⟨_, _, _, _, _, _, _, _, _, _, _, _, ?a, ?l, ?c, ?k, ?x, ?y, ?z⟩⟩; (case a => k_is); (case l => first | k_is | exact rfl); (case c => k_is); (case k => k_is); (case x => kernel_rfl); (case y => kernel_rfl); (case z => kernel_rfl))
      (case k__law_all_sides => refine' ⟨_, ⟨_, _, _, _, _, _, _, _, _, _, _, _, ?a, ?l, ?c, ?k, ?x, ?y, ?z⟩⟩; (case a => k_is); (case l => first | k_is | exact rfl); (case c => k_is); (case k => k_is); (case x => kernel_rfl); (case y => kernel_rfl); (case z => kernel_rfl))
      (case k__law_sides => refine' ⟨_, ⟨_, _, _, _, _, _, _, _, _, _, _, _, ?a, ?l, ?c, ?k, ?x, ?y, ?z⟩⟩; (case a => k_is); (case l => first | k_is | exact rfl); (case c => k_is); (case k => k_is); (case x => kernel_rfl); (case y => kernel_rfl); (case z => kernel_rfl))
      (case k__law_pull => refine' ⟨_, ⟨_, _, _, _, _, _, _, _, _, _, _, _, ?a, ?l, ?c, ?k, ?x, ?y, ?z⟩⟩; (case a => k_is); (case l => first | k_is | exact rfl); (case c => k_is); (case k => k_is); (case x => kernel_rfl); (case y => kernel_rfl); (case z => kernel_rfl))
      (case k__law_gone => refine' ⟨_, ⟨_, _, _, _, _, _, _, _, _, _, _, _, ?a, ?l, ?c, ?k, ?x, ?y, ?z⟩⟩; (case a => k_is); (case l => first | k_is | exact rfl); (case c => k_is); (case k => k_is); (case x => kernel_rfl); (case y => kernel_rfl); (case z => kernel_rfl))
      (case k__law_over => refine' ⟨_, ⟨_, _, _, _, _, _, _, _, _, _, _, _, ?a, ?l, ?c, ?k, ?x, ?y, ?z⟩⟩; (case a => k_is); (case l => first | k_is | exact rfl); (case c => k_is); (case k => k_is); (case x => kernel_rfl); (case y => kernel_rfl); (case z => kernel_rfl))
      (case k__law_storm => refine' ⟨_, ⟨_, _, _, _, _, _, _, _, _, _, _, _, ?a, ?l, ?c, ?k, ?x, ?y, ?z⟩⟩; (case a => k_is); (case l => first | k_is | exact rfl); (case c => k_is); (case k => k_is); (case x => kernel_rfl); (case y => kernel_rfl); (case z => kernel_rfl))
      (case k__law_both => refine' ⟨_, ⟨_, _, _, _, _, _, _, _, _, _, _, _, ?a, ?l, ?c, ?k, ?x, ?y, ?z⟩⟩; (case a => k_is); (case l => first | k_is | exact rfl); (case c => k_is); (case k => k_is); (case x => kernel_rfl); (case y => kernel_rfl); (case z => kernel_rfl))
      (case k__law_is_storm_right => refine' ⟨_, ⟨_, _, _, _, _, _, _, _, _, _, _, _, ?a, ?l, ?c, ?k, ?x, ?y, ?z⟩⟩; (case a => k_is); (case l => first | k_is | exact rfl); (case c => k_is); (case k => k_is); (case x => kernel_rfl); (case y => kernel_rfl); (case z => kernel_rfl))
      (case k__law_are_twins_right => refine' ⟨_, ⟨_, _, _, _, _, _, _, _, _, _, _, _, ?a, ?l, ?c, ?k, ?x, ?y, ?z⟩⟩; (case a => k_is); (case l => first | k_is | exact rfl); (case c => k_is); (case k => k_is); (case x => kernel_rfl); (case y => kernel_rfl); (case z => kernel_rfl))
      (case k__law_is_switched_right => refine' ⟨_, ⟨_, _, _, _, _, _, _, _, _, _, _, _, ?a, ?l, ?c, ?k, ?x, ?y, ?z⟩⟩; (case a => k_is); (case l => first | k_is | exact rfl); (case c => k_is); (case k => k_is); (case x => kernel_rfl); (case y => kernel_rfl); (case z => kernel_rfl))
      (case k_law => refine' ⟨_, ⟨_, _, _, _, _, _, _, _, _, _, _, _, ?a, ?l, ?c, ?k, ?x, ?y, ?z⟩⟩; (case a => k_is); (case l => first | k_is | exact rfl); (case c => k_is); (case k => k_is); (case x => kernel_rfl); (case y => kernel_rfl); (case z => kernel_rfl))
    case ag =>
      refine' ⟨⟨⟨_, ?gi_0⟩⟩, ⟨⟨_, ?gi_1⟩⟩,  True.intro⟩
      (case gi_0 => first | k_is | exact rfl)
      (case gi_1 => first | k_is | exact rfl)
    case ags =>
      trivial
    case ab =>
      refine' ⟨?bn_0, ?bn_1, ?bn_2, ?bn_3, ?bn_4, ?bn_5, ?bn_6, ?bn_7, ?bn_8, ?bn_9, ?bn_10, ?bn_11, ?bn_12, ?bn_13, ?bn_14, ?bn_15, ?bn_16, ?bn_17,  True.intro⟩
      (case bn_0 => first | k_is | exact rfl)
      (case bn_1 => first | k_is | exact rfl)
      (case bn_2 => first | k_is | exact rfl)
      (case bn_3 => first | k_is | exact rfl)
      (case bn_4 => first | k_is | exact rfl)
      (case bn_5 => first | k_is | exact rfl)
      (case bn_6 => first | k_is | exact rfl)
      (case bn_7 => first | k_is | exact rfl)
      (case bn_8 => first | k_is | exact rfl)
      (case bn_9 => first | k_is | exact rfl)
      (case bn_10 => first | k_is | exact rfl)
      (case bn_11 => first | k_is | exact rfl)
      (case bn_12 => first | k_is | exact rfl)
      (case bn_13 => first | k_is | exact rfl)
      (case bn_14 => first | k_is | exact rfl)
      (case bn_15 => first | k_is | exact rfl)
      (case bn_16 => first | k_is | exact rfl)
      (case bn_17 => first | k_is | exact rfl)

