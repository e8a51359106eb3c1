import PyProof.Rows.All
import Wide.All
import OpenK.AllK
import Wide.FinOn
import HandS.ForMost
import HandS.ForExc
import HandS.Walk
import HandS.Flow
import HandS.Style
import HandS.Defaults
import HandS.DictComp
import HandS.EndBits
import HandS.TupAny
import HandS.Wide
import HandS.WideBits
import HandS.IsInst
import HandS.Deep
import HandS.RaiseMore
import HandS.SortInts
import HandS.Small
import HandS.ExcInit
import PyProof.ExcBaseAll.LookupError
import PyProof.ExcBaseAll.RuntimeError
import PyProof.ExcBaseAll.ArithmeticError
import PyProof.ExcBaseAll.ValueError
import HandS.ExcIs
import HandS.Rev
import PySem.Challenge.RW_firstbooks_k82_halves_and_lists_of_signs
set_option Elab.async false
set_option linter.all false
set_option maxRecDepth 100000
set_option maxHeartbeats 4000000
/-! FBCore: Python data by value, the world, the frame's state, what a denotation says. -/
namespace FB
open PySem PySem.Spec PyProof.Rows L2

/-! ### data -/
inductive D where
  | non | bl (b : Bool) | int (i : Int) | str (s : Str)
  | lst (ds : List D) | tup (ds : List D)
  | dK (kds : List (Key × D)) | dT (kds : List (List Key × D))
  | scr (ns : List Int) | obj (k : Nat) | ty (n : String) | exv (c : String) (fs : List (Str × D))
instance : Inhabited D := ⟨.non⟩

/-- what stands in the store: objects by reference -/
inductive SObj where
  | dic (kvs : List (Key × D))
  | gone

abbrev Sto := List SObj

/-- where things lie: frozen data, the owner of each owned address, the objects' addresses -/
structure Wo where
  F : Hp
  ow : Addr → Option Nat
  rho : Nat → Option Addr
  xa : Addr → Option (String × Option Addr)

mutual
inductive Rep (K : PySem.W.Frag) (w : Wo) : V → D → Prop where
  | non : Rep K w .non .non
  | bl (b : Bool) : Rep K w (.bl b) (.bl b)
  | int (i : Int) : Rep K w (.int i) (.int i)
  | str (s : Str) : Rep K w (.str s) (.str s)
  | ty (n : String) : Rep K w (.ty n) (.ty n)
  | lst {p : Addr} {vs : List V} {ds : List D} : w.F p = some (.lst vs) → Reps K w vs ds → Rep K w (.ref p) (.lst ds)
  | tup {p : Addr} {vs : List V} {ds : List D} : SqT K w.F p vs → Reps K w vs ds → Rep K w (.ref p) (.tup ds)
  | dK {p : Addr} {kvs : List (Key × V)} {kds : List (Key × D)} : w.F p = some (.dK kvs) → RepK K w kvs kds → Rep K w (.ref p) (.dK kds)
  | dT {p : Addr} {kvs : List (List Key × V)} {kds : List (List Key × D)} : w.F p = some (.dT kvs) → RepT K w kvs kds → Rep K w (.ref p) (.dT kds)
  | scr {p : Addr} {ns : List Int} : SqL K w.F p (ns.map V.int) → Rep K w (.ref p) (.scr ns)
  | obj {k : Nat} {a : Addr} : w.rho k = some a → Rep K w (.ref a) (.obj k)
  | exv0 {a : Addr} {c : String} : w.xa a = some (c, none) → Rep K w (.ref a) (.exv c [])
  | exv {a d : Addr} {c : String} {fv : List (Str × V)} {fs : List (Str × D)} : w.xa a = some (c, some d) → w.F d = some (.xd fv) → RepF K w fv fs → Rep K w (.ref a) (.exv c fs)
inductive Reps (K : PySem.W.Frag) (w : Wo) : List V → List D → Prop where
  | nil : Reps K w [] []
  | cons {v : V} {d : D} {vs : List V} {ds : List D} : Rep K w v d → Reps K w vs ds → Reps K w (v :: vs) (d :: ds)
inductive RepK (K : PySem.W.Frag) (w : Wo) : List (Key × V) → List (Key × D) → Prop where
  | nil : RepK K w [] []
  | cons {k : Key} {v : V} {d : D} {vs : List (Key × V)} {ds : List (Key × D)} : Rep K w v d → RepK K w vs ds → RepK K w ((k, v) :: vs) ((k, d) :: ds)
inductive RepT (K : PySem.W.Frag) (w : Wo) : List (List Key × V) → List (List Key × D) → Prop where
  | nil : RepT K w [] []
  | cons {k : List Key} {v : V} {d : D} {vs : List (List Key × V)} {ds : List (List Key × D)} : Rep K w v d → RepT K w vs ds → RepT K w ((k, v) :: vs) ((k, d) :: ds)
inductive RepF (K : PySem.W.Frag) (w : Wo) : List (Str × V) → List (Str × D) → Prop where
  | nil : RepF K w [] []
  | cons {k : Str} {v : V} {d : D} {vs : List (Str × V)} {ds : List (Str × D)} : Rep K w v d → RepF K w vs ds → RepF K w ((k, v) :: vs) ((k, d) :: ds)
end

def FLe (F F' : Hp) : Prop := ∀ a u, F a = some u → F' a = some u
def RLe (r r' : Nat → Option Addr) : Prop := ∀ k a, r k = some a → r' k = some a
theorem FLe.refl (F : Hp) : FLe F F := fun _ _ h => h
theorem FLe.trans {F G H : Hp} (a : FLe F G) (b : FLe G H) : FLe F H := fun c u h => b c u (a c u h)
theorem RLe.refl (r : Nat → Option Addr) : RLe r r := fun _ _ h => h
theorem RLe.trans {r s t : Nat → Option Addr} (a : RLe r s) (b : RLe s t) : RLe r t := fun c u h => b c u (a c u h)
structure WLe (w w' : Wo) : Prop where
  F : FLe w.F w'.F
  rho : RLe w.rho w'.rho
  xa : ∀ a c, w.xa a = some c → w'.xa a = some c
theorem WLe.refl (w : Wo) : WLe w w := ⟨FLe.refl _, RLe.refl _, fun _ _ h => h⟩
theorem WLe.trans {a b c : Wo} (h : WLe a b) (k : WLe b c) : WLe a c := ⟨h.F.trans k.F, h.rho.trans k.rho, fun x u e => k.xa x u (h.xa x u e)⟩

theorem SqT.fle {K : PySem.W.Frag} {F F' : Hp} {p : Addr} {vs : List V} (h : FLe F F') (s : SqT K F p vs) : SqT K F' p vs := by
  rcases s with (s | ⟨o, s⟩) | s
  · exact .inl (.inl (h _ _ s))
  · exact .inl (.inr ⟨o, h _ _ s⟩)
  · exact .inr s
theorem SqL.fle {K : PySem.W.Frag} {F F' : Hp} {p : Addr} {vs : List V} (h : FLe F F') (s : SqL K F p vs) : SqL K F' p vs := by
  rcases s with (s | ⟨o, s⟩) | s
  · exact .inl (.inl (h _ _ s))
  · exact .inl (.inr ⟨o, h _ _ s⟩)
  · exact .inr s
variable {K : PySem.W.Frag} {w w' : Wo}
mutual
theorem Rep.mono (h : WLe w w') : ∀ {v : V} {d : D}, Rep K w v d → Rep K w' v d
  | _, _, .non => .non
  | _, _, .bl b => .bl b
  | _, _, .int b => .int b
  | _, _, .str b => .str b
  | _, _, .ty b => .ty b
  | _, _, .lst e r => .lst (h.F _ _ e) (Reps.mono h r)
  | _, _, .tup e r => .tup (SqT.fle h.F e) (Reps.mono h r)
  | _, _, .dK e r => .dK (h.F _ _ e) (RepK.mono h r)
  | _, _, .dT e r => .dT (h.F _ _ e) (RepT.mono h r)
  | _, _, .scr e => .scr (SqL.fle h.F e)
  | _, _, .obj e => .obj (h.rho _ _ e)
  | _, _, .exv0 e => .exv0 (h.xa _ _ e)
  | _, _, .exv e f r => .exv (h.xa _ _ e) (h.F _ _ f) (RepF.mono h r)
theorem Reps.mono (h : WLe w w') : ∀ {v : List V} {d : List D}, Reps K w v d → Reps K w' v d
  | _, _, .nil => .nil
  | _, _, .cons a r => .cons (Rep.mono h a) (Reps.mono h r)
theorem RepK.mono (h : WLe w w') : ∀ {v : List (Key × V)} {d : List (Key × D)}, RepK K w v d → RepK K w' v d
  | _, _, .nil => .nil
  | _, _, .cons a r => .cons (Rep.mono h a) (RepK.mono h r)
theorem RepT.mono (h : WLe w w') : ∀ {v : List (List Key × V)} {d : List (List Key × D)}, RepT K w v d → RepT K w' v d
  | _, _, .nil => .nil
  | _, _, .cons a r => .cons (Rep.mono h a) (RepT.mono h r)
theorem RepF.mono (h : WLe w w') : ∀ {v : List (Str × V)} {d : List (Str × D)}, RepF K w v d → RepF K w' v d
  | _, _, .nil => .nil
  | _, _, .cons a r => .cons (Rep.mono h a) (RepF.mono h r)
end

/-! ### the frame's state -/
inductive Slot where
  | frz (d : D) | own (d : D)
instance : Inhabited Slot := ⟨.frz .non⟩
def Slot.get : Slot → D
  | .frz d => d
  | .own d => d
structure DSt where
  sl : List (Option Slot)
  so : Sto
/-- a value on the way: a variable, a fresh thing of one's own, a frozen thing -/
inductive Val where
  | vr (i : Nat) | own (d : D) | frz (d : D)
instance : Inhabited Val := ⟨.frz .non⟩
inductive R (α : Type) where
  | ok (a : α) (st : DSt) | exc (c : String) (fs : List (Str × D)) (st : DSt)
abbrev M (α : Type) := DSt → Option (R α)
def M.pure {α : Type} (a : α) : M α := fun st => some (.ok a st)
def M.bind {α β : Type} (m : M α) (f : α → M β) : M β := fun st => match m st with
  | none => none
  | some (.exc c fs st') => some (.exc c fs st')
  | some (.ok a st') => f a st'
def DSt.slot (st : DSt) (i : Nat) : Option Slot := match st.sl[i]? with
  | some (some s) => some s
  | _ => none
def Val.get (st : DSt) : Val → Option D
  | .vr i => (st.slot i).map Slot.get
  | .own d => some d
  | .frz d => some d

/-! ### the world holds the state -/
/-- the object at p is a thing of one's own, its items frozen -/
def ORep (K : PySem.W.Frag) (w : Wo) (H : Hp) (p : Addr) : D → Prop
  | .lst ds => ∃ vs, H p = some (.lst vs) ∧ Reps K w vs ds
  | .dK kds => ∃ kvs, H p = some (.dK kvs) ∧ RepK K w kvs kds
  | .dT kds => ∃ kvs, H p = some (.dT kvs) ∧ RepT K w kvs kds
  | _ => False
/-- an object of the store -/
def ObRep (K : PySem.W.Frag) (w : Wo) (H : Hp) (k : Nat) : SObj → Prop
  | .dic kvs => ∃ a kv, w.rho k = some a ∧ w.ow a = some k ∧ H a = some (.dK kv) ∧ RepK K w kv kvs
  | .gone => True
def isDict : HO → Bool
  | .dK _ => true
  | .dT _ => true
  | _ => false
/-- what is frozen stands in the heap (a dict perhaps locked) -/
def Sub (F H : Hp) : Prop := ∀ a u, F a = some u → H a = some u ∨ (isDict u = true ∧ ∃ o, H a = some (.frz o u))
/-- an exception's object, as long as it stands -/
def xO (a C : Addr) (d : Option Addr) : HO := .ext fun h => ∃ oe : Obj, h.get? a = some oe ∧ oe.cls = .ref C ∧ oe.dict = d ∧ ∃ vs, oe.data = .fields vs
/-- what of the context the world hangs on -/
structure Cn where
  K : PySem.W.Frag
  G : String → Option Addr
  pn : List (Addr × Obj)
/-- of a context -/
def cn (G : String → Option Addr) (X : Cx) : Cn := ⟨X.K, G, []⟩
structure WdS (n : Cn) (w : Wo) (so : Sto) (H : Hp) : Prop where
  sub : Sub w.F H
  own : ∀ a k, w.ow a = some k → w.F a = none ∧ H a ≠ none
  sto : ∀ k o, so[k]? = some o → ObRep n.K w H k o
  rb : ∀ k a, w.rho k = some a → k < so.length
  exs : ∀ a c d, w.xa a = some (c, d) → ∃ C, n.G c = some C ∧ ((H a = some (xO a C d) ∧ w.F a = some (xO a C d)) ∨ ∃ oe : Obj, (a, oe) ∈ n.pn ∧ oe.cls = .ref C ∧ oe.dict = d ∧ ∃ vs, oe.data = .fields vs)
def Mu (st : DSt) (σ : L2.St) (a : Addr) : Prop := ∃ i d, st.slot i = some (.own d) ∧ σ[i]? = some (some (.ref a))
structure Wd (n : Cn) (w : Wo) (st : DSt) (σ : L2.St) (H : Hp) : Prop extends WdS n w st.so H where
  len : st.sl.length = σ.length
  frz : ∀ i d, st.slot i = some (.frz d) → ∃ v, σ[i]? = some (some v) ∧ Rep n.K w v d
  ownS : ∀ i d, st.slot i = some (.own d) → ∃ p, σ[i]? = some (some (.ref p)) ∧ w.F p = none ∧ w.ow p = none ∧ ORep n.K w H p d
  dis : ∀ i j d e p, st.slot i = some (.own d) → st.slot j = some (.own e) → σ[i]? = some (some (.ref p)) → σ[j]? = some (some (.ref p)) → i = j
/-- how the world goes on: what is neither the store's nor at M stays -/
structure Ev (M : Addr → Prop) (w : Wo) (H : Hp) (M' : Addr → Prop) (w' : Wo) (H' : Hp) : Prop where
  keep : ∀ a o, H a = some o → w.ow a = none → ¬ M a → H' a = some o ∧ w'.F a = w.F a ∧ w'.ow a = none
  le : WLe w w'
  new : ∀ a, M' a → M a ∨ H a = none
  dom : ∀ a, H a ≠ none → H' a ≠ none
theorem Ev.refl (M : Addr → Prop) (w : Wo) (H : Hp) : Ev M w H M w H := ⟨fun _ _ h o _ => ⟨h, rfl, o⟩, .refl w, fun _ h => .inl h, fun _ h => h⟩
theorem Ev.trans {M M1 M2 : Addr → Prop} {w w1 w2 : Wo} {H H1 H2 : Hp} (a : Ev M w H M1 w1 H1) (b : Ev M1 w1 H1 M2 w2 H2) : Ev M w H M2 w2 H2 where
  keep := fun x o h ho hm => by
    obtain ⟨h1, f1, o1⟩ := a.keep x o h ho hm
    obtain ⟨h2, f2, o2⟩ := b.keep x o h1 o1 (fun z => (a.new x z).elim hm fun q => by rw [h] at q; cases q)
    exact ⟨h2, f2.trans f1, o2⟩
  le := a.le.trans b.le
  new := fun x h => by
    rcases b.new x h with h1 | h1
    · exact a.new x h1
    · refine .inr ?_
      cases e : H x with
      | none => rfl
      | some o => exact absurd h1 (a.dom x (by rw [e]; simp))
  dom := fun x h => b.dom x (a.dom x h)
/-- a value stands for what it is told; H0: the heap ahead of it -/
def VRep (K : PySem.W.Frag) (H0 : Hp) (w : Wo) (st : DSt) (σ : L2.St) (H : Hp) (v : V) : Val → Prop
  | .vr i => σ[i]? = some (some v)
  | .frz d => Rep K w v d
  | .own d => ∃ p, v = .ref p ∧ H0 p = none ∧ w.F p = none ∧ w.ow p = none ∧ ¬ Mu st σ p ∧ ORep K w H p d
/-- an exception's fields by its own dict -/
def XRep (K : PySem.W.Frag) (H0 : Hp) (w : Wo) (H : Hp) (d : Option Addr) (fs : List (Str × D)) : Prop :=
  (d = none ∧ fs = []) ∨ ∃ dd fv, d = some dd ∧ H0 dd = none ∧ H dd = some (.xd fv) ∧ w.F dd = none ∧ w.ow dd = none ∧ RepF K w fv fs
/-- what is wanted of an exception at the slots -/
def WExc (n : Cn) (W : WX) (w : Wo) (st : DSt) (σ : L2.St) (H : Hp) (c : String) (fs : List (Str × D)) (st' : DSt) : Prop :=
  ∀ w' σ' H' C d, n.G c = some C → Ev (Mu st σ) w H (Mu st' σ') w' H' → Wd n w' st' σ' H' → XRep n.K H w' H' d fs → W (.ref C) d σ' H'
/-- an expression, a test, arguments .. : VR says how a value stands for what is told -/
def Post {α β : Type} (VR : Hp → Wo → DSt → L2.St → Hp → β → α → Prop) (n : Cn) (W : WX) (w : Wo) (st : DSt) (σ : L2.St) (H : Hp) (Q : β → Hp → Prop) : Option (R α) → Prop
  | none => False
  | some (.ok val st') => ∀ w' H' v, Ev (Mu st σ) w H (Mu st' σ) w' H' → Wd n w' st' σ H' → VR H w' st' σ H' v val → Q v H'
  | some (.exc c fs st') => WExc n W w st σ H c fs st'

/-! ### lemmas of the world -/
/-- how a value is read -/
def View (K : PySem.W.Frag) (w : Wo) (H : Hp) (v : V) : D → Prop
  | .lst ds => ∃ p vs, v = .ref p ∧ H p = some (.lst vs) ∧ Reps K w vs ds
  | .tup ds => ∃ p vs, v = .ref p ∧ SqT K H p vs ∧ Reps K w vs ds ∧ Rep K w v (.tup ds)
  | .dK kds => ∃ p kvs, v = .ref p ∧ Rd H p (.dK kvs) ∧ RepK K w kvs kds
  | .dT kds => ∃ p kvs, v = .ref p ∧ Rd H p (.dT kvs) ∧ RepT K w kvs kds
  | .scr ns => ∃ p, v = .ref p ∧ SqL K H p (ns.map V.int)
  | d => Rep K w v d
theorem sub_scr {F H : Hp} (s : Sub F H) {p : Addr} {vs : List V} (h : SqL K F p vs) : SqL K H p vs := by
  rcases h with (h | ⟨o, h⟩) | h
  · rcases s _ _ h with e | ⟨e, _⟩
    · exact .inl (.inl e)
    · cases e
  · rcases s _ _ h with e | ⟨e, _⟩
    · exact .inl (.inr ⟨o, e⟩)
    · cases e
  · exact .inr h
theorem sub_tup {F H : Hp} (s : Sub F H) {p : Addr} {vs : List V} (h : SqT K F p vs) : SqT K H p vs := by
  rcases h with (h | ⟨o, h⟩) | h
  · rcases s _ _ h with e | ⟨e, _⟩
    · exact .inl (.inl e)
    · cases e
  · rcases s _ _ h with e | ⟨e, _⟩
    · exact .inl (.inr ⟨o, e⟩)
    · cases e
  · exact .inr h
theorem sub_lst {F H : Hp} (s : Sub F H) {p : Addr} {vs : List V} (h : F p = some (.lst vs)) : H p = some (.lst vs) := by
  rcases s _ _ h with e | ⟨e, _⟩
  · exact e
  · cases e
theorem sub_ne {F H : Hp} (s : Sub F H) {p : Addr} (h : H p = none) : F p = none := by
  cases e : F p with
  | none => rfl
  | some u =>
    rcases s _ _ e with q | ⟨_, _, q⟩ <;> rw [h] at q <;> cases q
theorem Rep.view {n : Cn} {so : Sto} {H : Hp} (W : WdS n w so H) : ∀ {v : V} {d : D}, Rep n.K w v d → View n.K w H v d
  | _, _, .non => .non
  | _, _, .bl b => .bl b
  | _, _, .int b => .int b
  | _, _, .str b => .str b
  | _, _, .ty b => .ty b
  | _, _, .lst e r => ⟨_, _, rfl, sub_lst W.sub e, r⟩
  | _, _, .tup e r => ⟨_, _, rfl, sub_tup W.sub e, r, .tup e r⟩
  | _, _, .dK e r => ⟨_, _, rfl, by
      rcases W.sub _ _ e with q | ⟨_, o, q⟩
      · exact .inl q
      · exact .inr ⟨o, q⟩, r⟩
  | _, _, .dT e r => ⟨_, _, rfl, by
      rcases W.sub _ _ e with q | ⟨_, o, q⟩
      · exact .inl q
      · exact .inr ⟨o, q⟩, r⟩
  | _, _, .scr e => ⟨_, rfl, sub_scr W.sub e⟩
  | _, _, .obj e => .obj e
  | _, _, .exv0 e => .exv0 e
  | _, _, .exv e f r => .exv e f r
theorem ORep.view {H : Hp} {p : Addr} : ∀ {d : D}, ORep K w H p d → View K w H (.ref p) d
  | .lst _, ⟨vs, e, r⟩ => ⟨p, vs, rfl, e, r⟩
  | .dK _, ⟨vs, e, r⟩ => ⟨p, vs, rfl, .inl e, r⟩
  | .dT _, ⟨vs, e, r⟩ => ⟨p, vs, rfl, .inl e, r⟩
theorem ORep.ne {H : Hp} {p : Addr} : ∀ {d : D}, ORep K w H p d → H p ≠ none
  | .lst _, ⟨vs, e, r⟩ => by rw [e]; simp
  | .dK _, ⟨vs, e, r⟩ => by rw [e]; simp
  | .dT _, ⟨vs, e, r⟩ => by rw [e]; simp
theorem ORep.mono {H H' : Hp} {p : Addr} (l : WLe w w') (h : H' p = H p) : ∀ {d : D}, ORep K w H p d → ORep K w' H' p d
  | .lst _, ⟨vs, e, r⟩ => ⟨vs, h.trans e, r.mono l⟩
  | .dK _, ⟨vs, e, r⟩ => ⟨vs, h.trans e, r.mono l⟩
  | .dT _, ⟨vs, e, r⟩ => ⟨vs, h.trans e, r.mono l⟩
/-- frozen as it stands -/
theorem ORep.frz {H : Hp} {p : Addr} {o : HO} (l : WLe w w') (e : H p = some o) (f : w'.F p = some o) : ∀ {d : D}, ORep K w H p d → Rep K w' (.ref p) d
  | .lst _, ⟨vs, e', r⟩ => .lst (f.trans (e.symm.trans e')) (r.mono l)
  | .dK _, ⟨vs, e', r⟩ => .dK (f.trans (e.symm.trans e')) (r.mono l)
  | .dT _, ⟨vs, e', r⟩ => .dT (f.trans (e.symm.trans e')) (r.mono l)
theorem VRep.view {n : Cn} {H0 H : Hp} {st : DSt} {σ : L2.St} {v : V} {d : D} (W : Wd n w st σ H) : ∀ {val : Val}, VRep n.K H0 w st σ H v val → val.get st = some d → View n.K w H v d
  | .frz _, r, e => by
    cases e
    exact Rep.view W.toWdS r
  | .own _, ⟨p, ev, _, _, _, _, r⟩, e => by
    cases e
    subst ev
    exact ORep.view r
  | .vr i, r, e => by
    have e : (st.slot i).map Slot.get = some d := e
    cases q : st.slot i with
    | none => rw [q] at e; cases e
    | some s =>
      rw [q] at e
      cases s with
      | frz d' =>
        cases e
        obtain ⟨v', e', r'⟩ := W.frz i _ q
        have z : v = v' := by
          have := r.symm.trans e'
          simpa using this
        subst z
        exact Rep.view W.toWdS r'
      | own d' =>
        cases e
        obtain ⟨p, e', _, _, r'⟩ := W.ownS i _ q
        have z : v = .ref p := by
          have := r.symm.trans e'
          simpa using this
        subst z
        exact ORep.view r'
theorem Mu.not_of {st : DSt} {σ : L2.St} {n : Cn} {H : Hp} {p : Addr} (W : Wd n w st σ H) (h : H p = none) : ¬ Mu st σ p := fun ⟨i, d, e, e'⟩ => by
  obtain ⟨q, e1, _, _, r⟩ := W.ownS i d e
  have z : p = q := by
    have := e'.symm.trans e1
    simpa using this
  subst z
  exact r.ne h
/-- pending values stand -/
theorem VRep.keep {H0 H H' : Hp} {st st' : DSt} {σ : L2.St} {v : V} (E : Ev (Mu st σ) w H (Mu st' σ) w' H') : ∀ {val : Val}, VRep K H0 w st σ H v val → VRep K H0 w' st' σ H' v val
  | .frz _, r => Rep.mono E.le r
  | .own _, ⟨p, ev, h0, hf, ho, hm, r⟩ => by
    cases e : H p with
    | none => exact absurd e r.ne
    | some o =>
      obtain ⟨k1, k2, k3⟩ := E.keep p o e ho hm
      have nm : ¬ Mu st' σ p := fun z => (E.new p z).elim hm fun q => by
        rw [e] at q
        cases q
      exact ⟨p, ev, h0, k2.trans hf, k3, nm, r.mono E.le (k1.trans e.symm)⟩
  | .vr _, r => r
theorem VRep.anti {H0 H1 H : Hp} {st : DSt} {σ : L2.St} {v : V} (h : ∀ a, H0 a ≠ none → H1 a ≠ none) : ∀ {val : Val}, VRep K H1 w st σ H v val → VRep K H0 w st σ H v val
  | .frz _, r => r
  | .own _, ⟨p, ev, h0, r⟩ => ⟨p, ev, by
      cases e : H0 p with
      | none => rfl
      | some o => exact absurd h0 (h p (by rw [e]; simp)), r⟩
  | .vr _, r => r
theorem upd_dom {H : Hp} {p : Addr} {o : HO} : ∀ a, H a ≠ none → upd H p o a ≠ none := fun a h => by
  by_cases e : a = p
  · subst e; rw [upd_same]; simp
  · rw [upd_ne e]; exact h
theorem ObRep.frame {H H' : Hp} {k : Nat} (l : WLe w w') (h : ∀ a, w.ow a = some k → H' a = H a ∧ w'.ow a = some k) : ∀ {o : SObj}, ObRep K w H k o → ObRep K w' H' k o
  | .dic _, ⟨a, kv, e1, e2, e3, r⟩ => ⟨a, kv, l.rho _ _ e1, (h a e2).2, (h a e2).1.trans e3, RepK.mono l r⟩
  | .gone, _ => trivial
/-- a new object is laid -/
theorem WdS.alloc {n : Cn} {so : Sto} {H : Hp} {p : Addr} {o : HO} (W : WdS n w so H) (h : H p = none) : WdS n w so (upd H p o) where
  sub := fun a u e => by
    have ne : a ≠ p := fun z => by
      subst z
      rw [sub_ne W.sub h] at e; cases e
    rw [upd_ne ne]
    exact W.sub a u e
  own := fun a k e => ⟨(W.own a k e).1, upd_dom a (W.own a k e).2⟩
  sto := fun k o' e => (W.sto k o' e).frame (.refl w) fun a ha => ⟨upd_ne fun z => by
    subst z
    exact (W.own _ _ ha).2 h, ha⟩
  rb := W.rb
  exs := fun a c d e => by
    obtain ⟨C, g, q⟩ := W.exs a c d e
    refine ⟨C, g, q.imp (fun q => ⟨?_, q.2⟩) id⟩
    rw [upd_ne (ne_of_none q.1 h)]
    exact q.1
theorem Wd.alloc {n : Cn} {st : DSt} {σ : L2.St} {H : Hp} {p : Addr} {o : HO} (W : Wd n w st σ H) (h : H p = none) : Wd n w st σ (upd H p o) where
  toWdS := W.toWdS.alloc h
  len := W.len
  frz := W.frz
  ownS := fun i d e => by
    obtain ⟨q, e1, e2, e3, r⟩ := W.ownS i d e
    refine ⟨q, e1, e2, e3, r.mono (.refl w) (upd_ne fun z => ?_)⟩
    subst z
    exact r.ne h
  dis := W.dis
theorem Ev.alloc {M : Addr → Prop} {H : Hp} {p : Addr} {o : HO} (h : H p = none) : Ev M w H M w (upd H p o) where
  keep := fun a u e ho _ => ⟨by rw [upd_ne (ne_of_none e h)]; exact e, rfl, ho⟩
  le := .refl w
  new := fun _ h => .inl h
  dom := upd_dom
theorem WdS.own_none {n : Cn} {so : Sto} {H : Hp} {p : Addr} (W : WdS n w so H) (h : H p = none) : w.ow p = none := by
  cases e : w.ow p with
  | none => rfl
  | some k => exact absurd h (W.own p k e).2
/-- the world with p frozen -/
def Wo.fz (w : Wo) (p : Addr) (o : HO) : Wo := { w with F := upd w.F p o }
theorem Wo.fz_le {p : Addr} {o : HO} (h : w.F p = none) : WLe w (w.fz p o) := ⟨fun a u e => by
  show upd w.F p o a = some u
  rw [upd_ne fun z => by subst z; rw [h] at e; cases e]
  exact e, .refl _, fun _ _ e => e⟩
theorem WdS.fz {n : Cn} {so : Sto} {H : Hp} {p : Addr} {o : HO} (W : WdS n w so H) (hp : H p = some o) (hf : w.F p = none) (ho : w.ow p = none) : WdS n (w.fz p o) so H where
  sub := fun a u e => by
    have e' : upd w.F p o a = some u := e
    by_cases z : a = p
    · subst z
      rw [upd_same] at e'
      cases e'
      exact .inl hp
    · rw [upd_ne z] at e'
      exact W.sub a u e'
  own := fun a k e => ⟨by
    show upd w.F p o a = none
    rw [upd_ne fun z => by subst z; rw [show w.ow a = some k from e] at ho; cases ho]
    exact (W.own a k e).1, (W.own a k e).2⟩
  sto := fun k o' e => (W.sto k o' e).frame (Wo.fz_le hf) fun a ha => ⟨rfl, ha⟩
  rb := W.rb
  exs := fun a c d e => by
    obtain ⟨C, g, q⟩ := W.exs a c d e
    exact ⟨C, g, q.imp (fun q => ⟨q.1, (Wo.fz_le hf).F _ _ q.2⟩) id⟩
theorem Wd.fz {n : Cn} {st : DSt} {σ : L2.St} {H : Hp} {p : Addr} {o : HO} (W : Wd n w st σ H) (hp : H p = some o) (hf : w.F p = none) (ho : w.ow p = none) (hm : ¬ Mu st σ p) : Wd n (w.fz p o) st σ H where
  toWdS := W.toWdS.fz hp hf ho
  len := W.len
  frz := fun i d e => by
    obtain ⟨v, e1, r⟩ := W.frz i d e
    exact ⟨v, e1, r.mono (Wo.fz_le hf)⟩
  ownS := fun i d e => by
    obtain ⟨q, e1, e2, e3, r⟩ := W.ownS i d e
    refine ⟨q, e1, ?_, e3, r.mono (Wo.fz_le hf) rfl⟩
    show upd w.F p o q = none
    rw [upd_ne fun z => hm ⟨i, d, e, by rw [← z]; exact e1⟩]
    exact e2
  dis := W.dis
/-- .. as a step from where p wasn't -/
theorem Ev.fz {M M1 : Addr → Prop} {w0 : Wo} {H0 H : Hp} {p : Addr} {o : HO} (E : Ev M w0 H0 M1 w H) (h0 : H0 p = none) (hf : w.F p = none) : Ev M w0 H0 M1 (w.fz p o) H where
  keep := fun a u e ho hm => by
    obtain ⟨h1, h2, h3⟩ := E.keep a u e ho hm
    refine ⟨h1, ?_, h3⟩
    show upd w.F p o a = w0.F a
    rw [upd_ne (ne_of_none e h0)]
    exact h2
  le := E.le.trans (Wo.fz_le hf)
  new := E.new
  dom := E.dom
end FB

/-! FBExpr: the judgements and the rules of expressions. -/
namespace FB
open PySem PySem.Spec PyProof.Rows L2

abbrev VRel (α β : Type) := Hp → Wo → DSt → L2.St → Hp → β → α → Prop
structure Anti {α β : Type} (VR : VRel α β) : Prop where
  to : ∀ {H0 H1 : Hp} {w : Wo} {st : DSt} {σ : L2.St} {H : Hp} {v : β} {x : α}, (∀ a, H0 a ≠ none → H1 a ≠ none) → VR H1 w st σ H v x → VR H0 w st σ H v x
theorem anti_V {K : PySem.W.Frag} : Anti (VRep K) := ⟨fun h r => VRep.anti h r⟩
def BR : VRel Bool Bool := fun _ _ _ _ _ v b => v = b
theorem anti_B : Anti BR := ⟨fun _ r => r⟩
structure VReps (K : PySem.W.Frag) (H0 : Hp) (w : Wo) (st : DSt) (σ : L2.St) (H : Hp) (vs : List V) (xs : List Val) : Prop where
  ps : Paired (fun v x => VRep K H0 w st σ H v x) vs xs
  ds : ∀ (i j : Nat) (d e : D) (p : Addr), i < j → xs[i]? = some (Val.own d) → xs[j]? = some (Val.own e) → vs[i]? = some (V.ref p) → vs[j]? = some (V.ref p) → False
theorem paired_imp {α β : Type} {F G : α → β → Prop} (h : ∀ a b, F a b → G a b) : ∀ {l : List α} {m : List β}, Paired F l m → Paired G l m
  | _, _, .nil => .nil
  | _, _, .cons a r => .cons (h _ _ a) (paired_imp h r)
theorem anti_Vs {K : PySem.W.Frag} : Anti (VReps K) := ⟨fun h r => ⟨paired_imp (fun _ _ r => VRep.anti h r) r.ps, r.ds⟩⟩
theorem XRep.anti {K : PySem.W.Frag} {H0 H1 H : Hp} {w : Wo} {d : Option Addr} {fs : List (Str × D)} (h : ∀ a, H0 a ≠ none → H1 a ≠ none) (x : XRep K H1 w H d fs) : XRep K H0 w H d fs := by
  rcases x with x | ⟨dd, fv, e, h0, r⟩
  · exact .inl x
  · refine .inr ⟨dd, fv, e, ?_, r⟩
    cases q : H0 dd with
    | none => rfl
    | some o => exact absurd h0 (h dd (by rw [q]; simp))

section
variable {α β α' β' : Type} {VRa : VRel α α'} {VRb : VRel β β'} {n : Cn} {W : WX} {w w1 : Wo} {st st1 : DSt} {σ : L2.St} {H H1 : Hp} {Q : β' → Hp → Prop}
theorem WExc.after {c : String} {fs : List (Str × D)} {st' : DSt} {σ1 : L2.St} (E : Ev (Mu st σ) w H (Mu st1 σ1) w1 H1) (h : WExc n W w st σ H c fs st') : WExc n W w1 st1 σ1 H1 c fs st' :=
  fun w' σ' H' C d g E' W' x => h w' σ' H' C d g (E.trans E') W' (x.anti E.dom)
theorem Post.after (anti : Anti VRb) (E : Ev (Mu st σ) w H (Mu st1 σ) w1 H1) : ∀ {r : Option (R β)}, Post VRb n W w st σ H Q r → Post VRb n W w1 st1 σ H1 Q r
  | none, h => h
  | some (.ok _ _), h => fun w' H' v E' W' r => h w' H' v (E.trans E') W' (anti.to E.dom r)
  | some (.exc _ _ _), h => WExc.after E h
theorem Post.imp {Q' : β' → Hp → Prop} (hq : ∀ v H', Q v H' → Q' v H') : ∀ {r : Option (R β)}, Post VRb n W w st σ H Q r → Post VRb n W w st σ H Q' r
  | none, h => h
  | some (.ok _ _), h => fun w' H' v E' W' r => hq _ _ (h w' H' v E' W' r)
  | some (.exc _ _ _), h => h
theorem Post.bind {w0 : Wo} {st0 : DSt} {H0 : Hp} {m : M α} {f : α → M β} (E0 : Ev (Mu st0 σ) w0 H0 (Mu st σ) w H) (h : Post VRb n W w0 st0 σ H0 Q (M.bind m f st)) :
    Post VRa n W w st σ H (fun v H1 => ∃ w1 st1 x, Wd n w1 st1 σ H1 ∧ Ev (Mu st σ) w H (Mu st1 σ) w1 H1 ∧ VRa H w1 st1 σ H1 v x ∧ Post VRb n W w0 st0 σ H0 Q (f x st1)) (m st) := by
  unfold M.bind at h
  cases e : m st with
  | none =>
    rw [e] at h
    exact h
  | some r =>
    rw [e] at h
    cases r with
    | exc c fs st' => exact WExc.after E0 h
    | ok x st' => exact fun w' H' v E W' r => ⟨w', st', x, W', E, r, h⟩
end

def tE (G : String → Option Addr) (X : Cx) (W : WX) (m : M Val) : TE := fun σ H Q => ∃ w st, Wd (cn G X) w st σ H ∧ Post (VRep X.K) (cn G X) W w st σ H Q (m st)
def tB (G : String → Option Addr) (X : Cx) (W : WX) (m : M Bool) : TT := fun σ H Q => ∃ w st, Wd (cn G X) w st σ H ∧ Post BR (cn G X) W w st σ H Q (m st)
def tA (G : String → Option Addr) (X : Cx) (W : WX) (m : M (List Val)) : TA := fun σ H Q => ∃ w st, Wd (cn G X) w st σ H ∧ Post (VReps X.K) (cn G X) W w st σ H Q (m st)
abbrev GE (G : String → Option Addr) (X : Cx) (W : WX) (e : Expr) (m : M Val) : Prop := PE X e (tE G X W m)
abbrev GT (G : String → Option Addr) (X : Cx) (W : WX) (e : Expr) (m : M Bool) : Prop := PT X e (tB G X W m)
abbrev GW (G : String → Option Addr) (X : Cx) (W : WX) (e : Expr) (m : M Bool) : Prop := PW X e (tB G X W m)
abbrev GA (G : String → Option Addr) (X : Cx) (W : WX) (es : List Expr) (m : M (List Val)) : Prop := PA X es (tA G X W m)
theorem PE_imp {X : Cx} {e : Expr} {t t' : TE} (h : PE X e t) (i : ∀ σ H Q, t' σ H Q → t σ H Q) : PE X e t' := ⟨fun p s σ H Q I q => h.run p s σ H Q I (i _ _ _ q)⟩
theorem PT_imp {X : Cx} {e : Expr} {t t' : TT} (h : PT X e t) (i : ∀ σ H Q, t' σ H Q → t σ H Q) : PT X e t' := ⟨fun p s σ H Q I q => h.run p s σ H Q I (i _ _ _ q)⟩
theorem PW_imp {X : Cx} {e : Expr} {t t' : TT} (h : PW X e t) (i : ∀ σ H Q, t' σ H Q → t σ H Q) : PW X e t' := ⟨fun w p s σ H Q I q => h.run w p s σ H Q I (i _ _ _ q)⟩
theorem PA_imp {X : Cx} {e : List Expr} {t t' : TA} (h : PA X e t) (i : ∀ σ H Q, t' σ H Q → t σ H Q) : PA X e t' := ⟨fun w p s σ H Q I q => h.run w p s σ H Q I (i _ _ _ q)⟩

/-! ### denotations -/
def Slot.val : Slot → Val
  | .frz d => .frz d
  | .own d => .own d
def mC (d : D) : M Val := M.pure (.frz d)
def mVar (i : Nat) : M Val := fun st => match st.slot i with
  | some _ => some (.ok (.vr i) st)
  | none => none
/-- what an optional slot gives -/
def mSlot (o : Option Slot) : M Val := fun st => match o with
  | some s => some (.ok s.val st)
  | none => none
def mGet (v : Val) : M D := fun st => match v.get st with
  | some d => some (.ok d st)
  | none => none
def mOp1 (f : D → Option Slot) (a : Val) : M Val := M.bind (mGet a) fun d => mSlot (f d)
def mOp2 (f : D → D → Option Slot) (a b : Val) : M Val := M.bind (mGet a) fun d => M.bind (mGet b) fun e => mSlot (f d e)
def mBin (f : D → D → Option Slot) (ma mb : M Val) : M Val := M.bind ma fun a => M.bind mb fun b => mOp2 f a b
def mUn (f : D → Option Slot) (ma : M Val) : M Val := M.bind ma fun a => mOp1 f a

section
variable {G : String → Option Addr} {X : Cx} {W : WX} {e a b c : Expr} {ma mb mc : M Val} {pos : Pos}
theorem ge_const {d : D} {v : V} (h : PE X e (tC v)) (r : ∀ w, Rep X.K w v d) : GE G X W e (mC d) :=
  PE_imp h fun σ H Q ⟨w, st, W0, P⟩ => P w H v (.refl _ _ _) W0 (r w)
theorem ge_int {i j} : GE G X W (.Constant (.int i) j pos) (mC (.int i)) := ge_const pe_int fun _ => .int i
theorem ge_bl {i j} : GE G X W (.Constant (.bool i) j pos) (mC (.bl i)) := ge_const pe_bl fun _ => .bl i
theorem ge_non {j} : GE G X W (.Constant .none j pos) (mC .non) := ge_const pe_non fun _ => .non
theorem ge_str {i j} : GE G X W (.Constant (.str i) j pos) (mC (.str i)) := ge_const pe_str fun _ => .str i
theorem Wd.var {n : Cn} {w : Wo} {st : DSt} {σ : L2.St} {H : Hp} (W : Wd n w st σ H) {i : Nat} {s : Slot} (h : st.slot i = some s) : ∃ v, σ[i]? = some (some v) := by
  cases s with
  | frz d =>
    obtain ⟨v, e, _⟩ := W.frz i d h
    exact ⟨v, e⟩
  | own d =>
    obtain ⟨v, e, _⟩ := W.ownS i d h
    exact ⟨_, e⟩
theorem ge_v {i : Nat} (h : PE X e (tVar i)) : GE G X W e (mVar i) := PE_imp h fun σ H Q ⟨w, st, W0, P⟩ => by
  unfold mVar at P
  cases q : st.slot i with
  | none =>
    rw [q] at P
    exact P.elim
  | some s =>
    rw [q] at P
    obtain ⟨v, e⟩ := W0.var q
    exact ⟨v, e, P w H v (.refl _ _ _) W0 e⟩
/-- a name: the slot i -/
theorem ge_var (i : Nat) {x : Str} (hN : X.N[i]? = some x := by rfl) (hv : Vis X.env.scope x := by first | exact Or.inl rfl | exact Or.inr (Or.inl rfl) | exact Or.inr (Or.inr rfl)) (hd : (x == ("__debug__" : Str)) = false := by decide)
    (hcd : (x == ("__classdict__" : Str)) = false := by decide) : GE G X W (.Name x pos) (mVar i) := ge_v (pe_var hN hv hd hcd)

/-- an operation on two values does what is told -/
def OpS (G : String → Option Addr) (X : Cx) (r : R2) (f : D → D → Option Slot) : Prop :=
  ∀ (w : Wo) (st : DSt) (σ : L2.St) (H : Hp) (x y : V) (d1 d2 : D) (s : Slot) (Q : VK), Wd (cn G X) w st σ H → View X.K w H x d1 → View X.K w H y d2 → f d1 d2 = some s →
    (∀ w' H' v, Ev (Mu st σ) w H (Mu st σ) w' H' → Wd (cn G X) w' st σ H' → VRep X.K H w' st σ H' v s.val → Q v H') → r x y H Q
def UnS (G : String → Option Addr) (X : Cx) (r : V → Hp → VK → Prop) (f : D → Option Slot) : Prop :=
  ∀ (w : Wo) (st : DSt) (σ : L2.St) (H : Hp) (x : V) (d1 : D) (s : Slot) (Q : VK), Wd (cn G X) w st σ H → View X.K w H x d1 → f d1 = some s →
    (∀ w' H' v, Ev (Mu st σ) w H (Mu st σ) w' H' → Wd (cn G X) w' st σ H' → VRep X.K H w' st σ H' v s.val → Q v H') → r x H Q
theorem mGet_ok {n : Cn} {w : Wo} {st0 st : DSt} {σ : L2.St} {H : Hp} {β β' : Type} {VRb : VRel β β'} {Q : β' → Hp → Prop} {v : Val} {f : D → M β} (h : Post VRb n W w st0 σ H Q (M.bind (mGet v) f st)) :
    ∃ d, v.get st = some d ∧ Post VRb n W w st0 σ H Q (f d st) := by
  unfold M.bind mGet at h
  cases e : v.get st with
  | none => rw [e] at h; exact h.elim
  | some d => rw [e] at h; exact ⟨d, rfl, h⟩
theorem mSlot_ok {n : Cn} {w : Wo} {st0 st : DSt} {σ : L2.St} {H : Hp} {β' : Type} {VRb : VRel Val β'} {Q : β' → Hp → Prop} {o : Option Slot} (h : Post VRb n W w st0 σ H Q (mSlot o st)) :
    ∃ s, o = some s ∧ Post VRb n W w st0 σ H Q (some (.ok s.val st)) := by
  cases o with
  | none => exact h.elim
  | some s => exact ⟨s, rfl, h⟩
theorem op2_ok {r : R2} {f : D → D → Option Slot} (hs : OpS G X r f) {w w0 : Wo} {st st0 : DSt} {σ : L2.St} {H H0 Ha Hb : Hp} {Q : VK} {va vb : Val} {x y : V} (W0 : Wd (cn G X) w st σ H) (E0 : Ev (Mu st0 σ) w0 H0 (Mu st σ) w H)
    (Ra : VRep X.K Ha w st σ H x va) (Rb : VRep X.K Hb w st σ H y vb) (P : Post (VRep X.K) (cn G X) W w0 st0 σ H0 Q (mOp2 f va vb st)) : r x y H Q := by
  obtain ⟨d, e1, P⟩ := mGet_ok P
  obtain ⟨d', e2, P⟩ := mGet_ok P
  obtain ⟨s, e3, P⟩ := mSlot_ok P
  exact hs w st σ H x y d d' s Q W0 (VRep.view W0 Ra e1) (VRep.view W0 Rb e2) e3 fun w' H' v E W' R => P w' H' v (E0.trans E) W' (R.anti E0.dom)
theorem op1_ok {r : V → Hp → VK → Prop} {f : D → Option Slot} (hs : UnS G X r f) {w w0 : Wo} {st st0 : DSt} {σ : L2.St} {H H0 Ha : Hp} {Q : VK} {va : Val} {x : V} (W0 : Wd (cn G X) w st σ H) (E0 : Ev (Mu st0 σ) w0 H0 (Mu st σ) w H)
    (Ra : VRep X.K Ha w st σ H x va) (P : Post (VRep X.K) (cn G X) W w0 st0 σ H0 Q (mOp1 f va st)) : r x H Q := by
  obtain ⟨d, e1, P⟩ := mGet_ok P
  obtain ⟨s, e3, P⟩ := mSlot_ok P
  exact hs w st σ H x d s Q W0 (VRep.view W0 Ra e1) e3 fun w' H' v E W' R => P w' H' v (E0.trans E) W' (R.anti E0.dom)
theorem tE_bind {β β' : Type} {VRb : VRel β β'} {w w0 : Wo} {st st0 : DSt} {σ : L2.St} {H H0 : Hp} {f : Val → M β} {Q : β' → Hp → Prop} {Q' : VK} (W1 : Wd (cn G X) w st σ H) (E0 : Ev (Mu st0 σ) w0 H0 (Mu st σ) w H)
    (P : Post VRb (cn G X) W w0 st0 σ H0 Q (M.bind ma f st))
    (h : ∀ v H1 w1 st1 x, Wd (cn G X) w1 st1 σ H1 → Ev (Mu st0 σ) w0 H0 (Mu st1 σ) w1 H1 → Ev (Mu st σ) w H (Mu st1 σ) w1 H1 → VRep X.K H0 w1 st1 σ H1 v x → Post VRb (cn G X) W w0 st0 σ H0 Q (f x st1) → Q' v H1) : tE G X W ma σ H Q' :=
  ⟨w, st, W1, (Post.bind E0 P).imp fun v H1 ⟨w1, st1, x, W1, E, r, P1⟩ => h v H1 w1 st1 x W1 (E0.trans E) E (r.anti E0.dom) P1⟩
theorem tB_bind {β β' : Type} {VRb : VRel β β'} {mb : M Bool} {w w0 : Wo} {st st0 : DSt} {σ : L2.St} {H H0 : Hp} {f : Bool → M β} {Q : β' → Hp → Prop} {Q' : Bool → Hp → Prop} (W1 : Wd (cn G X) w st σ H) (E0 : Ev (Mu st0 σ) w0 H0 (Mu st σ) w H)
    (P : Post VRb (cn G X) W w0 st0 σ H0 Q (M.bind mb f st))
    (h : ∀ c H1 w1 st1, Wd (cn G X) w1 st1 σ H1 → Ev (Mu st0 σ) w0 H0 (Mu st1 σ) w1 H1 → Ev (Mu st σ) w H (Mu st1 σ) w1 H1 → Post VRb (cn G X) W w0 st0 σ H0 Q (f c st1) → Q' c H1) : tB G X W mb σ H Q' :=
  ⟨w, st, W1, (Post.bind (VRa := BR) E0 P).imp fun v H1 ⟨w1, st1, x, W1, E, r, P1⟩ => by
    have z : v = x := r
    subst z
    exact h v H1 w1 st1 W1 (E0.trans E) E P1⟩
theorem tA_bind {β β' : Type} {VRb : VRel β β'} {mb : M (List Val)} {w w0 : Wo} {st st0 : DSt} {σ : L2.St} {H H0 : Hp} {f : List Val → M β} {Q : β' → Hp → Prop} {Q' : List V → Hp → Prop} (W1 : Wd (cn G X) w st σ H) (E0 : Ev (Mu st0 σ) w0 H0 (Mu st σ) w H)
    (P : Post VRb (cn G X) W w0 st0 σ H0 Q (M.bind mb f st))
    (h : ∀ vs H1 w1 st1 xs, Wd (cn G X) w1 st1 σ H1 → Ev (Mu st0 σ) w0 H0 (Mu st1 σ) w1 H1 → Ev (Mu st σ) w H (Mu st1 σ) w1 H1 → VReps X.K H w1 st1 σ H1 vs xs → Post VRb (cn G X) W w0 st0 σ H0 Q (f xs st1) → Q' vs H1) : tA G X W mb σ H Q' :=
  ⟨w, st, W1, (Post.bind (VRa := VReps X.K) E0 P).imp fun v H1 ⟨w1, st1, x, W1, E, r, P1⟩ => h v H1 w1 st1 x W1 (E0.trans E) E r P1⟩
theorem tOp_ok {r : R2} {f : D → D → Option Slot} (hs : OpS G X r f) {σ : L2.St} {H : Hp} {Q : VK} (h : tE G X W (mBin f ma mb) σ H Q) : tOp r (tE G X W ma) (tE G X W mb) σ H Q := by
  obtain ⟨w, st, W0, P⟩ := h
  refine tE_bind W0 (.refl _ _ _) P fun x H1 w1 st1 va W1 E1 _ R1 P1 => ?_
  refine tE_bind W1 E1 P1 fun y H2 w2 st2 vb W2 E2 F2 R2 P2 => ?_
  exact op2_ok hs W2 E2 (R1.keep F2) R2 P2
theorem ge_bin {op : Operator} {r : R2} {f : D → D → Option Slot} (ho : OpR X (binaryOp op) r) (hs : OpS G X r f) (ha : GE G X W a ma) (hb : GE G X W b mb) : GE G X W (.BinOp a op b pos) (mBin f ma mb) :=
  PE_imp (pe_op ho ha hb) fun _ _ _ h => tOp_ok hs h
theorem ge_cmp {op : CmpOp} {r : R2} {f : D → D → Option Slot} (ho : OpR X (compareOp op) r) (hs : OpS G X r f) (ha : GE G X W a ma) (hb : GE G X W b mb) (hm : behindInMarks op b = false) : GE G X W (.Compare a [op] [b] pos) (mBin f ma mb) :=
  PE_imp (pe_cmpR ho ha hb hm) fun _ _ _ h => tOp_ok hs h
theorem ge_un {op : UnaryOp} {r : V → Hp → VK → Prop} {f : D → Option Slot} (ho : UnR X (unaryOp op) r) (hs : UnS G X r f) (ha : GE G X W a ma) : GE G X W (.UnaryOp op a pos) (mUn f ma) :=
  PE_imp (pe_un ho ha) fun σ H Q ⟨w, st, W0, P⟩ => tE_bind W0 (.refl _ _ _) P fun x H1 w1 st1 va W1 E1 _ R1 P1 => op1_ok hs W1 E1 R1 P1
end

/-! ### tests -/
def truD : D → Option Bool
  | .non => some false
  | .bl b => some b
  | .int i => some (i != 0)
  | .lst ds => some (!ds.isEmpty)
  | .tup ds => some (!ds.isEmpty)
  | _ => none
def blD : D → Option Bool
  | .bl b => some b
  | _ => none
def mOpt {α : Type} (o : Option α) : M α := fun st => match o with
  | some s => some (.ok s st)
  | none => none
/-- a value that is True or False | by its truth -/
def mBl (ma : M Val) : M Bool := M.bind ma fun a => M.bind (mGet a) fun d => mOpt (blD d)
def mTru (ma : M Val) : M Bool := M.bind ma fun a => M.bind (mGet a) fun d => mOpt (truD d)
def mAnd (ma mb : M Bool) : M Bool := M.bind ma fun c => if c = true then mb else M.pure false
def mOr (ma mb : M Bool) : M Bool := M.bind ma fun c => if c = true then M.pure true else mb
def mNot (ma : M Bool) : M Bool := M.bind ma fun c => M.pure (!c)
def mAndV (ma mb : M Val) : M Val := M.bind (mBl ma) fun c => if c = true then mb else M.pure (.frz (.bl false))
def mOrV (ma mb : M Val) : M Val := M.bind (mBl ma) fun c => if c = true then M.pure (.frz (.bl true)) else mb
def mNotV (ma : M Val) : M Val := M.bind (mBl ma) fun c => M.pure (.frz (.bl (!c)))
def mIf (mt : M Bool) (ma mb : M Val) : M Val := M.bind mt fun c => if c = true then ma else mb
section
variable {K : PySem.W.Frag} {G : String → Option Addr} {X : Cx} {W : WX} {e a b c : Expr} {ma mb mc : M Val} {m1 m2 : M Bool} {pos : Pos}
theorem mOpt_ok {n : Cn} {w : Wo} {st0 st : DSt} {σ : L2.St} {H : Hp} {β β' : Type} {VRb : VRel β β'} {Q : β' → Hp → Prop} {o : Option β} (h : Post VRb n W w st0 σ H Q (mOpt o st)) :
    ∃ s, o = some s ∧ Post VRb n W w st0 σ H Q (some (.ok s st)) := by
  cases o with
  | none => exact h.elim
  | some s => exact ⟨s, rfl, h⟩
theorem blD_ok {d : D} {b : Bool} (h : blD d = some b) : d = .bl b := by
  cases d <;> simp [blD] at h
  rw [h]
theorem view_bl {w : Wo} {H : Hp} {v : V} {b : Bool} (h : View K w H v (.bl b)) : v = .bl b := by
  have h : Rep K w v (.bl b) := h
  cases h
  rfl
theorem view_int {w : Wo} {H : Hp} {v : V} {b : Int} (h : View K w H v (.int b)) : v = .int b := by
  have h : Rep K w v (.int b) := h
  cases h
  rfl
theorem view_str {w : Wo} {H : Hp} {v : V} {b : Str} (h : View K w H v (.str b)) : v = .str b := by
  have h : Rep K w v (.str b) := h
  cases h
  rfl
theorem view_non {w : Wo} {H : Hp} {v : V} (h : View K w H v .non) : v = .non := by
  have h : Rep K w v .non := h
  cases h
  rfl
/-- a value that is a bool -/
theorem bl_bind {β β' : Type} {VRb : VRel β β'} {w w0 : Wo} {st st0 : DSt} {σ : L2.St} {H H0 : Hp} {f : Bool → M β} {Q : β' → Hp → Prop} {Q' : VK} (W1 : Wd (cn G X) w st σ H) (E0 : Ev (Mu st0 σ) w0 H0 (Mu st σ) w H)
    (P : Post VRb (cn G X) W w0 st0 σ H0 Q (M.bind (mBl ma) f st))
    (h : ∀ c H1 w1 st1, Wd (cn G X) w1 st1 σ H1 → Ev (Mu st0 σ) w0 H0 (Mu st1 σ) w1 H1 → Post VRb (cn G X) W w0 st0 σ H0 Q (f c st1) → Q' (.bl c) H1) : tE G X W ma σ H Q' := by
  have e : M.bind (mBl ma) f = M.bind ma fun a => M.bind (mGet a) fun d => M.bind (mOpt (blD d)) f := by
    funext s
    simp only [M.bind, mBl]
    cases ma s with
    | none => rfl
    | some r =>
      cases r with
      | exc => rfl
      | ok x s1 =>
        dsimp only
        cases mGet x s1 with
        | none => rfl
        | some r => cases r <;> rfl
  rw [e] at P
  refine tE_bind W1 E0 P fun x H1 w1 st1 va W2 E1 _ R1 P1 => ?_
  obtain ⟨d, e1, P1⟩ := mGet_ok P1
  cases q : blD d with
  | none =>
    rw [q] at P1
    exact P1.elim
  | some c =>
    rw [q] at P1
    have := blD_ok q
    subst this
    rw [view_bl (VRep.view W2 R1 e1)]
    exact h c H1 w1 st1 W2 E1 P1
theorem gt_cmp {op : CmpOp} {r : R2} {f : D → D → Option Slot} (ho : OpR X (compareOp op) r) (hs : OpS G X r f) (ha : GE G X W a ma) (hb : GE G X W b mb) (hm : behindInMarks op b = false) : GT G X W (.Compare a [op] [b] pos) (mBl (mBin f ma mb)) :=
  PT_imp (pt_cmpR ho ha hb hm) fun σ H Q ⟨w, st, W0, P⟩ => by
    have h : tE G X W (mBin f ma mb) σ H fun x H' => ∃ k, x = .bl k ∧ Q k H' := by
      have P' : Post BR (cn G X) W w st σ H Q (M.bind (mBl (mBin f ma mb)) M.pure st) := by
        have e : M.bind (mBl (mBin f ma mb)) M.pure st = mBl (mBin f ma mb) st := by
          simp only [M.bind]
          cases mBl (mBin f ma mb) st with
          | none => rfl
          | some r => cases r <;> rfl
        rw [e]
        exact P
      exact bl_bind W0 (.refl _ _ _) P' fun c H1 w1 st1 W1 E1 P1 => ⟨c, rfl, P1 w1 H1 c E1 W1 rfl⟩
    exact tOp_ok hs h
theorem isEmptys {w : Wo} {vs : List V} {ds : List D} (r : Reps K w vs ds) : (!vs.isEmpty) = !ds.isEmpty := by
  cases r <;> rfl
theorem tru_view {w : Wo} {H : Hp} {v : V} {d : D} {k : Bool} (h : View K w H v d) (e : truD d = some k) : TruV K v H k := by
  cases d with
  | non =>
    rw [view_non h]
    exact (Option.some.inj e).symm
  | bl b =>
    rw [view_bl h]
    exact (Option.some.inj e).symm
  | int b =>
    rw [view_int h]
    exact (Option.some.inj e).symm
  | lst ds =>
    obtain ⟨p, vs, ev, hp, r⟩ := h
    subst ev
    exact .inl ⟨vs, SqL.of hp, by rw [isEmptys r]; exact (Option.some.inj e).symm⟩
  | tup ds =>
    obtain ⟨p, vs, ev, hp, r, _⟩ := h
    subst ev
    exact .inr (.inl ⟨vs, hp, by rw [isEmptys r]; exact (Option.some.inj e).symm⟩)
  | str s => cases e
  | dK s => cases e
  | dT s => cases e
  | scr s => cases e
  | obj s => cases e
  | ty s => cases e
  | exv c s => cases e
/-- any value as a test, by its truth -/
theorem gt_tru (ha : GE G X W a ma) (he : ∀ whole, isTrue a X.env whole = (do let v ← whole; standAt a.pos; holding [v] (truthy v))) : GT G X W a (mTru ma) :=
  PT_imp (pt_truth ha he) fun σ H Q ⟨w, st, W0, P⟩ => tE_bind W0 (.refl _ _ _) P fun x H1 w1 st1 va W1 E1 _ R1 P1 => by
    obtain ⟨d, e1, P1⟩ := mGet_ok P1
    obtain ⟨k, e2, P1⟩ := mOpt_ok P1
    exact ⟨k, tru_view (VRep.view W1 R1 e1) e2, P1 w1 H1 k E1 W1 rfl⟩
theorem if_post {β β' : Type} {VRb : VRel β β'} {n : Cn} {w : Wo} {st st1 : DSt} {σ : L2.St} {H : Hp} {Q : β' → Hp → Prop} {c : Bool} {f g : M β} (P : Post VRb n W w st σ H Q ((if c = true then f else g) st1)) :
    (c = true → Post VRb n W w st σ H Q (f st1)) ∧ (c = false → Post VRb n W w st σ H Q (g st1)) := by
  cases c
  · exact ⟨(fun z => Bool.noConfusion z), fun _ => P⟩
  · exact ⟨fun _ => P, fun z => Bool.noConfusion z⟩
theorem tB_run {m : M Bool} {w w0 : Wo} {st st0 : DSt} {σ : L2.St} {H H0 : Hp} {Q : Bool → Hp → Prop} (W1 : Wd (cn G X) w st σ H) (E0 : Ev (Mu st0 σ) w0 H0 (Mu st σ) w H) (P : Post BR (cn G X) W w0 st0 σ H0 Q (m st)) : tB G X W m σ H Q := ⟨w, st, W1, Post.after anti_B E0 P⟩
theorem tE_run {m : M Val} {w w0 : Wo} {st st0 : DSt} {σ : L2.St} {H H0 : Hp} {Q : VK} (W1 : Wd (cn G X) w st σ H) (E0 : Ev (Mu st0 σ) w0 H0 (Mu st σ) w H) (P : Post (VRep X.K) (cn G X) W w0 st0 σ H0 Q (m st)) : tE G X W m σ H Q := ⟨w, st, W1, Post.after anti_V E0 P⟩
theorem tA_run {m : M (List Val)} {w w0 : Wo} {st st0 : DSt} {σ : L2.St} {H H0 : Hp} {Q : List V → Hp → Prop} (W1 : Wd (cn G X) w st σ H) (E0 : Ev (Mu st0 σ) w0 H0 (Mu st σ) w H) (P : Post (VReps X.K) (cn G X) W w0 st0 σ H0 Q (m st)) : tA G X W m σ H Q := ⟨w, st, W1, Post.after anti_Vs E0 P⟩
theorem gw_and1 (ha : GT G X W a m1) : GW G X W (.BoolOp .And [a] pos) m1 := pw_and1 ha
theorem gw_or1 (ha : GT G X W a m1) : GW G X W (.BoolOp .Or [a] pos) m1 := pw_or1 ha
theorem gw_and {rest : List Expr} (ha : GT G X W a m1) (hb : GW G X W (.BoolOp .And (b :: rest) pos) m2) : GW G X W (.BoolOp .And (a :: b :: rest) pos) (mAnd m1 m2) :=
  PW_imp (pw_and ha hb) fun σ H Q ⟨w, st, W0, P⟩ => tB_bind W0 (.refl _ _ _) P fun c H1 w1 st1 W1 E1 _ P1 => by
    cases c
    · exact P1 w1 H1 false E1 W1 rfl
    · exact tB_run W1 E1 P1
theorem gw_or {rest : List Expr} (ha : GT G X W a m1) (hb : GW G X W (.BoolOp .Or (b :: rest) pos) m2) : GW G X W (.BoolOp .Or (a :: b :: rest) pos) (mOr m1 m2) :=
  PW_imp (pw_or ha hb) fun σ H Q ⟨w, st, W0, P⟩ => tB_bind W0 (.refl _ _ _) P fun c H1 w1 st1 W1 E1 _ P1 => by
    cases c
    · exact tB_run W1 E1 P1
    · exact P1 w1 H1 true E1 W1 rfl
theorem gt_w (h : GW G X W a m1) : GT G X W a m1 := h.pt
theorem gt_not (ha : GT G X W a m1) : GT G X W (.UnaryOp .Not a pos) (mNot m1) :=
  PT_imp (pt_not ha) fun σ H Q ⟨w, st, W0, P⟩ => tB_bind W0 (.refl _ _ _) P fun c H1 w1 st1 W1 E1 _ P1 => P1 w1 H1 (!c) E1 W1 rfl
theorem ge_one {op} (h : GE G X W a ma) : GE G X W (.BoolOp op [a] pos) ma := pe_one h
theorem ge_and {rest : List Expr} (ha : GE G X W a ma) (hb : GE G X W (.BoolOp .And (b :: rest) pos) mb) : GE G X W (.BoolOp .And (a :: b :: rest) pos) (mAndV ma mb) :=
  PE_imp (pe_and ha hb) fun σ H Q ⟨w, st, W0, P⟩ => bl_bind W0 (.refl _ _ _) P fun c H1 w1 st1 W1 E1 P1 => ⟨c, rfl, by
    cases c
    · exact P1 w1 H1 _ E1 W1 (.bl false)
    · exact tE_run W1 E1 P1⟩
theorem ge_or {rest : List Expr} (ha : GE G X W a ma) (hb : GE G X W (.BoolOp .Or (b :: rest) pos) mb) : GE G X W (.BoolOp .Or (a :: b :: rest) pos) (mOrV ma mb) :=
  PE_imp (pe_or ha hb) fun σ H Q ⟨w, st, W0, P⟩ => bl_bind W0 (.refl _ _ _) P fun c H1 w1 st1 W1 E1 P1 => ⟨c, rfl, by
    cases c
    · exact tE_run W1 E1 P1
    · exact P1 w1 H1 _ E1 W1 (.bl true)⟩
theorem ge_not (ha : GE G X W a ma) : GE G X W (.UnaryOp .Not a pos) (mNotV ma) :=
  PE_imp (pe_not ha) fun σ H Q ⟨w, st, W0, P⟩ => bl_bind W0 (.refl _ _ _) P fun c H1 w1 st1 W1 E1 P1 => ⟨c, rfl, P1 w1 H1 _ E1 W1 (.bl _)⟩
theorem ge_if (hc : GT G X W c m1) (ha : GE G X W a ma) (hb : GE G X W b mb) : GE G X W (.IfExp c a b pos) (mIf m1 ma mb) :=
  PE_imp (pe_ifExp hc ha hb) fun σ H Q ⟨w, st, W0, P⟩ => tB_bind W0 (.refl _ _ _) P fun c H1 w1 st1 W1 E1 _ P1 => by
    cases c
    · exact tE_run W1 E1 P1
    · exact tE_run W1 E1 P1
end
end FB

/-! FBArgs: argument lists, freezing, displays, subscripts, slices, built-in calls. -/
namespace FB
open PySem PySem.Spec PyProof.Rows L2

def DSt.put (st : DSt) (i : Nat) (s : Option Slot) : DSt := { st with sl := st.sl.set i s }
/-- to a frozen thing -/
def mFrzV (i : Nat) : M D := fun st => match st.slot i with
  | none => none
  | some (.frz d) => some (.ok d st)
  | some (.own d) => some (.ok d (st.put i (some (.frz d))))
def mFrz : Val → M D
  | .frz d => M.pure d
  | .own d => M.pure d
  | .vr i => mFrzV i
def mFrzs : List Val → M (List D)
  | [] => M.pure []
  | v :: vs => M.bind (mFrz v) fun d => M.bind (mFrzs vs) fun ds => M.pure (d :: ds)
def mGets : List Val → M (List D)
  | [] => M.pure []
  | v :: vs => M.bind (mGet v) fun d => M.bind (mGets vs) fun ds => M.pure (d :: ds)
def mNil : M (List Val) := M.pure []
def mCons (ma : M Val) (mr : M (List Val)) : M (List Val) := M.bind ma fun a => M.bind mr fun r => M.pure (a :: r)
def mLst (ma : M (List Val)) : M Val := M.bind ma fun vs => M.bind (mFrzs vs) fun ds => if ds.length ≤ 16777216 then M.pure (.own (.lst ds)) else fun _ => none
def mTup (ma : M (List Val)) : M Val := M.bind ma fun vs => M.bind (mFrzs vs) fun ds => if ds.length ≤ 16777216 then M.pure (.frz (.tup ds)) else fun _ => none
/-- a built-in called by values -/
def mCB (f : List D → Option Slot) (ma : M (List Val)) : M Val := M.bind ma fun vs => M.bind (mGets vs) fun ds => mSlot (f ds)

section
variable {n : Cn} {w w0 : Wo} {st st0 : DSt} {σ : L2.St} {H H0 : Hp} {M0 : Addr → Prop}
/-- a value while others are frozen -/
def VRepF (K : PySem.W.Frag) (H0 : Hp) (w : Wo) (st : DSt) (σ : L2.St) (H : Hp) (v : V) : Val → Prop
  | .own d => ∃ p o, v = .ref p ∧ H0 p = none ∧ w.ow p = none ∧ ¬ Mu st σ p ∧ H p = some o ∧ ORep K w H p d ∧ (w.F p = none ∨ w.F p = some o)
  | x => VRep K H0 w st σ H v x
theorem VRep.F {K : PySem.W.Frag} {v : V} : ∀ {x : Val}, VRep K H0 w st σ H v x → VRepF K H0 w st σ H v x
  | .vr _, r => r
  | .frz _, r => r
  | .own d, ⟨p, ev, h0, hf, ho, hm, r⟩ => by
    cases e : H p with
    | none => exact absurd e (ORep.ne r)
    | some o => exact ⟨p, o, ev, h0, ho, hm, e, r, .inl hf⟩
theorem slot_put (i j : Nat) (s : Option Slot) : (st.put i s).slot j = if j = i then (if i < st.sl.length then s else none) else st.slot j := by
  unfold DSt.slot DSt.put
  simp only [List.getElem?_set]
  by_cases h : j = i
  · subst h
    simp only [if_pos rfl]
    by_cases z : j < st.sl.length
    · simp only [if_pos z]
      cases s <;> rfl
    · simp only [if_neg z]
      rfl
  · rw [if_neg (fun e => h e.symm), if_neg h]
theorem slot_lt {i : Nat} {s : Slot} (h : st.slot i = some s) : i < st.sl.length := by
  unfold DSt.slot at h
  cases e : st.sl[i]? with
  | none => rw [e] at h; cases h
  | some x => exact (List.getElem?_eq_some_iff.mp e).1
/-- what is known while freezing goes on -/
structure FzStep (n : Cn) (M0 : Addr → Prop) (w0 : Wo) (H0 : Hp) (w : Wo) (st : DSt) (σ : L2.St) (H : Hp) (w' : Wo) (st' : DSt) : Prop where
  wd : Wd n w' st' σ H
  ev : Ev M0 w0 H0 (Mu st' σ) w' H
  le : WLe w w'
  ow : w'.ow = w.ow
  rho : w'.rho = w.rho
  xa : w'.xa = w.xa
  mu : ∀ a, Mu st' σ a → Mu st σ a
  keep : ∀ v x, VRepF n.K H0 w st σ H v x → VRepF n.K H0 w' st' σ H v x
theorem fz_at {p : Addr} {o : HO} (W : Wd n w st σ H) (E : Ev M0 w0 H0 (Mu st σ) w H) (h0 : H0 p = none) (hp : H p = some o) (hf : w.F p = none) (ho : w.ow p = none) (hm : ¬ Mu st σ p) : FzStep n M0 w0 H0 w st σ H (w.fz p o) st where
  wd := W.fz hp hf ho hm
  ev := E.fz h0 hf
  le := Wo.fz_le hf
  ow := rfl
  rho := rfl
  xa := rfl
  mu := fun _ h => h
  keep := fun v x r => by
    cases x with
    | vr i => exact r
    | frz d => exact Rep.mono (Wo.fz_le hf) r
    | own d =>
      obtain ⟨q, u, ev, q0, qo, qm, e, r, f⟩ := r
      refine ⟨q, u, ev, q0, qo, qm, e, r.mono (Wo.fz_le hf) rfl, ?_⟩
      show upd w.F p o q = none ∨ upd w.F p o q = some u
      by_cases z : q = p
      · subst z
        rw [upd_same]
        exact .inr (hp.symm.trans e)
      · rw [upd_ne z]
        exact f
theorem FzStep.refl (W : Wd n w st σ H) (E : Ev M0 w0 H0 (Mu st σ) w H) : FzStep n M0 w0 H0 w st σ H w st := ⟨W, E, .refl _, rfl, rfl, rfl, fun _ h => h, fun _ _ r => r⟩
theorem FzStep.trans {w1 w2 : Wo} {st1 st2 : DSt} (a : FzStep n M0 w0 H0 w st σ H w1 st1) (b : FzStep n M0 w0 H0 w1 st1 σ H w2 st2) : FzStep n M0 w0 H0 w st σ H w2 st2 := ⟨b.wd, b.ev, a.le.trans b.le, b.ow.trans a.ow, b.rho.trans a.rho, b.xa.trans a.xa, fun x h => a.mu x (b.mu x h), fun v x r => b.keep v x (a.keep v x r)⟩
/-- a variable's own thing is frozen -/
theorem fz_slot {i : Nat} {d : D} (W : Wd n w st σ H) (E : Ev M0 w0 H0 (Mu st σ) w H) (h : st.slot i = some (.own d)) :
    ∃ w' p, FzStep n M0 w0 H0 w st σ H w' (st.put i (some (.frz d))) ∧ σ[i]? = some (some (.ref p)) ∧ Rep n.K w' (.ref p) d := by
  obtain ⟨p, e1, hf, ho, r⟩ := W.ownS i d h
  cases hp : H p with
  | none => exact absurd hp r.ne
  | some o =>
    have le : WLe w (w.fz p o) := Wo.fz_le hf
    have hlt := slot_lt h
    have rr : Rep n.K (w.fz p o) (.ref p) d := r.frz le hp upd_same
    have mu : ∀ a, Mu (st.put i (some (.frz d))) σ a → Mu st σ a ∧ a ≠ p := fun a ⟨j, d', e, e'⟩ => by
      rw [slot_put] at e
      by_cases z : j = i
      · rw [if_pos z, if_pos hlt] at e
        cases e
      · rw [if_neg z] at e
        refine ⟨⟨j, d', e, e'⟩, fun q => z ?_⟩
        rw [q] at e'
        exact W.dis j i _ _ p e h e' e1
    refine ⟨w.fz p o, p, ⟨?_, ?_, le, rfl, rfl, rfl, fun a h => (mu a h).1, ?_⟩, e1, rr⟩
    · refine ⟨W.toWdS.fz hp hf ho, ?_, fun j d' e => ?_, fun j d' e => ?_, fun j k d' e' q h1 h2 h3 h4 => ?_⟩
      · show (st.sl.set i (some (.frz d))).length = σ.length
        rw [List.length_set]
        exact W.len
      · rw [slot_put] at e
        by_cases z : j = i
        · rw [if_pos z, if_pos hlt] at e
          cases e
          subst z
          exact ⟨_, e1, rr⟩
        · rw [if_neg z] at e
          obtain ⟨v, e2, r2⟩ := W.frz j d' e
          exact ⟨v, e2, r2.mono le⟩
      · have hm : Mu (st.put i (some (.frz d))) σ p → False := fun z => (mu p z).2 rfl
        rw [slot_put] at e
        by_cases z : j = i
        · rw [if_pos z, if_pos hlt] at e
          cases e
        · rw [if_neg z] at e
          obtain ⟨q, e2, f2, o2, r2⟩ := W.ownS j d' e
          refine ⟨q, e2, ?_, o2, r2.mono le rfl⟩
          show upd w.F p o q = none
          rw [upd_ne fun y => z (by subst y; exact W.dis j i _ _ q e h e2 e1)]
          exact f2
      · rw [slot_put] at h1 h2
        by_cases z : j = i
        · rw [if_pos z, if_pos hlt] at h1
          cases h1
        · by_cases y : k = i
          · rw [if_pos y, if_pos hlt] at h2
            cases h2
          · rw [if_neg z] at h1
            rw [if_neg y] at h2
            exact W.dis j k d' e' q h1 h2 h3 h4
    · refine ⟨fun a u e oa hm => ?_, E.le.trans le, fun a z => E.new a (mu a z).1, E.dom⟩
      obtain ⟨k1, k2, k3⟩ := E.keep a u e oa hm
      refine ⟨k1, ?_, k3⟩
      show upd w.F p o a = w0.F a
      rw [upd_ne fun z => by
        subst z
        rcases E.new a ⟨i, d, h, e1⟩ with q | q
        · exact hm q
        · rw [e] at q
          cases q]
      exact k2
    · intro v x r
      cases x with
      | vr j => exact r
      | frz d' => exact Rep.mono le r
      | own d' =>
        obtain ⟨q, u, ev, q0, qo, qm, e, r, f⟩ := r
        refine ⟨q, u, ev, q0, qo, fun z => qm (mu q z).1, e, r.mono le rfl, ?_⟩
        show upd w.F p o q = none ∨ upd w.F p o q = some u
        rw [upd_ne fun z => qm (by subst z; exact ⟨i, d, h, e1⟩)]
        exact f
theorem frz_ok {v : V} {x : Val} {d : D} {st' : DSt} (W : Wd n w st σ H) (E : Ev M0 w0 H0 (Mu st σ) w H) (r : VRepF n.K H0 w st σ H v x) (h : mFrz x st = some (.ok d st')) :
    ∃ w', FzStep n M0 w0 H0 w st σ H w' st' ∧ Rep n.K w' v d := by
  cases x with
  | frz d' =>
    cases h
    exact ⟨w, .refl W E, r⟩
  | own d' =>
    cases h
    obtain ⟨p, o, ev, p0, po, pm, e, r, f⟩ := r
    subst ev
    rcases f with f | f
    · exact ⟨w.fz p o, fz_at W E p0 e f po pm, r.frz (Wo.fz_le f) e upd_same⟩
    · exact ⟨w, .refl W E, r.frz (.refl _) e f⟩
  | vr i =>
    have h : mFrzV i st = some (.ok d st') := h
    unfold mFrzV at h
    cases q : st.slot i with
    | none =>
      rw [q] at h
      cases h
    | some s =>
      rw [q] at h
      have e : σ[i]? = some (some v) := r
      cases s with
      | frz d' =>
        cases h
        obtain ⟨v', e', r'⟩ := W.frz i _ q
        have z : v = v' := by simpa using e.symm.trans e'
        subst z
        exact ⟨w, .refl W E, r'⟩
      | own d' =>
        cases h
        obtain ⟨w', p, F, e', rr⟩ := fz_slot W E q
        have z : v = .ref p := by simpa using e.symm.trans e'
        subst z
        exact ⟨w', F, rr⟩
theorem mFrz_some {x : Val} {r : R D} (h : mFrz x st = some r) : ∃ d st', r = .ok d st' := by
  cases x with
  | frz d' => cases h; exact ⟨_, _, rfl⟩
  | own d' => cases h; exact ⟨_, _, rfl⟩
  | vr i =>
    have h : mFrzV i st = some r := h
    unfold mFrzV at h
    cases q : st.slot i with
    | none => rw [q] at h; cases h
    | some s => rw [q] at h; cases s <;> cases h <;> exact ⟨_, _, rfl⟩
theorem frzs_ok : ∀ {xs : List Val} {vs : List V} {w : Wo} {st : DSt} {ds : List D} {st' : DSt}, Wd n w st σ H → Ev M0 w0 H0 (Mu st σ) w H → Paired (fun v x => VRepF n.K H0 w st σ H v x) vs xs → mFrzs xs st = some (.ok ds st') →
    ∃ w', FzStep n M0 w0 H0 w st σ H w' st' ∧ Reps n.K w' vs ds
  | _, _, w, st, ds, st', W, E, .nil, h => by
    cases h
    exact ⟨w, .refl W E, .nil⟩
  | _, _, w, st, ds, st', W, E, .cons (a := v) (b := x) (l₁ := vs) (l₂ := xs) r rs, h => by
    have h : M.bind (mFrz x) (fun d => M.bind (mFrzs xs) fun ds => M.pure (d :: ds)) st = some (.ok ds st') := h
    unfold M.bind at h
    cases e : mFrz x st with
    | none => rw [e] at h; cases h
    | some q =>
      obtain ⟨d, st1, rfl⟩ := mFrz_some e
      rw [e] at h
      obtain ⟨w1, F1, r1⟩ := frz_ok W E r e
      dsimp only at h
      cases e2 : mFrzs xs st1 with
      | none => rw [e2] at h; cases h
      | some q =>
        cases q with
        | exc c fs s => rw [e2] at h; cases h
        | ok es st2 =>
          rw [e2] at h
          cases h
          obtain ⟨w2, F2, r2⟩ := frzs_ok F1.wd F1.ev (paired_imp (fun _ _ => F1.keep _ _) rs) e2
          exact ⟨w2, F1.trans F2, .cons (r1.mono F2.le) r2⟩
theorem mFrzs_some : ∀ {xs : List Val} {st : DSt} {r : R (List D)}, mFrzs xs st = some r → ∃ d st', r = .ok d st'
  | [], st, r, h => by cases h; exact ⟨_, _, rfl⟩
  | x :: xs, st, r, h => by
    have h : M.bind (mFrz x) (fun d => M.bind (mFrzs xs) fun ds => M.pure (d :: ds)) st = some r := h
    unfold M.bind at h
    cases e : mFrz x st with
    | none => rw [e] at h; cases h
    | some q =>
      obtain ⟨d, st1, rfl⟩ := mFrz_some e
      rw [e] at h
      dsimp only at h
      cases e2 : mFrzs xs st1 with
      | none => rw [e2] at h; cases h
      | some q =>
        obtain ⟨d, st1, rfl⟩ := mFrzs_some e2
        rw [e2] at h
        cases h
        exact ⟨_, _, rfl⟩
theorem mFrzs_bind {W : WX} {β β' : Type} {VRb : VRel β β'} {Q : β' → Hp → Prop} {xs : List Val} {f : List D → M β} (h : Post VRb n W w0 st0 σ H0 Q (M.bind (mFrzs xs) f st)) :
    ∃ ds st', mFrzs xs st = some (.ok ds st') ∧ Post VRb n W w0 st0 σ H0 Q (f ds st') := by
  unfold M.bind at h
  cases e : mFrzs xs st with
  | none => rw [e] at h; exact h.elim
  | some r =>
    obtain ⟨d, st1, rfl⟩ := mFrzs_some e
    rw [e] at h
    exact ⟨d, st1, rfl, h⟩
theorem mFrz_bind {W : WX} {β β' : Type} {VRb : VRel β β'} {Q : β' → Hp → Prop} {x : Val} {f : D → M β} (h : Post VRb n W w0 st0 σ H0 Q (M.bind (mFrz x) f st)) :
    ∃ d st', mFrz x st = some (.ok d st') ∧ Post VRb n W w0 st0 σ H0 Q (f d st') := by
  unfold M.bind at h
  cases e : mFrz x st with
  | none => rw [e] at h; exact h.elim
  | some r =>
    obtain ⟨d, st1, rfl⟩ := mFrz_some e
    rw [e] at h
    exact ⟨d, st1, rfl, h⟩
theorem Reps.length {K : PySem.W.Frag} : ∀ {vs : List V} {ds : List D}, Reps K w vs ds → vs.length = ds.length
  | _, _, .nil => rfl
  | _, _, .cons _ r => by simp [Reps.length r]
end

section
variable {G : String → Option Addr} {X : Cx} {W : WX} {e a b c : Expr} {es : List Expr} {ma mb mc : M Val} {mas : M (List Val)} {m1 m2 : M Bool} {pos : Pos}
theorem paired_get {α β : Type} {F : α → β → Prop} : ∀ {l : List α} {m : List β} {i : Nat} {b : β}, Paired F l m → m[i]? = some b → ∃ a, l[i]? = some a ∧ F a b
  | _, _, _, _, .nil, e => by simp at e
  | _, _, 0, _, .cons r _, e => by simp at e; subst e; exact ⟨_, rfl, r⟩
  | _, _, i + 1, b, .cons _ t, e => by
    obtain ⟨a, h1, h2⟩ := paired_get (i := i) (b := b) t (by simpa using e)
    exact ⟨a, by simpa using h1, h2⟩
theorem vreps_cons {K : PySem.W.Frag} {w1 w2 : Wo} {st1 st2 : DSt} {σ : L2.St} {H H1 H2 : Hp} {x : V} {va : Val} {xs : List V} {vas : List Val} (dm : ∀ a, H a ≠ none → H1 a ≠ none)
    (R1 : VRep K H w1 st1 σ H1 x va) (F2 : Ev (Mu st1 σ) w1 H1 (Mu st2 σ) w2 H2) (R2 : VReps K H1 w2 st2 σ H2 xs vas) : VReps K H w2 st2 σ H2 (x :: xs) (va :: vas) := by
  refine ⟨.cons (R1.keep F2) (paired_imp (fun _ _ r => VRep.anti dm r) R2.ps), fun i j d e p hij h1 h2 h3 h4 => ?_⟩
  cases j with
  | zero => omega
  | succ j =>
    simp only [List.getElem?_cons_succ] at h2 h4
    cases i with
    | succ i =>
      simp only [List.getElem?_cons_succ] at h1 h3
      exact R2.ds i j d e p (by omega) h1 h2 h3 h4
    | zero =>
      simp only [List.getElem?_cons_zero, Option.some.injEq] at h1 h3
      subst h1 h3
      obtain ⟨q, e1, _, _, _, _, r⟩ := R1
      cases e1
      obtain ⟨a, g1, q2, g2, g3, _⟩ := paired_get R2.ps h2
      have z := h4.symm.trans g1
      simp only [Option.some.injEq] at z
      rw [g2] at z
      cases z
      exact ORep.ne r g3
theorem ga_nil : GA G X W [] mNil := PA_imp pa_nil fun σ H Q ⟨w, st, W0, P⟩ => P w H [] (.refl _ _ _) W0 ⟨.nil, fun i j d e p _ h => by simp at h⟩
theorem ga_cons (ha : GE G X W e ma) (hr : GA G X W es mas) (hs : starEach (e :: es) X.env = (false, eval e X.env) :: starEach es X.env := by rfl) : GA G X W (e :: es) (mCons ma mas) :=
  PA_imp (pa_cons ha hr hs) fun σ H Q ⟨w, st, W0, P⟩ => tE_bind W0 (.refl _ _ _) P fun x H1 w1 st1 va W1 E1 _ R1 P1 =>
    tA_bind W1 E1 P1 fun xs H2 w2 st2 vas W2 E2 F2 R2 P2 => P2 w2 H2 (x :: xs) E2 W2 (vreps_cons E1.dom R1 F2 R2)
theorem ge_lst (h : GA G X W es mas) : GE G X W (.List es pos) (mLst mas) :=
  PE_imp (pe_lst h) fun σ H Q ⟨w, st, W0, P⟩ => tA_bind W0 (.refl _ _ _) P fun vs H1 w1 st1 xs W1 E1 _ R1 P1 => by
    obtain ⟨ds, st2, e, P1⟩ := mFrzs_bind P1
    obtain ⟨w2, F, r⟩ := frzs_ok W1 E1 (paired_imp (fun _ _ => VRep.F) R1.ps) e
    by_cases hz : ds.length ≤ 16777216
    · rw [if_pos hz] at P1
      refine ⟨by rw [r.length, sizeLine_eq]; exact hz, fun p hp => ?_⟩
      refine P1 w2 _ (.ref p) (F.ev.trans (.alloc hp)) (F.wd.alloc hp) ⟨p, rfl, ?_, sub_ne F.wd.sub hp, F.wd.toWdS.own_none hp, Mu.not_of F.wd hp, vs, upd_same, r⟩
      cases q : H p with
      | none => rfl
      | some u => exact absurd hp (F.ev.dom p (by rw [q]; simp))
    · rw [if_neg hz] at P1
      exact P1.elim
/-- a new tuple is frozen as it is laid -/
theorem tup_new {n : Cn} {w w0 : Wo} {st : DSt} {M0 : Addr → Prop} {σ : L2.St} {H H0 : Hp} {p : Addr} {vs : List V} {ds : List D} (W : Wd n w st σ H) (E : Ev M0 w0 H0 (Mu st σ) w H) (hp : H p = none) (r : Reps n.K w vs ds) :
    ∃ w', Wd n w' st σ (upd H p (.tup vs)) ∧ Ev M0 w0 H0 (Mu st σ) w' (upd H p (.tup vs)) ∧ WLe w w' ∧ Rep n.K w' (.ref p) (.tup ds) := by
  have h0 : H0 p = none := by
    cases q : H0 p with
    | none => rfl
    | some u => exact absurd hp (E.dom p (by rw [q]; simp))
  have hf := sub_ne W.sub hp
  have W1 := W.alloc (o := .tup vs) hp
  have E1 : Ev M0 w0 H0 (Mu st σ) w (upd H p (.tup vs)) := E.trans (.alloc hp)
  have le : WLe w (w.fz p (.tup vs)) := Wo.fz_le hf
  exact ⟨w.fz p (.tup vs), W1.fz upd_same hf (W.toWdS.own_none hp) (Mu.not_of W hp), E1.fz h0 hf, le, .tup (.inl (.inl upd_same)) (r.mono le)⟩
theorem ge_tup {x1} (h : GA G X W es mas) : GE G X W (.Tuple es x1 pos) (mTup mas) :=
  PE_imp (pe_tup h) fun σ H Q ⟨w, st, W0, P⟩ => tA_bind W0 (.refl _ _ _) P fun vs H1 w1 st1 xs W1 E1 _ R1 P1 => by
    obtain ⟨ds, st2, e, P1⟩ := mFrzs_bind P1
    obtain ⟨w2, F, r⟩ := frzs_ok W1 E1 (paired_imp (fun _ _ => VRep.F) R1.ps) e
    by_cases hz : ds.length ≤ 16777216
    · rw [if_pos hz] at P1
      refine ⟨by rw [r.length, sizeLine_eq]; exact hz, fun p hp => ?_⟩
      obtain ⟨w3, W3, E3, _, r3⟩ := tup_new F.wd F.ev hp r
      exact P1 w3 _ (.ref p) E3 W3 r3
    · rw [if_neg hz] at P1
      exact P1.elim

/-! ### calls of built-ins by values -/
def Views (K : PySem.W.Frag) (w : Wo) (H : Hp) : List V → List D → Prop := fun vs ds => Paired (View K w H) vs ds
def CallS (G : String → Option Addr) (X : Cx) (r : List V → Hp → VK → Prop) (f : List D → Option Slot) : Prop :=
  ∀ (w : Wo) (st : DSt) (σ : L2.St) (H : Hp) (xs : List V) (ds : List D) (s : Slot) (Q : VK), Wd (cn G X) w st σ H → Views X.K w H xs ds → f ds = some s →
    (∀ w' H' v, Ev (Mu st σ) w H (Mu st σ) w' H' → Wd (cn G X) w' st σ H' → VRep X.K H w' st σ H' v s.val → Q v H') → r xs H Q
theorem mGets_ok {n : Cn} {w w0 : Wo} {st0 st : DSt} {σ : L2.St} {H H0 Hx : Hp} {β β' : Type} {VRb : VRel β β'} {Q : β' → Hp → Prop} (W0 : Wd n w st σ H) : ∀ {xs : List Val} {vs : List V} {f : List D → M β}, Paired (fun v x => VRep n.K Hx w st σ H v x) vs xs → Post VRb n W w0 st0 σ H0 Q (M.bind (mGets xs) f st) →
    ∃ ds, Views n.K w H vs ds ∧ Post VRb n W w0 st0 σ H0 Q (f ds st)
  | _, _, f, .nil, P => ⟨[], .nil, P⟩
  | _, _, f, .cons (a := v) (b := x) (l₁ := vs) (l₂ := xs) r rs, P => by
    have e : M.bind (mGets (x :: xs)) f st = M.bind (mGet x) (fun d => M.bind (mGets xs) fun ds => f (d :: ds)) st := by
      simp only [M.bind, mGets]
      cases mGet x st with
      | none => rfl
      | some r =>
        cases r with
        | exc => rfl
        | ok y s =>
          dsimp only
          cases mGets xs s with
          | none => rfl
          | some r => cases r <;> rfl
    rw [e] at P
    obtain ⟨d, e1, P⟩ := mGet_ok P
    obtain ⟨ds, e2, P⟩ := mGets_ok W0 rs P
    exact ⟨d :: ds, .cons (VRep.view W0 r e1) e2, P⟩
theorem tCB_ok {r : List V → Hp → VK → Prop} {f : List D → Option Slot} (hs : CallS G X r f) {σ : L2.St} {H : Hp} {Q : VK} (h : tE G X W (mCB f mas) σ H Q) : tCB r (tA G X W mas) σ H Q := by
  obtain ⟨w, st, W0, P⟩ := h
  refine tA_bind W0 (.refl _ _ _) P fun vs H1 w1 st1 xs W1 E1 _ R1 P1 => ?_
  obtain ⟨ds, e1, P1⟩ := mGets_ok W1 R1.ps P1
  obtain ⟨s, e2, P1⟩ := mSlot_ok P1
  exact hs w1 st1 σ H1 vs ds s Q W1 e1 e2 fun w' H' v E R V => P1 w' H' v (E1.trans E) R (V.anti E1.dom)
theorem ge_cb {x : Str} {p : Pos} {id : String} {r : List V → Hp → VK → Prop} {f : List D → Option Slot} (hc : CallR X (.builtin id) r) (hs : CallS G X r f) (hg : Gl X x) (hm : X.mg x = none) (hv : bootBuiltins x = some (.builtin id)) (ha : GA G X W (e :: es) mas)
    (hn : x ≠ "__name__" := by decide) (hdb : (x == ("__debug__" : Str)) = false := by decide) (he : starEach (e :: es) X.env = (false, eval e X.env) :: starEach es X.env := by rfl) (hpl : (backTo pos (starEach es X.env)).any (·.1) = false := by rfl) :
    GE G X W (.Call (.Name x p) (e :: es) [] pos) (mCB f mas) := PE_imp (pe_callB hc hg hm hv ha hn hdb he hpl) fun _ _ _ h => tCB_ok hs h
theorem ge_ct {x : Str} {p : Pos} {T : String} {r : List V → Hp → VK → Prop} {f : List D → Option Slot} (hc : CallR X (.type T) r) (hs : CallS G X r f) (hg : Gl X x) (hm : X.mg x = none) (hv : bootBuiltins x = some (.type T)) (ha : GA G X W (e :: es) mas)
    (hn : x ≠ "__name__" := by decide) (hdb : (x == ("__debug__" : Str)) = false := by decide) (he : starEach (e :: es) X.env = (false, eval e X.env) :: starEach es X.env := by rfl) (hpl : (backTo pos (starEach es X.env)).any (·.1) = false := by rfl) :
    GE G X W (.Call (.Name x p) (e :: es) [] pos) (mCB f mas) := PE_imp (pe_callTy hc hg hm hv ha hn hdb he hpl) fun _ _ _ h => tCB_ok hs h
/-! ### subscripts -/
theorem ge_ix {r : R2} {f : D → D → Option Slot} (hr : IxR X r) (hs : OpS G X r f) (ha : GE G X W a ma) (hb : GE G X W b mb) (hp : PlainIx b) : GE G X W (.Subscript a b pos) (mBin f ma mb) :=
  PE_imp (pe_ix hr ha hb hp) fun _ _ _ h => tOp_ok hs h
end
end FB

/-! FBStmt: statements. -/
namespace FB
open PySem PySem.Spec PyProof.Rows L2

inductive SR where
  | nx (st : DSt) | rt (v : Val) (st : DSt) | bk (st : DSt) | ct (st : DSt) | exc (c : String) (fs : List (Str × D)) (st : DSt)
abbrev MS := DSt → Option SR
def M.toS {α : Type} (m : M α) (f : α → MS) : MS := fun st => match m st with
  | none => none
  | some (.exc c fs st') => some (.exc c fs st')
  | some (.ok a st') => f a st'
def sNx : MS := fun st => some (.nx st)
def sBk : MS := fun st => some (.bk st)
def sCt : MS := fun st => some (.ct st)
def sSeq (a b : MS) : MS := fun st => match a st with
  | some (.nx st') => b st'
  | r => r
def sIf (t : M Bool) (a b : MS) : MS := M.toS t fun c => if c = true then a else b
def sDrop (m : M Val) : MS := M.toS m fun _ => sNx
def sRet (m : M Val) : MS := M.toS m fun v st => some (.rt v st)
def sRetN : MS := fun st => some (.rt (.frz .non) st)
/-- a value into a slot -/
def sPut (i : Nat) : Val → MS
  | .own d => fun st => some (.nx (st.put i (some (.own d))))
  | v => M.toS (mFrz v) fun d st => some (.nx (st.put i (some (.frz d))))
def sSet (i : Nat) (m : M Val) : MS := M.toS m (sPut i)

abbrev SGoal := L2.St → Hp → Prop
def NxP (n : Cn) (w : Wo) (st : DSt) (σ : L2.St) (H : Hp) (g : SGoal) (st' : DSt) : Prop := ∀ w' σ' H', Ev (Mu st σ) w H (Mu st' σ') w' H' → Wd n w' st' σ' H' → g σ' H'
def PostS (n : Cn) (W : WX) (w : Wo) (st : DSt) (σ : L2.St) (H : Hp) (D : Ends) : Option SR → Prop
  | none => False
  | some (.nx st') => NxP n w st σ H D.nx st'
  | some (.bk st') => NxP n w st σ H D.bk st'
  | some (.ct st') => NxP n w st σ H D.ct st'
  | some (.rt val st') => ∀ w' σ' H' v, Ev (Mu st σ) w H (Mu st' σ') w' H' → Wd n w' st' σ' H' → VRep n.K H w' st' σ' H' v val → D.rt v H'
  | some (.exc c fs st') => WExc n W w st σ H c fs st'
def tS (G : String → Option Addr) (X : Cx) (W : WX) (m : MS) : TS := fun D σ H => ∃ w st, Wd (cn G X) w st σ H ∧ PostS (cn G X) W w st σ H D (m st)
abbrev GS (G : String → Option Addr) (X : Cx) (W : WX) (s : Stmt) (m : MS) : Prop := PS X s (tS G X W m)
abbrev GSs (G : String → Option Addr) (X : Cx) (W : WX) (s : List Stmt) (m : MS) : Prop := PSs X s (tS G X W m)
theorem PS_imp {X : Cx} {s : Stmt} {t t' : TS} (h : PS X s t) (i : ∀ D σ H, t' D σ H → t D σ H) : PS X s t' := ⟨fun p s σ H D I q => h.run p s σ H D I (i _ _ _ q)⟩
theorem PSs_imp {X : Cx} {s : List Stmt} {t t' : TS} (h : PSs X s t) (i : ∀ D σ H, t' D σ H → t D σ H) : PSs X s t' := ⟨fun p s σ H D I q => h.run p s σ H D I (i _ _ _ q)⟩

section
variable {n : Cn} {W : WX} {w w1 w0 : Wo} {st st1 st0 : DSt} {σ σ1 σ0 : L2.St} {H H1 H0 : Hp} {D D' : Ends}
theorem NxP.after {g : SGoal} {st' : DSt} (E : Ev (Mu st σ) w H (Mu st1 σ1) w1 H1) (h : NxP n w st σ H g st') : NxP n w1 st1 σ1 H1 g st' := fun w' σ' H' E' W' => h w' σ' H' (E.trans E') W'
theorem PostS.after (E : Ev (Mu st σ) w H (Mu st1 σ1) w1 H1) : ∀ {r : Option SR}, PostS n W w st σ H D r → PostS n W w1 st1 σ1 H1 D r
  | none, h => h
  | some (.nx _), h => NxP.after E h
  | some (.bk _), h => NxP.after E h
  | some (.ct _), h => NxP.after E h
  | some (.rt _ _), h => fun w' σ' H' v E' W' r => h w' σ' H' v (E.trans E') W' (r.anti E.dom)
  | some (.exc _ _ _), h => WExc.after E h
theorem PostS.imp (h1 : ∀ σ H, D.nx σ H → D'.nx σ H) (h2 : ∀ v H, D.rt v H → D'.rt v H) (h3 : ∀ σ H, D.bk σ H → D'.bk σ H) (h4 : ∀ σ H, D.ct σ H → D'.ct σ H) : ∀ {r : Option SR}, PostS n W w st σ H D r → PostS n W w st σ H D' r
  | none, h => h
  | some (.nx _), h => fun w' σ' H' E' W' => h1 _ _ (h w' σ' H' E' W')
  | some (.bk _), h => fun w' σ' H' E' W' => h3 _ _ (h w' σ' H' E' W')
  | some (.ct _), h => fun w' σ' H' E' W' => h4 _ _ (h w' σ' H' E' W')
  | some (.rt _ _), h => fun w' σ' H' v E' W' r => h2 _ _ (h w' σ' H' v E' W' r)
  | some (.exc _ _ _), h => h
theorem PostS.bind {α α' : Type} {VRa : VRel α α'} {m : M α} {f : α → MS} (E0 : Ev (Mu st0 σ0) w0 H0 (Mu st σ) w H) (h : PostS n W w0 st0 σ0 H0 D (M.toS m f st)) :
    Post VRa n W w st σ H (fun v H1 => ∃ w1 st1 x, Wd n w1 st1 σ H1 ∧ Ev (Mu st σ) w H (Mu st1 σ) w1 H1 ∧ VRa H w1 st1 σ H1 v x ∧ PostS n W w0 st0 σ0 H0 D (f x st1)) (m st) := by
  unfold M.toS at h
  cases e : m st with
  | none =>
    rw [e] at h
    exact h
  | some r =>
    rw [e] at h
    cases r with
    | exc c fs st' => exact WExc.after E0 h
    | ok x st' => exact fun w' H' v E W' r => ⟨w', st', x, W', E, r, h⟩
end

section
variable {G : String → Option Addr} {X : Cx} {W : WX} {e a b c : Expr} {es : List Expr} {ma mb mc : M Val} {mas : M (List Val)} {m1 m2 : M Bool} {s1 s2 : MS} {pos : Pos} {Z : Ends}
  {w w0 : Wo} {st st0 : DSt} {σ σ0 : L2.St} {H H0 : Hp}
theorem tE_toS {f : Val → MS} {Q' : VK} (W1 : Wd (cn G X) w st σ H) (E0 : Ev (Mu st0 σ0) w0 H0 (Mu st σ) w H) (P : PostS (cn G X) W w0 st0 σ0 H0 Z (M.toS ma f st))
    (h : ∀ v H1 w1 st1 x, Wd (cn G X) w1 st1 σ H1 → Ev (Mu st0 σ0) w0 H0 (Mu st1 σ) w1 H1 → VRep X.K H w1 st1 σ H1 v x → PostS (cn G X) W w0 st0 σ0 H0 Z (f x st1) → Q' v H1) : tE G X W ma σ H Q' :=
  ⟨w, st, W1, (PostS.bind E0 P).imp fun v H1 ⟨w1, st1, x, W1, E, r, P1⟩ => h v H1 w1 st1 x W1 (E0.trans E) r P1⟩
theorem tB_toS {mb : M Bool} {f : Bool → MS} {Q' : Bool → Hp → Prop} (W1 : Wd (cn G X) w st σ H) (E0 : Ev (Mu st0 σ0) w0 H0 (Mu st σ) w H) (P : PostS (cn G X) W w0 st0 σ0 H0 Z (M.toS mb f st))
    (h : ∀ c H1 w1 st1, Wd (cn G X) w1 st1 σ H1 → Ev (Mu st0 σ0) w0 H0 (Mu st1 σ) w1 H1 → PostS (cn G X) W w0 st0 σ0 H0 Z (f c st1) → Q' c H1) : tB G X W mb σ H Q' :=
  ⟨w, st, W1, (PostS.bind (VRa := BR) E0 P).imp fun v H1 ⟨w1, st1, x, W1, E, r, P1⟩ => by
    have z : v = x := r
    subst z
    exact h v H1 w1 st1 W1 (E0.trans E) P1⟩
theorem tA_toS {f : List Val → MS} {Q' : List V → Hp → Prop} (W1 : Wd (cn G X) w st σ H) (E0 : Ev (Mu st0 σ0) w0 H0 (Mu st σ) w H) (P : PostS (cn G X) W w0 st0 σ0 H0 Z (M.toS mas f st))
    (h : ∀ vs H1 w1 st1 xs, Wd (cn G X) w1 st1 σ H1 → Ev (Mu st0 σ0) w0 H0 (Mu st1 σ) w1 H1 → VReps X.K H w1 st1 σ H1 vs xs → PostS (cn G X) W w0 st0 σ0 H0 Z (f xs st1) → Q' vs H1) : tA G X W mas σ H Q' :=
  ⟨w, st, W1, (PostS.bind (VRa := VReps X.K) E0 P).imp fun v H1 ⟨w1, st1, x, W1, E, r, P1⟩ => h v H1 w1 st1 x W1 (E0.trans E) r P1⟩
theorem tS_run {m : MS} (W1 : Wd (cn G X) w st σ H) (E0 : Ev (Mu st0 σ0) w0 H0 (Mu st σ) w H) (P : PostS (cn G X) W w0 st0 σ0 H0 Z (m st)) : tS G X W m Z σ H := ⟨w, st, W1, PostS.after E0 P⟩
theorem mFrz_toS {x : Val} {f : D → MS} {DD : Ends} (h : PostS (cn G X) W w0 st0 σ0 H0 DD (M.toS (mFrz x) f st)) :
    ∃ d st', mFrz x st = some (.ok d st') ∧ PostS (cn G X) W w0 st0 σ0 H0 DD (f d st') := by
  unfold M.toS at h
  cases e : mFrz x st with
  | none => rw [e] at h; exact h.elim
  | some r =>
    obtain ⟨d, st1, rfl⟩ := mFrz_some e
    rw [e] at h
    exact ⟨d, st1, rfl, h⟩

theorem gs_pass : GS G X W (.Pass pos) sNx := PS_imp ps_pass fun Z σ H ⟨w, st, W0, P⟩ => P w σ H (.refl _ _ _) W0
theorem gs_break : GS G X W (.Break pos) sBk := PS_imp ps_break fun Z σ H ⟨w, st, W0, P⟩ => P w σ H (.refl _ _ _) W0
theorem gs_continue : GS G X W (.Continue pos) sCt := PS_imp ps_continue fun Z σ H ⟨w, st, W0, P⟩ => P w σ H (.refl _ _ _) W0
theorem gs_nil : GSs G X W [] sNx := PSs_imp pss_nil fun Z σ H ⟨w, st, W0, P⟩ => P w σ H (.refl _ _ _) W0
theorem gs_cons {s : Stmt} {ss : List Stmt} (h1 : GS G X W s s1) (h2 : GSs G X W ss s2) : GSs G X W (s :: ss) (sSeq s1 s2) :=
  PSs_imp (pss_cons h1 h2) fun Z σ H ⟨w, st, W0, P⟩ => ⟨w, st, W0, by
    unfold sSeq at P
    cases e : s1 st with
    | none => rw [e] at P; exact P
    | some r =>
      rw [e] at P
      cases r with
      | nx st' => exact fun w' σ' H' E W' => tS_run W' E P
      | rt v st' => exact P
      | bk st' => exact P
      | ct st' => exact P
      | exc c fs st' => exact P⟩
theorem gs_one {s : Stmt} (h1 : GS G X W s s1) : GSs G X W [s] s1 := pss_one h1
theorem gs_if {xs ys : List Stmt} (hc : GT G X W c m1) (ha : GSs G X W xs s1) (hb : GSs G X W ys s2) : GS G X W (.If c xs ys pos) (sIf m1 s1 s2) :=
  PS_imp (ps_if hc ha hb) fun Z σ H ⟨w, st, W0, P⟩ => tB_toS W0 (.refl _ _ _) P fun c H1 w1 st1 W1 E1 P1 => by
    cases c
    · exact tS_run W1 E1 P1
    · exact tS_run W1 E1 P1
theorem gs_drop (he : GE G X W e ma) (hs : swapsWith e none pos.line X.env = pure false := by rfl) : GS G X W (.Expr e pos) (sDrop ma) :=
  PS_imp (ps_expr he hs) fun Z σ H ⟨w, st, W0, P⟩ => tE_toS W0 (.refl _ _ _) P fun v H1 w1 st1 x W1 E1 _ P1 => P1 w1 σ H1 E1 W1
theorem gs_ret (he : GE G X W e ma) : GS G X W (.Return (some e) pos) (sRet ma) :=
  PS_imp (ps_ret he) fun Z σ H ⟨w, st, W0, P⟩ => tE_toS W0 (.refl _ _ _) P fun v H1 w1 st1 x W1 E1 R1 P1 => P1 w1 σ H1 v E1 W1 R1
theorem gs_retN : GS G X W (.Return none pos) sRetN := PS_imp ps_retN fun Z σ H ⟨w, st, W0, P⟩ => P w σ H .non (.refl _ _ _) W0 .non
theorem gs_doc {x j pos'} : GS G X W (.Expr (.Constant (.str x) j pos) pos') sNx := PS_imp ps_doc fun Z σ H ⟨w, st, W0, P⟩ => P w σ H (.refl _ _ _) W0

/-! ### stores into slots -/
theorem set_ne {α : Type} {l : List α} {i j : Nat} {x : α} (h : j ≠ i) : (l.set i x)[j]? = l[j]? := by
  rw [List.getElem?_set_ne (Ne.symm h)]
theorem Wd.put_frz {n : Cn} {i : Nat} {v : V} {d : D} (W : Wd n w st σ H) (r : Rep n.K w v d) : Wd n w (st.put i (some (.frz d))) (σ.set i (some v)) H where
  toWdS := W.toWdS
  len := by
    show (st.sl.set i _).length = (σ.set i _).length
    rw [List.length_set, List.length_set]
    exact W.len
  frz := fun j d' e => by
    rw [slot_put] at e
    by_cases z : j = i
    · subst z
      rw [if_pos rfl] at e
      by_cases y : j < st.sl.length
      · rw [if_pos y] at e
        cases e
        exact ⟨v, by rw [List.getElem?_set_self (by rw [← W.len]; exact y)], r⟩
      · rw [if_neg y] at e
        cases e
    · rw [if_neg z] at e
      rw [set_ne z]
      exact W.frz j d' e
  ownS := fun j d' e => by
    rw [slot_put] at e
    by_cases z : j = i
    · subst z
      rw [if_pos rfl] at e
      by_cases y : j < st.sl.length
      · rw [if_pos y] at e
        cases e
      · rw [if_neg y] at e
        cases e
    · rw [if_neg z] at e
      rw [set_ne z]
      exact W.ownS j d' e
  dis := fun j k d' e' p h1 h2 h3 h4 => by
    rw [slot_put] at h1 h2
    have nj : j ≠ i := fun z => by
      rw [if_pos z] at h1
      split at h1 <;> cases h1
    have nk : k ≠ i := fun z => by
      rw [if_pos z] at h2
      split at h2 <;> cases h2
    rw [if_neg nj] at h1
    rw [if_neg nk] at h2
    rw [set_ne nj] at h3
    rw [set_ne nk] at h4
    exact W.dis j k d' e' p h1 h2 h3 h4
theorem Mu.put_frz {i : Nat} {v : V} {d : D} {a : Addr} (h : Mu (st.put i (some (.frz d))) (σ.set i (some v)) a) : Mu st σ a := by
  obtain ⟨j, d', e, e'⟩ := h
  rw [slot_put] at e
  by_cases z : j = i
  · rw [if_pos z] at e
    split at e <;> cases e
  · rw [if_neg z] at e
    rw [set_ne z] at e'
    exact ⟨j, d', e, e'⟩
theorem Ev.put_frz {M0 : Addr → Prop} {i : Nat} {v : V} {d : D} (E : Ev M0 w0 H0 (Mu st σ) w H) : Ev M0 w0 H0 (Mu (st.put i (some (.frz d))) (σ.set i (some v))) w H :=
  ⟨E.keep, E.le, fun a h => E.new a h.put_frz, E.dom⟩
theorem Wd.put_own {n : Cn} {i : Nat} {p : Addr} {d : D} (W : Wd n w st σ H) (hf : w.F p = none) (ho : w.ow p = none) (hm : ¬ Mu st σ p) (r : ORep n.K w H p d) : Wd n w (st.put i (some (.own d))) (σ.set i (some (.ref p))) H where
  toWdS := W.toWdS
  len := by
    show (st.sl.set i _).length = (σ.set i _).length
    rw [List.length_set, List.length_set]
    exact W.len
  frz := fun j d' e => by
    rw [slot_put] at e
    by_cases z : j = i
    · rw [if_pos z] at e
      split at e <;> cases e
    · rw [if_neg z] at e
      rw [set_ne z]
      exact W.frz j d' e
  ownS := fun j d' e => by
    rw [slot_put] at e
    by_cases z : j = i
    · subst z
      rw [if_pos rfl] at e
      by_cases y : j < st.sl.length
      · rw [if_pos y] at e
        cases e
        exact ⟨p, by rw [List.getElem?_set_self (by rw [← W.len]; exact y)], hf, ho, r⟩
      · rw [if_neg y] at e
        cases e
    · rw [if_neg z] at e
      rw [set_ne z]
      exact W.ownS j d' e
  dis := fun j k d' e' q h1 h2 h3 h4 => by
    rw [slot_put] at h1 h2
    by_cases nj : j = i
    · by_cases nk : k = i
      · rw [nj, nk]
      · rw [if_neg nk] at h2
        rw [set_ne nk] at h4
        rw [if_pos nj] at h1
        by_cases y : i < st.sl.length
        · rw [nj, List.getElem?_set_self (by rw [← W.len]; exact y)] at h3
          cases h3
          exact (hm ⟨k, e', h2, h4⟩).elim
        · rw [if_neg y] at h1
          cases h1
    · rw [if_neg nj] at h1
      rw [set_ne nj] at h3
      by_cases nk : k = i
      · rw [if_pos nk] at h2
        by_cases y : i < st.sl.length
        · rw [nk, List.getElem?_set_self (by rw [← W.len]; exact y)] at h4
          cases h4
          exact (hm ⟨j, d', h1, h3⟩).elim
        · rw [if_neg y] at h2
          cases h2
      · rw [if_neg nk] at h2
        rw [set_ne nk] at h4
        exact W.dis j k d' e' q h1 h2 h3 h4
theorem Mu.put_own {i : Nat} {p : Addr} {d : D} {a : Addr} (h : Mu (st.put i (some (.own d))) (σ.set i (some (.ref p))) a) : a = p ∨ Mu st σ a := by
  obtain ⟨j, d', e, e'⟩ := h
  rw [slot_put] at e
  by_cases z : j = i
  · subst z
    by_cases y : j < σ.length
    · rw [List.getElem?_set_self y] at e'
      cases e'
      exact .inl rfl
    · rw [List.getElem?_eq_none (by rw [List.length_set]; omega)] at e'
      cases e'
  · rw [if_neg z] at e
    rw [set_ne z] at e'
    exact .inr ⟨j, d', e, e'⟩
theorem Ev.put_own {M0 : Addr → Prop} {i : Nat} {p : Addr} {d : D} (E : Ev M0 w0 H0 (Mu st σ) w H) (h0 : H0 p = none) : Ev M0 w0 H0 (Mu (st.put i (some (.own d))) (σ.set i (some (.ref p)))) w H :=
  ⟨E.keep, E.le, fun a h => by
    rcases h.put_own with z | z
    · subst z
      exact .inr h0
    · exact E.new a z, E.dom⟩
/-- a value is put into a slot -/
theorem put_ok {i : Nat} {v : V} {x : Val} {Hx : Hp} (W1 : Wd (cn G X) w st σ H) (E : Ev (Mu st0 σ0) w0 H0 (Mu st σ) w H) (dm : ∀ a, H0 a ≠ none → Hx a ≠ none) (R : VRep X.K Hx w st σ H v x) (P : PostS (cn G X) W w0 st0 σ0 H0 Z (sPut i x st)) :
    Z.nx (σ.set i (some v)) H := by
  have fin : ∀ {d : D} {st' : DSt}, mFrz x st = some (.ok d st') → PostS (cn G X) W w0 st0 σ0 H0 Z (some (.nx (st'.put i (some (.frz d))))) → Z.nx (σ.set i (some v)) H := fun {d st'} e P => by
    obtain ⟨w1, F, r⟩ := frz_ok W1 E (VRep.F (VRep.anti dm R)) e
    exact P w1 _ H F.ev.put_frz (F.wd.put_frz r)
  cases x with
  | own d =>
    obtain ⟨p, e, h0, hf, ho, hm, r⟩ := VRep.anti dm R
    subst e
    exact P w _ H (E.put_own h0) (W1.put_own hf ho hm r)
  | frz d => exact fin rfl P
  | vr j =>
    obtain ⟨d, st', e, P⟩ := mFrz_toS P
    exact fin e P
theorem gs_set {i : Nat} {x : Str} {pos' : Pos} (hN : X.N.Nodup) (hi : X.N[i]? = some x) (hx : Loc X.env.scope x) (he : GE G X W e ma) (hs : swapsWith e (some (.Name x pos')) pos.line X.env = pure false := by rfl)
    (hf : X.fn x = true ∨ X.env.scope.names.lookup x = some .local := by first | exact .inl rfl | exact .inr rfl | assumption) : GS G X W (.Assign [.Name x pos'] e pos) (sSet i ma) :=
  PS_imp (ps_set hN hi hx he hs hf) fun Z σ H ⟨w, st, W0, P⟩ => tE_toS W0 (.refl _ _ _) P fun v H1 w1 st1 x W1 E1 R1 P1 => put_ok W1 E1 (fun _ h => h) R1 P1

/-! ### while -/
def whileF (t : M Bool) (b : MS) : Nat → MS
  | 0 => fun _ => none
  | k + 1 => M.toS t fun c => if c = true then fun st => match b st with
    | some (.nx st') => whileF t b k st'
    | some (.ct st') => whileF t b k st'
    | some (.bk st') => some (.nx st')
    | r => r
  else sNx
theorem gs_while_n {bs : List Stmt} {m : MS} (hp : PassesOwn (model X.prog X.w) X.A X.env X.xe) (hc : GT G X W c m1) (hb : GSs G X W bs s1) (hm : ∀ st r, m st = some r → ∃ k, whileF m1 s1 k st = some r) : GS G X W (.While c bs [] pos) m :=
  PS_imp (ps_while hp hc hb) fun Z σ H ⟨w0, st0, W0, P⟩ => by
    cases e0 : m st0 with
    | none => rw [e0] at P; exact P.elim
    | some r =>
      rw [e0] at P
      obtain ⟨k0, ek⟩ := hm st0 r e0
      refine ⟨fun k σ' H' => ∃ w st, Wd (cn G X) w st σ' H' ∧ Ev (Mu st0 σ) w0 H (Mu st σ') w H' ∧ whileF m1 s1 k st = some r, ⟨k0, w0, st0, W0, .refl _ _ _, ek⟩, ?_⟩
      rintro k σ1 H1 ⟨w, st, W1, E1, ek⟩
      cases k with
      | zero => cases ek
      | succ k =>
        have P1 : PostS (cn G X) W w0 st0 σ H Z (M.toS m1 (fun c => if c = true then fun st => match s1 st with
          | some (.nx st') => whileF m1 s1 k st'
          | some (.ct st') => whileF m1 s1 k st'
          | some (.bk st') => some (.nx st')
          | r => r
          else sNx) st) := by
          have : whileF m1 s1 (k + 1) st = _ := ek
          unfold whileF at this
          rw [this]
          exact P
        -- the same with what it is worth
        have ek' := ek
        unfold whileF M.toS at ek'
        refine ⟨w, st, W1, ?_⟩
        unfold M.toS at P1
        cases et : m1 st with
        | none => rw [et] at P1; exact P1.elim
        | some q =>
          rw [et] at P1 ek'
          cases q with
          | exc c fs st' => exact WExc.after E1 P1
          | ok c st' =>
            rintro w' H' v E' W' rfl
            cases v with
            | false => exact P1 w' σ1 H' (E1.trans E') W'
            | true =>
              refine ⟨fun σ2 H2 => ∃ w2 st2, Wd (cn G X) w2 st2 σ2 H2 ∧ Ev (Mu st0 σ) w0 H (Mu st2 σ2) w2 H2 ∧ whileF m1 s1 k st2 = some r, fun σ' H' ⟨w2, st2, W2, E2, e2⟩ => ⟨k, Nat.lt_succ_self _, w2, st2, W2, E2, e2⟩, w', st', W', ?_⟩
              dsimp only at P1 ek'
              rw [if_pos rfl] at P1 ek'
              have E2 := E1.trans E'
              cases eb : s1 st' with
              | none => rw [eb] at P1; exact P1.elim
              | some q =>
                rw [eb] at P1 ek'
                cases q with
                | nx s => exact fun w2 σ2 H2 E3 W2 => ⟨w2, s, W2, E2.trans E3, ek'⟩
                | ct s => exact fun w2 σ2 H2 E3 W2 => ⟨w2, s, W2, E2.trans E3, ek'⟩
                | bk s => exact fun w2 σ2 H2 E3 W2 => P1 w2 σ2 H2 (E2.trans E3) W2
                | rt v s => exact fun w2 σ2 H2 u E3 W2 r => P1 w2 σ2 H2 u (E2.trans E3) W2 (r.anti E2.dom)
                | exc c fs s => exact WExc.after E2 P1
end
end FB

/-! FBLoop: while, for, comprehensions. -/
namespace FB
open PySem PySem.Spec PyProof.Rows L2

/-! ### while, without a bound -/
def whileM (t : M Bool) (b : MS) (st : DSt) : Option SR := do
  let r ← t st
  match r with
  | .exc c fs st' => some (.exc c fs st')
  | .ok false st' => some (.nx st')
  | .ok true st' => do
    let q ← b st'
    match q with
    | .nx s => whileM t b s
    | .ct s => whileM t b s
    | .bk s => some (.nx s)
    | .rt v s => some (.rt v s)
    | .exc c fs s => some (.exc c fs s)
partial_fixpoint
theorem whileM_F (t : M Bool) (b : MS) (st : DSt) (r : SR) (h : whileM t b st = some r) : ∃ k, whileF t b k st = some r := by
  refine whileM.partial_correctness t b (fun st r => ∃ k, whileF t b k st = some r) ?_ st r h
  intro f ih st r e
  cases et : t st with
  | none => rw [et] at e; cases e
  | some q =>
    rw [et] at e
    simp only [bind, Option.bind_some] at e
    cases q with
    | exc c fs s =>
      refine ⟨1, ?_⟩
      unfold whileF M.toS
      rw [et]
      exact e
    | ok c s =>
      cases c with
      | false =>
        refine ⟨1, ?_⟩
        unfold whileF M.toS
        rw [et]
        exact e
      | true =>
        dsimp only at e
        cases eb : b s with
        | none => rw [eb] at e; cases e
        | some q =>
          rw [eb] at e
          simp only [bind, Option.bind_some] at e
          cases q with
          | nx s' =>
            obtain ⟨k, ek⟩ := ih s' r e
            refine ⟨k + 1, ?_⟩
            unfold whileF M.toS
            rw [et]
            dsimp only
            rw [if_pos rfl, eb]
            exact ek
          | ct s' =>
            obtain ⟨k, ek⟩ := ih s' r e
            refine ⟨k + 1, ?_⟩
            unfold whileF M.toS
            rw [et]
            dsimp only
            rw [if_pos rfl, eb]
            exact ek
          | bk s' =>
            refine ⟨1, ?_⟩
            unfold whileF M.toS
            rw [et]
            dsimp only
            rw [if_pos rfl, eb]
            exact e
          | rt v s' =>
            refine ⟨1, ?_⟩
            unfold whileF M.toS
            rw [et]
            dsimp only
            rw [if_pos rfl, eb]
            exact e
          | exc c fs s' =>
            refine ⟨1, ?_⟩
            unfold whileF M.toS
            rw [et]
            dsimp only
            rw [if_pos rfl, eb]
            exact e

/-! ### targets -/
abbrev Tg := D → DSt → Option DSt
def tgName (i : Nat) : Tg := fun d st => some (st.put i (some (.frz d)))
def tgAll : List Tg → List D → DSt → Option DSt
  | [], [], st => some st
  | t :: ts, d :: ds, st => (t d st).bind fun st' => tgAll ts ds st'
  | _, _, _ => none
def tgTup (ts : List Tg) : Tg := fun d st => match d with
  | .tup ds => tgAll ts ds st
  | _ => none
def tgLst (ts : List Tg) : Tg := fun d st => match d with
  | .lst ds => tgAll ts ds st
  | _ => none

/-- as it was but at the places S -/
def SB (S : List Nat) (σ σ' : L2.St) : Prop := σ'.length = σ.length ∧ ∀ i, i ∉ S → σ'[i]? = σ[i]?
theorem SB.refl (S : List Nat) (σ : L2.St) : SB S σ σ := ⟨rfl, fun _ _ => rfl⟩
theorem SB.trans {S S' : List Nat} {a b c : L2.St} (h : SB S a b) (k : SB S' b c) : SB (S ++ S') a c := ⟨k.1.trans h.1, fun i hi => by
  rw [List.mem_append, not_or] at hi
  rw [k.2 i hi.2, h.2 i hi.1]⟩
def tGt (G : String → Option Addr) (X : Cx) (S : List Nat) (t : Tg) : TG := fun v σ H Q => ∃ w st d st', Wd (cn G X) w st σ H ∧ Rep X.K w v d ∧ t d st = some st' ∧
  ∀ σ', SB S σ σ' → (∀ a, Mu st' σ' a → Mu st σ a) → Wd (cn G X) w st' σ' H → Q σ' H
def tGts (G : String → Option Addr) (X : Cx) (S : List Nat) (ts : List Tg) : TGs := fun vs σ H Q => ∃ w st ds st', Wd (cn G X) w st σ H ∧ Reps X.K w vs ds ∧ tgAll ts ds st = some st' ∧
  ∀ σ', SB S σ σ' → (∀ a, Mu st' σ' a → Mu st σ a) → Wd (cn G X) w st' σ' H → Q σ' H
abbrev GG (G : String → Option Addr) (X : Cx) (tg : Expr) (S : List Nat) (t : Tg) : Prop := PG X tg (tGt G X S t)
abbrev GGs (G : String → Option Addr) (X : Cx) (tg : List Expr) (S : List Nat) (t : List Tg) : Prop := PGs X tg (tGts G X S t)
theorem PG_imp {X : Cx} {e : Expr} {t t' : TG} (h : PG X e t) (i : ∀ v σ H Q, t' v σ H Q → t v σ H Q) : PG X e t' := ⟨fun p s σ H v u Q I r q => h.run p s σ H v u Q I r (i _ _ _ _ q)⟩
theorem PGs_imp {X : Cx} {e : List Expr} {t t' : TGs} (h : PGs X e t) (i : ∀ v σ H Q, t' v σ H Q → t v σ H Q) : PGs X e t' := ⟨fun p s σ H v u Q I r q => h.run p s σ H v u Q I r (i _ _ _ _ q)⟩
section
variable {G : String → Option Addr} {X : Cx} {W : WX} {e : Expr} {es : List Expr} {t : Tg} {ts : List Tg} {pos : Pos} {S S' : List Nat}
theorem gg_name {i : Nat} {x : Str} (hN : X.N.Nodup) (hi : X.N[i]? = some x) (hx : Loc X.env.scope x) (hf : X.fn x = true ∨ X.env.scope.names.lookup x = some .local := by first | exact .inl rfl | exact .inr rfl | assumption) : GG G X (.Name x pos) [i] (tgName i) :=
  PG_imp (pg_name hN hi hx hf) fun v σ H Q ⟨w, st, d, st', W0, r, e, q⟩ => by
    cases e
    exact q _ ⟨List.length_set, fun j hj => set_ne (by simpa using hj)⟩ (fun a h => h.put_frz) (W0.put_frz r)
theorem ggs_nil : GGs G X [] [] [] := PGs_imp pgs_nil fun vs σ H Q ⟨w, st, ds, st', W0, r, e, q⟩ => by
  cases r with
  | nil =>
    cases e
    exact ⟨rfl, q σ (.refl _ _) (fun _ h => h) W0⟩
  | cons => cases e
theorem ggs_cons (h1 : GG G X e S t) (h2 : GGs G X es S' ts) (hs : (assignEach (e :: es) X.env).map (·.2) = assign e X.env :: (assignEach es X.env).map (·.2) := by rfl) : GGs G X (e :: es) (S ++ S') (t :: ts) :=
  PGs_imp (pgs_cons h1 h2 hs) fun vs σ H Q ⟨w, st, ds, st', W0, r, e, q⟩ => by
    cases r with
    | nil => cases e
    | @cons v d vs ds r1 r2 =>
      unfold tgAll at e
      cases e1 : t d st with
      | none => rw [e1] at e; cases e
      | some st1 =>
        rw [e1] at e
        exact ⟨v, vs, rfl, w, st, d, st1, W0, r1, e1, fun σ' b1 m1 W1 => ⟨w, st1, ds, st', W1, r2, e, fun σ'' b2 m2 W2 => q σ'' (b1.trans b2) (fun a h => m1 a (m2 a h)) W2⟩⟩
theorem tgAll_len {ts : List Tg} : ∀ {ds : List D} {st st' : DSt}, tgAll ts ds st = some st' → ds.length = ts.length := by
  induction ts with
  | nil =>
    intro ds st st' e
    cases ds with
    | nil => rfl
    | cons => cases e
  | cons t ts ih =>
    intro ds st st' e
    cases ds with
    | nil => cases e
    | cons d ds =>
      unfold tgAll at e
      cases e1 : t d st with
      | none => rw [e1] at e; cases e
      | some st1 =>
        rw [e1] at e
        simp [ih e]
theorem gg_tup {k : Nat} (hc : X.calm = true) (h : GGs G X es S ts) {n : Nat} (hn : (assignEach es X.env).length = n := by rfl) (hst : (assignEach es X.env).findIdx? (·.1) = none := by rfl) (hl : ts.length = n := by rfl) : GG G X (.Tuple es k pos) S (tgTup ts) :=
  PG_imp (pg_tup hc h hn hst) fun v σ H Q ⟨w, st, d, st', W0, r, e, q⟩ => by
    cases d with
    | tup ds =>
      cases r with
      | tup s r => exact ⟨_, _, rfl, sub_tup W0.sub s, by rw [r.length, tgAll_len e, hl], w, st, ds, st', W0, r, e, q⟩
    | _ => cases e
theorem gg_lst {k : Nat} (hc : X.calm = true) (h : GGs G X es S ts) {n : Nat} (hn : (assignEach es X.env).length = n := by rfl) (hst : (assignEach es X.env).findIdx? (·.1) = none := by rfl) (hl : ts.length = n := by rfl) : GG G X (.Tuple es k pos) S (tgLst ts) :=
  PG_imp (pg_lst hc h hn hst) fun v σ H Q ⟨w, st, d, st', W0, r, e, q⟩ => by
    cases d with
    | lst ds =>
      cases r with
      | lst s r => exact ⟨_, _, rfl, SqL.of (sub_lst W0.sub s), by rw [r.length, tgAll_len e, hl], w, st, ds, st', W0, r, e, q⟩
    | _ => cases e
end

/-! ### what is walked -/
structure ItOk (n : Cn) (J : It) (M0 : Addr → Prop) (w : Wo) (H : Hp) (ds : List D) : Prop where
  ok : ∃ Gd Y, Walk J ds.length Gd Y ∧ (∀ w2 st2 σ2 H2, Ev M0 w H (Mu st2 σ2) w2 H2 → Wd n w2 st2 σ2 H2 → Gd H2) ∧
    ∀ i w2 st σ H2 x H3, WLe w w2 → Wd n w2 st σ H2 → i < ds.length → Y i H2 x H3 → ∃ d w3, ds[i]? = some d ∧ Wd n w3 st σ H3 ∧ Ev (Mu st σ) w2 H2 (Mu st σ) w3 H3 ∧ Rep n.K w3 x d
def IR (n : Cn) : VRel (List D) It := fun _ w st σ H J ds => ItOk n J (Mu st σ) w H ds
def tI (G : String → Option Addr) (X : Cx) (W : WX) (m : M (List D)) : TI := fun σ H R => ∃ w st, Wd (cn G X) w st σ H ∧ Post (IR (cn G X)) (cn G X) W w st σ H R (m st)
abbrev GI (G : String → Option Addr) (X : Cx) (W : WX) (tg e : Expr) (m : M (List D)) : Prop := PI X tg e (tI G X W m)
theorem PI_imp {X : Cx} {tg e : Expr} {t t' : TI} (h : PI X tg e t) (i : ∀ σ H R, t' σ H R → t σ H R) : PI X tg e t' := ⟨fun p s σ H R I q => h.run p s σ H R I (i _ _ _ q)⟩
theorem anti_I {n : Cn} : Anti (IR n) := ⟨fun _ r => r⟩

def forF (t : Tg) (b : MS) : List D → MS
  | [] => sNx
  | d :: ds => fun st => match t d st with
    | none => none
    | some st1 => match b st1 with
      | some (.nx s) => forF t b ds s
      | some (.ct s) => forF t b ds s
      | some (.bk s) => some (.nx s)
      | r => r
def sFor (mi : M (List D)) (t : Tg) (b : MS) : MS := M.toS mi fun ds => forF t b ds
theorem Reps.get {K : PySem.W.Frag} {w : Wo} : ∀ {vs : List V} {ds : List D} {i : Nat} {v : V}, Reps K w vs ds → vs[i]? = some v → ∃ d, ds[i]? = some d ∧ Rep K w v d
  | _, _, _, _, .nil, e => by simp at e
  | _, _, 0, _, .cons r _, e => by simp at e; subst e; exact ⟨_, rfl, r⟩
  | _, _, i + 1, b, .cons _ t, e => by
    obtain ⟨a, h1, h2⟩ := Reps.get (i := i) (v := b) t (by simpa using e)
    exact ⟨a, by simpa using h1, h2⟩

section
variable {G : String → Option Addr} {X : Cx} {W : WX} {e a b c : Expr} {es : List Expr} {ma mb mc : M Val} {mas : M (List Val)} {m1 m2 : M Bool} {s1 s2 : MS} {pos : Pos} {Z : Ends} {mi : M (List D)} {t : Tg}
  {w w0 : Wo} {st st0 : DSt} {σ σ0 : L2.St} {H H0 : Hp}
theorem gs_while {bs : List Stmt} (hp : PassesOwn (model X.prog X.w) X.A X.env X.xe) (hc : GT G X W c m1) (hb : GSs G X W bs s1) : GS G X W (.While c bs [] pos) (whileM m1 s1) := gs_while_n hp hc hb fun st r h => whileM_F m1 s1 st r h
theorem gs_for {tg iter : Expr} {body : List Stmt} (hp : PassesOwn (model X.prog X.w) X.A X.env X.xe) (hc : X.calm = true) (hi : GI G X W tg iter mi) {S : List Nat} (hg : GG G X tg S t) (hb : GSs G X W body s1)
    (hs : ∀ x, foldedSetIterable iter X.env x = pure x := by intro _; rfl) : GS G X W (.For tg iter body [] pos) (sFor mi t s1) :=
  PS_imp (ps_for hp hc hi hg hb hs) fun Z σ H ⟨w0, st0, W0, P⟩ => by
    refine ⟨w0, st0, W0, (PostS.bind (VRa := IR (cn G X)) (.refl _ _ _) P).imp fun J H1 ⟨w1, st1, ds, W1, E1, R1, P1⟩ => ?_⟩
    obtain ⟨Gd, Y, wk, hG, hY⟩ := R1.ok
    refine for_it wk (fun i σ' H' => ∃ w st, Wd (cn G X) w st σ' H' ∧ Ev (Mu st0 σ) w0 H (Mu st σ') w H' ∧ Ev (Mu st1 σ) w1 H1 (Mu st σ') w H' ∧ PostS (cn G X) W w0 st0 σ H Z (forF t s1 (ds.drop i) st)) ⟨w1, st1, W1, E1, .refl _ _ _, P1⟩
      (fun i σ' H' _ ⟨w, st, W2, _, E2, _⟩ => hG w st σ' H' E2 W2) ?_ ?_
    · rintro i x σ' H' H'' hi ⟨w, st, W2, E2, F2, P2⟩ hy
      obtain ⟨d, w3, ed, W3, E3, r3⟩ := hY i w st σ' H' x H'' F2.le W2 hi hy
      have ex : ds.drop i = d :: ds.drop (i + 1) := by
        obtain ⟨h1, h2⟩ := List.getElem?_eq_some_iff.mp ed
        rw [List.drop_eq_getElem_cons h1, h2]
      rw [ex] at P2
      unfold forF at P2
      cases et : t d st with
      | none => rw [et] at P2; exact P2.elim
      | some st' =>
        rw [et] at P2
        refine ⟨w3, st, d, st', W3, r3, et, fun σ2 _ m2 W4 => ⟨w3, st', W4, ?_⟩⟩
        have E4 : Ev (Mu st0 σ) w0 H (Mu st' σ2) w3 H'' := ⟨(E2.trans E3).keep, (E2.trans E3).le, fun a h => (E2.trans E3).new a (m2 a h), (E2.trans E3).dom⟩
        have F4 : Ev (Mu st1 σ) w1 H1 (Mu st' σ2) w3 H'' := ⟨(F2.trans E3).keep, (F2.trans E3).le, fun a h => (F2.trans E3).new a (m2 a h), (F2.trans E3).dom⟩
        dsimp only at P2
        cases eb : s1 st' with
        | none => rw [eb] at P2; exact P2.elim
        | some q =>
          rw [eb] at P2
          cases q with
          | nx s => exact fun w5 σ5 H5 E5 W5 => ⟨w5, s, W5, E4.trans E5, F4.trans E5, P2⟩
          | ct s => exact fun w5 σ5 H5 E5 W5 => ⟨w5, s, W5, E4.trans E5, F4.trans E5, P2⟩
          | bk s => exact fun w5 σ5 H5 E5 W5 => P2 w5 σ5 H5 (E4.trans E5) W5
          | rt v s => exact fun w5 σ5 H5 u E5 W5 r => P2 w5 σ5 H5 u (E4.trans E5) W5 (r.anti E4.dom)
          | exc c fs s => exact WExc.after E4 P2
    · rintro σ' H' ⟨w, st, W2, E2, F2, P2⟩
      rw [List.drop_length] at P2
      exact P2 w σ' H' E2 W2
end

/-! ### comprehensions -/
def DSt.wipe (st : DSt) : List Nat → DSt
  | [] => st
  | v :: vs => (st.wipe vs).put v none
/-- the slots vs as they were in st0 -/
def DSt.rest (st st0 : DSt) : List Nat → DSt
  | [] => st
  | v :: vs => (st.rest st0 vs).put v (st0.slot v)
def compF (t : Tg) (c : M Bool) (e : M Val) (vs : List Nat) (acc : List D) : List D → M (List D)
  | [] => M.pure acc
  | d :: ds => fun st => match t d st with
    | none => none
    | some st1 => match c st1 with
      | some (.ok true st2) => match e st2 with
        | some (.ok v st3) => match mFrz v st3 with
          | some (.ok x st4) => if acc.length < 16777216 then compF t c e vs (acc ++ [x]) ds (st4.wipe vs) else none
          | _ => none
        | _ => none
      | some (.ok false st2) => compF t c e vs acc ds (st2.wipe vs)
      | _ => none
def mYes : M Bool := M.pure true
def mComp (mi : M (List D)) (t : Tg) (c : M Bool) (e : M Val) (vs : List Nat) : M Val := M.bind mi fun ds => fun st =>
  match compF t c e vs [] ds (st.wipe vs) with
  | some (.ok acc st') => some (.ok (.own (.lst acc)) (st'.rest st vs))
  | _ => none

section
variable {n : Cn} {w w1 w0 : Wo} {st st1 st0 : DSt} {σ σ0 : L2.St} {H H1 H0 : Hp}
theorem put_len (st : DSt) (i : Nat) (s : Option Slot) : (st.put i s).sl.length = st.sl.length := List.length_set
theorem put_so (st : DSt) (i : Nat) (s : Option Slot) : (st.put i s).so = st.so := rfl
theorem wipe_len (st : DSt) : ∀ vs, (st.wipe vs).sl.length = st.sl.length
  | [] => rfl
  | v :: vs => (put_len _ _ _).trans (wipe_len st vs)
theorem wipe_so (st : DSt) : ∀ vs, (st.wipe vs).so = st.so
  | [] => rfl
  | v :: vs => (wipe_so st vs)
theorem wipe_slot (st : DSt) (j : Nat) : ∀ vs, (st.wipe vs).slot j = if j ∈ vs then none else st.slot j
  | [] => by simp [DSt.wipe]
  | v :: vs => by
    show ((st.wipe vs).put v none).slot j = _
    rw [slot_put, wipe_slot st j vs]
    by_cases h : j = v
    · simp [h]
    · simp [h]
theorem rest_len (st st0 : DSt) : ∀ vs, (st.rest st0 vs).sl.length = st.sl.length
  | [] => rfl
  | v :: vs => (put_len _ _ _).trans (rest_len st st0 vs)
theorem rest_so (st st0 : DSt) : ∀ vs, (st.rest st0 vs).so = st.so
  | [] => rfl
  | v :: vs => (rest_so st st0 vs)
theorem rest_slot (st st0 : DSt) (hl : st.sl.length = st0.sl.length) (j : Nat) : ∀ vs, (st.rest st0 vs).slot j = if j ∈ vs then st0.slot j else st.slot j
  | [] => by simp [DSt.rest]
  | v :: vs => by
    show ((st.rest st0 vs).put v (st0.slot v)).slot j = _
    rw [slot_put, rest_slot st st0 hl j vs, rest_len]
    by_cases h : j = v
    · subst h
      rw [if_pos rfl, if_pos List.mem_cons_self]
      by_cases hh : j < st.sl.length
      · rw [if_pos hh]
      · rw [if_neg hh]
        cases e : st0.slot j with
        | none => rfl
        | some s => exact absurd (by rw [hl]; exact slot_lt e) hh
    · simp [h]
theorem wipeS_len (σ : L2.St) : ∀ vs, (wipe σ vs).length = σ.length
  | [] => rfl
  | v :: vs => by
    show ((wipe σ vs).set v none).length = _
    rw [List.length_set]
    exact wipeS_len σ vs
theorem wipeS_get (σ : L2.St) (j : Nat) : ∀ vs, j ∉ vs → (wipe σ vs)[j]? = σ[j]?
  | [], _ => rfl
  | v :: vs, h => by
    show ((wipe σ vs).set v none)[j]? = _
    rw [List.mem_cons, not_or] at h
    rw [set_ne h.1]
    exact wipeS_get σ j vs h.2
theorem wipeS_in (σ : L2.St) (j : Nat) (hj : j < σ.length) : ∀ vs, j ∈ vs → (wipe σ vs)[j]? = some none
  | v :: vs, h => by
    show ((wipe σ vs).set v none)[j]? = _
    by_cases e : j = v
    · subst e
      rw [List.getElem?_set_self (by rw [wipeS_len]; exact hj)]
    · rw [set_ne e]
      exact wipeS_in σ j hj vs ((List.mem_cons.mp h).resolve_left e)
theorem wipeS_eq {σ σ' : L2.St} {vs : List Nat} (h : SB vs σ σ') : wipe σ' vs = wipe σ vs := by
  refine List.ext_getElem? fun j => ?_
  by_cases hj : j ∈ vs
  · by_cases hl : j < σ.length
    · rw [wipeS_in σ j hl vs hj, wipeS_in σ' j (by rw [h.1]; exact hl) vs hj]
    · have h1 : (wipe σ' vs)[j]? = none := List.getElem?_eq_none (by rw [wipeS_len, h.1]; omega)
      have h2 : (wipe σ vs)[j]? = none := List.getElem?_eq_none (by rw [wipeS_len]; omega)
      rw [h1, h2]
  · rw [wipeS_get _ _ _ hj, wipeS_get _ _ _ hj, h.2 j hj]
theorem Mu.wiped {vs : List Nat} {a : Addr} (h : Mu (st.wipe vs) (wipe σ vs) a) : Mu st σ a ∧ ∃ j d, j ∉ vs ∧ st.slot j = some (.own d) ∧ σ[j]? = some (some (.ref a)) := by
  obtain ⟨j, d, e, e'⟩ := h
  rw [wipe_slot] at e
  by_cases z : j ∈ vs
  · rw [if_pos z] at e
    cases e
  · rw [if_neg z] at e
    rw [wipeS_get _ _ _ z] at e'
    exact ⟨⟨j, d, e, e'⟩, j, d, z, e, e'⟩
theorem Wd.wiped (W : Wd n w st σ H) (vs : List Nat) : Wd n w (st.wipe vs) (wipe σ vs) H where
  toWdS := by
    have h := W.toWdS
    rw [← wipe_so st vs] at h
    exact h
  len := by rw [wipe_len, wipeS_len]; exact W.len
  frz := fun i d e => by
    rw [wipe_slot] at e
    by_cases z : i ∈ vs
    · rw [if_pos z] at e; cases e
    · rw [if_neg z] at e
      rw [wipeS_get _ _ _ z]
      exact W.frz i d e
  ownS := fun i d e => by
    rw [wipe_slot] at e
    by_cases z : i ∈ vs
    · rw [if_pos z] at e; cases e
    · rw [if_neg z] at e
      rw [wipeS_get _ _ _ z]
      exact W.ownS i d e
  dis := fun i j d d' p h1 h2 h3 h4 => by
    rw [wipe_slot] at h1 h2
    by_cases z : i ∈ vs
    · rw [if_pos z] at h1; cases h1
    · by_cases y : j ∈ vs
      · rw [if_pos y] at h2; cases h2
      · rw [if_neg z] at h1
        rw [if_neg y] at h2
        rw [wipeS_get _ _ _ z] at h3
        rw [wipeS_get _ _ _ y] at h4
        exact W.dis i j d d' p h1 h2 h3 h4
/-- an object that is nobody's is rewritten -/
theorem Wd.poke {p : Addr} {o u : HO} (W : Wd n w st σ H) (hp : H p = some u) (hf : w.F p = none) (ho : w.ow p = none) (hm : ¬ Mu st σ p) : Wd n w st σ (upd H p o) where
  sub := fun a v e => by
    rw [upd_ne fun z => by subst z; rw [hf] at e; cases e]
    exact W.sub a v e
  own := fun a k e => ⟨(W.own a k e).1, upd_dom a (W.own a k e).2⟩
  sto := fun k o' e => (W.sto k o' e).frame (.refl w) fun a ha => ⟨upd_ne (fun z => by subst z; rw [ho] at ha; cases ha), ha⟩
  rb := W.rb
  exs := fun a c d e => by
    obtain ⟨C, g, q⟩ := W.exs a c d e
    refine ⟨C, g, q.imp (fun q => ⟨?_, q.2⟩) id⟩
    rw [upd_ne fun z => by rw [z, hf] at q; cases q.2]
    exact q.1
  len := W.len
  frz := W.frz
  ownS := fun i d e => by
    obtain ⟨q, e1, e2, e3, r⟩ := W.ownS i d e
    exact ⟨q, e1, e2, e3, r.mono (.refl w) (upd_ne fun z => hm ⟨i, d, e, by rw [← z]; exact e1⟩)⟩
  dis := W.dis
theorem Ev.poke {M M' : Addr → Prop} {p : Addr} {o : HO} (E : Ev M w0 H0 M' w H) (h0 : H0 p = none) : Ev M w0 H0 M' w (upd H p o) :=
  ⟨fun a u e ho hm => by
    obtain ⟨h1, h2⟩ := E.keep a u e ho hm
    exact ⟨by rw [upd_ne (ne_of_none e h0)]; exact h1, h2⟩, E.le, E.new, fun a h => upd_dom a (E.dom a h)⟩
/-- behind a block: its own slots are what they were -/
theorem wd_rest {vs : List Nat} (W : Wd n w st σ H) (E : Ev (Mu (st.wipe vs) (wipe σ vs)) w H (Mu st1 (wipe σ vs)) w1 H1) (W1 : Wd n w1 st1 (wipe σ vs) H1) : Wd n w1 (st1.rest st vs) σ H1 ∧ (∀ a, Mu (st1.rest st vs) σ a → Mu st σ a ∨ H a = none) := by
  have hl : st1.sl.length = st.sl.length := by rw [W1.len, wipeS_len, W.len]
  -- a restored own thing is foreign to the block
  have far : ∀ {i : Nat} {d : D} {p : Addr}, i ∈ vs → st.slot i = some (.own d) → σ[i]? = some (some (.ref p)) → ¬ Mu (st.wipe vs) (wipe σ vs) p := fun {i d p} hi h1 h2 hm => by
    obtain ⟨_, j, d', hj, e, e'⟩ := hm.wiped
    exact hj (W.dis i j _ _ p h1 e h2 e' ▸ hi)
  have back : ∀ {i : Nat} {d : D}, i ∈ vs → st.slot i = some (.own d) → ∃ p o, σ[i]? = some (some (.ref p)) ∧ H p = some o ∧ H1 p = some o ∧ w1.F p = none ∧ w1.ow p = none ∧ ORep n.K w1 H1 p d ∧ ¬ Mu st1 (wipe σ vs) p := fun {i d} hi h1 => by
    obtain ⟨p, e1, hf, ho, r⟩ := W.ownS i d h1
    cases hp : H p with
    | none => exact absurd hp r.ne
    | some o =>
      have fm := far hi h1 e1
      obtain ⟨k1, k2, k3⟩ := E.keep p o hp ho fm
      exact ⟨p, o, e1, hp, k1, k2.trans hf, k3, r.mono E.le (k1.trans hp.symm), fun z => (E.new p z).elim fm fun q => by rw [hp] at q; cases q⟩
  have mu : ∀ a, Mu (st1.rest st vs) σ a → Mu st σ a ∨ H a = none := fun a ⟨i, d, e, e'⟩ => by
    rw [rest_slot _ _ hl] at e
    by_cases z : i ∈ vs
    · rw [if_pos z] at e
      exact .inl ⟨i, d, e, e'⟩
    · rw [if_neg z] at e
      exact (E.new a ⟨i, d, e, by rw [wipeS_get _ _ _ z]; exact e'⟩).imp (fun h => h.wiped.1) id
  refine ⟨⟨?_, ?_, fun i d e => ?_, fun i d e => ?_, fun i j d d' p h1 h2 h3 h4 => ?_⟩, mu⟩
  · have h := W1.toWdS
    rw [← rest_so st1 st vs] at h
    exact h
  · rw [rest_len, W1.len, wipeS_len]
  · rw [rest_slot _ _ hl] at e
    by_cases z : i ∈ vs
    · rw [if_pos z] at e
      obtain ⟨v, e1, r⟩ := W.frz i d e
      exact ⟨v, e1, r.mono E.le⟩
    · rw [if_neg z] at e
      obtain ⟨v, e1, r⟩ := W1.frz i d e
      rw [wipeS_get _ _ _ z] at e1
      exact ⟨v, e1, r⟩
  · rw [rest_slot _ _ hl] at e
    by_cases z : i ∈ vs
    · rw [if_pos z] at e
      obtain ⟨p, o, e1, _, _, e2, e3, r, _⟩ := back z e
      exact ⟨p, e1, e2, e3, r⟩
    · rw [if_neg z] at e
      obtain ⟨p, e1, r⟩ := W1.ownS i d e
      rw [wipeS_get _ _ _ z] at e1
      exact ⟨p, e1, r⟩
  · rw [rest_slot _ _ hl] at h1 h2
    by_cases z : i ∈ vs
    · rw [if_pos z] at h1
      by_cases y : j ∈ vs
      · rw [if_pos y] at h2
        exact W.dis i j d d' p h1 h2 h3 h4
      · rw [if_neg y] at h2
        obtain ⟨q, o, e1, _, _, _, _, _, nm⟩ := back z h1
        have : p = q := by simpa using h3.symm.trans e1
        subst this
        exact (nm ⟨j, d', h2, by rw [wipeS_get _ _ _ y]; exact h4⟩).elim
    · rw [if_neg z] at h1
      by_cases y : j ∈ vs
      · rw [if_pos y] at h2
        obtain ⟨q, o, e1, _, _, _, _, _, nm⟩ := back y h2
        have : p = q := by simpa using h4.symm.trans e1
        subst this
        exact (nm ⟨i, d, h1, by rw [wipeS_get _ _ _ z]; exact h3⟩).elim
      · rw [if_neg y] at h2
        refine W1.dis i j d d' p h1 h2 ?_ ?_
        · rw [wipeS_get _ _ _ z]; exact h3
        · rw [wipeS_get _ _ _ y]; exact h4
end

section
variable {G : String → Option Addr} {X : Cx} {W : WX} {t : Tg} {mi : M (List D)} {mc : M Bool} {me : M Val}
theorem Ev.wk {M M2 M' : Addr → Prop} {w w' : Wo} {H H' : Hp} (h : ∀ a, M a → M2 a) (E : Ev M w H M' w' H') : Ev M2 w H M' w' H' := ⟨fun a o e ho hm => E.keep a o e ho fun z => hm (h a z), E.le, fun a z => (E.new a z).imp (h a) id, E.dom⟩
theorem Ev.to {M M' M2 : Addr → Prop} {w w' : Wo} {H H' : Hp} (E : Ev M w H M' w' H') (h : ∀ a, M2 a → M' a) : Ev M w H M2 w' H' := ⟨E.keep, E.le, fun a z => E.new a (h a z), E.dom⟩
abbrev W0 : WX := fun _ _ _ _ => False
theorem SB.wiped (σ : L2.St) (vs : List Nat) : SB vs σ (wipe σ vs) := ⟨wipeS_len σ vs, fun i hi => wipeS_get σ i vs hi⟩
theorem SB.sub {S S' : List Nat} {σ σ' : L2.St} (h : SB S σ σ') (i : ∀ j ∈ S, j ∈ S') : SB S' σ σ' := ⟨h.1, fun j hj => h.2 j fun z => hj (i j z)⟩
theorem tLc_ok {S vs : List Nat} (hS : ∀ i ∈ S, i ∈ vs) {σ : L2.St} {H : Hp} {Q : VK} (h : tE G X W (mComp mi t mc me vs) σ H Q) :
    tLc (tI G X W mi) (tGt G X S t) (tB G X W0 mc) (tE G X W0 me) vs σ H Q := by
  obtain ⟨w0, st0, Wd0, P⟩ := h
  refine ⟨w0, st0, Wd0, (Post.bind (VRa := IR (cn G X)) (.refl _ _ _) P).imp fun J H1 ⟨w1, st1, ds, W1, E1, R1, P1⟩ => ?_⟩
  intro Dd hD
  obtain ⟨Gd, Y, wk, hG, hY⟩ := R1.ok
  cases ec : compF t mc me vs [] ds (st1.wipe vs) with
  | none =>
    rw [ec] at P1
    exact P1.elim
  | some r =>
    cases r with
    | exc c fs s =>
      rw [ec] at P1
      exact P1.elim
    | ok acc st' =>
      rw [ec] at P1
      have P2 : Post (VRep X.K) (cn G X) W w0 st0 σ H Q (some (.ok (.own (.lst acc)) (st'.rest st1 vs))) := P1
      have iw : wipe (wipe σ vs) vs = wipe σ vs := wipeS_eq (.wiped σ vs)
      have hH : H Dd = none := by
        cases e : H Dd with
        | none => rfl
        | some o => exact absurd hD (E1.dom Dd (by rw [e]; simp))
      refine lc_it wk (fun i H' => ∃ w st aI aV, Wd (cn G X) w st (wipe σ vs) H' ∧ Ev (Mu (st1.wipe vs) (wipe σ vs)) w1 H1 (Mu st (wipe σ vs)) w H' ∧ H' Dd = some (.lst aV) ∧ Reps X.K w aV aI ∧ w.F Dd = none ∧ w.ow Dd = none ∧ ¬ Mu st (wipe σ vs) Dd ∧
        compF t mc me vs aI (ds.drop i) st = some (.ok acc st')) ?_ ?_ ?_ ?_
      · exact ⟨w1, st1.wipe vs, [], [], (W1.wiped vs).alloc hD, .alloc hD, upd_same, .nil, sub_ne W1.sub hD, W1.toWdS.own_none hD, Mu.not_of (W1.wiped vs) hD, ec⟩
      · rintro i H' hi ⟨w, st, aI, aV, W2, E2, _⟩
        exact hG w st _ H' (E2.wk fun a h => h.wiped.1) W2
      · rintro i x H' H'' hi ⟨w, st, aI, aV, W2, E2, e1, r1, f1, o1, n1, c1⟩ hy
        obtain ⟨d, w3, ed, W3, E3, r3⟩ := hY i w st _ H' x H'' E2.le W2 hi hy
        have ex : ds.drop i = d :: ds.drop (i + 1) := by
          obtain ⟨h1, h2⟩ := List.getElem?_eq_some_iff.mp ed
          rw [List.drop_eq_getElem_cons h1, h2]
        rw [ex] at c1
        unfold compF at c1
        cases et : t d st with
        | none =>
          rw [et] at c1
          cases c1
        | some s1 =>
          rw [et] at c1
          refine ⟨w3, st, d, s1, W3, r3, et, fun σ2 sb mu W4 => ?_⟩
          have ew : wipe σ2 vs = wipe σ vs := (wipeS_eq (sb.sub hS)).trans iw
          refine ⟨ew, w3, s1, W4, ?_⟩
          have E4 : Ev (Mu st (wipe σ vs)) w H' (Mu s1 σ2) w3 H'' := E3.to mu
          dsimp only at c1
          cases eb : mc s1 with
          | none => rw [eb] at c1; cases c1
          | some q =>
            rw [eb] at c1
            cases q with
            | exc c fs s => cases c1
            | ok b s2 =>
              rintro w5 H5 v E5 W5 rfl
              cases v with
              | false =>
                rw [if_neg (by simp)]
                have Et := E4.trans E5
                obtain ⟨k1, k2, k3⟩ := Et.keep Dd _ e1 o1 n1
                have W6 := W5.wiped vs
                rw [ew] at W6
                refine ⟨w5, s2.wipe vs, aI, aV, W6, (E2.trans Et).to fun a z => ?_, k1, r1.mono Et.le, k2.trans f1, k3, fun z => ?_, c1⟩
                · rw [← ew] at z
                  exact z.wiped.1
                · rw [← ew] at z
                  exact (Et.new Dd z.wiped.1).elim n1 fun q => by rw [e1] at q; cases q
              | true =>
                rw [if_pos rfl]
                refine ⟨w5, s2, W5, ?_⟩
                dsimp only at c1
                cases ee : me s2 with
                | none => rw [ee] at c1; cases c1
                | some q =>
                  rw [ee] at c1
                  cases q with
                  | exc c fs s => cases c1
                  | ok val s3 =>
                    intro w6 H6 y E6 W6 R6
                    dsimp only at c1
                    cases ef : mFrz val s3 with
                    | none => rw [ef] at c1; cases c1
                    | some q =>
                      obtain ⟨xd, s4, rfl⟩ := mFrz_some ef
                      rw [ef] at c1
                      dsimp only at c1
                      obtain ⟨w7, F, r7⟩ := frz_ok W6 E6 (VRep.F R6) ef
                      have Et := (E4.trans E5).trans F.ev
                      obtain ⟨k1, k2, k3⟩ := Et.keep Dd _ e1 o1 n1
                      by_cases hz : aI.length < 16777216
                      · rw [if_pos hz] at c1
                        refine ⟨aV, k1, by rw [r1.length, sizeLine_eq]; exact hz, ?_⟩
                        have nm : ¬ Mu s4 σ2 Dd := fun z => (Et.new Dd z).elim n1 fun q => by rw [e1] at q; cases q
                        have W8 := (F.wd.poke (o := .lst (aV ++ [y])) k1 (k2.trans f1) k3 nm).wiped vs
                        rw [ew] at W8
                        refine ⟨w7, s4.wipe vs, aI ++ [xd], aV ++ [y], W8, Ev.poke ((E2.trans Et).to fun a z => ?_) hD, upd_same, ?_, k2.trans f1, k3, fun z => ?_, c1⟩
                        · rw [← ew] at z
                          exact z.wiped.1
                        · have ap : ∀ {vs : List V} {ds : List D}, Reps X.K w7 vs ds → Reps X.K w7 (vs ++ [y]) (ds ++ [xd]) := by
                            intro vs ds r
                            induction vs generalizing ds with
                            | nil =>
                              cases r
                              exact .cons r7 .nil
                            | cons v vs ih =>
                              cases r with
                              | cons r rs => exact .cons r (ih rs)
                          exact ap (r1.mono Et.le)
                        · rw [← ew] at z
                          exact nm z.wiped.1
                      · rw [if_neg hz] at c1
                        cases c1
      · rintro H' ⟨w, st, aI, aV, W2, E2, e1, r1, f1, o1, n1, c1⟩
        rw [List.drop_length] at c1
        cases c1
        obtain ⟨W3, mu⟩ := wd_rest W1 E2 W2
        refine P2 w H' (.ref Dd) (E1.trans ⟨(E2.wk fun a h => h.wiped.1).keep, E2.le, mu, E2.dom⟩) W3 ⟨Dd, rfl, hH, f1, o1, fun z => ?_, aV, e1, r1⟩
        obtain ⟨i, d, e, e'⟩ := z
        rw [rest_slot _ _ (by rw [W2.len, wipeS_len, W1.len])] at e
        by_cases z : i ∈ vs
        · rw [if_pos z] at e
          exact Mu.not_of W1 hD ⟨i, d, e, e'⟩
        · rw [if_neg z] at e
          exact n1 ⟨i, d, e, by rw [wipeS_get _ _ _ z]; exact e'⟩
theorem cn_blk {G : String → Option Addr} {X : Cx} (hc : X.calm = true) (s : Shared) (H : Hp) (scope : Scope) (env : PySem.Env) (fp : List Addr) : cn G (X.blk s H scope env fp) = cn G X := rfl
theorem tE_blk (hc : X.calm = true) {m : M Val} (s : Shared) (H : Hp) (scope : Scope) (env : PySem.Env) (fp : List Addr) : tE G (X.blk s H scope env fp) W m = tE G X W m := by
  unfold tE
  rw [cn_blk hc]
theorem tB_blk (hc : X.calm = true) {m : M Bool} (s : Shared) (H : Hp) (scope : Scope) (env : PySem.Env) (fp : List Addr) : tB G (X.blk s H scope env fp) W m = tB G X W m := by
  unfold tB
  rw [cn_blk hc]
theorem tGt_blk (hc : X.calm = true) {S : List Nat} (s : Shared) (H : Hp) (scope : Scope) (env : PySem.Env) (fp : List Addr) : tGt G (X.blk s H scope env fp) S t = tGt G X S t := by
  unfold tGt
  rw [cn_blk hc]
theorem tI_blk (hc : X.calm = true) {m : M (List D)} (s : Shared) (H : Hp) (scope : Scope) (env : PySem.Env) (fp : List Addr) : tI G (X.blk s H scope env fp) W m = tI G X W m := by
  unfold tI
  rw [cn_blk hc]
/-- the tests of a comprehension -/
abbrev GTs (G : String → Option Addr) (X : Cx) (W : WX) (cs : List Expr) (m : M Bool) : Prop := PTs X cs (tB G X W m)
theorem gts_nil : GTs G X W [] mYes := ⟨fun p s σ H Q I ⟨w, st, W1, P⟩ => pts_nil.run p s σ H Q I (P w H true (.refl _ _ _) W1 rfl)⟩
theorem gts_one {c : Expr} (h : GT G X W c mc) : GTs G X W [c] mc := pts_one h
/-- a context within: a comprehension's block -/
abbrev inB (X : Cx) (scope : Scope) (P : Cx → Prop) : Prop := ∀ (s : Shared) (H : Hp) (C : Addr) (cl : List (Str × Addr)) (fp : List Addr), P (X.blk s H scope (compEnvC scope cl C X.env) fp)
theorem inB_GG {tg : Expr} {scope : Scope} {S : List Nat} (hc : X.calm = true) (hg : inB X scope fun Y => GG G Y tg S t) (s : Shared) (H : Hp) (C : Addr) (cl : List (Str × Addr)) (fp : List Addr) : PG (X.blk s H scope (compEnvC scope cl C X.env) fp) tg (tGt G X S t) := by
  have h : PG _ tg (tGt G (X.blk s H scope (compEnvC scope cl C X.env) fp) S t) := hg s H C cl fp
  rw [tGt_blk hc] at h
  exact h
theorem inB_GTs {cs : List Expr} {scope : Scope} (hc : X.calm = true) (hg : inB X scope fun Y => GTs G Y W cs mc) (s : Shared) (H : Hp) (C : Addr) (cl : List (Str × Addr)) (fp : List Addr) : PTs (X.blk s H scope (compEnvC scope cl C X.env) fp) cs (tB G X W mc) := by
  have h : PTs _ cs (tB G (X.blk s H scope (compEnvC scope cl C X.env) fp) W mc) := hg s H C cl fp
  rw [tB_blk hc] at h
  exact h
theorem inB_GE {e : Expr} {scope : Scope} (hc : X.calm = true) (hg : inB X scope fun Y => GE G Y W e me) (s : Shared) (H : Hp) (C : Addr) (cl : List (Str × Addr)) (fp : List Addr) : PE (X.blk s H scope (compEnvC scope cl C X.env) fp) e (tE G X W me) := by
  have h : PE _ e (tE G (X.blk s H scope (compEnvC scope cl C X.env) fp) W me) := hg s H C cl fp
  rw [tE_blk hc] at h
  exact h
theorem inB_GI {tg e : Expr} {scope : Scope} (hc : X.calm = true) (hg : inB X scope fun Y => GI G Y W tg e mi) (s : Shared) (H : Hp) (C : Addr) (cl : List (Str × Addr)) (fp : List Addr) : PI (X.blk s H scope (compEnvC scope cl C X.env) fp) tg e (tI G X W mi) := by
  have h : PI _ tg e (tI G (X.blk s H scope (compEnvC scope cl C X.env) fp) W mi) := hg s H C cl fp
  rw [tI_blk hc] at h
  exact h
theorem ge_lc {elt tg iter : Expr} {ifs : List Expr} {scope : Scope} {own : List (Str × Nat)} {pos : Pos} {S : List Nat} (hc : X.calm = true) (hN : X.N.Nodup) (hi : GI G X W tg iter mi) (ok : BlkOk X.N X.env.scope scope own) (hS : ∀ i ∈ S, i ∈ own.map (·.2))
    (hg : inB X scope fun Y => GG G Y tg S t) (ht : inB X scope fun Y => GTs G Y W0 ifs mc) (he : inB X scope fun Y => GE G Y W0 elt me) (hs : ∀ x, foldedSetIterable iter X.env x = pure x := by intro _; rfl) :
    GE G X W (.ListComp elt [⟨tg, iter, ifs, 0⟩] scope pos) (mComp mi t mc me (own.map (·.2))) :=
  PE_imp (pe_lc (g := tGt G X S t) (tt := tB G X W0 mc) (te := tE G X W0 me) hc hN hi ok (inB_GG hc hg) (inB_GTs hc ht) (inB_GE hc he) hs) fun σ H Q h => tLc_ok hS h
theorem gs_setLc {i : Nat} {y : Str} {py : Pos} {elt tg iter : Expr} {ifs : List Expr} {scope : Scope} {own : List (Str × Nat)} {pos spos : Pos} {S : List Nat} (hc : X.calm = true) (hN : X.N.Nodup) (hy : X.N[i]? = some y) (hyl : X.env.scope.names.lookup y = some .local)
    (hsw : swapsWith (.ListComp elt [⟨tg, iter, ifs, 0⟩] scope pos) (some (.Name y py)) spos.line X.env = pure true) (hi : GI G X W tg iter mi) (ok : BlkOk X.N X.env.scope scope own) (hS : ∀ i ∈ S, i ∈ own.map (·.2))
    (hg : inB X scope fun Y => GG G Y tg S t) (ht : inB X scope fun Y => GTs G Y W0 ifs mc) (he : inB X scope fun Y => GE G Y W0 elt me) (hs : ∀ x, foldedSetIterable iter X.env x = pure x := by intro _; rfl) :
    GS G X W (.Assign [.Name y py] (.ListComp elt [⟨tg, iter, ifs, 0⟩] scope pos) spos) (sSet i (mComp mi t mc me (own.map (·.2)))) :=
  PS_imp (ps_setLc (g := tGt G X S t) (tt := tB G X W0 mc) (te := tE G X W0 me) hc hN hy hyl hsw hi ok (inB_GG hc hg) (inB_GTs hc ht) (inB_GE hc he) hs) fun Z σ H ⟨w, st, W1, P⟩ => tLc_ok (W := W) hS (tE_toS W1 (.refl _ _ _) P fun v H1 w1 st1 x W2 E1 R1 P1 => put_ok W2 E1 (fun _ h => h) R1 P1)
end
end FB

/-! FBG: defs with repr in them: as the hand layer's promise of a def, with the guards known to be none. -/
namespace FB
open PySem PySem.Spec PyProof.Rows L2

/-- a def's promise where nothing is being shown -/
structure FnG (P : Program) (w : World) (K : PySem.W.Frag) (mg : Str → Option Value) (base : Heap) (cx : CXT) (k : Nat) (f : Addr) (fd : FuncData) (ps : List Str) (sp : Sp) : Prop where
  len : ∀ vs H Q E, sp vs H Q E → vs.length = ps.length
  go : ∀ (A : Around) (outer : List PySem.Env) (s : Shared) (H : Hp) (us : List Value) (vs : List V) (Q : VK) (E : XK) (ag : Args), A.guards = some [] → Room k A → Env0 P w K mg base A outer s H →
    BindsTo s fd ag (ps.zip us) → Vals vs us → sp vs H Q E → codeAny (model P w) A (.call (.ref f) ag) (CR cx outer P w H s Q E) s

section
variable {P : Program} {w : World} {K : PySem.W.Frag} {mg : Str → Option Value} {base : Heap} {cx : CXT} {j k : Nat} {f : Addr} {fd : FuncData} {ps : List Str} {sp : Sp}
theorem FnG.of (F : FnOk P w K mg base cx k f fd ps sp) : FnG P w K mg base cx k f fd ps sp :=
  ⟨F.len, fun A outer s H us vs Q E ag _ hr e0 b r h => F.run A outer s H ag us vs Q E hr e0 b r h⟩
theorem FnG.mono (F : FnG P w K mg base cx j f fd ps sp) (h : j ≤ k) : FnG P w K mg base cx k f fd ps sp :=
  ⟨F.len, fun A outer s H us vs Q E ag g hr => F.go A outer s H us vs Q E ag g (hr.mono h)⟩
/-- THE RULE for a def, by its body -/
theorem fnG_of {x qual : Str} {st : Stmt} {N : List Str} (F : Fun K x qual st f fd) (S : FnScope N ps (defScope st)) (len : ∀ vs H Q E, sp vs H Q E → vs.length = ps.length)
    (body : ∀ (cdv : Value) (A : Around) (outer : List PySem.Env) (s : Shared) (H : Hp) (vs : List V) (Q : VK) (E : XK), A.guards = some [] → Room k (A.deeper (envOfC qual (defScope st) s.heap.objs.size f cdv)) → sp vs H Q E →
      ∃ t, PSs (cxOf cx P w K mg base N qual (defScope st) f cdv A outer s H E) (defBody st) t ∧ t { nx := fun _ H' => Q .non H', rt := Q } (start N vs) H) : FnG P w K mg base cx (k + 1) f fd ps sp := by
  obtain ⟨oc, od, kV, doc, pm, an, cdv, ct, osl, rfl, lk, hcd⟩ := F.ex
  refine ⟨len, fun A outer s H us vs Q E ag g hr e0 hb r hsp => ?_⟩
  have kept : ∀ b o, base.get? b = some o → s.heap.get? b = some o := fun b o e => (e0.bs b o e).1
  have lim := e0.mod.nolimit.keeps kept
  have pars : ∀ y ∈ ps.zip us, (defScope st).names.lookup y.1 = some .local ∨ ((defScope st).names.lookup y.1 = some .cell ∧ ((cellsFrom (s.heap.objs.size + 1) (defScope st).names []).lookup y.1).isSome = true) := fun y hy =>
    (S.par y.1 (List.of_mem_zip (show (y.1, y.2) ∈ _ from hy)).1).imp id fun q => ⟨q, PySem.W.cellsFrom_some _ _ _ (.inl q)⟩
  have atK := e0.mod.kin.keeps kept
  refine codeAny_call_function hr.depth (atK _ _ lk) rfl S.co S.gen rfl (PySem.W.codeRec_of atK hcd) (hb _ _ _ _ (wpAny_newFunctionEnv_cells S.kind pars fun env he s1 x => ?_))
  subst he
  refine ⟨lim.keeps x.toInCall.keep, codeAny_func ?_⟩
  obtain ⟨t, ht, hq⟩ := body cdv A outer s H vs Q E g (hr.deeper _) hsp
  have I := inv_start (CX := cx) (E := E) S hr.hd e0 (len _ _ _ _ hsp) r x
  refine wpAny_mono (ht.run [] s1 (start N vs) H _ I hq) (fun fl s' hs => ?_) fun e s' hs => hs
  have stop : ∀ {σ' : L2.St} {H' : Hp} {v : V} {u : Value}, Inv (cxOf cx P w K mg base N qual (defScope st) f cdv A outer s H E) [] σ' H' s' → RelV v u → Q v H' → CE outer P w H s Q u s' := fun {σ' H' v u} J rv q => ⟨v, H', J.os, J.bare, J.base, J.hok, rv, q⟩
  match fl, hs with
  | .ret u, ⟨_, _, _, J, rv, q⟩ => exact stop J rv q
  | .next, ⟨_, _, J, q⟩ => exact stop (v := V.non) (u := Value.none) J rfl q
  | .brk, ⟨_, _, _, q⟩ => exact q.elim
  | .cont, ⟨_, _, _, q⟩ => exact q.elim
end

section
variable {X : Cx} {cx : CXT} {k : Nat} {f : Addr} {fd : FuncData} {ps : List Str} {sp : Sp} {E : L2.St → XK} {x : Str} {p pos : Pos} {e : Expr} {es : List Expr} {t : TA}
theorem runG {pins : List (Addr × Obj)} {σ : L2.St} {H : Hp} {s : Shared} {Q : VK} {us : List Value} {vs : List V} (F : FnG X.prog X.w X.K X.mg X.base cx k f fd ps sp) (g : X.A.guards = some []) (hr : Room k X.A) (hb : Binds X.K fd ps []) (hx : PassesAt cx X σ (E σ))
    (I : Inv X pins σ H s) (r : Vals vs us) (h : sp vs H Q (E σ)) : wpAny (model X.prog X.w) X.A (call (.ref f) us) (EP X pins σ Q) X.xe s := by
  have b := hb s us I.kIn (by rw [List.append_nil, ← r.length]; exact F.len _ _ _ _ h)
  rw [List.append_nil] at b
  refine wpAny_call (codeAny_mono (F.go X.A X.stack s H us vs Q (E σ) ⟨us, []⟩ g hr I.env0 b r h) fun q s' hq => ?_)
  match q, hq with
  | .error e, hq => exact hx pins H s e s' I hq
  | .ok (.ret u), hq => exact I.after hq
  | .ok .next, hq => exact False.elim hq
  | .ok .brk, hq => exact False.elim hq
  | .ok .cont, hq => exact False.elim hq
/-- what a call of f does -/
def Callee (X : Cx) (f : Addr) (sp : Sp) (E : L2.St → XK) : Prop := ∀ (pins : List (Addr × Obj)) (σ : L2.St) (H : Hp) (s : Shared) (Q : VK) (us : List Value) (vs : List V), Inv X pins σ H s → Vals vs us → sp vs H Q (E σ) → wpAny (model X.prog X.w) X.A (call (.ref f) us) (EP X pins σ Q) X.xe s
theorem FnG.at {W : WX} (F : FnG X.prog X.w X.K X.mg X.base (L2.CX X.prog X.w) k f fd ps sp) (g : X.A.guards = some []) (hr : Room k X.A) (hb : Binds X.K fd ps []) (tk : Takes X W) : Callee X f sp (WE W) :=
  fun _ σ _ _ _ _ _ I r h => runG F g hr hb (passAt tk σ) I r h
theorem okAt {W : WX} (F : FnOk X.prog X.w X.K X.mg X.base (L2.CX X.prog X.w) k f fd ps sp) (hr : Room k X.A) (hb : Binds X.K fd ps []) (tk : Takes X W) : Callee X f sp (WE W) :=
  fun _ σ _ _ _ _ _ I r h => run_fnS F hr hb (passAt tk σ) I r h
/-- f(e, ..) -/
theorem pe_callC (F : Callee X f sp E) (hg : Gl X x) (hm : X.mg x = some (.ref f)) (hk : PySem.W.keepIn X.K (.ref f) = true)
    (ha : PA X (e :: es) t) (hdb : (x == ("__debug__" : Str)) = false := by decide) (he : starEach (e :: es) X.env = (false, eval e X.env) :: starEach es X.env := by rfl) (hpl : (backTo pos (starEach es X.env)).any (·.1) = false := by rfl) :
    PE X (.Call (.Name x p) (e :: es) [] pos) (tCallS sp E t) :=
  ⟨fun pins s σ H Q I h => wpAny_Call_Name_kw (ld_glob I hg hm (PySem.W.callWith_K (h₀ := X.base) I.ok.mod.kin hk (thn (ha.run pos pins s σ H _ I h) fun us s1 ⟨vs, H1, I1, r, q⟩ => ⟨I1.kIn, F _ _ _ _ _ _ _ I1 r q⟩) he hpl) hdb)⟩
/-- f() -/
theorem pe_callC0 (F : Callee X f sp E) (hg : Gl X x) (hm : X.mg x = some (.ref f)) (hk : PySem.W.keepIn X.K (.ref f) = true) (hdb : (x == ("__debug__" : Str)) = false := by decide) :
    PE X (.Call (.Name x p) [] [] pos) (tCallS sp E tNil) :=
  ⟨fun pins s σ H Q I h => wpAny_Call_Name_kw (ld_glob I hg hm (PySem.W.callWith_K0 I.kIn hk (F _ _ _ _ _ [] [] I .nil h)) hdb)⟩
end

/-! ### the law's end -/
theorem lawG {P : Program} {w : World} {K : PySem.W.Frag} {mg mb : Str → Option Value} {cx : CXT} {k : Nat} {fa a : Addr} {fd : FuncData} {x : Str} {sp : Sp} {s₁ : Shared} {vs : List Value} {ns : List Int}
    (KX : K.In s₁.heap) (gl : s₁.heap.Ns mainGlobals mg) (bl : s₁.heap.Ns builtinsNs mb) (hbb : ∀ x : Str, x ≠ "__name__" → mb x = bootBuiltins x) (lim : s₁.heap.NoLimit) (hg : s₁.gens = #[])
    (ha : s₁.heap.get? a = some { cls := .type "list", data := .seq vs.toArray }) (hi : IntsAre vs ns) (hl : ns.length ≤ sizeLine) (hr : Room k callerA)
    (F : ∀ base : Heap, K.In base → base.Ns mainGlobals mg → FnG P w K mg base cx k fa fd [x] sp) (hb : ∀ (s : Shared) (u : Value), BindsTo s fd ⟨[u], []⟩ [(x, u)])
    (hsp : ∀ H : Hp, Only H → SqL K H a (ns.map V.int) → sp [.ref a] H (fun v _ => v = .bl true) fun _ _ _ => False)
    (hcx : ∀ H e s', cx [] H s₁ (fun _ _ _ => False) e s' → False) :
    codeAny (model P w) callerA (.call (.ref fa) ⟨[.ref a], []⟩) (fun r s' => r = .ok (.ret (.bool true)) ∧ OldK s₁.heap s'.heap ∧ s'.os = s₁.os ∧ AllBare s'.gens) s₁ := by
  have lenV := hi.length
  have rv := vals_ints hi
  -- over a heap that tracks the script at most
  have main : ∀ H : Hp, Only H → SqL K H a (ns.map V.int) → HOk P w H s₁.heap → (∀ b, H b ≠ none → b = a ∧ K.lookup a = none) →
      codeAny (model P w) callerA (.call (.ref fa) ⟨[.ref a], []⟩) (fun r s' => r = .ok (.ret (.bool true)) ∧ OldK s₁.heap s'.heap ∧ s'.os = s₁.os ∧ AllBare s'.gens) s₁ := by
    intro H only sq hok only2
    have isA : ∀ {b : Addr}, (H b = none → False) → b = a ∧ K.lookup a = none := fun h => only2 _ h
    have nsIn : ∀ {b : Addr} {m : Str → Option Value}, s₁.heap.Ns b m → (hidT s₁.heap H).Ns b m := by
      rintro b m ⟨o, es, ep, e, d, r⟩
      refine ⟨o, es, ep, hidT_get e (Classical.byContradiction fun q => ?_), d, r⟩
      have e' := (isA q).1
      subst e'
      rw [ha] at e
      cases e
      exact Data.noConfusion (show Data.seq vs.toArray _ = Data.dict es ep from d)
    have kin : K.In (hidT s₁.heap H) := fun b o e => hidT_get (KX b o e) (Classical.byContradiction fun q => by
      have e' := isA q
      rw [← e'.1, e] at e'
      cases e'.2)
    obtain ⟨mc, l1, l2⟩ := lim
    have e0 : Env0 P w K mg (hidT s₁.heap H) callerA [] s₁ H := ⟨rfl, ⟨kin, nsIn gl, ⟨mb, nsIn bl, hbb⟩, mc, nsIn l1, l2⟩, fun b o e => of_hidT e, Nat.le_of_eq (hidT_size _ _), trivial, fun b hb => (nomatch (show b ∈ ([] : List Addr) from hb)), hok, .of_eq hg⟩
    refine codeAny_mono ((F _ kin (nsIn gl)).go callerA [] s₁ H [.ref a] [.ref a] _ _ ⟨[.ref a], []⟩ rfl hr e0 (hb s₁ (.ref a)) (.cons rfl .nil) (hsp H only sq)) fun r s' h => ?_
    match r, h with
    | .error e, h => exact (hcx H e s' h).elim
    | .ok .next, h => exact False.elim h
    | .ok .brk, h => exact False.elim h
    | .ok .cont, h => exact False.elim h
    | .ok (.ret u), ⟨v, H', os, bare, un, hok', r', q⟩ =>
      obtain rfl : v = .bl true := q
      obtain rfl : u = Value.bool true := r'
      refine ⟨rfl, .of_keep fun b o e => ?_, os, bare⟩
      rcases only b with z | ⟨o', xs, z⟩
      · exact un.keep b o e z (fun q => (nomatch (show b ∈ ([] : List Addr) from q))) (by simp)
      · have h1 := (hok b _ z).1
        rw [e] at h1
        cases h1
        exact (hok' b _ (un.frzs _ _ _ z)).1
  cases hk : K.lookup a with
  | some o =>
    have e := KX a o hk
    rw [ha] at e
    cases e
    exact main (fun _ => none) (fun _ => .inl rfl) (.inr ⟨_, vs.toArray, _, hk, rfl, rfl, rfl, by rw [List.size_toArray, lenV]; exact hl, by simpa using rv⟩) (fun b u z => nomatch (show (none : Option HO) = some u from z)) fun b z => absurd rfl z
  | none =>
    have at1 : ∀ {b : Addr} {u : HO}, (if b = a then some (HO.frz { cls := .type "list", data := .seq vs.toArray } (.lst (ns.map V.int))) else none) = some u → b = a ∧ u = .frz { cls := .type "list", data := .seq vs.toArray } (.lst (ns.map V.int)) := fun {b u} z => by
      split at z
      · rename_i e
        cases z
        exact ⟨e, rfl⟩
      · cases z
    refine main (fun b => if b = a then some (.frz { cls := .type "list", data := .seq vs.toArray } (.lst (ns.map V.int))) else none) (fun b => ?_) (.inl (.inr ⟨_, if_pos rfl⟩)) (fun b u z => ?_) fun b z => ?_
    · by_cases e : b = a
      · exact .inr ⟨_, _, if_pos e⟩
      · exact .inl (if_neg e)
    · obtain ⟨rfl, rfl⟩ := at1 z
      exact ⟨ha, by rw [List.length_map]; exact hl, vs, _, rv, ha⟩
    · exact ⟨Classical.byContradiction fun e => z (if_neg e), hk⟩

/-- the goal that k_head leaves -/
theorem walkG {l : PySem.W.OpenLaw} {n k : Nat} {q : Program} {loose : List Str} {XP : (Str → Option Value) → Heap → Prop} {YP : World → Heap → Prop} {d : DefRec} {K : Params → PySem.W.Frag} {cx : World → CXT} {sp : World → Sp} {x : Str}
    (hn : l.most = some n) (hn2 : n ≤ sizeLine) (hdf : d.params.defaults = []) (hr : Room k callerA) (hY : ∀ (w : World) (h : Heap), YP w h → (K w.params).In h)
    (F : ∀ (w : World) (mg : Str → Option Value) (fa : Addr) (h : Heap), (K w.params).In h → h.Ns mainGlobals mg → mg d.name = some (.ref fa) →
      ∃ fd : FuncData, (∀ (s : Shared) (u : Value), BindsTo s fd ⟨[u], []⟩ [(x, u)]) ∧ ∀ base : Heap, (K w.params).In base → base.Ns mainGlobals mg → FnG l.prog w (K w.params) mg base (cx w) k fa fd [x] (sp w))
    (hsp : ∀ (w : World) (H : Hp) (a : Addr) (ns : List Int), ns.length ≤ n → (∀ z ∈ ns, Builtin.Int.intBits z ≤ 1048576) → Only H → SqL (K w.params) H a (ns.map V.int) → sp w [.ref a] H (fun v _ => v = .bl true) fun _ _ _ => False)
    (hcx : ∀ (w : World) (H : Hp) (s : Shared) (e : Value) (s' : Shared), cx w [] H s (fun _ _ _ => False) e s' → False) :
    PySem.W.WalkO q loose XP YP l.row.toRowW d [] (fun f vs => PySem.call f vs) :=
  Att.attach_callB hn hdf fun w s₀ s₁ mg mb fa o pm cd doc a vs ns G Y ho hd hcd hmg hobj hints hlen hbits hg =>
    have KX := hY w _ Y
    let ⟨fd, hb, hF⟩ := F w mg fa _ KX G.T.g hmg
    lawG KX G.T.g G.T.b G.T.builtins G.T.nolimit hg hobj hints (Nat.le_trans hlen hn2) hr hF hb (fun H hO hS => hsp w H a ns hlen hbits hO hS) fun H e s' => hcx w H s₁ e s'
end FB

/-! FBFun: defs and their calls. -/
namespace FB
open PySem PySem.Spec PyProof.Rows L2

/-! ### what a def hands back -/
inductive FR where
  | ret (s : Slot) (so : Sto) | exc (c : String) (fs : List (Str × D)) (so : Sto)
abbrev Den := List D → Sto → Option FR
def Val.slot (st : DSt) : Val → Option Slot
  | .own d => some (.own d)
  | .frz d => some (.frz d)
  | .vr i => st.slot i
def st0 (N : Nat) (ds : List D) (so : Sto) : DSt := ⟨ds.map (fun d => some (.frz d)) ++ List.replicate (N - ds.length) none, so⟩
def outF : Option SR → Option FR
  | some (.rt v st) => match v.slot st with
    | some s => some (.ret s st.so)
    | none => none
  | some (.nx st) => some (.ret (.frz .non) st.so)
  | some (.exc c fs st) => some (.exc c fs st.so)
  | _ => none
def runF (N : Nat) (b : MS) : Den := fun ds so => outF (b (st0 N ds so))

/-- a def's value: v as it is handed back; H: the heap ahead of the call -/
def SRep (K : PySem.W.Frag) (H0 : Hp) (w : Wo) (H : Hp) (v : V) : Slot → Prop
  | .frz d => Rep K w v d
  | .own d => ∃ p, v = .ref p ∧ H0 p = none ∧ w.F p = none ∧ w.ow p = none ∧ ORep K w H p d
abbrev NoA : Addr → Prop := fun _ => False
def PostF (n : Cn) (w : Wo) (so : Sto) (H : Hp) (Q : VK) (E : XK) : Option FR → Prop
  | none => False
  | some (.ret s so') => ∀ w' H' v, Ev NoA w H NoA w' H' → WdS n w' so' H' → SRep n.K H w' H' v s → Q v H'
  | some (.exc c fs so') => ∀ w' H' C d, n.G c = some C → Ev NoA w H NoA w' H' → WdS n w' so' H' → XRep n.K H w' H' d fs → E (.ref C) d H'
def spF (n : Cn) (np : Nat) (den : Den) : Sp := fun vs H Q E => ∃ w so ds, WdS n w so H ∧ Reps n.K w vs ds ∧ ds.length = np ∧ PostF n w so H Q E (den ds so)

/-! ### a def of the text -/
theorem getElem_map_app {ds : List D} {m i : Nat} {s : Slot} (h : (⟨ds.map (fun d => some (Slot.frz d)) ++ List.replicate m none, so⟩ : DSt).slot i = some s) : ∃ d, s = .frz d ∧ ds[i]? = some d := by
  unfold DSt.slot at h
  by_cases hl : i < ds.length
  · rw [List.getElem?_append_left (by simpa using hl), List.getElem?_map] at h
    cases e : ds[i]? with
    | none => rw [e] at h; cases h
    | some d =>
      rw [e] at h
      cases h
      exact ⟨d, rfl, rfl⟩
  · rw [List.getElem?_append_right (by simpa using hl), List.getElem?_replicate] at h
    split at h
    · rename_i x s' e
      split at e <;> cases e
    · cases h
theorem start_get {K : PySem.W.Frag} {w : Wo} {N : List Str} {vs : List V} {ds : List D} (r : Reps K w vs ds) {i : Nat} {d : D} (h : ds[i]? = some d) : ∃ v, (L2.start N vs)[i]? = some (some v) ∧ Rep K w v d := by
  obtain ⟨hl, _⟩ := List.getElem?_eq_some_iff.mp h
  have hv : i < vs.length := by rw [r.length]; exact hl
  have e : vs[i]? = some vs[i] := List.getElem?_eq_getElem hv
  obtain ⟨d', h', rr⟩ := r.get e
  rw [h] at h'
  cases h'
  refine ⟨vs[i], ?_, rr⟩
  unfold L2.start
  rw [List.getElem?_append_left (by simpa using hv), List.getElem?_map, e]
  rfl
section
variable {P : Program} {w : World} {K : PySem.W.Frag} {mg : Str → Option Value} {base : Heap} {G : String → Option Addr}
theorem spF_len {n : Cn} {np : Nat} {den : Den} {ps : List Str} (hp : ps.length = np) : ∀ vs H Q E, spF n np den vs H Q E → vs.length = ps.length := fun vs H Q E ⟨w', so, ds, _, r, e, _⟩ => by
  rw [r.length, e, hp]
/-- a body's start -/
theorem body_at {X : Cx} {N : List Str} {ps : List Str} {b : MS} {H : Hp} {vs : List V} {Q : VK} {E : XK} (hN : ps.length ≤ N.length) (hc : cn G X = ⟨K, G, []⟩) (h : spF ⟨K, G, []⟩ ps.length (runF N.length b) vs H Q E) :
    tS G X (fun cls d _ H => E cls d H) b { nx := fun _ H' => Q .non H', rt := Q } (L2.start N vs) H := by
  unfold tS
  rw [hc]
  obtain ⟨w', so, ds, W1, r, e, Pf⟩ := h
  have hv : vs.length = ps.length := by rw [r.length, e]
  have nomu : ∀ a, ¬ Mu (st0 N.length ds so) (L2.start N vs) a := fun a ⟨i, d, e1, _⟩ => by
    obtain ⟨d', h, _⟩ := getElem_map_app e1
    cases h
  refine ⟨w', st0 N.length ds so, ⟨W1, ?_, fun i d e1 => ?_, fun i d e1 => ?_, fun i j d d' p e1 => ?_⟩, ?_⟩
  · unfold st0 L2.start
    simp only [List.length_append, List.length_map, List.length_replicate]
    rw [r.length]
  · obtain ⟨d', h, e2⟩ := getElem_map_app e1
    cases h
    exact start_get r e2
  · obtain ⟨d', h, e2⟩ := getElem_map_app e1
    cases h
  · obtain ⟨d', h, e2⟩ := getElem_map_app e1
    cases h
  · unfold runF at Pf
    have toN : ∀ {M' : Addr → Prop} {w1 : Wo} {H1 : Hp}, Ev (Mu (st0 N.length ds so) (L2.start N vs)) w' H M' w1 H1 → Ev NoA w' H NoA w1 H1 := fun E => ⟨fun a o h1 h2 h3 => E.keep a o h1 h2 (nomu a), E.le, fun _ z => z.elim, E.dom⟩
    cases eb : b (st0 N.length ds so) with
    | none => rw [eb] at Pf; exact Pf.elim
    | some q =>
      rw [eb] at Pf
      cases q with
      | nx s1 => exact fun w1 σ1 H1 E1 W2 => Pf w1 H1 .non (toN E1) W2.toWdS .non
      | bk s1 => exact Pf.elim
      | ct s1 => exact Pf.elim
      | exc c fs s1 => exact fun w1 σ1 H1 C d g E1 W2 X => Pf w1 H1 C d g (toN E1) W2.toWdS X
      | rt v s1 =>
        intro w1 σ1 H1 u E1 W2 R
        unfold outF at Pf
        dsimp only at Pf
        cases es : v.slot s1 with
        | none => rw [es] at Pf; exact Pf.elim
        | some sl =>
          rw [es] at Pf
          refine Pf w1 H1 u (toN E1) W2.toWdS ?_
          cases v with
          | frz d =>
            cases es
            exact R
          | own d =>
            cases es
            obtain ⟨p, e1, e2, e3, e4, _, e5⟩ := R
            exact ⟨p, e1, e2, e3, e4, e5⟩
          | vr i =>
            have es : s1.slot i = some sl := es
            have R : σ1[i]? = some (some u) := R
            cases sl with
            | frz d =>
              obtain ⟨v', e1, r1⟩ := W2.frz i d es
              have z : u = v' := by simpa using R.symm.trans e1
              subst z
              exact r1
            | own d =>
              obtain ⟨p, e1, e2, e3, r1⟩ := W2.ownS i d es
              have z : u = .ref p := by simpa using R.symm.trans e1
              subst z
              refine ⟨p, rfl, ?_, e2, e3, r1⟩
              exact (E1.new p ⟨i, d, es, e1⟩).elim (fun z => (nomu p z).elim) id
/-- THE RULE for a def -/
theorem fn_den {x qual : Str} {st : Stmt} {f : Addr} {fd : FuncData} {N ps : List Str} {k np : Nat} {b : MS} (F : Fun K x qual st f fd) (S : FnScope N ps (defScope st)) (hp : ps.length = np) (hN : ps.length ≤ N.length)
    (hbody : ∀ (cdv : Value) (A : Around) (outer : List PySem.Env) (s : Shared) (H : Hp) (E : XK), Room k (A.deeper (envOfC qual (defScope st) s.heap.objs.size f cdv)) →
      GSs G (cxOf (L2.CX P w) P w K mg base N qual (defScope st) f cdv A outer s H E) (fun cls d _ H => E cls d H) (defBody st) b) :
    FnOk P w K mg base (L2.CX P w) (k + 1) f fd ps (spF ⟨K, G, []⟩ np (runF N.length b)) := by
  subst hp
  exact F.okX S (spF_len rfl) (fun cdv A outer s H vs Q E hr h => ⟨_, hbody cdv A outer s H E hr, body_at hN rfl h⟩)
/-- .. with repr in it -/
theorem fn_denG {x qual : Str} {st : Stmt} {f : Addr} {fd : FuncData} {N ps : List Str} {k np : Nat} {b : MS} (F : Fun K x qual st f fd) (S : FnScope N ps (defScope st)) (hp : ps.length = np) (hN : ps.length ≤ N.length)
    (hbody : ∀ (cdv : Value) (A : Around) (outer : List PySem.Env) (s : Shared) (H : Hp) (E : XK), A.guards = some [] → Room k (A.deeper (envOfC qual (defScope st) s.heap.objs.size f cdv)) →
      GSs G (cxOf (L2.CX P w) P w K mg base N qual (defScope st) f cdv A outer s H E) (fun cls d _ H => E cls d H) (defBody st) b) :
    FnG P w K mg base (L2.CX P w) (k + 1) f fd ps (spF ⟨K, G, []⟩ np (runF N.length b)) := by
  subst hp
  exact fnG_of F S (spF_len rfl) (fun cdv A outer s H vs Q E g hr h => ⟨_, hbody cdv A outer s H E g hr, body_at hN rfl h⟩)
end

/-! ### data without things that may change -/
mutual
def noLst : D → Bool
  | .non => true
  | .bl _ => true
  | .int _ => true
  | .str _ => true
  | .ty _ => true
  | .tup ds => noLsts ds
  | _ => false
def noLsts : List D → Bool
  | [] => true
  | d :: ds => noLst d && noLsts ds
end
mutual
/-- .. without objects by reference -/
def noObj : D → Bool
  | .non => true
  | .bl _ => true
  | .int _ => true
  | .str _ => true
  | .ty _ => true
  | .scr _ => true
  | .tup ds => noObjs ds
  | .lst ds => noObjs ds
  | .dK kds => noObjK kds
  | .dT kds => noObjT kds
  | _ => false
def noObjs : List D → Bool
  | [] => true
  | d :: ds => noObj d && noObjs ds
def noObjK : List (Key × D) → Bool
  | [] => true
  | (_, d) :: ds => noObj d && noObjK ds
def noObjT : List (List Key × D) → Bool
  | [] => true
  | (_, d) :: ds => noObj d && noObjT ds
end
def noLstF : List (Str × D) → Bool
  | [] => true
  | (_, d) :: ds => noLst d && noLstF ds
def noObjF : List (Str × D) → Bool
  | [] => true
  | (_, d) :: ds => noObj d && noObjF ds
def safeS : Slot → Bool
  | .frz d => noLst d
  | .own (.lst ds) => noLsts ds
  | _ => false
def okS : Slot → Bool
  | .frz d => noObj d
  | .own d => noObj d
section
variable {K : PySem.W.Frag} {w w' : Wo}
mutual
theorem Rep.noLst (h : ∀ p vs, SqT K w.F p vs → SqT K w'.F p vs) : ∀ {v : V} {d : D}, FB.noLst d = true → Rep K w v d → Rep K w' v d
  | _, _, _, .non => .non
  | _, _, _, .bl b => .bl b
  | _, _, _, .int b => .int b
  | _, _, _, .str b => .str b
  | _, _, _, .ty b => .ty b
  | _, _, e, .tup s r => .tup (h _ _ s) (Reps.noLst h (by simpa [FB.noLst] using e) r)
  | _, _, e, .lst _ _ => by simp [FB.noLst] at e
  | _, _, e, .dK _ _ => by simp [FB.noLst] at e
  | _, _, e, .dT _ _ => by simp [FB.noLst] at e
  | _, _, e, .scr _ => by simp [FB.noLst] at e
  | _, _, e, .obj _ => by simp [FB.noLst] at e
  | _, _, e, .exv0 _ => by simp [FB.noLst] at e
  | _, _, e, .exv _ _ _ => by simp [FB.noLst] at e
theorem Reps.noLst (h : ∀ p vs, SqT K w.F p vs → SqT K w'.F p vs) : ∀ {v : List V} {d : List D}, FB.noLsts d = true → Reps K w v d → Reps K w' v d
  | _, _, _, .nil => .nil
  | _, _, e, .cons a r => by
    simp only [FB.noLsts, Bool.and_eq_true] at e
    exact .cons (Rep.noLst h e.1 a) (Reps.noLst h e.2 r)
end
theorem RepF.noLst (h : ∀ p vs, SqT K w.F p vs → SqT K w'.F p vs) : ∀ {v : List (Str × V)} {d : List (Str × D)}, FB.noLstF d = true → RepF K w v d → RepF K w' v d
  | _, _, _, .nil => .nil
  | _, _, e, .cons a r => by
    simp only [FB.noLstF, Bool.and_eq_true] at e
    exact .cons (Rep.noLst h e.1 a) (RepF.noLst h e.2 r)
mutual
theorem Rep.noObj (h : FLe w.F w'.F) : ∀ {v : V} {d : D}, FB.noObj d = true → Rep K w v d → Rep K w' v d
  | _, _, _, .non => .non
  | _, _, _, .bl b => .bl b
  | _, _, _, .int b => .int b
  | _, _, _, .str b => .str b
  | _, _, _, .ty b => .ty b
  | _, _, e, .tup s r => .tup (SqT.fle h s) (Reps.noObj h (by simpa [FB.noObj] using e) r)
  | _, _, e, .lst s r => .lst (h _ _ s) (Reps.noObj h (by simpa [FB.noObj] using e) r)
  | _, _, e, .dK s r => .dK (h _ _ s) (RepK.noObj h (by simpa [FB.noObj] using e) r)
  | _, _, e, .dT s r => .dT (h _ _ s) (RepT.noObj h (by simpa [FB.noObj] using e) r)
  | _, _, e, .scr s => .scr (SqL.fle h s)
  | _, _, e, .obj _ => by simp [FB.noObj] at e
  | _, _, e, .exv0 _ => by simp [FB.noObj] at e
  | _, _, e, .exv _ _ _ => by simp [FB.noObj] at e
theorem Reps.noObj (h : FLe w.F w'.F) : ∀ {v : List V} {d : List D}, FB.noObjs d = true → Reps K w v d → Reps K w' v d
  | _, _, _, .nil => .nil
  | _, _, e, .cons a r => by
    simp only [FB.noObjs, Bool.and_eq_true] at e
    exact .cons (Rep.noObj h e.1 a) (Reps.noObj h e.2 r)
theorem RepK.noObj (h : FLe w.F w'.F) : ∀ {v : List (Key × V)} {d : List (Key × D)}, FB.noObjK d = true → RepK K w v d → RepK K w' v d
  | _, _, _, .nil => .nil
  | _, _, e, .cons a r => by
    simp only [FB.noObjK, Bool.and_eq_true] at e
    exact .cons (Rep.noObj h e.1 a) (RepK.noObj h e.2 r)
theorem RepT.noObj (h : FLe w.F w'.F) : ∀ {v : List (List Key × V)} {d : List (List Key × D)}, FB.noObjT d = true → RepT K w v d → RepT K w' v d
  | _, _, _, .nil => .nil
  | _, _, e, .cons a r => by
    simp only [FB.noObjT, Bool.and_eq_true] at e
    exact .cons (Rep.noObj h e.1 a) (RepT.noObj h e.2 r)
end
theorem RepF.noObj (h : FLe w.F w'.F) : ∀ {v : List (Str × V)} {d : List (Str × D)}, FB.noObjF d = true → RepF K w v d → RepF K w' v d
  | _, _, _, .nil => .nil
  | _, _, e, .cons a r => by
    simp only [FB.noObjF, Bool.and_eq_true] at e
    exact .cons (Rep.noObj h e.1 a) (RepF.noObj h e.2 r)
theorem ORep.noObj (h : FLe w.F w'.F) {H H' : Hp} {p : Addr} (e : H' p = H p) : ∀ {d : D}, FB.noObj d = true → ORep K w H p d → ORep K w' H' p d
  | .lst _, z, ⟨vs, e', r⟩ => ⟨vs, e.trans e', r.noObj h (by simpa [FB.noObj] using z)⟩
  | .dK _, z, ⟨vs, e', r⟩ => ⟨vs, e.trans e', r.noObj h (by simpa [FB.noObj] using z)⟩
  | .dT _, z, ⟨vs, e', r⟩ => ⟨vs, e.trans e', r.noObj h (by simpa [FB.noObj] using z)⟩
end

/-- how many values an argument list gives -/
def Len (ma : M (List Val)) (k : Nat) : Prop := ∀ st r st', ma st = some (.ok r st') → r.length = k
theorem len_nil : Len mNil 0 := fun st r st' h => by
  cases h
  rfl
theorem len_cons {ma : M Val} {mr : M (List Val)} {k : Nat} (h : Len mr k) : Len (mCons ma mr) (k + 1) := fun st r st' e => by
  unfold mCons M.bind at e
  cases e1 : ma st with
  | none => rw [e1] at e; cases e
  | some q =>
    rw [e1] at e
    cases q with
    | exc => cases e
    | ok a s =>
      dsimp only at e
      cases e2 : mr s with
      | none => rw [e2] at e; cases e
      | some q =>
        rw [e2] at e
        cases q with
        | exc => cases e
        | ok b s2 =>
          have e : some (R.ok (a :: b) s2) = some (R.ok r st') := e
          cases e
          simp [h s b _ e2]

/-! ### calls -/
/-- a call with the store: what is handed in is frozen -/
def mCall (den : Den) (ma : M (List Val)) : M Val := M.bind ma fun vs => M.bind (mFrzs vs) fun ds => fun st => match den ds st.so with
  | some (.ret s so) => some (.ok s.val { st with so := so })
  | some (.exc c fs so) => some (.exc c fs { st with so := so })
  | none => none
/-- a call that needs no store: what is one's own stays so where nothing of it can have come back -/
def callPT (den : Den) (xs : List Val) (ds : List D) : M Val := fun st => if noObjs ds = true then match den ds [] with
  | some (.ret s _) => if safeS s = true then some (.ok s.val st) else if okS s = true then match mFrzs xs st with
      | some (.ok _ st') => some (.ok s.val st')
      | _ => none
    else none
  | some (.exc c fs _) => if noLstF fs = true then some (.exc c fs st) else if noObjF fs = true then match mFrzs xs st with
      | some (.ok _ st') => some (.exc c fs st')
      | _ => none
    else none
  | none => none
  else none
def mCallP (den : Den) (ma : M (List Val)) : M Val := M.bind ma fun vs => M.bind (mGets vs) fun ds => callPT den vs ds

section
variable {G : String → Option Addr} {X : Cx} {W : WX} {mas : M (List Val)} {e : Expr} {es : List Expr} {pos : Pos}
/-- what is wanted at a call -/
theorem call_ok {np : Nat} {den : Den} {w0 w : Wo} {st0 st : DSt} {σ : L2.St} {H0 H Hx : Hp} {Q : VK} {vs : List V} {xs : List Val} (hc : X.calm = true) (W1 : Wd (cn G X) w st σ H) (E : Ev (Mu st0 σ) w0 H0 (Mu st σ) w H) (dm : ∀ a, H0 a ≠ none → Hx a ≠ none) (R : VReps X.K Hx w st σ H vs xs)
    (hl : vs.length = np)
    (P : Post (VRep X.K) (cn G X) W w0 st0 σ H0 Q (M.bind (mFrzs xs) (fun ds => fun st => match den ds st.so with
      | some (.ret s so) => some (.ok s.val { st with so := so })
      | some (.exc c fs so) => some (.exc c fs { st with so := so })
      | none => none) st)) : spF ⟨X.K, G, []⟩ np den vs H Q (WE W σ) := by
  have en : cn G X = ⟨X.K, G, []⟩ := by
    rfl
  obtain ⟨ds, st', ef, P⟩ := mFrzs_bind P
  obtain ⟨w', F, r⟩ := frzs_ok W1 E (paired_imp (fun _ _ r => VRep.F (VRep.anti dm r)) R.ps) ef
  rw [en] at F
  rw [en] at r
  refine ⟨w', st'.so, ds, F.wd.toWdS, r, by rw [← hl, r.length], ?_⟩
  -- behind the call
  have back : ∀ {w2 : Wo} {so : Sto} {H2 : Hp}, Ev NoA w' H NoA w2 H2 → WdS ⟨X.K, G, []⟩ w2 so H2 → Wd ⟨X.K, G, []⟩ w2 { st' with so := so } σ H2 ∧ Ev (Mu st0 σ) w0 H0 (Mu { st' with so := so } σ) w2 H2 := fun {w2 so H2} E2 S2 => by
    have mu : ∀ a, Mu { st' with so := so } σ a → Mu st' σ a := fun a h => h
    refine ⟨⟨S2, F.wd.len, fun i d e1 => ?_, fun i d e1 => ?_, F.wd.dis⟩, (F.ev.trans ⟨fun a o h1 h2 _ => E2.keep a o h1 h2 id, E2.le, fun a h => .inl h, E2.dom⟩).to mu⟩
    · obtain ⟨v, e2, r2⟩ := F.wd.frz i d e1
      exact ⟨v, e2, r2.mono E2.le⟩
    · obtain ⟨p, e2, hf, ho, r2⟩ := F.wd.ownS i d e1
      cases hp : H p with
      | none => exact absurd hp r2.ne
      | some o =>
        obtain ⟨k1, k2, k3⟩ := E2.keep p o hp ho id
        exact ⟨p, e2, k2.trans hf, k3, r2.mono E2.le (k1.trans hp.symm)⟩
  rw [en] at P
  cases ed : den ds st'.so with
  | none =>
    rw [ed] at P
    exact P.elim
  | some q =>
    rw [ed] at P
    cases q with
    | ret s so' =>
      intro w2 H2 v E2 S2 R2
      obtain ⟨W3, E3⟩ := back E2 S2
      refine P w2 H2 v E3 W3 ?_
      cases s with
      | frz d => exact R2
      | own d =>
        obtain ⟨p, e1, e2, e3, e4, e5⟩ := R2
        refine ⟨p, e1, ?_, e3, e4, fun z => ?_, e5⟩
        · cases q : H0 p with
          | none => rfl
          | some o => exact absurd e2 (E.dom p (by rw [q]; simp))
        · obtain ⟨i, d', h1, h2⟩ := z
          obtain ⟨p', h3, _, _, r3⟩ := F.wd.ownS i d' h1
          have : p = p' := by simpa using h2.symm.trans h3
          subst this
          exact r3.ne e2
    | exc c fs so' =>
      intro w2 H2 C d g E2 S2 R2
      obtain ⟨W3, E3⟩ := back E2 S2
      exact P w2 σ H2 C d g E3 W3 (R2.anti E.dom)
theorem paired_len {α β : Type} {F : α → β → Prop} : ∀ {l : List α} {m : List β}, Paired F l m → l.length = m.length
  | _, _, .nil => rfl
  | _, _, .cons _ r => by simp [paired_len r]
/-- f(e, ..) with the store; np parameters -/
theorem ge_call {np : Nat} {f : Addr} {x : Str} {p : Pos} {den : Den} (F : Callee X f (spF ⟨X.K, G, []⟩ np den) (WE W)) (hc : X.calm = true) (hg : Gl X x) (hm : X.mg x = some (.ref f)) (hk : PySem.W.keepIn X.K (.ref f) = true)
    (ha : GA G X W (e :: es) mas) (hal : Len mas np)
    (hdb : (x == ("__debug__" : Str)) = false := by decide) (he : starEach (e :: es) X.env = (false, eval e X.env) :: starEach es X.env := by rfl) (hpl : (backTo pos (starEach es X.env)).any (·.1) = false := by rfl) :
    GE G X W (.Call (.Name x p) (e :: es) [] pos) (mCall den mas) :=
  PE_imp (pe_callC F hg hm hk ha hdb he hpl) fun σ H Q ⟨w, st, W1, P⟩ => by
    have P' := P
    unfold mCall M.bind at P'
    refine ⟨w, st, W1, ?_⟩
    cases em : mas st with
    | none => rw [em] at P'; exact P'.elim
    | some q =>
      rw [em] at P'
      cases q with
      | exc c fs s => exact P'
      | ok xs s => exact fun w1 H1 vs E1 W2 R1 => call_ok hc W2 E1 (fun _ h => h) R1 (by rw [paired_len R1.ps]; exact hal _ _ _ em) P'
end

section
variable {G : String → Option Addr} {X : Cx} {W : WX} {mas : M (List Val)} {e : Expr} {es : List Expr} {pos : Pos}
/-- freezing gives what reading gives -/
theorem mFrz_get {x : Val} {st st' : DSt} {d : D} (h : mFrz x st = some (.ok d st')) : x.get st = some d := by
  cases x with
  | frz d' => cases h; rfl
  | own d' => cases h; rfl
  | vr i =>
    have h : mFrzV i st = some (.ok d st') := h
    unfold mFrzV at h
    show (st.slot i).map Slot.get = some d
    cases q : st.slot i with
    | none => rw [q] at h; cases h
    | some s => rw [q] at h; cases s <;> cases h <;> rfl
theorem get_keep {x y : Val} {st st' : DSt} {d e : D} (h : mFrz x st = some (.ok d st')) : y.get st' = some e ↔ y.get st = some e := by
  cases x with
  | frz d' => cases h; exact .rfl
  | own d' => cases h; exact .rfl
  | vr i =>
    have h : mFrzV i st = some (.ok d st') := h
    unfold mFrzV at h
    cases q : st.slot i with
    | none => rw [q] at h; cases h
    | some s =>
      rw [q] at h
      cases s with
      | frz d' => cases h; exact .rfl
      | own d' =>
        cases h
        cases y with
        | frz d' => exact .rfl
        | own d' => exact .rfl
        | vr j =>
          show ((st.put i (some (.frz d))).slot j).map Slot.get = some e ↔ (st.slot j).map Slot.get = some e
          rw [slot_put]
          by_cases z : j = i
          · subst z
            rw [if_pos rfl, if_pos (slot_lt q), q]
            exact .rfl
          · rw [if_neg z]
theorem frzs_of_gets : ∀ {xs : List Val} {st st1 : DSt} {ds : List D}, mGets xs st = some (.ok ds st1) → st = st1 ∧ ∃ st', mFrzs xs st = some (.ok ds st')
  | [], st, st1, ds, h => by
    cases h
    exact ⟨rfl, st, rfl⟩
  | x :: xs, st, st1, ds, h => by
    have h : M.bind (mGet x) (fun d => M.bind (mGets xs) fun ds => M.pure (d :: ds)) st = some (.ok ds st1) := h
    unfold M.bind mGet at h
    cases e : x.get st with
    | none => rw [e] at h; cases h
    | some d =>
      rw [e] at h
      dsimp only at h
      cases e2 : mGets xs st with
      | none => rw [e2] at h; cases h
      | some q =>
        rw [e2] at h
        cases q with
        | exc => cases h
        | ok es s =>
          cases h
          obtain ⟨rfl, _⟩ := frzs_of_gets e2
          -- the head frozen
          have : ∃ s', mFrz x st = some (.ok d s') := by
            cases x with
            | frz d' => cases e; exact ⟨_, rfl⟩
            | own d' => cases e; exact ⟨_, rfl⟩
            | vr i =>
              have e : (st.slot i).map Slot.get = some d := e
              show ∃ s', mFrzV i st = some (.ok d s')
              unfold mFrzV
              cases q : st.slot i with
              | none => rw [q] at e; cases e
              | some s => rw [q] at e; cases s <;> cases e <;> exact ⟨_, rfl⟩
          obtain ⟨s', e3⟩ := this
          have e4 : mGets xs s' = some (.ok es s') := by
            have key : ∀ {xs : List Val} {es : List D} {u : DSt}, mGets xs st = some (.ok es u) → mGets xs s' = some (.ok es s') := by
              intro xs
              induction xs with
              | nil => intro es u h; cases h; rfl
              | cons y ys ih =>
                intro es u h
                have h : M.bind (mGet y) (fun d => M.bind (mGets ys) fun ds => M.pure (d :: ds)) st = some (.ok es u) := h
                show M.bind (mGet y) (fun d => M.bind (mGets ys) fun ds => M.pure (d :: ds)) s' = some (.ok es s')
                unfold M.bind mGet at h ⊢
                cases ey : y.get st with
                | none => rw [ey] at h; cases h
                | some dy =>
                  rw [ey] at h
                  rw [(get_keep e3).mpr ey]
                  dsimp only at h ⊢
                  cases er : mGets ys st with
                  | none => rw [er] at h; cases h
                  | some q =>
                    rw [er] at h
                    cases q with
                    | exc => cases h
                    | ok es' u' =>
                      cases h
                      rw [ih er]
                      rfl
            exact key e2
          obtain ⟨_, st', e5⟩ := frzs_of_gets e4
          refine ⟨rfl, st', ?_⟩
          show M.bind (mFrz x) (fun d => M.bind (mFrzs xs) fun ds => M.pure (d :: ds)) st = some (.ok (d :: es) st')
          unfold M.bind
          rw [e3]
          dsimp only
          rw [e5]
          rfl
open Classical in
/-- the frozen heap without what is the slots' own -/
noncomputable def cutF (F : Hp) (M : Addr → Prop) : Hp := fun a => if M a then none else F a
theorem cutF_le {F : Hp} {M : Addr → Prop} : FLe (cutF F M) F := fun a u h => by
  unfold cutF at h
  split at h
  · cases h
  · exact h
theorem cutF_at {F : Hp} {M : Addr → Prop} {a : Addr} (h : ¬ M a) : cutF F M a = F a := by
  unfold cutF
  rw [if_neg h]
theorem callP_ok {np : Nat} {den : Den} {w0 w : Wo} {st0 st : DSt} {σ : L2.St} {H0 H Hx : Hp} {Q : VK} {vs : List V} {xs : List Val} (hc : X.calm = true) (W1 : Wd (cn G X) w st σ H) (E : Ev (Mu st0 σ) w0 H0 (Mu st σ) w H) (dm : ∀ a, H0 a ≠ none → Hx a ≠ none) (R : VReps X.K Hx w st σ H vs xs)
    (hl : vs.length = np)
    (P : Post (VRep X.K) (cn G X) W w0 st0 σ H0 Q (M.bind (mGets xs) (fun ds => callPT den xs ds) st)) : spF ⟨X.K, G, []⟩ np den vs H Q (WE W σ) := by
  have en : cn G X = ⟨X.K, G, []⟩ := by
    rfl
  rw [en] at W1 P
  cases eg : mGets xs st with
  | none =>
    unfold M.bind at P
    rw [eg] at P
    exact P.elim
  | some q =>
    cases q with
    | exc c fs s =>
      -- reading raises nothing
      exfalso
      have : ∀ {xs : List Val} {c fs s}, mGets xs st = some (.exc c fs s) → False := by
        intro xs
        induction xs with
        | nil => intro c fs s h; cases h
        | cons y ys ih =>
          intro c fs s h
          have h : M.bind (mGet y) (fun d => M.bind (mGets ys) fun ds => M.pure (d :: ds)) st = some (.exc c fs s) := h
          unfold M.bind mGet at h
          cases ey : y.get st with
          | none => rw [ey] at h; cases h
          | some dy =>
            rw [ey] at h
            dsimp only at h
            cases er : mGets ys st with
            | none => rw [er] at h; cases h
            | some q =>
              rw [er] at h
              cases q with
              | exc c' fs' s' => exact ih er
              | ok => cases h
      exact this eg
    | ok ds s =>
      obtain ⟨rfl, st', ef⟩ := frzs_of_gets eg
      unfold M.bind at P
      rw [eg] at P
      dsimp only at P
      unfold callPT at P
      obtain ⟨w', F, r⟩ := frzs_ok W1 E (paired_imp (fun _ _ r => VRep.F (VRep.anti dm r)) R.ps) ef
      -- the callee's world: no store
      let wc : Wo := { w' with ow := fun _ => none, rho := fun _ => none, xa := fun _ => none }
      by_cases hno : noObjs ds = true
      · rw [if_pos hno] at P
        have rc : Reps X.K wc vs ds := Reps.noObj (w := w') (w' := wc) (FLe.refl _) hno r
        have Sc : WdS ⟨X.K, G, []⟩ wc [] H := ⟨F.wd.sub, fun a k h => (by cases h), fun k o h => (by cases h), fun k a h => (by cases h), fun a c d h => (by cases h)⟩
        refine ⟨wc, [], ds, Sc, rc, by rw [← hl, rc.length], ?_⟩
        -- behind it, with what was one's own frozen
        have same : ∀ {w2 : Wo} {H2 : Hp}, Ev NoA wc H NoA w2 H2 → ∀ a o, H a = some o → H2 a = some o ∧ w2.F a = w'.F a := fun {w2 H2} E2 a o h => by
          obtain ⟨k1, k2, _⟩ := E2.keep a o h rfl id
          exact ⟨k1, k2⟩
        have back : ∀ {w2 : Wo} {so : Sto} {H2 : Hp} (F2 : Hp), Ev NoA wc H NoA w2 H2 → WdS ⟨X.K, G, []⟩ w2 so H2 → FLe F2 w2.F → ∀ {w1 : Wo} {st1 : DSt}, Wd ⟨X.K, G, []⟩ w1 st1 σ H → FLe w1.F F2 → (∀ a, H a ≠ none → w1.F a = none → (w1.ow a ≠ none ∨ Mu st1 σ a) → F2 a = none) →
            Wd ⟨X.K, G, []⟩ { w1 with F := F2 } st1 σ H2 := fun {w2 so H2} F2 E2 S2 le {w1 st1} V le1 hn => by
          have wle : WLe w1 { w1 with F := F2 } := ⟨le1, .refl _, fun _ _ h => h⟩
          have sm : ∀ a, H a ≠ none → H2 a = H a := fun a h => by
            cases e : H a with
            | none => exact absurd e h
            | some o => exact (same E2 a o e).1
          refine ⟨⟨fun a u h => S2.sub a u (le a u h), fun a k h => ⟨hn a (V.own a k h).2 (V.own a k h).1 (.inl (by rw [show w1.ow a = some k from h]; simp)), E2.dom a (V.own a k h).2⟩, fun k o h => (V.sto k o h).frame wle fun a ha => ⟨sm a (V.own a k ha).2, ha⟩, V.rb, fun a c d h => ?_⟩, V.len, fun i d h => ?_, fun i d h => ?_, V.dis⟩
          · obtain ⟨C, g, q⟩ := V.exs a c d h
            refine ⟨C, g, q.imp (fun q => ⟨(same E2 a _ q.1).1, le1 _ _ q.2⟩) id⟩
          · obtain ⟨v, e1, r1⟩ := V.frz i d h
            exact ⟨v, e1, r1.mono wle⟩
          · obtain ⟨p, e1, hf, ho, r1⟩ := V.ownS i d h
            exact ⟨p, e1, hn p r1.ne hf (.inr ⟨i, d, h, e1⟩), ho, r1.mono wle (sm p r1.ne)⟩
        have evb : ∀ {w2 : Wo} {H2 : Hp} (F2 : Hp), Ev NoA wc H NoA w2 H2 → ∀ {w1 : Wo} {st1 : DSt}, Ev (Mu st0 σ) w0 H0 (Mu st1 σ) w1 H → FLe w1.F F2 → (∀ a o, H0 a = some o → w0.ow a = none → ¬ Mu st0 σ a → F2 a = w0.F a) → Ev (Mu st0 σ) w0 H0 (Mu st1 σ) { w1 with F := F2 } H2 := fun {w2 H2} F2 E2 {w1 st1} E1 le1 hn => by
          refine ⟨fun a o h1 h2 h3 => ?_, E1.le.trans ⟨le1, .refl _, fun _ _ h => h⟩, E1.new, fun a h => E2.dom a (E1.dom a h)⟩
          obtain ⟨k1, k2, k3⟩ := E1.keep a o h1 h2 h3
          exact ⟨(same E2 a o k1).1, hn a o h1 h2 h3, k3⟩
        -- the two ways
        have safe : ∀ {w2 : Wo} {so : Sto} {H2 : Hp}, Ev NoA wc H NoA w2 H2 → WdS ⟨X.K, G, []⟩ w2 so H2 → Wd ⟨X.K, G, []⟩ { w with F := cutF w2.F (Mu st σ) } st σ H2 ∧ Ev (Mu st0 σ) w0 H0 (Mu st σ) { w with F := cutF w2.F (Mu st σ) } H2 ∧
            ∀ p vs, SqT X.K w2.F p vs → SqT X.K (cutF w2.F (Mu st σ)) p vs := fun {w2 so H2} E2 S2 => by
          have le1 : FLe w.F (cutF w2.F (Mu st σ)) := fun a u h => by
            have nm : ¬ Mu st σ a := fun ⟨i, d, h1, h2⟩ => by
              obtain ⟨p, h3, hf, _, _⟩ := W1.ownS i d h1
              have : a = p := by simpa using h2.symm.trans h3
              subst this
              rw [hf] at h
              cases h
            rw [cutF_at nm]
            exact E2.le.F _ _ (F.le.F _ _ h)
          refine ⟨back _ E2 S2 cutF_le W1 le1 fun a h1 h2 h3 => ?_, evb _ E2 E le1 fun a o h1 h2 h3 => ?_, fun p vs h => ?_⟩
          · by_cases nm : Mu st σ a
            · unfold cutF
              rw [if_pos nm]
            · rw [cutF_at nm]
              cases e : H a with
              | none => exact absurd e h1
              | some o =>
                rw [(same E2 a o e).2]
                rcases h3 with h3 | h3
                · cases q : w.ow a with
                  | none => exact absurd q h3
                  | some k => exact (F.wd.own a k (by rw [F.ow]; exact q)).1
                · exact (nm h3).elim
          · obtain ⟨k1, k2, k3⟩ := F.ev.keep a o h1 h2 h3
            have nm : ¬ Mu st σ a := fun z => (E.new a z).elim h3 fun q => by
              rw [h1] at q
              cases q
            rw [cutF_at nm, (same E2 a o k1).2]
            exact k2
          · have nm : ∀ {u : HO}, w2.F p = some u → isDict u = false → (∀ xs, u ≠ .lst xs) → ¬ Mu st σ p := fun {u} h hd hl ⟨i, d, h1, h2⟩ => by
              obtain ⟨p', h3, _, _, r3⟩ := W1.ownS i d h1
              have : p = p' := by simpa using h2.symm.trans h3
              subst this
              rcases S2.sub _ _ h with q | ⟨q, _⟩
              · cases e : H p with
                | none => exact r3.ne e
                | some o =>
                  have := (same E2 p o e).1.symm.trans q
                  cases this
                  cases d with
                  | lst ds => obtain ⟨xs, h4, _⟩ := r3; rw [e] at h4; cases h4; exact hl _ rfl
                  | dK ds => obtain ⟨xs, h4, _⟩ := r3; rw [e] at h4; cases h4; cases hd
                  | dT ds => obtain ⟨xs, h4, _⟩ := r3; rw [e] at h4; cases h4; cases hd
                  | _ => exact r3.elim
              · rw [hd] at q
                cases q
            rcases h with (h | ⟨o, h⟩) | h
            · exact .inl (.inl (by rw [cutF_at (nm h rfl fun _ z => by cases z)]; exact h))
            · exact .inl (.inr ⟨o, by rw [cutF_at (nm h rfl fun _ z => by cases z)]; exact h⟩)
            · exact .inr h
        have full : ∀ {w2 : Wo} {so : Sto} {H2 : Hp}, Ev NoA wc H NoA w2 H2 → WdS ⟨X.K, G, []⟩ w2 so H2 → Wd ⟨X.K, G, []⟩ { w' with F := w2.F } st' σ H2 ∧ Ev (Mu st0 σ) w0 H0 (Mu st' σ) { w' with F := w2.F } H2 := fun {w2 so H2} E2 S2 => by
          have eqF : ∀ a, H a ≠ none → w2.F a = w'.F a := fun a h => by
            cases e : H a with
            | none => exact absurd e h
            | some o => exact (same E2 a o e).2
          exact ⟨back _ E2 S2 (.refl _) F.wd E2.le.F fun a h1 h2 _ => (eqF a h1).trans h2, evb _ E2 F.ev E2.le.F fun a o h1 h2 h3 => by
            obtain ⟨k1, k2, k3⟩ := F.ev.keep a o h1 h2 h3
            exact (eqF a (by rw [k1]; simp)).trans k2⟩
        have mu' : ∀ a, Mu st' σ a → Mu st σ a := fun a z => F.mu a z
        have h0 : ∀ {p : Addr}, H p = none → H0 p = none := fun {p} h => by
          cases q : H0 p with
          | none => rfl
          | some o => exact absurd h (E.dom p (by rw [q]; simp))
        cases ed : den ds [] with
        | none =>
          rw [ed] at P
          exact P.elim
        | some q =>
          rw [ed] at P
          cases q with
          | ret sl so' =>
            intro w2 H2 v E2 S2 R2
            dsimp only at P
            by_cases hs : safeS sl = true
            · rw [if_pos hs] at P
              obtain ⟨W3, E3, tq⟩ := safe E2 S2
              refine P _ H2 v E3 W3 ?_
              cases sl with
              | frz d => exact Rep.noLst tq hs R2
              | own d =>
                cases d with
                | lst ds' =>
                  obtain ⟨p, e1, e2, e3, e4, ⟨xs', e5, e6⟩⟩ := R2
                  refine ⟨p, e1, h0 e2, ?_, W1.toWdS.own_none e2, fun z => Mu.not_of W1 e2 z, xs', e5, Reps.noLst tq hs e6⟩
                  show cutF w2.F (Mu st σ) p = none
                  rw [cutF_at fun z => Mu.not_of W1 e2 z]
                  exact e3
                | _ => cases hs
            · rw [if_neg hs] at P
              by_cases ho : okS sl = true
              · rw [if_pos ho, ef] at P
                obtain ⟨W3, E3⟩ := full E2 S2
                refine P _ H2 v E3 W3 ?_
                cases sl with
                | frz d => exact Rep.noObj (w := w2) (w' := { w' with F := w2.F }) (FLe.refl w2.F) ho R2
                | own d =>
                  obtain ⟨p, e1, e2, e3, e4, e5⟩ := R2
                  exact ⟨p, e1, h0 e2, e3, by
                    show w'.ow p = none
                    rw [F.ow]
                    exact W1.toWdS.own_none e2, fun z => Mu.not_of W1 e2 (mu' p z), ORep.noObj (w := w2) (w' := { w' with F := w2.F }) (FLe.refl w2.F) rfl ho e5⟩
              · rw [if_neg ho] at P
                exact P.elim
          | exc c fs so' =>
            intro w2 H2 C d g E2 S2 R2
            dsimp only at P
            have xr : ∀ {F2 : Hp} {w3 : Wo}, w3.F = F2 → (∀ p, H p = none → w2.F p = none → F2 p = none) → (∀ p, H p = none → w3.ow p = none) → (∀ {fv}, RepF X.K w2 fv fs → RepF X.K w3 fv fs) → XRep X.K H0 w3 H2 d fs := fun {F2 w3} e1 e2 e3 e4 => by
              rcases R2 with q | ⟨dd, fv, q1, q2, q3, q4, q5, q6⟩
              · exact .inl q
              · exact .inr ⟨dd, fv, q1, h0 q2, q3, by rw [e1]; exact e2 _ q2 q4, e3 _ q2, e4 q6⟩
            by_cases hs : noLstF fs = true
            · rw [if_pos hs] at P
              obtain ⟨W3, E3, tq⟩ := safe E2 S2
              refine P _ σ H2 C d g E3 W3 (xr rfl (fun p h1 h2 => ?_) (fun p h1 => W1.toWdS.own_none h1) fun r => RepF.noLst tq hs r)
              show cutF w2.F (Mu st σ) p = none
              rw [cutF_at fun z => Mu.not_of W1 h1 z]
              exact h2
            · rw [if_neg hs] at P
              by_cases ho : noObjF fs = true
              · rw [if_pos ho, ef] at P
                obtain ⟨W3, E3⟩ := full E2 S2
                exact P _ σ H2 C d g E3 W3 (xr rfl (fun p h1 h2 => h2) (fun p h1 => by
                  show w'.ow p = none
                  rw [F.ow]
                  exact W1.toWdS.own_none h1) fun r => RepF.noObj (w := w2) (w' := { w' with F := w2.F }) (FLe.refl w2.F) ho r)
              · rw [if_neg ho] at P
                exact P.elim
      · rw [if_neg hno] at P
        exact P.elim
end

section
variable {G : String → Option Addr} {X : Cx} {W : WX} {mas : M (List Val)} {e : Expr} {es : List Expr} {pos : Pos}
/-- f(e, ..), a def that needs no store -/
theorem ge_callP {np : Nat} {f : Addr} {x : Str} {p : Pos} {den : Den} (F : Callee X f (spF ⟨X.K, G, []⟩ np den) (WE W)) (hc : X.calm = true) (hg : Gl X x) (hm : X.mg x = some (.ref f)) (hk : PySem.W.keepIn X.K (.ref f) = true)
    (ha : GA G X W (e :: es) mas) (hal : Len mas np)
    (hdb : (x == ("__debug__" : Str)) = false := by decide) (he : starEach (e :: es) X.env = (false, eval e X.env) :: starEach es X.env := by rfl) (hpl : (backTo pos (starEach es X.env)).any (·.1) = false := by rfl) :
    GE G X W (.Call (.Name x p) (e :: es) [] pos) (mCallP den mas) :=
  PE_imp (pe_callC F hg hm hk ha hdb he hpl) fun σ H Q ⟨w, st, W1, P⟩ => by
    have P' := P
    unfold mCallP M.bind at P'
    refine ⟨w, st, W1, ?_⟩
    cases em : mas st with
    | none => rw [em] at P'; exact P'.elim
    | some q =>
      rw [em] at P'
      cases q with
      | exc c fs s => exact P'
      | ok xs s => exact fun w1 H1 vs E1 W2 R1 => callP_ok hc W2 E1 (fun _ h => h) R1 (by rw [paired_len R1.ps]; exact hal _ _ _ em) P'
end
end FB

/-! FBOps: the operations on data, and that they are the operators' and the built-ins'. -/
namespace FB
open PySem PySem.Spec PyProof.Rows L2

/-! ### results -/
section
variable {G : String → Option Addr} {X : Cx} {K : PySem.W.Frag}
/-- a fresh thing of one's own -/
theorem own_new {n : Cn} {w : Wo} {st : DSt} {σ : L2.St} {H : Hp} {p : Addr} {o : HO} {d : D} (W : Wd n w st σ H) (hp : H p = none) (r : ORep n.K w (upd H p o) p d) :
    Ev (Mu st σ) w H (Mu st σ) w (upd H p o) ∧ Wd n w st σ (upd H p o) ∧ VRep n.K H w st σ (upd H p o) (.ref p) (.own d) :=
  ⟨.alloc hp, W.alloc hp, p, rfl, hp, sub_ne W.sub hp, W.toWdS.own_none hp, Mu.not_of W hp, r⟩
/-- what is wanted of a result -/
abbrev Res (K : PySem.W.Frag) (n : Cn) (w : Wo) (st : DSt) (σ : L2.St) (H : Hp) (Q : VK) (s : Slot) : Prop :=
  ∀ w' H' v, Ev (Mu st σ) w H (Mu st σ) w' H' → Wd n w' st σ H' → VRep K H w' st σ H' v s.val → Q v H'
theorem Res.frz {w : Wo} {st : DSt} {σ : L2.St} {H : Hp} {Q : VK} {d : D} {v : V} (P : Res X.K (cn G X) w st σ H Q (.frz d)) (W : Wd (cn G X) w st σ H) (r : Rep X.K w v d) : Q v H := P w H v (.refl _ _ _) W r
theorem Res.bl {w : Wo} {st : DSt} {σ : L2.St} {H : Hp} {Q : VK} {b : Bool} (P : Res X.K (cn G X) w st σ H Q (.frz (.bl b))) (W : Wd (cn G X) w st σ H) : Q (.bl b) H := P.frz W (.bl b)
theorem Res.int {w : Wo} {st : DSt} {σ : L2.St} {H : Hp} {Q : VK} {b : Int} (P : Res X.K (cn G X) w st σ H Q (.frz (.int b))) (W : Wd (cn G X) w st σ H) : Q (.int b) H := P.frz W (.int b)
theorem Res.str {w : Wo} {st : DSt} {σ : L2.St} {H : Hp} {Q : VK} {b : Str} (P : Res X.K (cn G X) w st σ H Q (.frz (.str b))) (W : Wd (cn G X) w st σ H) : Q (.str b) H := P.frz W (.str b)
theorem Res.lst {w : Wo} {st : DSt} {σ : L2.St} {H : Hp} {Q : VK} {ds : List D} {vs : List V} (P : Res X.K (cn G X) w st σ H Q (.own (.lst ds))) (W : Wd (cn G X) w st σ H) (r : Reps X.K w vs ds) {p : Addr} (hp : H p = none) : Q (.ref p) (upd H p (.lst vs)) := by
  obtain ⟨a, b, c⟩ := own_new (o := .lst vs) (d := .lst ds) W hp ⟨vs, upd_same, r⟩
  exact P w _ _ a b c
theorem Res.dK {w : Wo} {st : DSt} {σ : L2.St} {H : Hp} {Q : VK} {ds : List (Key × D)} {vs : List (Key × V)} (P : Res X.K (cn G X) w st σ H Q (.own (.dK ds))) (W : Wd (cn G X) w st σ H) (r : RepK X.K w vs ds) {p : Addr} (hp : H p = none) : Q (.ref p) (upd H p (.dK vs)) := by
  obtain ⟨a, b, c⟩ := own_new (o := .dK vs) (d := .dK ds) W hp ⟨vs, upd_same, r⟩
  exact P w _ _ a b c
theorem Res.tup {w : Wo} {st : DSt} {σ : L2.St} {H : Hp} {Q : VK} {ds : List D} {vs : List V} (P : Res X.K (cn G X) w st σ H Q (.frz (.tup ds))) (W : Wd (cn G X) w st σ H) (r : Reps X.K w vs ds) {p : Addr} (hp : H p = none) : Q (.ref p) (upd H p (.tup vs)) := by
  obtain ⟨w', a, b, _, c⟩ := tup_new W (.refl _ _ _) hp r
  exact P w' _ _ b a c
end
theorem Reps.app {K : PySem.W.Frag} {w : Wo} : ∀ {vs vs' : List V} {ds ds' : List D}, Reps K w vs ds → Reps K w vs' ds' → Reps K w (vs ++ vs') (ds ++ ds')
  | _, _, _, _, .nil, r => r
  | _, _, _, _, .cons a r, r' => .cons a (Reps.app r r')
theorem Reps.reps {K : PySem.W.Frag} {w : Wo} {vs : List V} {ds : List D} (r : Reps K w vs ds) : ∀ k : Nat, Reps K w (List.replicate k vs).flatten (List.replicate k ds).flatten
  | 0 => .nil
  | k + 1 => by
    rw [List.replicate_succ, List.replicate_succ, List.flatten_cons, List.flatten_cons]
    exact r.app (r.reps k)
theorem Reps.drop {K : PySem.W.Frag} {w : Wo} : ∀ (k : Nat) {vs : List V} {ds : List D}, Reps K w vs ds → Reps K w (vs.drop k) (ds.drop k)
  | 0, _, _, r => r
  | k + 1, _, _, .nil => .nil
  | k + 1, _, _, .cons _ r => Reps.drop k r
theorem Reps.take {K : PySem.W.Frag} {w : Wo} : ∀ (k : Nat) {vs : List V} {ds : List D}, Reps K w vs ds → Reps K w (vs.take k) (ds.take k)
  | 0, _, _, _ => .nil
  | k + 1, _, _, .nil => .nil
  | k + 1, _, _, .cons a r => .cons a (Reps.take k r)
theorem Reps.rev {K : PySem.W.Frag} {w : Wo} : ∀ {vs : List V} {ds : List D}, Reps K w vs ds → Reps K w vs.reverse ds.reverse
  | _, _, .nil => .nil
  | _, _, .cons a r => by
    rw [List.reverse_cons, List.reverse_cons]
    exact (Reps.rev r).app (.cons a .nil)
theorem Reps.ints {K : PySem.W.Frag} {w : Wo} : ∀ ns : List Int, Reps K w (ns.map V.int) (ns.map D.int)
  | [] => .nil
  | n :: ns => .cons (.int n) (Reps.ints ns)
theorem Reps.strs {K : PySem.W.Frag} {w : Wo} : ∀ ns : List Str, Reps K w (ns.map V.str) (ns.map D.str)
  | [] => .nil
  | n :: ns => .cons (.str n) (Reps.strs ns)
/-- numbers by value -/
def intsD : List D → Option (List Int)
  | [] => some []
  | .int i :: ds => (intsD ds).map (i :: ·)
  | _ :: _ => none
def blsD : List D → Option (List Bool)
  | [] => some []
  | .bl i :: ds => (blsD ds).map (i :: ·)
  | _ :: _ => none
theorem Rep.int_v {K : PySem.W.Frag} {w : Wo} {v : V} {i : Int} (h : Rep K w v (.int i)) : v = .int i := by
  cases h
  rfl
theorem Rep.bl_v {K : PySem.W.Frag} {w : Wo} {v : V} {i : Bool} (h : Rep K w v (.bl i)) : v = .bl i := by
  cases h
  rfl
theorem ints_v {K : PySem.W.Frag} {w : Wo} : ∀ {vs : List V} {ds : List D} {ns : List Int}, Reps K w vs ds → intsD ds = some ns → vs = ns.map V.int
  | _, _, _, .nil, e => by
    cases e
    rfl
  | _, _, _, .cons (d := d) a r, e => by
    cases d with
    | int i =>
      unfold intsD at e
      cases q : intsD _ with
      | none => rw [q] at e; cases e
      | some ms =>
        rw [q] at e
        cases e
        rw [a.int_v, ints_v r q]
        rfl
    | _ => cases e
theorem bls_v {K : PySem.W.Frag} {w : Wo} : ∀ {vs : List V} {ds : List D} {ns : List Bool}, Reps K w vs ds → blsD ds = some ns → vs = ns.map V.bl
  | _, _, _, .nil, e => by
    cases e
    rfl
  | _, _, _, .cons (d := d) a r, e => by
    cases d with
    | bl i =>
      unfold blsD at e
      cases q : blsD _ with
      | none => rw [q] at e; cases e
      | some ms =>
        rw [q] at e
        cases e
        rw [a.bl_v, bls_v r q]
        rfl
    | _ => cases e
theorem intsD_map : ∀ ns : List Int, intsD (ns.map D.int) = some ns
  | [] => rfl
  | n :: ns => by
    show (intsD (ns.map D.int)).map (n :: ·) = _
    rw [intsD_map ns]
    rfl
theorem blsD_map : ∀ ns : List Bool, blsD (ns.map D.bl) = some ns
  | [] => rfl
  | n :: ns => by
    show (blsD (ns.map D.bl)).map (n :: ·) = _
    rw [blsD_map ns]
    rfl

/-! ### numbers -/
def intOp (c : Int → Int → Bool) (g : Int → Int → D) : D → D → Option Slot
  | .int i, .int j => if c i j = true then some (.frz (g i j)) else none
  | _, _ => none
section
variable {G : String → Option Addr} {X : Cx} {W : WX}
theorem gi {α : Type} {c : Prop} [Decidable c] {o : Option α} {s : α} (e : (if c then o else none) = some s) : c ∧ o = some s := by
  by_cases h : c
  · rw [if_pos h] at e
    exact ⟨h, e⟩
  · rw [if_neg h] at e
    cases e
theorem ops_int {c : Int → Int → Bool} {C : Int → Int → Prop} {g : Int → Int → D} {g' : Int → Int → V} (hc : ∀ i j, c i j = true → C i j) (hg : ∀ i j w, Rep X.K w (g' i j) (g i j)) : OpS G X (rI C g') (intOp c g) := by
  intro w st σ H x y d1 d2 s Q W vx vy e P
  cases d1 <;> try (cases e; done)
  cases d2 <;> try (cases e; done)
  rename_i i j
  obtain ⟨h, e⟩ := gi e
  cases e
  exact ⟨i, j, view_int vx, view_int vy, hc i j h, Res.frz P W (hg i j w)⟩
abbrev yes2 : Int → Int → Bool := fun _ _ => true
theorem ops_int0 {g : Int → Int → D} {g' : Int → Int → V} (hg : ∀ i j w, Rep X.K w (g' i j) (g i j)) : OpS G X (rI0 g') (intOp yes2 g) := by
  intro w st σ H x y d1 d2 s Q W vx vy e P
  obtain ⟨i, j, e1, e2, _, q⟩ := ops_int (G := G) (C := fun _ _ => True) (fun _ _ _ => trivial) hg w st σ H x y d1 d2 s Q W vx vy e P
  exact ⟨i, j, e1, e2, q⟩
/-- + -/
def addD : D → D → Option Slot
  | .int i, .int j => some (.frz (.int (i + j)))
  | .lst a, .lst b => if a.length + b.length ≤ 16777216 then some (.own (.lst (a ++ b))) else none
  | .tup a, .tup b => if a.length + b.length ≤ 16777216 then some (.frz (.tup (a ++ b))) else none
  | .str a, .str b => if a.length + b.length ≤ 16777216 then some (.frz (.str (a ++ b))) else none
  | _, _ => none
abbrev rAdd (X : Cx) : R2 := fun x y H Q => rI0 (fun i j => .int (i + j)) x y H Q ∨ rCat x y H Q ∨ rCatA X.K x y H Q ∨ ∃ i j, x = .str i ∧ y = .str j ∧ i.length + j.length ≤ sizeLine ∧ Q (.str (i ++ j)) H
theorem or_add : OpR X (binaryOp .Add) (rAdd X) := op_add.or (op_cat.or (op_catA.or op_add_str))
theorem os_add : OpS G X (rAdd X) addD := by
  intro w st σ H x y d1 d2 s Q W vx vy e P
  cases d1 <;> try (cases e; done)
  case int i =>
    cases d2 <;> try (cases e; done)
    cases e
    exact .inl ⟨_, _, view_int vx, view_int vy, Res.int P W⟩
  case str i =>
    cases d2 <;> try (cases e; done)
    obtain ⟨hz, e⟩ := gi e
    cases e
    exact .inr (.inr (.inr ⟨_, _, view_str vx, view_str vy, by rw [sizeLine_eq]; exact hz, Res.str P W⟩))
  case lst a =>
    cases d2 <;> try (cases e; done)
    obtain ⟨hz, e⟩ := gi e
    cases e
    obtain ⟨p, vs, rfl, h1, r1⟩ := vx
    obtain ⟨q, us, rfl, h2, r2⟩ := vy
    exact .inr (.inl ⟨_, _, _, _, rfl, rfl, h1, h2, by rw [sizeLine_eq, r1.length, r2.length]; exact hz, fun p hp => Res.lst P W (r1.app r2) hp⟩)
  case tup a =>
    cases d2 <;> try (cases e; done)
    obtain ⟨hz, e⟩ := gi e
    cases e
    obtain ⟨p, vs, rfl, h1, r1, q1⟩ := vx
    obtain ⟨q, us, rfl, h2, r2, q2⟩ := vy
    refine .inr (.inr (.inl ⟨_, _, _, _, rfl, rfl, h1, h2, by rw [sizeLine_eq, r1.length, r2.length]; exact hz, fun z => ?_, fun _ z => ?_, fun _ _ p hp => Res.tup P W (r1.app r2) hp⟩))
    · subst z
      cases r1
      exact Res.frz P W q2
    · subst z
      cases r2
      rw [List.append_nil] at P
      exact Res.frz P W q1

/-- * -/
def mulD : D → D → Option Slot
  | .int i, .int j => if Builtin.Int.intBits i + Builtin.Int.intBits j ≤ 134217728 then some (.frz (.int (i * j))) else none
  | .lst a, .int k => if k < 9223372036854775808 ∧ -9223372036854775808 ≤ k ∧ a.length * k.toNat ≤ 16777216 then some (.own (.lst (List.replicate k.toNat a).flatten)) else none
  | _, _ => none
abbrev rMul : R2 := fun x y H Q => rI CMulX (fun i j => .int (i * j)) x y H Q ∨ rRep x y H Q
theorem or_mul : OpR X (binaryOp .Mult) rMul := op_mulX.or op_rep
theorem os_mul : OpS G X rMul mulD := by
  intro w st σ H x y d1 d2 s Q W vx vy e P
  cases d1 <;> try (cases e; done)
  case int i =>
    cases d2 <;> try (cases e; done)
    obtain ⟨hz, e⟩ := gi e
    cases e
    exact .inl ⟨_, _, view_int vx, view_int vy, by unfold CMulX; omega, Res.int P W⟩
  case lst a =>
    cases d2 <;> try (cases e; done)
    obtain ⟨⟨h1, h2, h3⟩, e⟩ := gi e
    cases e
    obtain ⟨p, vs, rfl, h4, r1⟩ := vx
    exact .inr ⟨_, _, _, rfl, view_int vy, h4, by omega, by omega, by rw [sizeLine_eq, r1.length]; exact h3, fun p hp => Res.lst P W (r1.reps _) hp⟩
/-- - -/
abbrev subD := intOp yes2 fun i j => .int (i - j)
abbrev rSub : R2 := rI0 fun i j => .int (i - j)
theorem or_sub : OpR X (binaryOp .Sub) rSub := op_sub
theorem os_sub : OpS G X rSub subD := ops_int0 fun _ _ _ => .int _
/-- // by a positive number -/
abbrev fdivD := intOp (fun _ j => decide (0 < j ∧ j.natAbs.log2 < 9000)) fun i j => .int (i / j)
abbrev rFdiv : R2 := rI CDivW fun i j => .int (i / j)
theorem or_fdiv : OpR X (binaryOp .FloorDiv) rFdiv := op_fdivW
theorem os_fdiv : OpS G X rFdiv fdivD := ops_int (fun _ j h => show 0 < j ∧ j.natAbs.log2 < 9000 from of_decide_eq_true h) fun _ _ _ => .int _
/-- % by a positive number -/
abbrev modD := intOp (fun _ j => decide (0 < j)) fun i j => .int (i % j)
abbrev rMod : R2 := rI (fun _ j => 0 < j) fun i j => .int (i % j)
theorem or_mod : OpR X (binaryOp .Mod) rMod := op_mod
theorem os_mod : OpS G X rMod modD := ops_int (fun _ _ h => of_decide_eq_true h) fun _ _ _ => .int _
/-- ** -/
abbrev powD := intOp (fun i j => decide (0 ≤ j ∧ j ≤ 1000000 ∧ i.natAbs < 18446744073709551616)) fun i j => .int (i ^ j.toNat)
abbrev rPow : R2 := rI CPow fun i j => .int (i ^ j.toNat)
theorem or_pow : OpR X (binaryOp .Pow) rPow := op_pow
theorem os_pow : OpS G X rPow powD := ops_int (fun _ _ h => by
  have h := of_decide_eq_true h
  exact ⟨h.1, h.2.1, by omega⟩) fun _ _ _ => .int _
/-- << -/
abbrev shlD := intOp (fun i j => decide (0 ≤ j ∧ (Builtin.Int.intBits i : Int) + j ≤ 134217728)) fun i j => .int (i * 2 ^ j.toNat)
abbrev rShl : R2 := rI CShl fun i j => .int (i * 2 ^ j.toNat)
theorem or_shl : OpR X (binaryOp .LShift) rShl := op_shlW
theorem ior_shl : OpR X (inplaceOp .LShift) rShl := iop_shlW
theorem os_shl : OpS G X rShl shlD := ops_int (fun _ _ h => by
  have h := of_decide_eq_true h
  exact ⟨h.1, by omega⟩) fun _ _ _ => .int _
/-- >> -/
abbrev shrD := intOp (fun _ j => decide (0 ≤ j)) fun i j => .int (i / 2 ^ j.toNat)
abbrev rShr : R2 := rI (fun _ j => 0 ≤ j) fun i j => .int (i / 2 ^ j.toNat)
theorem or_shr : OpR X (binaryOp .RShift) rShr := op_shr
theorem ior_shr : OpR X (inplaceOp .RShift) rShr := iop_shr
theorem os_shr : OpS G X rShr shrD := ops_int (fun _ _ h => of_decide_eq_true h) fun _ _ _ => .int _
/-- & | ^ -/
abbrev andD := intOp yes2 fun i j => .int (Builtin.bitAnd i j)
abbrev borD := intOp yes2 fun i j => .int (Builtin.bitOr i j)
abbrev xorD := intOp yes2 fun i j => .int (Builtin.bitXor i j)
abbrev rBand : R2 := rI0 fun i j => .int (Builtin.bitAnd i j)
abbrev rBor : R2 := rI0 fun i j => .int (Builtin.bitOr i j)
abbrev rXor : R2 := rI0 fun i j => .int (Builtin.bitXor i j)
theorem or_and : OpR X (binaryOp .BitAnd) rBand := op_and
theorem or_or : OpR X (binaryOp .BitOr) rBor := op_or
theorem or_xor : OpR X (binaryOp .BitXor) rXor := op_xor
theorem ior_and : OpR X (inplaceOp .BitAnd) rBand := iop_and
theorem ior_or : OpR X (inplaceOp .BitOr) rBor := iop_or
theorem ior_xor : OpR X (inplaceOp .BitXor) rXor := iop_xor
theorem os_and : OpS G X rBand andD := ops_int0 fun _ _ _ => .int _
theorem os_or : OpS G X rBor borD := ops_int0 fun _ _ _ => .int _
theorem os_xor : OpS G X rXor xorD := ops_int0 fun _ _ _ => .int _
/-- - e -/
def negD : D → Option Slot
  | .int i => some (.frz (.int (-i)))
  | _ => none
abbrev rNeg : V → Hp → VK → Prop := rU fun i => .int (-i)
theorem or_neg : UnR X (unaryOp .USub) rNeg := un_neg
theorem os_neg : UnS G X rNeg negD := by
  intro w st σ H x d s Q W vx e P
  cases d <;> try (cases e; done)
  cases e
  exact ⟨_, view_int vx, Res.int P W⟩

/-! ### comparisons -/
abbrev ltD := intOp yes2 fun i j => .bl (decide (i < j))
abbrev leD := intOp yes2 fun i j => .bl (decide (i ≤ j))
abbrev gtD := intOp yes2 fun i j => .bl (decide (j < i))
abbrev geD := intOp yes2 fun i j => .bl (decide (j ≤ i))
abbrev rLt : R2 := rI0 fun i j => .bl (decide (i < j))
abbrev rLe : R2 := rI0 fun i j => .bl (decide (i ≤ j))
abbrev rGt' : R2 := rI0 fun i j => .bl (decide (j < i))
abbrev rGe' : R2 := rI0 fun i j => .bl (decide (j ≤ i))
theorem or_lt : OpR X (compareOp .Lt) rLt := op_lt
theorem or_le : OpR X (compareOp .LtE) rLe := op_le
theorem or_gt : OpR X (compareOp .Gt) rGt' := op_gt
theorem or_ge : OpR X (compareOp .GtE) rGe' := op_ge
theorem os_lt : OpS G X rLt ltD := ops_int0 fun _ _ _ => .bl _
theorem os_le : OpS G X rLe leD := ops_int0 fun _ _ _ => .bl _
theorem os_gt : OpS G X rGt' gtD := ops_int0 fun _ _ _ => .bl _
theorem os_ge : OpS G X rGe' geD := ops_int0 fun _ _ _ => .bl _
mutual
/-- the plain data in it -/
def toP : D → Option PyData
  | .non => some .none
  | .bl b => some (.bool b)
  | .int i => some (.int i)
  | .str x => some (.str x)
  | .lst ds => (toPs ds).map .list
  | .tup ds => (toPs ds).map .tuple
  | .scr ns => some (.list (ns.map .int))
  | _ => none
def toPs : List D → Option (List PyData)
  | [] => some []
  | d :: ds => match toP d, toPs ds with
    | some p, some ps => some (p :: ps)
    | _, _ => none
end
theorem dp_ints {K : PySem.W.Frag} {H : Hp} : ∀ ns : List Int, DpAll K H (ns.map V.int) (ns.map PyData.int)
  | [] => .nil
  | n :: ns => .cons (.int n) (dp_ints ns)
mutual
theorem rep_dp {n : Cn} {w : Wo} {so : Sto} {H : Hp} (W : WdS n w so H) : ∀ {v : V} {d : D} {p : PyData}, Rep n.K w v d → toP d = some p → Dp n.K H v p
  | _, _, _, .non, e => by cases e; exact .non
  | _, _, _, .bl b, e => by cases e; exact .bl b
  | _, _, _, .int b, e => by cases e; exact .int b
  | _, _, _, .str b, e => by cases e; exact .str b
  | _, _, _, .ty b, e => by cases e
  | _, .lst ds, _, .lst h r, e => by
    unfold toP at e
    cases q : toPs ds with
    | none => rw [q] at e; cases e
    | some ps =>
      rw [q] at e
      cases e
      exact .lst (SqL.of (sub_lst W.sub h)) (reps_dp W r q)
  | _, .tup ds, _, .tup h r, e => by
    unfold toP at e
    cases q : toPs ds with
    | none => rw [q] at e; cases e
    | some ps =>
      rw [q] at e
      cases e
      exact .tup (sub_tup W.sub h) (reps_dp W r q)
  | _, _, _, .dK _ _, e => by cases e
  | _, _, _, .dT _ _, e => by cases e
  | _, _, _, .scr h, e => by cases e; exact .lst (sub_scr W.sub h) (dp_ints _)
  | _, _, _, .obj _, e => by cases e
  | _, _, _, .exv0 _, e => by cases e
  | _, _, _, .exv _ _ _, e => by cases e
theorem reps_dp {n : Cn} {w : Wo} {so : Sto} {H : Hp} (W : WdS n w so H) : ∀ {v : List V} {d : List D} {p : List PyData}, Reps n.K w v d → toPs d = some p → DpAll n.K H v p
  | _, _, _, .nil, e => by cases e; exact .nil
  | _, d :: ds, _, .cons a r, e => by
    unfold toPs at e
    cases q1 : toP d with
    | none => rw [q1] at e; cases e
    | some p =>
      cases q2 : toPs ds with
      | none => rw [q1, q2] at e; cases e
      | some ps =>
        rw [q1, q2] at e
        cases e
        exact .cons (rep_dp W a q1) (reps_dp W r q2)
end
theorem view_dp {n : Cn} {w : Wo} {so : Sto} {H : Hp} (W : WdS n w so H) {v : V} {d : D} {p : PyData} (h : View n.K w H v d) (e : toP d = some p) : Dp n.K H v p := by
  cases d with
  | lst ds =>
    obtain ⟨a, vs, ev, h, r⟩ := h
    subst ev
    unfold toP at e
    cases q : toPs ds with
    | none => rw [q] at e; cases e
    | some ps =>
      rw [q] at e
      cases e
      exact .lst (SqL.of h) (reps_dp W r q)
  | scr ns =>
    obtain ⟨a, ev, h⟩ := h
    subst ev
    cases e
    exact .lst h (dp_ints _)
  | tup ds =>
    obtain ⟨a, vs, ev, h, r, q⟩ := h
    exact rep_dp W q e
  | non => exact rep_dp W (show Rep n.K w v .non from h) e
  | bl b => exact rep_dp W (show Rep n.K w v (.bl b) from h) e
  | int b => exact rep_dp W (show Rep n.K w v (.int b) from h) e
  | str b => exact rep_dp W (show Rep n.K w v (.str b) from h) e
  | dK _ => cases e
  | dT _ => cases e
  | obj _ => cases e
  | ty _ => cases e
  | exv _ _ => cases e
/-- == -/
def eqB : D → D → Option Bool
  | .int i, .int j => some (i == j)
  | .bl i, .bl j => some (i == j)
  | .str i, .str j => some (decide (i = j))
  | .non, .non => some true
  | .int _, .non => some false
  | .non, .int _ => some false
  | .bl _, .non => some false
  | .non, .bl _ => some false
  | d, e => match toP d, toP e with
    | some p, some q => if SeqAt.shaped p = true ∧ SeqAt.shaped q = true then some (PyData.eqv p q) else none
    | _, _ => none
def eqD (d e : D) : Option Slot := (eqB d e).map fun b => .frz (.bl b)
def neD (d e : D) : Option Slot := (eqB d e).map fun b => .frz (.bl (!b))
abbrev rEqs (X : Cx) : R2 := fun x y H Q => rEq x y H Q ∨ rEqD X.K x y H Q
abbrev rNes (X : Cx) : R2 := fun x y H Q => rNe x y H Q ∨ rNeD X.K x y H Q
theorem or_eq {k : Nat} (hr : Room k X.A) : OpR X (compareOp .Eq) (rEqs X) := op_eq.or (op_eqD (by have := hr.un; omega))
theorem or_ne {k : Nat} (hr : Room k X.A) : OpR X (compareOp .NotEq) (rNes X) := op_ne.or (op_neD (by have := hr.un; omega))
theorem eqB_ok {n : Cn} {w : Wo} {so : Sto} {H : Hp} (W : WdS n w so H) {x y : V} {d1 d2 : D} {b : Bool} (vx : View n.K w H x d1) (vy : View n.K w H y d2) (e : eqB d1 d2 = some b) :
    (scal x y = true ∧ decide (x = y) = b) ∨ ∃ p q, Dp n.K H x p ∧ Dp n.K H y q ∧ SeqAt.shaped p = true ∧ SeqAt.shaped q = true ∧ PyData.eqv p q = b := by
  unfold eqB at e
  split at e
  · cases e
    rw [view_int vx, view_int vy]
    exact .inl ⟨rfl, dec_int⟩
  · cases e
    rw [view_bl vx, view_bl vy]
    exact .inl ⟨rfl, dec_bl⟩
  · cases e
    rw [view_str vx, view_str vy]
    refine .inl ⟨rfl, ?_⟩
    rw [Bool.eq_iff_iff]
    simp
  · cases e
    rw [view_non vx, view_non vy]
    exact .inl ⟨rfl, by simp⟩
  · cases e
    rw [view_int vx, view_non vy]
    exact .inl ⟨rfl, by simp⟩
  · cases e
    rw [view_non vx, view_int vy]
    exact .inl ⟨rfl, by simp⟩
  · cases e
    rw [view_bl vx, view_non vy]
    exact .inl ⟨rfl, by simp⟩
  · cases e
    rw [view_non vx, view_bl vy]
    exact .inl ⟨rfl, by simp⟩
  · split at e
    · rename_i p q e1 e2
      obtain ⟨⟨h1, h2⟩, e⟩ := gi e
      cases e
      exact .inr ⟨p, q, view_dp W vx e1, view_dp W vy e2, h1, h2, rfl⟩
    · cases e
theorem os_eq : OpS G X (rEqs X) eqD := by
  intro w st σ H x y d1 d2 s Q W vx vy e P
  unfold eqD at e
  cases q : eqB d1 d2 with
  | none => rw [q] at e; cases e
  | some b =>
    rw [q] at e
    cases e
    rcases eqB_ok W.toWdS vx vy q with ⟨h1, h2⟩ | ⟨p, q, h1, h2, h3, h4, h5⟩
    · exact .inl ⟨h1, by rw [h2]; exact Res.bl P W⟩
    · exact .inr ⟨p, q, h1, h2, h3, h4, by rw [h5]; exact Res.bl P W⟩
theorem os_ne : OpS G X (rNes X) neD := by
  intro w st σ H x y d1 d2 s Q W vx vy e P
  unfold neD at e
  cases q : eqB d1 d2 with
  | none => rw [q] at e; cases e
  | some b =>
    rw [q] at e
    cases e
    rcases eqB_ok W.toWdS vx vy q with ⟨h1, h2⟩ | ⟨p, q, h1, h2, h3, h4, h5⟩
    · exact .inl ⟨h1, by rw [h2]; exact Res.bl P W⟩
    · exact .inr ⟨p, q, h1, h2, h3, h4, by rw [h5]; exact Res.bl P W⟩
/-- is None -/
def isNonD : D → Option Slot
  | .non => some (.frz (.bl true))
  | _ => some (.frz (.bl false))
theorem view_ne_non {n : Cn} {w : Wo} {so : Sto} {H : Hp} (W : WdS n w so H) {x : V} : ∀ {d : D}, View n.K w H x d → (decide (x = .non)) = match d with
    | .non => true
    | _ => false
  | .non, h => by rw [view_non h]; rfl
  | .bl _, h => by rw [view_bl h]; rfl
  | .int _, h => by rw [view_int h]; rfl
  | .str _, h => by rw [view_str h]; rfl
  | .lst _, ⟨_, _, e, _⟩ => by rw [e]; rfl
  | .tup _, ⟨_, _, e, _⟩ => by rw [e]; rfl
  | .dK _, ⟨_, _, e, _⟩ => by rw [e]; rfl
  | .dT _, ⟨_, _, e, _⟩ => by rw [e]; rfl
  | .scr _, ⟨_, e, _⟩ => by rw [e]; rfl
  | .obj _, h => by
    have h : Rep n.K w x _ := h
    cases h
    rfl
  | .ty _, h => by
    have h : Rep n.K w x _ := h
    cases h
    rfl
  | .exv _ _, h => by
    have h : Rep n.K w x _ := h
    cases h <;> rfl
def isD : D → D → Option Slot
  | d, .non => match d with
    | .non => some (.frz (.bl true))
    | _ => some (.frz (.bl false))
  | _, _ => none
def isntD : D → D → Option Slot
  | d, .non => match d with
    | .non => some (.frz (.bl false))
    | _ => some (.frz (.bl true))
  | _, _ => none
abbrev rIsNon : R2 := fun x y H Q => y = .non ∧ Q (.bl (decide (x = .non))) H
abbrev rIsntNon : R2 := fun x y H Q => y = .non ∧ Q (.bl (!decide (x = .non))) H
theorem or_is : OpR X (compareOp .Is) rIsNon := op_isN
theorem or_isnt : OpR X (compareOp .IsNot) rIsntNon := op_notN
theorem os_is : OpS G X rIsNon isD := by
  intro w st σ H x y d1 d2 s Q W vx vy e P
  cases d2 <;> try (cases e; done)
  refine ⟨view_non vy, ?_⟩
  rw [view_ne_non W.toWdS vx]
  cases d1 <;> cases e <;> exact Res.bl P W
theorem os_isnt : OpS G X rIsntNon isntD := by
  intro w st σ H x y d1 d2 s Q W vx vy e P
  cases d2 <;> try (cases e; done)
  refine ⟨view_non vy, ?_⟩
  rw [view_ne_non W.toWdS vx]
  cases d1 <;> cases e <;> exact Res.bl P W
end
end FB

/-! FBMore: chains, in, subscripts, slices, calls of built-ins, dicts, lists that change. -/
namespace FB
open PySem PySem.Spec PyProof.Rows L2

section
variable {G : String → Option Addr} {X : Cx} {W : WX} {e a b c : Expr} {ma mb mc me : M Val} {pos : Pos}
/-! ### a < b < c -/
def mChain (f f' : D → D → Option Slot) (ma mb mc : M Val) : M Val := M.bind ma fun x => M.bind mb fun y => M.bind (mBl (mOp2 f x y)) fun k => if k = true then M.bind mc fun z => mOp2 f' y z else M.pure (.frz (.bl false))
theorem op2_bind {r : R2} {f : D → D → Option Slot} (hs : OpS G X r f) {w w0 : Wo} {st st0 : DSt} {σ : L2.St} {H H0 Ha Hb : Hp} {Q : VK} {va vb : Val} {x y : V} {g : Bool → M Val} {Q' : VK} (W0 : Wd (cn G X) w st σ H) (E0 : Ev (Mu st0 σ) w0 H0 (Mu st σ) w H)
    (Ra : VRep X.K Ha w st σ H x va) (Rb : VRep X.K Hb w st σ H y vb) (P : Post (VRep X.K) (cn G X) W w0 st0 σ H0 Q (M.bind (mBl (mOp2 f va vb)) g st))
    (h : ∀ k w' H', Ev (Mu st0 σ) w0 H0 (Mu st σ) w' H' → Ev (Mu st σ) w H (Mu st σ) w' H' → Wd (cn G X) w' st σ H' → Post (VRep X.K) (cn G X) W w0 st0 σ H0 Q (g k st) → Q' (.bl k) H') : r x y H Q' := by
  unfold mBl at P
  have P2 : Post (VRep X.K) (cn G X) W w0 st0 σ H0 Q (M.bind (mOp2 f va vb) (fun v => M.bind (mGet v) fun d => M.bind (mOpt (blD d)) g) st) := by
    have : M.bind (M.bind (mOp2 f va vb) fun v => M.bind (mGet v) fun d => mOpt (blD d)) g st = M.bind (mOp2 f va vb) (fun v => M.bind (mGet v) fun d => M.bind (mOpt (blD d)) g) st := by
      simp only [M.bind]
      cases mOp2 f va vb st with
      | none => rfl
      | some q =>
        cases q with
        | exc => rfl
        | ok v s =>
          dsimp only
          cases mGet v s with
          | none => rfl
          | some q => cases q <;> rfl
    rw [this] at P
    exact P
  unfold M.bind mOp2 at P2
  cases q1 : mGet va st with
  | none => simp only [M.bind, q1] at P2; exact P2.elim
  | some r1 =>
    unfold mGet at q1
    cases e1 : va.get st with
    | none => rw [e1] at q1; cases q1
    | some d =>
      rw [e1] at q1
      cases q1
      cases e2 : vb.get st with
      | none => simp only [M.bind, mGet, e1, e2] at P2; exact P2.elim
      | some d' =>
        simp only [M.bind, mGet, e1, e2, mSlot] at P2
        cases e3 : f d d' with
        | none => rw [e3] at P2; exact P2.elim
        | some s =>
          rw [e3] at P2
          refine hs w st σ H x y d d' s Q' W0 (VRep.view W0 Ra e1) (VRep.view W0 Rb e2) e3 fun w' H' v E' W' R' => ?_
          dsimp only at P2
          cases s with
          | own u =>
            cases u <;> first | exact P2.elim | skip
            rename_i k
            obtain ⟨_, _, _, _, _, _, z⟩ := R'
            exact z.elim
          | frz u =>
            cases u <;> first | exact P2.elim | skip
            rename_i k
            have z : Rep X.K w' v (.bl k) := R'
            rw [z.bl_v]
            exact h k w' H' (E0.trans E') E' W' P2
theorem tChain_ok {r r' : R2} {f f' : D → D → Option Slot} (hs : OpS G X r f) (hs' : OpS G X r' f') {σ : L2.St} {H : Hp} {Q : VK} (h : tE G X W (mChain f f' ma mb mc) σ H Q) : tChain r r' (tE G X W ma) (tE G X W mb) (tE G X W mc) σ H Q := by
  obtain ⟨w, st, W0, P⟩ := h
  refine tE_bind W0 (.refl _ _ _) P fun x H1 w1 st1 va W1 E1 _ R1 P1 => ?_
  refine tE_bind W1 E1 P1 fun y H2 w2 st2 vb W2 E2 F2 R2 P2 => ?_
  refine op2_bind hs W2 E2 (R1.keep F2) R2 P2 fun k w3 H3 E3 F3 W3 P3 => ?_
  cases k with
  | false => exact ⟨false, rfl, P3 w3 H3 _ E3 W3 (.bl false)⟩
  | true =>
    refine ⟨true, rfl, ?_⟩
    rw [if_pos rfl]
    exact tE_bind W3 E3 P3 fun z H4 w4 st4 vz W4 E4 F4 R4 P4 => op2_ok hs' W4 E4 ((R2.keep F3).keep F4) R4 P4
theorem ge_chain {op op' : CmpOp} {r r' : R2} {f f' : D → D → Option Slot} (ho : OpR X (compareOp op) r) (hs : OpS G X r f) (ho' : OpR X (compareOp op') r') (hs' : OpS G X r' f') (ha : GE G X W a ma) (hb : GE G X W b mb) (hc : GE G X W c mc)
    (hm : lastMarks [op, op'] [b, c] = false := by with_unfolding_all rfl) : GE G X W (.Compare a [op, op'] [b, c] pos) (mChain f f' ma mb mc) := PE_imp (pe_chain ho ho' ha hb hc hm) fun _ _ _ h => tChain_ok hs hs' h
theorem bl_test {m : M Val} {σ : L2.St} {H : Hp} {Q : Bool → Hp → Prop} (h : tB G X W (mBl m) σ H Q) : tE G X W m σ H fun x H' => ∃ k, x = .bl k ∧ Q k H' := by
  obtain ⟨w, st, W0, P⟩ := h
  have P' : Post BR (cn G X) W w st σ H Q (M.bind (mBl m) M.pure st) := by
    have e : M.bind (mBl m) M.pure st = mBl m st := by
      simp only [M.bind]
      cases mBl m st with
      | none => rfl
      | some r => cases r <;> rfl
    rw [e]
    exact P
  exact bl_bind W0 (.refl _ _ _) P' fun c H1 w1 st1 W1 E1 P1 => ⟨c, rfl, P1 w1 H1 c E1 W1 rfl⟩
theorem gt_chain {op op' : CmpOp} {r r' : R2} {f f' : D → D → Option Slot} (ho : OpR X (compareOp op) r) (hs : OpS G X r f) (ho' : OpR X (compareOp op') r') (hs' : OpS G X r' f') (ha : GE G X W a ma) (hb : GE G X W b mb) (hc : GE G X W c mc)
    (hm : lastMarks [op, op'] [b, c] = false := by with_unfolding_all rfl) : GT G X W (.Compare a [op, op'] [b, c] pos) (mBl (mChain f f' ma mb mc)) := PT_imp (pt_chain ho ho' ha hb hc hm) fun _ _ _ h => tChain_ok hs hs' (bl_test h)

/-! ### x[i], x[i:j], x[::-1] -/
def ixD : D → D → Option Slot
  | .lst ds, .int i => (atI ds i).map .frz
  | .tup ds, .int i => (atI ds i).map .frz
  | .str z, .int i => if z.length ≤ 16777216 then (atI z.cps.toList i).map fun c => .frz (.str ⟨#[c]⟩) else none
  | _, _ => none
theorem atI_rep {K : PySem.W.Frag} {w : Wo} {vs : List V} {ds : List D} {i : Int} {d : D} (r : Reps K w vs ds) (e : atI ds i = some d) : ∃ v, atI vs i = some v ∧ Rep K w v d := by
  unfold atI at e ⊢
  rw [r.length]
  cases q : ixN ds.length i with
  | none => rw [q] at e; cases e
  | some j =>
    rw [q] at e
    have e : ds[j]? = some d := e
    obtain ⟨hj, _⟩ := List.getElem?_eq_some_iff.mp e
    have hv : j < vs.length := by rw [r.length]; exact hj
    obtain ⟨d', e', rr⟩ := r.get (List.getElem?_eq_getElem hv)
    rw [e] at e'
    cases e'
    exact ⟨_, List.getElem?_eq_getElem hv, rr⟩
theorem om {α β : Type} {f : α → β} {o : Option α} {s : β} (e : o.map f = some s) : ∃ a, o = some a ∧ f a = s := by
  cases o with
  | none => cases e
  | some a => exact ⟨a, rfl, Option.some.inj e⟩
theorem os_ix : OpS G X (rIx X.K) ixD := by
  intro w st σ H x y d1 d2 s Q W vx vy q P
  cases d1 <;> try (cases q; done)
  case lst ds =>
    cases d2 <;> try (cases q; done)
    rename_i i
    obtain ⟨d, e1, rfl⟩ := om q
    obtain ⟨p, vs, rfl, h, r⟩ := vx
    obtain ⟨v, e2, rr⟩ := atI_rep r e1
    exact .inl ⟨p, vs, i, v, rfl, view_int vy, SqL.of h, e2, Res.frz P W rr⟩
  case tup ds =>
    cases d2 <;> try (cases q; done)
    rename_i i
    obtain ⟨d, e1, rfl⟩ := om q
    obtain ⟨p, vs, rfl, h, r, _⟩ := vx
    obtain ⟨v, e2, rr⟩ := atI_rep r e1
    exact .inr (.inl ⟨p, vs, i, v, rfl, view_int vy, h, e2, Res.frz P W rr⟩)
  case str z =>
    cases d2 <;> try (cases q; done)
    rename_i i
    obtain ⟨hz, q⟩ := gi q
    obtain ⟨d, e1, rfl⟩ := om q
    exact .inr (.inr ⟨z, i, d, view_str vx, view_int vy, by rw [sizeLine_eq]; exact hz, e1, Res.str P W⟩)
theorem ge_ixs (ha : GE G X W a ma) (hb : GE G X W b mb) (hp : PlainIx b) : GE G X W (.Subscript a b pos) (mBin ixD ma mb) := ge_ix ix_seq os_ix ha hb hp

/-- a slice's end -/
def mPart (m : M Val) : M (Option Int) := M.bind m fun v => M.bind (mGet v) fun d => match d with
  | .int i => M.pure (some i)
  | _ => fun _ => none
def mNoPart : M (Option Int) := M.pure none
def OR : VRel (Option Int) (Option Int) := fun _ _ _ _ _ v b => v = b
def tO (G : String → Option Addr) (X : Cx) (W : WX) (m : M (Option Int)) : TO := fun σ H Q => ∃ w st, Wd (cn G X) w st σ H ∧ Post OR (cn G X) W w st σ H Q (m st)
abbrev GO (G : String → Option Addr) (X : Cx) (W : WX) (e : Option Expr) (m : M (Option Int)) : Prop := PO X e (tO G X W m)
theorem PO_imp {X : Cx} {e : Option Expr} {t t' : TO} (h : PO X e t) (i : ∀ σ H Q, t' σ H Q → t σ H Q) : PO X e t' := ⟨fun p s σ H Q I q => h.run p s σ H Q I (i _ _ _ q)⟩
theorem go_none : GO G X W none mNoPart := PO_imp po_none fun σ H Q ⟨w, st, W0, P⟩ => P w H none (.refl _ _ _) W0 rfl
theorem go_some (h : GE G X W e me) : GO G X W (some e) (mPart me) := PO_imp (po_some h) fun σ H Q ⟨w, st, W0, P⟩ => tE_bind W0 (.refl _ _ _) P fun x H1 w1 st1 va W1 E1 _ R1 P1 => by
  obtain ⟨d, e1, P1⟩ := mGet_ok P1
  cases d <;> first | exact P1.elim | skip
  rename_i i
  exact ⟨i, view_int (VRep.view W1 R1 e1), P1 w1 H1 _ E1 W1 rfl⟩
theorem tO_bind {β β' : Type} {VRb : VRel β β'} {m : M (Option Int)} {w w0 : Wo} {st st0 : DSt} {σ : L2.St} {H H0 : Hp} {f : Option Int → M β} {Q : β' → Hp → Prop} {Q' : Option Int → Hp → Prop} (W1 : Wd (cn G X) w st σ H) (E0 : Ev (Mu st0 σ) w0 H0 (Mu st σ) w H)
    (P : Post VRb (cn G X) W w0 st0 σ H0 Q (M.bind m f st))
    (h : ∀ c H1 w1 st1, Wd (cn G X) w1 st1 σ H1 → Ev (Mu st0 σ) w0 H0 (Mu st1 σ) w1 H1 → Ev (Mu st σ) w H (Mu st1 σ) w1 H1 → Post VRb (cn G X) W w0 st0 σ H0 Q (f c st1) → Q' c H1) : tO G X W m σ H Q' :=
  ⟨w, st, W1, (Post.bind (VRa := OR) E0 P).imp fun v H1 ⟨w1, st1, x, W1, E, r, P1⟩ => by
    have z : v = x := r
    subst z
    exact h v H1 w1 st1 W1 (E0.trans E) E P1⟩
def cutD (ds : List D) (lo hi : Option Int) : List D := (ds.drop (HT.sIx ds.length 0 lo)).take (HT.sIx ds.length ds.length hi - HT.sIx ds.length 0 lo)
def slD (lo hi : Option Int) : D → Option Slot
  | .lst ds => some (.own (.lst (cutD ds lo hi)))
  | .tup ds => some (.frz (.tup (cutD ds lo hi)))
  | .scr ns => some (.own (.lst (cutD (ns.map .int) lo hi)))
  | _ => none
def mSl (ma : M Val) (ml mh : M (Option Int)) : M Val := M.bind ma fun v => M.bind ml fun lo => M.bind mh fun hi => mOp1 (slD lo hi) v
theorem cut_rep {K : PySem.W.Frag} {w : Wo} {vs : List V} {ds : List D} (r : Reps K w vs ds) (lo hi : Option Int) : Reps K w (cutV vs lo hi) (cutD ds lo hi) := by
  unfold cutV cutD
  rw [r.length]
  exact (r.drop _).take _
abbrev rSl (X : Cx) : V → Option Int → Option Int → Hp → VK → Prop := fun x lo hi H Q => rSlL X.K x lo hi H Q ∨ rSlA X.K x lo hi H Q
theorem sl_ok {w : Wo} {st : DSt} {σ : L2.St} {H : Hp} {x : V} {d : D} {s : Slot} {lo hi : Option Int} {Q : VK} (W : Wd (cn G X) w st σ H) (vx : View X.K w H x d) (q : slD lo hi d = some s) (P : Res X.K (cn G X) w st σ H Q s) : rSl X x lo hi H Q := by
  cases d <;> try (cases q; done)
  case lst ds =>
    cases q
    obtain ⟨p, vs, rfl, h, r⟩ := vx
    exact .inl ⟨p, vs, rfl, SqL.of h, fun p hp => Res.lst P W (cut_rep r lo hi) hp⟩
  case scr ns =>
    cases q
    obtain ⟨p, rfl, h⟩ := vx
    exact .inl ⟨p, _, rfl, h, fun p hp => Res.lst P W (cut_rep (Reps.ints ns) lo hi) hp⟩
  case tup ds =>
    cases q
    obtain ⟨p, vs, rfl, h, r, rr⟩ := vx
    refine .inr ⟨p, vs, rfl, h, fun z => ?_, fun z p hp => Res.tup P W (cut_rep r lo hi) hp⟩
    have e : cutD ds lo hi = ds := by
      rw [r.length] at z
      unfold cutD
      rw [z.1, z.2, Nat.sub_zero, List.drop_zero, List.take_length]
    rw [e] at P
    exact Res.frz P W rr
theorem ge_sl {lo hi : Option Expr} {ml mh : M (Option Int)} {p2 : Pos} (ha : GE G X W a ma) (hl : GO G X W lo ml) (hh : GO G X W hi mh) : GE G X W (.Subscript a (.Slice lo hi none p2) pos) (mSl ma ml mh) :=
  PE_imp (pe_slice (SlR.or sl_list sl_tupA) ha hl hh) fun σ H Q ⟨w, st, W0, P⟩ => tE_bind W0 (.refl _ _ _) P fun x H1 w1 st1 va W1 E1 _ R1 P1 =>
    tO_bind W1 E1 P1 fun lo H2 w2 st2 W2 E2 F2 P2 => tO_bind W2 E2 P2 fun hi H3 w3 st3 W3 E3 F3 P3 => by
      obtain ⟨d, e1, P3⟩ := mGet_ok P3
      obtain ⟨s, e2, P3⟩ := mSlot_ok P3
      exact sl_ok W3 (VRep.view W3 ((R1.keep F2).keep F3) e1) e2 fun w' H' v E W' R => P3 w' H' v (E3.trans E) W' (R.anti E3.dom)
def revD : D → Option Slot
  | .lst ds => some (.own (.lst ds.reverse))
  | _ => none
theorem ge_rev {k : Nat} {p1 p2 p3 : Pos} (ha : GE G X W a ma) : GE G X W (.Subscript a (.Slice none none (some (.UnaryOp .USub (.Constant (.int 1) k p1) p2)) p3) pos) (mUn revD ma) :=
  PE_imp (pe_revL ha) fun σ H Q ⟨w, st, W0, P⟩ => tE_bind W0 (.refl _ _ _) P fun x H1 w1 st1 va W1 E1 _ R1 P1 => by
    obtain ⟨d, e1, P1⟩ := mGet_ok P1
    obtain ⟨s, e2, P1⟩ := mSlot_ok P1
    cases d <;> try (cases e2; done)
    cases e2
    obtain ⟨p, vs, rfl, h, r⟩ := VRep.view W1 R1 e1
    have P2 : Res X.K (cn G X) w1 st1 σ H1 Q (.own (.lst _)) := fun w' H' v E W' R => P1 w' H' v (E1.trans E) W' (R.anti E1.dom)
    exact ⟨p, vs, rfl, SqL.of h, fun p hp => Res.lst P2 W1 r.rev hp⟩
end

/-! ### built-ins -/
section
variable {G : String → Option Addr} {X : Cx} {W : WX} {e a b c : Expr} {ma mb mc me : M Val} {pos : Pos}
theorem Views.one {K : PySem.W.Frag} {w : Wo} {H : Hp} {xs : List V} {d : D} (h : Views K w H xs [d]) : ∃ x, xs = [x] ∧ View K w H x d := by
  cases h with
  | cons a r => cases r; exact ⟨_, rfl, a⟩
theorem Views.two {K : PySem.W.Frag} {w : Wo} {H : Hp} {xs : List V} {d d' : D} (h : Views K w H xs [d, d']) : ∃ x y, xs = [x, y] ∧ View K w H x d ∧ View K w H y d' := by
  cases h with
  | cons a r =>
    obtain ⟨y, rfl, b⟩ := Views.one r
    exact ⟨_, _, rfl, a, b⟩
def lenD : List D → Option Slot
  | [.lst ds] => some (.frz (.int ds.length))
  | [.tup ds] => some (.frz (.int ds.length))
  | [.scr ns] => some (.frz (.int ns.length))
  | [.str z] => if z.length ≤ 16777216 then some (.frz (.int z.length)) else none
  | [.dK kvs] => some (.frz (.int kvs.length))
  | _ => none
abbrev rLen (X : Cx) : List V → Hp → VK → Prop := fun xs H Q => (∃ x n, xs = [x] ∧ LenV X.K x H n ∧ Q (.int n) H) ∨ ∃ a kvs, xs = [V.ref a] ∧ Rd H a (.dK kvs) ∧ Q (.int kvs.length) H
theorem cr_len : CallR X (.builtin "len") (rLen X) := call_len.or fun pins s σ H xs us Q I r ⟨a, kvs, e, ha, q⟩ => by
  subst e
  obtain ⟨u, rfl, ru⟩ := vals1 r
  cases ru
  exact d_len I ha fun t s' I' => ⟨.int kvs.length, H, I', ⟨t, rfl⟩, q⟩
theorem RepK.length {K : PySem.W.Frag} {w : Wo} : ∀ {vs : List (Key × V)} {ds : List (Key × D)}, RepK K w vs ds → vs.length = ds.length
  | _, _, .nil => rfl
  | _, _, .cons _ r => congrArg (· + 1) (RepK.length r)
theorem cs_len : CallS G X (rLen X) lenD := by
  intro w st σ H xs ds s Q W vx e P
  unfold lenD at e
  split at e
  · obtain ⟨x, rfl, v1⟩ := vx.one
    cases e
    obtain ⟨p, vs, rfl, h, r⟩ := v1
    exact .inl ⟨_, vs.length, rfl, Or.inl ⟨vs, SqL.of h, rfl⟩, by rw [r.length]; exact Res.int P W⟩
  · obtain ⟨x, rfl, v1⟩ := vx.one
    cases e
    obtain ⟨p, vs, rfl, h, r, _⟩ := v1
    exact .inl ⟨_, vs.length, rfl, Or.inr ⟨vs, h, rfl⟩, by rw [r.length]; exact Res.int P W⟩
  · obtain ⟨x, rfl, v1⟩ := vx.one
    rename_i ns
    cases e
    obtain ⟨p, rfl, h⟩ := v1
    exact .inl ⟨_, (ns.map V.int).length, rfl, Or.inl ⟨_, h, rfl⟩, by rw [List.length_map]; exact Res.int P W⟩
  · obtain ⟨x, rfl, v1⟩ := vx.one
    rename_i z
    obtain ⟨hz, e⟩ := gi e
    cases e
    have := view_str v1
    subst this
    exact .inl ⟨_, z.length, rfl, ⟨by rw [sizeLine_eq]; exact hz, rfl⟩, Res.int P W⟩
  · obtain ⟨x, rfl, v1⟩ := vx.one
    cases e
    obtain ⟨p, vs, rfl, h, r⟩ := v1
    exact .inr ⟨p, vs, rfl, h, by rw [r.length]; exact Res.int P W⟩
  · cases e
def absD : List D → Option Slot
  | [.int i] => some (.frz (.int (if i < 0 then -i else i)))
  | _ => none
abbrev rAbs : List V → Hp → VK → Prop := fun xs H Q => ∃ i, xs = [.int i] ∧ Q (.int (if i < 0 then -i else i)) H
theorem cr_abs : CallR X (.builtin "abs") rAbs := call_abs
theorem cs_abs : CallS G X rAbs absD := by
  intro w st σ H xs ds s Q W vx e P
  unfold absD at e
  split at e
  · obtain ⟨x, rfl, v1⟩ := vx.one
    cases e
    exact ⟨_, by rw [view_int v1], Res.int P W⟩
  · cases e
/-- max, min: of two, of a list -/
def maxL : List Int → Option Int
  | [] => none
  | [i] => some i
  | i :: r => (maxL r).map fun j => if j > i then j else i
def minL : List Int → Option Int
  | [] => none
  | [i] => some i
  | i :: r => (minL r).map fun j => if j < i then j else i
theorem maxL_ok : ∀ {ns : List Int} {m : Int}, maxL ns = some m → m ∈ ns ∧ ∀ y ∈ ns, y ≤ m
  | [], _, e => by cases e
  | [i], _, e => by
    cases e
    exact ⟨by simp, fun y h => by simp at h; omega⟩
  | i :: k :: r, m, e => by
    unfold maxL at e
    obtain ⟨j, e1, rfl⟩ := om e
    obtain ⟨h1, h2⟩ := maxL_ok e1
    by_cases h : j > i
    · rw [if_pos h]
      exact ⟨List.mem_cons_of_mem _ h1, fun y hy => by
        rcases List.mem_cons.mp hy with rfl | hy
        · omega
        · exact h2 y hy⟩
    · rw [if_neg h]
      exact ⟨List.mem_cons_self, fun y hy => by
        rcases List.mem_cons.mp hy with rfl | hy
        · omega
        · have := h2 y hy; omega⟩
theorem minL_ok : ∀ {ns : List Int} {m : Int}, minL ns = some m → m ∈ ns ∧ ∀ y ∈ ns, m ≤ y
  | [], _, e => by cases e
  | [i], _, e => by
    cases e
    exact ⟨by simp, fun y h => by simp at h; omega⟩
  | i :: k :: r, m, e => by
    unfold minL at e
    obtain ⟨j, e1, rfl⟩ := om e
    obtain ⟨h1, h2⟩ := minL_ok e1
    by_cases h : j < i
    · rw [if_pos h]
      exact ⟨List.mem_cons_of_mem _ h1, fun y hy => by
        rcases List.mem_cons.mp hy with rfl | hy
        · omega
        · exact h2 y hy⟩
    · rw [if_neg h]
      exact ⟨List.mem_cons_self, fun y hy => by
        rcases List.mem_cons.mp hy with rfl | hy
        · omega
        · have := h2 y hy; omega⟩
def maxD : List D → Option Slot
  | [.int i, .int j] => some (.frz (.int (if j > i then j else i)))
  | [.lst ds] => (intsD ds).bind fun ns => (maxL ns).map fun m => .frz (.int m)
  | _ => none
def minD : List D → Option Slot
  | [.int i, .int j] => some (.frz (.int (if j < i then j else i)))
  | [.lst ds] => (intsD ds).bind fun ns => (minL ns).map fun m => .frz (.int m)
  | _ => none
abbrev rMaxs (X : Cx) : List V → Hp → VK → Prop := fun xs H Q => (∃ i j, xs = [.int i, .int j] ∧ Q (.int (if j > i then j else i)) H) ∨ rMax X.K xs H Q
abbrev rMins (X : Cx) : List V → Hp → VK → Prop := fun xs H Q => (∃ i j, xs = [.int i, .int j] ∧ Q (.int (if j < i then j else i)) H) ∨ rMin X.K xs H Q
theorem cr_maxs (hc : X.calm = true) : CallR X (.builtin "max") (rMaxs X) := (call_max2 hc).or (cr_max hc)
theorem cr_mins (hc : X.calm = true) : CallR X (.builtin "min") (rMins X) := (call_min2 hc).or (cr_min hc)
theorem ob {α β : Type} {f : α → Option β} {o : Option α} {s : β} (e : o.bind f = some s) : ∃ a, o = some a ∧ f a = some s := by
  cases o with
  | none => cases e
  | some a => exact ⟨a, rfl, e⟩
theorem cs_max : CallS G X (rMaxs X) maxD := by
  intro w st σ H xs ds s Q W vx e P
  unfold maxD at e
  split at e
  · obtain ⟨x, y, rfl, v1, v2⟩ := vx.two
    cases e
    exact .inl ⟨_, _, by rw [view_int v1, view_int v2], Res.int P W⟩
  · obtain ⟨x, rfl, v1⟩ := vx.one
    obtain ⟨ns, e1, e⟩ := ob e
    obtain ⟨m, e2, rfl⟩ := om e
    obtain ⟨p, vs, rfl, h, r⟩ := v1
    have := ints_v r e1
    subst this
    obtain ⟨h1, h2⟩ := maxL_ok e2
    refine .inr ⟨p, ns, rfl, SqL.of h, List.length_pos_of_mem h1, fun m' h3 h4 => ?_⟩
    have : m' = m := by have a1 := h4 m h1; have a2 := h2 m' h3; omega
    subst this
    exact Res.int P W
  · cases e
theorem cs_min : CallS G X (rMins X) minD := by
  intro w st σ H xs ds s Q W vx e P
  unfold minD at e
  split at e
  · obtain ⟨x, y, rfl, v1, v2⟩ := vx.two
    cases e
    exact .inl ⟨_, _, by rw [view_int v1, view_int v2], Res.int P W⟩
  · obtain ⟨x, rfl, v1⟩ := vx.one
    obtain ⟨ns, e1, e⟩ := ob e
    obtain ⟨m, e2, rfl⟩ := om e
    obtain ⟨p, vs, rfl, h, r⟩ := v1
    have := ints_v r e1
    subst this
    obtain ⟨h1, h2⟩ := minL_ok e2
    refine .inr ⟨p, ns, rfl, SqL.of h, List.length_pos_of_mem h1, fun m' h3 h4 => ?_⟩
    have : m' = m := by have a1 := h4 m h1; have a2 := h2 m' h3; omega
    subst this
    exact Res.int P W
  · cases e
/-- sum, any, all of a list -/
def sumD : List D → Option Slot
  | [.lst ds] => (intsD ds).map fun ns => .frz (.int ns.sum)
  | _ => none
def anyD : List D → Option Slot
  | [.lst ds] => (blsD ds).map fun ns => .frz (.bl (ns.any id))
  | _ => none
def allD : List D → Option Slot
  | [.lst ds] => (blsD ds).map fun ns => .frz (.bl (ns.all id))
  | _ => none
theorem cs_sum : CallS G X (rSum X.K) sumD := by
  intro w st σ H xs ds s Q W vx e P
  unfold sumD at e
  split at e
  · obtain ⟨x, rfl, v1⟩ := vx.one
    obtain ⟨ns, e1, rfl⟩ := om e
    obtain ⟨p, vs, rfl, h, r⟩ := v1
    have := ints_v r e1
    subst this
    exact ⟨p, ns, rfl, SqL.of h, Res.int P W⟩
  · cases e
theorem cs_any : CallS G X (rAny X.K) anyD := by
  intro w st σ H xs ds s Q W vx e P
  unfold anyD at e
  split at e
  · obtain ⟨x, rfl, v1⟩ := vx.one
    obtain ⟨ns, e1, rfl⟩ := om e
    obtain ⟨p, vs, rfl, h, r⟩ := v1
    have := bls_v r e1
    subst this
    exact ⟨p, ns, rfl, SqL.of h, Res.bl P W⟩
  · cases e
theorem cs_all : CallS G X (rAll X.K) allD := by
  intro w st σ H xs ds s Q W vx e P
  unfold allD at e
  split at e
  · obtain ⟨x, rfl, v1⟩ := vx.one
    obtain ⟨ns, e1, rfl⟩ := om e
    obtain ⟨p, vs, rfl, h, r⟩ := v1
    have := bls_v r e1
    subst this
    exact ⟨p, ns, rfl, SqL.of h, Res.bl P W⟩
  · cases e
/-- int(x), x a number or a truth -/
def toIntD : List D → Option Slot
  | [.int i] => some (.frz (.int i))
  | [.bl k] => some (.frz (.int (if k then 1 else 0)))
  | _ => none
abbrev rToInt : List V → Hp → VK → Prop := fun xs H Q => (∃ i, xs = [.int i] ∧ Q (.int i) H) ∨ ∃ k, xs = [.bl k] ∧ Q (.int (if k then 1 else 0)) H
theorem cr_toInt : CallR X (.type "int") rToInt := call_int1
theorem cs_toInt : CallS G X rToInt toIntD := by
  intro w st σ H xs ds s Q W vx e P
  unfold toIntD at e
  split at e
  · obtain ⟨x, rfl, v1⟩ := vx.one
    cases e
    exact .inl ⟨_, by rw [view_int v1], Res.int P W⟩
  · obtain ⟨x, rfl, v1⟩ := vx.one
    cases e
    exact .inr ⟨_, by rw [view_bl v1], Res.int P W⟩
  · cases e
/-- list(x) -/
def toLstD : List D → Option Slot
  | [.lst ds] => some (.own (.lst ds))
  | [.tup ds] => some (.own (.lst ds))
  | [.scr ns] => some (.own (.lst (ns.map .int)))
  | _ => none
abbrev rToLst (X : Cx) : List V → Hp → VK → Prop := fun xs H Q => ∃ p ys, xs = [.ref p] ∧ (SqL X.K H p ys ∨ SqT X.K H p ys) ∧ ∀ l, H l = none → Q (.ref l) (upd H l (.lst ys))
theorem cr_toLst : CallR X (.type "list") (rToLst X) := call_list_of
theorem cs_toLst : CallS G X (rToLst X) toLstD := by
  intro w st σ H xs ds s Q W vx e P
  unfold toLstD at e
  split at e
  · obtain ⟨x, rfl, v1⟩ := vx.one
    cases e
    obtain ⟨p, vs, rfl, h, r⟩ := v1
    exact ⟨p, vs, rfl, .inl (SqL.of h), fun l hl => Res.lst P W r hl⟩
  · obtain ⟨x, rfl, v1⟩ := vx.one
    cases e
    obtain ⟨p, vs, rfl, h, r, _⟩ := v1
    exact ⟨p, vs, rfl, .inr h, fun l hl => Res.lst P W r hl⟩
  · obtain ⟨x, rfl, v1⟩ := vx.one
    cases e
    obtain ⟨p, rfl, h⟩ := v1
    exact ⟨p, _, rfl, .inl h, fun l hl => Res.lst P W (Reps.ints _) hl⟩
  · cases e
/-- tuple(x) -/
def toTupD : List D → Option Slot
  | [.lst ds] => some (.frz (.tup ds))
  | [.tup ds] => some (.frz (.tup ds))
  | _ => none
abbrev rToTup (X : Cx) : List V → Hp → VK → Prop := fun xs H Q => ∃ p ys, xs = [.ref p] ∧ ((SqL X.K H p ys ∧ ∀ l, H l = none → Q (.ref l) (upd H l (.tup ys))) ∨ (SqT X.K H p ys ∧ Q (.ref p) H))
theorem cr_toTup : CallR X (.type "tuple") (rToTup X) := call_tuple_of
theorem cs_toTup : CallS G X (rToTup X) toTupD := by
  intro w st σ H xs ds s Q W vx e P
  unfold toTupD at e
  split at e
  · obtain ⟨x, rfl, v1⟩ := vx.one
    cases e
    obtain ⟨p, vs, rfl, h, r⟩ := v1
    exact ⟨p, vs, rfl, .inl ⟨SqL.of h, fun l hl => Res.tup P W r hl⟩⟩
  · obtain ⟨x, rfl, v1⟩ := vx.one
    cases e
    obtain ⟨p, vs, rfl, h, r, rr⟩ := v1
    exact ⟨p, vs, rfl, .inr ⟨h, Res.frz P W rr⟩⟩
  · cases e
/-- divmod by a positive number below 2 ** 30 -/
def divmodD : List D → Option Slot
  | [.int i, .int j] => if 0 < j ∧ j < 1073741824 then some (.frz (.tup [.int (i / j), .int (i % j)])) else none
  | _ => none
abbrev rDivmod : List V → Hp → VK → Prop := fun xs H Q => ∃ i j, xs = [.int i, .int j] ∧ CDiv i j ∧ ∀ p, H p = none → Q (.ref p) (upd H p (.tup [.int (i / j), .int (i % j)]))
theorem cr_divmod : CallR X (.builtin "divmod") rDivmod := call_divmod
theorem cs_divmod : CallS G X rDivmod divmodD := by
  intro w st σ H xs ds s Q W vx e P
  unfold divmodD at e
  split at e
  · obtain ⟨x, y, rfl, v1, v2⟩ := vx.two
    obtain ⟨hz, e⟩ := gi e
    cases e
    exact ⟨_, _, by rw [view_int v1, view_int v2], hz, fun p hp => Res.tup P W (.cons (.int _) (.cons (.int _) .nil)) hp⟩
  · cases e
/-- sorted(numbers) -/
def sortedD : List D → Option Slot
  | [.lst ds] => (intsD ds).map fun ns => .own (.lst ((ns.mergeSort).map .int))
  | _ => none
theorem cs_sorted : CallS G X (rSortedI X.K) sortedD := by
  intro w st σ H xs ds s Q W vx e P
  unfold sortedD at e
  split at e
  · obtain ⟨x, rfl, v1⟩ := vx.one
    obtain ⟨ns, e1, rfl⟩ := om e
    obtain ⟨p, vs, rfl, h, r⟩ := v1
    have := ints_v r e1
    subst this
    refine ⟨p, ns, rfl, SqL.of h, fun ns' q hp hs hq => ?_⟩
    have : ns' = ns.mergeSort := by
      have h1 : (ns.mergeSort).Pairwise (· ≤ ·) := by
        have := List.pairwise_mergeSort (le := fun a b : Int => decide (a ≤ b)) (fun a b c h1 h2 => by simp at *; omega) (fun a b => by simp; omega) ns
        simpa using this
      exact List.Perm.eq_of_pairwise (fun a b _ _ h1 h2 => Int.le_antisymm h1 h2) hs h1 (hp.trans (List.mergeSort_perm ns _).symm)
    rw [this]
    exact Res.lst P W (Reps.ints _) hq
  · cases e
end
end FB

/-! FBObj: isinstance, repr, in; targets, pairs, op=, append; dicts and the store. -/
namespace FB
open PySem PySem.Spec PyProof.Rows L2

/-! ### isinstance of data -/
def tyN : D → Option String
  | .non => some "NoneType"
  | .bl _ => some "bool"
  | .int _ => some "int"
  | .str _ => some "str"
  | .lst _ => some "list"
  | .scr _ => some "list"
  | .tup _ => some "tuple"
  | .dK _ => some "dict"
  | _ => none
def isiT (t T : String) : Bool := t == T || (t == "bool" && T == "int")
def kinds : List String := ["NoneType", "bool", "int", "str", "list", "tuple", "dict"]
def kinds2 : List String := ["bool", "int", "str", "list", "tuple", "dict", "ValueError", "LookupError", "RuntimeError", "ArithmeticError", "KeyError", "IndexError"]
theorem kitB_all : ∀ t ∈ kinds, ∀ T ∈ kinds2, kitB t T = some (isiT t T) := by decide +kernel
section
variable {G : String → Option Addr} {X : Cx} {W : WX} {e a b c : Expr} {ma mb mc me : M Val} {pos : Pos}
theorem tyN_ok {n : Cn} {w : Wo} {so : Sto} {H : Hp} (W : WdS n w so H) {x : V} {d : D} {t : String} (v : View n.K w H x d) (e : tyN d = some t) : TyX n.K H x (.type t) ∧ t ∈ kinds := by
  cases d <;> try (cases e; done)
  case non => cases e; rw [view_non v]; exact ⟨.base .non, by decide⟩
  case bl b => cases e; rw [view_bl v]; exact ⟨.base (.bl b), by decide⟩
  case int b => cases e; rw [view_int v]; exact ⟨.base (.int b), by decide⟩
  case str b => cases e; rw [view_str v]; exact ⟨.base (.str b), by decide⟩
  case lst ds =>
    cases e
    obtain ⟨p, vs, rfl, h, r⟩ := v
    exact ⟨.base (.lst h), by decide⟩
  case scr ds =>
    cases e
    obtain ⟨p, rfl, h⟩ := v
    refine ⟨?_, by decide⟩
    rcases h with (h | ⟨o, h⟩) | ⟨o, its, n, h, hc, _⟩
    · exact .base (.lst h)
    · exact .base (.frz h)
    · exact .kList h hc
  case tup ds =>
    cases e
    obtain ⟨p, vs, rfl, h, r, _⟩ := v
    refine ⟨?_, by decide⟩
    rcases h with (h | ⟨o, h⟩) | ⟨o, its, n, h, hc, _⟩
    · exact .base (.tup h)
    · exact .fTuple h
    · exact .kTuple h hc
  case dK ds =>
    cases e
    obtain ⟨p, vs, rfl, h | ⟨o, h⟩, r⟩ := v
    · exact ⟨.base (.dK h), by decide⟩
    · exact ⟨.fDict h, by decide⟩
def isiD : List D → Option Slot
  | [d, .ty T] => match tyN d with
    | some t => if T ∈ kinds2 then some (.frz (.bl (isiT t T))) else none
    | none => none
  | _ => none
theorem cr_isi : CallR X (.builtin "isinstance") (rIsi X.K) := call_isi
theorem cs_isi : CallS G X (rIsi X.K) isiD := by
  intro w st σ H xs ds s Q W vx e P
  unfold isiD at e
  split at e
  · obtain ⟨x, y, rfl, v1, v2⟩ := vx.two
    split at e
    · rename_i t e1
      obtain ⟨hz, e⟩ := gi e
      cases e
      obtain ⟨ty, hk⟩ := tyN_ok W.toWdS v1 e1
      have r2 : Rep X.K w y (.ty _) := v2
      cases r2
      exact ⟨x, _, _, _, _, rfl, .ty _, ty, kit_ty (kitB_all _ hk _ hz), Res.bl P W⟩
    · cases e
  · cases e
/-- a built-in class by its name -/
theorem ge_ty {x : Str} {T : String} (hg : Gl X x) (hm : X.mg x = none) (hv : bootBuiltins x = some (.type T)) (hn : x ≠ "__name__" := by decide) (hdb : (x == ("__debug__" : Str)) = false := by decide) : GE G X W (.Name x pos) (mC (.ty T)) :=
  ge_const (pe_bltn (v := .ty T) hg hm hv rfl hn hdb) fun _ => .ty T
/-- isinstance(e, (T1, T2, ..)) -/
def mIsiT (ma : M Val) (Ts : List String) : M Val := M.bind ma fun v => M.bind (mGet v) fun d => match tyN d with
  | some t => if (∀ T ∈ Ts, T ∈ kinds2) ∧ Ts.length ≤ 100 then M.pure (.frz (.bl (Ts.any fun T => isiT t T))) else fun _ => none
  | none => fun _ => none
def tTys : List String → TA
  | [] => tNil
  | T :: r => tCons (tC (.ty T)) (tTys r)
theorem kitAny_all {K : PySem.W.Frag} {t : String} (hk : t ∈ kinds) : ∀ {Ts : List String}, (∀ T ∈ Ts, T ∈ kinds2) → PySem.W.kitAny K (.type t) (Ts.map Value.type) = some (Ts.any fun T => isiT t T)
  | [], _ => kitAny_nil
  | T :: r, h => by
    have h1 : PySem.W.kitOne K (.type t) (.type T) = some (isiT t T) := kit_ty (kitB_all _ hk _ (h T List.mem_cons_self))
    refine kitAny_cons h1 (fun z => ?_) fun z => ?_
    · rw [kitAny_all hk fun T' h' => h T' (List.mem_cons_of_mem _ h')]
      rw [List.any_cons, z, Bool.false_or]
    · rw [List.any_cons, z, Bool.true_or]
theorem clsV_all : ∀ Ts : List String, Paired ClsV (Ts.map V.ty) (Ts.map Value.type)
  | [] => .nil
  | T :: r => .cons (.ty T) (clsV_all r)
theorem tTys_ok {σ : L2.St} {H : Hp} : ∀ {Ts : List String} {Q : List V → Hp → Prop}, Q (Ts.map V.ty) H → tTys Ts σ H Q
  | [], _, h => h
  | T :: r, Q, h => tTys_ok (Ts := r) (Q := fun vs H' => Q (V.ty T :: vs) H') h
theorem ge_isiT {Ts : List String} {es : List Expr} {x : Str} {p p2 : Pos} {kk : Nat} (hg : Gl X x) (hm : X.mg x = none) (hv : bootBuiltins x = some (.builtin "isinstance")) (ha : GE G X W a ma) (ht : PA X es (tTys Ts)) (hn : x ≠ "__name__" := by decide) (hdb : (x == ("__debug__" : Str)) = false := by decide)
    (he : starEach [a, .Tuple es kk p2] X.env = (false, eval a X.env) :: starEach [.Tuple es kk p2] X.env := by rfl) (he2 : starEach [.Tuple es kk p2] X.env = (false, eval (.Tuple es kk p2) X.env) :: starEach [] X.env := by rfl)
    (hpl : (backTo pos (starEach [.Tuple es kk p2] X.env)).any (·.1) = false := by rfl) :
    GE G X W (.Call (.Name x p) [a, .Tuple es kk p2] [] pos) (mIsiT ma Ts) :=
  PE_imp (pe_callB call_isiT hg hm hv (pa_cons ha (pa_cons (pe_tup ht) pa_nil he2) he) hn hdb he hpl) fun σ H Q ⟨w, st, W0, P⟩ => tE_bind W0 (.refl _ _ _) P fun x H1 w1 st1 va W1 E1 _ R1 P1 => by
    obtain ⟨d, e1, P1⟩ := mGet_ok P1
    cases et : tyN d with
    | none => rw [et] at P1; exact P1.elim
    | some t =>
      rw [et] at P1
      dsimp only at P1
      by_cases hz : (∀ T ∈ Ts, T ∈ kinds2) ∧ Ts.length ≤ 100
      · rw [if_pos hz] at P1
        refine tTys_ok ⟨by rw [List.length_map, sizeLine_eq]; omega, fun p hp => ?_⟩
        have v1 := VRep.view W1 R1 e1
        obtain ⟨ty, hk⟩ := tyN_ok W1.toWdS v1 et
        have W2 := W1.alloc (o := .tup (Ts.map V.ty)) hp
        have v2 : View X.K w1 (upd H1 p (.tup (Ts.map V.ty))) x d := VRep.view W2 (R1.keep (Ev.alloc hp)) e1
        obtain ⟨ty2, _⟩ := tyN_ok W2.toWdS v2 et
        exact ⟨x, p, Ts.map V.ty, _, Ts.map Value.type, _, rfl, upd_same, clsV_all Ts, ty2, kitAny_all hk hz.1, P1 w1 _ _ (E1.trans (.alloc hp)) W2 (.bl _)⟩
      · rw [if_neg hz] at P1
        exact P1.elim

/-! ### repr -/
def reprD : List D → Option Slot
  | [d] => match toP d with
    | some p => if p.showable = true ∧ p.shown.length ≤ 16777216 ∧ p.depth ≤ 60 then some (.frz (.str p.shown)) else none
    | none => none
  | _ => none
def rRepr (K : PySem.W.Frag) : List V → Hp → VK → Prop := fun xs H Q => ∃ x p, xs = [x] ∧ Dp K H x p ∧ p.showable = true ∧ p.hasDict = false ∧ p.shown.length ≤ sizeLine ∧ p.depth ≤ 60 ∧ Q (.str p.shown) H
theorem cr_repr {k : Nat} (g : X.A.guards = some []) (hr : Room k X.A) : CallR X (.builtin "repr") (rRepr X.K) := by
  intro pins s σ H xs us Q I r h
  obtain ⟨x, p, rfl, hp, hs, hd, hz, hdp, q⟩ := h
  obtain ⟨u, rfl, ru⟩ := vals1 r
  obtain ⟨as, rd⟩ := Dp.reads I p x u hp ru
  have hu : X.A.units + (p.depth + 1) < cLine := by have := hr.un; omega
  cases hp with
  | non =>
    cases ru
    exact PySem.P.repr_of_none ⟨.str _, H, I.tok _, ⟨_, rfl⟩, q⟩
  | bl b =>
    cases ru
    exact PySem.P.repr_of_bool ⟨.str _, H, I.tok _, ⟨_, rfl⟩, q⟩
  | int i =>
    obtain ⟨t, rfl⟩ := ru
    exact PySem.P.repr_of_int (by simpa [PyData.showable] using hs) ⟨.str _, H, I.tok _, ⟨_, rfl⟩, q⟩
  | str z =>
    obtain ⟨t, rfl⟩ := ru
    exact PySem.P.repr_of_str ⟨.str _, H, I.tok _, ⟨_, rfl⟩, q⟩ hz
  | lst h1 h2 =>
    cases ru
    exact repr_of_reads' rd hs (fun z => by rw [hd] at z; cases z) g hu (fun _ _ z => z) (fun h' u tk hk => ⟨.str _, H, I.kept (h' := h') (t' := tk) hk, ⟨_, rfl⟩, q⟩) hz
  | tup h1 h2 =>
    cases ru
    exact repr_of_reads' rd hs (fun z => by rw [hd] at z; cases z) g hu (fun _ _ z => z) (fun h' u tk hk => ⟨.str _, H, I.kept (h' := h') (t' := tk) hk, ⟨_, rfl⟩, q⟩) hz
mutual
theorem toP_noDict : ∀ {d : D} {p : PyData}, toP d = some p → p.hasDict = false
  | .non, _, e => by cases e; rfl
  | .bl _, _, e => by cases e; rfl
  | .int _, _, e => by cases e; rfl
  | .str _, _, e => by cases e; rfl
  | .lst ds, _, e => by
    unfold toP at e
    obtain ⟨ps, e1, rfl⟩ := om e
    simp only [PyData.hasDict]
    exact toPs_noDict e1
  | .tup ds, _, e => by
    unfold toP at e
    obtain ⟨ps, e1, rfl⟩ := om e
    simp only [PyData.hasDict]
    exact toPs_noDict e1
  | .scr ns, _, e => by
    cases e
    simp only [PyData.hasDict]
    exact ints_noDict ns
  | .dK _, _, e => by cases e
  | .dT _, _, e => by cases e
  | .obj _, _, e => by cases e
  | .ty _, _, e => by cases e
  | .exv _ _, _, e => by cases e
theorem toPs_noDict : ∀ {d : List D} {p : List PyData}, toPs d = some p → PyData.hasDictAll p = false
  | [], _, e => by cases e; rfl
  | d :: ds, _, e => by
    unfold toPs at e
    split at e
    · rename_i p ps e1 e2
      cases e
      simp only [PyData.hasDictAll, toP_noDict e1, toPs_noDict e2, Bool.or_self]
    · cases e
theorem ints_noDict : ∀ ns : List Int, PyData.hasDictAll (ns.map PyData.int) = false
  | [] => rfl
  | n :: ns => by
    simp only [List.map_cons, PyData.hasDictAll, PyData.hasDict, Bool.false_or]
    exact ints_noDict ns
end
theorem cs_repr : CallS G X (rRepr X.K) reprD := by
  intro w st σ H xs ds s Q W vx e P
  unfold reprD at e
  split at e
  · obtain ⟨x, rfl, v1⟩ := vx.one
    split at e
    · rename_i p e1
      obtain ⟨⟨h1, h2, h3⟩, e⟩ := gi e
      cases e
      exact ⟨x, p, rfl, view_dp W.toWdS v1 e1, h1, toP_noDict e1, by rw [sizeLine_eq]; exact h2, h3, Res.str P W⟩
    · cases e
  · cases e
end
end FB

/-! FBSt2: x in s; targets, pairs, op=, append; dicts and the store. -/
namespace FB
open PySem PySem.Spec PyProof.Rows L2
section
variable {G : String → Option Addr} {X : Cx} {W : WX} {e a b c o : Expr} {es : List Expr} {ma mb mc me : M Val} {mas : M (List Val)} {pos : Pos} {Z : Ends} {t : Tg} {w w0 : Wo} {st st0 : DSt} {σ σ0 : L2.St} {H H0 : Hp}
/-! ### in -/
def flatD : D → Bool
  | .non => true
  | .bl _ => true
  | .int _ => true
  | .str _ => true
  | _ => false
def vOf : D → V
  | .bl b => .bl b
  | .int i => .int i
  | .str x => .str x
  | _ => .non
theorem flat_v {K : PySem.W.Frag} {w : Wo} {v : V} {d : D} (h : flatD d = true) (r : Rep K w v d) : v = vOf d ∧ flatV v = true := by
  cases r <;> first | exact ⟨rfl, rfl⟩ | cases h
theorem flats_v {K : PySem.W.Frag} {w : Wo} : ∀ {vs : List V} {ds : List D}, Reps K w vs ds → ds.all flatD = true → vs = ds.map vOf ∧ vs.all flatV = true
  | _, _, .nil, _ => ⟨rfl, rfl⟩
  | _, _, .cons a r, h => by
    rw [List.all_cons, Bool.and_eq_true] at h
    obtain ⟨h1, h2⟩ := flat_v h.1 a
    obtain ⟨h3, h4⟩ := flats_v r h.2
    exact ⟨by rw [List.map_cons, ← h1, ← h3], by rw [List.all_cons, h2, h4]; rfl⟩
/-- is it in a list or tuple of flat things -/
def inB? : D → D → Option Bool
  | d, .lst ds => if flatD d = true ∧ ds.all flatD = true then some (inV (vOf d) (ds.map vOf)) else none
  | d, .tup ds => if flatD d = true ∧ ds.all flatD = true then some (inV (vOf d) (ds.map vOf)) else none
  | _, _ => none
def inD (d e : D) : Option Slot := (inB? d e).map fun b => .frz (.bl b)
def notInD (d e : D) : Option Slot := (inB? d e).map fun b => .frz (.bl (!b))
theorem view_flat {K : PySem.W.Frag} {w : Wo} {H : Hp} {v : V} {d : D} (h : flatD d = true) (r : View K w H v d) : v = vOf d ∧ flatV v = true := by
  cases d <;> first | (cases h; done) | skip
  case non => rw [view_non r]; exact ⟨rfl, rfl⟩
  case bl => rw [view_bl r]; exact ⟨rfl, rfl⟩
  case int => rw [view_int r]; exact ⟨rfl, rfl⟩
  case str => rw [view_str r]; exact ⟨rfl, rfl⟩
theorem in_ok {K : PySem.W.Frag} {w : Wo} {H : Hp} {x y : V} {d1 d2 : D} {b : Bool} (vx : View K w H x d1) (vy : View K w H y d2) (e : inB? d1 d2 = some b) : ∃ p xs, y = .ref p ∧ (SqL K H p xs ∨ SqT K H p xs) ∧ flatV x = true ∧ xs.all flatV = true ∧ inV x xs = b := by
  unfold inB? at e
  split at e
  · obtain ⟨⟨h1, h2⟩, e⟩ := gi e
    cases e
    obtain ⟨p, vs, rfl, h, r⟩ := vy
    obtain ⟨e1, f1⟩ := view_flat h1 vx
    obtain ⟨e2, f2⟩ := flats_v r h2
    exact ⟨p, vs, rfl, .inl (SqL.of h), f1, f2, by rw [e1, e2]⟩
  · obtain ⟨⟨h1, h2⟩, e⟩ := gi e
    cases e
    obtain ⟨p, vs, rfl, h, r, _⟩ := vy
    obtain ⟨e1, f1⟩ := view_flat h1 vx
    obtain ⟨e2, f2⟩ := flats_v r h2
    exact ⟨p, vs, rfl, .inr h, f1, f2, by rw [e1, e2]⟩
  · cases e
theorem or_in : OpR X (compareOp .In) (rIn X.K false) := op_in_seq
theorem or_notIn : OpR X (compareOp .NotIn) (rIn X.K true) := op_notIn_seq
theorem os_in : OpS G X (rIn X.K false) inD := by
  intro w st σ H x y d1 d2 s Q W vx vy e P
  obtain ⟨b, e1, rfl⟩ := om e
  obtain ⟨p, xs, h1, h2, h3, h4, h5⟩ := in_ok vx vy e1
  exact ⟨p, xs, h1, h2, h3, h4, by
    rw [h5]
    exact Res.bl P W⟩
theorem os_notIn : OpS G X (rIn X.K true) notInD := by
  intro w st σ H x y d1 d2 s Q W vx vy e P
  obtain ⟨b, e1, rfl⟩ := om e
  obtain ⟨p, xs, h1, h2, h3, h4, h5⟩ := in_ok vx vy e1
  exact ⟨p, xs, h1, h2, h3, h4, by
    rw [h5]
    exact Res.bl P W⟩

/-! ### target = value -/
def sAsg (t : Tg) (m : M Val) : MS := M.toS m fun v => M.toS (mFrz v) fun d st => (t d st).map .nx
theorem gs_asg {tg : Expr} {S : List Nat} (he : GE G X W e me) (hg : GG G X tg S t) (hs : swapsWithSole [tg] e pos.line X.env = pure false := by rfl) (hw : swappedStores [tg] e X.env = pure none := by rfl)
    (h1 : (assignEach [tg] X.env).map (·.2) = [assign tg X.env] := by rfl) : GS G X W (.Assign [tg] e pos) (sAsg t me) :=
  PS_imp (ps_asg he hg hs hw h1) fun Z σ H ⟨w, st, W0, P⟩ => tE_toS W0 (.refl _ _ _) P fun v H1 w1 st1 x W1 E1 R1 P1 => by
    obtain ⟨d, st2, e2, P2⟩ := mFrz_toS P1
    obtain ⟨w2, F, r⟩ := frz_ok W1 E1 (VRep.F R1) e2
    cases e3 : t d st2 with
    | none => rw [e3] at P2; exact P2.elim
    | some st3 =>
      rw [e3] at P2
      exact ⟨w2, st2, d, st3, F.wd, r, e3, fun σ' _ m1 W3 => P2 w2 σ' H1 (F.ev.to m1) W3⟩

/-! ### a, b = x, y -/
def mFix : Val → M Val
  | .own d => M.pure (.own d)
  | v => M.bind (mFrz v) fun d => M.pure (.frz d)
def sPar (i j : Nat) (m : M (List Val)) : MS := M.toS m fun vs => match vs with
  | [x, y] => M.toS (mFix x) fun x' => M.toS (mFix y) fun y' => sSeq (sPut i x') (sPut j y')
  | _ => fun _ => none
theorem fix_ok {n : Cn} {v : V} {x x' : Val} {st' : DSt} {Hx : Hp} (W1 : Wd n w st σ H) (R : VRep n.K Hx w st σ H v x) (e : mFix x st = some (.ok x' st')) :
    ∃ w', Wd n w' st' σ H ∧ Ev (Mu st σ) w H (Mu st' σ) w' H ∧ VRep n.K Hx w' st' σ H v x' ∧ ((∃ d, x = .own d ∧ x' = .own d) ∨ ∃ d, x' = .frz d) := by
  cases x with
  | own d =>
    cases e
    exact ⟨w, W1, .refl _ _ _, R, .inl ⟨d, rfl, rfl⟩⟩
  | frz d =>
    have e : M.bind (mFrz (.frz d)) (fun d => M.pure (Val.frz d)) st = some (.ok x' st') := e
    cases e
    exact ⟨w, W1, .refl _ _ _, R, .inr ⟨d, rfl⟩⟩
  | vr i =>
    have e : M.bind (mFrz (.vr i)) (fun d => M.pure (Val.frz d)) st = some (.ok x' st') := e
    unfold M.bind at e
    cases q : mFrz (.vr i) st with
    | none => rw [q] at e; cases e
    | some r =>
      rw [q] at e
      cases r with
      | exc => cases e
      | ok d s =>
        cases e
        obtain ⟨w1, F, r⟩ := frz_ok (H0 := H) (x := .vr i) W1 (.refl _ _ _) R q
        exact ⟨w1, F.wd, F.ev, r, .inr ⟨d, rfl⟩⟩
theorem mFix_toS {x : Val} {f : Val → MS} {DD : Ends} (h : PostS (cn G X) W w0 st0 σ0 H0 DD (M.toS (mFix x) f st)) : ∃ x' st', mFix x st = some (.ok x' st') ∧ PostS (cn G X) W w0 st0 σ0 H0 DD (f x' st') := by
  unfold M.toS at h
  cases e : mFix x st with
  | none => rw [e] at h; exact h.elim
  | some r =>
    rw [e] at h
    cases r with
    | ok x' st' => exact ⟨x', st', rfl, h⟩
    | exc c fs st' =>
      exfalso
      cases x with
      | own d => cases e
      | frz d => cases e
      | vr i =>
        have e : M.bind (mFrz (.vr i)) (fun d => M.pure (Val.frz d)) st = some (.exc c fs st') := e
        unfold M.bind at e
        cases q : mFrz (.vr i) st with
        | none => rw [q] at e; cases e
        | some r =>
          obtain ⟨d, s, rfl⟩ := mFrz_some q
          rw [q] at e
          cases e
theorem sPut_fix {i : Nat} {x' : Val} {s : DSt} (h : (∃ d, x' = .own d) ∨ ∃ d, x' = .frz d) : ∃ sl, sPut i x' s = some (.nx (s.put i (some sl))) ∧ ((∃ d, x' = .own d ∧ sl = .own d) ∨ ∃ d, x' = .frz d ∧ sl = .frz d) := by
  rcases h with ⟨d, rfl⟩ | ⟨d, rfl⟩
  · exact ⟨.own d, rfl, .inl ⟨d, rfl, rfl⟩⟩
  · exact ⟨.frz d, rfl, .inr ⟨d, rfl, rfl⟩⟩
theorem gs_par {i j : Nat} {x y : Str} {px py pt : Pos} {kt k2 pt2} (hc : X.calm = true) (hN : X.N.Nodup) (hi : X.N[i]? = some x) (hj : X.N[j]? = some y) (hij : i ≠ j)
    (hx : X.env.scope.names.lookup x = some .local) (hy : X.env.scope.names.lookup y = some .local) (ha : GA G X W [a, b] mas)
    (hw : swappedStores [.Tuple [.Name x px, .Name y py] kt pt] (.Tuple [a, b] k2 pt2) X.env = pure (some [x, y]))
    (hs : swapsWithSole [.Tuple [.Name x px, .Name y py] kt pt] (.Tuple [a, b] k2 pt2) pos.line X.env = pure false := by rfl) :
    GS G X W (.Assign [.Tuple [.Name x px, .Name y py] kt pt] (.Tuple [a, b] k2 pt2) pos) (sPar i j mas) :=
  PS_imp (ps_par hc hN hi hj hij hx hy ha hw hs) fun Z σ H ⟨w, st, W0, P⟩ => tA_toS W0 (.refl _ _ _) P fun vs H1 w1 st1 xs W1 E1 R1 P1 => by
    obtain ⟨ps, ds⟩ := R1
    cases ps with
    | nil => exact P1.elim
    | @cons v x vs xs r1 ps =>
    cases ps with
    | nil => exact P1.elim
    | @cons u y vs xs r2 ps =>
    cases ps with
    | cons r3 ps => exact P1.elim
    | nil =>
    refine ⟨v, u, rfl, ?_⟩
    obtain ⟨x', st2, e2, P2⟩ := mFix_toS P1
    obtain ⟨y', st3, e3, P3⟩ := mFix_toS P2
    obtain ⟨w2, W2, F2, q1, z1⟩ := fix_ok W1 r1 e2
    obtain ⟨w3, W3, F3, q2, z2⟩ := fix_ok W2 (r2.keep F2) e3
    have q1' := q1.keep F3
    have E3 := (E1.trans F2).trans F3
    have nd : ∀ d d' p, x' = .own d → y' = .own d' → v = .ref p → u = .ref p → False := fun d d' p e1 e2 e3 e4 => by
      subst e3 e4
      rcases z1 with ⟨_, a1, _⟩ | ⟨_, a1⟩
      · rcases z2 with ⟨_, a2, _⟩ | ⟨_, a2⟩
        · subst a1 a2
          exact ds 0 1 _ _ p (by omega) rfl rfl rfl rfl
        · rw [e2] at a2; cases a2
      · rw [e1] at a1; cases a1
    -- the two stores
    have second : ∀ {st4 : DSt} {σ4 : L2.St}, Wd (cn G X) w3 st4 σ4 H1 → Ev (Mu st σ) w H (Mu st4 σ4) w3 H1 → VRep X.K H w3 st4 σ4 H1 u y' → PostS (cn G X) W w st σ H Z (sPut j y' st4) → Z.nx (σ4.set j (some u)) H1 :=
      fun W4 E4 R4 P4 => put_ok W4 E4 (fun _ h => h) R4 P4
    rcases z1 with ⟨d, _, rfl⟩ | ⟨d, rfl⟩
    · obtain ⟨p, ev, h0, hf, ho, hm, rr⟩ := q1'
      subst ev
      refine second (W3.put_own (i := i) hf ho hm rr) (E3.put_own h0) ?_ P3
      rcases z2 with ⟨d', _, rfl⟩ | ⟨d', rfl⟩
      · obtain ⟨p', ev', h0', hf', ho', hm', rr'⟩ := q2
        refine ⟨p', ev', h0', hf', ho', fun z => ?_, rr'⟩
        rcases z.put_own with z | z
        · subst z
          exact nd _ _ _ rfl rfl rfl ev'
        · exact hm' z
      · exact q2
    · refine second (W3.put_frz (i := i) q1') E3.put_frz ?_ P3
      rcases z2 with ⟨d', _, rfl⟩ | ⟨d', rfl⟩
      · obtain ⟨p', ev', h0', hf', ho', hm', rr'⟩ := q2
        exact ⟨p', ev', h0', hf', ho', fun z => hm' z.put_frz, rr'⟩
      · exact q2

/-! ### name op= e -/
def sAug (i : Nat) (f : D → D → Option Slot) (m : M Val) : MS := fun st => match st.slot i with
  | some (.frz _) => M.toS (M.bind m fun y => mOp2 f (.vr i) y) (sPut i) st
  | _ => none
theorem gs_aug {i : Nat} {x : Str} {op : Operator} {r : R2} {f : D → D → Option Slot} {pos' : Pos} (hN : X.N.Nodup) (hi : X.N[i]? = some x) (hx : Loc X.env.scope x) (ho : OpR X (inplaceOp op) r) (hs : OpS G X r f) (he : GE G X W e me)
    (hf : X.fn x = true ∨ X.env.scope.names.lookup x = some .local := by first | exact .inl rfl | exact .inr rfl | assumption) : GS G X W (.AugAssign (.Name x pos') op e pos) (sAug i f me) :=
  PS_imp (ps_aug hN hi hx he ho hf) fun Z σ H ⟨w, st, W0, P⟩ => by
    unfold sAug at P
    split at P
    · rename_i d es
      obtain ⟨v, ev, rv⟩ := W0.frz i d es
      refine ⟨v, ev, ?_⟩
      have P0 : PostS (cn G X) W w st σ H Z (M.toS me (fun y => M.toS (mOp2 f (.vr i) y) (sPut i)) st) := by
        have : M.toS (M.bind me fun y => mOp2 f (.vr i) y) (sPut i) st = M.toS me (fun y => M.toS (mOp2 f (.vr i) y) (sPut i)) st := by
          simp only [M.toS, M.bind]
          cases me st with
          | none => rfl
          | some q => cases q <;> rfl
        rw [this] at P
        exact P
      refine tE_toS W0 (.refl _ _ _) P0 fun y H1 w1 st1 b W1 E1 R1 P1 => ?_
      have P2 := PostS.bind (VRa := VRep X.K) E1 P1
      refine op2_ok hs W1 (.refl _ _ _) (va := .vr i) (Ha := H) (show σ[i]? = some (some v) from ev) R1 (P2.imp fun z H2 ⟨w2, st2, x, W2, E2, R2, P3⟩ => ?_)
      exact put_ok W2 (E1.trans E2) (fun a h => E1.dom a h) R2 P3
    · exact P.elim

/-! ### xs.append(e) -/
def sApp (i : Nat) (m : M Val) : MS := fun st => match st.slot i with
  | some (.own (.lst _)) => M.toS m (fun v => M.toS (mFrz v) fun d st => match st.slot i with
    | some (.own (.lst ds)) => if ds.length < 16777216 then some (.nx (st.put i (some (.own (.lst (ds ++ [d])))))) else none
    | _ => none) st
  | _ => none
/-- what is a slot's own is written -/
theorem poke_slot {n : Cn} {i : Nat} {p : Addr} {d0 d : D} {o : HO} (W : Wd n w st σ H) (es : st.slot i = some (.own d0)) (ev : σ[i]? = some (some (.ref p))) (r : ORep n.K w (upd H p o) p d) :
    Wd n w (st.put i (some (.own d))) σ (upd H p o) ∧ Ev (Mu st σ) w H (Mu (st.put i (some (.own d))) σ) w (upd H p o) := by
  obtain ⟨p', e', hf, ho, r0⟩ := W.ownS i d0 es
  have z : p = p' := by simpa using ev.symm.trans e'
  subst z
  have il := slot_lt es
  have hp : H p ≠ none := r0.ne
  have mup : Mu st σ p := ⟨i, d0, es, ev⟩
  have mu : ∀ a, Mu (st.put i (some (.own d))) σ a → Mu st σ a := fun a ⟨j, d', h1, h2⟩ => by
    rw [slot_put] at h1
    by_cases hj : j = i
    · subst hj
      exact ⟨j, d0, es, h2⟩
    · rw [if_neg hj] at h1
      exact ⟨j, d', h1, h2⟩
  have others : ∀ a, a ≠ p → upd H p o a = H a := fun a h => upd_ne h
  refine ⟨⟨⟨fun a u h => ?_, fun a k h => ⟨(W.own a k h).1, upd_dom a (W.own a k h).2⟩, fun k ob h => (W.sto k ob h).frame (.refl w) fun a ha => ⟨others a fun z => ?_, ha⟩, W.rb, fun a c d' h => ?_⟩, by rw [put_len]; exact W.len, fun j d' h => ?_, fun j d' h => ?_, fun j k d' e' q h1 h2 h3 h4 => ?_⟩, ⟨fun a u h1 h2 h3 => ⟨(others a fun z => h3 (z ▸ mup)).trans h1, rfl, h2⟩, .refl w, fun a h => .inl (mu a h), upd_dom⟩⟩
  · rw [others a fun z => by rw [z, hf] at h; cases h]
    exact W.sub a u h
  · rw [z, ho] at ha
    cases ha
  · obtain ⟨C, g, q⟩ := W.exs a c d' h
    refine ⟨C, g, q.imp (fun q => ⟨?_, q.2⟩) id⟩
    rw [others a fun z => ?_]
    · exact q.1
    · have := q.2
      rw [z, hf] at this
      cases this
  · rw [slot_put] at h
    by_cases hj : j = i
    · rw [if_pos hj, if_pos il] at h
      cases h
    · rw [if_neg hj] at h
      exact W.frz j d' h
  · rw [slot_put] at h
    by_cases hj : j = i
    · rw [if_pos hj, if_pos il] at h
      cases h
      rw [hj]
      exact ⟨p, ev, hf, ho, r⟩
    · rw [if_neg hj] at h
      obtain ⟨q, f1, f2, f3, f4⟩ := W.ownS j d' h
      exact ⟨q, f1, f2, f3, f4.mono (.refl w) (others q fun z => hj (W.dis j i d' d0 q h es f1 (z ▸ ev)))⟩
  · have back : ∀ {j : Nat} {d' : D}, (st.put i (some (.own d))).slot j = some (.own d') → ∃ d'', st.slot j = some (.own d'') := fun {j d'} h => by
      rw [slot_put] at h
      by_cases hj : j = i
      · rw [hj]; exact ⟨d0, es⟩
      · rw [if_neg hj] at h; exact ⟨d', h⟩
    obtain ⟨_, b1⟩ := back h1
    obtain ⟨_, b2⟩ := back h2
    exact W.dis j k _ _ q b1 b2 h3 h4
theorem own_lst {n : Cn} {i : Nat} {ds : List D} (W : Wd n w st σ H) (h : st.slot i = some (.own (.lst ds))) : ∃ p vs, σ[i]? = some (some (.ref p)) ∧ H p = some (.lst vs) ∧ Reps n.K w vs ds := by
  obtain ⟨p, e, _, _, vs, r⟩ := W.ownS i _ h
  exact ⟨p, vs, e, r⟩
theorem gs_app {i : Nat} {apos cpos : Pos} (ho : PE X o (tVar i)) (he : GE G X W e me) (hbase : attributeBase o "append" X.env (eval o X.env) = eval o X.env := by rfl)
    (hfew : ((backTo cpos (starEach [e] X.env)).all (fun x => !x.1) && (backToKw cpos (keywordEach [] X.env)).all (fun x => x.1.isSome) && decide (([e] : List Expr).length + ([] : List Keyword).length + (if ([] : List Keyword).isEmpty then 0 else 1) < 30)) = true := by rfl)
    (hline : (apos.endLine == cpos.line) = true := by rfl) (hs : starEach [e] X.env = (false, eval e X.env) :: starEach [] X.env := by rfl) (hplain : (backTo cpos (starEach [] X.env)).any (·.1) = false := by rfl)
    (hw : swapsWith (.Call (.Attribute o "append" apos) [e] [] cpos) none pos.line X.env = pure false := by rfl) :
    GS G X W (.Expr (.Call (.Attribute o "append" apos) [e] [] cpos) pos) (sApp i me) :=
  PS_imp (ps_expr (pe_bm PySem.F.plainAttrs_list PySem.F.slot_list_append PySem.F.type_list_append mt_append ho (pa_cons he pa_nil hs) hbase hfew hline hs hplain) hw) fun Z σ H ⟨w, st, W0, P⟩ => by
    unfold sApp at P
    split at P
    · rename_i ds0 es
      obtain ⟨p, vs0, ev, hp, r0⟩ := own_lst W0 es
      refine ⟨.ref p, ev, .inl ⟨rfl, vs0, SqL.of hp⟩, ?_⟩
      refine tE_toS W0 (.refl _ _ _) P fun y H1 w1 st1 b W1 E1 R1 P1 => ?_
      obtain ⟨d, st2, e2, P2⟩ := mFrz_toS P1
      obtain ⟨w2, F, r⟩ := frz_ok W1 E1 (VRep.F R1) e2
      split at P2
      · rename_i ds es2
        obtain ⟨p', vs, ev', hp', r'⟩ := own_lst F.wd es2
        have z : p = p' := by simpa using ev.symm.trans ev'
        subst z
        by_cases hz : ds.length < 16777216
        · rw [if_pos hz] at P2
          refine ⟨p, vs, y, rfl, rfl, hp', by rw [r'.length, sizeLine_eq]; exact hz, ?_⟩
          obtain ⟨W3, E3⟩ := poke_slot (o := .lst (vs ++ [y])) (d := .lst (ds ++ [d])) F.wd es2 ev' ⟨_, upd_same, r'.app (.cons r .nil)⟩
          exact P2 w2 σ _ (F.ev.trans E3) W3
        · rw [if_neg hz] at P2
          exact P2.elim
      · exact P2.elim
    · exact P.elim
end
end FB

/-! FBDict: dicts with keys that are numbers and texts, by value and in the store; o[i] read and written. -/
namespace FB
open PySem PySem.Spec PyProof.Rows L2
section
variable {κ : Type} [DecidableEq κ]
def valD (kvs : List (κ × D)) (k : κ) : Option D := (kvs.find? fun kv => decide (kv.1 = k)).map (·.2)
def putD (kvs : List (κ × D)) (k : κ) (v : D) : List (κ × D) :=
  if (kvs.any fun kv => decide (kv.1 = k)) = true then kvs.map (fun kv => if kv.1 = k then (kv.1, v) else kv) else kvs ++ [(k, v)]
end
def mergeD (kvs more : List (Key × D)) : List (Key × D) := more.foldl (fun acc kv => putD acc kv.1 kv.2) kvs
def keyD : D → Option Key
  | .int i => some (.inl i)
  | .str x => some (.inr x)
  | _ => none
section
variable {K : PySem.W.Frag} {w : Wo} {H : Hp}
theorem repK_val {k : Key} : ∀ {kvs : List (Key × V)} {kds : List (Key × D)}, RepK K w kvs kds → match valD kds k with
    | none => valV kvs k = none
    | some d => ∃ v, valV kvs k = some v ∧ Rep K w v d
  | _, _, .nil => rfl
  | _, _, .cons (k := k') (v := v) (d := d) (vs := vs) (ds := ds) a r => by
    have ih := repK_val (k := k) r
    by_cases h : k' = k
    · have e1 : valD ((k', d) :: ds) k = some d := by simp [valD, List.find?_cons, h]
      rw [e1]
      exact ⟨v, valV_pos h, a⟩
    · have e1 : valD ((k', d) :: ds) k = valD ds k := by simp [valD, List.find?_cons, h]
      rw [e1, valV_neg (p := (k', v)) h]
      exact ih
theorem repK_any {k : Key} : ∀ {kvs : List (Key × V)} {kds : List (Key × D)}, RepK K w kvs kds → (kvs.any fun kv => decide (kv.1 = k)) = kds.any fun kv => decide (kv.1 = k)
  | _, _, .nil => rfl
  | _, _, .cons _ r => by
    rw [List.any_cons, List.any_cons, repK_any r]
theorem repK_app : ∀ {a b : List (Key × V)} {c d : List (Key × D)}, RepK K w a c → RepK K w b d → RepK K w (a ++ b) (c ++ d)
  | _, _, _, _, .nil, r => r
  | _, _, _, _, .cons x r, r' => .cons x (repK_app r r')
theorem repK_map {k : Key} {v : V} {d : D} (x : Rep K w v d) : ∀ {kvs : List (Key × V)} {kds : List (Key × D)}, RepK K w kvs kds → RepK K w (kvs.map fun kv => if kv.1 = k then (kv.1, v) else kv) (kds.map fun kv => if kv.1 = k then (kv.1, d) else kv)
  | _, _, .nil => .nil
  | _, _, .cons (k := k') a r => by
    rw [List.map_cons, List.map_cons]
    by_cases h : k' = k
    · rw [if_pos h, if_pos h]
      exact .cons x (repK_map x r)
    · rw [if_neg h, if_neg h]
      exact .cons a (repK_map x r)
theorem repK_put {k : Key} {v : V} {d : D} {kvs : List (Key × V)} {kds : List (Key × D)} (r : RepK K w kvs kds) (x : Rep K w v d) : RepK K w (putK kvs k v) (putD kds k d) := by
  unfold putK putD
  rw [repK_any r]
  by_cases h : (kds.any fun kv => decide (kv.1 = k)) = true
  · rw [if_pos h, if_pos h]
    exact repK_map x r
  · rw [if_neg h, if_neg h]
    exact repK_app r (.cons x .nil)
theorem repK_merge : ∀ {more : List (Key × V)} {mds : List (Key × D)} {kvs : List (Key × V)} {kds : List (Key × D)}, RepK K w more mds → RepK K w kvs kds → RepK K w (mergeK kvs more) (mergeD kds mds)
  | _, _, _, _, .nil, r => r
  | _, _, kvs, kds, .cons (k := k) (v := v) (d := d) (vs := vs) (ds := ds) x q, r => by
    show RepK K w (mergeK (putK kvs k v) vs) (mergeD (putD kds k d) ds)
    exact repK_merge q (repK_put r x)
theorem keyD_v {v : V} {d : D} {k : Key} (r : View K w H v d) (e : keyD d = some k) : v = kV k := by
  unfold keyD at e
  split at e
  · cases e
    exact view_int r
  · cases e
    exact view_str r
  · cases e
theorem repK_zip : ∀ {ks : List Key} {vs : List V} {ds : List D}, Reps K w vs ds → RepK K w (ks.zip vs) (ks.zip ds)
  | [], _, _, _ => by rw [List.zip_nil_left, List.zip_nil_left]; exact .nil
  | _ :: _, _, _, .nil => by rw [List.zip_nil_right, List.zip_nil_right]; exact .nil
  | k :: ks, _, _, .cons a r => by
    rw [List.zip_cons_cons, List.zip_cons_cons]
    exact .cons a (repK_zip r)
end

section
variable {G : String → Option Addr} {X : Cx} {W : WX} {e a b c o : Expr} {es : List Expr} {ma mb mc me mk mv : M Val} {mas : M (List Val)} {pos : Pos} {Z : Ends} {t : Tg} {w w0 : Wo} {st st0 : DSt} {σ σ0 : L2.St} {H H0 : Hp}
/-! ### displays -/
def mVals : List (M Val) → M (List Val)
  | [] => mNil
  | m :: r => mCons m (mVals r)
def mDisp (ks : List Key) (ms : List (M Val)) : M Val := M.bind (mVals ms) fun vs => M.bind (mFrzs vs) fun ds => if ks.length ≤ 15 ∧ ds.length = ks.length then M.pure (.own (.dK (mergeD [] (ks.zip ds)))) else fun _ => none
theorem tE_mono {σ : L2.St} {H : Hp} {Q Q' : VK} (h : tE G X W ma σ H Q) (i : ∀ v H', Q v H' → Q' v H') : tE G X W ma σ H Q' := by
  obtain ⟨w, st, W0, P⟩ := h
  exact ⟨w, st, W0, P.imp i⟩
theorem pairs_ok : ∀ {ks : List Key} {ms : List (M Val)} {σ : L2.St} {H : Hp} {Q : List (V × V) → Hp → Prop}, ks.length = ms.length → tA G X W (mVals ms) σ H (fun vs H' => Q ((ks.map kV).zip vs) H') →
    tPairs ((ks.zip ms).map fun km => (tC (kV km.1), tE G X W km.2)) σ H Q
  | [], [], σ, H, Q, _, h => by
    obtain ⟨w, st, W0, P⟩ := h
    exact P w H [] (.refl _ _ _) W0 ⟨.nil, fun i j d e p _ h => by simp at h⟩
  | k :: ks, m :: ms, σ, H, Q, hl, h => by
    obtain ⟨w, st, W0, P⟩ := h
    show tE G X W m σ H fun y H2 => tPairs ((ks.zip ms).map fun km => (tC (kV km.1), tE G X W km.2)) σ H2 fun ps H3 => Q ((kV k, y) :: ps) H3
    refine tE_bind W0 (.refl _ _ _) P fun x H1 w1 st1 va W1 E1 _ R1 P1 => pairs_ok (ks := ks) (ms := ms) (by simpa using hl) ?_
    exact tA_bind W1 E1 P1 fun xs H2 w2 st2 vas W2 E2 F2 R2 P2 => P2 w2 H2 (x :: xs) E2 W2 (vreps_cons E1.dom R1 F2 R2)
theorem ge_disp {keys : List (Option Expr)} {values : List Expr} {ks : List Key} {ms : List (M Val)} (h : PPs X pos keys values ((ks.zip ms).map fun km => (tC (kV km.1), tE G X W km.2))) (hk : ks.length = ms.length) (hall : keys.all (·.isSome) = true) (hl : keys.length = values.length) (h0 : keys ≠ [])
    (h15 : keys.length ≤ 15) : GE G X W (.Dict keys values pos) (mDisp ks ms) :=
  PE_imp (pe_disp h hall hl h0 h15) fun σ H Q ⟨w, st, W0, P⟩ p hp => pairs_ok hk (by
    have W1 := W0.alloc (o := .dK []) hp
    have E1 : Ev (Mu st σ) w H (Mu st σ) w (upd H p (.dK [])) := .alloc hp
    refine tA_bind W1 E1 P fun vs H2 w2 st2 xs W2 E2 F2 R2 P2 => ?_
    obtain ⟨ds, st3, e3, P3⟩ := mFrzs_bind P2
    obtain ⟨w3, F3, r3⟩ := frzs_ok W2 F2 (paired_imp (fun _ _ => VRep.F) R2.ps) e3
    by_cases hz : ks.length ≤ 15 ∧ ds.length = ks.length
    · rw [if_pos hz] at P3
      have hf0 : w.F p = none := sub_ne W0.sub hp
      have ho0 : w.ow p = none := W0.toWdS.own_none hp
      have hm0 : ¬ Mu st σ p := Mu.not_of W0 hp
      obtain ⟨k1, k2, k3⟩ := F3.ev.keep p _ upd_same ho0 hm0
      have hm3 : ¬ Mu st3 σ p := fun z => (F3.ev.new p z).elim hm0 fun q => by
        rw [upd_same] at q
        cases q
      have hv : vs.length = ks.length := by rw [r3.length]; exact hz.2
      have zz : (ks.map kV).zip vs = (ks.zip vs).map fun kv => (kV kv.1, kv.2) := by
        rw [List.zip_map_left]
        rfl
      refine ⟨k1, ks.zip vs, zz, by rw [List.length_zip]; omega, ?_⟩
      have W4 := F3.wd.poke (o := .dK (mergeK [] (ks.zip vs))) k1 (k2.trans hf0) k3 hm3
      have E4 := (E1.trans F3.ev).poke (o := .dK (mergeK [] (ks.zip vs))) hp
      exact P3 w3 _ (.ref p) E4 W4 ⟨p, rfl, hp, k2.trans hf0, k3, hm3, _, upd_same, repK_merge (repK_zip r3) .nil⟩
    · rw [if_neg hz] at P3
      exact P3.elim)
theorem gp_nil {pos : Pos} : PPs X pos [] [] ((([] : List Key).zip ([] : List (M Val))).map fun km => (tC (kV km.1), tE G X W km.2)) := pps_nil
theorem gp_cons {pos : Pos} {k : Key} {ke v : Expr} {ks' : List (Option Expr)} {vs : List Expr} {ks : List Key} {m : M Val} {ms : List (M Val)} (hk : PE X ke (tC (kV k))) (hv : GE G X W v m) (hr : PPs X pos ks' vs ((ks.zip ms).map fun km => (tC (kV km.1), tE G X W km.2))) :
    PPs X pos (some ke :: ks') (v :: vs) (((k :: ks).zip (m :: ms)).map fun km => (tC (kV km.1), tE G X W km.2)) := pps_cons hk hv hr
/-- {} -/
def mNewK : M Val := M.pure (.own (.dK []))
theorem ge_newK : GE G X W (.Dict [] [] pos) mNewK := PE_imp pe_dnewK fun σ H Q ⟨w, st, W0, P⟩ p hp => by
  obtain ⟨a, b, c⟩ := own_new (o := .dK []) (d := .dK []) W0 hp ⟨[], upd_same, .nil⟩
  exact P w _ _ a b c

/-! ### o[i] -/
abbrev rIxDk : R2 := fun x y H Q => ∃ a v, x = .ref a ∧ DGet H a y (some v) ∧ Q v H
theorem ix_dict (hu : X.A.units + 1 < cLine) : IxR X rIxDk := by
  intro value slice pins s σ H x y v u Q I rx ry h hs
  obtain ⟨a, z, rfl, g, q⟩ := h
  cases rx
  exact tail_any (dict_typeIs I g) PySem.F.slot_dict_getitem.lookup (d_getItem hu I g ry fun w' s3 I3 rw' => ⟨z, H, I3, rw', q⟩) hs
def ixAll : D → D → Option Slot
  | .dK kvs, k => (keyD k).bind fun k => (valD kvs k).map .frz
  | d, k => ixD d k
abbrev rIxAll (X : Cx) : R2 := fun x y H Q => rIx X.K x y H Q ∨ rIxDk x y H Q
theorem os_ixAll : OpS G X (rIxAll X) ixAll := by
  intro w st σ H x y d1 d2 s Q W vx vy q P
  unfold ixAll at q
  split at q
  · obtain ⟨k, e1, q⟩ := ob q
    obtain ⟨d, e2, rfl⟩ := om q
    obtain ⟨p, kvs, rfl, h, r⟩ := vx
    have hv := repK_val (k := k) r
    rw [e2] at hv
    obtain ⟨v, e3, rr⟩ := hv
    exact .inr ⟨p, v, rfl, .inl ⟨kvs, k, h, keyD_v vy e1, e3.symm⟩, Res.frz P W rr⟩
  · exact .inl (os_ix w st σ H x y d1 d2 s Q W vx vy q P)
/-- .. of an object of the store, too -/
def mIx2 (va vb : Val) : M Val := fun st => match va.get st with
  | some (.obj n) => match st.so[n]? with
    | some (.dic kvs) => match (vb.get st).bind keyD with
      | some k => match valD kvs k with
        | some d => some (.ok (.frz d) st)
        | none => none
      | none => none
    | _ => none
  | _ => mOp2 ixAll va vb st
def mIx (ma mb : M Val) : M Val := M.bind ma fun va => M.bind mb fun vb => mIx2 va vb
theorem view_obj {n : Cn} {v : V} {k : Nat} (h : View n.K w H v (.obj k)) : ∃ a, v = .ref a ∧ w.rho k = some a := by
  have h : Rep n.K w v (.obj k) := h
  cases h
  rename_i a e
  exact ⟨a, rfl, e⟩
theorem obj_dic {n : Cn} {k : Nat} {kvs : List (Key × D)} {v : V} (W : WdS n w st.so H) (h : View n.K w H v (.obj k)) (e : st.so[k]? = some (.dic kvs)) : ∃ a kv, v = .ref a ∧ w.rho k = some a ∧ w.ow a = some k ∧ H a = some (.dK kv) ∧ RepK n.K w kv kvs := by
  obtain ⟨a, rfl, e1⟩ := view_obj (n := n) h
  obtain ⟨a', kv, h1, h2, h3, h4⟩ := W.sto k _ e
  have : a = a' := Option.some.inj (e1.symm.trans h1)
  subst this
  exact ⟨a, kv, rfl, h1, h2, h3, h4⟩
theorem ix2_ok {va vb : Val} {x y : V} {Q : VK} {Ha Hb : Hp} (W1 : Wd (cn G X) w st σ H) (E1 : Ev (Mu st0 σ) w0 H0 (Mu st σ) w H) (Ra : VRep X.K Ha w st σ H x va) (Rb : VRep X.K Hb w st σ H y vb)
    (P : Post (VRep X.K) (cn G X) W w0 st0 σ H0 Q (mIx2 va vb st)) : rIxAll X x y H Q := by
  unfold mIx2 at P
  split at P
  · rename_i n e1
    split at P
    · rename_i kvs e2
      split at P
      · rename_i k e3
        split at P
        · rename_i d e4
          obtain ⟨d', e5, e3⟩ := ob e3
          obtain ⟨a, kv, rfl, _, _, hk, r⟩ := obj_dic W1.toWdS (VRep.view W1 Ra e1) e2
          have hv := repK_val (k := k) r
          rw [e4] at hv
          obtain ⟨v, e6, rr⟩ := hv
          exact .inr ⟨a, v, rfl, .inl ⟨kv, k, .inl hk, keyD_v (VRep.view W1 Rb e5) e3, e6.symm⟩, P w H v E1 W1 rr⟩
        · exact P.elim
      · exact P.elim
    · exact P.elim
  · exact op2_ok os_ixAll W1 E1 Ra Rb P
theorem ge_sub {k : Nat} (hr : Room k X.A) (ha : GE G X W a ma) (hb : GE G X W b mb) (hp : PlainIx b) : GE G X W (.Subscript a b pos) (mIx ma mb) :=
  PE_imp (pe_ix (ix_seq.or (ix_dict (by have := hr.un; omega))) ha hb hp) fun σ H Q ⟨w, st, W0, P⟩ => tE_bind W0 (.refl _ _ _) P fun x H1 w1 st1 va W1 E1 _ R1 P1 =>
    tE_bind W1 E1 P1 fun y H2 w2 st2 vb W2 E2 F2 R2 P2 => ix2_ok W2 E2 (R1.keep F2) R2 P2

/-! ### name[k] = v -/
def slotSet (i : Nat) (dk d : D) : MS := fun st => match st.slot i with
  | some (.own (.lst ds)) => match dk with
    | .int z => (ixN ds.length z).map fun j => .nx (st.put i (some (.own (.lst (ds.set j d)))))
    | _ => none
  | some (.own (.dK kvs)) => if kvs.length < 16777216 then (keyD dk).map fun k => .nx (st.put i (some (.own (.dK (putD kvs k d))))) else none
  | some (.frz (.obj n)) => match st.so[n]? with
    | some (.dic kvs) => if kvs.length < 16777216 then (keyD dk).map fun k => .nx { st with so := st.so.set n (.dic (putD kvs k d)) } else none
    | _ => none
  | _ => none
def sIxSet (i : Nat) (mk mv : M Val) : MS := M.toS mv fun v => fun st => match st.slot i with
  | some _ => M.toS mk (fun k => M.toS (mFrz v) fun d => M.toS (mGet k) fun dk => slotSet i dk d) st
  | none => none
theorem mGet_toS {v : Val} {f : D → MS} (h : PostS (cn G X) W w0 st0 σ0 H0 Z (M.toS (mGet v) f st)) : ∃ d, v.get st = some d ∧ PostS (cn G X) W w0 st0 σ0 H0 Z (f d st) := by
  unfold M.toS mGet at h
  cases e : v.get st with
  | none => rw [e] at h; exact h.elim
  | some d => rw [e] at h; exact ⟨d, rfl, h⟩
/-- an object of the store is written -/
theorem poke_sto {n : Cn} {k : Nat} {a : Addr} {o : HO} {ob : SObj} (W : Wd n w st σ H) (hr : w.rho k = some a) (ho : w.ow a = some k) (r : ObRep n.K w (upd H a o) k ob) :
    Wd n w { st with so := st.so.set k ob } σ (upd H a o) ∧ Ev (Mu st σ) w H (Mu { st with so := st.so.set k ob } σ) w (upd H a o) := by
  have fa : w.F a = none := (W.own a k ho).1
  have others : ∀ b, b ≠ a → upd H a o b = H b := fun b h => upd_ne h
  have nm : ¬ Mu st σ a := fun ⟨i, d, e1, e2⟩ => by
    obtain ⟨p, e3, _, e4, _⟩ := W.ownS i d e1
    have : a = p := by simpa using e2.symm.trans e3
    subst this
    rw [ho] at e4
    cases e4
  refine ⟨⟨⟨fun b u h => ?_, fun b j h => ⟨(W.own b j h).1, upd_dom b (W.own b j h).2⟩, fun j ob' h => ?_, fun j b h => by
      rw [List.length_set]
      exact W.rb j b h, fun b c d h => ?_⟩, W.len, W.frz, fun i d h => ?_, W.dis⟩, ⟨fun b u e1 e2 _ => ⟨(others b fun z => by rw [z, ho] at e2; cases e2).trans e1, rfl, e2⟩, .refl w, fun b h => .inl h, upd_dom⟩⟩
  · rw [others b fun z => by rw [z, fa] at h; cases h]
    exact W.sub b u h
  · have h : (st.so.set k ob)[j]? = some ob' := h
    rw [List.getElem?_set] at h
    by_cases hj : k = j
    · rw [if_pos hj] at h
      split at h
      · cases h
        rw [← hj]
        exact r
      · cases h
    · rw [if_neg hj] at h
      exact (W.sto j ob' h).frame (.refl w) fun b hb => ⟨others b fun z => hj (by rw [z, ho] at hb; exact Option.some.inj hb), hb⟩
  · obtain ⟨C, g, q⟩ := W.exs b c d h
    refine ⟨C, g, q.imp (fun q => ⟨?_, q.2⟩) id⟩
    rw [others b fun z => by have := q.2; rw [z, fa] at this; cases this]
    exact q.1
  · obtain ⟨q, e1, e2, e3, r⟩ := W.ownS i d h
    exact ⟨q, e1, e2, e3, r.mono (.refl w) (others q fun z => nm ⟨i, d, h, z ▸ e1⟩)⟩

theorem reps_set {K : PySem.W.Frag} {v : V} {d : D} (a : Rep K w v d) : ∀ {vs : List V} {ds : List D} (j : Nat), Reps K w vs ds → Reps K w (vs.set j v) (ds.set j d)
  | _, _, _, .nil => .nil
  | _, _, 0, .cons _ r => .cons a r
  | _, _, j + 1, .cons b r => .cons b (reps_set a j r)
abbrev rSetAll : TSet := fun o i v H Q => rSetL o i v H Q ∨ rSetD o i v H Q
theorem set_all (hu : X.A.units + 1 < cLine) : PSet X rSetAll := fun pins s σ H o i v ov iv u Q I ro ri rv h =>
  h.elim (set_list pins s σ H o i v ov iv u Q I ro ri rv) (set_dict hu pins s σ H o i v ov iv u Q I ro ri rv)
theorem slotSet_ok {i : Nat} {x y v : V} {dk d : D} (W1 : Wd (cn G X) w st σ H) (E1 : Ev (Mu st0 σ0) w0 H0 (Mu st σ) w H) (hx : σ[i]? = some (some x)) (vy : View X.K w H y dk) (r : Rep X.K w v d) (P : PostS (cn G X) W w0 st0 σ0 H0 Z (slotSet i dk d st)) :
    rSetAll x y v H fun H' => Z.nx σ H' := by
  unfold slotSet at P
  split at P
  · rename_i ds es
    obtain ⟨p, vs, ev, hp, rr⟩ := own_lst W1 es
    have z : x = .ref p := by simpa using hx.symm.trans ev
    subst z
    split at P
    · rename_i z
      cases e : ixN ds.length z with
      | none => rw [e] at P; exact P.elim
      | some j =>
        rw [e] at P
        obtain ⟨W2, E2⟩ := poke_slot (o := .lst (vs.set j v)) (d := .lst (ds.set j d)) W1 es ev ⟨_, upd_same, reps_set r j rr⟩
        exact .inl ⟨p, vs, z, j, rfl, view_int vy, hp, by rw [rr.length]; exact e, P w σ _ (E1.trans E2) W2⟩
    · exact P.elim
  · rename_i kvs es
    obtain ⟨p, ev, _, _, kv, hp, rr⟩ := W1.ownS i _ es
    have z : x = .ref p := by simpa using hx.symm.trans ev
    subst z
    by_cases hz : kvs.length < 16777216
    · rw [if_pos hz] at P
      cases e : keyD dk with
      | none => rw [e] at P; exact P.elim
      | some k =>
        rw [e] at P
        obtain ⟨W2, E2⟩ := poke_slot (o := .dK (putK kv k v)) (d := .dK (putD kvs k d)) W1 es ev ⟨_, upd_same, repK_put rr r⟩
        exact .inr ⟨p, _, rfl, .inl ⟨kv, k, hp, keyD_v vy e, by rw [RepK.length rr, sizeLine_eq]; exact hz, rfl⟩, P w σ _ (E1.trans E2) W2⟩
    · rw [if_neg hz] at P
      exact P.elim
  · rename_i n es
    split at P
    · rename_i kvs eo
      by_cases hz : kvs.length < 16777216
      · rw [if_pos hz] at P
        obtain ⟨v', ev, rv⟩ := W1.frz i _ es
        have z : x = v' := by simpa using hx.symm.trans ev
        subst z
        obtain ⟨a, kv, rfl, h1, h2, h3, h4⟩ := obj_dic W1.toWdS (Rep.view W1.toWdS rv) eo
        cases e : keyD dk with
        | none => rw [e] at P; exact P.elim
        | some k =>
          rw [e] at P
          obtain ⟨W2, E2⟩ := poke_sto (o := .dK (putK kv k v)) (ob := .dic (putD kvs k d)) W1 h1 h2 ⟨a, _, h1, h2, upd_same, repK_put h4 r⟩
          exact .inr ⟨a, _, rfl, .inl ⟨kv, k, h3, keyD_v vy e, by rw [RepK.length h4, sizeLine_eq]; exact hz, rfl⟩, P w σ _ (E1.trans E2) W2⟩
      · rw [if_neg hz] at P
        exact P.elim
    · exact P.elim
  · exact P.elim
theorem tE_toS2 {f : Val → MS} {Q' : VK} (W1 : Wd (cn G X) w st σ H) (E0 : Ev (Mu st0 σ0) w0 H0 (Mu st σ) w H) (P : PostS (cn G X) W w0 st0 σ0 H0 Z (M.toS ma f st))
    (h : ∀ v H1 w1 st1 x, Wd (cn G X) w1 st1 σ H1 → Ev (Mu st0 σ0) w0 H0 (Mu st1 σ) w1 H1 → Ev (Mu st σ) w H (Mu st1 σ) w1 H1 → VRep X.K H w1 st1 σ H1 v x → PostS (cn G X) W w0 st0 σ0 H0 Z (f x st1) → Q' v H1) : tE G X W ma σ H Q' :=
  ⟨w, st, W1, (PostS.bind E0 P).imp fun v H1 ⟨w1, st1, x, W1, E, r, P1⟩ => h v H1 w1 st1 x W1 (E0.trans E) E r P1⟩
theorem gs_ixset {k i : Nat} {pos' : Pos} (hr : Room k X.A) (ho : PE X o (tVar i)) (hi : GE G X W b mk) (hv : GE G X W e mv)
    (ha : ∀ v, assign (.Subscript o b pos') X.env v = (do
      let ov ← holding [v] (eval o X.env)
      let iv ← holding [v, ov] (eval b X.env)
      standAt pos'
      holding [v, ov, iv] (setItem ov iv v)
      release [v, ov, iv] []) := by intro _; rfl)
    (hs : swapsWithSole [.Subscript o b pos'] e pos.line X.env = pure false := by rfl) (hw : swappedStores [.Subscript o b pos'] e X.env = pure none := by rfl)
    (h1 : (assignEach [.Subscript o b pos'] X.env).map (·.2) = [assign (.Subscript o b pos') X.env] := by rfl) : GS G X W (.Assign [.Subscript o b pos'] e pos) (sIxSet i mk mv) :=
  PS_imp (ps_asg hv (pg_sub ho hi (set_all (by have := hr.un; omega)) ha) hs hw h1) fun Z σ H ⟨w, st, W0, P⟩ => tE_toS W0 (.refl _ _ _) P fun v H1 w1 st1 vv W1 E1 R1 P1 => by
    split at P1
    · rename_i s es
      obtain ⟨x, ev⟩ := W1.var es
      refine ⟨x, ev, ?_⟩
      refine tE_toS2 W1 E1 P1 fun y H2 w2 st2 vk W2 E2 F2 R2 P2 => ?_
      obtain ⟨d, st3, e3, P3⟩ := mFrz_toS P2
      obtain ⟨w3, F3, r⟩ := frz_ok W2 E2 (VRep.F (R1.keep F2)) e3
      obtain ⟨dk, e4, P4⟩ := mGet_toS P3
      have vy : View X.K w3 H2 y dk := by
        cases vk with
        | vr j => exact VRep.view (val := .vr j) F3.wd (H0 := H1) R2 e4
        | frz z => exact VRep.view (val := .frz z) F3.wd (H0 := H1) (R2.mono F3.le) e4
        | own z =>
          cases e4
          obtain ⟨p, ev, _, _, _, _, rr⟩ := R2
          subst ev
          exact (rr.mono F3.le rfl).view
      exact slotSet_ok F3.wd F3.ev ev vy r P4
    · exact P1.elim
/-! ### name = {..}, an object of the store from now on -/
def sSetO (i : Nat) (m : M Val) : MS := M.toS m fun v st => match v with
  | .own (.dK kvs) => some (.nx ({ st with so := st.so ++ [SObj.dic kvs] }.put i (some (.frz (.obj st.so.length)))))
  | _ => none
/-- a thing of one's own goes to the store -/
theorem to_sto {n : Cn} {p : Addr} {kvs : List (Key × D)} (W : Wd n w st σ H) (h0 : H0 p = none) (E : Ev (Mu st0 σ0) w0 H0 (Mu st σ) w H) (hf : w.F p = none) (ho : w.ow p = none) (hm : ¬ Mu st σ p) (r : ORep n.K w H p (.dK kvs)) :
    ∃ w', Wd n w' { st with so := st.so ++ [SObj.dic kvs] } σ H ∧ Ev (Mu st0 σ0) w0 H0 (Mu st σ) w' H ∧ w'.rho st.so.length = some p := by
  have hk : w.rho st.so.length = none := by
    cases e : w.rho st.so.length with
    | none => rfl
    | some a => exact absurd (W.rb _ _ e) (by omega)
  let w' : Wo := { w with ow := fun a => if a = p then some st.so.length else w.ow a, rho := fun k => if k = st.so.length then some p else w.rho k }
  have le : WLe w w' := ⟨.refl _, fun k a e => by
    show (if k = st.so.length then some p else w.rho k) = some a
    rw [if_neg fun z => by rw [z, hk] at e; cases e]
    exact e, fun _ _ e => e⟩
  obtain ⟨kv, e, rr⟩ := r
  have ow : ∀ a, a ≠ p → w'.ow a = w.ow a := fun a h => if_neg h
  refine ⟨w', ⟨⟨W.sub, fun a k h => ?_, fun k o h => ?_, fun k a h => ?_, W.exs⟩, W.len, fun i d h => ?_, fun i d h => ?_, W.dis⟩, ⟨fun a o e1 e2 e3 => ?_, E.le.trans le, E.new, E.dom⟩, if_pos rfl⟩
  · by_cases z : a = p
    · subst z
      exact ⟨hf, by rw [e]; simp⟩
    · rw [ow a z] at h
      exact W.own a k h
  · have h : (st.so ++ [SObj.dic kvs])[k]? = some o := h
    by_cases hk : k < st.so.length
    · rw [List.getElem?_append_left hk] at h
      refine (W.sto k o h).frame le fun a ha => ⟨rfl, ?_⟩
      rw [ow a fun z => by rw [z, ho] at ha; cases ha]
      exact ha
    · rw [List.getElem?_append_right (by omega)] at h
      have hz : k = st.so.length := by
        obtain ⟨hl, _⟩ := List.getElem?_eq_some_iff.mp h
        simp at hl
        omega
      subst hz
      simp at h
      subst h
      exact ⟨p, kv, if_pos rfl, if_pos rfl, e, RepK.mono le rr⟩
  · have h : (if k = st.so.length then some p else w.rho k) = some a := h
    show k < (st.so ++ [SObj.dic kvs]).length
    rw [List.length_append, List.length_singleton]
    by_cases z : k = st.so.length
    · omega
    · rw [if_neg z] at h
      have := W.rb k a h
      omega
  · obtain ⟨v, e1, r1⟩ := W.frz i d h
    exact ⟨v, e1, r1.mono le⟩
  · obtain ⟨q, e1, e2, e3, r1⟩ := W.ownS i d h
    exact ⟨q, e1, e2, by rw [ow q fun z => hm ⟨i, d, h, z ▸ e1⟩]; exact e3, r1.mono le rfl⟩
  · obtain ⟨k1, k2, k3⟩ := E.keep a o e1 e2 e3
    exact ⟨k1, k2, by rw [ow a fun z => by rw [z, h0] at e1; cases e1]; exact k3⟩
theorem gs_setO {i : Nat} {x : Str} {pos' : Pos} (hN : X.N.Nodup) (hi : X.N[i]? = some x) (hx : Loc X.env.scope x) (he : GE G X W e me) (hs : swapsWith e (some (.Name x pos')) pos.line X.env = pure false := by rfl)
    (hf : X.fn x = true ∨ X.env.scope.names.lookup x = some .local := by first | exact .inl rfl | exact .inr rfl | assumption) : GS G X W (.Assign [.Name x pos'] e pos) (sSetO i me) :=
  PS_imp (ps_set hN hi hx he hs hf) fun Z σ H ⟨w, st, W0, P⟩ => tE_toS W0 (.refl _ _ _) P fun v H1 w1 st1 x W1 E1 R1 P1 => by
    split at P1
    · obtain ⟨p, rfl, h0, hf, ho, hm, r⟩ := R1
      obtain ⟨w2, W2, E2, e2⟩ := to_sto W1 h0 E1 hf ho hm r
      exact P1 w2 _ H1 (Ev.put_frz (st := { st1 with so := st1.so ++ [SObj.dic _] }) E2) (W2.put_frz (.obj e2))
    · exact P1.elim
end
end FB

/-! FBExc: own exception classes over any of the base classes: made, raised, caught. -/
namespace FB
open PySem PySem.Spec PyProof.Rows L2

/-- what the written part says of an own exception class at C over B -/
structure EC (K : PySem.W.Frag) (C fI : Addr) (newId : String) (tail : List Value) : Prop where
  cls : ∃ nm q N bs sn sub ab col dd k0 k1 k2 k3 k5, K.lookup C = some (excClassObj nm q C N bs tail true sn sub ab col dd k0 k1 k2 k3 k5 newId)
  iC : PySem.W.findIn K (.ref C) "__init__" = some (some (.ref fI))
  tI : PySem.W.typeIn K (.ref fI) = some (.type "function")
  exC : PySem.W.subIn K (.ref C) (.type "BaseException") = some true
  tyC : PySem.W.typeIn K (.ref C) = some (.type "type")
  kC : PySem.W.keepIn K (.ref C) = true
section
variable {X : Cx} {pins : List (Addr × Obj)} {σ : L2.St} {H : Hp} {s : Shared} {a C fI : Addr} {A : Around} {B newId initId : String} {tail : List Value}
/-- Base.__init__(self, ..): nothing of it is told -/
theorem base_init {us : List Value} {Q : Value → Shared → Prop} (Fb : ExcBaseFacts B newId initId tail) (T : EC X.K C fI newId tail) (I : Inv X pins σ H s) (e : H a = some (exo a C none)) (hl : us.length ≤ sizeLine) (h : ∀ s', Inv X pins σ H s' → Q .none s') {E : Value → Shared → Prop} :
    wpAny (model X.prog X.w) A (call (.builtin initId) (.ref a :: us)) Q E s := by
  obtain ⟨nm, q, N, bs, sn, sub, ab, col, dd, k0, k1, k2, k3, k5, hC⟩ := T.cls
  obtain ⟨t1, ho⟩ := exo_at I.hok e
  obtain ⟨hp, g, d, t, os⟩ := s
  refine wpAny_call (PySem.HandSPX.init_base Fb (fun _ => rfl) (I.kIn _ _ hC) ho hl fun h' t2 k hx => ?_)
  have same : upd H a (exo a C none) = H := funext fun b => by
    by_cases hb : b = a
    · subst hb
      rw [upd_same, e]
    · rw [upd_ne hb]
  have J := I.write (t' := t) (x := a) (e := a) (o := exo a C none) (by rw [e]; trivial) (.inl rfl) k ⟨_, hx⟩ (exo_ok hx)
  exact h _ (same ▸ J)
/-- what Base.__init__(e, ..) asks -/
def tBI (K : PySem.W.Frag) (newId : String) (tail : List Value) (ta : TA) : TE := fun σ H Q => ta σ H fun vs H1 => ∃ (a C fI : Addr) (ws : List V), vs = .ref a :: ws ∧ ws.length ≤ 1000 ∧ EC K C fI newId tail ∧ H1 a = some (exo a C none) ∧ Q .non H1
theorem pe_binit {x : Str} {e : Expr} {es : List Expr} {ta : TA} {p1 p2 pos : Pos} {pl : Sem Bool} (Fb : ExcBaseFacts B newId initId tail) (hg : Gl X x) (hm : X.mg x = none) (hv : bootBuiltins x = some (.type B)) (tB : typeOf (.type B) = pure (.type "type")) (sB : Manifest.isStub B = false)
    (vV : PySem.W.findCls X.K (.type B) (.type "type") "__init__" = some (.val (.builtin initId))) (hh : PySem.W.handedIn (.builtin initId) = true) (ha : PA X (e :: es) ta) (hn : x ≠ "__name__" := by decide) (hdb : (x == ("__debug__" : Str)) = false := by decide)
    (hc : eval (.Call (.Attribute (.Name x p1) "__init__" p2) (e :: es) [] pos) X.env = (do
      let ov ← eval (.Name x p1) X.env
      standAt p2.atName
      let (f, first) ← holding [ov] (getMethod ov "__init__" pl)
      callWith pos f first (backTo pos (starEach (e :: es) X.env)) (backToKw pos (keywordEach [] X.env))) := by rfl)
    (he : starEach (e :: es) X.env = (false, eval e X.env) :: starEach es X.env := by rfl) (hpl : (backTo pos (starEach es X.env)).any (·.1) = false := by rfl) :
    PE X (.Call (.Attribute (.Name x p1) "__init__" p2) (e :: es) [] pos) (tBI X.K newId tail ta) := by
  refine ⟨fun pins s σ H Q I h => PySem.W.methodCall_KW (ld_blt I hg hm hv ?_ hn hdb) hc⟩
  obtain ⟨m, fr⟩ := I.fr
  refine PySem.W.method_type fr I.ok.mod.kin tB sB vV hh ?_
  show wpAny _ _ (callWith pos (Value.builtin initId) [] (backTo pos (starEach (e :: es) X.env)) []) _ _ _
  refine PyProof.Rows.callWith_method1 (thn (ha.run pos pins _ σ H _ (I.tok _) h) fun us s1 ⟨vs, H1, I1, r1, a, C, fI, ws, ev, hl, T, ea, q⟩ => ?_) he hpl
  subst ev
  cases r1 with
  | @cons _ u0 _ ur ra rr =>
    obtain rfl : u0 = Value.ref a := ra
    exact base_init Fb T I1 ea (by rw [← Paired.length rr, sizeLine_eq]; omega) fun s' J => ⟨.non, H1, J, rfl, q⟩
/-- what such an __init__ without fields keeps -/
def spI0 (C : Addr) : Sp := fun vs H Q _ => ∃ a, vs = [.ref a] ∧ H a = some (exo a C none) ∧ Q .non H
/-- C(), C's own __init__ setting no field -/
theorem pmk0 {cx : CXT} {x : Str} {k : Nat} {fd : FuncData} {p pos : Pos} (Fb : ExcBaseFacts B newId initId tail) (T : EC X.K C fI newId tail) (F1 : FnOk X.prog X.w X.K X.mg X.base cx k fI fd ["self"] (spI0 C)) (hr : Room (k + 1) X.A) (hb : Binds X.K fd ["self"] []) (hx : Passes cx X (fun _ _ _ => False))
    (hg : Gl X x) (hm : X.mg x = some (.ref C)) (hdb : (x == ("__debug__" : Str)) = false := by decide) : PMk X (.Call (.Name x p) [] [] pos) (fun _ H Q => Q (.ref C) none H) := by
  intro pins s σ H Q I h
  obtain ⟨nm, q, N, bs, sn, sub, ab, col, dd, k0, k1, k2, k3, k5, hC⟩ := T.cls
  refine wpAny_Call_Name_kw (ld_glob I hg hm (PySem.W.callWith_K0 I.kIn T.kC ?_) hdb)
  show wpAny _ _ (call (.ref C) []) _ _ _
  obtain ⟨hp, g, dr, tk, os⟩ := s
  have kk : ∀ b o, hp.get? b = some o → ((hp.push (PySem.W.kdv_tup [])).push (PySem.HandSPX.excO C hp.objs.size)).get? b = some o := fun b o e => Heap.get?_push_of_some _ (Heap.get?_push_of_some _ e)
  have there : ((hp.push (PySem.W.kdv_tup [])).push (PySem.HandSPX.excO C hp.objs.size)).get? (hp.objs.size + 1) = some (PySem.HandSPX.excO C hp.objs.size) := by heap_get
  have hn : H (hp.objs.size + 1) = none := I.hok.fresh (Nat.le_succ _)
  have I2 : Inv X pins σ (upd H (hp.objs.size + 1) (exo (hp.objs.size + 1) C none)) ⟨(hp.push (PySem.W.kdv_tup [])).push (PySem.HandSPX.excO C hp.objs.size), g, dr, tk, os⟩ :=
    I.laid (t' := tk) (a := hp.objs.size + 1) (o := exo (hp.objs.size + 1) C none) (h' := (hp.push (PySem.W.kdv_tup [])).push (PySem.HandSPX.excO C hp.objs.size)) kk (Nat.le_succ _) (exo_ok there)
  refine wpAny_call (PySem.HandSPX.call_own Fb (fun _ => rfl) (I.kIn _ _ hC) (PySem.W.looks_findIn I.kIn T.iC) (fun self => PySem.W.bind_fn I.kIn self T.tI) (Nat.zero_le _)
    (codeAny_mono (F1.run _ X.stack _ _ ⟨[Value.ref (hp.objs.size + 1)], []⟩ [Value.ref (hp.objs.size + 1)] [V.ref (hp.objs.size + 1)] (fun v H2 => v = .non ∧ H2 = upd H (hp.objs.size + 1) (exo (hp.objs.size + 1) C none)) (fun _ _ _ => False) (hr.make C [] []) (I2.env0.make C [] [])
      (hb _ [Value.ref (hp.objs.size + 1)] I2.kIn rfl) (.cons rfl .nil) ⟨_, rfl, upd_same, rfl, rfl⟩) fun r s' hq => ?_))
  match r, hq with
  | .error er, hq => exact hx pins σ _ _ er s' I2 hq
  | .ok .next, hq => exact False.elim hq
  | .ok .brk, hq => exact False.elim hq
  | .ok .cont, hq => exact False.elim hq
  | .ok (.ret u), ⟨v, H2, os2, bare2, un, hok2, rv, ev, eH⟩ =>
    subst ev eH
    obtain ⟨h2, g2, d2, t2, os'⟩ := s'
    obtain ⟨t0, hoe⟩ := exo_at hok2 upd_same
    refine ⟨rv, ?_⟩
    obtain ⟨GG, g1, g3⟩ := restrict h2 fun b => decide (b ≠ hp.objs.size + 1)
    have gk : ∀ b, b ≠ hp.objs.size + 1 → GG.get? b = h2.get? b := fun b hb => g1 b (decide_eq_true hb)
    have ge : GG.get? (hp.objs.size + 1) = none := g3 _ (by simp)
    have ne : ∀ {b : Addr} {o : Obj}, hp.get? b = some o → b ≠ hp.objs.size + 1 := fun {b o} z => Nat.ne_of_lt (Nat.lt_succ_of_lt (Heap.lt_size z))
    have nH : ∀ {b : Addr}, b ≠ hp.objs.size + 1 → upd H (hp.objs.size + 1) (exo (hp.objs.size + 1) C none) b = H b := fun hb => upd_ne hb
    have U : Un (frs X.stack) [] H H hp GG := {
      keep := fun b o z n hf hx => by
        rw [gk b (ne z)]
        exact un.keep b o (kk b o z) (by rw [nH (ne z)]; exact n) hf hx
      slot := fun b o z n hf hx => by
        rw [gk b (ne z)]
        exact un.slot b o (kk b o z) (by rw [nH (ne z)]; exact n) hf hx
      free := fun b o z n hx => n
      there := fun b o z hx => by
        rw [gk b (ne z)]
        exact un.there b o (kk b o z) hx
      tups := fun b xs z => z
      frzs := fun b o v z => z
      tbls := fun b ps z => ⟨#[], by rw [z]; simp⟩ }
    have hok3 : HOk X.prog X.w H GG := fun b o z => by
      have hb : b ≠ hp.objs.size + 1 := fun e => by rw [e, hn] at z; cases z
      have z2 : upd H (hp.objs.size + 1) (exo (hp.objs.size + 1) C none) b = some o := by rw [nH hb]; exact z
      have na : ∀ {c : Addr} {u : HO}, H c = some u → c ≠ hp.objs.size + 1 := fun {c u} hc e => by rw [e, hn] at hc; cases hc
      refine (hok2 b o z2).stay (fun c v hc y => ?_) (fun c hc => ?_) fun c xs hc => ?_
      · have hca : c ≠ hp.objs.size + 1 := by
          rcases hc with hc | hc
          · rw [hc]; exact hb
          · intro e
            rw [e, upd_same] at hc
            exact exo_own (Option.some.inj hc)
        rw [gk c hca]
        exact y
      · by_cases e : c = hp.objs.size + 1
        · rw [e, upd_same] at hc
          exact absurd (Option.some.inj hc) exo_own
        · rw [nH e] at hc
          exact hc
      · by_cases e : c = hp.objs.size + 1
        · rw [e, upd_same] at hc
          exact absurd (Option.some.inj hc) exo_tup
        · rw [nH e] at hc
          exact hc
    have J : Inv X pins σ H ⟨GG, g2, d2, t2, os'⟩ := I.call' (ch := []) os2 U hok3 bare2 (fun b z => absurd z (by simp))
    refine ⟨hp.objs.size + 1, _, _, ⟨GG, g2, d2, t2, os'⟩, H, .ref C, none, rfl, J, fun b o z => ?_, ge, hoe, ⟨rfl, rfl⟩, rfl, rfl, hn, rfl, bare2, raises_own T.exC T.tyC, h⟩
    by_cases hba : b = hp.objs.size + 1
    · rw [hba, ge] at z; cases z
    · exact (gk b hba).symm.trans z
end
end FB

/-! FBTry: raise; try .. except C as e: .., the exception kept as an object that stands; isinstance and fields of it. -/
namespace FB
open PySem PySem.Spec PyProof.Rows L2

/-! ### try: the caught exception is tracked from the suite on -/
section
variable {X : Cx} {pins : List (Addr × Obj)} {σ : L2.St} {H : Hp} {s : Shared}
theorem xO_ok {P : Program} {w : World} {H : Hp} {h : Heap} {a C : Addr} {d : Option Addr} {oe : Obj} (e : h.get? a = some oe) (hz : Zc (.ref C) d oe) (hf : ∃ vs, oe.data = .fields vs) : ObjOk P w H h a (xO a C d) :=
  ⟨⟨oe, e, hz.1, hz.2, hf⟩, ⟨oe, e⟩, fun h1 h2 ⟨o, e1, r⟩ k => ⟨o, k o e1, r⟩⟩
theorem xO_ne {a C : Addr} {d : Option Addr} {o : HO} (h : ∀ φ, o ≠ .ext φ) : xO a C d ≠ o := fun e => h _ e.symm
theorem inv_suite (I : Inv X pins σ H s) {a C : Addr} {d : Option Addr} {oe : Obj} (ha : s.heap.get? a = some oe) (hz : Zc (.ref C) d oe) (hf : ∃ vs, oe.data = .fields vs) (na : H a = none) (nL : a ≠ X.env.locals) (nF : a ∉ X.fs) (n0 : X.s_0.heap.get? a = none)
    (np : ∀ p ∈ X.pn ++ pins, p.1 ≠ a) : Inv (X.suite a (X.pn ++ pins)) [] σ (upd H a (xO a C d)) s := by
  have ne : ∀ {b : Addr} {u : HO}, H b = some u → b ≠ a := fun {b u} e z => by rw [z, na] at e; cases e
  have n0' : ∀ {b : Addr} {o : Obj}, X.s_0.heap.get? b = some o → b ≠ a := fun {b o} e z => by rw [z, n0] at e; cases e
  have up : ∀ {b : Addr}, b ≠ a → upd H a (xO a C d) b = H b := fun h => upd_ne h
  refine ⟨I.ok.suite _ _, I.os, I.bare, ⟨I.base.keep, I.base.slot, fun b o e n hx => ?_, I.base.there, fun b xs e => ?_, fun b o u e => ?_, fun b ps e => ?_⟩, I.loc, I.cell, ?_, fun x c e => ?_, fun p hp => ?_, fun b o e => ?_, I.len⟩
  · rw [up (n0' e)]
    exact I.base.free b o e n hx
  · have q := I.base.tups b xs e
    rw [up (ne q)]
    exact q
  · have q := I.base.frzs b o u e
    rw [up (ne q)]
    exact q
  · obtain ⟨more, q⟩ := I.base.tbls b ps e
    exact ⟨more, by rw [up (ne q)]; exact q⟩
  · rw [up (Ne.symm nL)]
    exact I.free
  · have hc : c ≠ a := fun z => by
      obtain ⟨v, o, e1, e2⟩ := I.cell x c e
      rw [z, ha] at e1
      obtain ⟨vs, hv⟩ := hf
      cases e1
      rw [hv] at e2
      cases e2
    rw [up hc]
    exact I.freeC x c e
  · have hp : p ∈ X.pn ++ pins := by rw [List.append_nil] at hp; exact hp
    obtain ⟨h1, h2, h3⟩ := I.pin p hp
    exact ⟨h1, by rw [up (np p hp)]; exact h2, h3⟩
  · by_cases z : b = a
    · subst z
      rw [upd_same] at e
      cases e
      exact xO_ok ha hz hf
    · rw [up z] at e
      exact (I.hok b o e).stay (fun c u _ q => q) (fun c q => by rw [up (ne q)]; exact q) fun c xs q => by rw [up (ne q)]; exact q
theorem inv_unsuite {a : Addr} {pn' : List (Addr × Obj)} (I : Inv (X.suite a (X.pn ++ pins)) pn' σ H s) (ok : X.Ok) : Inv X pins σ H s :=
  ⟨ok, I.os, I.bare, I.base, I.loc, I.cell, I.free, I.freeC, fun p hp => I.pin p (List.mem_append_left _ hp), I.hok, I.len⟩
end

/-- the clauses' wish -/
def wK (K : PySem.W.Frag) (i : Nat) (D : Ends) : List (Value × TS) → WX → WX
  | [], W => W
  | (c, ts) :: r, W => fun cls d σ H => ∃ b, PySem.W.exmOne K cls c = some b ∧
      (b = true → ∃ C, cls = .ref C ∧ ∀ a, H a = none → ts { nx := fun σ' H' => D.nx (σ'.set i none) H', rt := D.rt, bk := fun σ' H' => D.bk (σ'.set i none) H', ct := fun σ' H' => D.ct (σ'.set i none) H' } (σ.set i (some (.ref a))) (upd H a (xO a C d))) ∧
      (b = false → wK K i D r W cls d σ H)
/-- the clauses, all «as n» -/
inductive HK (X : Cx) (n : Str) : List ExceptHandler → List (Value × TS) → Prop
  | nil : HK X n [] []
  | cons {x : Str} {c : Value} {ts : TS} {b₀ : Stmt} {suite : List Stmt} {np pos' : Pos} {hds : List ExceptHandler} {l : List (Value × TS)} (hc : Names X x c) (hsu : ∀ (a : Addr) (pn : List (Addr × Obj)), PSs (X.suite a pn) (b₀ :: suite) ts) (r : HK X n hds l) :
      HK X n (.ExceptHandler (some (.Name x np)) (some n) (b₀ :: suite) pos' :: hds) ((c, ts) :: l)
section
variable {X : Cx} {n : Str} {i : Nat} {body : List Stmt} {h₀ : ExceptHandler} {hds : List ExceptHandler} {l : List (Value × TS)} {pos : Pos} {tb : WX → TS} {Wout : WX}
theorem ps_tryK (hs : X.stack = X.env :: X.outer) (hf : X.env.frame = some X.env.locals) (hex : X.ex = []) (hN : X.N.Nodup) (hi : X.N[i]? = some n) (hln : X.env.kindOf n = some .local) (tk : Takes X Wout)
    (hb : ∀ (W : WX) (pn : List (Addr × Obj)) (xe : Value → Shared → Prop), Takes (X.tr pn xe) W → PassesOwn (model X.prog X.w) X.A X.env xe → PSs (X.tr pn xe) body (tb W))
    (hh : HK X n (h₀ :: hds) l) : PS X (.Try body (h₀ :: hds) [] [] pos) (fun D σ H => tb (wK X.K i D l Wout) D σ H) := by
  refine ⟨fun pins s σ H D I h => wpAny_Try_except ?_⟩
  have ok := I.ok
  have fr : X.A.frames = some (X.env :: X.outer) := ok.frames.trans (by rw [hs])
  have inFs : ∀ {b : Addr}, b ∈ X.fs → b ∈ frs (X.env :: X.outer) := fun {b} hm => by
    obtain ⟨e, he, q⟩ := List.mem_filterMap.mp hm
    exact List.mem_filterMap.mpr ⟨e, List.mem_cons_of_mem _ he, q⟩
  have ofFrs : ∀ {b : Addr}, b ∈ frs (X.env :: X.outer) → b = X.env.locals ∨ b ∈ X.fs := fun {b} hm => by
    obtain ⟨e, he, q⟩ := List.mem_filterMap.mp hm
    rcases List.mem_cons.mp he with rfl | he
    · rw [hf] at q
      exact .inl (Option.some.inj q).symm
    · exact .inr (List.mem_filterMap.mpr ⟨e, he, q⟩)
  -- the catch
  have catch1 : Takes (X.tr (X.pn ++ pins) (fun e s₁ => wpAny (model X.prog X.w) X.A (noteFrame e X.env) (fun _ s₂ => wpAny (model X.prog X.w) X.A (setFlight e none) (fun _ s₃ => wpAny (model X.prog X.w) X.A (handleBy e X.env (h₀ :: hds)) (SP X pins D) X.xe s₃) X.xe s₂) X.xe s₁)) (wK X.K i D l Wout) := by
    rintro u s' ⟨a, B, sI, pins', σ', H', cls, d, rfl, J', nb, up, sky, na, os, ag, w⟩
    have J : Inv X pins σ' H' sI := J'.ofTry ok
    show wpAny (model X.prog X.w) X.A (noteFrame (.ref a) X.env) _ _ _
    refine Sky.land Zc.steady fr hf (show Sky B (X.env :: X.outer) a (Zc cls d) X.env.locals s'.heap from hs ▸ sky) fun h3 fl3 up3 => ?_
    have J3 : Inv X pins σ' H' { s' with heap := h3 } := J.landed nb fl3.1 (up.trans up3) os ag
    obtain ⟨oe3, vs3, he3, hz3, hd3⟩ := fl3.there
    have noB : ∀ {b : Addr} {o : Obj}, B.get? b = some o → b ≠ a := fun {b o} e z => by
      rw [z, fl3.2.1] at e
      cases e
    have nfr : a ∉ frs (X.env :: X.outer) := fun hm => by
      obtain ⟨_, o', e', hnf⟩ := fl3.2.2.1.mem hm
      rw [he3] at e'
      cases e'
      exact hnf _ hd3
    have nL : a ≠ X.env.locals := fun z => nfr (List.mem_filterMap.mpr ⟨X.env, List.mem_cons_self, by rw [hf, z]⟩)
    have nF : a ∉ X.fs := fun hm => nfr (inFs hm)
    have old : ∀ {b : Addr} {o : Obj}, sI.heap.get? b = some o → b ≠ X.env.locals → b ∉ X.fs → b ≠ a := fun {b o} e h1 h2 => noB (nb b o e fun hm => (ofFrs (by rw [← hs]; exact hm)).elim h1 h2)
    have np : ∀ p ∈ X.pn ++ pins, p.1 ≠ a := fun p hp => by
      obtain ⟨h1, _, h3, h4, _⟩ := J.pin p hp
      exact old h1 h3 h4
    have n0 : X.s_0.heap.get? a = none := by
      cases q : X.s_0.heap.get? a with
      | none => rfl
      | some o =>
        obtain ⟨o', e'⟩ := J.base.there a o q (by rw [hex]; exact fun z => nomatch z)
        exact absurd rfl (old e' nL nF)
    have S3 := fun (pn : List (Addr × Obj)) => (J3.suite (pins := pins) he3 hd3 na nL nF)
    have go : ∀ {hds' : List ExceptHandler} {l' : List (Value × TS)}, HK X n hds' l' → wK X.K i D l' Wout cls d σ' H' → wpAny (model X.prog X.w) X.A (handleBy (.ref a) X.env hds') (SP X pins D) X.xe { s' with heap := h3 } := by
      intro hds' l' hk
      induction hk with
      | nil =>
        intro w
        refine wpAny_handleBy_nil ?_
        obtain ⟨_, _, _, oe, vs, T, oT, ts', he, _, hd, h1, _⟩ := id fl3
        unfold PySem.passOn
        refine wpAny_bind (wpAny_field he hd h1 ?_)
        rw [if_neg (show ¬ ((Value.ref T == Value.none) = true) by simp)]
        have away : wpAny (model X.prog X.w) X.A (setFlight (.ref a) X.env.frame) (fun _ s4 => wpAny (model X.prog X.w) X.A (throw (.ref a) : Sem Flow) (SP X pins D) X.xe s4) X.xe { s' with heap := h3 } := by
          rw [hf]
          exact HandSPX.setFlight_upZ fl3 fun h4 hh4 up4 => wpAny_throw (tk _ _ ⟨a, B, sI, pins, σ', H', cls, d, rfl, J, nb, (up.trans up3).trans up4, .inr (.inr (by rw [hs]; exact hh4)), na, os, ag, w⟩)
        first
          | exact wpAny_bind (wpAny_pure (wpAny_bind away))
          | exact wpAny_bind away
      | @cons x c ts b₀ suite np' pos' hds2 l2 hc hsu r ih =>
        rintro ⟨b, hb1, hyes, hno⟩
        refine wpAny_handleBy_cons (codeAny_handlers_test ?_) (by intro q; cases q)
        have LM := PySem.W.exm_one (M := model X.prog X.w) J3.kIn (show PySem.W.Looks (model X.prog X.w) h3 (typeOf (.ref a)) cls from fun A Q E s k q => wpAny_typeOf_ref (k _ _ he3) (by rw [hz3.1]; exact q)) hb1
        have name : ∀ {Q : Value → Shared → Prop} {E : Value → Shared → Prop}, Q c { s' with heap := h3 } → wpAny (model X.prog X.w) (X.A.mark (some (.ref a))) (eval (.Name x np') X.env) Q E { s' with heap := h3 } := fun {Q E} q => by
          rcases hc with ⟨hg, hdbg, hm | ⟨hm, hv, hnn⟩⟩
          · exact ld_glob (X := X.suite a ((a, oe3) :: (X.pn ++ pins))) (S3 []) hg hm q hdbg
          · exact ld_blt (X := X.suite a ((a, oe3) :: (X.pn ++ pins))) (S3 []) hg hm hv q hnn hdbg
        refine name (LM.here ?_)
        cases b with
        | false => exact ih (hno rfl)
        | true =>
          obtain ⟨C, rfl, yes2⟩ := hyes rfl
          refine codeAny_handlers_suite_as (HandSPX.lands_againZ fl3 fun h4 fl4 up4 => ?_)
          have J4 : Inv X pins σ' H' { s' with heap := h4 } := J.landed nb fl4.1 ((up.trans up3).trans up4) os ag
          obtain ⟨oe4, vs4, he4, hz4, hd4⟩ := fl4.there
          have S4 := inv_suite J4 he4 hz4 ⟨_, hd4⟩ na nL nF n0 np
          refine store_ok (X := X.suite a (X.pn ++ pins)) (v := .ref a) S4 hN hi (.inl hln) rfl (fun s5 S5 => ?_) (.inr hln)
          refine wpAny_mono ((hsu a (X.pn ++ pins)).run [] s5 _ _ _ S5 (yes2 a na)) (fun f s6 hsp => ?_) (fun _ _ z => False.elim z)
          have done : ∀ {σ6 : L2.St} {H6 : Hp} {Q : Shared → Prop}, Inv (X.suite a (X.pn ++ pins)) [] σ6 H6 s6 → (∀ s7, Inv X pins (σ6.set i none) H6 s7 → Q s7) →
              wpAny (model X.prog X.w) X.A (do bindName X.env n .none; unbindBehindTheSuite X.env n pos') (fun _ s7 => Q s7) X.xe s6 := fun S6 hq => gone_ok (inv_unsuite S6 ok) hN hi hln hq
          match f, hsp with
          | .next, ⟨σ6, H6, S6, q6⟩ => exact done S6 fun s7 J7 => ⟨_, _, J7, q6⟩
          | .brk, ⟨σ6, H6, S6, q6⟩ => exact done S6 fun s7 J7 => ⟨_, _, J7, q6⟩
          | .cont, ⟨σ6, H6, S6, q6⟩ => exact done S6 fun s7 J7 => ⟨_, _, J7, q6⟩
          | .ret u, ⟨v6, σ6, H6, S6, r6, q6⟩ => exact done S6 fun s7 J7 => ⟨_, _, _, J7, r6, q6⟩
    exact go hh w
  refine wpAny_mono ((hb (wK X.K i D l Wout) (X.pn ++ pins) _ catch1 PassesOwn.looking).run [] s σ H D (I.toTry _) h) (fun f s1 hsp => ?_) (fun e s1 he => he)
  match f, hsp with
  | .next, ⟨σ', H', J', q⟩ => exact wpAny_execs_nil ⟨σ', H', J'.ofTry ok, q⟩
  | .brk, ⟨σ', H', J', q⟩ => exact ⟨σ', H', J'.ofTry ok, q⟩
  | .cont, ⟨σ', H', J', q⟩ => exact ⟨σ', H', J'.ofTry ok, q⟩
  | .ret u, ⟨v, σ', H', J', r, q⟩ => exact ⟨v, σ', H', J'.ofTry ok, r, q⟩
end

/-! ### by value -/
section
variable {n : Cn} {w w0 : Wo} {st st0 : DSt} {σ σ0 : L2.St} {H H0 : Hp} {M0 : Addr → Prop}
theorem slot_gone (i j : Nat) : (st.put i none).slot j = if j = i then none else st.slot j := by
  rw [slot_put]
  by_cases h : j = i
  · rw [if_pos h, if_pos h]
    split <;> rfl
  · rw [if_neg h, if_neg h]
theorem Mu.gone {i : Nat} {a : Addr} (h : Mu (st.put i none) (σ.set i none) a) : Mu st σ a := by
  obtain ⟨j, d, h1, h2⟩ := h
  rw [slot_gone] at h1
  by_cases hj : j = i
  · rw [if_pos hj] at h1
    cases h1
  · rw [if_neg hj] at h1
    rw [set_ne hj] at h2
    exact ⟨j, d, h1, h2⟩
theorem Wd.gone (W : Wd n w st σ H) (i : Nat) : Wd n w (st.put i none) (σ.set i none) H where
  toWdS := W.toWdS
  len := by rw [put_len, List.length_set]; exact W.len
  frz := fun j d h => by
    rw [slot_gone] at h
    by_cases hj : j = i
    · rw [if_pos hj] at h; cases h
    · rw [if_neg hj] at h
      rw [set_ne hj]
      exact W.frz j d h
  ownS := fun j d h => by
    rw [slot_gone] at h
    by_cases hj : j = i
    · rw [if_pos hj] at h; cases h
    · rw [if_neg hj] at h
      rw [set_ne hj]
      exact W.ownS j d h
  dis := fun j k d e p h1 h2 h3 h4 => by
    rw [slot_gone] at h1 h2
    by_cases hj : j = i
    · rw [if_pos hj] at h1; cases h1
    · by_cases hk : k = i
      · rw [if_pos hk] at h2; cases h2
      · rw [if_neg hj] at h1
        rw [if_neg hk] at h2
        rw [set_ne hj] at h3
        rw [set_ne hk] at h4
        exact W.dis j k d e p h1 h2 h3 h4
/-- the world with the caught exception in it -/
theorem exc_world {a C : Addr} {d : Option Addr} {c : String} {fs : List (Str × D)} (i : Nat) (W : Wd n w st σ H) (hp : n.pn = []) (g : n.G c = some C) (x : XRep n.K H0 w H d fs) (na : H a = none) (E : Ev M0 w0 H0 (Mu st σ) w H) :
    ∃ w2, Wd n w2 (st.put i (some (.frz (.exv c fs)))) (σ.set i (some (.ref a))) (upd H a (xO a C d)) ∧ Ev M0 w0 H0 (Mu (st.put i (some (.frz (.exv c fs)))) (σ.set i (some (.ref a)))) w2 (upd H a (xO a C d)) := by
  have h0 : H0 a = none := by
    cases q : H0 a with
    | none => rfl
    | some u => exact absurd na (E.dom a (by rw [q]; simp))
  have fa := sub_ne W.sub na
  have xa : w.xa a = none := by
    cases q : w.xa a with
    | none => rfl
    | some cd =>
      obtain ⟨C', _, h | ⟨oe, h, _⟩⟩ := W.exs a cd.1 cd.2 q
      · rw [na] at h; cases h.1
      · rw [hp] at h; cases h
  have W1 : Wd n (w.fz a (xO a C d)) st σ (upd H a (xO a C d)) := (W.alloc na).fz upd_same fa (W.toWdS.own_none na) (Mu.not_of W na)
  have E1 : Ev M0 w0 H0 (Mu st σ) (w.fz a (xO a C d)) (upd H a (xO a C d)) := (E.trans (.alloc na)).fz h0 fa
  have le1 : WLe w (w.fz a (xO a C d)) := Wo.fz_le fa
  have last : ∀ {w3 : Wo}, Wd n w3 st σ (upd H a (xO a C d)) → Ev M0 w0 H0 (Mu st σ) w3 (upd H a (xO a C d)) → w3.xa = w.xa → w3.F a = some (xO a C d) →
      (∀ w4 : Wo, w4.F = w3.F → w4.rho = w3.rho → (∀ b cd, w3.xa b = some cd → w4.xa b = some cd) → w4.xa a = some (c, d) → Rep n.K w4 (.ref a) (.exv c fs)) →
      ∃ w2, Wd n w2 (st.put i (some (.frz (.exv c fs)))) (σ.set i (some (.ref a))) (upd H a (xO a C d)) ∧ Ev M0 w0 H0 (Mu (st.put i (some (.frz (.exv c fs)))) (σ.set i (some (.ref a)))) w2 (upd H a (xO a C d)) := fun {w3} W3 E3 hx hF hr => by
    let w4 : Wo := { w3 with xa := fun b => if b = a then some (c, d) else w3.xa b }
    have xl : ∀ b cd, w3.xa b = some cd → w4.xa b = some cd := fun b cd e => by
      show (if b = a then some (c, d) else w3.xa b) = some cd
      rw [if_neg fun z => by rw [z, hx, xa] at e; cases e]
      exact e
    have le : WLe w3 w4 := ⟨.refl _, .refl _, xl⟩
    have W4 : Wd n w4 st σ (upd H a (xO a C d)) := by
      refine ⟨⟨W3.sub, W3.own, fun k o e => (W3.sto k o e).frame le fun b hb => ⟨rfl, hb⟩, W3.rb, fun b c' d' e => ?_⟩, W3.len, fun j d' e => ?_, fun j d' e => ?_, W3.dis⟩
      · have e : (if b = a then some (c, d) else w3.xa b) = some (c', d') := e
        by_cases z : b = a
        · subst z
          rw [if_pos rfl] at e
          cases e
          exact ⟨C, g, .inl ⟨upd_same, hF⟩⟩
        · rw [if_neg z] at e
          exact W3.exs b c' d' e
      · obtain ⟨v, e1, r⟩ := W3.frz j d' e
        exact ⟨v, e1, r.mono le⟩
      · obtain ⟨p, e1, e2, e3, r⟩ := W3.ownS j d' e
        exact ⟨p, e1, e2, e3, r.mono le rfl⟩
    have E4 : Ev M0 w0 H0 (Mu st σ) w4 (upd H a (xO a C d)) := ⟨E3.keep, E3.le.trans le, E3.new, E3.dom⟩
    exact ⟨w4, W4.put_frz (hr w4 rfl rfl xl (if_pos rfl)), E4.put_frz⟩
  rcases x with ⟨rfl, rfl⟩ | ⟨dd, fv, rfl, d0, hd, df, dow, r⟩
  · exact last W1 E1 rfl upd_same fun w4 _ _ _ h => .exv0 h
  · have nda : dd ≠ a := fun z => by rw [z, na] at hd; cases hd
    have hd2 : upd H a (xO a C (some dd)) dd = some (.xd fv) := by rw [upd_ne nda]; exact hd
    have df2 : (w.fz a (xO a C (some dd))).F dd = none := by
      show upd w.F a _ dd = none
      rw [upd_ne nda]
      exact df
    have nmu : ¬ Mu st σ dd := fun ⟨j, d', e1, e2⟩ => by
      obtain ⟨p, e3, _, _, r3⟩ := W.ownS j d' e1
      have z : dd = p := by simpa using e2.symm.trans e3
      subst z
      cases d' with
      | lst ds => obtain ⟨vs, e4, _⟩ := r3; rw [hd] at e4; cases e4
      | dK ds => obtain ⟨vs, e4, _⟩ := r3; rw [hd] at e4; cases e4
      | dT ds => obtain ⟨vs, e4, _⟩ := r3; rw [hd] at e4; cases e4
      | _ => exact r3.elim
    refine last (w3 := (w.fz a (xO a C (some dd))).fz dd (.xd fv)) (W1.fz hd2 df2 dow nmu) (E1.fz d0 df2) rfl ?_ fun w4 hF hr hx h => ?_
    · show upd (upd w.F a _) dd _ a = _
      rw [upd_ne (Ne.symm nda), upd_same]
    · refine .exv h (by rw [hF]; exact upd_same) (RepF.mono ((le1.trans (Wo.fz_le df2)).trans ⟨fun b u e => by rw [hF]; exact e, fun k b e => by rw [hr]; exact e, hx⟩) r)
end

/-- the first clause that names the class -/
def hdl (i : Nat) (c : String) (fs : List (Str × D)) (st : DSt) : List (String × MS) → Option SR
  | [] => some (.exc c fs st)
  | (c', s) :: r => if c = c' then match s (st.put i (some (.frz (.exv c fs)))) with
      | some (.nx st2) => some (.nx (st2.put i none))
      | some (.bk st2) => some (.bk (st2.put i none))
      | some (.ct st2) => some (.ct (st2.put i none))
      | some (.rt (.vr j) st2) => if j = i then none else some (.rt (.vr j) (st2.put i none))
      | some (.rt v st2) => some (.rt v (st2.put i none))
      | _ => none
    else hdl i c fs st r
def sTry (i : Nat) (b : MS) (hs : List (String × MS)) : MS := fun st => match b st with
  | some (.exc c fs st1) => hdl i c fs st1 hs
  | r => r
abbrev WN : WX := fun _ _ _ _ => False
inductive GH (G : String → Option Addr) (X : Cx) (n : Str) : List ExceptHandler → List (Value × TS) → List (String × MS) → Prop
  | nil : GH G X n [] [] []
  | cons {x : Str} {c : String} {C : Addr} {s : MS} {b₀ : Stmt} {suite : List Stmt} {np pos' : Pos} {hds : List ExceptHandler} {l : List (Value × TS)} {hs : List (String × MS)} (hc : Names X x (.ref C))
      (hm : ∀ c' C', G c' = some C' → PySem.W.exmOne X.K (.ref C') (.ref C) = some (decide (c' = c))) (hsu : ∀ (a : Addr) (pn : List (Addr × Obj)), GSs G (X.suite a pn) WN (b₀ :: suite) s) (r : GH G X n hds l hs) :
      GH G X n (.ExceptHandler (some (.Name x np)) (some n) (b₀ :: suite) pos' :: hds) ((.ref C, tS G X WN s) :: l) ((c, s) :: hs)
section
variable {G : String → Option Addr} {X : Cx} {W : WX} {n : Str} {i : Nat} {body : List Stmt} {h₀ : ExceptHandler} {hds : List ExceptHandler} {l : List (Value × TS)} {hs : List (String × MS)} {pos : Pos} {s1 : MS} {Z : Ends}
theorem GH.hk {hds : List ExceptHandler} {l : List (Value × TS)} {hs : List (String × MS)} (h : GH G X n hds l hs) : HK X n hds l := by
  induction h with
  | nil => exact .nil
  | cons hc hm hsu r ih => exact .cons hc hsu ih
theorem suite_end {w : Wo} {st st2 : DSt} {σ σ2 : L2.St} {H H2 : Hp} {w2 : Wo} {r : Option SR} (E : Ev (Mu st σ) w H (Mu st2 σ2) w2 H2) (P : PostS (cn G X) W w st σ H Z (match r with
      | some (.nx st2) => some (.nx (st2.put i none))
      | some (.bk st2) => some (.bk (st2.put i none))
      | some (.ct st2) => some (.ct (st2.put i none))
      | some (.rt (.vr j) st2) => if j = i then none else some (.rt (.vr j) (st2.put i none))
      | some (.rt v st2) => some (.rt v (st2.put i none))
      | _ => none)) : PostS (cn G X) WN w2 st2 σ2 H2 { nx := fun σ' H' => Z.nx (σ'.set i none) H', rt := Z.rt, bk := fun σ' H' => Z.bk (σ'.set i none) H', ct := fun σ' H' => Z.ct (σ'.set i none) H' } r := by
  have to : ∀ {st3 : DSt} {σ6 : L2.St} {w6 : Wo} {H6 : Hp}, Ev (Mu st2 σ2) w2 H2 (Mu st3 σ6) w6 H6 → Ev (Mu st σ) w H (Mu (st3.put i none) (σ6.set i none)) w6 H6 := fun E6 => (E.trans E6).to fun a h => h.gone
  match r, P with
  | none, P => exact P
  | some (.nx st3), P => exact fun w6 σ6 H6 E6 W6 => P w6 _ H6 (to E6) (W6.gone i)
  | some (.bk st3), P => exact fun w6 σ6 H6 E6 W6 => P w6 _ H6 (to E6) (W6.gone i)
  | some (.ct st3), P => exact fun w6 σ6 H6 E6 W6 => P w6 _ H6 (to E6) (W6.gone i)
  | some (.exc c fs st3), P => exact P.elim
  | some (.rt (.vr j) st3), P =>
    intro w6 σ6 H6 v E6 W6 R
    by_cases hj : j = i
    · subst hj
      have P : PostS (cn G X) W w st σ H Z (if j = j then none else some (.rt (.vr j) (st3.put j none))) := P
      rw [if_pos rfl] at P
      exact P.elim
    · have P : PostS (cn G X) W w st σ H Z (if j = i then none else some (.rt (.vr j) (st3.put i none))) := P
      rw [if_neg hj] at P
      exact P w6 (σ6.set i none) H6 v (to E6) (W6.gone i) (show (σ6.set i none)[j]? = some (some v) by rw [set_ne hj]; exact R)
  | some (.rt (.frz d) st3), P => exact fun w6 σ6 H6 v E6 W6 R => P w6 (σ6.set i none) H6 v (to E6) (W6.gone i) R
  | some (.rt (.own d) st3), P =>
    intro w6 σ6 H6 v E6 W6 R
    obtain ⟨p, e1, e2, e3, e4, e5, e6⟩ := R
    refine P w6 (σ6.set i none) H6 v (to E6) (W6.gone i) ⟨p, e1, ?_, e3, e4, fun z => e5 z.gone, e6⟩
    cases q : H p with
    | none => rfl
    | some u => exact absurd e2 (E.dom p (by rw [q]; simp))
theorem hdl_ok {hds : List ExceptHandler} {l : List (Value × TS)} {hs : List (String × MS)} {c : String} {fs : List (Str × D)} {w w' : Wo} {st st1 : DSt} {σ σ' : L2.St} {H H' : Hp} {C : Addr} {d : Option Addr} (gh : GH G X n hds l hs) (g : (cn G X).G c = some C) (E : Ev (Mu st σ) w H (Mu st1 σ') w' H')
    (W1 : Wd (cn G X) w' st1 σ' H') (x : XRep X.K H w' H' d fs) (P : PostS (cn G X) W w st σ H Z (hdl i c fs st1 hs)) : wK X.K i Z l W (.ref C) d σ' H' := by
  induction gh with
  | nil => exact P w' σ' H' C d g E W1 x
  | @cons x' c' C' s b₀ suite np pos' hds l hs hc hm hsu r ih =>
    unfold hdl at P
    refine ⟨_, hm c C g, fun hb => ⟨C, rfl, fun a na => ?_⟩, fun hb => ?_⟩
    · rw [if_pos (of_decide_eq_true hb)] at P
      obtain ⟨w2, W2, E2⟩ := exc_world i W1 rfl g x na E
      exact ⟨w2, _, W2, suite_end E2 P⟩
    · rw [if_neg (of_decide_eq_false hb)] at P
      exact ih P
theorem gs_try (hst : X.stack = X.env :: X.outer) (hf : X.env.frame = some X.env.locals) (hex : X.ex = []) (hN : X.N.Nodup) (hi : X.N[i]? = some n) (hln : X.env.kindOf n = some .local) (tk : Takes X W)
    (hb : ∀ (W' : WX) (pn : List (Addr × Obj)) (xe : Value → Shared → Prop), Takes (X.tr pn xe) W' → PassesOwn (model X.prog X.w) X.A X.env xe → GSs G (X.tr pn xe) W' body s1) (gh : GH G X n (h₀ :: hds) l hs) :
    GS G X W (.Try body (h₀ :: hds) [] [] pos) (sTry i s1 hs) :=
  PS_imp (ps_tryK (tb := fun W' => tS G X W' s1) hst hf hex hN hi hln tk hb gh.hk) fun Z σ H ⟨w, st, W0, P⟩ => by
    refine ⟨w, st, W0, ?_⟩
    unfold sTry at P
    cases e : s1 st with
    | none => rw [e] at P; exact P.elim
    | some r =>
      rw [e] at P
      cases r with
      | exc c fs st1 => exact fun w' σ' H' C d g E W1 x => hdl_ok gh g E W1 x P
      | nx st1 => exact P
      | bk st1 => exact P
      | ct st1 => exact P
      | rt v st1 => exact P

/-! ### raise C() -/
def sRaise0 (c : String) : MS := fun st => some (.exc c [] st)
theorem gs_raise0 {c : String} {C : Addr} {e : Expr} (hc : X.calm = true) (tk : Takes X W) (hG : G c = some C) (mk : PMk X e (fun _ H Q => Q (.ref C) none H)) : GS G X W (.Raise (some e) none pos) (sRaise0 c) :=
  PS_imp (ps_raise hc tk mk) fun Z σ H ⟨w, st, W0, P⟩ => P w σ H C none hG (.refl _ _ _) W0 (.inl ⟨rfl, rfl⟩)
end
end FB

/-! FBEIs: isinstance and the fields of an exception that stands, with or without its own dict. -/
namespace FB
open PySem PySem.Spec PyProof.Rows L2
namespace EI
open PySem.W PySem.Calls
section
variable {P : Program} {w : World} {A : Around} {E : Value → Shared → Prop} {s : Shared} {K : Frag} {e D : Addr} {oe : Obj} {od : Option Obj}
/-- the class of an exception, as x.__class__ tells it -/
theorem cls_of {R : Option Value → Shared → Prop} (c : ExcC K D) (kin : K.In s.heap) (I : InstAt s.heap e oe D od) (h : R (some (.ref D)) { s with toks := s.toks + 1 }) : wpAny (model P w) A (getAttr? (.ref e) "__class__") R E s := by
  have isc : (clsIn K D).isSome = true := let ⟨cd, hc, _⟩ := any_some c.hd; by rw [hc]; rfl
  have found : findObj K D od "__class__" = some (.bind (.builtin "getset_descriptor.__get__") (.builtin "object.__class__")) := by
    cases od with
    | none => exact findObj_dataN isc c.ha c.hn c.ht
    | some o => exact findObj_data isc c.ha c.hn c.ht
  obtain ⟨hp, gs, dr, tk, os⟩ := s
  have T0 := I.type (M := model P w)
  have T1 := looks_findIn (M := model P w) kin c.hg
  have T2 := looks_findIn (M := model P w) kin c.hk
  have T3 := looks_find (M := model P w) kin I found
  have isb : Looks (model P w) hp (isInstance (.ref e) (.type "BaseException")) true := T0.andThen (looks_subIn kin c.hs)
  have n1 : (Value.builtin "BaseException.__getattribute__" == Value.builtin "object.__getattribute__") = false := by decide +kernel
  have n2 : (onTheHeap (Value.ref D) && Value.builtin "BaseException.__getattribute__" == Value.builtin "object.__getattribute__") = false := by rw [n1]; rfl
  unfold getAttr? getAttrBy? getAttrBy
  refine wpAny_bind (wpAny_mkText (wpAny_bind (wpAny_attempt (wpAny_holding (wpAny_bind (T0.at (wpAny_bind (T1.at ?_))))))))
  show wpAny _ _ (if (onTheHeap (Value.ref D) && Value.builtin "BaseException.__getattribute__" == Value.builtin "object.__getattribute__") = true then _ else _) _ _ _
  rw [n2, if_neg Bool.false_ne_true]
  unfold getAttrByItsOwn hookBefore
  refine wpAny_bind ?_
  rw [if_pos (show onTheHeap (Value.ref D) = true by rfl)]
  refine T2.at (wpAny_bind (wpAny_attempt (wpAny_holding ?_)))
  unfold callGetattribute
  rw [show (false && onTheHeap (Value.builtin "BaseException.__getattribute__")) = false by rfl, if_neg Bool.false_ne_true]
  unfold boundAndCalled
  rw [PySem.F.excAttr_ValueError.ga.bind (.ref e)]
  refine wpAny_bind (wpAny_pure ?_)
  show wpAny _ _ (call (.builtin "BaseException.__getattribute__") [.ref e, .str "__class__" tk]) _ _ _
  refine wpAny_call (codeAny_call_builtin PySem.F.excAttr_ValueError.ga.plain PySem.F.entry_bexc_ga (@check_slot (model P w) _ _ ⟨hp, gs, dr, tk + 1, os⟩ "BaseException.__getattribute__" "BaseException" "__getattribute__" (.ref e) [.str "__class__" tk] [] _ (by decide +kernel) (by decide +kernel) isb (PySem.F.args_bexc_ga (.ref e) (.str "__class__" tk)) ?_))
  unfold Builtin.«object.__getattribute__»
  refine wpAny_bind (wpAny_of_eq (a := ((Value.ref e : Value), [Value.str "__class__" tk])) (by first | rfl | (simp only [slotArgs]; rfl)) (wpAny_bind (wpAny_pure (wpAny_bind (T0.at (wpAny_bind (T3.at ?_)))))))
  show wpAny _ _ (holding [Value.builtin "object.__class__"] (call (.builtin "getset_descriptor.__get__") [.builtin "object.__class__", .ref e, .ref D]) >>= ret) _ _ _
  refine wpAny_bind (wpAny_holding (wpAny_call (class_get (s := ⟨hp, gs, dr, tk + 1, os⟩) (ox := oe) (od := od) kin I c.hm (wpAny_pure ?_))))
  show wpAny _ _ (handedOut (.ref D)) _ _ _
  rw [handedOut_of (v := .ref D) rfl]
  first
    | exact wpAny_pure (wpAny_pure h)
    | exact wpAny_pure h
    | exact wpAny_pure (wpAny_bind (wpAny_pure (wpAny_pure h)))
theorem kit (c : ExcC K D) : KitX K (.ref e) (.ref D) (fun h => ∃ oe od, InstAt h e oe D od) where
  ty := fun _ _ _ ⟨_, _, I⟩ => I.type
  it := fun _ _ kin _ => by
    obtain ⟨cd, hc, _⟩ := any_some c.hd
    unfold clsIn at hc
    split at hc
    · rename_i ho
      exact fun {A' Q' E' s'} k q => by
        unfold isType loadHead
        exact wpAny_bind (wpAny_loadPart (k _ _ (kin _ _ ho)) (wpAny_pure q))
    · cases hc
  ne := fun h tp dd its n sl kin ht => by
    obtain ⟨cd, hc, _⟩ := any_some c.hd
    by_cases q : D = tp
    · subst q
      unfold clsIn at hc
      split at hc
      · rename_i ho
        cases (kin _ _ ho).symm.trans ht
      · cases hc
    · exact beq_eq_false_iff_ne.mpr fun z => q (Value.ref.inj z)
  ca := fun kin ⟨_, _, I⟩ k => cls_of c kin I k
end
end EI

section
variable {G : String → Option Addr} {X : Cx} {W : WX} {e a b c : Expr} {ma mb mc me : M Val} {pos : Pos}
/-- an exception that stands is an instance of its class -/
theorem xO_inst {pins : List (Addr × Obj)} {σ : L2.St} {H : Hp} {s : Shared} {a C : Addr} {d : Option Addr} (I : Inv X pins σ H s) (e : H a = some (xO a C d)) (hd : ∀ dd, d = some dd → ∃ fv, H dd = some (.xd fv)) : ∃ oe od, PySem.W.InstAt s.heap a oe C od := by
  have x : ObjOk X.prog X.w H s.heap a (xO a C d) := I.hok a _ e
  obtain ⟨⟨oe, h1, h2, h3, vs, h4⟩, _⟩ := x
  have hno : PySem.W.notCls oe = true := by unfold PySem.W.notCls; rw [h4] <;> rfl
  cases d with
  | none => exact ⟨oe, none, h1, h2, hno, by rw [h3]; trivial⟩
  | some dd =>
    obtain ⟨fv, q⟩ := hd dd rfl
    obtain ⟨mA, hns, hr⟩ := (show ObjOk X.prog X.w H s.heap dd (.xd fv) from I.hok dd _ q)
    obtain ⟨od, ho, hl⟩ := lookIn_ns hns
    exact ⟨oe, some od, h1, h2, hno, by rw [h3]; exact ho⟩
/-- isinstance(x, T), x an exception that stands -/
def rIsX (K : PySem.W.Frag) : List V → Hp → VK → Prop := fun xs H Q => ∃ (a C : Addr) (d : Option Addr) (T : String) (b : Bool), xs = [.ref a, .ty T] ∧ H a = some (xO a C d) ∧ (∀ dd, d = some dd → ∃ fv, H dd = some (.xd fv)) ∧ ExcC K C ∧ PySem.W.kitOne K (.ref C) (.type T) = some b ∧ Q (.bl b) H
theorem call_isX : CallR X (.builtin "isinstance") (rIsX X.K) := by
  intro pins s σ H xs us Q I r h
  obtain ⟨a, C, d, T, b, rfl, e1, hd, ec, e2, q⟩ := h
  obtain ⟨u1, u2, rfl, r1, r2⟩ := vals2 r
  cases (show u1 = Value.ref a from r1)
  cases (show u2 = Value.type T from r2)
  exact PySem.W.kia_one (EI.kit ec) I.kIn (xO_inst I e1 hd) e2 (fun z => nomatch z) fun tk => ⟨.bl b, H, I.tok tk, rfl, q⟩
/-- what each class of ours is: IT C T says whether C is a T -/
structure IsF (G : String → Option Addr) (K : PySem.W.Frag) (IT : String → String → Option Bool) : Prop where
  ok : ∀ c C T b, G c = some C → IT c T = some b → ExcC K C ∧ PySem.W.kitOne K (.ref C) (.type T) = some b
def isiE (IT : String → String → Option Bool) : List D → Option Slot
  | [.exv c fs, .ty T] => (IT c T).map fun b => .frz (.bl b)
  | ds => isiD ds
abbrev rIsE' (X : Cx) : List V → Hp → VK → Prop := fun xs H Q => rIsX X.K xs H Q ∨ rIsi X.K xs H Q
theorem cr_isE : CallR X (.builtin "isinstance") (rIsE' X) := call_isX.or call_isi
theorem exv_at {n : Cn} {w : Wo} {so : Sto} {H : Hp} {v : V} {c : String} {fs : List (Str × D)} (hp : n.pn = []) (W : WdS n w so H) (h : Rep n.K w v (.exv c fs)) :
    ∃ a C d, v = .ref a ∧ n.G c = some C ∧ H a = some (xO a C d) ∧ (∀ dd, d = some dd → ∃ fv, H dd = some (.xd fv) ∧ RepF n.K w fv fs) ∧ (d = none → fs = []) := by
  cases h with
  | exv0 e =>
    obtain ⟨C, g, h | ⟨_, h, _⟩⟩ := W.exs _ _ _ e
    · exact ⟨_, C, none, rfl, g, h.1, (fun _ z => nomatch z), fun _ => rfl⟩
    · rw [hp] at h; cases h
  | exv e f r =>
    obtain ⟨C, g, h | ⟨_, h, _⟩⟩ := W.exs _ _ _ e
    · refine ⟨_, C, some _, rfl, g, h.1, fun dd z => ?_, fun z => nomatch z⟩
      cases z
      rcases W.sub _ _ f with q | ⟨q, _⟩
      · exact ⟨_, q, r⟩
      · cases q
    · rw [hp] at h; cases h
theorem cs_isE {IT : String → String → Option Bool} (F : IsF G X.K IT) : CallS G X (rIsE' X) (isiE IT) := by
  intro w st σ H xs ds s Q W vx e P
  unfold isiE at e
  split at e
  · obtain ⟨x, y, rfl, v1, v2⟩ := vx.two
    obtain ⟨b, e1, rfl⟩ := om e
    have r2 : Rep X.K w y (.ty _) := v2
    cases r2
    obtain ⟨a, C, d, rfl, g, ha, hd, _⟩ := exv_at (n := cn G X) rfl W.toWdS (show Rep (cn G X).K w x (.exv _ _) from v1)
    obtain ⟨ec, k⟩ := F.ok _ _ _ _ g e1
    exact .inl ⟨a, C, d, _, b, rfl, ha, fun dd z => let ⟨fv, q, _⟩ := hd dd z; ⟨fv, q⟩, ec, k, Res.bl P W⟩
  · exact .inr (cs_isi w st σ H xs _ s Q W vx e P)
end
theorem kit_exc {K : PySem.W.Frag} {C : Addr} {T : String} {b : Bool} (h : PySem.W.mroIn K C (.type T) = some b) (hm : PySem.W.kitMeta T = true) : PySem.W.kitOne K (.ref C) (.type T) = some b := by
  unfold PySem.W.kitOne
  rw [if_neg (show ¬ ((Value.ref C == Value.type T) = true) by simp)]
  unfold PySem.W.kitCls
  dsimp only
  rw [if_pos hm]
  exact h
end FB

/-! FBIter: what loops walk. -/
namespace FB
open PySem PySem.Spec PyProof.Rows L2
section
variable {G : String → Option Addr} {X : Cx} {W : WX} {tg e a b c : Expr} {ma mb me : M Val} {mas : M (List Val)} {pos : Pos}
/-! ### a list, a tuple -/
def seqD : D → Option (List D)
  | .lst ds => some ds
  | .tup ds => some ds
  | .scr ns => some (ns.map .int)
  | _ => none
def mSeq (m : M Val) : M (List D) := M.bind m fun v => M.bind (mFrz v) fun d => mOpt (seqD d)
def iSeq (K : PySem.W.Frag) (tl : TE) : TI := fun σ H R => tl σ H fun x H1 => ∃ a, x = .ref a ∧ (((∃ xs, SqL K H1 a xs) ∧ R (Itl K a) H1) ∨ ((∃ xs, SqT K H1 a xs) ∧ R (Itt K a) H1))
theorem pi_seq {tl : TE} (hl : PE X e tl) : PI X tg e (iSeq X.K tl) := by
  refine ⟨fun pins s σ H R I h => thn (hl.run pins s σ H _ I h) fun v s1 ⟨x, H1, I1, r1, a, ex, q⟩ => ?_⟩
  subst ex
  cases r1
  have mine : ∀ b ∈ [s1.heap.objs.size], FpOk X pins H1 b := fun b hb => by
    cases List.mem_singleton.mp hb
    exact I1.fpOk (Nat.le_refl _) (I1.hok.fresh (Nat.le_refl _))
  rcases q with ⟨⟨xs, hq⟩, q⟩ | ⟨⟨xs, hq⟩, q⟩
  · obtain ⟨its, _, p, _⟩ := I1.list hq
    exact wpAny_pyIter_list p.isList ⟨s1.heap.objs.size, [s1.heap.objs.size], _, _, H1, rfl, I1.kept (t' := s1.toks) fun b o z => Heap.get?_push_of_some _ z, turn_list a _, ⟨_, Heap.get?_push_size _ rfl, rfl, rfl⟩, mine, q⟩
  · obtain ⟨its, _, p, _⟩ := I1.tuple hq
    exact wpAny_pyIter_tuple (show s1.heap.IsTuple a its.toArray from p) ⟨s1.heap.objs.size, [s1.heap.objs.size], _, _, H1, rfl, I1.kept (t' := s1.toks) fun b o z => Heap.get?_push_of_some _ z, turn_tuple a _, ⟨_, Heap.get?_push_size _ rfl, rfl, rfl⟩, mine, q⟩
theorem it_at {n : Cn} {w : Wo} {st : DSt} {σ : L2.St} {H : Hp} {J : It} {Gd : Hp → Prop} {vs : List V} {ds : List D} (wk : Walk J ds.length Gd (YAt vs)) (hg : ∀ w2 st2 σ2 H2, Ev (Mu st σ) w H (Mu st2 σ2) w2 H2 → Wd n w2 st2 σ2 H2 → Gd H2) (r : Reps n.K w vs ds) : ItOk n J (Mu st σ) w H ds :=
  ⟨Gd, _, wk, hg, fun i w2 st' σ' H2 x H3 le W2 hi ⟨e, hx⟩ => by
    subst e
    obtain ⟨d, hd, rr⟩ := r.get hx
    exact ⟨d, w2, hd, W2, .refl _ _ _, rr.mono le⟩⟩
theorem gi_seq (he : GE G X W e me) : GI G X W tg e (mSeq me) :=
  PI_imp (pi_seq he) fun σ H R ⟨w, st, W0, P⟩ => tE_bind W0 (.refl _ _ _) P fun x H1 w1 st1 va W1 E1 _ R1 P1 => by
    obtain ⟨d, st2, e2, P2⟩ := mFrz_bind P1
    obtain ⟨w2, F, r⟩ := frz_ok W1 E1 (VRep.F R1) e2
    obtain ⟨ds, e3, P3⟩ := mOpt_ok P2
    have gof : ∀ w3 st3 σ3 H3, Ev (Mu st2 σ) w2 H1 (Mu st3 σ3) w3 H3 → Wd (cn G X) w3 st3 σ3 H3 → WLe w2 w3 ∧ Sub w3.F H3 := fun w3 st3 σ3 H3 E W => ⟨E.le, W.sub⟩
    cases d <;> try (cases e3; done)
    case lst ds' =>
      cases e3
      cases r with
      | @lst p vs _ h r =>
        exact ⟨p, rfl, .inl ⟨⟨vs, SqL.of (sub_lst F.wd.sub h)⟩, P3 w2 H1 _ F.ev F.wd (it_at (vs := vs) (Gd := fun H => SqL X.K H p vs) (by rw [← r.length]; exact walk_list) (fun w3 st3 σ3 H3 E W => SqL.of (sub_lst W.sub (E.le.F _ _ h))) r)⟩⟩
    case scr ns =>
      cases e3
      cases r with
      | @scr p _ h =>
        exact ⟨p, rfl, .inl ⟨⟨_, sub_scr F.wd.sub h⟩, P3 w2 H1 _ F.ev F.wd (it_at (vs := ns.map V.int) (Gd := fun H => SqL X.K H p (ns.map V.int)) (by rw [← (Reps.ints (K := X.K) (w := w2) ns).length]; exact walk_list) (fun w3 st3 σ3 H3 E W => sub_scr W.sub (SqL.fle E.le.F h)) (Reps.ints ns))⟩⟩
    case tup ds' =>
      cases e3
      cases r with
      | @tup p vs _ h r =>
        exact ⟨p, rfl, .inr ⟨⟨vs, sub_tup F.wd.sub h⟩, P3 w2 H1 _ F.ev F.wd (it_at (vs := vs) (Gd := fun H => SqT X.K H p vs) (by rw [← r.length]; exact walk_tup) (fun w3 st3 σ3 H3 E W => sub_tup W.sub (SqT.fle E.le.F h)) r)⟩⟩
/-! ### range -/
def rngD (lo : Int) (n : Nat) : List D := (List.range n).map fun i => .int (lo + (i : Nat))
def rng1 : List D → Option (List D)
  | [.int j] => if -4611686018427387904 ≤ j ∧ j < 4611686018427387904 then some (rngD 0 j.toNat) else none
  | _ => none
def rng2 : List D → Option (List D)
  | [.int i, .int j] => if (-4611686018427387904 ≤ i ∧ i < 4611686018427387904) ∧ -4611686018427387904 ≤ j ∧ j < 4611686018427387904 then some (rngD i (j - i).toNat) else none
  | _ => none
def mRng (f : List D → Option (List D)) (mas : M (List Val)) : M (List D) := M.bind mas fun vs => M.bind (mGets vs) fun ds => mOpt (f ds)
theorem it_range {n : Cn} {w : Wo} {st : DSt} {σ : L2.St} {H : Hp} (lo : Int) (k : Nat) : ItOk n (Itr lo k) (Mu st σ) w H (rngD lo k) :=
  ⟨fun _ => True, YFn fun i => .int (lo + i), by
    have e : (rngD lo k).length = k := by unfold rngD; rw [List.length_map, List.length_range]
    rw [e]
    exact walk_range, fun _ _ _ _ _ _ => trivial, fun i w2 st' σ' H2 x H3 le W2 hi ⟨e, hx⟩ => by
    subst e hx
    have hi : i < k := by
      have e : (rngD lo k).length = k := by unfold rngD; rw [List.length_map, List.length_range]
      omega
    exact ⟨.int (lo + i), w2, by unfold rngD; rw [List.getElem?_map, List.getElem?_range hi]; rfl, W2, .refl _ _ _, .int _⟩⟩
theorem gi_range1 {p : Pos} (hg : Gl X "range") (hm : X.mg "range" = none) (ha : GA G X W [a] mas) (hs : starEach [a] X.env = [(false, eval a X.env)] := by rfl) : GI G X W tg (.Call (.Name "range" p) [a] [] pos) (mRng rng1 mas) :=
  PI_imp (pi_range1 hg hm ha hs) fun σ H R ⟨w, st, W0, P⟩ => tA_bind W0 (.refl _ _ _) P fun vs H1 w1 st1 xs W1 E1 _ R1 P1 => by
    obtain ⟨ds, v1, P1⟩ := mGets_ok W1 R1.ps P1
    obtain ⟨l, e, P1⟩ := mOpt_ok P1
    unfold rng1 at e
    split at e
    · obtain ⟨x, rfl, u1⟩ := v1.one
      obtain ⟨hz, e⟩ := gi e
      cases e
      exact ⟨_, by rw [view_int u1], by omega, by omega, P1 w1 H1 _ E1 W1 (it_range 0 _)⟩
    · cases e
theorem gi_range2 {p : Pos} (hg : Gl X "range") (hm : X.mg "range" = none) (ha : GA G X W [a, b] mas) (hs : starEach [a, b] X.env = [(false, eval a X.env), (false, eval b X.env)] := by rfl) (hs2 : starEach [b] X.env = [(false, eval b X.env)] := by rfl) :
    GI G X W tg (.Call (.Name "range" p) [a, b] [] pos) (mRng rng2 mas) :=
  PI_imp (pi_range2 hg hm ha hs hs2) fun σ H R ⟨w, st, W0, P⟩ => tA_bind W0 (.refl _ _ _) P fun vs H1 w1 st1 xs W1 E1 _ R1 P1 => by
    obtain ⟨ds, v1, P1⟩ := mGets_ok W1 R1.ps P1
    obtain ⟨l, e, P1⟩ := mOpt_ok P1
    unfold rng2 at e
    split at e
    · obtain ⟨x, y, rfl, u1, u2⟩ := v1.two
      obtain ⟨⟨h1, h2⟩, e⟩ := gi e
      cases e
      exact ⟨_, _, by rw [view_int u1, view_int u2], by omega, P1 w1 H1 _ E1 W1 (it_range _ _)⟩
    · cases e
end
end FB

/-! FBEnd: a law's end, by its denotation. -/
namespace FB
open PySem PySem.Spec PyProof.Rows L2
/-- as spF, wherever the classes lie -/
def spD (K : PySem.W.Frag) (np : Nat) (den : Den) : Sp := fun vs H Q E => ∀ G, spF ⟨K, G, []⟩ np den vs H Q E
theorem FnG.imp {P : Program} {w : World} {K : PySem.W.Frag} {mg : Str → Option Value} {base : Heap} {cx : CXT} {k : Nat} {f : Addr} {fd : FuncData} {ps : List Str} {sp sp' : Sp} (F : FnG P w K mg base cx k f fd ps sp) (h : ∀ vs H Q E, sp' vs H Q E → sp vs H Q E) :
    FnG P w K mg base cx k f fd ps sp' := ⟨fun vs H Q E q => F.len vs H Q E (h _ _ _ _ q), fun A outer s H us vs Q E ag g hr e0 b r q => F.go A outer s H us vs Q E ag g hr e0 b r (h _ _ _ _ q)⟩
theorem spD_law {K : PySem.W.Frag} {den : Den} {ns : List Int} (h : ∃ so, den [.scr ns] [] = some (.ret (.frz (.bl true)) so)) {H : Hp} {a : Addr} (only : Only H) (hs : SqL K H a (ns.map V.int)) : spD K 1 den [.ref a] H (fun v _ => v = .bl true) fun _ _ _ => False := by
  obtain ⟨so, e⟩ := h
  intro G
  refine ⟨⟨H, fun _ => none, fun _ => none, fun _ => none⟩, [], [.scr ns], ⟨fun a u e => .inl e, fun _ _ e => (by cases e), fun k o e => (by cases e), fun _ _ e => (by cases e), fun _ _ _ e => (by cases e)⟩, .cons (.scr hs) .nil, rfl, ?_⟩
  rw [e]
  intro w' H' v _ _ r
  exact Rep.bl_v r
theorem lawEnd {l : PySem.W.OpenLaw} {n k : Nat} {q : Program} {loose : List Str} {XP : (Str → Option Value) → Heap → Prop} {YP : World → Heap → Prop} {d : DefRec} {K : Params → PySem.W.Frag} {den : Den} {x : Str}
    (hn : l.most = some n) (hn2 : n ≤ sizeLine) (hdf : d.params.defaults = []) (hr : Room k callerA) (hY : ∀ (w : World) (h : Heap), YP w h → (K w.params).In h)
    (F : ∀ (w : World) (mg : Str → Option Value) (fa : Addr) (h : Heap), (K w.params).In h → h.Ns mainGlobals mg → mg d.name = some (.ref fa) →
      ∃ fd : FuncData, (∀ (s : Shared) (u : Value), BindsTo s fd ⟨[u], []⟩ [(x, u)]) ∧ ∀ base : Heap, (K w.params).In base → base.Ns mainGlobals mg → FnG l.prog w (K w.params) mg base (L2.CX l.prog w) k fa fd [x] (spD (K w.params) 1 den))
    (hlaw : ∀ ns : List Int, ns.length ≤ n → (∀ z ∈ ns, Builtin.Int.intBits z ≤ 1048576) → ∃ so, den [.scr ns] [] = some (.ret (.frz (.bl true)) so)) :
    PySem.W.WalkO q loose XP YP l.row.toRowW d [] (fun f vs => PySem.call f vs) :=
  walkG (K := K) (cx := fun w => L2.CX l.prog w) (sp := fun w => spD (K w.params) 1 den) hn hn2 hdf hr hY F (fun w H a ns h1 h2 h3 h4 => spD_law (hlaw ns h1 h2) h3 h4) fun _ _ _ _ _ z => by
    obtain ⟨_, _, _, _, _, _, _, _, _, _, _, _, z⟩ := z
    exact z.elim
end FB

/-! FBPlain: plain laws of the data: lists of numbers, equality, bits; the law's pen. -/
namespace FB
open PySem PySem.Spec PyProof.Rows L2

/-! ### lists of numbers -/
abbrev lints (ns : List Int) : D := .lst (ns.map .int)
theorem toPs_ints : ∀ ns : List Int, toPs (ns.map .int) = some (ns.map PyData.int)
  | [] => rfl
  | n :: ns => by
    simp only [List.map_cons, toPs, toP, toPs_ints ns]
theorem toP_ints (ns : List Int) : toP (lints ns) = some (.list (ns.map PyData.int)) := by
  simp only [toP, toPs_ints, Option.map_some]
theorem canLay_ints : ∀ ns : List Int, PyData.canLayAll0 (ns.map PyData.int) = true
  | [] => rfl
  | n :: ns => by simp only [List.map_cons, PyData.canLayAll0, PyData.canLay0, canLay_ints ns, Bool.and_self]
theorem depth_ints : ∀ ns : List Int, PyData.depthAll (ns.map PyData.int) = 0
  | [] => rfl
  | n :: ns => by simp only [List.map_cons, PyData.depthAll, PyData.depth, depth_ints ns, Nat.max_self]
theorem shaped_ints (ns : List Int) : SeqAt.shaped (.list (ns.map PyData.int)) = true := by
  simp [SeqAt.shaped, PyData.canLay0, canLay_ints, PyData.depth, depth_ints]
theorem eqv_ints : ∀ a b : List Int, PyData.eqvAll (a.map PyData.int) (b.map PyData.int) = decide (a = b)
  | [], [] => rfl
  | [], _ :: _ => rfl
  | _ :: _, [] => rfl
  | x :: a, y :: b => by
    simp only [List.map_cons, PyData.eqvAll, PyData.eqv, eqv_ints a b]
    by_cases h : x = y
    · subst h
      simp
    · simp [h]
theorem eqB_ints (a b : List Int) : eqB (lints a) (lints b) = some (decide (a = b)) := by
  show (match toP (lints a), toP (lints b) with
    | some p, some q => if SeqAt.shaped p = true ∧ SeqAt.shaped q = true then some (PyData.eqv p q) else none
    | _, _ => none) = _
  rw [toP_ints, toP_ints]
  simp only [shaped_ints, and_self, if_true]
  show some (PyData.eqvAll _ _) = _
  rw [eqv_ints]
theorem intsD_map' (ns : List Int) : intsD (ns.map D.int) = some ns := intsD_map ns
theorem noObjs_ints : ∀ ns : List Int, noObjs (ns.map D.int) = true
  | [] => rfl
  | n :: ns => by simp only [List.map_cons, noObjs, noObj, noObjs_ints ns, Bool.and_self]
theorem noLsts_ints : ∀ ns : List Int, noLsts (ns.map D.int) = true
  | [] => rfl
  | n :: ns => by simp only [List.map_cons, noLsts, noLst, noLsts_ints ns, Bool.and_self]

/-! ### bits -/
theorem bits_le {z : Int} {k : Nat} (h : z.natAbs < 2 ^ k) : Builtin.Int.intBits z ≤ k := by
  unfold Builtin.Int.intBits
  split
  · omega
  · rename_i hz
    have h0 : z.natAbs ≠ 0 := by
      intro e
      apply hz
      simp
      omega
    have := (Nat.log2_lt h0).mpr h
    omega

/-! ### running -/
theorem sSeq_nx {a b : MS} {st st1 : DSt} (h : a st = some (.nx st1)) : sSeq a b st = b st1 := by
  unfold sSeq
  rw [h]
theorem sSeq_rt {a b : MS} {st st1 : DSt} {v : Val} (h : a st = some (.rt v st1)) : sSeq a b st = some (.rt v st1) := by
  unfold sSeq
  rw [h]
theorem sSeq_exc {a b : MS} {st st1 : DSt} {c : String} {fs : List (Str × D)} (h : a st = some (.exc c fs st1)) : sSeq a b st = some (.exc c fs st1) := by
  unfold sSeq
  rw [h]
theorem sIf_at {t : M Bool} {a b : MS} {st st1 : DSt} {c : Bool} (h : t st = some (.ok c st1)) : sIf t a b st = (if c = true then a else b) st1 := by
  unfold sIf M.toS
  rw [h]
theorem sSet_at {i : Nat} {m : M Val} {st st1 : DSt} {d : D} (h : m st = some (.ok (.frz d) st1)) : sSet i m st = some (.nx (st1.put i (some (.frz d)))) := by
  unfold sSet M.toS
  rw [h]
  rfl
theorem bin_at {f : D → D → Option Slot} {ma mb : M Val} {st st1 st2 : DSt} {va vb : Val} {d1 d2 : D} {s : Slot} (ha : ma st = some (.ok va st1)) (hb : mb st1 = some (.ok vb st2)) (h1 : va.get st2 = some d1) (h2 : vb.get st2 = some d2) (hf : f d1 d2 = some s) : mBin f ma mb st = some (.ok s.val st2) := by
  unfold mBin M.bind mOp2
  rw [ha]
  dsimp only
  rw [hb]
  simp only [M.bind, mGet, h1, h2, hf, mSlot]
theorem un_at {f : D → Option Slot} {ma : M Val} {st st1 : DSt} {va : Val} {d1 : D} {s : Slot} (ha : ma st = some (.ok va st1)) (h1 : va.get st1 = some d1) (hf : f d1 = some s) : mUn f ma st = some (.ok s.val st1) := by
  unfold mUn M.bind mOp1
  rw [ha]
  simp only [M.bind, mGet, h1, hf, mSlot]
theorem cb_at {f : List D → Option Slot} {ma : M (List Val)} {st st1 : DSt} {vs : List Val} {ds : List D} {s : Slot} (ha : ma st = some (.ok vs st1)) (h1 : mGets vs st1 = some (.ok ds st1)) (hf : f ds = some s) : mCB f ma st = some (.ok s.val st1) := by
  unfold mCB M.bind
  rw [ha]
  simp only [M.bind, h1, hf, mSlot]
theorem tru_at {m : M Val} {st st1 : DSt} {v : Val} {d : D} {b : Bool} (h : m st = some (.ok v st1)) (h1 : v.get st1 = some d) (h2 : truD d = some b) : mTru m st = some (.ok b st1) := by
  unfold mTru M.bind
  rw [h]
  simp only [M.bind, mGet, h1, mOpt, h2]
theorem bl_at {m : M Val} {st st1 : DSt} {v : Val} {b : Bool} (h : m st = some (.ok v st1)) (h1 : v.get st1 = some (.bl b)) : mBl m st = some (.ok b st1) := by
  unfold mBl M.bind
  rw [h]
  simp only [M.bind, mGet, h1, mOpt, blD]
theorem not_at {m : M Bool} {st st1 : DSt} {b : Bool} (h : m st = some (.ok b st1)) : mNot m st = some (.ok (!b) st1) := by
  unfold mNot M.bind
  rw [h]
  rfl
theorem or_at {a b : M Bool} {st st1 : DSt} {c : Bool} (h : a st = some (.ok c st1)) : mOr a b st = if c = true then some (.ok true st1) else b st1 := by
  unfold mOr M.bind
  rw [h]
  cases c <;> rfl
theorem and_at {a b : M Bool} {st st1 : DSt} {c : Bool} (h : a st = some (.ok c st1)) : mAnd a b st = if c = true then b st1 else some (.ok false st1) := by
  unfold mAnd M.bind
  rw [h]
  cases c <;> rfl
theorem andV_at {a b : M Val} {st st1 : DSt} {v : Val} {c : Bool} (h : a st = some (.ok v st1)) (h1 : v.get st1 = some (.bl c)) : mAndV a b st = if c = true then b st1 else some (.ok (.frz (.bl false)) st1) := by
  unfold mAndV M.bind
  rw [bl_at h h1]
  cases c <;> rfl
theorem ret_at {m : M Val} {st st1 : DSt} {v : Val} (h : m st = some (.ok v st1)) : sRet m st = some (.rt v st1) := by
  unfold sRet M.toS
  rw [h]
theorem cons_at {ma : M Val} {mr : M (List Val)} {st st1 st2 : DSt} {v : Val} {vs : List Val} (h : ma st = some (.ok v st1)) (h2 : mr st1 = some (.ok vs st2)) : mCons ma mr st = some (.ok (v :: vs) st2) := by
  unfold mCons M.bind
  rw [h]
  dsimp only
  rw [h2]
  rfl
theorem ixl_at {ma mb : M Val} {st st1 st2 : DSt} {va vb : Val} {ds : List D} {i : Int} {d : D} (ha : ma st = some (.ok va st1)) (hb : mb st1 = some (.ok vb st2)) (h1 : va.get st2 = some (.lst ds)) (h2 : vb.get st2 = some (.int i)) (hf : atI ds i = some d) : mIx ma mb st = some (.ok (.frz d) st2) := by
  unfold mIx M.bind
  rw [ha]
  dsimp only
  rw [hb]
  dsimp only
  unfold mIx2
  rw [h1]
  unfold mOp2 M.bind
  simp only [mGet, h1, h2, ixAll, ixD, hf, Option.map_some, mSlot, Slot.val]
theorem rng_at {f : List D → Option (List D)} {mas : M (List Val)} {st st1 st2 : DSt} {vs : List Val} {ds l : List D} (ha : mas st = some (.ok vs st1)) (h1 : mGets vs st1 = some (.ok ds st2)) (hf : f ds = some l) : mRng f mas st = some (.ok l st2) := by
  unfold mRng M.bind
  rw [ha]
  simp only [h1, mOpt, hf]
theorem rng1_int {j : Int} : rng1 [.int j] = if -4611686018427387904 ≤ j ∧ j < 4611686018427387904 then some (rngD 0 j.toNat) else none := rfl
theorem rngD_len (lo : Int) (n : Nat) : (rngD lo n).length = n := by unfold rngD; rw [List.length_map, List.length_range]
theorem atI_mem {ds : List D} {i : Int} (h0 : 0 ≤ i) (h1 : i < ds.length) : ∃ d, d ∈ ds ∧ atI ds i = some d := by
  have hr : i.toNat < ds.length := by omega
  refine ⟨ds[i.toNat], List.getElem_mem hr, ?_⟩
  unfold atI ixN
  rw [if_pos h0, if_pos h1]
  simp [hr]
theorem sPar_at {i j : Nat} {m : M (List Val)} {st st1 : DSt} {d e : D} (h : m st = some (.ok [.frz d, .own e] st1)) : sPar i j m st = some (.nx ((st1.put i (some (.frz d))).put j (some (.own e)))) := by
  unfold sPar M.toS
  rw [h]
  rfl
theorem cut_mem {ds : List D} {lo hi : Option Int} {x : D} (h : x ∈ cutD ds lo hi) : x ∈ ds := List.mem_of_mem_drop (List.mem_of_mem_take h)
theorem cut_len (ds : List D) (lo hi : Option Int) : (cutD ds lo hi).length ≤ ds.length := by
  unfold cutD
  rw [List.length_take, List.length_drop]
  omega
theorem sl_at {ma : M Val} {ml mh : M (Option Int)} {st st1 st2 st3 : DSt} {v : Val} {lo hi : Option Int} {ds : List D} (ha : ma st = some (.ok v st1)) (hl : ml st1 = some (.ok lo st2)) (hh : mh st2 = some (.ok hi st3)) (hv : v.get st3 = some (.lst ds)) : mSl ma ml mh st = some (.ok (.own (.lst (cutD ds lo hi))) st3) := by
  unfold mSl M.bind
  rw [ha]
  dsimp only
  rw [hl]
  dsimp only
  rw [hh]
  dsimp only
  unfold mOp1 M.bind
  simp only [mGet, hv, slD, mSlot, Slot.val]
theorem part_at {m : M Val} {st st1 : DSt} {v : Val} {i : Int} (h : m st = some (.ok v st1)) (h1 : v.get st1 = some (.int i)) : mPart m st = some (.ok (some i) st1) := by
  unfold mPart M.bind
  rw [h]
  simp only [M.bind, mGet, h1, M.pure]
theorem if_at {t : M Bool} {a b : M Val} {st st1 : DSt} {c : Bool} (h : t st = some (.ok c st1)) : mIf t a b st = if c = true then a st1 else b st1 := by
  unfold mIf M.bind
  rw [h]
  cases c <;> rfl
theorem eqD_int {i j : Int} : eqD (.int i) (.int j) = some (.frz (.bl (i == j))) := rfl
theorem neD_int {i j : Int} : neD (.int i) (.int j) = some (.frz (.bl (!(i == j)))) := rfl
theorem neD_str {i j : Str} : neD (.str i) (.str j) = some (.frz (.bl (!decide (i = j)))) := rfl
theorem sSet_own {i : Nat} {m : M Val} {st st1 : DSt} {d : D} (h : m st = some (.ok (.own d) st1)) : sSet i m st = some (.nx (st1.put i (some (.own d)))) := by
  unfold sSet M.toS
  rw [h]
  rfl
theorem while_end {t : M Bool} {b : MS} {st st1 : DSt} (h : t st = some (.ok false st1)) : whileM t b st = some (.nx st1) := by
  rw [whileM, h]
  rfl
theorem while_step {t : M Bool} {b : MS} {st st1 st2 : DSt} (h : t st = some (.ok true st1)) (h2 : b st1 = some (.nx st2)) : whileM t b st = whileM t b st2 := by
  rw [whileM, h]
  show (do
    let q ← b st1
    match q with
    | .nx s => whileM t b s
    | .ct s => whileM t b s
    | .bk s => some (.nx s)
    | .rt v s => some (.rt v s)
    | .exc c fs s => some (.exc c fs s)) = _
  rw [h2]
  rfl
theorem for_end {t : Tg} {b : MS} {st : DSt} : forF t b [] st = some (.nx st) := rfl
theorem for_step {t : Tg} {b : MS} {d : D} {ds : List D} {st st1 st2 : DSt} (h : t d st = some st1) (h2 : b st1 = some (.nx st2)) : forF t b (d :: ds) st = forF t b ds st2 := by
  show (match t d st with
    | none => none
    | some st1 => match b st1 with
      | some (.nx s) => forF t b ds s
      | some (.ct s) => forF t b ds s
      | some (.bk s) => some (.nx s)
      | r => r) = _
  rw [h]
  dsimp only
  rw [h2]
theorem for_out {t : Tg} {b : MS} {d : D} {ds : List D} {st st1 : DSt} {r : SR} (h : t d st = some st1) (h2 : b st1 = some r) (hr : (∃ v s, r = .rt v s) ∨ ∃ c fs s, r = .exc c fs s) : forF t b (d :: ds) st = some r := by
  show (match t d st with
    | none => none
    | some st1 => match b st1 with
      | some (.nx s) => forF t b ds s
      | some (.ct s) => forF t b ds s
      | some (.bk s) => some (.nx s)
      | r => r) = _
  rw [h]
  dsimp only
  rw [h2]
  rcases hr with ⟨v, s, rfl⟩ | ⟨c, fs, s, rfl⟩ <;> rfl
theorem sFor_at {mi : M (List D)} {t : Tg} {b : MS} {st st1 : DSt} {ds : List D} (h : mi st = some (.ok ds st1)) : sFor mi t b st = forF t b ds st1 := by
  unfold sFor M.toS
  rw [h]
theorem call_at {den : Den} {ma : M (List Val)} {st st1 st2 : DSt} {vs : List Val} {ds : List D} {s : Slot} {so : Sto} (h1 : ma st = some (.ok vs st1)) (h2 : mFrzs vs st1 = some (.ok ds st2)) (h3 : den ds st2.so = some (.ret s so)) : mCall den ma st = some (.ok s.val { st2 with so := so }) := by
  unfold mCall M.bind
  rw [h1]
  dsimp only
  rw [h2]
  dsimp only
  rw [h3]
theorem callP_at {den : Den} {ma : M (List Val)} {st st1 st2 : DSt} {vs : List Val} {ds : List D} {s : Slot} {so : Sto} (h1 : ma st = some (.ok vs st1)) (h2 : mGets vs st1 = some (.ok ds st2)) (hno : noObjs ds = true) (h3 : den ds [] = some (.ret s so)) (hs : safeS s = true) :
    mCallP den ma st = some (.ok s.val st2) := by
  unfold mCallP M.bind
  rw [h1]
  dsimp only
  rw [h2]
  dsimp only
  unfold callPT
  rw [if_pos hno, h3]
  dsimp only
  rw [if_pos hs]
theorem callP_exc {den : Den} {ma : M (List Val)} {st st1 st2 : DSt} {vs : List Val} {ds : List D} {c : String} {fs : List (Str × D)} {so : Sto} (h1 : ma st = some (.ok vs st1)) (h2 : mGets vs st1 = some (.ok ds st2)) (hno : noObjs ds = true) (h3 : den ds [] = some (.exc c fs so)) (hs : noLstF fs = true) :
    mCallP den ma st = some (.exc c fs st2) := by
  unfold mCallP M.bind
  rw [h1]
  dsimp only
  rw [h2]
  dsimp only
  unfold callPT
  rw [if_pos hno, h3]
  dsimp only
  rw [if_pos hs]
/-- a comprehension whose turns leave the state as it was -/
theorem comp_pure {t : Tg} {c : M Bool} {e : M Val} {vs : List Nat} {p : D → Bool} {g : D → D} {st : DSt} : ∀ {ds acc : List D}, (∀ d ∈ ds, ∃ st1 st2, t d st = some st1 ∧ c st1 = some (.ok (p d) st2) ∧ st2.wipe vs = st ∧ (p d = true → ∃ v st3 st4, e st2 = some (.ok v st3) ∧ mFrz v st3 = some (.ok (g d) st4) ∧ st4.wipe vs = st)) →
    acc.length + ds.length < 16777216 → compF t c e vs acc ds st = some (.ok (acc ++ (ds.filter p).map g) st)
  | [], acc, _, _ => by
    show some (R.ok acc st) = _
    simp
  | d :: ds, acc, h, hl => by
    obtain ⟨st1, st2, h1, h2, h3, h4⟩ := h d List.mem_cons_self
    unfold compF
    rw [h1]
    dsimp only
    rw [h2]
    cases hp : p d with
    | false =>
      dsimp only
      rw [h3, comp_pure (fun d hd => h d (List.mem_cons_of_mem _ hd)) (by simp only [List.length_cons] at hl; omega), List.filter_cons_of_neg (by simp [hp])]
    | true =>
      obtain ⟨v, st3, st4, h5, h6, h7⟩ := h4 hp
      dsimp only
      rw [h5]
      dsimp only
      rw [h6]
      dsimp only
      rw [if_pos (by simp only [List.length_cons] at hl; omega), h7, comp_pure (fun d hd => h d (List.mem_cons_of_mem _ hd)) (by simp only [List.length_cons, List.length_append, List.length_nil] at *; omega), List.filter_cons_of_pos hp, List.map_cons, List.append_assoc]
      rfl
theorem mComp_at {mi : M (List D)} {t : Tg} {c : M Bool} {e : M Val} {vs : List Nat} {st st1 st2 : DSt} {ds acc : List D} (h1 : mi st = some (.ok ds st1)) (h2 : compF t c e vs [] ds (st1.wipe vs) = some (.ok acc st2)) : mComp mi t c e vs st = some (.ok (.own (.lst acc)) (st2.rest st1 vs)) := by
  unfold mComp M.bind
  rw [h1]
  dsimp only
  rw [h2]
/-- things that may be shown and compared -/
structure Good (d : D) : Prop where
  ty : ∃ t, tyN d = some t
  pl : ∃ p, toP d = some p ∧ p.canLay0 = true ∧ p.depth ≤ 20
  no : noObj d = true
theorem goods : ∀ {ds : List D}, (∀ d ∈ ds, Good d) → ∃ ps, toPs ds = some ps ∧ PyData.canLayAll0 ps = true ∧ PyData.depthAll ps ≤ 20 ∧ ps.length = ds.length
  | [], _ => ⟨[], rfl, rfl, by decide, rfl⟩
  | d :: ds, h => by
    obtain ⟨_, ⟨p, e1, e2, e3⟩, _⟩ := h d List.mem_cons_self
    obtain ⟨ps, f1, f2, f3, f4⟩ := goods fun d hd => h d (List.mem_cons_of_mem _ hd)
    refine ⟨p :: ps, by simp only [toPs, e1, f1], by simp only [PyData.canLayAll0, e2, f2, Bool.and_self], ?_, by simp [f4]⟩
    simp only [PyData.depthAll]
    omega
theorem goods_no : ∀ {ds : List D}, (∀ d ∈ ds, Good d) → noObjs ds = true
  | [], _ => rfl
  | d :: ds, h => by simp only [noObjs, (h d List.mem_cons_self).no, goods_no fun d hd => h d (List.mem_cons_of_mem _ hd), Bool.and_self]
theorem eqB_nil {ds : List D} (h : ∀ d ∈ ds, Good d) : eqB (.lst ds) (.lst []) = some ds.isEmpty := by
  obtain ⟨ps, f1, f2, f3, f4⟩ := goods h
  show (match toP (.lst ds), toP (.lst []) with
    | some p, some q => if SeqAt.shaped p = true ∧ SeqAt.shaped q = true then some (PyData.eqv p q) else none
    | _, _ => none) = _
  simp only [toP, f1, toPs, Option.map_some]
  rw [if_pos ⟨by simp [SeqAt.shaped, PyData.canLay0, f2, PyData.depth]; omega, rfl⟩]
  cases ds with
  | nil =>
    cases f1
    rfl
  | cons d ds =>
    cases ps with
    | nil => simp at f4
    | cons p ps => rfl
theorem good_int (i : Int) : Good (.int i) := ⟨⟨_, rfl⟩, ⟨_, rfl, rfl, Nat.zero_le 20⟩, rfl⟩
theorem good_bl (i : Bool) : Good (.bl i) := ⟨⟨_, rfl⟩, ⟨_, rfl, rfl, Nat.zero_le 20⟩, rfl⟩
theorem good_non : Good .non := ⟨⟨_, rfl⟩, ⟨_, rfl, rfl, by decide⟩, rfl⟩
/-! ### the text of numbers -/
def optInts (o : Option Int) : D := .lst (o.toList.map .int)
theorem repr_opt {o : Option Int} (h : ∀ i, o = some i → i.natAbs < 2 ^ 1900) : ∃ s, reprD [optInts o] = some (.frz (.str s)) ∧ s = (PyData.list (o.toList.map PyData.int)).shown := by
  refine ⟨_, ?_, rfl⟩
  unfold reprD
  have e : toP (optInts o) = some (.list (o.toList.map PyData.int)) := toP_ints _
  simp only [e]
  refine if_pos ⟨?_, ?_, ?_⟩
  · cases o with
    | none => rfl
    | some i =>
      have := h i rfl
      have hl : i.natAbs.log2 < 1920 := by
        by_cases hz : i.natAbs = 0
        · rw [hz]; decide
        · have h9 : i.natAbs.log2 < 1900 := (Nat.log2_lt hz).mpr this
          omega
      simp [PyData.showable, PyData.showableAll, hl]
  · cases o with
    | none => decide
    | some i =>
      have := h i rfl
      have hl : i.natAbs.log2 < 1920 := by
        by_cases hz : i.natAbs = 0
        · rw [hz]; decide
        · have h9 : i.natAbs.log2 < 1900 := (Nat.log2_lt hz).mpr this
          omega
      have ht := int_text_length_le (k := 1920) (by decide) hl
      have e : (PyData.list [PyData.int i]).shown = Str.ofString "[" ++ Str.ofString "" ++ Str.ofString (toString i) ++ Str.ofString "]" := rfl
      show (PyData.list [PyData.int i]).shown.length ≤ 16777216
      rw [e, strLen_append, strLen_append, strLen_append, PySem.ofString_length, PySem.ofString_length, PySem.ofString_length, PySem.ofString_length]
      have h1 : "[".length = 1 := by decide
      have h2 : "".length = 0 := by decide
      have h3 : "]".length = 1 := by decide
      omega
  · simp only [PyData.depth]
    rw [depth_ints]
    decide
end FB

/-! FBPen: the law's pen (as gen.py prints it), its plain law: what it draws lies within bounds, and it stays a pen. -/
namespace FB
open PySem PySem.Spec PyProof.Rows L2
def b_pen : MS :=
  sRet (mDisp [(.inr "cells"), (.inr "turn"), (.inr "left")] [mCB toLstD (mCons (mSl (mVar 0) (mNoPart) (mPart (mC (.int 63)))) (mNil)), mC (.int 0), mC (.int 0)])
def d_pen : Den := runF 1 b_pen

def b_draw : MS :=
  sSeq (sIf (mBl (mBin gtD (mIx (mVar 0) (mC (.str "left"))) (mC (.int 0)))) (sSeq (sSet 2 (mBin modD (mIx (mVar 0) (mC (.str "left"))) (mVar 1)))
  (sSeq (sIxSet 0 (mC (.str "left")) (mBin fdivD (mIx (mVar 0) (mC (.str "left"))) (mVar 1)))
  (sRet (mVar 2)))) (sNx))
  (sSeq (sSet 3 (mIx (mVar 0) (mC (.str "turn"))))
  (sSeq (sIxSet 0 (mC (.str "turn")) (mBin addD (mVar 3) (mC (.int 1))))
  (sSeq (sSet 4 (mBin addD (mBin mulD (mC (.int 37)) (mVar 3)) (mC (.int 13))))
  (sSeq (sIf (mBl (mBin neD (mIx (mVar 0) (mC (.str "cells"))) (mLst (mNil)))) (sSet 4 (mIx (mIx (mVar 0) (mC (.str "cells"))) (mBin modD (mVar 3) (mCB lenD (mCons (mIx (mVar 0) (mC (.str "cells"))) (mNil)))))) (sNx))
  (sSeq (sIf (mAnd (mBl (mBin ltD (mVar 3) (mCB lenD (mCons (mIx (mVar 0) (mC (.str "cells"))) (mNil))))) (mBl (mBin geD (mCB absD (mCons (mVar 4) (mNil))) (mBin powD (mC (.int 10)) (mC (.int 18)))))) (sSeq (sIxSet 0 (mC (.str "left")) (mBin fdivD (mBin subD (mCB absD (mCons (mVar 4) (mNil))) (mBin powD (mC (.int 10)) (mC (.int 18)))) (mVar 1)))
  (sRet (mBin modD (mBin subD (mCB absD (mCons (mVar 4) (mNil))) (mBin powD (mC (.int 10)) (mC (.int 18)))) (mVar 1)))) (sNx))
  (sSeq (sSet 5 (mLst (mCons (mC (.int 2147483647)) (mCons (mC (.int 2147483629)) (mCons (mC (.int 2147483587)) (mCons (mC (.int 2147483579)) (mCons (mC (.int 2147483563)) (mNil))))))))
  (sSeq (sSet 6 (mIx (mVar 5) (mBin modD (mVar 3) (mC (.int 5)))))
  (sSeq (sSet 7 (mBin modD (mBin addD (mBin addD (mBin mulD (mBin modD (mVar 4) (mVar 6)) (mC (.int 48271))) (mBin mulD (mBin mulD (mC (.int 40507)) (mVar 3)) (mVar 3))) (mC (.int 31))) (mVar 6)))
  (sSeq (sSet 7 (mBin modD (mBin mulD (mVar 7) (mBin addD (mVar 7) (mC (.int 69621)))) (mIx (mVar 5) (mBin modD (mBin addD (mVar 3) (mC (.int 2))) (mC (.int 5))))))
  (sRet (mBin modD (mBin fdivD (mBin modD (mBin mulD (mVar 7) (mVar 7)) (mC (.int 2147483549))) (mC (.int 64))) (mVar 1))))))))))))
def d_draw : Den := runF 8 b_draw

def b_pick : MS :=
  sRet (mIx (mVar 1) (mCall d_draw (mCons (mVar 0) (mCons (mCB lenD (mCons (mVar 1) (mNil))) (mNil)))))
def d_pick : Den := runF 2 b_pick

def b_great : MS :=
  sSeq (sSet 2 (mC (.int 0)))
  (sSeq (sFor (mRng rng1 (mCons (mVar 1) (mNil))) (tgName 3) (sSet 2 (mBin addD (mBin mulD (mC (.int 10)) (mVar 2)) (mCall d_draw (mCons (mVar 0) (mCons (mC (.int 10)) (mNil)))))))
  (sRet (mVar 2)))
def d_great : Den := runF 4 b_great
abbrev penK (cells : List Int) (turn left : Int) : List (Key × D) := [(.inr "cells", .lst (cells.map .int)), (.inr "turn", .int turn), (.inr "left", .int left)]
abbrev penS (cells : List Int) (turn left : Int) : SObj := .dic (penK cells turn left)
section
variable {cells : List Int} {turn left : Int} {d : D}
theorem v_cells : valD (penK cells turn left) (.inr "cells") = some (.lst (cells.map .int)) := rfl
theorem v_turn : valD (penK cells turn left) (.inr "turn") = some (.int turn) := rfl
theorem v_left : valD (penK cells turn left) (.inr "left") = some (.int left) := rfl
theorem p_turn {z : Int} : putD (penK cells turn left) (.inr "turn") (.int z) = penK cells z left := rfl
theorem p_left {z : Int} : putD (penK cells turn left) (.inr "left") (.int z) = penK cells turn z := rfl
end
theorem atI_ints {cells : List Int} {i : Int} (h0 : 0 ≤ i) (h1 : i < cells.length) : ∃ c, c ∈ cells ∧ atI (cells.map D.int) i = some (.int c) := by
  unfold atI ixN
  rw [if_pos h0, List.length_map, if_pos h1]
  have hj : i.toNat < cells.length := by omega
  exact ⟨cells[i.toNat], List.getElem_mem hj, by simp [List.getElem?_eq_getElem hj]⟩
/-- a pen with room for k more draws -/
def PenP (k : Nat) (so : Sto) : Prop := ∃ cells turn left, so = [penS cells turn left] ∧ cells.length ≤ 63 ∧ (∀ c ∈ cells, Builtin.Int.intBits c ≤ 1048576) ∧ 0 ≤ turn ∧ turn + k ≤ 1000000000 ∧ 0 ≤ left
theorem PenP.mono {j k : Nat} {so : Sto} (h : PenP k so) (hj : j ≤ k) : PenP j so := by
  obtain ⟨c, t, l, h1, h2, h3, h4, h5, h6⟩ := h
  exact ⟨c, t, l, h1, h2, h3, h4, by omega, h6⟩
theorem draw_left {cells : List Int} {turn left many : Int} (h : 0 < left) (hm : 0 < many) (hl : many.natAbs.log2 < 9000) :
    d_draw [.obj 0, .int many] [penS cells turn left] = some (.ret (.frz (.int (left % many))) [penS cells turn (left / many)]) := by
  simp [d_draw, b_draw, runF, st0, sSeq, sIf, M.toS, mBl, mBin, M.bind, mIx, mVar, mC, M.pure, DSt.slot, mIx2, Val.get, Slot.get, keyD, v_left, v_turn, v_cells, p_left, p_turn, mOp2, mGet, intOp, mSlot, Slot.val, blD, mOpt, sSet, sPut, mFrz, mFrzV, DSt.put, sIxSet, slotSet, sRet, outF, Val.slot, h, hm, hl]
theorem draw_new {cells : List Int} {turn many : Int} (hm : 0 < many) (hl : many.natAbs.log2 < 9000) (h2 : ∀ c ∈ cells, Builtin.Int.intBits c ≤ 1048576) (ht : 0 ≤ turn) (ht2 : turn ≤ 1000000000) :
    ∃ r left', 0 ≤ r ∧ r < many ∧ 0 ≤ left' ∧ d_draw [.obj 0, .int many] [penS cells turn 0] = some (.ret (.frz (.int r)) [penS cells (turn + 1) left']) := by
  -- the cell
  obtain ⟨cell, hc⟩ : ∃ cell : Int, ∀ st : DSt, st = ⟨[some (.frz (.obj 0)), some (.frz (.int many)), none, some (.frz (.int turn)), some (.frz (.int (37 * turn + 13))), none, none, none], [penS cells (turn + 1) 0]⟩ →
      sIf (mBl (mBin neD (mIx (mVar 0) (mC (.str "cells"))) (mLst (mNil)))) (sSet 4 (mIx (mIx (mVar 0) (mC (.str "cells"))) (mBin modD (mVar 3) (mCB lenD (mCons (mIx (mVar 0) (mC (.str "cells"))) (mNil)))))) (sNx) st =
        some (.nx ⟨[some (.frz (.obj 0)), some (.frz (.int many)), none, some (.frz (.int turn)), some (.frz (.int cell)), none, none, none], [penS cells (turn + 1) 0]⟩) := by
    by_cases he : cells = []
    · subst he
      refine ⟨37 * turn + 13, fun st e => ?_⟩
      subst e
      rfl
    · have hlen : 0 < (cells.length : Int) := by
        have : cells.length ≠ 0 := fun z => he (List.length_eq_zero_iff.mp z)
        omega
      obtain ⟨c, hc1, hc2⟩ := atI_ints (cells := cells) (i := turn % cells.length) (Int.emod_nonneg _ (by omega)) (Int.emod_lt_of_pos _ hlen)
      refine ⟨c, fun st e => ?_⟩
      subst e
      have hlen2 : 0 < cells.length := by omega
      have hne : neD (lints cells) (lints []) = some (.frz (.bl true)) := by
        unfold neD
        rw [eqB_ints]
        simp [he]
      have hne' : neD (.lst (cells.map .int)) (.lst []) = some (.frz (.bl true)) := hne
      simp [sIf, M.toS, mBl, mBin, M.bind, mIx, mVar, mC, M.pure, DSt.slot, mIx2, Val.get, Slot.get, keyD, v_left, v_turn, v_cells, mLst, mNil, mFrzs, mOp2, mGet, hne', mSlot, Slot.val, blD, mOpt, sSet, mCB, mCons, mGets, lenD, intOp, hlen2, hc2, ixAll, ixD, sPut, mFrz, DSt.put]
  let S : Option Slot → Option Slot → Option Slot → Option Slot → Option Slot → Int → Int → DSt := fun a b c e f t l => ⟨[some (.frz (.obj 0)), some (.frz (.int many)), a, b, c, e, f, none], [penS cells t l]⟩
  have b1 : Builtin.Int.intBits 37 + Builtin.Int.intBits turn ≤ 134217728 := by
    have h1 : Builtin.Int.intBits turn ≤ 40 := bits_le (by omega)
    have h2 : Builtin.Int.intBits 37 ≤ 40 := bits_le (by decide)
    omega
  have small : ∀ {a b : Int}, a.natAbs < 2 ^ 100 → b.natAbs < 2 ^ 100 → Builtin.Int.intBits a + Builtin.Int.intBits b ≤ 134217728 := fun ha hb => by
    have h1 := bits_le ha
    have h2 := bits_le hb
    omega
  have prime : ∀ k : Int, ∃ p : Int, 0 < p ∧ p < 2147483648 ∧ atI [D.int 2147483647, .int 2147483629, .int 2147483587, .int 2147483579, .int 2147483563] (k % 5) = some (.int p) := fun k => by
    have h : k % 5 = 0 ∨ k % 5 = 1 ∨ k % 5 = 2 ∨ k % 5 = 3 ∨ k % 5 = 4 := by omega
    rcases h with h | h | h | h | h <;> rw [h] <;> exact ⟨_, by decide, by decide, rfl⟩
  obtain ⟨p, p0, p1, hp⟩ := prime turn
  obtain ⟨q, q0, q1, hq⟩ := prime (turn + 2)
  -- what is drawn in the end
  have last : ∃ r, 0 ≤ r ∧ r < many ∧ outF ((sSeq (sSet 5 (mLst (mCons (mC (.int 2147483647)) (mCons (mC (.int 2147483629)) (mCons (mC (.int 2147483587)) (mCons (mC (.int 2147483579)) (mCons (mC (.int 2147483563)) (mNil))))))))
  (sSeq (sSet 6 (mIx (mVar 5) (mBin modD (mVar 3) (mC (.int 5)))))
  (sSeq (sSet 7 (mBin modD (mBin addD (mBin addD (mBin mulD (mBin modD (mVar 4) (mVar 6)) (mC (.int 48271))) (mBin mulD (mBin mulD (mC (.int 40507)) (mVar 3)) (mVar 3))) (mC (.int 31))) (mVar 6)))
  (sSeq (sSet 7 (mBin modD (mBin mulD (mVar 7) (mBin addD (mVar 7) (mC (.int 69621)))) (mIx (mVar 5) (mBin modD (mBin addD (mVar 3) (mC (.int 2))) (mC (.int 5))))))
  (sRet (mBin modD (mBin fdivD (mBin modD (mBin mulD (mVar 7) (mVar 7)) (mC (.int 2147483549))) (mC (.int 64))) (mVar 1))))))) (S none (some (.frz (.int turn))) (some (.frz (.int cell))) none none (turn + 1) 0)) =
      some (.ret (.frz (.int r)) [penS cells (turn + 1) 0]) := by
    have m0 := Int.emod_nonneg cell (show p ≠ 0 by omega)
    have m1 := Int.emod_lt_of_pos cell p0
    have c1 := small (a := cell % p) (b := 48271) (by omega) (by decide)
    have c2 := small (a := 40507) (b := turn) (by decide) (by omega)
    have c3 := small (a := 40507 * turn) (b := turn) (by omega) (by omega)
    have m2 := Int.emod_nonneg (cell % p * 48271 + 40507 * turn * turn + 31) (show p ≠ 0 by omega)
    have m3 := Int.emod_lt_of_pos (cell % p * 48271 + 40507 * turn * turn + 31) p0
    generalize hx : (cell % p * 48271 + 40507 * turn * turn + 31) % p = x at m2 m3
    have c4 := small (a := x) (b := x + 69621) (by omega) (by omega)
    have m4 := Int.emod_nonneg (x * (x + 69621)) (show q ≠ 0 by omega)
    have m5 := Int.emod_lt_of_pos (x * (x + 69621)) q0
    generalize hy : x * (x + 69621) % q = y at m4 m5
    have c5 := small (a := y) (b := y) (by omega) (by omega)
    have e1 : (Nat.log2 64) < 9000 := by decide
    refine ⟨y * y % 2147483549 / 64 % many, Int.emod_nonneg _ (by omega), Int.emod_lt_of_pos _ hm, ?_⟩
    simp [S, sSeq, sSet, M.toS, mLst, mCons, mC, mNil, M.bind, M.pure, mFrzs, mFrz, sPut, DSt.put, mIx, mIx2, mVar, DSt.slot, Val.get, Slot.get, mBin, mOp2, mGet, intOp, mSlot, Slot.val, ixAll, ixD, hp, hq, p0, q0, mulD, addD, c1, c2, c3, c4, c5, hx, hy, sRet, outF, Val.slot, hm, e1]
  obtain ⟨r, r0, r1, hr⟩ := last
  have e18 : intOp (fun i j => decide (0 ≤ j ∧ j ≤ 1000000 ∧ i.natAbs < 18446744073709551616)) (fun i j => D.int (i ^ j.toNat)) (D.int 10) (D.int 18) = some (.frz (.int 1000000000000000000)) := rfl
  have g1 : d_draw [.obj 0, .int many] [penS cells turn 0] = outF (sSeq (sIf (mAnd (mBl (mBin ltD (mVar 3) (mCB lenD (mCons (mIx (mVar 0) (mC (.str "cells"))) (mNil))))) (mBl (mBin geD (mCB absD (mCons (mVar 4) (mNil))) (mBin powD (mC (.int 10)) (mC (.int 18)))))) (sSeq (sIxSet 0 (mC (.str "left")) (mBin fdivD (mBin subD (mCB absD (mCons (mVar 4) (mNil))) (mBin powD (mC (.int 10)) (mC (.int 18)))) (mVar 1)))
  (sRet (mBin modD (mBin subD (mCB absD (mCons (mVar 4) (mNil))) (mBin powD (mC (.int 10)) (mC (.int 18)))) (mVar 1)))) (sNx))
  (sSeq (sSet 5 (mLst (mCons (mC (.int 2147483647)) (mCons (mC (.int 2147483629)) (mCons (mC (.int 2147483587)) (mCons (mC (.int 2147483579)) (mCons (mC (.int 2147483563)) (mNil))))))))
  (sSeq (sSet 6 (mIx (mVar 5) (mBin modD (mVar 3) (mC (.int 5)))))
  (sSeq (sSet 7 (mBin modD (mBin addD (mBin addD (mBin mulD (mBin modD (mVar 4) (mVar 6)) (mC (.int 48271))) (mBin mulD (mBin mulD (mC (.int 40507)) (mVar 3)) (mVar 3))) (mC (.int 31))) (mVar 6)))
  (sSeq (sSet 7 (mBin modD (mBin mulD (mVar 7) (mBin addD (mVar 7) (mC (.int 69621)))) (mIx (mVar 5) (mBin modD (mBin addD (mVar 3) (mC (.int 2))) (mC (.int 5))))))
  (sRet (mBin modD (mBin fdivD (mBin modD (mBin mulD (mVar 7) (mVar 7)) (mC (.int 2147483549))) (mC (.int 64))) (mVar 1))))))) (S none (some (.frz (.int turn))) (some (.frz (.int cell))) none none (turn + 1) 0)) := by
    unfold d_draw b_draw runF
    rw [sSeq_nx (st1 := S none none none none none turn 0) (by rfl), sSeq_nx (st1 := S none (some (.frz (.int turn))) none none none turn 0) (by rfl), sSeq_nx (st1 := S none (some (.frz (.int turn))) none none none (turn + 1) 0) (by rfl),
      sSeq_nx (st1 := S none (some (.frz (.int turn))) (some (.frz (.int (37 * turn + 13)))) none none (turn + 1) 0) (by simp [S, sSet, M.toS, mBin, mC, M.bind, M.pure, mVar, DSt.slot, mOp2, mGet, Val.get, Slot.get, mulD, b1, mSlot, Slot.val, addD, sPut, mFrz, DSt.put]), sSeq_nx (hc _ rfl)]
  rw [g1]
  generalize hab : (if cell < 0 then -cell else cell) = ab
  have hab0 : 0 ≤ ab := by rw [← hab]; split <;> omega
  by_cases ha : turn < cells.length
  · by_cases hb : 1000000000000000000 ≤ ab
    · refine ⟨(ab - 1000000000000000000) % many, (ab - 1000000000000000000) / many, Int.emod_nonneg _ (by omega), Int.emod_lt_of_pos _ hm, Int.ediv_nonneg (by omega) (by omega), ?_⟩
      simp [S, sSeq, sIf, M.toS, mAnd, mBl, mBin, M.bind, mVar, DSt.slot, mCB, mCons, mNil, mIx, mIx2, mC, M.pure, Val.get, Slot.get, keyD, v_cells, v_left, p_left, mGets, mGet, lenD, absD, mSlot, Slot.val, mOp2, intOp, blD, mOpt, ha, hab, hb, sIxSet, subD, fdivD, hm, hl, mFrz, slotSet, sRet, outF, Val.slot]
    · refine ⟨r, 0, r0, r1, by omega, ?_⟩
      rw [sSeq_nx (st1 := S none (some (.frz (.int turn))) (some (.frz (.int cell))) none none (turn + 1) 0) ?_]
      · exact hr
      · simp [S, sIf, M.toS, mAnd, mBl, mBin, M.bind, mVar, DSt.slot, mCB, mCons, mNil, mIx, mIx2, mC, M.pure, Val.get, Slot.get, keyD, v_cells, mGets, mGet, lenD, absD, mSlot, Slot.val, mOp2, intOp, blD, mOpt, ha, hab, hb, sNx]
  · refine ⟨r, 0, r0, r1, by omega, ?_⟩
    rw [sSeq_nx (st1 := S none (some (.frz (.int turn))) (some (.frz (.int cell))) none none (turn + 1) 0) ?_]
    · exact hr
    · simp [S, sIf, M.toS, mAnd, mBl, mBin, M.bind, mVar, DSt.slot, mCB, mCons, mNil, mIx, mIx2, mC, M.pure, Val.get, Slot.get, keyD, v_cells, mGets, mGet, lenD, absD, mSlot, Slot.val, mOp2, intOp, blD, mOpt, ha, sNx]
/-- the law's draw -/
theorem draw_ok {k : Nat} {so : Sto} {many : Int} (h : PenP (k + 1) so) (hm : 0 < many) (hl : many.natAbs.log2 < 9000) : ∃ r so', 0 ≤ r ∧ r < many ∧ PenP k so' ∧ d_draw [.obj 0, .int many] so = some (.ret (.frz (.int r)) so') := by
  obtain ⟨cells, turn, left, rfl, h1, h2, h3, h4, h5⟩ := h
  by_cases hz : 0 < left
  · exact ⟨_, _, Int.emod_nonneg _ (by omega), Int.emod_lt_of_pos _ hm, ⟨cells, turn, _, rfl, h1, h2, h3, by omega, Int.ediv_nonneg h5 (by omega)⟩, draw_left hz hm hl⟩
  · have : left = 0 := by omega
    subst this
    obtain ⟨r, l, r0, r1, l0, e⟩ := draw_new (cells := cells) (turn := turn) hm hl h2 h3 (by omega)
    exact ⟨r, _, r0, r1, ⟨cells, turn + 1, l, rfl, h1, h2, by omega, by omega, l0⟩, e⟩
/-! ### great numbers, picks -/
theorem draw_at {k : Nat} {st : DSt} {i : Nat} {many : Int} {mb : M Val} (hi : st.slot i = some (.frz (.obj 0))) (hb : ∃ v, mb st = some (.ok v st) ∧ mFrz v st = some (.ok (.int many) st)) (h : PenP (k + 1) st.so) (hm : 0 < many) (hl : many.natAbs.log2 < 9000) :
    ∃ r so', 0 ≤ r ∧ r < many ∧ PenP k so' ∧ mCall d_draw (mCons (mVar i) (mCons mb mNil)) st = some (.ok (.frz (.int r)) { st with so := so' }) := by
  obtain ⟨r, so', h0, h1, h2, h3⟩ := draw_ok h hm hl
  obtain ⟨v, hb1, hb2⟩ := hb
  refine ⟨r, so', h0, h1, h2, call_at (s := .frz (.int r)) (st1 := st) (st2 := st) (vs := [.vr i, v]) (ds := [.obj 0, .int many]) ?_ ?_ h3⟩
  · refine cons_at (st1 := st) ?_ (cons_at hb1 rfl)
    unfold mVar
    rw [hi]
  · show M.bind (mFrz (.vr i)) (fun d => M.bind (mFrzs [v]) fun ds => M.pure (d :: ds)) st = _
    have e1 : mFrz (.vr i) st = some (.ok (.obj 0) st) := by
      show mFrzV i st = _
      unfold mFrzV
      rw [hi]
    have e2 : mFrzs [v] st = some (.ok [.int many] st) := by
      show M.bind (mFrz v) (fun d => M.bind (mFrzs []) fun ds => M.pure (d :: ds)) st = _
      unfold M.bind
      rw [hb2]
      rfl
    unfold M.bind
    rw [e1]
    dsimp only
    rw [e2]
    rfl
theorem great_loop {n : Int} : ∀ (ds : List D) (v : Int) (x : Option Slot) (so : Sto) (k j : Nat), 0 ≤ v → v < 10 ^ j → j + ds.length ≤ 300 → PenP (k + ds.length) so →
    ∃ v' x' so', 0 ≤ v' ∧ v' < 10 ^ (j + ds.length) ∧ PenP k so' ∧ forF (tgName 3) (sSet 2 (mBin addD (mBin mulD (mC (.int 10)) (mVar 2)) (mCall d_draw (mCons (mVar 0) (mCons (mC (.int 10)) (mNil)))))) ds ⟨[some (.frz (.obj 0)), some (.frz (.int n)), some (.frz (.int v)), x], so⟩ =
      some (.nx ⟨[some (.frz (.obj 0)), some (.frz (.int n)), some (.frz (.int v')), x'], so'⟩)
  | [], v, x, so, k, j, h0, h1, _, hp => ⟨v, x, so, h0, h1, hp, rfl⟩
  | d :: ds, v, x, so, k, j, h0, h1, hl, hp => by
    obtain ⟨r, so1, r0, r1, p1, e1⟩ := draw_at (k := k + ds.length) (st := ⟨[some (.frz (.obj 0)), some (.frz (.int n)), some (.frz (.int v)), some (.frz d)], so⟩) (i := 0) (many := 10) (mb := mC (.int 10)) rfl ⟨_, rfl, rfl⟩ hp (by decide) (by decide)
    have e10 : (10 : Int) ^ (j + 1) = 10 * 10 ^ j := by rw [Int.pow_succ]; omega
    obtain ⟨v', x', so', a, b, c, e⟩ := great_loop ds (10 * v + r) (some (.frz d)) so1 k (j + 1) (by omega) (by omega) (by simp at hl; omega) p1
    refine ⟨v', x', so', a, by rw [show j + (d :: ds).length = j + 1 + ds.length by simp; omega]; exact b, c, ?_⟩
    have bits : Builtin.Int.intBits 10 + Builtin.Int.intBits v ≤ 134217728 := by
      have hv : v.natAbs < 2 ^ 1200 := by
        have h2 : (10 : Int) ^ j ≤ 2 ^ (4 * j) := by
          rw [Int.pow_mul]
          exact_mod_cast Nat.pow_le_pow_left (show 10 ≤ 2 ^ 4 by decide) j
        have h3 : (2 : Int) ^ (4 * j) ≤ 2 ^ 1200 := by
          exact_mod_cast Nat.pow_le_pow_right (n := 2) (by decide) (show 4 * j ≤ 1200 by simp at hl; omega)
        have h4 : v < 2 ^ 1200 := by omega
        have : ((v.natAbs : Nat) : Int) < ((2 ^ 1200 : Nat) : Int) := by
          rw [Int.natAbs_of_nonneg h0]
          exact_mod_cast h4
        exact_mod_cast this
      have h1 := bits_le hv
      have h2 : Builtin.Int.intBits 10 ≤ 4 := bits_le (by decide)
      omega
    rw [for_step (st1 := ⟨[some (.frz (.obj 0)), some (.frz (.int n)), some (.frz (.int v)), some (.frz d)], so⟩) (st2 := ⟨[some (.frz (.obj 0)), some (.frz (.int n)), some (.frz (.int (10 * v + r))), some (.frz d)], so1⟩) rfl]
    · exact e
    · refine sSet_at (st1 := ⟨[some (.frz (.obj 0)), some (.frz (.int n)), some (.frz (.int v)), some (.frz d)], so1⟩) (d := .int (10 * v + r)) ?_
      refine bin_at (s := .frz (.int (10 * v + r))) (va := .frz (.int (10 * v))) (st1 := ⟨[some (.frz (.obj 0)), some (.frz (.int n)), some (.frz (.int v)), some (.frz d)], so⟩) ?_ e1 rfl rfl rfl
      refine bin_at (s := .frz (.int (10 * v))) (va := .frz (.int 10)) (vb := .vr 2) (d1 := .int 10) (d2 := .int v) rfl rfl rfl rfl ?_
      show (if _ then _ else _) = _
      rw [if_pos bits]
theorem great_ok {k n : Nat} {so : Sto} (hn : n ≤ 300) (h : PenP (k + n) so) : ∃ v so', 0 ≤ v ∧ v < 10 ^ n ∧ PenP k so' ∧ d_great [.obj 0, .int n] so = some (.ret (.frz (.int v)) so') := by
  have hr : mRng rng1 (mCons (mVar 1) (mNil)) ⟨[some (.frz (.obj 0)), some (.frz (.int n)), some (.frz (.int 0)), none], so⟩ = some (.ok (rngD 0 n) ⟨[some (.frz (.obj 0)), some (.frz (.int n)), some (.frz (.int 0)), none], so⟩) :=
    rng_at (ds := [.int n]) (vs := [.vr 1]) rfl rfl (by rw [rng1_int, if_pos (by omega), Int.toNat_natCast])
  have hl : (rngD 0 n).length = n := by unfold rngD; rw [List.length_map, List.length_range]
  obtain ⟨v, x, so', a, b, c, e⟩ := great_loop (n := n) (rngD 0 n) 0 none so k 0 (by decide) (by decide) (by omega) (by rw [hl]; exact h)
  rw [hl, Nat.zero_add] at b
  refine ⟨v, so', a, b, c, ?_⟩
  show outF (b_great ⟨[some (.frz (.obj 0)), some (.frz (.int n)), none, none], so⟩) = _
  unfold b_great
  rw [sSeq_nx (st1 := ⟨[some (.frz (.obj 0)), some (.frz (.int n)), some (.frz (.int 0)), none], so⟩) (by rfl), sSeq_nx (by rw [sFor_at hr]; exact e)]
  rfl
theorem pick_ok {k : Nat} {so : Sto} {ds : List D} (h0 : ds ≠ []) (hl : ds.length ≤ 100000) (h : PenP (k + 1) so) : ∃ d so', d ∈ ds ∧ PenP k so' ∧ d_pick [.obj 0, .lst ds] so = some (.ret (.frz d) so') := by
  have hpos : 0 < ds.length := List.length_pos_iff.mpr h0
  obtain ⟨r, so', r0, r1, p, e⟩ := draw_at (k := k) (st := ⟨[some (.frz (.obj 0)), some (.frz (.lst ds))], so⟩) (i := 0) (many := ds.length) (mb := mCB lenD (mCons (mVar 1) (mNil))) rfl ⟨_, rfl, rfl⟩ h (by omega) (by
    have : ds.length < 2 ^ 8000 := by
      have h1 : (100000 : Nat) < 2 ^ 17 := by decide
      have h2 : (2 : Nat) ^ 17 ≤ 2 ^ 8000 := Nat.pow_le_pow_right (by decide) (by decide)
      omega
    have h3 : (ds.length : Int).natAbs = ds.length := by simp
    rw [h3]
    have := (Nat.log2_lt (by omega)).mpr this
    omega)
  obtain ⟨d, hd, hat⟩ := atI_mem r0 r1
  refine ⟨d, so', hd, p, ?_⟩
  show outF (sRet _ ⟨[some (.frz (.obj 0)), some (.frz (.lst ds))], so⟩) = _
  rw [ret_at (ixl_at (va := .vr 1) (vb := .frz (.int r)) (ds := ds) (i := r) (d := d) rfl e rfl rfl hat)]
  rfl
end FB

namespace K82
open PySem PySem.Spec PyProof.Rows L2 FB

def top (i : Nat) : Stmt := PySem.Challenge.pw_firstbooks_k82_halves_and_lists_of_signs.main.body.getD i (.Pass ⟨0, 0, 0, 0⟩)
def clsBody : Stmt → List Stmt
  | .ClassDef _ _ _ b _ _ _ _ _ _ _ => b
  | _ => []

/-- what the top has written -/
structure Txt (K : PySem.W.Frag) (mg : Str → Option Value) where
  a__law_pen : Addr
  f__law_pen : FuncData
  F__law_pen : Fun K "_law_pen" "_law_pen" (top 9) a__law_pen f__law_pen
  g__law_pen : mg "_law_pen" = some (.ref a__law_pen)
  k__law_pen : PySem.W.keepIn K (.ref a__law_pen) = true
  b__law_pen : Binds K f__law_pen ["script"] []
  a__law_draw : Addr
  f__law_draw : FuncData
  F__law_draw : Fun K "_law_draw" "_law_draw" (top 10) a__law_draw f__law_draw
  g__law_draw : mg "_law_draw" = some (.ref a__law_draw)
  k__law_draw : PySem.W.keepIn K (.ref a__law_draw) = true
  b__law_draw : Binds K f__law_draw ["pen", "many"] []
  a__law_great : Addr
  f__law_great : FuncData
  F__law_great : Fun K "_law_great" "_law_great" (top 12) a__law_great f__law_great
  g__law_great : mg "_law_great" = some (.ref a__law_great)
  k__law_great : PySem.W.keepIn K (.ref a__law_great) = true
  b__law_great : Binds K f__law_great ["pen", "figures"] []
  a__law_far : Addr
  f__law_far : FuncData
  F__law_far : Fun K "_law_far" "_law_far" (top 13) a__law_far f__law_far
  g__law_far : mg "_law_far" = some (.ref a__law_far)
  k__law_far : PySem.W.keepIn K (.ref a__law_far) = true
  b__law_far : Binds K f__law_far ["pen"] []
  a_halves : Addr
  f_halves : FuncData
  F_halves : Fun K "halves" "halves" (top 5) a_halves f_halves
  g_halves : mg "halves" = some (.ref a_halves)
  k_halves : PySem.W.keepIn K (.ref a_halves) = true
  b_halves : Binds K f_halves ["book"] []
  a__law_is_number : Addr
  f__law_is_number : FuncData
  F__law_is_number : Fun K "_law_is_number" "_law_is_number" (top 14) a__law_is_number f__law_is_number
  g__law_is_number : mg "_law_is_number" = some (.ref a__law_is_number)
  k__law_is_number : PySem.W.keepIn K (.ref a__law_is_number) = true
  b__law_is_number : Binds K f__law_is_number ["thing"] []
  a__law_is_signs : Addr
  f__law_is_signs : FuncData
  F__law_is_signs : Fun K "_law_is_signs" "_law_is_signs" (top 17) a__law_is_signs f__law_is_signs
  g__law_is_signs : mg "_law_is_signs" = some (.ref a__law_is_signs)
  k__law_is_signs : PySem.W.keepIn K (.ref a__law_is_signs) = true
  b__law_is_signs : Binds K f__law_is_signs ["thing"] []
  a__law_read : Addr
  f__law_read : FuncData
  F__law_read : Fun K "_law_read" "_law_read" (top 15) a__law_read f__law_read
  g__law_read : mg "_law_read" = some (.ref a__law_read)
  k__law_read : PySem.W.keepIn K (.ref a__law_read) = true
  b__law_read : Binds K f__law_read ["signs"] []
  a_is_whole : Addr
  f_is_whole : FuncData
  F_is_whole : Fun K "is_whole" "is_whole" (top 3) a_is_whole f_is_whole
  g_is_whole : mg "is_whole" = some (.ref a_is_whole)
  k_is_whole : PySem.W.keepIn K (.ref a_is_whole) = true
  b_is_whole : Binds K f_is_whole ["thing"] []
  a_are_signs : Addr
  f_are_signs : FuncData
  F_are_signs : Fun K "are_signs" "are_signs" (top 6) a_are_signs f_are_signs
  g_are_signs : mg "are_signs" = some (.ref a_are_signs)
  k_are_signs : PySem.W.keepIn K (.ref a_are_signs) = true
  b_are_signs : Binds K f_are_signs ["thing"] []
  a_from_halves : Addr
  f_from_halves : FuncData
  F_from_halves : Fun K "from_halves" "from_halves" (top 7) a_from_halves f_from_halves
  g_from_halves : mg "from_halves" = some (.ref a_from_halves)
  k_from_halves : PySem.W.keepIn K (.ref a_from_halves) = true
  b_from_halves : Binds K f_from_halves ["signs"] []
  a__law_told : Addr
  f__law_told : FuncData
  F__law_told : Fun K "_law_told" "_law_told" (top 16) a__law_told f__law_told
  g__law_told : mg "_law_told" = some (.ref a__law_told)
  k__law_told : PySem.W.keepIn K (.ref a__law_told) = true
  b__law_told : Binds K f__law_told ["thing"] []
  a__law_pick : Addr
  f__law_pick : FuncData
  F__law_pick : Fun K "_law_pick" "_law_pick" (top 11) a__law_pick f__law_pick
  g__law_pick : mg "_law_pick" = some (.ref a__law_pick)
  k__law_pick : PySem.W.keepIn K (.ref a__law_pick) = true
  b__law_pick : Binds K f__law_pick ["pen", "some"] []
  a_law : Addr
  f_law : FuncData
  F_law : Fun K "law" "law" (top 18) a_law f_law
  g_law : mg "law" = some (.ref a_law)
  k_law : PySem.W.keepIn K (.ref a_law) = true
  b_law : Binds K f_law ["script"] []
  c_BadSigns : Addr
  i_BadSigns : Addr
  if_BadSigns : FuncData
  iF_BadSigns : Fun K "__init__" "BadSigns.__init__" ((clsBody (top 1)).getD 0 (.Pass ⟨0, 0, 0, 0⟩)) i_BadSigns if_BadSigns
  ib_BadSigns : Binds K if_BadSigns ["self"] []
  g_BadSigns : mg "BadSigns" = some (.ref c_BadSigns)
  e_BadSigns : EC K c_BadSigns i_BadSigns "ValueError.__new__" [.type "ValueError", .type "Exception", .type "BaseException", .type "object"]
  x_BadSigns : ExcC K c_BadSigns
  xm_BadSigns_BadSigns : PySem.W.exmOne K (.ref c_BadSigns) (.ref c_BadSigns) = some true
  xk_BadSigns_ValueError : PySem.W.kitOne K (.ref c_BadSigns) (.type "ValueError") = some true
  v_ValueError : PySem.W.findCls K (.type "ValueError") (.type "type") "__init__" = some (.val (.builtin "ValueError.__init__"))
  m_ValueError : mg "ValueError" = none
  m_abs : mg "abs" = none
  m_all : mg "all" = none
  m_bool : mg "bool" = none
  m_divmod : mg "divmod" = none
  m_int : mg "int" = none
  m_isinstance : mg "isinstance" = none
  m_len : mg "len" = none
  m_list : mg "list" = none
  m_min : mg "min" = none
  m_range : mg "range" = none
  m_repr : mg "repr" = none
  m_tuple : mg "tuple" = none
  bt_law : ∀ (s : Shared) (u : Value), BindsTo s f_law ⟨[u], []⟩ [("script", u)]
section
variable {P : Program} {w : World} {K : PySem.W.Frag} {mg : Str → Option Value} {base : Heap}
def gx (T : Txt K mg) : String → Option Addr := fun c => if c = "BadSigns" then some T.c_BadSigns else none
def ITk : String → String → Option Bool := fun c t => if c = "BadSigns" then (if t = "ValueError" then some true else none) else none
theorem gx_cases (T : Txt K mg) {c : String} {C : Addr} (h : gx T c = some C) : (c = "BadSigns" ∧ C = T.c_BadSigns) := by
  unfold gx at h
  by_cases hc : c = "BadSigns"
  · rw [if_pos hc] at h
    exact ⟨hc, by simpa using h.symm⟩
  rw [if_neg hc] at h
  clear hc
  cases h
theorem exm (T : Txt K mg) (c : String) (C : Addr) (h : gx T c = some C) : ∀ c' C', gx T c' = some C' → PySem.W.exmOne K (.ref C') (.ref C) = some (decide (c' = c)) := fun c' C' h' => by
  rcases gx_cases T h with ⟨rfl, rfl⟩ <;> rcases gx_cases T h' with ⟨rfl, rfl⟩
  · exact T.xm_BadSigns_BadSigns
theorem isF (T : Txt K mg) : IsF (gx T) K ITk := ⟨fun c C t b h e => by
  rcases gx_cases T h with ⟨rfl, rfl⟩
  · refine ⟨T.x_BadSigns, ?_⟩
    unfold ITk at e
    simp (config := { decide := true }) only [if_true, if_false] at e
    by_cases ht : t = "ValueError"
    · subst ht
      rw [if_pos rfl] at e
      cases e
      exact T.xk_BadSigns_ValueError
    rw [if_neg ht] at e
    clear ht
    cases e⟩
abbrev st__law_pen : Stmt := top 9
abbrev N__law_pen : List Str := ["script"]
theorem sc__law_pen : FnScope N__law_pen ["script"] (defScope st__law_pen) := ⟨rfl, rfl, rfl, by decide +kernel, rfl, by decide +kernel, by decide +kernel⟩
def b__law_pen : MS :=
  sRet (mDisp [(.inr "cells"), (.inr "turn"), (.inr "left")] [mCB toLstD (mCons (mSl (mVar 0) (mNoPart) (mPart (mC (.int 63)))) (mNil)), mC (.int 0), mC (.int 0)])
def d__law_pen : Den := runF 1 b__law_pen
theorem ok__law_pen (T : Txt K mg) : FnG P w K mg base (L2.CX P w) 1 T.a__law_pen T.f__law_pen ["script"] (spF ⟨K, gx T, []⟩ 1 d__law_pen) :=
  fn_denG T.F__law_pen sc__law_pen rfl (by decide) fun cdv A outer s H E gd hr =>
  (gs_one (gs_ret (ge_disp (gp_cons (k := (.inr "cells")) pe_str (ge_ct cr_toLst cs_toLst rfl T.m_list (by decide +kernel) (ga_cons (ge_sl (ge_var 0) go_none (go_some ge_int)) ga_nil)) (gp_cons (k := (.inr "turn")) pe_str ge_int (gp_cons (k := (.inr "left")) pe_str ge_int gp_nil))) rfl (by rfl) rfl (by simp) (by decide))))

abbrev st__law_draw : Stmt := top 10
abbrev N__law_draw : List Str := ["pen", "many", "digit", "turn", "cell", "primes", "prime", "drawn"]
theorem sc__law_draw : FnScope N__law_draw ["pen", "many"] (defScope st__law_draw) := ⟨rfl, rfl, rfl, by decide +kernel, rfl, by decide +kernel, by decide +kernel⟩
def b__law_draw : MS :=
  sSeq (sIf (mBl (mBin gtD (mIx (mVar 0) (mC (.str "left"))) (mC (.int 0)))) (sSeq (sSet 2 (mBin modD (mIx (mVar 0) (mC (.str "left"))) (mVar 1)))
  (sSeq (sIxSet 0 (mC (.str "left")) (mBin fdivD (mIx (mVar 0) (mC (.str "left"))) (mVar 1)))
  (sRet (mVar 2)))) (sNx))
  (sSeq (sSet 3 (mIx (mVar 0) (mC (.str "turn"))))
  (sSeq (sIxSet 0 (mC (.str "turn")) (mBin addD (mVar 3) (mC (.int 1))))
  (sSeq (sSet 4 (mBin addD (mBin mulD (mC (.int 37)) (mVar 3)) (mC (.int 13))))
  (sSeq (sIf (mBl (mBin neD (mIx (mVar 0) (mC (.str "cells"))) (mLst (mNil)))) (sSet 4 (mIx (mIx (mVar 0) (mC (.str "cells"))) (mBin modD (mVar 3) (mCB lenD (mCons (mIx (mVar 0) (mC (.str "cells"))) (mNil)))))) (sNx))
  (sSeq (sIf (mAnd (mBl (mBin ltD (mVar 3) (mCB lenD (mCons (mIx (mVar 0) (mC (.str "cells"))) (mNil))))) (mBl (mBin geD (mCB absD (mCons (mVar 4) (mNil))) (mBin powD (mC (.int 10)) (mC (.int 18)))))) (sSeq (sIxSet 0 (mC (.str "left")) (mBin fdivD (mBin subD (mCB absD (mCons (mVar 4) (mNil))) (mBin powD (mC (.int 10)) (mC (.int 18)))) (mVar 1)))
  (sRet (mBin modD (mBin subD (mCB absD (mCons (mVar 4) (mNil))) (mBin powD (mC (.int 10)) (mC (.int 18)))) (mVar 1)))) (sNx))
  (sSeq (sSet 5 (mLst (mCons (mC (.int 2147483647)) (mCons (mC (.int 2147483629)) (mCons (mC (.int 2147483587)) (mCons (mC (.int 2147483579)) (mCons (mC (.int 2147483563)) (mNil))))))))
  (sSeq (sSet 6 (mIx (mVar 5) (mBin modD (mVar 3) (mC (.int 5)))))
  (sSeq (sSet 7 (mBin modD (mBin addD (mBin addD (mBin mulD (mBin modD (mVar 4) (mVar 6)) (mC (.int 48271))) (mBin mulD (mBin mulD (mC (.int 40507)) (mVar 3)) (mVar 3))) (mC (.int 31))) (mVar 6)))
  (sSeq (sSet 7 (mBin modD (mBin mulD (mVar 7) (mBin addD (mVar 7) (mC (.int 69621)))) (mIx (mVar 5) (mBin modD (mBin addD (mVar 3) (mC (.int 2))) (mC (.int 5))))))
  (sRet (mBin modD (mBin fdivD (mBin modD (mBin mulD (mVar 7) (mVar 7)) (mC (.int 2147483549))) (mC (.int 64))) (mVar 1))))))))))))
def d__law_draw : Den := runF 8 b__law_draw
theorem ok__law_draw (T : Txt K mg) : FnG P w K mg base (L2.CX P w) 1 T.a__law_draw T.f__law_draw ["pen", "many"] (spF ⟨K, gx T, []⟩ 2 d__law_draw) :=
  fn_denG T.F__law_draw sc__law_draw rfl (by decide) fun cdv A outer s H E gd hr =>
  (gs_cons (gs_if (gt_cmp or_gt os_gt (ge_sub hr (ge_var 0) ge_str (fun _ _ => rfl)) ge_int (nomark _)) (gs_cons (gs_set (i := 2) sc__law_draw.nd rfl (by first | exact Or.inl rfl | exact Or.inr rfl) (ge_bin or_mod os_mod (ge_sub hr (ge_var 0) ge_str (fun _ _ => rfl)) (ge_var 1)))
  (gs_cons (gs_ixset (i := 0) hr (pe_var rfl (by first | exact Or.inl rfl | exact Or.inr (Or.inl rfl))) ge_str (ge_bin or_fdiv os_fdiv (ge_sub hr (ge_var 0) ge_str (fun _ _ => rfl)) (ge_var 1)))
  (gs_one (gs_ret (ge_var 2))))) gs_nil)
  (gs_cons (gs_set (i := 3) sc__law_draw.nd rfl (by first | exact Or.inl rfl | exact Or.inr rfl) (ge_sub hr (ge_var 0) ge_str (fun _ _ => rfl)))
  (gs_cons (gs_ixset (i := 0) hr (pe_var rfl (by first | exact Or.inl rfl | exact Or.inr (Or.inl rfl))) ge_str (ge_bin or_add os_add (ge_var 3) ge_int))
  (gs_cons (gs_set (i := 4) sc__law_draw.nd rfl (by first | exact Or.inl rfl | exact Or.inr rfl) (ge_bin or_add os_add (ge_bin or_mul os_mul ge_int (ge_var 3)) ge_int))
  (gs_cons (gs_if (gt_cmp (or_ne hr) os_ne (ge_sub hr (ge_var 0) ge_str (fun _ _ => rfl)) (ge_lst ga_nil) (nomark _)) (gs_one (gs_set (i := 4) sc__law_draw.nd rfl (by first | exact Or.inl rfl | exact Or.inr rfl) (ge_sub hr (ge_sub hr (ge_var 0) ge_str (fun _ _ => rfl)) (ge_bin or_mod os_mod (ge_var 3) (ge_cb cr_len cs_len rfl T.m_len (by decide +kernel) (ga_cons (ge_sub hr (ge_var 0) ge_str (fun _ _ => rfl)) ga_nil))) (fun _ _ => rfl)))) gs_nil)
  (gs_cons (gs_if (gt_w (gw_and (gt_cmp or_lt os_lt (ge_var 3) (ge_cb cr_len cs_len rfl T.m_len (by decide +kernel) (ga_cons (ge_sub hr (ge_var 0) ge_str (fun _ _ => rfl)) ga_nil)) (nomark _)) (gw_and1 (gt_cmp or_ge os_ge (ge_cb cr_abs cs_abs rfl T.m_abs (by decide +kernel) (ga_cons (ge_var 4) ga_nil)) (ge_bin or_pow os_pow ge_int ge_int) (nomark _))))) (gs_cons (gs_ixset (i := 0) hr (pe_var rfl (by first | exact Or.inl rfl | exact Or.inr (Or.inl rfl))) ge_str (ge_bin or_fdiv os_fdiv (ge_bin or_sub os_sub (ge_cb cr_abs cs_abs rfl T.m_abs (by decide +kernel) (ga_cons (ge_var 4) ga_nil)) (ge_bin or_pow os_pow ge_int ge_int)) (ge_var 1)))
  (gs_one (gs_ret (ge_bin or_mod os_mod (ge_bin or_sub os_sub (ge_cb cr_abs cs_abs rfl T.m_abs (by decide +kernel) (ga_cons (ge_var 4) ga_nil)) (ge_bin or_pow os_pow ge_int ge_int)) (ge_var 1))))) gs_nil)
  (gs_cons (gs_set (i := 5) sc__law_draw.nd rfl (by first | exact Or.inl rfl | exact Or.inr rfl) (ge_lst (ga_cons ge_int (ga_cons ge_int (ga_cons ge_int (ga_cons ge_int (ga_cons ge_int ga_nil)))))))
  (gs_cons (gs_set (i := 6) sc__law_draw.nd rfl (by first | exact Or.inl rfl | exact Or.inr rfl) (ge_sub hr (ge_var 5) (ge_bin or_mod os_mod (ge_var 3) ge_int) (fun _ _ => rfl)))
  (gs_cons (gs_set (i := 7) sc__law_draw.nd rfl (by first | exact Or.inl rfl | exact Or.inr rfl) (ge_bin or_mod os_mod (ge_bin or_add os_add (ge_bin or_add os_add (ge_bin or_mul os_mul (ge_bin or_mod os_mod (ge_var 4) (ge_var 6)) ge_int) (ge_bin or_mul os_mul (ge_bin or_mul os_mul ge_int (ge_var 3)) (ge_var 3))) ge_int) (ge_var 6)))
  (gs_cons (gs_set (i := 7) sc__law_draw.nd rfl (by first | exact Or.inl rfl | exact Or.inr rfl) (ge_bin or_mod os_mod (ge_bin or_mul os_mul (ge_var 7) (ge_bin or_add os_add (ge_var 7) ge_int)) (ge_sub hr (ge_var 5) (ge_bin or_mod os_mod (ge_bin or_add os_add (ge_var 3) ge_int) ge_int) (fun _ _ => rfl))))
  (gs_one (gs_ret (ge_bin or_mod os_mod (ge_bin or_fdiv os_fdiv (ge_bin or_mod os_mod (ge_bin or_mul os_mul (ge_var 7) (ge_var 7)) ge_int) ge_int) (ge_var 1))))))))))))))

abbrev st__law_great : Stmt := top 12
abbrev N__law_great : List Str := ["pen", "figures", "found", "k"]
theorem sc__law_great : FnScope N__law_great ["pen", "figures"] (defScope st__law_great) := ⟨rfl, rfl, rfl, by decide +kernel, rfl, by decide +kernel, by decide +kernel⟩
def b__law_great : MS :=
  sSeq (sSet 2 (mC (.int 0)))
  (sSeq (sFor (mRng rng1 (mCons (mVar 1) (mNil))) (tgName 3) (sSet 2 (mBin addD (mBin mulD (mC (.int 10)) (mVar 2)) (mCall d__law_draw (mCons (mVar 0) (mCons (mC (.int 10)) (mNil)))))))
  (sRet (mVar 2)))
def d__law_great : Den := runF 4 b__law_great
theorem ok__law_great (T : Txt K mg) : FnG P w K mg base (L2.CX P w) 2 T.a__law_great T.f__law_great ["pen", "figures"] (spF ⟨K, gx T, []⟩ 2 d__law_great) :=
  fn_denG T.F__law_great sc__law_great rfl (by decide) fun cdv A outer s H E gd hr =>
  (gs_cons (gs_set (i := 2) sc__law_great.nd rfl (by first | exact Or.inl rfl | exact Or.inr rfl) ge_int)
  (gs_cons (gs_for (passes_of rfl) rfl (gi_range1 rfl T.m_range (ga_cons (ge_var 1) ga_nil)) (gg_name (i := 3) sc__law_great.nd rfl (by first | exact Or.inl rfl | exact Or.inr rfl)) (gs_one (gs_set (i := 2) sc__law_great.nd rfl (by first | exact Or.inl rfl | exact Or.inr rfl) (ge_bin or_add os_add (ge_bin or_mul os_mul ge_int (ge_var 2)) (ge_call ((ok__law_draw T).at gd (hr.mono (by decide)) T.b__law_draw (takes_of rfl rfl rfl rfl)) rfl rfl T.g__law_draw T.k__law_draw (ga_cons (ge_var 0) (ga_cons ge_int ga_nil)) (len_cons (len_cons len_nil)))))))
  (gs_one (gs_ret (ge_var 2)))))

abbrev st__law_far : Stmt := top 13
abbrev N__law_far : List Str := ["pen"]
theorem sc__law_far : FnScope N__law_far ["pen"] (defScope st__law_far) := ⟨rfl, rfl, rfl, by decide +kernel, rfl, by decide +kernel, by decide +kernel⟩
def b__law_far : MS :=
  sRet (mCall d__law_great (mCons (mVar 0) (mCons (mIx (mLst (mCons (mC (.int 1)) (mCons (mC (.int 2)) (mCons (mC (.int 4)) (mCons (mC (.int 20)) (mCons (mC (.int 59)) (mNil))))))) (mCall d__law_draw (mCons (mVar 0) (mCons (mC (.int 5)) (mNil))))) (mNil))))
def d__law_far : Den := runF 1 b__law_far
theorem ok__law_far (T : Txt K mg) : FnG P w K mg base (L2.CX P w) 3 T.a__law_far T.f__law_far ["pen"] (spF ⟨K, gx T, []⟩ 1 d__law_far) :=
  fn_denG T.F__law_far sc__law_far rfl (by decide) fun cdv A outer s H E gd hr =>
  (gs_one (gs_ret (ge_call ((ok__law_great T).at gd (hr.mono (by decide)) T.b__law_great (takes_of rfl rfl rfl rfl)) rfl rfl T.g__law_great T.k__law_great (ga_cons (ge_var 0) (ga_cons (ge_sub hr (ge_lst (ga_cons ge_int (ga_cons ge_int (ga_cons ge_int (ga_cons ge_int (ga_cons ge_int ga_nil)))))) (ge_call ((ok__law_draw T).at gd (hr.mono (by decide)) T.b__law_draw (takes_of rfl rfl rfl rfl)) rfl rfl T.g__law_draw T.k__law_draw (ga_cons (ge_var 0) (ga_cons ge_int ga_nil)) (len_cons (len_cons len_nil))) (fun _ _ => rfl)) ga_nil)) (len_cons (len_cons len_nil)))))

abbrev st_halves : Stmt := top 5
abbrev N_halves : List Str := ["book", "found", "sign"]
theorem sc_halves : FnScope N_halves ["book"] (defScope st_halves) := ⟨rfl, rfl, rfl, by decide +kernel, rfl, by decide +kernel, by decide +kernel⟩
def b_halves : MS :=
  sSeq (sSet 1 (mLst (mNil)))
  (sSeq (whileM (mBl (mBin gtD (mVar 0) (mC (.int 0)))) (sSeq (sAsg (tgTup [tgName 0, tgName 2]) (mCB divmodD (mCons (mBin mulD (mC (.int 2)) (mVar 0)) (mCons (mC (.int 3)) (mNil)))))
  (sApp 1 (mVar 2))))
  (sRet (mUn revD (mVar 1))))
def d_halves : Den := runF 3 b_halves
theorem ok_halves (T : Txt K mg) : FnG P w K mg base (L2.CX P w) 1 T.a_halves T.f_halves ["book"] (spF ⟨K, gx T, []⟩ 1 d_halves) :=
  fn_denG T.F_halves sc_halves rfl (by decide) fun cdv A outer s H E gd hr =>
  (gs_cons (gs_set (i := 1) sc_halves.nd rfl (by first | exact Or.inl rfl | exact Or.inr rfl) (ge_lst ga_nil))
  (gs_cons (gs_while (passes_of rfl) (gt_cmp or_gt os_gt (ge_var 0) ge_int (nomark _)) (gs_cons (gs_asg (ge_cb cr_divmod cs_divmod rfl T.m_divmod (by decide +kernel) (ga_cons (ge_bin or_mul os_mul ge_int (ge_var 0)) (ga_cons ge_int ga_nil))) (gg_tup rfl (ggs_cons (gg_name (i := 0) sc_halves.nd rfl (by first | exact Or.inl rfl | exact Or.inr rfl)) (ggs_cons (gg_name (i := 2) sc_halves.nd rfl (by first | exact Or.inl rfl | exact Or.inr rfl)) ggs_nil))))
  (gs_one (gs_app (i := 1) (pe_var rfl (by first | exact Or.inl rfl | exact Or.inr (Or.inl rfl))) (ge_var 2)))))
  (gs_one (gs_ret (ge_rev (ge_var 1))))))

abbrev st__law_is_number : Stmt := top 14
abbrev N__law_is_number : List Str := ["thing"]
theorem sc__law_is_number : FnScope N__law_is_number ["thing"] (defScope st__law_is_number) := ⟨rfl, rfl, rfl, by decide +kernel, rfl, by decide +kernel, by decide +kernel⟩
def b__law_is_number : MS :=
  sRet (mAndV (mCB isiD (mCons (mVar 0) (mCons (mC (.ty "int")) (mNil)))) (mAndV (mNotV (mCB isiD (mCons (mVar 0) (mCons (mC (.ty "bool")) (mNil))))) (mBin geD (mVar 0) (mC (.int 0)))))
def d__law_is_number : Den := runF 1 b__law_is_number
theorem ok__law_is_number (T : Txt K mg) : FnG P w K mg base (L2.CX P w) 1 T.a__law_is_number T.f__law_is_number ["thing"] (spF ⟨K, gx T, []⟩ 1 d__law_is_number) :=
  fn_denG T.F__law_is_number sc__law_is_number rfl (by decide) fun cdv A outer s H E gd hr =>
  (gs_one (gs_ret (ge_and (ge_cb cr_isi cs_isi rfl T.m_isinstance (by decide +kernel) (ga_cons (ge_var 0) (ga_cons (ge_ty rfl T.m_int (by decide +kernel)) ga_nil))) (ge_and (ge_not (ge_cb cr_isi cs_isi rfl T.m_isinstance (by decide +kernel) (ga_cons (ge_var 0) (ga_cons (ge_ty rfl T.m_bool (by decide +kernel)) ga_nil)))) (ge_one (ge_cmp or_ge os_ge (ge_var 0) ge_int (nomark _)))))))

abbrev st__law_is_signs : Stmt := top 17
abbrev N__law_is_signs : List Str := ["thing", "one"]
theorem sc__law_is_signs : FnScope N__law_is_signs ["thing"] (defScope st__law_is_signs) := ⟨rfl, rfl, rfl, by decide +kernel, rfl, by decide +kernel, by decide +kernel⟩
def b__law_is_signs : MS :=
  sSeq (sIf (mNot (mTru (mIsiT (mVar 0) ["list", "tuple"]))) (sRet (mC (.bl false))) (sNx))
  (sRet (mBin eqD (mComp (mSeq (mVar 0)) (tgName 1) (mOr (mNot (mTru (mCallP d__law_is_number (mCons (mVar 1) (mNil))))) (mBl (mBin gtD (mVar 1) (mC (.int 2))))) (mVar 1) [1]) (mLst (mNil))))
def d__law_is_signs : Den := runF 2 b__law_is_signs
theorem ok__law_is_signs (T : Txt K mg) : FnG P w K mg base (L2.CX P w) 2 T.a__law_is_signs T.f__law_is_signs ["thing"] (spF ⟨K, gx T, []⟩ 1 d__law_is_signs) :=
  fn_denG T.F__law_is_signs sc__law_is_signs rfl (by decide) fun cdv A outer s H E gd hr =>
  (gs_cons (gs_if (gt_not (gt_tru (ge_isiT (Ts := ["list", "tuple"]) rfl T.m_isinstance (by decide +kernel) (ge_var 0) (by exact (pa_cons (pe_bltn rfl T.m_list (by decide +kernel) rfl) (pa_cons (pe_bltn rfl T.m_tuple (by decide +kernel) rfl) pa_nil)))) (fun _ => rfl))) (gs_one (gs_ret ge_bl)) gs_nil)
  (gs_one (gs_ret (ge_cmp (or_eq hr) os_eq (ge_lc (own := [("one", 1)]) (S := [1]) rfl sc__law_is_signs.nd (gi_seq (ge_var 0)) (blkOk_by (N := N__law_is_signs) (sc := defScope st__law_is_signs) (by decide +kernel)) (by decide) (fun _ _ _ _ _ => (gg_name (i := 1) sc__law_is_signs.nd rfl (by first | exact Or.inl rfl | exact Or.inr rfl))) (fun _ _ _ _ _ => (gts_one (gt_w (gw_or (gt_not (gt_tru (ge_callP ((ok__law_is_number T).at gd (hr.mono (by decide)) T.b__law_is_number takes0) rfl rfl T.g__law_is_number T.k__law_is_number (ga_cons (ge_var 1) ga_nil) (len_cons len_nil)) (fun _ => rfl))) (gw_or1 (gt_cmp or_gt os_gt (ge_var 1) ge_int (nomark _))))))) (fun _ _ _ _ _ => (ge_var 1))) (ge_lst ga_nil) (nomark _)))))

abbrev st__law_read : Stmt := top 15
abbrev N__law_read : List Str := ["signs", "book", "one", "twice"]
theorem sc__law_read : FnScope N__law_read ["signs"] (defScope st__law_read) := ⟨rfl, rfl, rfl, by decide +kernel, rfl, by decide +kernel, by decide +kernel⟩
def b__law_read : MS :=
  sSeq (sSet 1 (mC (.int 0)))
  (sSeq (sFor (mSeq (mVar 0)) (tgName 2) (sSeq (sSet 3 (mBin addD (mBin mulD (mC (.int 3)) (mVar 1)) (mVar 2)))
  (sSeq (sIf (mOr (mBl (mBin eqD (mBin modD (mVar 3) (mC (.int 2))) (mC (.int 1)))) (mAnd (mBl (mBin eqD (mVar 1) (mC (.int 0)))) (mBl (mBin eqD (mVar 2) (mC (.int 0)))))) (sRet (mLst (mNil))) (sNx))
  (sSet 1 (mBin fdivD (mVar 3) (mC (.int 2)))))))
  (sRet (mLst (mCons (mVar 1) (mNil)))))
def d__law_read : Den := runF 4 b__law_read
theorem ok__law_read (T : Txt K mg) : FnG P w K mg base (L2.CX P w) 1 T.a__law_read T.f__law_read ["signs"] (spF ⟨K, gx T, []⟩ 1 d__law_read) :=
  fn_denG T.F__law_read sc__law_read rfl (by decide) fun cdv A outer s H E gd hr =>
  (gs_cons (gs_set (i := 1) sc__law_read.nd rfl (by first | exact Or.inl rfl | exact Or.inr rfl) ge_int)
  (gs_cons (gs_for (passes_of rfl) rfl (gi_seq (ge_var 0)) (gg_name (i := 2) sc__law_read.nd rfl (by first | exact Or.inl rfl | exact Or.inr rfl)) (gs_cons (gs_set (i := 3) sc__law_read.nd rfl (by first | exact Or.inl rfl | exact Or.inr rfl) (ge_bin or_add os_add (ge_bin or_mul os_mul ge_int (ge_var 1)) (ge_var 2)))
  (gs_cons (gs_if (gt_w (gw_or (gt_cmp (or_eq hr) os_eq (ge_bin or_mod os_mod (ge_var 3) ge_int) ge_int (nomark _)) (gw_or1 (gt_w (gw_and (gt_cmp (or_eq hr) os_eq (ge_var 1) ge_int (nomark _)) (gw_and1 (gt_cmp (or_eq hr) os_eq (ge_var 2) ge_int (nomark _)))))))) (gs_one (gs_ret (ge_lst ga_nil))) gs_nil)
  (gs_one (gs_set (i := 1) sc__law_read.nd rfl (by first | exact Or.inl rfl | exact Or.inr rfl) (ge_bin or_fdiv os_fdiv (ge_var 3) ge_int))))))
  (gs_one (gs_ret (ge_lst (ga_cons (ge_var 1) ga_nil))))))

abbrev st_is_whole : Stmt := top 3
abbrev N_is_whole : List Str := ["thing"]
theorem sc_is_whole : FnScope N_is_whole ["thing"] (defScope st_is_whole) := ⟨rfl, rfl, rfl, by decide +kernel, rfl, by decide +kernel, by decide +kernel⟩
def b_is_whole : MS :=
  sRet (mAndV (mCB isiD (mCons (mVar 0) (mCons (mC (.ty "int")) (mNil)))) (mNotV (mCB isiD (mCons (mVar 0) (mCons (mC (.ty "bool")) (mNil))))))
def d_is_whole : Den := runF 1 b_is_whole
theorem ok_is_whole (T : Txt K mg) : FnG P w K mg base (L2.CX P w) 1 T.a_is_whole T.f_is_whole ["thing"] (spF ⟨K, gx T, []⟩ 1 d_is_whole) :=
  fn_denG T.F_is_whole sc_is_whole rfl (by decide) fun cdv A outer s H E gd hr =>
  (gs_one (gs_ret (ge_and (ge_cb cr_isi cs_isi rfl T.m_isinstance (by decide +kernel) (ga_cons (ge_var 0) (ga_cons (ge_ty rfl T.m_int (by decide +kernel)) ga_nil))) (ge_one (ge_not (ge_cb cr_isi cs_isi rfl T.m_isinstance (by decide +kernel) (ga_cons (ge_var 0) (ga_cons (ge_ty rfl T.m_bool (by decide +kernel)) ga_nil))))))))

abbrev st_are_signs : Stmt := top 6
abbrev N_are_signs : List Str := ["thing", "sign"]
theorem sc_are_signs : FnScope N_are_signs ["thing"] (defScope st_are_signs) := ⟨rfl, rfl, rfl, by decide +kernel, rfl, by decide +kernel, by decide +kernel⟩
def b_are_signs : MS :=
  sRet (mAndV (mIsiT (mVar 0) ["list", "tuple"]) (mCB allD (mCons (mComp (mSeq (mVar 0)) (tgName 1) (mYes) (mAndV (mCallP d_is_whole (mCons (mVar 1) (mNil))) (mChain leD leD (mC (.int 0)) (mVar 1) (mC (.int 2)))) [1]) (mNil))))
def d_are_signs : Den := runF 2 b_are_signs
theorem ok_are_signs (T : Txt K mg) : FnG P w K mg base (L2.CX P w) 2 T.a_are_signs T.f_are_signs ["thing"] (spF ⟨K, gx T, []⟩ 1 d_are_signs) :=
  fn_denG T.F_are_signs sc_are_signs rfl (by decide) fun cdv A outer s H E gd hr =>
  (gs_one (gs_ret (ge_and (ge_isiT (Ts := ["list", "tuple"]) rfl T.m_isinstance (by decide +kernel) (ge_var 0) (by exact (pa_cons (pe_bltn rfl T.m_list (by decide +kernel) rfl) (pa_cons (pe_bltn rfl T.m_tuple (by decide +kernel) rfl) pa_nil)))) (ge_one (ge_cb (cr_all rfl) cs_all rfl T.m_all (by decide +kernel) (ga_cons (ge_lc (own := [("sign", 1)]) (S := [1]) rfl sc_are_signs.nd (gi_seq (ge_var 0)) (blkOk_by (N := N_are_signs) (sc := defScope st_are_signs) (by decide +kernel)) (by decide) (fun _ _ _ _ _ => (gg_name (i := 1) sc_are_signs.nd rfl (by first | exact Or.inl rfl | exact Or.inr rfl))) (fun _ _ _ _ _ => gts_nil) (fun _ _ _ _ _ => (ge_and (ge_callP ((ok_is_whole T).at gd (hr.mono (by decide)) T.b_is_whole takes0) rfl rfl T.g_is_whole T.k_is_whole (ga_cons (ge_var 1) ga_nil) (len_cons len_nil)) (ge_one (ge_chain or_le os_le or_le os_le ge_int (ge_var 1) ge_int))))) ga_nil))))))

abbrev st_init_BadSigns : Stmt := (clsBody (top 1)).getD 0 (.Pass ⟨0, 0, 0, 0⟩)
theorem sc_init_BadSigns : FnScope ["self"] ["self"] (defScope st_init_BadSigns) := ⟨rfl, rfl, rfl, by decide +kernel, rfl, by decide +kernel, by decide +kernel⟩
theorem ok_init_BadSigns (T : Txt K mg) : FnOk P w K mg base (L2.CX P w) 1 T.i_BadSigns T.if_BadSigns ["self"] (spI0 T.c_BadSigns) :=
  T.iF_BadSigns.okX sc_init_BadSigns (fun vs H Q E ⟨a, e, _⟩ => by rw [e]; rfl) fun cdv A outer s H vs Q E hr ⟨a, e, h, q⟩ =>
    ⟨_, pss_one (ps_expr (pe_binit PySem.F.excBase_ValueError rfl T.m_ValueError (by decide +kernel) (by kernel_rfl) (by decide +kernel) T.v_ValueError (by decide +kernel) (pa_cons (pe_var (i := 0) rfl (Or.inl rfl)) (pa_cons pe_str pa_nil)))),
      by subst e; exact ⟨.ref a, rfl, a, T.c_BadSigns, T.i_BadSigns, [_], rfl, by decide, T.e_BadSigns, h, q⟩⟩

abbrev st_from_halves : Stmt := top 7
abbrev N_from_halves : List Str := ["signs", "book", "sign", "double"]
theorem sc_from_halves : FnScope N_from_halves ["signs"] (defScope st_from_halves) := ⟨rfl, rfl, rfl, by decide +kernel, rfl, by decide +kernel, by decide +kernel⟩
def b_from_halves : MS :=
  sSeq (sIf (mNot (mTru (mCallP d_are_signs (mCons (mVar 0) (mNil))))) (sRaise0 "BadSigns") (sNx))
  (sSeq (sSet 1 (mC (.int 0)))
  (sSeq (sFor (mSeq (mVar 0)) (tgName 2) (sSeq (sSet 3 (mBin addD (mBin mulD (mC (.int 3)) (mVar 1)) (mVar 2)))
  (sSeq (sIf (mOr (mBl (mBin eqD (mVar 3) (mC (.int 0)))) (mBl (mBin eqD (mBin modD (mVar 3) (mC (.int 2))) (mC (.int 1))))) (sRaise0 "BadSigns") (sNx))
  (sSet 1 (mBin fdivD (mVar 3) (mC (.int 2)))))))
  (sRet (mVar 1))))
def d_from_halves : Den := runF 4 b_from_halves
theorem ok_from_halves (T : Txt K mg) : FnG P w K mg base (L2.CX P w) 3 T.a_from_halves T.f_from_halves ["signs"] (spF ⟨K, gx T, []⟩ 1 d_from_halves) :=
  fn_denG T.F_from_halves sc_from_halves rfl (by decide) fun cdv A outer s H E gd hr =>
  (gs_cons (gs_if (gt_not (gt_tru (ge_callP ((ok_are_signs T).at gd (hr.mono (by decide)) T.b_are_signs (takes_of rfl rfl rfl rfl)) rfl rfl T.g_are_signs T.k_are_signs (ga_cons (ge_var 0) ga_nil) (len_cons len_nil)) (fun _ => rfl))) (gs_one (gs_raise0 (C := T.c_BadSigns) rfl (takes_of rfl rfl rfl rfl) rfl (pmk0 PySem.F.excBase_ValueError T.e_BadSigns (ok_init_BadSigns T) (hr.mono (by decide)) T.ib_BadSigns (fun _ _ _ _ _ _ _ h => absurd h (by rintro ⟨_, _, _, _, _, _, _, _, _, _, _, _, z⟩; exact z)) rfl T.g_BadSigns))) gs_nil)
  (gs_cons (gs_set (i := 1) sc_from_halves.nd rfl (by first | exact Or.inl rfl | exact Or.inr rfl) ge_int)
  (gs_cons (gs_for (passes_of rfl) rfl (gi_seq (ge_var 0)) (gg_name (i := 2) sc_from_halves.nd rfl (by first | exact Or.inl rfl | exact Or.inr rfl)) (gs_cons (gs_set (i := 3) sc_from_halves.nd rfl (by first | exact Or.inl rfl | exact Or.inr rfl) (ge_bin or_add os_add (ge_bin or_mul os_mul ge_int (ge_var 1)) (ge_var 2)))
  (gs_cons (gs_if (gt_w (gw_or (gt_cmp (or_eq hr) os_eq (ge_var 3) ge_int (nomark _)) (gw_or1 (gt_cmp (or_eq hr) os_eq (ge_bin or_mod os_mod (ge_var 3) ge_int) ge_int (nomark _))))) (gs_one (gs_raise0 (C := T.c_BadSigns) rfl (takes_of rfl rfl rfl rfl) rfl (pmk0 PySem.F.excBase_ValueError T.e_BadSigns (ok_init_BadSigns T) (hr.mono (by decide)) T.ib_BadSigns (fun _ _ _ _ _ _ _ h => absurd h (by rintro ⟨_, _, _, _, _, _, _, _, _, _, _, _, z⟩; exact z)) rfl T.g_BadSigns))) gs_nil)
  (gs_one (gs_set (i := 1) sc_from_halves.nd rfl (by first | exact Or.inl rfl | exact Or.inr rfl) (ge_bin or_fdiv os_fdiv (ge_var 3) ge_int))))))
  (gs_one (gs_ret (ge_var 1))))))

abbrev st__law_told : Stmt := top 16
abbrev N__law_told : List Str := ["thing", "kept", "e"]
theorem sc__law_told : FnScope N__law_told ["thing"] (defScope st__law_told) := ⟨rfl, rfl, rfl, by decide +kernel, rfl, by decide +kernel, by decide +kernel⟩
def b__law_told : MS :=
  sSeq (sSet 1 (mC .non))
  (sSeq (sTry 2 (sRet (mLst (mCons (mCallP d_from_halves (mCons (mVar 0) (mNil))) (mNil)))) [("BadSigns", sSet 1 (mVar 2))])
  (sRet (mIf (mTru (mCB (isiE ITk) (mCons (mVar 1) (mCons (mC (.ty "ValueError")) (mNil))))) (mLst (mNil)) (mC .non))))
def d__law_told : Den := runF 3 b__law_told
theorem ok__law_told (T : Txt K mg) : FnG P w K mg base (L2.CX P w) 4 T.a__law_told T.f__law_told ["thing"] (spF ⟨K, gx T, []⟩ 1 d__law_told) :=
  fn_denG T.F__law_told sc__law_told rfl (by decide) fun cdv A outer s H E gd hr =>
  (gs_cons (gs_set (i := 1) sc__law_told.nd rfl (by first | exact Or.inl rfl | exact Or.inr rfl) ge_non)
  (gs_cons (gs_try (i := 2) rfl rfl rfl sc__law_told.nd rfl rfl (takes_of rfl rfl rfl rfl) (fun _ _ _ tk1 po1 => (gs_one (gs_ret (ge_lst (ga_cons (ge_callP ((ok_from_halves T).at gd (hr.mono (by decide)) T.b_from_halves tk1) rfl rfl T.g_from_halves T.k_from_halves (ga_cons (ge_var 0) ga_nil) (len_cons len_nil)) ga_nil))))) (.cons (c := "BadSigns") ⟨rfl, by decide, .inl T.g_BadSigns⟩ (exm T "BadSigns" _ rfl) (fun _ _ => (gs_one (gs_set (i := 1) sc__law_told.nd rfl (by first | exact Or.inl rfl | exact Or.inr rfl) (ge_var 2)))) .nil))
  (gs_one (gs_ret (ge_if (gt_tru (ge_cb cr_isE (cs_isE (isF T)) rfl T.m_isinstance (by decide +kernel) (ga_cons (ge_var 1) (ga_cons (ge_ty rfl T.m_ValueError (by decide +kernel)) ga_nil))) (fun _ => rfl)) (ge_lst ga_nil) ge_non)))))

abbrev st__law_pick : Stmt := top 11
abbrev N__law_pick : List Str := ["pen", "some"]
theorem sc__law_pick : FnScope N__law_pick ["pen", "some"] (defScope st__law_pick) := ⟨rfl, rfl, rfl, by decide +kernel, rfl, by decide +kernel, by decide +kernel⟩
def b__law_pick : MS :=
  sRet (mIx (mVar 1) (mCall d__law_draw (mCons (mVar 0) (mCons (mCB lenD (mCons (mVar 1) (mNil))) (mNil)))))
def d__law_pick : Den := runF 2 b__law_pick
theorem ok__law_pick (T : Txt K mg) : FnG P w K mg base (L2.CX P w) 2 T.a__law_pick T.f__law_pick ["pen", "some"] (spF ⟨K, gx T, []⟩ 2 d__law_pick) :=
  fn_denG T.F__law_pick sc__law_pick rfl (by decide) fun cdv A outer s H E gd hr =>
  (gs_one (gs_ret (ge_sub hr (ge_var 1) (ge_call ((ok__law_draw T).at gd (hr.mono (by decide)) T.b__law_draw (takes_of rfl rfl rfl rfl)) rfl rfl T.g__law_draw T.k__law_draw (ga_cons (ge_var 0) (ga_cons (ge_cb cr_len cs_len rfl T.m_len (by decide +kernel) (ga_cons (ge_var 1) ga_nil)) ga_nil)) (len_cons (len_cons len_nil))) (fun _ _ => rfl))))

abbrev st_law : Stmt := top 18
abbrev N_law : List Str := ["script", "pen", "turn", "book", "signs", "kept", "again", "at", "some", "one", "kind", "bent", "due", "few", "thing", "k"]
theorem sc_law : FnScope N_law ["script"] (defScope st_law) := ⟨rfl, rfl, rfl, by decide +kernel, rfl, by decide +kernel, by decide +kernel⟩
def b_law : MS :=
  sSeq (sSetO 1 (mCallP d__law_pen (mCons (mVar 0) (mNil))))
  (sSeq (sFor (mRng rng1 (mCons (mBin addD (mC (.int 3)) (mCB minD (mCons (mC (.int 6)) (mCons (mCB lenD (mCons (mVar 0) (mNil))) (mNil))))) (mNil))) (tgName 2) (sSeq (sSet 3 (mCall d__law_far (mCons (mVar 1) (mNil))))
  (sSeq (sSet 4 (mCallP d_halves (mCons (mVar 3) (mNil))))
  (sSeq (sIf (mOr (mNot (mTru (mCB isiD (mCons (mVar 4) (mCons (mC (.ty "list")) (mNil)))))) (mOr (mNot (mTru (mCallP d__law_is_signs (mCons (mVar 4) (mNil))))) (mBl (mBin neD (mCB reprD (mCons (mCallP d__law_read (mCons (mVar 4) (mNil))) (mNil))) (mCB reprD (mCons (mLst (mCons (mVar 3) (mNil))) (mNil))))))) (sRet (mC (.bl false))) (sNx))
  (sSeq (sSet 5 (mCB toLstD (mCons (mVar 4) (mNil))))
  (sSeq (sIf (mBl (mBin neD (mCB reprD (mCons (mCallP d__law_told (mCons (mCB toTupD (mCons (mVar 4) (mNil))) (mNil))) (mNil))) (mCB reprD (mCons (mLst (mCons (mVar 3) (mNil))) (mNil))))) (sRet (mC (.bl false))) (sNx))
  (sSeq (sApp 4 (mC (.int 7)))
  (sSeq (sIf (mOr (mBl (mBin neD (mCallP d_halves (mCons (mVar 3) (mNil))) (mVar 5))) (mBl (mBin neD (mCB reprD (mCons (mCallP d__law_told (mCons (mVar 5) (mNil))) (mNil))) (mCB reprD (mCons (mLst (mCons (mVar 3) (mNil))) (mNil)))))) (sRet (mC (.bl false))) (sNx))
  (sSeq (sFor (mRng rng1 (mCons (mC (.int 4)) (mNil))) (tgName 6) (sSeq (sPar 7 8 (mCons (mCall d__law_draw (mCons (mVar 1) (mCons (mBin addD (mCB lenD (mCons (mVar 5) (mNil))) (mC (.int 1))) (mNil)))) (mCons (mCB toLstD (mCons (mVar 5) (mNil))) (mNil))))
  (sSeq (sSet 9 (mCall d__law_pick (mCons (mVar 1) (mCons (mLst (mCons (mC (.int 0)) (mCons (mC (.int 1)) (mCons (mC (.int 2)) (mCons (mC (.int 0)) (mCons (mC (.int 1)) (mCons (mC (.int 2)) (mCons (mC (.int 3)) (mCons (mUn negD (mC (.int 1))) (mCons (mC (.bl true)) (mCons (mC (.bl false)) (mCons (mC .non) (mCons (mC (.str "1")) (mCons (mTup (mCons (mC (.int 1)) (mNil))) (mNil))))))))))))))) (mNil)))))
  (sSeq (sSet 10 (mCall d__law_draw (mCons (mVar 1) (mCons (mC (.int 3)) (mNil)))))
  (sSeq (sSet 11 (mBin addD (mBin addD (mSl (mVar 8) (mNoPart) (mPart (mVar 7))) (mBin mulD (mLst (mCons (mVar 9) (mNil))) (mCB toIntD (mCons (mBin ltD (mVar 10) (mC (.int 2))) (mNil))))) (mSl (mVar 8) (mPart (mBin addD (mVar 7) (mCB toIntD (mCons (mBin gtD (mVar 10) (mC (.int 0))) (mNil))))) (mNoPart))))
  (sSeq (sSet 12 (mIf (mTru (mCallP d__law_is_signs (mCons (mVar 11) (mNil)))) (mCallP d__law_read (mCons (mVar 11) (mNil))) (mLst (mNil))))
  (sIf (mBl (mBin neD (mCB reprD (mCons (mCallP d__law_told (mCons (mVar 11) (mNil))) (mNil))) (mCB reprD (mCons (mVar 12) (mNil))))) (sRet (mC (.bl false))) (sNx))))))))
  (sSeq (sSet 13 (mComp (mRng rng1 (mCons (mCall d__law_draw (mCons (mVar 1) (mCons (mC (.int 31)) (mNil)))) (mNil))) (tgName 15) (mYes) (mCall d__law_draw (mCons (mVar 1) (mCons (mC (.int 3)) (mNil)))) [15]))
  (sSeq (sIf (mBl (mBin neD (mCB reprD (mCons (mCallP d__law_told (mCons (mVar 13) (mNil))) (mNil))) (mCB reprD (mCons (mCallP d__law_read (mCons (mVar 13) (mNil))) (mNil))))) (sRet (mC (.bl false))) (sNx))
  (sSeq (sSet 14 (mCall d__law_pick (mCons (mVar 1) (mCons (mLst (mCons (mC .non) (mCons (mC (.int 0)) (mCons (mC (.int 2)) (mCons (mC (.bl true)) (mCons (mC (.str "")) (mCons (mC (.str "2")) (mCons (mNewK) (mCons (mDisp [(.inl 2)] [mC (.int 1)]) (mCons (mLst (mCons (mLst (mCons (mC (.int 2)) (mNil))) (mNil))) (mCons (mTup (mCons (mC (.int 2)) (mCons (mLst (mCons (mC (.int 1)) (mNil))) (mNil)))) (mCons (mC (.str "21")) (mNil))))))))))))) (mNil)))))
  (sIf (mBl (mBin neD (mCB reprD (mCons (mCallP d__law_told (mCons (mVar 14) (mNil))) (mNil))) (mC (.str "[]")))) (sRet (mC (.bl false))) (sNx))))))))))))))
  (sRet (mAndV (mBin eqD (mCallP d_from_halves (mCons (mLst (mNil)) (mNil))) (mC (.int 0))) (mAndV (mBin eqD (mCallP d_halves (mCons (mC (.int 0)) (mNil))) (mLst (mNil))) (mBin eqD (mCallP d_from_halves (mCons (mTup (mCons (mC (.int 2)) (mCons (mC (.int 1)) (mNil)))) (mNil))) (mC (.int 2)))))))
def d_law : Den := runF 16 b_law
theorem ok_law (T : Txt K mg) : FnG P w K mg base (L2.CX P w) 5 T.a_law T.f_law ["script"] (spF ⟨K, gx T, []⟩ 1 d_law) :=
  fn_denG T.F_law sc_law rfl (by decide) fun cdv A outer s H E gd hr =>
  (gs_cons (gs_setO (i := 1) sc_law.nd rfl (by first | exact Or.inl rfl | exact Or.inr rfl) (ge_callP ((ok__law_pen T).at gd (hr.mono (by decide)) T.b__law_pen (takes_of rfl rfl rfl rfl)) rfl rfl T.g__law_pen T.k__law_pen (ga_cons (ge_var 0) ga_nil) (len_cons len_nil)))
  (gs_cons (gs_for (passes_of rfl) rfl (gi_range1 rfl T.m_range (ga_cons (ge_bin or_add os_add ge_int (ge_cb (cr_mins rfl) cs_min rfl T.m_min (by decide +kernel) (ga_cons ge_int (ga_cons (ge_cb cr_len cs_len rfl T.m_len (by decide +kernel) (ga_cons (ge_var 0) ga_nil)) ga_nil)))) ga_nil)) (gg_name (i := 2) sc_law.nd rfl (by first | exact Or.inl rfl | exact Or.inr rfl)) (gs_cons (gs_set (i := 3) sc_law.nd rfl (by first | exact Or.inl rfl | exact Or.inr rfl) (ge_call ((ok__law_far T).at gd (hr.mono (by decide)) T.b__law_far (takes_of rfl rfl rfl rfl)) rfl rfl T.g__law_far T.k__law_far (ga_cons (ge_var 1) ga_nil) (len_cons len_nil)))
  (gs_cons (gs_set (i := 4) sc_law.nd rfl (by first | exact Or.inl rfl | exact Or.inr rfl) (ge_callP ((ok_halves T).at gd (hr.mono (by decide)) T.b_halves (takes_of rfl rfl rfl rfl)) rfl rfl T.g_halves T.k_halves (ga_cons (ge_var 3) ga_nil) (len_cons len_nil)))
  (gs_cons (gs_if (gt_w (gw_or (gt_not (gt_tru (ge_cb cr_isi cs_isi rfl T.m_isinstance (by decide +kernel) (ga_cons (ge_var 4) (ga_cons (ge_ty rfl T.m_list (by decide +kernel)) ga_nil))) (fun _ => rfl))) (gw_or (gt_not (gt_tru (ge_callP ((ok__law_is_signs T).at gd (hr.mono (by decide)) T.b__law_is_signs (takes_of rfl rfl rfl rfl)) rfl rfl T.g__law_is_signs T.k__law_is_signs (ga_cons (ge_var 4) ga_nil) (len_cons len_nil)) (fun _ => rfl))) (gw_or1 (gt_cmp (or_ne hr) os_ne (ge_cb (cr_repr gd hr) cs_repr rfl T.m_repr (by decide +kernel) (ga_cons (ge_callP ((ok__law_read T).at gd (hr.mono (by decide)) T.b__law_read (takes_of rfl rfl rfl rfl)) rfl rfl T.g__law_read T.k__law_read (ga_cons (ge_var 4) ga_nil) (len_cons len_nil)) ga_nil)) (ge_cb (cr_repr gd hr) cs_repr rfl T.m_repr (by decide +kernel) (ga_cons (ge_lst (ga_cons (ge_var 3) ga_nil)) ga_nil)) (nomark _)))))) (gs_one (gs_ret ge_bl)) gs_nil)
  (gs_cons (gs_set (i := 5) sc_law.nd rfl (by first | exact Or.inl rfl | exact Or.inr rfl) (ge_ct cr_toLst cs_toLst rfl T.m_list (by decide +kernel) (ga_cons (ge_var 4) ga_nil)))
  (gs_cons (gs_if (gt_cmp (or_ne hr) os_ne (ge_cb (cr_repr gd hr) cs_repr rfl T.m_repr (by decide +kernel) (ga_cons (ge_callP ((ok__law_told T).at gd (hr.mono (by decide)) T.b__law_told (takes_of rfl rfl rfl rfl)) rfl rfl T.g__law_told T.k__law_told (ga_cons (ge_ct cr_toTup cs_toTup rfl T.m_tuple (by decide +kernel) (ga_cons (ge_var 4) ga_nil)) ga_nil) (len_cons len_nil)) ga_nil)) (ge_cb (cr_repr gd hr) cs_repr rfl T.m_repr (by decide +kernel) (ga_cons (ge_lst (ga_cons (ge_var 3) ga_nil)) ga_nil)) (nomark _)) (gs_one (gs_ret ge_bl)) gs_nil)
  (gs_cons (gs_app (i := 4) (pe_var rfl (by first | exact Or.inl rfl | exact Or.inr (Or.inl rfl))) ge_int)
  (gs_cons (gs_if (gt_w (gw_or (gt_cmp (or_ne hr) os_ne (ge_callP ((ok_halves T).at gd (hr.mono (by decide)) T.b_halves (takes_of rfl rfl rfl rfl)) rfl rfl T.g_halves T.k_halves (ga_cons (ge_var 3) ga_nil) (len_cons len_nil)) (ge_var 5) (nomark _)) (gw_or1 (gt_cmp (or_ne hr) os_ne (ge_cb (cr_repr gd hr) cs_repr rfl T.m_repr (by decide +kernel) (ga_cons (ge_callP ((ok__law_told T).at gd (hr.mono (by decide)) T.b__law_told (takes_of rfl rfl rfl rfl)) rfl rfl T.g__law_told T.k__law_told (ga_cons (ge_var 5) ga_nil) (len_cons len_nil)) ga_nil)) (ge_cb (cr_repr gd hr) cs_repr rfl T.m_repr (by decide +kernel) (ga_cons (ge_lst (ga_cons (ge_var 3) ga_nil)) ga_nil)) (nomark _))))) (gs_one (gs_ret ge_bl)) gs_nil)
  (gs_cons (gs_for (passes_of rfl) rfl (gi_range1 rfl T.m_range (ga_cons ge_int ga_nil)) (gg_name (i := 6) sc_law.nd rfl (by first | exact Or.inl rfl | exact Or.inr rfl)) (gs_cons (gs_par (i := 7) (j := 8) rfl sc_law.nd rfl rfl (by decide) rfl rfl (ga_cons (ge_call ((ok__law_draw T).at gd (hr.mono (by decide)) T.b__law_draw (takes_of rfl rfl rfl rfl)) rfl rfl T.g__law_draw T.k__law_draw (ga_cons (ge_var 1) (ga_cons (ge_bin or_add os_add (ge_cb cr_len cs_len rfl T.m_len (by decide +kernel) (ga_cons (ge_var 5) ga_nil)) ge_int) ga_nil)) (len_cons (len_cons len_nil))) (ga_cons (ge_ct cr_toLst cs_toLst rfl T.m_list (by decide +kernel) (ga_cons (ge_var 5) ga_nil)) ga_nil)) rfl)
  (gs_cons (gs_set (i := 9) sc_law.nd rfl (by first | exact Or.inl rfl | exact Or.inr rfl) (ge_call ((ok__law_pick T).at gd (hr.mono (by decide)) T.b__law_pick (takes_of rfl rfl rfl rfl)) rfl rfl T.g__law_pick T.k__law_pick (ga_cons (ge_var 1) (ga_cons (ge_lst (ga_cons ge_int (ga_cons ge_int (ga_cons ge_int (ga_cons ge_int (ga_cons ge_int (ga_cons ge_int (ga_cons ge_int (ga_cons (ge_un or_neg os_neg ge_int) (ga_cons ge_bl (ga_cons ge_bl (ga_cons ge_non (ga_cons ge_str (ga_cons (ge_tup (ga_cons ge_int ga_nil)) ga_nil)))))))))))))) ga_nil)) (len_cons (len_cons len_nil))))
  (gs_cons (gs_set (i := 10) sc_law.nd rfl (by first | exact Or.inl rfl | exact Or.inr rfl) (ge_call ((ok__law_draw T).at gd (hr.mono (by decide)) T.b__law_draw (takes_of rfl rfl rfl rfl)) rfl rfl T.g__law_draw T.k__law_draw (ga_cons (ge_var 1) (ga_cons ge_int ga_nil)) (len_cons (len_cons len_nil))))
  (gs_cons (gs_set (i := 11) sc_law.nd rfl (by first | exact Or.inl rfl | exact Or.inr rfl) (ge_bin or_add os_add (ge_bin or_add os_add (ge_sl (ge_var 8) go_none (go_some (ge_var 7))) (ge_bin or_mul os_mul (ge_lst (ga_cons (ge_var 9) ga_nil)) (ge_ct cr_toInt cs_toInt rfl T.m_int (by decide +kernel) (ga_cons (ge_cmp or_lt os_lt (ge_var 10) ge_int (nomark _)) ga_nil)))) (ge_sl (ge_var 8) (go_some (ge_bin or_add os_add (ge_var 7) (ge_ct cr_toInt cs_toInt rfl T.m_int (by decide +kernel) (ga_cons (ge_cmp or_gt os_gt (ge_var 10) ge_int (nomark _)) ga_nil)))) go_none)))
  (gs_cons (gs_set (i := 12) sc_law.nd rfl (by first | exact Or.inl rfl | exact Or.inr rfl) (ge_if (gt_tru (ge_callP ((ok__law_is_signs T).at gd (hr.mono (by decide)) T.b__law_is_signs (takes_of rfl rfl rfl rfl)) rfl rfl T.g__law_is_signs T.k__law_is_signs (ga_cons (ge_var 11) ga_nil) (len_cons len_nil)) (fun _ => rfl)) (ge_callP ((ok__law_read T).at gd (hr.mono (by decide)) T.b__law_read (takes_of rfl rfl rfl rfl)) rfl rfl T.g__law_read T.k__law_read (ga_cons (ge_var 11) ga_nil) (len_cons len_nil)) (ge_lst ga_nil)))
  (gs_one (gs_if (gt_cmp (or_ne hr) os_ne (ge_cb (cr_repr gd hr) cs_repr rfl T.m_repr (by decide +kernel) (ga_cons (ge_callP ((ok__law_told T).at gd (hr.mono (by decide)) T.b__law_told (takes_of rfl rfl rfl rfl)) rfl rfl T.g__law_told T.k__law_told (ga_cons (ge_var 11) ga_nil) (len_cons len_nil)) ga_nil)) (ge_cb (cr_repr gd hr) cs_repr rfl T.m_repr (by decide +kernel) (ga_cons (ge_var 12) ga_nil)) (nomark _)) (gs_one (gs_ret ge_bl)) gs_nil))))))))
  (gs_cons (gs_setLc (i := 13) (own := [("k", 15)]) (S := [15]) rfl sc_law.nd rfl rfl (sw_true rfl rfl rfl (by decide +kernel)) (gi_range1 rfl T.m_range (ga_cons (ge_call ((ok__law_draw T).at gd (hr.mono (by decide)) T.b__law_draw (takes_of rfl rfl rfl rfl)) rfl rfl T.g__law_draw T.k__law_draw (ga_cons (ge_var 1) (ga_cons ge_int ga_nil)) (len_cons (len_cons len_nil))) ga_nil)) (blkOk_by (N := N_law) (sc := defScope st_law) (by decide +kernel)) (by decide) (fun _ _ _ _ _ => (gg_name (i := 15) sc_law.nd rfl (by first | exact Or.inl rfl | exact Or.inr rfl))) (fun _ _ _ _ _ => gts_nil) (fun _ _ _ _ _ => (ge_call ((ok__law_draw T).at gd (hr.mono (by decide)) T.b__law_draw takes0) rfl rfl T.g__law_draw T.k__law_draw (ga_cons (ge_var 1) (ga_cons ge_int ga_nil)) (len_cons (len_cons len_nil)))))
  (gs_cons (gs_if (gt_cmp (or_ne hr) os_ne (ge_cb (cr_repr gd hr) cs_repr rfl T.m_repr (by decide +kernel) (ga_cons (ge_callP ((ok__law_told T).at gd (hr.mono (by decide)) T.b__law_told (takes_of rfl rfl rfl rfl)) rfl rfl T.g__law_told T.k__law_told (ga_cons (ge_var 13) ga_nil) (len_cons len_nil)) ga_nil)) (ge_cb (cr_repr gd hr) cs_repr rfl T.m_repr (by decide +kernel) (ga_cons (ge_callP ((ok__law_read T).at gd (hr.mono (by decide)) T.b__law_read (takes_of rfl rfl rfl rfl)) rfl rfl T.g__law_read T.k__law_read (ga_cons (ge_var 13) ga_nil) (len_cons len_nil)) ga_nil)) (nomark _)) (gs_one (gs_ret ge_bl)) gs_nil)
  (gs_cons (gs_set (i := 14) sc_law.nd rfl (by first | exact Or.inl rfl | exact Or.inr rfl) (ge_call ((ok__law_pick T).at gd (hr.mono (by decide)) T.b__law_pick (takes_of rfl rfl rfl rfl)) rfl rfl T.g__law_pick T.k__law_pick (ga_cons (ge_var 1) (ga_cons (ge_lst (ga_cons ge_non (ga_cons ge_int (ga_cons ge_int (ga_cons ge_bl (ga_cons ge_str (ga_cons ge_str (ga_cons ge_newK (ga_cons (ge_disp (gp_cons (k := (.inl 2)) pe_int ge_int gp_nil) rfl (by rfl) rfl (by simp) (by decide)) (ga_cons (ge_lst (ga_cons (ge_lst (ga_cons ge_int ga_nil)) ga_nil)) (ga_cons (ge_tup (ga_cons ge_int (ga_cons (ge_lst (ga_cons ge_int ga_nil)) ga_nil))) (ga_cons ge_str ga_nil)))))))))))) ga_nil)) (len_cons (len_cons len_nil))))
  (gs_one (gs_if (gt_cmp (or_ne hr) os_ne (ge_cb (cr_repr gd hr) cs_repr rfl T.m_repr (by decide +kernel) (ga_cons (ge_callP ((ok__law_told T).at gd (hr.mono (by decide)) T.b__law_told (takes_of rfl rfl rfl rfl)) rfl rfl T.g__law_told T.k__law_told (ga_cons (ge_var 14) ga_nil) (len_cons len_nil)) ga_nil)) ge_str (nomark _)) (gs_one (gs_ret ge_bl)) gs_nil))))))))))))))
  (gs_one (gs_ret (ge_and (ge_cmp (or_eq hr) os_eq (ge_callP ((ok_from_halves T).at gd (hr.mono (by decide)) T.b_from_halves (takes_of rfl rfl rfl rfl)) rfl rfl T.g_from_halves T.k_from_halves (ga_cons (ge_lst ga_nil) ga_nil) (len_cons len_nil)) ge_int (nomark _)) (ge_and (ge_cmp (or_eq hr) os_eq (ge_callP ((ok_halves T).at gd (hr.mono (by decide)) T.b_halves (takes_of rfl rfl rfl rfl)) rfl rfl T.g_halves T.k_halves (ga_cons ge_int ga_nil) (len_cons len_nil)) (ge_lst ga_nil) (nomark _)) (ge_one (ge_cmp (or_eq hr) os_eq (ge_callP ((ok_from_halves T).at gd (hr.mono (by decide)) T.b_from_halves (takes_of rfl rfl rfl rfl)) rfl rfl T.g_from_halves T.k_from_halves (ga_cons (ge_tup (ga_cons ge_int (ga_cons ge_int ga_nil))) ga_nil) (len_cons len_nil)) ge_int (nomark _)))))))))

end
def txt_mk {K : PySem.W.Frag} {h : Heap} {mg : Str → Option Value} (X : K.In h) (G : h.Ns mainGlobals mg)
    {a0 : Addr} {od0 an0 : Option Addr} {sl0 : Array (Option Value)} {oc0 kV0 dc0 pm0 cd0 ct0 : Value}
    {a1 : Addr} {od1 an1 : Option Addr} {sl1 : Array (Option Value)} {oc1 kV1 dc1 pm1 cd1 ct1 : Value}
    {a2 : Addr} {od2 an2 : Option Addr} {sl2 : Array (Option Value)} {oc2 kV2 dc2 pm2 cd2 ct2 : Value}
    {a3 : Addr} {od3 an3 : Option Addr} {sl3 : Array (Option Value)} {oc3 kV3 dc3 pm3 cd3 ct3 : Value}
    {a4 : Addr} {od4 an4 : Option Addr} {sl4 : Array (Option Value)} {oc4 kV4 dc4 pm4 cd4 ct4 : Value}
    {a5 : Addr} {od5 an5 : Option Addr} {sl5 : Array (Option Value)} {oc5 kV5 dc5 pm5 cd5 ct5 : Value}
    {a6 : Addr} {od6 an6 : Option Addr} {sl6 : Array (Option Value)} {oc6 kV6 dc6 pm6 cd6 ct6 : Value}
    {a7 : Addr} {od7 an7 : Option Addr} {sl7 : Array (Option Value)} {oc7 kV7 dc7 pm7 cd7 ct7 : Value}
    {a8 : Addr} {od8 an8 : Option Addr} {sl8 : Array (Option Value)} {oc8 kV8 dc8 pm8 cd8 ct8 : Value}
    {a9 : Addr} {od9 an9 : Option Addr} {sl9 : Array (Option Value)} {oc9 kV9 dc9 pm9 cd9 ct9 : Value}
    {a10 : Addr} {od10 an10 : Option Addr} {sl10 : Array (Option Value)} {oc10 kV10 dc10 pm10 cd10 ct10 : Value}
    {a11 : Addr} {od11 an11 : Option Addr} {sl11 : Array (Option Value)} {oc11 kV11 dc11 pm11 cd11 ct11 : Value}
    {a12 : Addr} {od12 an12 : Option Addr} {sl12 : Array (Option Value)} {oc12 kV12 dc12 pm12 cd12 ct12 : Value}
    {a13 : Addr} {od13 an13 : Option Addr} {sl13 : Array (Option Value)} {oc13 kV13 dc13 pm13 cd13 ct13 : Value}
    {C0 I0 N0 : Addr} {nm0 q0 : Str} {bs0 : List Value} {sn0 : List Str} {su0 : List Value} {ab0 : Bool} {co0 : Option Bool} {dd0 : Option Addr} {m00 m10 m20 m30 m50 : Option Value}
    {iod0 ian0 : Option Addr} {isl0 : Array (Option Value)} {ioc0 ikV0 idc0 ipm0 icd0 ict0 : Value}
    (g0 : PySem.W.nsIn K mainGlobals "_law_pen" = some (some (.ref a0)))
    (l0 : K.lookup a0 = some ⟨oc0, od0, .func (PySem.W.fnOf "_law_pen" "_law_pen" (defArgs (top 9)) (defBody (top 9)) (defScope (top 9)) .none kV0 dc0 pm0 an0 cd0 ct0), sl0⟩)
    (c0 : PySem.W.codeIn K cd0 "_law_pen" = true)
    (k0 : PySem.W.keepIn K (.ref a0) = true)
    (g1 : PySem.W.nsIn K mainGlobals "_law_draw" = some (some (.ref a1)))
    (l1 : K.lookup a1 = some ⟨oc1, od1, .func (PySem.W.fnOf "_law_draw" "_law_draw" (defArgs (top 10)) (defBody (top 10)) (defScope (top 10)) .none kV1 dc1 pm1 an1 cd1 ct1), sl1⟩)
    (c1 : PySem.W.codeIn K cd1 "_law_draw" = true)
    (k1 : PySem.W.keepIn K (.ref a1) = true)
    (g2 : PySem.W.nsIn K mainGlobals "_law_great" = some (some (.ref a2)))
    (l2 : K.lookup a2 = some ⟨oc2, od2, .func (PySem.W.fnOf "_law_great" "_law_great" (defArgs (top 12)) (defBody (top 12)) (defScope (top 12)) .none kV2 dc2 pm2 an2 cd2 ct2), sl2⟩)
    (c2 : PySem.W.codeIn K cd2 "_law_great" = true)
    (k2 : PySem.W.keepIn K (.ref a2) = true)
    (g3 : PySem.W.nsIn K mainGlobals "_law_far" = some (some (.ref a3)))
    (l3 : K.lookup a3 = some ⟨oc3, od3, .func (PySem.W.fnOf "_law_far" "_law_far" (defArgs (top 13)) (defBody (top 13)) (defScope (top 13)) .none kV3 dc3 pm3 an3 cd3 ct3), sl3⟩)
    (c3 : PySem.W.codeIn K cd3 "_law_far" = true)
    (k3 : PySem.W.keepIn K (.ref a3) = true)
    (g4 : PySem.W.nsIn K mainGlobals "halves" = some (some (.ref a4)))
    (l4 : K.lookup a4 = some ⟨oc4, od4, .func (PySem.W.fnOf "halves" "halves" (defArgs (top 5)) (defBody (top 5)) (defScope (top 5)) .none kV4 dc4 pm4 an4 cd4 ct4), sl4⟩)
    (c4 : PySem.W.codeIn K cd4 "halves" = true)
    (k4 : PySem.W.keepIn K (.ref a4) = true)
    (g5 : PySem.W.nsIn K mainGlobals "_law_is_number" = some (some (.ref a5)))
    (l5 : K.lookup a5 = some ⟨oc5, od5, .func (PySem.W.fnOf "_law_is_number" "_law_is_number" (defArgs (top 14)) (defBody (top 14)) (defScope (top 14)) .none kV5 dc5 pm5 an5 cd5 ct5), sl5⟩)
    (c5 : PySem.W.codeIn K cd5 "_law_is_number" = true)
    (k5 : PySem.W.keepIn K (.ref a5) = true)
    (g6 : PySem.W.nsIn K mainGlobals "_law_is_signs" = some (some (.ref a6)))
    (l6 : K.lookup a6 = some ⟨oc6, od6, .func (PySem.W.fnOf "_law_is_signs" "_law_is_signs" (defArgs (top 17)) (defBody (top 17)) (defScope (top 17)) .none kV6 dc6 pm6 an6 cd6 ct6), sl6⟩)
    (c6 : PySem.W.codeIn K cd6 "_law_is_signs" = true)
    (k6 : PySem.W.keepIn K (.ref a6) = true)
    (g7 : PySem.W.nsIn K mainGlobals "_law_read" = some (some (.ref a7)))
    (l7 : K.lookup a7 = some ⟨oc7, od7, .func (PySem.W.fnOf "_law_read" "_law_read" (defArgs (top 15)) (defBody (top 15)) (defScope (top 15)) .none kV7 dc7 pm7 an7 cd7 ct7), sl7⟩)
    (c7 : PySem.W.codeIn K cd7 "_law_read" = true)
    (k7 : PySem.W.keepIn K (.ref a7) = true)
    (g8 : PySem.W.nsIn K mainGlobals "is_whole" = some (some (.ref a8)))
    (l8 : K.lookup a8 = some ⟨oc8, od8, .func (PySem.W.fnOf "is_whole" "is_whole" (defArgs (top 3)) (defBody (top 3)) (defScope (top 3)) .none kV8 dc8 pm8 an8 cd8 ct8), sl8⟩)
    (c8 : PySem.W.codeIn K cd8 "is_whole" = true)
    (k8 : PySem.W.keepIn K (.ref a8) = true)
    (g9 : PySem.W.nsIn K mainGlobals "are_signs" = some (some (.ref a9)))
    (l9 : K.lookup a9 = some ⟨oc9, od9, .func (PySem.W.fnOf "are_signs" "are_signs" (defArgs (top 6)) (defBody (top 6)) (defScope (top 6)) .none kV9 dc9 pm9 an9 cd9 ct9), sl9⟩)
    (c9 : PySem.W.codeIn K cd9 "are_signs" = true)
    (k9 : PySem.W.keepIn K (.ref a9) = true)
    (g10 : PySem.W.nsIn K mainGlobals "from_halves" = some (some (.ref a10)))
    (l10 : K.lookup a10 = some ⟨oc10, od10, .func (PySem.W.fnOf "from_halves" "from_halves" (defArgs (top 7)) (defBody (top 7)) (defScope (top 7)) .none kV10 dc10 pm10 an10 cd10 ct10), sl10⟩)
    (c10 : PySem.W.codeIn K cd10 "from_halves" = true)
    (k10 : PySem.W.keepIn K (.ref a10) = true)
    (g11 : PySem.W.nsIn K mainGlobals "_law_told" = some (some (.ref a11)))
    (l11 : K.lookup a11 = some ⟨oc11, od11, .func (PySem.W.fnOf "_law_told" "_law_told" (defArgs (top 16)) (defBody (top 16)) (defScope (top 16)) .none kV11 dc11 pm11 an11 cd11 ct11), sl11⟩)
    (c11 : PySem.W.codeIn K cd11 "_law_told" = true)
    (k11 : PySem.W.keepIn K (.ref a11) = true)
    (g12 : PySem.W.nsIn K mainGlobals "_law_pick" = some (some (.ref a12)))
    (l12 : K.lookup a12 = some ⟨oc12, od12, .func (PySem.W.fnOf "_law_pick" "_law_pick" (defArgs (top 11)) (defBody (top 11)) (defScope (top 11)) .none kV12 dc12 pm12 an12 cd12 ct12), sl12⟩)
    (c12 : PySem.W.codeIn K cd12 "_law_pick" = true)
    (k12 : PySem.W.keepIn K (.ref a12) = true)
    (g13 : PySem.W.nsIn K mainGlobals "law" = some (some (.ref a13)))
    (l13 : K.lookup a13 = some ⟨oc13, od13, .func (PySem.W.fnOf "law" "law" (defArgs (top 18)) (defBody (top 18)) (defScope (top 18)) .none kV13 dc13 pm13 an13 cd13 ct13), sl13⟩)
    (c13 : PySem.W.codeIn K cd13 "law" = true)
    (k13 : PySem.W.keepIn K (.ref a13) = true)
    (xg0 : PySem.W.nsIn K mainGlobals "BadSigns" = some (some (.ref C0)))
    (xl0 : K.lookup C0 = some (excClassObj nm0 q0 C0 N0 bs0 [.type "ValueError", .type "Exception", .type "BaseException", .type "object"] true sn0 su0 ab0 co0 dd0 m00 m10 m20 m30 m50 "ValueError.__new__"))
    (xi0 : PySem.W.findIn K (.ref C0) "__init__" = some (some (.ref I0)))
    (xt0 : PySem.W.typeIn K (.ref I0) = some (.type "function"))
    (xf0 : K.lookup I0 = some ⟨ioc0, iod0, .func (PySem.W.fnOf "__init__" "BadSigns.__init__" (defArgs ((clsBody (top 1)).getD 0 (.Pass ⟨0, 0, 0, 0⟩))) (defBody ((clsBody (top 1)).getD 0 (.Pass ⟨0, 0, 0, 0⟩))) (defScope ((clsBody (top 1)).getD 0 (.Pass ⟨0, 0, 0, 0⟩))) .none ikV0 idc0 ipm0 ian0 icd0 ict0), isl0⟩)
    (xc0 : PySem.W.codeIn K icd0 "BadSigns.__init__" = true)
    (xj0 : PySem.W.keepIn K (.ref I0) = true)
    (xk0 : PySem.W.keepIn K (.ref C0) = true)
    (xe0 : PySem.W.subIn K (.ref C0) (.type "BaseException") = some true)
    (xy0 : PySem.W.typeIn K (.ref C0) = some (.type "type"))
    (xga0 : PySem.W.findIn K (.ref C0) "__getattribute__" = some (some (.builtin "BaseException.__getattribute__")))
    (xgb0 : PySem.W.findIn K (.ref C0) "__getattr__" = some none)
    (xh0 : PySem.W.hasDictIn K C0 = true)
    (xca0 : PySem.W.findIn K (.ref C0) "__class__" = some (some (.builtin "object.__class__")))
    (xcb0 : PySem.W.specialIn K (.builtin "object.__class__") "__get__" = some (some (.builtin "getset_descriptor.__get__")))
    (xcc0 : PySem.W.takesIn K (.builtin "object.__class__") = some true)
    (xcd0 : PySem.W.mroIn K C0 (.type "object") = some true)
    (xs0_0 : PySem.W.subIn K (.ref C0) (.ref C0) = some true)
    (xqValueError0 : PySem.W.mroIn K C0 (.type "ValueError") = some true)
    (vValueError : PySem.W.findCls K (.type "ValueError") (.type "type") "__init__" = some (.val (.builtin "ValueError.__init__")))
    (zValueError : PySem.W.nsIn K mainGlobals "ValueError" = some none)
    (zabs : PySem.W.nsIn K mainGlobals "abs" = some none)
    (zall : PySem.W.nsIn K mainGlobals "all" = some none)
    (zbool : PySem.W.nsIn K mainGlobals "bool" = some none)
    (zdivmod : PySem.W.nsIn K mainGlobals "divmod" = some none)
    (zint : PySem.W.nsIn K mainGlobals "int" = some none)
    (zisinstance : PySem.W.nsIn K mainGlobals "isinstance" = some none)
    (zlen : PySem.W.nsIn K mainGlobals "len" = some none)
    (zlist : PySem.W.nsIn K mainGlobals "list" = some none)
    (zmin : PySem.W.nsIn K mainGlobals "min" = some none)
    (zrange : PySem.W.nsIn K mainGlobals "range" = some none)
    (zrepr : PySem.W.nsIn K mainGlobals "repr" = some none)
    (ztuple : PySem.W.nsIn K mainGlobals "tuple" = some none) : Txt K mg :=
  { a__law_pen := a0, f__law_pen := _, F__law_pen := fun_mk l0 c0 k0, g__law_pen := PySem.W.mg_of X G g0, k__law_pen := k0, b__law_pen := (fun_mk (st := top 9) l0 c0 k0).binds (ps := ["script"]) fun _ _ _ _ _ _ us hl => match us, hl with | [_], _ => rfl,
    a__law_draw := a1, f__law_draw := _, F__law_draw := fun_mk l1 c1 k1, g__law_draw := PySem.W.mg_of X G g1, k__law_draw := k1, b__law_draw := (fun_mk (st := top 10) l1 c1 k1).binds (ps := ["pen", "many"]) fun _ _ _ _ _ _ us hl => match us, hl with | [_, _], _ => rfl,
    a__law_great := a2, f__law_great := _, F__law_great := fun_mk l2 c2 k2, g__law_great := PySem.W.mg_of X G g2, k__law_great := k2, b__law_great := (fun_mk (st := top 12) l2 c2 k2).binds (ps := ["pen", "figures"]) fun _ _ _ _ _ _ us hl => match us, hl with | [_, _], _ => rfl,
    a__law_far := a3, f__law_far := _, F__law_far := fun_mk l3 c3 k3, g__law_far := PySem.W.mg_of X G g3, k__law_far := k3, b__law_far := (fun_mk (st := top 13) l3 c3 k3).binds (ps := ["pen"]) fun _ _ _ _ _ _ us hl => match us, hl with | [_], _ => rfl,
    a_halves := a4, f_halves := _, F_halves := fun_mk l4 c4 k4, g_halves := PySem.W.mg_of X G g4, k_halves := k4, b_halves := (fun_mk (st := top 5) l4 c4 k4).binds (ps := ["book"]) fun _ _ _ _ _ _ us hl => match us, hl with | [_], _ => rfl,
    a__law_is_number := a5, f__law_is_number := _, F__law_is_number := fun_mk l5 c5 k5, g__law_is_number := PySem.W.mg_of X G g5, k__law_is_number := k5, b__law_is_number := (fun_mk (st := top 14) l5 c5 k5).binds (ps := ["thing"]) fun _ _ _ _ _ _ us hl => match us, hl with | [_], _ => rfl,
    a__law_is_signs := a6, f__law_is_signs := _, F__law_is_signs := fun_mk l6 c6 k6, g__law_is_signs := PySem.W.mg_of X G g6, k__law_is_signs := k6, b__law_is_signs := (fun_mk (st := top 17) l6 c6 k6).binds (ps := ["thing"]) fun _ _ _ _ _ _ us hl => match us, hl with | [_], _ => rfl,
    a__law_read := a7, f__law_read := _, F__law_read := fun_mk l7 c7 k7, g__law_read := PySem.W.mg_of X G g7, k__law_read := k7, b__law_read := (fun_mk (st := top 15) l7 c7 k7).binds (ps := ["signs"]) fun _ _ _ _ _ _ us hl => match us, hl with | [_], _ => rfl,
    a_is_whole := a8, f_is_whole := _, F_is_whole := fun_mk l8 c8 k8, g_is_whole := PySem.W.mg_of X G g8, k_is_whole := k8, b_is_whole := (fun_mk (st := top 3) l8 c8 k8).binds (ps := ["thing"]) fun _ _ _ _ _ _ us hl => match us, hl with | [_], _ => rfl,
    a_are_signs := a9, f_are_signs := _, F_are_signs := fun_mk l9 c9 k9, g_are_signs := PySem.W.mg_of X G g9, k_are_signs := k9, b_are_signs := (fun_mk (st := top 6) l9 c9 k9).binds (ps := ["thing"]) fun _ _ _ _ _ _ us hl => match us, hl with | [_], _ => rfl,
    a_from_halves := a10, f_from_halves := _, F_from_halves := fun_mk l10 c10 k10, g_from_halves := PySem.W.mg_of X G g10, k_from_halves := k10, b_from_halves := (fun_mk (st := top 7) l10 c10 k10).binds (ps := ["signs"]) fun _ _ _ _ _ _ us hl => match us, hl with | [_], _ => rfl,
    a__law_told := a11, f__law_told := _, F__law_told := fun_mk l11 c11 k11, g__law_told := PySem.W.mg_of X G g11, k__law_told := k11, b__law_told := (fun_mk (st := top 16) l11 c11 k11).binds (ps := ["thing"]) fun _ _ _ _ _ _ us hl => match us, hl with | [_], _ => rfl,
    a__law_pick := a12, f__law_pick := _, F__law_pick := fun_mk l12 c12 k12, g__law_pick := PySem.W.mg_of X G g12, k__law_pick := k12, b__law_pick := (fun_mk (st := top 11) l12 c12 k12).binds (ps := ["pen", "some"]) fun _ _ _ _ _ _ us hl => match us, hl with | [_, _], _ => rfl,
    a_law := a13, f_law := _, F_law := fun_mk l13 c13 k13, g_law := PySem.W.mg_of X G g13, k_law := k13, b_law := (fun_mk (st := top 18) l13 c13 k13).binds (ps := ["script"]) fun _ _ _ _ _ _ us hl => match us, hl with | [_], _ => rfl,
    c_BadSigns := C0, i_BadSigns := I0, if_BadSigns := _, iF_BadSigns := fun_mk xf0 xc0 xj0, ib_BadSigns := (fun_mk (st := ((clsBody (top 1)).getD 0 (.Pass ⟨0, 0, 0, 0⟩))) xf0 xc0 xj0).binds (ps := ["self"]) fun _ _ _ _ _ _ us hl => match us, hl with | [_], _ => rfl, g_BadSigns := PySem.W.mg_of X G xg0, e_BadSigns := ⟨⟨_, _, _, _, _, _, _, _, _, _, _, _, _, _, xl0⟩, xi0, xt0, xe0, xy0, xk0⟩, x_BadSigns := ⟨xga0, xgb0, xe0, xh0, xca0, xcb0, xcc0, xcd0⟩, xm_BadSigns_BadSigns := PySem.W.exm_ref xe0 xh0 xy0 xs0_0, xk_BadSigns_ValueError := kit_exc xqValueError0 (by decide +kernel),
    v_ValueError := vValueError,
    m_ValueError := PySem.W.mg_none_of X G zValueError,
    m_abs := PySem.W.mg_none_of X G zabs,
    m_all := PySem.W.mg_none_of X G zall,
    m_bool := PySem.W.mg_none_of X G zbool,
    m_divmod := PySem.W.mg_none_of X G zdivmod,
    m_int := PySem.W.mg_none_of X G zint,
    m_isinstance := PySem.W.mg_none_of X G zisinstance,
    m_len := PySem.W.mg_none_of X G zlen,
    m_list := PySem.W.mg_none_of X G zlist,
    m_min := PySem.W.mg_none_of X G zmin,
    m_range := PySem.W.mg_none_of X G zrange,
    m_repr := PySem.W.mg_none_of X G zrepr,
    m_tuple := PySem.W.mg_none_of X G ztuple,
    bt_law := fun _ _ => .of_eq rfl }
theorem finish {K : PySem.W.Frag} {P : Program} {w : World} {mg : Str → Option Value} {fa : Addr} (T : Txt K mg) (hfa : mg "law" = some (.ref fa)) :
    ∃ fd : FuncData, (∀ (s : Shared) (u : Value), BindsTo s fd ⟨[u], []⟩ [("script", u)]) ∧ ∀ base : Heap, K.In base → base.Ns mainGlobals mg → FnG P w K mg base (L2.CX P w) 5 fa fd ["script"] (spD K 1 d_law) := by
  have e := hfa.symm.trans T.g_law
  cases e
  exact ⟨T.f_law, T.bt_law, fun base _ _ => (ok_law T).imp fun vs H Q E h => h (gx T)⟩
end K82
namespace K82
open PySem PySem.Spec FB L2

/-! ### the mathematics -/
/-- a book's signs, the last first -/
def hs (b : Nat) : List Int := if h : b = 0 then [] else ((2 * b % 3 : Nat) : Int) :: hs (2 * b / 3)
termination_by b
decreasing_by omega
theorem hs_zero : hs 0 = [] := by unfold hs; simp
theorem hs_pos {b : Nat} (h : b ≠ 0) : hs b = ((2 * b % 3 : Nat) : Int) :: hs (2 * b / 3) := by
  rw [hs]
  rw [dif_neg h]
theorem hs_len : ∀ (k b : Nat), b < 2 ^ k → (hs b).length ≤ 2 * k
  | 0, b, h => by
    have : b = 0 := by simpa using h
    subst this
    rw [hs_zero]
    simp
  | k + 1, b, h => by
    by_cases h0 : b = 0
    · subst h0
      rw [hs_zero]
      simp
    · rw [hs_pos h0]
      by_cases h1 : 2 * b / 3 = 0
      · rw [h1, hs_zero]
        simp
        omega
      · rw [hs_pos h1]
        have := hs_len k (2 * (2 * b / 3) / 3) (by
          rw [Nat.pow_succ] at h
          omega)
        simp only [List.length_cons]
        omega
theorem hs_sgn : ∀ b : Nat, ∀ s ∈ hs b, 0 ≤ s ∧ s ≤ 2 := fun b => by
  induction b using Nat.strongRecOn with
  | ind b ih =>
    by_cases h0 : b = 0
    · subst h0
      rw [hs_zero]
      simp
    · rw [hs_pos h0]
      intro s hs'
      rcases List.mem_cons.mp hs' with rfl | h
      · omega
      · exact ih _ (by omega) s h
/-- a list of signs read -/
def rd : Int → List Int → Option Int
  | b, [] => some b
  | b, s :: r => if (3 * b + s) % 2 = 1 ∨ 3 * b + s = 0 then none else rd ((3 * b + s) / 2) r
theorem rd_app : ∀ (l r : List Int) (b : Int), rd b (l ++ r) = (rd b l).bind fun c => rd c r
  | [], r, b => rfl
  | s :: l, r, b => by
    simp only [List.cons_append, rd]
    split
    · rfl
    · exact rd_app l r _
theorem rd_hs : ∀ b : Nat, rd 0 (hs b).reverse = some (b : Int) := fun b => by
  induction b using Nat.strongRecOn with
  | ind b ih =>
    by_cases h0 : b = 0
    · subst h0
      rw [hs_zero]
      rfl
    · rw [hs_pos h0, List.reverse_cons, rd_app, ih (2 * b / 3) (by omega)]
      show rd _ [_] = _
      simp only [rd]
      rw [if_neg (by omega)]
      congr 1
      omega
theorem rd_lt : ∀ (l : List Int) (b c : Int) (k : Nat), 0 ≤ b → b < 2 ^ k → (∀ s ∈ l, 0 ≤ s ∧ s ≤ 2) → rd b l = some c → 0 ≤ c ∧ c < 2 ^ (k + l.length)
  | [], b, c, k, h0, h1, _, e => by
    cases e
    exact ⟨h0, h1⟩
  | s :: l, b, c, k, h0, h1, h2, e => by
    unfold rd at e
    split at e
    · cases e
    · have hs := h2 s List.mem_cons_self
      have : (2 : Int) ^ (k + 1) = 2 * 2 ^ k := by rw [Int.pow_succ]; omega
      have ih := rd_lt l ((3 * b + s) / 2) c (k + 1) (by omega) (by omega) (fun s h => h2 s (List.mem_cons_of_mem _ h)) e
      rw [show k + (s :: l).length = k + 1 + l.length by simp; omega]
      exact ih
/-! ### halves -/
abbrev h_body : MS := sSeq (sAsg (tgTup [tgName 0, tgName 2]) (mCB divmodD (mCons (mBin mulD (mC (.int 2)) (mVar 0)) (mCons (mC (.int 3)) (mNil))))) (sApp 1 (mVar 2))
abbrev h_test : M Bool := mBl (mBin gtD (mVar 0) (mC (.int 0)))
theorem halves_loop : ∀ (b : Nat) (acc : List D) (x : Option Slot) (so : Sto), b < 2 ^ 1000 → acc.length + (hs b).length ≤ 10000 →
    ∃ x', whileM h_test h_body ⟨[some (.frz (.int b)), some (.own (.lst acc)), x], so⟩ = some (.nx ⟨[some (.frz (.int 0)), some (.own (.lst (acc ++ (hs b).map .int))), x'], so⟩) := fun b => by
  induction b using Nat.strongRecOn with
  | ind b ih =>
    intro acc x so hb hl
    by_cases h0 : b = 0
    · subst h0
      rw [hs_zero]
      refine ⟨x, ?_⟩
      rw [while_end (st1 := ⟨[some (.frz (.int 0)), some (.own (.lst acc)), x], so⟩) (by rfl)]
      simp
    · rw [hs_pos h0] at hl
      have hl' : acc.length < 16777216 := by
        simp only [List.length_cons] at hl
        omega
      have bits : Builtin.Int.intBits 2 + Builtin.Int.intBits (b : Int) ≤ 134217728 := by
        have h1 : Builtin.Int.intBits (b : Int) ≤ 1000 := bits_le (by simpa using hb)
        have h2 : Builtin.Int.intBits 2 ≤ 2 := bits_le (by decide)
        omega
      have e1 : (2 * (b : Int)) / 3 = ((2 * b / 3 : Nat) : Int) := by omega
      have e2 : (2 * (b : Int)) % 3 = ((2 * b % 3 : Nat) : Int) := by omega
      have hpos : 0 < b := by omega
      obtain ⟨x', ih⟩ := ih (2 * b / 3) (by omega) (acc ++ [.int ((2 * b % 3 : Nat) : Int)]) (some (.frz (.int ((2 * b % 3 : Nat) : Int)))) so (by omega) (by simp only [List.length_append, List.length_cons, List.length_nil] at *; omega)
      refine ⟨x', ?_⟩
      rw [while_step (st1 := ⟨[some (.frz (.int b)), some (.own (.lst acc)), x], so⟩) (st2 := ⟨[some (.frz (.int (2 * (b : Int) / 3))), some (.own (.lst (acc ++ [.int (2 * (b : Int) % 3)]))), some (.frz (.int (2 * (b : Int) % 3)))], so⟩)]
      · rw [e1, e2, ih, hs_pos h0, List.map_cons, List.append_assoc]
        rfl
      · simp [mBl, mBin, M.bind, mVar, DSt.slot, mC, M.pure, mOp2, mGet, Val.get, Slot.get, intOp, mSlot, Slot.val, blD, mOpt, hpos]
      · simp [sSeq, sAsg, M.toS, mCB, mCons, mNil, M.bind, mBin, mC, M.pure, mVar, DSt.slot, mOp2, mGet, Val.get, Slot.get, mulD, bits, mSlot, Slot.val, mGets, divmodD, mFrz, tgTup, tgAll, tgName, DSt.put, sApp, mFrzV, hl']
theorem halves_ok {b : Nat} (hb : b < 2 ^ 1000) : d_halves [.int b] [] = some (.ret (.own (lints (hs b).reverse)) []) := by
  obtain ⟨x', e⟩ := halves_loop b [] none [] hb (by have := hs_len 1000 b hb; simp; omega)
  have e : whileM h_test h_body ⟨[some (.frz (.int b)), some (.own (.lst [])), none], []⟩ = some (.nx ⟨[some (.frz (.int 0)), some (.own (.lst ((hs b).map .int))), x'], []⟩) := e
  show outF (b_halves ⟨[some (.frz (.int b)), none, none], []⟩) = _
  unfold b_halves
  rw [sSeq_nx (st1 := ⟨[some (.frz (.int b)), some (.own (.lst [])), none], []⟩) (by rfl), sSeq_nx e]
  show some (FR.ret (Slot.own (.lst ((hs b).map D.int).reverse)) []) = some (FR.ret (Slot.own (.lst ((hs b).reverse.map D.int))) [])
  rw [List.map_reverse]

/-! ### what is a list of signs -/
def numD : D → Bool
  | .int i => decide (0 ≤ i)
  | _ => false
def sgn : D → Bool
  | .int i => decide (0 ≤ i) && decide (i ≤ 2)
  | _ => false
theorem num_ok {d : D} (h : ∃ t, tyN d = some t) : d__law_is_number [d] [] = some (.ret (.frz (.bl (numD d))) []) := by
  obtain ⟨t, h⟩ := h
  cases d <;> first | (cases h; done) | rfl
def wholeD : D → Bool
  | .int _ => true
  | _ => false
theorem whole_ok {d : D} (h : ∃ t, tyN d = some t) : d_is_whole [d] [] = some (.ret (.frz (.bl (wholeD d))) []) := by
  obtain ⟨t, h⟩ := h
  cases d <;> first | (cases h; done) | rfl
/-- a list or a tuple, its things -/
def seqs : D → Option (List D)
  | .lst ds => some ds
  | .tup ds => some ds
  | .scr ns => some (ns.map .int)
  | _ => none
theorem is_signs_ok {d : D} {ds : List D} (h : seqs d = some ds) (hg : ∀ x ∈ ds, Good x) (hl : ds.length < 10000) : d__law_is_signs [d] [] = some (.ret (.frz (.bl (ds.all sgn))) []) := by
  have hc : compF (tgName 1) (mOr (mNot (mTru (mCallP d__law_is_number (mCons (mVar 1) (mNil))))) (mBl (mBin gtD (mVar 1) (mC (.int 2))))) (mVar 1) [1] [] ds ⟨[some (.frz d), none], []⟩ =
      some (.ok ([] ++ (ds.filter fun x => !sgn x).map id) ⟨[some (.frz d), none], []⟩) := by
    refine comp_pure (fun x hx => ?_) (by simp; omega)
    refine ⟨⟨[some (.frz d), some (.frz x)], []⟩, ⟨[some (.frz d), some (.frz x)], []⟩, rfl, ?_, rfl, fun _ => ⟨.vr 1, _, _, rfl, rfl, rfl⟩⟩
    have e : mCallP d__law_is_number (mCons (mVar 1) (mNil)) ⟨[some (.frz d), some (.frz x)], []⟩ = some (.ok (.frz (.bl (numD x))) ⟨[some (.frz d), some (.frz x)], []⟩) :=
      callP_at (s := .frz (.bl (numD x))) rfl rfl (by simp [noObjs, Slot.get, (hg x hx).no]) (num_ok (hg x hx).ty) rfl
    have e2 : mNot (mTru (mCallP d__law_is_number (mCons (mVar 1) (mNil)))) ⟨[some (.frz d), some (.frz x)], []⟩ = some (.ok (!numD x) ⟨[some (.frz d), some (.frz x)], []⟩) := by
      simp [mNot, mTru, M.bind, e, mGet, Val.get, mOpt, truD, M.pure]
    unfold mOr M.bind
    rw [e2]
    cases hn : numD x with
    | false =>
      have : sgn x = false := by
        cases x <;> first | rfl | (simp [numD] at hn; simp [sgn]; omega)
      rw [this]
      rfl
    | true =>
      cases x <;> first | (cases hn; done) | skip
      rename_i i
      have h0 : 0 ≤ i := of_decide_eq_true hn
      have e3 : (!sgn (.int i)) = decide (2 < i) := by
        simp only [sgn, h0, decide_true, Bool.true_and]
        by_cases h2 : i ≤ 2
        · simp [h2]
        · simp [h2]; omega
      rw [e3]
      rfl
  have he : eqD (.lst (ds.filter fun x => !sgn x)) (.lst []) = some (.frz (.bl (ds.all sgn))) := by
    unfold eqD
    rw [eqB_nil fun x hx => hg x (List.mem_filter.mp hx).1]
    simp only [Option.map_some, Option.some.injEq, Slot.frz.injEq, D.bl.injEq]
    rw [Bool.eq_iff_iff, List.isEmpty_iff, List.filter_eq_nil_iff, List.all_eq_true]
    simp
  have hm : mComp (mSeq (mVar 0)) (tgName 1) (mOr (mNot (mTru (mCallP d__law_is_number (mCons (mVar 1) (mNil))))) (mBl (mBin gtD (mVar 1) (mC (.int 2))))) (mVar 1) [1] ⟨[some (.frz d), none], []⟩ = some (.ok (.own (.lst (ds.filter fun x => !sgn x))) ⟨[some (.frz d), none], []⟩) := by
    have := mComp_at (mi := mSeq (mVar 0)) (t := tgName 1) (c := mOr (mNot (mTru (mCallP d__law_is_number (mCons (mVar 1) (mNil))))) (mBl (mBin gtD (mVar 1) (mC (.int 2))))) (e := mVar 1) (vs := [1]) (st := ⟨[some (.frz d), none], []⟩) (st1 := ⟨[some (.frz d), none], []⟩) (ds := ds) (by
      cases d <;> first | (cases h; done) | skip
      all_goals cases h; rfl) hc
    rw [List.map_id, List.nil_append] at this
    exact this
  show outF (b__law_is_signs ⟨[some (.frz d), none], []⟩) = _
  unfold b__law_is_signs
  rw [sSeq_nx (st1 := ⟨[some (.frz d), none], []⟩) (by
    cases d <;> first | (cases h; done) | rfl)]
  rw [ret_at (bin_at (vb := .own (.lst [])) hm rfl rfl rfl he)]
  rfl
theorem is_signs_no {d : D} (h : seqs d = none) (ht : ∃ t, tyN d = some t) : d__law_is_signs [d] [] = some (.ret (.frz (.bl false)) []) := by
  obtain ⟨t, ht⟩ := ht
  cases d <;> first | (cases ht; done) | (cases h; done) | rfl
theorem are_signs_ok {d : D} {ds : List D} (h : seqs d = some ds) (hg : ∀ x ∈ ds, Good x) (hl : ds.length < 10000) : d_are_signs [d] [] = some (.ret (.frz (.bl (ds.all sgn))) []) := by
  have hc : compF (tgName 1) mYes (mAndV (mCallP d_is_whole (mCons (mVar 1) (mNil))) (mChain leD leD (mC (.int 0)) (mVar 1) (mC (.int 2)))) [1] [] ds ⟨[some (.frz d), none], []⟩ =
      some (.ok ([] ++ (ds.filter fun _ => true).map fun x => .bl (sgn x)) ⟨[some (.frz d), none], []⟩) := by
    refine comp_pure (fun x hx => ?_) (by simp; omega)
    refine ⟨⟨[some (.frz d), some (.frz x)], []⟩, ⟨[some (.frz d), some (.frz x)], []⟩, rfl, rfl, rfl, fun _ => ⟨.frz (.bl (sgn x)), ⟨[some (.frz d), some (.frz x)], []⟩, ⟨[some (.frz d), some (.frz x)], []⟩, ?_, rfl, rfl⟩⟩
    have e : mCallP d_is_whole (mCons (mVar 1) (mNil)) ⟨[some (.frz d), some (.frz x)], []⟩ = some (.ok (.frz (.bl (wholeD x))) ⟨[some (.frz d), some (.frz x)], []⟩) :=
      callP_at (s := .frz (.bl (wholeD x))) rfl rfl (by simp [noObjs, Slot.get, (hg x hx).no]) (whole_ok (hg x hx).ty) rfl
    rw [andV_at (c := wholeD x) e rfl]
    cases x <;> first | rfl | skip
    rename_i i
    show mChain leD leD (mC (.int 0)) (mVar 1) (mC (.int 2)) ⟨[some (.frz d), some (.frz (.int i))], []⟩ = _
    by_cases h0 : 0 ≤ i
    · simp [mChain, mC, M.bind, M.pure, mVar, DSt.slot, mBl, mOp2, mGet, Val.get, Slot.get, intOp, mSlot, Slot.val, mOpt, blD, h0, sgn]
    · simp [mChain, mC, M.bind, M.pure, mVar, DSt.slot, mBl, mOp2, mGet, Val.get, Slot.get, intOp, mSlot, Slot.val, mOpt, blD, h0, sgn]
  have hm : mComp (mSeq (mVar 0)) (tgName 1) mYes (mAndV (mCallP d_is_whole (mCons (mVar 1) (mNil))) (mChain leD leD (mC (.int 0)) (mVar 1) (mC (.int 2)))) [1] ⟨[some (.frz d), none], []⟩ = some (.ok (.own (.lst (ds.map fun x => .bl (sgn x)))) ⟨[some (.frz d), none], []⟩) := by
    have := mComp_at (mi := mSeq (mVar 0)) (t := tgName 1) (c := mYes) (e := mAndV (mCallP d_is_whole (mCons (mVar 1) (mNil))) (mChain leD leD (mC (.int 0)) (mVar 1) (mC (.int 2)))) (vs := [1]) (st := ⟨[some (.frz d), none], []⟩) (st1 := ⟨[some (.frz d), none], []⟩) (ds := ds) (by
      cases d <;> first | (cases h; done) | skip
      all_goals cases h; rfl) hc
    rw [List.filter_eq_self.mpr (fun _ _ => rfl), List.nil_append] at this
    exact this
  have ha : mCB allD (mCons (mComp (mSeq (mVar 0)) (tgName 1) mYes (mAndV (mCallP d_is_whole (mCons (mVar 1) (mNil))) (mChain leD leD (mC (.int 0)) (mVar 1) (mC (.int 2)))) [1]) (mNil)) ⟨[some (.frz d), none], []⟩ = some (.ok (.frz (.bl (ds.all sgn))) ⟨[some (.frz d), none], []⟩) := by
    refine cb_at (s := .frz (.bl (ds.all sgn))) (vs := [.own (.lst (ds.map fun x => .bl (sgn x)))]) (ds := [.lst (ds.map fun x => .bl (sgn x))]) ?_ rfl ?_
    · exact cons_at hm rfl
    · have e : blsD (ds.map fun x => .bl (sgn x)) = some (ds.map sgn) := by
        rw [show (ds.map fun x => D.bl (sgn x)) = (ds.map sgn).map D.bl by rw [List.map_map]; rfl]
        exact blsD_map _
      unfold allD
      simp only [e, Option.map_some]
      congr 3
      rw [List.all_map]
      rfl
  have hi : mIsiT (mVar 0) ["list", "tuple"] ⟨[some (.frz d), none], []⟩ = some (.ok (.frz (.bl true)) ⟨[some (.frz d), none], []⟩) := by
    cases d <;> first | (cases h; done) | rfl
  show outF (sRet _ ⟨[some (.frz d), none], []⟩) = _
  rw [ret_at (by rw [andV_at hi rfl]; exact ha)]
  rfl
theorem are_signs_no {d : D} (h : seqs d = none) (ht : ∃ t, tyN d = some t) : d_are_signs [d] [] = some (.ret (.frz (.bl false)) []) := by
  obtain ⟨t, ht⟩ := ht
  cases d <;> first | (cases ht; done) | (cases h; done) | rfl
/-! ### reading -/
theorem mul3 {b : Int} (h0 : 0 ≤ b) (h : b < 2 ^ 5000) : Builtin.Int.intBits 3 + Builtin.Int.intBits b ≤ 134217728 := by
  have h1 : Builtin.Int.intBits b ≤ 5000 := bits_le (by omega)
  have h2 : Builtin.Int.intBits 3 ≤ 2 := bits_le (by decide)
  omega
abbrev r_body : MS := sSeq (sSet 3 (mBin addD (mBin mulD (mC (.int 3)) (mVar 1)) (mVar 2)))
  (sSeq (sIf (mOr (mBl (mBin eqD (mBin modD (mVar 3) (mC (.int 2))) (mC (.int 1)))) (mAnd (mBl (mBin eqD (mVar 1) (mC (.int 0)))) (mBl (mBin eqD (mVar 2) (mC (.int 0)))))) (sRet (mLst (mNil))) (sNx))
  (sSet 1 (mBin fdivD (mVar 3) (mC (.int 2)))))
theorem read_loop {d : D} : ∀ (l : List Int) (b : Int) (x y : Option Slot) (k : Nat), 0 ≤ b → b < 2 ^ k → k + l.length ≤ 5000 → (∀ s ∈ l, 0 ≤ s ∧ s ≤ 2) →
    match rd b l with
    | some c => ∃ x' y', forF (tgName 2) r_body (l.map .int) ⟨[some (.frz d), some (.frz (.int b)), x, y], []⟩ = some (.nx ⟨[some (.frz d), some (.frz (.int c)), x', y'], []⟩)
    | none => ∃ st, forF (tgName 2) r_body (l.map .int) ⟨[some (.frz d), some (.frz (.int b)), x, y], []⟩ = some (.rt (.own (.lst [])) st) ∧ st.so = []
  | [], b, x, y, k, _, _, _, _ => ⟨x, y, rfl⟩
  | s :: l, b, x, y, k, h0, h1, hk, h2 => by
    have hs := h2 s List.mem_cons_self
    have hbit : b < 2 ^ 5000 := Int.lt_of_lt_of_le h1 (by
      have := Nat.pow_le_pow_right (n := 2) (by decide) (show k ≤ 5000 by simp at hk; omega)
      exact_mod_cast this)
    have bits := mul3 h0 hbit
    have e1 : sSet 3 (mBin addD (mBin mulD (mC (.int 3)) (mVar 1)) (mVar 2)) ⟨[some (.frz d), some (.frz (.int b)), some (.frz (.int s)), y], []⟩ = some (.nx ⟨[some (.frz d), some (.frz (.int b)), some (.frz (.int s)), some (.frz (.int (3 * b + s)))], []⟩) := by
      simp [sSet, M.toS, mBin, mC, M.bind, M.pure, mVar, DSt.slot, mOp2, mGet, Val.get, Slot.get, mulD, bits, mSlot, Slot.val, addD, sPut, mFrz, DSt.put]
    have e2 : sIf (mOr (mBl (mBin eqD (mBin modD (mVar 3) (mC (.int 2))) (mC (.int 1)))) (mAnd (mBl (mBin eqD (mVar 1) (mC (.int 0)))) (mBl (mBin eqD (mVar 2) (mC (.int 0)))))) (sRet (mLst (mNil))) (sNx) ⟨[some (.frz d), some (.frz (.int b)), some (.frz (.int s)), some (.frz (.int (3 * b + s)))], []⟩ =
        if (3 * b + s) % 2 = 1 ∨ 3 * b + s = 0 then some (.rt (.own (.lst [])) ⟨[some (.frz d), some (.frz (.int b)), some (.frz (.int s)), some (.frz (.int (3 * b + s)))], []⟩) else some (.nx ⟨[some (.frz d), some (.frz (.int b)), some (.frz (.int s)), some (.frz (.int (3 * b + s)))], []⟩) := by
      rw [sIf_at (c := decide ((3 * b + s) % 2 = 1 ∨ 3 * b + s = 0)) (st1 := ⟨[some (.frz d), some (.frz (.int b)), some (.frz (.int s)), some (.frz (.int (3 * b + s)))], []⟩)]
      · by_cases hc : (3 * b + s) % 2 = 1 ∨ 3 * b + s = 0
        · rw [if_pos (decide_eq_true hc), if_pos hc]
          rfl
        · rw [if_neg (by simpa using hc), if_neg hc]
          rfl
      · rw [or_at (c := (3 * b + s) % 2 == 1) (st1 := ⟨[some (.frz d), some (.frz (.int b)), some (.frz (.int s)), some (.frz (.int (3 * b + s)))], []⟩) (by rfl)]
        by_cases hm : (3 * b + s) % 2 = 1
        · simp [hm]
        · rw [if_neg (by simpa using hm), and_at (c := b == 0) (st1 := ⟨[some (.frz d), some (.frz (.int b)), some (.frz (.int s)), some (.frz (.int (3 * b + s)))], []⟩) (by rfl)]
          by_cases hb : b = 0
          · subst hb
            rw [if_pos (by rfl)]
            show some (R.ok (s == 0) _) = _
            congr 2
            rw [Bool.eq_iff_iff]
            simp
            omega
          · rw [if_neg (by simpa using hb)]
            congr 2
            symm
            rw [decide_eq_false_iff_not]
            omega
    have e3 : sSet 1 (mBin fdivD (mVar 3) (mC (.int 2))) ⟨[some (.frz d), some (.frz (.int b)), some (.frz (.int s)), some (.frz (.int (3 * b + s)))], []⟩ = some (.nx ⟨[some (.frz d), some (.frz (.int ((3 * b + s) / 2))), some (.frz (.int s)), some (.frz (.int (3 * b + s)))], []⟩) := rfl
    unfold rd
    by_cases hc : (3 * b + s) % 2 = 1 ∨ 3 * b + s = 0
    · rw [if_pos hc]
      rw [if_pos hc] at e2
      exact ⟨_, for_out (st1 := ⟨[some (.frz d), some (.frz (.int b)), some (.frz (.int s)), y], []⟩) rfl (by unfold r_body; rw [sSeq_nx e1]; exact sSeq_rt e2) (.inl ⟨_, _, rfl⟩), rfl⟩
    · rw [if_neg hc]
      rw [if_neg hc] at e2
      have ih := read_loop (d := d) l ((3 * b + s) / 2) (some (.frz (.int s))) (some (.frz (.int (3 * b + s)))) (k + 1) (by omega) (by
        have : (2 : Int) ^ (k + 1) = 2 * 2 ^ k := by rw [Int.pow_succ]; omega
        omega) (by simp at hk; omega) fun s h => h2 s (List.mem_cons_of_mem _ h)
      have step : forF (tgName 2) r_body ((s :: l).map .int) ⟨[some (.frz d), some (.frz (.int b)), x, y], []⟩ = forF (tgName 2) r_body (l.map .int) ⟨[some (.frz d), some (.frz (.int ((3 * b + s) / 2))), some (.frz (.int s)), some (.frz (.int (3 * b + s)))], []⟩ :=
        for_step (st1 := ⟨[some (.frz d), some (.frz (.int b)), some (.frz (.int s)), y], []⟩) rfl (by unfold r_body; rw [sSeq_nx e1, sSeq_nx e2]; exact e3)
      rw [step]
      exact ih
theorem read_ok {d : D} {l : List Int} (h : seqs d = some (l.map .int)) (hl : l.length ≤ 4000) (h2 : ∀ s ∈ l, 0 ≤ s ∧ s ≤ 2) : d__law_read [d] [] = some (.ret (.own (optInts (rd 0 l))) []) := by
  have hq : mSeq (mVar 0) ⟨[some (.frz d), some (.frz (.int 0)), none, none], []⟩ = some (.ok (l.map .int) ⟨[some (.frz d), some (.frz (.int 0)), none, none], []⟩) := by
    cases d <;> first | (cases h; done) | skip
    all_goals
      have h := Option.some.inj h
      first | (subst h; rfl) | (show some (R.ok _ _) = _; rw [h])
  have hlp := read_loop (d := d) l 0 none none 0 (by decide) (by decide) (by omega) h2
  show outF (b__law_read ⟨[some (.frz d), none, none, none], []⟩) = _
  unfold b__law_read
  rw [sSeq_nx (st1 := ⟨[some (.frz d), some (.frz (.int 0)), none, none], []⟩) (by rfl)]
  cases hr : rd 0 l with
  | some c =>
    rw [hr] at hlp
    obtain ⟨x', y', e⟩ := hlp
    rw [sSeq_nx (by rw [sFor_at hq]; exact e)]
    rfl
  | none =>
    rw [hr] at hlp
    obtain ⟨st, e, hso⟩ := hlp
    rw [sSeq_rt (by rw [sFor_at hq]; exact e)]
    show some (FR.ret _ st.so) = _
    rw [hso]
    rfl

/-! ### from_halves, told -/
abbrev f_body : MS := sSeq (sSet 3 (mBin addD (mBin mulD (mC (.int 3)) (mVar 1)) (mVar 2)))
  (sSeq (sIf (mOr (mBl (mBin eqD (mVar 3) (mC (.int 0)))) (mBl (mBin eqD (mBin modD (mVar 3) (mC (.int 2))) (mC (.int 1))))) (sRaise0 "BadSigns") (sNx))
  (sSet 1 (mBin fdivD (mVar 3) (mC (.int 2)))))
theorem from_loop {d : D} : ∀ (l : List Int) (b : Int) (x y : Option Slot) (k : Nat), 0 ≤ b → b < 2 ^ k → k + l.length ≤ 5000 → (∀ s ∈ l, 0 ≤ s ∧ s ≤ 2) →
    match rd b l with
    | some c => ∃ x' y', forF (tgName 2) f_body (l.map .int) ⟨[some (.frz d), some (.frz (.int b)), x, y], []⟩ = some (.nx ⟨[some (.frz d), some (.frz (.int c)), x', y'], []⟩)
    | none => ∃ st, forF (tgName 2) f_body (l.map .int) ⟨[some (.frz d), some (.frz (.int b)), x, y], []⟩ = some (.exc "BadSigns" [] st) ∧ st.so = []
  | [], b, x, y, k, _, _, _, _ => ⟨x, y, rfl⟩
  | s :: l, b, x, y, k, h0, h1, hk, h2 => by
    have hs := h2 s List.mem_cons_self
    have hbit : b < 2 ^ 5000 := Int.lt_of_lt_of_le h1 (by
      have := Nat.pow_le_pow_right (n := 2) (by decide) (show k ≤ 5000 by simp at hk; omega)
      exact_mod_cast this)
    have bits := mul3 h0 hbit
    have e1 : sSet 3 (mBin addD (mBin mulD (mC (.int 3)) (mVar 1)) (mVar 2)) ⟨[some (.frz d), some (.frz (.int b)), some (.frz (.int s)), y], []⟩ = some (.nx ⟨[some (.frz d), some (.frz (.int b)), some (.frz (.int s)), some (.frz (.int (3 * b + s)))], []⟩) := by
      simp [sSet, M.toS, mBin, mC, M.bind, M.pure, mVar, DSt.slot, mOp2, mGet, Val.get, Slot.get, mulD, bits, mSlot, Slot.val, addD, sPut, mFrz, DSt.put]
    have e2 : sIf (mOr (mBl (mBin eqD (mVar 3) (mC (.int 0)))) (mBl (mBin eqD (mBin modD (mVar 3) (mC (.int 2))) (mC (.int 1))))) (sRaise0 "BadSigns") (sNx) ⟨[some (.frz d), some (.frz (.int b)), some (.frz (.int s)), some (.frz (.int (3 * b + s)))], []⟩ =
        if (3 * b + s) % 2 = 1 ∨ 3 * b + s = 0 then some (.exc "BadSigns" [] ⟨[some (.frz d), some (.frz (.int b)), some (.frz (.int s)), some (.frz (.int (3 * b + s)))], []⟩) else some (.nx ⟨[some (.frz d), some (.frz (.int b)), some (.frz (.int s)), some (.frz (.int (3 * b + s)))], []⟩) := by
      rw [sIf_at (c := decide ((3 * b + s) % 2 = 1 ∨ 3 * b + s = 0)) (st1 := ⟨[some (.frz d), some (.frz (.int b)), some (.frz (.int s)), some (.frz (.int (3 * b + s)))], []⟩)]
      · by_cases hc : (3 * b + s) % 2 = 1 ∨ 3 * b + s = 0
        · rw [if_pos (decide_eq_true hc), if_pos hc]
          rfl
        · rw [if_neg (by simpa using hc), if_neg hc]
          rfl
      · rw [or_at (c := 3 * b + s == 0) (st1 := ⟨[some (.frz d), some (.frz (.int b)), some (.frz (.int s)), some (.frz (.int (3 * b + s)))], []⟩) (by rfl)]
        by_cases hm : 3 * b + s = 0
        · simp [hm]
        · rw [if_neg (by simpa using hm)]
          show some (R.ok ((3 * b + s) % 2 == 1) _) = _
          congr 2
          rw [Bool.eq_iff_iff]
          simp [hm]
    have e3 : sSet 1 (mBin fdivD (mVar 3) (mC (.int 2))) ⟨[some (.frz d), some (.frz (.int b)), some (.frz (.int s)), some (.frz (.int (3 * b + s)))], []⟩ = some (.nx ⟨[some (.frz d), some (.frz (.int ((3 * b + s) / 2))), some (.frz (.int s)), some (.frz (.int (3 * b + s)))], []⟩) := rfl
    unfold rd
    by_cases hc : (3 * b + s) % 2 = 1 ∨ 3 * b + s = 0
    · rw [if_pos hc]
      rw [if_pos hc] at e2
      exact ⟨_, for_out (st1 := ⟨[some (.frz d), some (.frz (.int b)), some (.frz (.int s)), y], []⟩) rfl (by unfold f_body; rw [sSeq_nx e1]; unfold sSeq; rw [e2]) (.inr ⟨_, _, _, rfl⟩), rfl⟩
    · rw [if_neg hc]
      rw [if_neg hc] at e2
      have ih := from_loop (d := d) l ((3 * b + s) / 2) (some (.frz (.int s))) (some (.frz (.int (3 * b + s)))) (k + 1) (by omega) (by
        have : (2 : Int) ^ (k + 1) = 2 * 2 ^ k := by rw [Int.pow_succ]; omega
        omega) (by simp at hk; omega) fun s h => h2 s (List.mem_cons_of_mem _ h)
      have step : forF (tgName 2) f_body ((s :: l).map .int) ⟨[some (.frz d), some (.frz (.int b)), x, y], []⟩ = forF (tgName 2) f_body (l.map .int) ⟨[some (.frz d), some (.frz (.int ((3 * b + s) / 2))), some (.frz (.int s)), some (.frz (.int (3 * b + s)))], []⟩ :=
        for_step (st1 := ⟨[some (.frz d), some (.frz (.int b)), some (.frz (.int s)), y], []⟩) rfl (by unfold f_body; rw [sSeq_nx e1, sSeq_nx e2]; exact e3)
      rw [step]
      exact ih
/-- the book of a thing, if it is a list of signs and of a book -/
def val (d : D) : Option Int := match seqs d with
  | some ds => if ds.all sgn = true then (intsD ds).bind fun l => rd 0 l else none
  | none => none
theorem sgn_ints : ∀ {ds : List D}, ds.all sgn = true → ∃ l : List Int, ds = l.map .int ∧ ∀ s ∈ l, 0 ≤ s ∧ s ≤ 2
  | [], _ => ⟨[], rfl, by simp⟩
  | d :: ds, h => by
    rw [List.all_cons, Bool.and_eq_true] at h
    obtain ⟨l, e, hl⟩ := sgn_ints h.2
    cases d with
    | int i =>
      have h1 := h.1
      simp only [sgn, Bool.and_eq_true, decide_eq_true_eq] at h1
      exact ⟨i :: l, by rw [e]; rfl, fun s hs => by
        rcases List.mem_cons.mp hs with rfl | hs
        · exact h1
        · exact hl s hs⟩
    | _ => exact absurd h.1 (by simp [sgn])
/-- what is handed in, of at most 4000 things that may be shown -/
structure Arg (d : D) : Prop where
  ty : ∃ t, tyN d = some t
  no : noObj d = true
  it : ∀ ds, seqs d = some ds → (∀ x ∈ ds, Good x) ∧ ds.length ≤ 4000
theorem from_ok {d : D} (a : Arg d) : d_from_halves [d] [] = match val d with
    | some c => some (.ret (.frz (.int c)) [])
    | none => some (.exc "BadSigns" [] []) := by
  have bad : d_are_signs [d] [] = some (.ret (.frz (.bl false)) []) → d_from_halves [d] [] = some (.exc "BadSigns" [] []) := fun e => by
    show outF (b_from_halves ⟨[some (.frz d), none, none, none], []⟩) = _
    have hc : mCallP d_are_signs (mCons (mVar 0) (mNil)) ⟨[some (.frz d), none, none, none], []⟩ = some (.ok (.frz (.bl false)) ⟨[some (.frz d), none, none, none], []⟩) :=
      callP_at (s := .frz (.bl false)) rfl rfl (by simp [noObjs, Slot.get, a.no]) e rfl
    unfold b_from_halves sSeq
    rw [sIf_at (not_at (tru_at hc rfl rfl))]
    rfl
  cases hq : seqs d with
  | none =>
    rw [bad (are_signs_no hq a.ty)]
    unfold val
    rw [hq]
  | some ds =>
    obtain ⟨hg, hl⟩ := a.it ds hq
    cases hs : ds.all sgn with
    | false =>
      rw [bad (by rw [are_signs_ok hq hg (by omega), hs])]
      unfold val
      simp [hq, hs]
    | true =>
      obtain ⟨l, rfl, h2⟩ := sgn_ints hs
      have hv : val d = rd 0 l := by
        unfold val
        simp only [hq, hs, if_true, intsD_map, Option.bind_some]
      have hc : mCallP d_are_signs (mCons (mVar 0) (mNil)) ⟨[some (.frz d), none, none, none], []⟩ = some (.ok (.frz (.bl true)) ⟨[some (.frz d), none, none, none], []⟩) :=
        callP_at (s := .frz (.bl true)) rfl rfl (by simp [noObjs, Slot.get, a.no]) ((are_signs_ok hq hg (by omega)).trans (by rw [hs])) rfl
      have hq2 : mSeq (mVar 0) ⟨[some (.frz d), some (.frz (.int 0)), none, none], []⟩ = some (.ok (l.map .int) ⟨[some (.frz d), some (.frz (.int 0)), none, none], []⟩) := by
        cases d <;> first | (cases hq; done) | skip
        all_goals
          have hq := Option.some.inj hq
          first | (subst hq; rfl) | (show some (R.ok _ _) = _; rw [hq])
      have hlp := from_loop (d := d) l 0 none none 0 (by decide) (by decide) (by simp at hl; omega) h2
      show outF (b_from_halves ⟨[some (.frz d), none, none, none], []⟩) = _
      unfold b_from_halves
      rw [sSeq_nx (st1 := ⟨[some (.frz d), none, none, none], []⟩) (by rw [sIf_at (not_at (tru_at hc rfl rfl))]; rfl), sSeq_nx (st1 := ⟨[some (.frz d), some (.frz (.int 0)), none, none], []⟩) (by rfl), hv]
      cases hr : rd 0 l with
      | some c =>
        rw [hr] at hlp
        obtain ⟨x', y', e⟩ := hlp
        rw [sSeq_nx (by rw [sFor_at hq2]; exact e)]
        rfl
      | none =>
        rw [hr] at hlp
        obtain ⟨st, e, hso⟩ := hlp
        have : sFor (mSeq (mVar 0)) (tgName 2) f_body ⟨[some (.frz d), some (.frz (.int 0)), none, none], []⟩ = some (.exc "BadSigns" [] st) := by rw [sFor_at hq2]; exact e
        show outF (sSeq (sFor (mSeq (mVar 0)) (tgName 2) f_body) _ _) = _
        rw [sSeq_exc this]
        show some (FR.exc "BadSigns" [] st.so) = _
        rw [hso]
theorem told_ok {d : D} (a : Arg d) : d__law_told [d] [] = some (.ret (.own (optInts (val d))) []) := by
  show outF (b__law_told ⟨[some (.frz d), none, none], []⟩) = _
  have hf := from_ok a
  unfold b__law_told
  rw [sSeq_nx (st1 := ⟨[some (.frz d), some (.frz .non), none], []⟩) (by rfl)]
  cases hv : val d with
  | some c =>
    rw [hv] at hf
    have hc : mCallP d_from_halves (mCons (mVar 0) (mNil)) ⟨[some (.frz d), some (.frz .non), none], []⟩ = some (.ok (.frz (.int c)) ⟨[some (.frz d), some (.frz .non), none], []⟩) :=
      callP_at (s := .frz (.int c)) rfl rfl (by simp [noObjs, Slot.get, a.no]) hf rfl
    have hl : mLst (mCons (mCallP d_from_halves (mCons (mVar 0) (mNil))) (mNil)) ⟨[some (.frz d), some (.frz .non), none], []⟩ = some (.ok (.own (.lst [.int c])) ⟨[some (.frz d), some (.frz .non), none], []⟩) := by
      unfold mLst M.bind
      rw [cons_at hc (vs := []) (by rfl)]
      rfl
    have ht : sTry 2 (sRet (mLst (mCons (mCallP d_from_halves (mCons (mVar 0) (mNil))) (mNil)))) [("BadSigns", sSet 1 (mVar 2))] ⟨[some (.frz d), some (.frz .non), none], []⟩ = some (.rt (.own (.lst [.int c])) ⟨[some (.frz d), some (.frz .non), none], []⟩) := by
      unfold sTry
      rw [ret_at hl]
    rw [sSeq_rt ht]
    rfl
  | none =>
    rw [hv] at hf
    have hc : mCallP d_from_halves (mCons (mVar 0) (mNil)) ⟨[some (.frz d), some (.frz .non), none], []⟩ = some (.exc "BadSigns" [] ⟨[some (.frz d), some (.frz .non), none], []⟩) :=
      callP_exc rfl rfl (by simp [noObjs, Slot.get, a.no]) hf rfl
    have ht : sTry 2 (sRet (mLst (mCons (mCallP d_from_halves (mCons (mVar 0) (mNil))) (mNil)))) [("BadSigns", sSet 1 (mVar 2))] ⟨[some (.frz d), some (.frz .non), none], []⟩ = some (.nx ⟨[some (.frz d), some (.frz (.exv "BadSigns" [])), none], []⟩) := by
      have h1 : mLst (mCons (mCallP d_from_halves (mCons (mVar 0) (mNil))) (mNil)) ⟨[some (.frz d), some (.frz .non), none], []⟩ = some (.exc "BadSigns" [] ⟨[some (.frz d), some (.frz .non), none], []⟩) := by
        have h2 : mCons (mCallP d_from_halves (mCons (mVar 0) (mNil))) (mNil) ⟨[some (.frz d), some (.frz .non), none], []⟩ = some (.exc "BadSigns" [] ⟨[some (.frz d), some (.frz .non), none], []⟩) := by
          show M.bind (mCallP d_from_halves (mCons (mVar 0) (mNil))) _ _ = _
          unfold M.bind
          rw [hc]
        show M.bind (mCons (mCallP d_from_halves (mCons (mVar 0) (mNil))) (mNil)) _ _ = _
        unfold M.bind
        rw [h2]
      unfold sTry sRet M.toS
      rw [h1]
      rfl
    rw [sSeq_nx ht]
    rfl

/-! ### the law -/
theorem far_ok {k : Nat} {so : Sto} (h : PenP (k + 60) so) : ∃ v so', 0 ≤ v ∧ v < 10 ^ 59 ∧ PenP k so' ∧ d__law_far [.obj 0] so = some (.ret (.frz (.int v)) so') := by
  obtain ⟨r, so1, r0, r1, p1, e1⟩ := draw_at (k := k + 59) (st := ⟨[some (.frz (.obj 0))], so⟩) (i := 0) (many := 5) (mb := mC (.int 5)) rfl ⟨_, rfl, rfl⟩ h (by decide) (by decide)
  obtain ⟨n, hn, hat⟩ : ∃ n : Nat, n ≤ 59 ∧ atI [D.int 1, .int 2, .int 4, .int 20, .int 59] r = some (.int n) := by
    have : r = 0 ∨ r = 1 ∨ r = 2 ∨ r = 3 ∨ r = 4 := by omega
    rcases this with rfl | rfl | rfl | rfl | rfl
    · exact ⟨1, by decide, rfl⟩
    · exact ⟨2, by decide, rfl⟩
    · exact ⟨4, by decide, rfl⟩
    · exact ⟨20, by decide, rfl⟩
    · exact ⟨59, by decide, rfl⟩
  obtain ⟨v, so2, v0, v1, p2, e2⟩ := great_ok (k := k) (n := n) (so := so1) (by omega) (p1.mono (by omega))
  refine ⟨v, so2, v0, ?_, p2, ?_⟩
  · have : (10 : Int) ^ n ≤ 10 ^ 59 := by exact_mod_cast Nat.pow_le_pow_right (n := 10) (by decide) hn
    omega
  · have hx := ixl_at (ma := mLst (mCons (mC (.int 1)) (mCons (mC (.int 2)) (mCons (mC (.int 4)) (mCons (mC (.int 20)) (mCons (mC (.int 59)) (mNil))))))) (st := ⟨[some (.frz (.obj 0))], so⟩) (st1 := ⟨[some (.frz (.obj 0))], so⟩) (va := .own (.lst [D.int 1, .int 2, .int 4, .int 20, .int 59])) (vb := .frz (.int r)) rfl e1 rfl rfl hat
    have hc : mCall d__law_great (mCons (mVar 0) (mCons (mIx (mLst (mCons (mC (.int 1)) (mCons (mC (.int 2)) (mCons (mC (.int 4)) (mCons (mC (.int 20)) (mCons (mC (.int 59)) (mNil))))))) (mCall d__law_draw (mCons (mVar 0) (mCons (mC (.int 5)) (mNil))))) (mNil))) ⟨[some (.frz (.obj 0))], so⟩ = some (.ok (.frz (.int v)) ⟨[some (.frz (.obj 0))], so2⟩) :=
      call_at (s := .frz (.int v)) (st1 := ⟨[some (.frz (.obj 0))], so1⟩) (st2 := ⟨[some (.frz (.obj 0))], so1⟩) (vs := [.vr 0, .frz (.int n)]) (ds := [.obj 0, .int n]) (cons_at rfl (cons_at hx rfl)) rfl e2
    show outF (sRet _ ⟨[some (.frz (.obj 0))], so⟩) = _
    rw [ret_at hc]
    rfl
/-- the text that repr tells -/
def tx (o : Option Int) : Str := (PyData.list (o.toList.map PyData.int)).shown
theorem repr_at {m : M Val} {st st1 : DSt} {v : Val} {o : Option Int} (h : m st = some (.ok v st1)) (h1 : v.get st1 = some (optInts o)) (hb : ∀ i, o = some i → i.natAbs < 2 ^ 1900) : mCB reprD (mCons m mNil) st = some (.ok (.frz (.str (tx o))) st1) := by
  obtain ⟨s, e, es⟩ := repr_opt hb
  subst es
  refine cb_at (s := .frz (.str (tx o))) (vs := [v]) (ds := [optInts o]) (cons_at h rfl) ?_ e
  show M.bind (mGet v) (fun d => M.bind (mGets []) fun ds => M.pure (d :: ds)) st1 = _
  unfold M.bind mGet
  rw [h1]
  rfl
theorem same_repr {ma mb : M Val} {st st1 st2 : DSt} {va vb : Val} {o : Option Int} (ha : ma st = some (.ok va st1)) (h1 : va.get st1 = some (optInts o)) (hb : mb st1 = some (.ok vb st2)) (h2 : vb.get st2 = some (optInts o)) (hn : ∀ i, o = some i → i.natAbs < 2 ^ 1900) :
    mBl (mBin neD (mCB reprD (mCons ma mNil)) (mCB reprD (mCons mb mNil))) st = some (.ok false st2) :=
  bl_at (v := .frz (.bl false)) (bin_at (s := .frz (.bl false)) (repr_at ha h1 hn) (repr_at hb h2 hn) rfl rfl (by rw [neD_str]; simp)) rfl
theorem val_small {d : D} {c : Int} (h : val d = some c) (hl : ∀ ds, seqs d = some ds → ds.length ≤ 1000) : c.natAbs < 2 ^ 1900 := by
  unfold val at h
  cases hq : seqs d with
  | none => rw [hq] at h; cases h
  | some ds =>
    rw [hq] at h
    dsimp only at h
    by_cases hs : ds.all sgn = true
    · rw [if_pos hs] at h
      obtain ⟨l, rfl, h2⟩ := sgn_ints hs
      rw [intsD_map] at h
      have := rd_lt l 0 c 0 (by decide) (by decide) h2 h
      have hl' := hl _ hq
      rw [List.length_map] at hl'
      have h9 : (2 : Int) ^ (0 + l.length) ≤ 2 ^ 1000 := by exact_mod_cast Nat.pow_le_pow_right (n := 2) (by decide) (show 0 + l.length ≤ 1000 by omega)
      have h8 : (2 : Int) ^ 1000 ≤ 2 ^ 1900 := by exact_mod_cast Nat.pow_le_pow_right (n := 2) (by decide) (show 1000 ≤ 1900 by decide)
      have : ((c.natAbs : Nat) : Int) < ((2 ^ 1900 : Nat) : Int) := by
        rw [Int.natAbs_of_nonneg this.1]
        have e : ((2 ^ 1900 : Nat) : Int) = 2 ^ 1900 := by push_cast; rfl
        rw [e]
        omega
      exact_mod_cast this
    · rw [if_neg hs] at h
      cases h

abbrev ib : MS := (sSeq (sPar 7 8 (mCons (mCall d__law_draw (mCons (mVar 1) (mCons (mBin addD (mCB lenD (mCons (mVar 5) (mNil))) (mC (.int 1))) (mNil)))) (mCons (mCB toLstD (mCons (mVar 5) (mNil))) (mNil))))
  (sSeq (sSet 9 (mCall d__law_pick (mCons (mVar 1) (mCons (mLst (mCons (mC (.int 0)) (mCons (mC (.int 1)) (mCons (mC (.int 2)) (mCons (mC (.int 0)) (mCons (mC (.int 1)) (mCons (mC (.int 2)) (mCons (mC (.int 3)) (mCons (mUn negD (mC (.int 1))) (mCons (mC (.bl true)) (mCons (mC (.bl false)) (mCons (mC .non) (mCons (mC (.str "1")) (mCons (mTup (mCons (mC (.int 1)) (mNil))) (mNil))))))))))))))) (mNil)))))
  (sSeq (sSet 10 (mCall d__law_draw (mCons (mVar 1) (mCons (mC (.int 3)) (mNil)))))
  (sSeq (sSet 11 (mBin addD (mBin addD (mSl (mVar 8) (mNoPart) (mPart (mVar 7))) (mBin mulD (mLst (mCons (mVar 9) (mNil))) (mCB toIntD (mCons (mBin ltD (mVar 10) (mC (.int 2))) (mNil))))) (mSl (mVar 8) (mPart (mBin addD (mVar 7) (mCB toIntD (mCons (mBin gtD (mVar 10) (mC (.int 0))) (mNil))))) (mNoPart))))
  (sSeq (sSet 12 (mIf (mTru (mCallP d__law_is_signs (mCons (mVar 11) (mNil)))) (mCallP d__law_read (mCons (mVar 11) (mNil))) (mLst (mNil))))
  (sIf (mBl (mBin neD (mCB reprD (mCons (mCallP d__law_told (mCons (mVar 11) (mNil))) (mNil))) (mCB reprD (mCons (mVar 12) (mNil))))) (sRet (mC (.bl false))) (sNx)))))))
abbrev ob : MS := (sSeq (sSet 3 (mCall d__law_far (mCons (mVar 1) (mNil))))
  (sSeq (sSet 4 (mCallP d_halves (mCons (mVar 3) (mNil))))
  (sSeq (sIf (mOr (mNot (mTru (mCB isiD (mCons (mVar 4) (mCons (mC (.ty "list")) (mNil)))))) (mOr (mNot (mTru (mCallP d__law_is_signs (mCons (mVar 4) (mNil))))) (mBl (mBin neD (mCB reprD (mCons (mCallP d__law_read (mCons (mVar 4) (mNil))) (mNil))) (mCB reprD (mCons (mLst (mCons (mVar 3) (mNil))) (mNil))))))) (sRet (mC (.bl false))) (sNx))
  (sSeq (sSet 5 (mCB toLstD (mCons (mVar 4) (mNil))))
  (sSeq (sIf (mBl (mBin neD (mCB reprD (mCons (mCallP d__law_told (mCons (mCB toTupD (mCons (mVar 4) (mNil))) (mNil))) (mNil))) (mCB reprD (mCons (mLst (mCons (mVar 3) (mNil))) (mNil))))) (sRet (mC (.bl false))) (sNx))
  (sSeq (sApp 4 (mC (.int 7)))
  (sSeq (sIf (mOr (mBl (mBin neD (mCallP d_halves (mCons (mVar 3) (mNil))) (mVar 5))) (mBl (mBin neD (mCB reprD (mCons (mCallP d__law_told (mCons (mVar 5) (mNil))) (mNil))) (mCB reprD (mCons (mLst (mCons (mVar 3) (mNil))) (mNil)))))) (sRet (mC (.bl false))) (sNx))
  (sSeq (sFor (mRng rng1 (mCons (mC (.int 4)) (mNil))) (tgName 6) ib)
  (sSeq (sSet 13 (mComp (mRng rng1 (mCons (mCall d__law_draw (mCons (mVar 1) (mCons (mC (.int 31)) (mNil)))) (mNil))) (tgName 15) (mYes) (mCall d__law_draw (mCons (mVar 1) (mCons (mC (.int 3)) (mNil)))) [15]))
  (sSeq (sIf (mBl (mBin neD (mCB reprD (mCons (mCallP d__law_told (mCons (mVar 13) (mNil))) (mNil))) (mCB reprD (mCons (mCallP d__law_read (mCons (mVar 13) (mNil))) (mNil))))) (sRet (mC (.bl false))) (sNx))
  (sSeq (sSet 14 (mCall d__law_pick (mCons (mVar 1) (mCons (mLst (mCons (mC .non) (mCons (mC (.int 0)) (mCons (mC (.int 2)) (mCons (mC (.bl true)) (mCons (mC (.str "")) (mCons (mC (.str "2")) (mCons (mNewK) (mCons (mDisp [(.inl 2)] [mC (.int 1)]) (mCons (mLst (mCons (mLst (mCons (mC (.int 2)) (mNil))) (mNil))) (mCons (mTup (mCons (mC (.int 2)) (mCons (mLst (mCons (mC (.int 1)) (mNil))) (mNil)))) (mCons (mC (.str "21")) (mNil))))))))))))) (mNil)))))
  (sIf (mBl (mBin neD (mCB reprD (mCons (mCallP d__law_told (mCons (mVar 14) (mNil))) (mNil))) (mC (.str "[]")))) (sRet (mC (.bl false))) (sNx)))))))))))))
theorem good_items {S : List Int} {one : D} (ho : Good one) {x : D} {a c : List D} (ha : ∀ y ∈ a, y ∈ S.map D.int) (hc : ∀ y ∈ c, y ∈ S.map D.int) {n : Nat} (hx : x ∈ a ++ (List.replicate n [one]).flatten ++ c) : Good x := by
  rw [List.mem_append, List.mem_append] at hx
  have int : ∀ {y : D}, y ∈ S.map D.int → Good y := fun hy => by
    obtain ⟨i, _, rfl⟩ := List.mem_map.mp hy
    exact good_int i
  rcases hx with (hx | hx) | hx
  · exact int (ha x hx)
  · obtain ⟨l, hl, hx⟩ := List.mem_flatten.mp hx
    obtain ⟨_, rfl⟩ := List.mem_replicate.mp hl
    cases List.mem_singleton.mp hx
    exact ho
  · exact int (hc x hx)
theorem inner_ok {scr : D} {S : List Int} (hl : S.length ≤ 400) {k : Nat} {so : Sto} (h : PenP (k + 3) so) (x2 x3 x4 x6 x7 x8 x9 x10 x11 x12 x13 x14 x15 : Option FB.Slot) :
    ∃ y7 y8 y9 y10 y11 y12 so', PenP k so' ∧ ib ⟨[some (.frz scr), some (.frz (.obj 0)), x2, x3, x4, some (.own (lints S)), x6, x7, x8, x9, x10, x11, x12, x13, x14, x15], so⟩ =
      some (.nx ⟨[some (.frz scr), some (.frz (.obj 0)), x2, x3, x4, some (.own (lints S)), x6, y7, y8, y9, y10, y11, y12, x13, x14, x15], so'⟩) := by
  -- at
  obtain ⟨a, so1, a0, a1, p1, e1⟩ := draw_at (k := k + 2) (st := ⟨[some (.frz scr), some (.frz (.obj 0)), x2, x3, x4, some (.own (lints S)), x6, x7, x8, x9, x10, x11, x12, x13, x14, x15], so⟩) (i := 1) (many := S.length + 1) (mb := mBin addD (mCB lenD (mCons (mVar 5) (mNil))) (mC (.int 1))) rfl ⟨.frz (.int (S.length + 1)), by
      refine bin_at (s := .frz (.int (S.length + 1))) (va := .frz (.int S.length)) (cb_at (s := .frz (.int S.length)) (vs := [.vr 5]) (ds := [lints S]) rfl rfl ?_) rfl rfl rfl rfl
      show some _ = _
      rw [List.length_map], rfl⟩ h (by omega) (by
      have : ((S.length : Int) + 1).natAbs < 2 ^ 20 := by omega
      have h9 : ((S.length : Int) + 1).natAbs.log2 < 20 := (Nat.log2_lt (by omega)).mpr this
      omega)
  have e1' : (mCons (mCall d__law_draw (mCons (mVar 1) (mCons (mBin addD (mCB lenD (mCons (mVar 5) (mNil))) (mC (.int 1))) (mNil)))) (mCons (mCB toLstD (mCons (mVar 5) (mNil))) (mNil))) ⟨[some (.frz scr), some (.frz (.obj 0)), x2, x3, x4, some (.own (lints S)), x6, x7, x8, x9, x10, x11, x12, x13, x14, x15], so⟩ =
      some (.ok [.frz (.int a), .own (lints S)] ⟨[some (.frz scr), some (.frz (.obj 0)), x2, x3, x4, some (.own (lints S)), x6, x7, x8, x9, x10, x11, x12, x13, x14, x15], so1⟩) :=
    cons_at e1 (cons_at (cb_at (s := .own (lints S)) (vs := [.vr 5]) (ds := [lints S]) rfl rfl rfl) rfl)
  -- one
  obtain ⟨one, so2, m2, p2, e2⟩ := pick_ok (ds := [D.int 0, .int 1, .int 2, .int 0, .int 1, .int 2, .int 3, .int (-1), .bl true, .bl false, .non, .str "1", .tup [.int 1]]) (by simp) (by simp) p1
  have ho : Good one := by
    simp only [List.mem_cons, List.not_mem_nil, or_false] at m2
    rcases m2 with rfl | rfl | rfl | rfl | rfl | rfl | rfl | rfl | rfl | rfl | rfl | rfl | rfl
    iterate 8 exact good_int _
    iterate 2 exact good_bl _
    · exact good_non
    · exact ⟨⟨_, rfl⟩, ⟨_, rfl, by decide +kernel, Nat.zero_le 20⟩, rfl⟩
    · exact ⟨⟨_, rfl⟩, ⟨_, rfl, rfl, by decide +kernel⟩, rfl⟩
  -- kind
  obtain ⟨kd, so3, k0, k1, p3, e3⟩ := draw_at (k := k) (st := ⟨[some (.frz scr), some (.frz (.obj 0)), x2, x3, x4, some (.own (lints S)), x6, some (.frz (.int a)), some (.own (lints S)), some (.frz one), x10, x11, x12, x13, x14, x15], so2⟩) (i := 1) (many := 3) (mb := mC (.int 3)) rfl ⟨_, rfl, rfl⟩ p2 (by decide) (by decide)
  -- bent
  let B : List D := cutD (S.map .int) none (some a) ++ (List.replicate (if kd < 2 then 1 else 0) [one]).flatten ++ cutD (S.map .int) (some (a + if 0 < kd then 1 else 0)) none
  have hB : ∀ x ∈ B, Good x := fun x hx => good_items ho (fun y hy => cut_mem hy) (fun y hy => cut_mem hy) hx
  have lB : B.length ≤ 900 := by
    have h1 := cut_len (S.map .int) none (some a)
    have h2 := cut_len (S.map .int) (some (a + if 0 < kd then 1 else 0)) none
    rw [List.length_map] at h1 h2
    have h3 : ((List.replicate (if kd < 2 then 1 else 0) [one]).flatten).length ≤ 1 := by split <;> simp
    simp only [B, List.length_append]
    omega
  let T : Option FB.Slot → Option FB.Slot → DSt := fun b d => ⟨[some (.frz scr), some (.frz (.obj 0)), x2, x3, x4, some (.own (lints S)), x6, some (.frz (.int a)), some (.own (lints S)), some (.frz one), some (.frz (.int kd)), b, d, x13, x14, x15], so3⟩
  have toI : ∀ {m : M Val} {c : Bool} {st : DSt} {v : Val}, m st = some (.ok v st) → v.get st = some (.bl c) → mCB toIntD (mCons m mNil) st = some (.ok (.frz (.int (if c then 1 else 0))) st) := fun {m c st v} h h1 =>
    cb_at (s := .frz (.int (if c then 1 else 0))) (vs := [v]) (ds := [.bl c]) (cons_at h rfl) (by
      show M.bind (mGet v) (fun d => M.bind (mGets []) fun ds => M.pure (d :: ds)) st = _
      unfold M.bind mGet
      rw [h1]
      rfl) rfl
  have hlt : (if decide (kd < 2) = true then (1 : Int) else 0) = ((if kd < 2 then 1 else 0 : Nat) : Int) := by
    by_cases h : kd < 2 <;> simp [h]
  have e4 : sSet 11 (mBin addD (mBin addD (mSl (mVar 8) (mNoPart) (mPart (mVar 7))) (mBin mulD (mLst (mCons (mVar 9) (mNil))) (mCB toIntD (mCons (mBin ltD (mVar 10) (mC (.int 2))) (mNil))))) (mSl (mVar 8) (mPart (mBin addD (mVar 7) (mCB toIntD (mCons (mBin gtD (mVar 10) (mC (.int 0))) (mNil))))) (mNoPart))) (T x11 x12) = some (.nx (T (some (.own (.lst B))) x12)) := by
    refine sSet_own (st1 := T x11 x12) ?_
    have c1 := cut_len (S.map .int) none (some a)
    have c2 := cut_len (S.map .int) (some (a + if 0 < kd then 1 else 0)) none
    rw [List.length_map] at c1 c2
    have c3 : ((List.replicate (if kd < 2 then 1 else 0) [one]).flatten).length ≤ 1 := by split <;> simp
    refine bin_at (s := .own (.lst B)) (st1 := T x11 x12) (va := .own (.lst (cutD (S.map .int) none (some a) ++ (List.replicate (if kd < 2 then 1 else 0) [one]).flatten))) (vb := .own (.lst (cutD (S.map .int) (some (a + if 0 < kd then 1 else 0)) none))) ?_ ?_ rfl rfl ?_
    · refine bin_at (s := .own (.lst (cutD (S.map .int) none (some a) ++ (List.replicate (if kd < 2 then 1 else 0) [one]).flatten))) (st1 := T x11 x12) (va := .own (.lst (cutD (S.map .int) none (some a)))) (vb := .own (.lst (List.replicate (if kd < 2 then 1 else 0) [one]).flatten)) ?_ ?_ rfl rfl ?_
      · exact sl_at (st1 := T x11 x12) (st2 := T x11 x12) (v := .vr 8) rfl rfl (part_at (v := .vr 7) rfl rfl) rfl
      · refine bin_at (s := .own (.lst (List.replicate (if kd < 2 then 1 else 0) [one]).flatten)) (st1 := T x11 x12) (va := .own (.lst [one])) (vb := .frz (.int (if decide (kd < 2) then 1 else 0))) rfl (toI (v := .frz (.bl (decide (kd < 2)))) rfl rfl) rfl rfl ?_
        rw [hlt]
        by_cases h : kd < 2
        · simp only [h, if_true]
          rfl
        · simp only [h, if_false]
          rfl
      · show (if _ then _ else _) = _
        rw [if_pos (by omega)]
    · exact sl_at (st1 := T x11 x12) (st2 := T x11 x12) (v := .vr 8) rfl (part_at (v := .frz (.int (a + if 0 < kd then 1 else 0))) (bin_at (s := .frz (.int (a + if 0 < kd then 1 else 0))) (va := .vr 7) (vb := .frz (.int (if decide (0 < kd) then 1 else 0))) rfl (toI (v := .frz (.bl (decide (0 < kd)))) rfl rfl) rfl rfl (by
        by_cases h : 0 < kd
        · simp only [h, if_true, decide_true]
          rfl
        · simp only [h, if_false, decide_false]
          rfl)) rfl) rfl rfl
    · show (if _ then _ else _) = _
      rw [if_pos (by rw [List.length_append]; omega)]
  have arg : Arg (.lst B) := ⟨⟨_, rfl⟩, goods_no hB, fun ds h => by
    cases h
    exact ⟨hB, by omega⟩⟩
  have sm : ∀ i, val (.lst B) = some i → i.natAbs < 2 ^ 1900 := fun i h => val_small h fun ds h => by
    cases h
    omega
  have e5 : sSet 12 (mIf (mTru (mCallP d__law_is_signs (mCons (mVar 11) (mNil)))) (mCallP d__law_read (mCons (mVar 11) (mNil))) (mLst (mNil))) (T (some (.own (.lst B))) x12) = some (.nx (T (some (.own (.lst B))) (some (.own (optInts (val (.lst B))))))) := by
    refine sSet_own (st1 := T (some (.own (.lst B))) x12) ?_
    have hc : mCallP d__law_is_signs (mCons (mVar 11) (mNil)) (T (some (.own (.lst B))) x12) = some (.ok (.frz (.bl (B.all sgn))) (T (some (.own (.lst B))) x12)) :=
      callP_at (s := .frz (.bl (B.all sgn))) (vs := [.vr 11]) (ds := [.lst B]) rfl rfl (by simp [noObjs, noObj, goods_no hB]) (is_signs_ok rfl hB (by omega)) rfl
    rw [if_at (tru_at hc rfl rfl)]
    have hv : val (.lst B) = if B.all sgn = true then (intsD B).bind fun l => rd 0 l else none := rfl
    cases hs : B.all sgn with
    | false =>
      rw [hv, hs]
      rfl
    | true =>
      obtain ⟨l, el, h2⟩ := sgn_ints hs
      rw [hv, hs, if_pos rfl, if_pos rfl, el, intsD_map, Option.bind_some]
      have hr : mCallP d__law_read (mCons (mVar 11) (mNil)) (T (some (.own (.lst B))) x12) = some (.ok (.own (optInts (rd 0 l))) (T (some (.own (.lst B))) x12)) :=
        callP_at (s := .own (optInts (rd 0 l))) (vs := [.vr 11]) (ds := [.lst B]) rfl rfl (by simp [noObjs, noObj, goods_no hB]) (read_ok (by rw [← el]; rfl) (by rw [el, List.length_map] at lB; omega) h2) (noLsts_ints _)
      rw [← el]
      exact hr
  have e6 : sIf (mBl (mBin neD (mCB reprD (mCons (mCallP d__law_told (mCons (mVar 11) (mNil))) (mNil))) (mCB reprD (mCons (mVar 12) (mNil))))) (sRet (mC (.bl false))) (sNx) (T (some (.own (.lst B))) (some (.own (optInts (val (.lst B)))))) = some (.nx (T (some (.own (.lst B))) (some (.own (optInts (val (.lst B))))))) := by
    have ht : mCallP d__law_told (mCons (mVar 11) (mNil)) (T (some (.own (.lst B))) (some (.own (optInts (val (.lst B)))))) = some (.ok (.own (optInts (val (.lst B)))) (T (some (.own (.lst B))) (some (.own (optInts (val (.lst B))))))) :=
      callP_at (s := .own (optInts (val (.lst B)))) (vs := [.vr 11]) (ds := [.lst B]) rfl rfl (by simp [noObjs, noObj, goods_no hB]) (told_ok arg) (noLsts_ints _)
    rw [sIf_at (same_repr ht rfl (mb := mVar 12) (vb := .vr 12) rfl rfl sm)]
    rfl
  refine ⟨some (.frz (.int a)), some (.own (lints S)), some (.frz one), some (.frz (.int kd)), some (.own (.lst B)), some (.own (optInts (val (.lst B)))), so3, p3, ?_⟩
  have e2' : sSet 9 (mCall d__law_pick (mCons (mVar 1) (mCons (mLst (mCons (mC (.int 0)) (mCons (mC (.int 1)) (mCons (mC (.int 2)) (mCons (mC (.int 0)) (mCons (mC (.int 1)) (mCons (mC (.int 2)) (mCons (mC (.int 3)) (mCons (mUn negD (mC (.int 1))) (mCons (mC (.bl true)) (mCons (mC (.bl false)) (mCons (mC .non) (mCons (mC (.str "1")) (mCons (mTup (mCons (mC (.int 1)) (mNil))) (mNil))))))))))))))) (mNil)))) ⟨[some (.frz scr), some (.frz (.obj 0)), x2, x3, x4, some (.own (lints S)), x6, some (.frz (.int a)), some (.own (lints S)), x9, x10, x11, x12, x13, x14, x15], so1⟩ =
      some (.nx ⟨[some (.frz scr), some (.frz (.obj 0)), x2, x3, x4, some (.own (lints S)), x6, some (.frz (.int a)), some (.own (lints S)), some (.frz one), x10, x11, x12, x13, x14, x15], so2⟩) :=
    sSet_at (st1 := ⟨[some (.frz scr), some (.frz (.obj 0)), x2, x3, x4, some (.own (lints S)), x6, some (.frz (.int a)), some (.own (lints S)), x9, x10, x11, x12, x13, x14, x15], so2⟩) (call_at (s := .frz one) (st1 := ⟨[some (.frz scr), some (.frz (.obj 0)), x2, x3, x4, some (.own (lints S)), x6, some (.frz (.int a)), some (.own (lints S)), x9, x10, x11, x12, x13, x14, x15], so1⟩) (st2 := ⟨[some (.frz scr), some (.frz (.obj 0)), x2, x3, x4, some (.own (lints S)), x6, some (.frz (.int a)), some (.own (lints S)), x9, x10, x11, x12, x13, x14, x15], so1⟩) (vs := [.vr 1, .own (.lst [D.int 0, .int 1, .int 2, .int 0, .int 1, .int 2, .int 3, .int (-1), .bl true, .bl false, .non, .str "1", .tup [.int 1]])]) rfl rfl e2)
  refine (sSeq_nx (st1 := ⟨[some (.frz scr), some (.frz (.obj 0)), x2, x3, x4, some (.own (lints S)), x6, some (.frz (.int a)), some (.own (lints S)), x9, x10, x11, x12, x13, x14, x15], so1⟩) (sPar_at e1')).trans ?_
  refine (sSeq_nx e2').trans ?_
  refine (sSeq_nx (st1 := T x11 x12) (sSet_at e3)).trans ?_
  refine (sSeq_nx e4).trans ?_
  exact (sSeq_nx e5).trans e6

theorem few_loop {scr : D} (x2 x3 x4 x5 x6 x7 x8 x9 x10 x11 x12 x13 x14 : Option FB.Slot) : ∀ (ds : List D) (acc : List Int) (k : Nat) (so : Sto), acc.length + ds.length ≤ 1000 → PenP (k + ds.length) so → (∀ s ∈ acc, 0 ≤ s ∧ s ≤ 2) →
    ∃ (l : List Int) (so' : Sto), l.length = acc.length + ds.length ∧ (∀ s ∈ l, 0 ≤ s ∧ s ≤ 2) ∧ PenP k so' ∧ compF (tgName 15) mYes (mCall d__law_draw (mCons (mVar 1) (mCons (mC (.int 3)) (mNil)))) [15] (acc.map D.int) ds ⟨[some (.frz scr), some (.frz (.obj 0)), x2, x3, x4, x5, x6, x7, x8, x9, x10, x11, x12, x13, x14, none], so⟩ = some (.ok (l.map D.int) ⟨[some (.frz scr), some (.frz (.obj 0)), x2, x3, x4, x5, x6, x7, x8, x9, x10, x11, x12, x13, x14, none], so'⟩)
  | [], acc, k, so, _, hp, ha => ⟨acc, so, by simp, ha, hp, rfl⟩
  | d :: ds, acc, k, so, hl, hp, ha => by
    obtain ⟨r, so1, r0, r1, p1, e1⟩ := draw_at (k := k + ds.length) (st := ⟨[some (.frz scr), some (.frz (.obj 0)), x2, x3, x4, x5, x6, x7, x8, x9, x10, x11, x12, x13, x14, some (.frz d)], so⟩) (i := 1) (many := 3) (mb := mC (.int 3)) rfl ⟨_, rfl, rfl⟩ hp (by decide) (by decide)
    obtain ⟨l, so', l1, l2, l3, l4⟩ := few_loop x2 x3 x4 x5 x6 x7 x8 x9 x10 x11 x12 x13 x14 ds (acc ++ [r]) k so1 (by simp at hl ⊢; omega) p1 (fun s hs => by
      rcases List.mem_append.mp hs with hs | hs
      · exact ha s hs
      · cases List.mem_singleton.mp hs
        omega)
    refine ⟨l, so', by rw [l1]; simp; omega, l2, l3, ?_⟩
    show (match mCall d_draw (mCons (mVar 1) (mCons (mC (.int 3)) (mNil))) ⟨[some (.frz scr), some (.frz (.obj 0)), x2, x3, x4, x5, x6, x7, x8, x9, x10, x11, x12, x13, x14, some (.frz d)], so⟩ with
        | some (.ok v st3) => match mFrz v st3 with
          | some (.ok x st4) => if (acc.map D.int).length < 16777216 then compF (tgName 15) mYes (mCall d__law_draw (mCons (mVar 1) (mCons (mC (.int 3)) (mNil)))) [15] (acc.map D.int ++ [x]) ds (st4.wipe [15]) else none
          | _ => none
        | _ => none) = _
    rw [e1]
    show (if (acc.map D.int).length < 16777216 then compF (tgName 15) mYes (mCall d__law_draw (mCons (mVar 1) (mCons (mC (.int 3)) (mNil)))) [15] (acc.map D.int ++ [.int r]) ds ⟨[some (.frz scr), some (.frz (.obj 0)), x2, x3, x4, x5, x6, x7, x8, x9, x10, x11, x12, x13, x14, none], so1⟩ else none) = _
    rw [if_pos (by rw [List.length_map]; simp at hl; omega), ← l4, List.map_append]
    rfl

theorem inner_loop {scr : D} {S : List Int} (hl : S.length ≤ 400) (x2 x3 x4 x13 x14 x15 : Option FB.Slot) : ∀ (ds : List D) (k : Nat) (so : Sto), PenP (k + 3 * ds.length) so → ∀ x6 x7 x8 x9 x10 x11 x12 : Option FB.Slot,
    ∃ y6 y7 y8 y9 y10 y11 y12 so', PenP k so' ∧ forF (tgName 6) ib ds ⟨[some (.frz scr), some (.frz (.obj 0)), x2, x3, x4, some (.own (lints S)), x6, x7, x8, x9, x10, x11, x12, x13, x14, x15], so⟩ =
      some (.nx ⟨[some (.frz scr), some (.frz (.obj 0)), x2, x3, x4, some (.own (lints S)), y6, y7, y8, y9, y10, y11, y12, x13, x14, x15], so'⟩)
  | [], k, so, hp, x6, x7, x8, x9, x10, x11, x12 => ⟨x6, x7, x8, x9, x10, x11, x12, so, hp, rfl⟩
  | d :: ds, k, so, hp, x6, x7, x8, x9, x10, x11, x12 => by
    obtain ⟨y7, y8, y9, y10, y11, y12, so1, p1, e1⟩ := inner_ok (scr := scr) hl (k := k + 3 * ds.length) (so := so) (hp.mono (by simp; omega)) x2 x3 x4 (some (.frz d)) x7 x8 x9 x10 x11 x12 x13 x14 x15
    obtain ⟨z6, z7, z8, z9, z10, z11, z12, so2, p2, e2⟩ := inner_loop (scr := scr) hl x2 x3 x4 x13 x14 x15 ds k so1 p1 (some (.frz d)) y7 y8 y9 y10 y11 y12
    refine ⟨z6, z7, z8, z9, z10, z11, z12, so2, p2, ?_⟩
    exact (for_step (st1 := ⟨[some (.frz scr), some (.frz (.obj 0)), x2, x3, x4, some (.own (lints S)), some (.frz d), x7, x8, x9, x10, x11, x12, x13, x14, x15], so⟩) rfl e1).trans e2
theorem lt59 {v : Nat} (h : (v : Int) < 10 ^ 59) : v < 2 ^ 197 := by
  have : (10 : Nat) ^ 59 < 2 ^ 197 := by decide +kernel
  have h2 : v < 10 ^ 59 := by exact_mod_cast h
  omega
theorem good_lints (S : List Int) : ∀ x ∈ S.map D.int, Good x := fun x hx => by
  obtain ⟨i, _, rfl⟩ := List.mem_map.mp hx
  exact good_int i
theorem arg_lints {S : List Int} (hl : S.length ≤ 4000) : Arg (lints S) := ⟨⟨_, rfl⟩, noObjs_ints S, fun ds h => by
  cases h
  exact ⟨good_lints S, by rw [List.length_map]; exact hl⟩⟩
theorem arg_tints {S : List Int} (hl : S.length ≤ 4000) : Arg (.tup (S.map .int)) := ⟨⟨_, rfl⟩, noObjs_ints S, fun ds h => by
  cases h
  exact ⟨good_lints S, by rw [List.length_map]; exact hl⟩⟩
theorem all_sgn {S : List Int} (h : ∀ s ∈ S, 0 ≤ s ∧ s ≤ 2) : (S.map D.int).all sgn = true := by
  rw [List.all_eq_true]
  intro x hx
  obtain ⟨i, hi, rfl⟩ := List.mem_map.mp hx
  have := h i hi
  simp [sgn, this.1, this.2]
theorem val_lints {S : List Int} (h : ∀ s ∈ S, 0 ≤ s ∧ s ≤ 2) : val (lints S) = rd 0 S := by
  show (if (S.map D.int).all sgn = true then (intsD (S.map D.int)).bind fun l => rd 0 l else none) = _
  rw [if_pos (all_sgn h), intsD_map, Option.bind_some]
theorem val_tints {S : List Int} (h : ∀ s ∈ S, 0 ≤ s ∧ s ≤ 2) : val (.tup (S.map .int)) = rd 0 S := by
  show (if (S.map D.int).all sgn = true then (intsD (S.map D.int)).bind fun l => rd 0 l else none) = _
  rw [if_pos (all_sgn h), intsD_map, Option.bind_some]
theorem turn_ok {scr : D} {k : Nat} {so : Sto} (h : PenP (k + 110) so) (x2 x3 x4 x5 x6 x7 x8 x9 x10 x11 x12 x13 x14 x15 : Option FB.Slot) :
    ∃ y3 y4 y5 y6 y7 y8 y9 y10 y11 y12 y13 y14 y15 so', PenP k so' ∧ ob ⟨[some (.frz scr), some (.frz (.obj 0)), x2, x3, x4, x5, x6, x7, x8, x9, x10, x11, x12, x13, x14, x15], so⟩ =
      some (.nx ⟨[some (.frz scr), some (.frz (.obj 0)), x2, y3, y4, y5, y6, y7, y8, y9, y10, y11, y12, y13, y14, y15], so'⟩) := by
  -- the book
  obtain ⟨v, so1, v0, v1, p1, f1⟩ := far_ok (k := k + 50) (so := so) (h.mono (by omega))
  obtain ⟨n, rfl⟩ := Int.eq_ofNat_of_zero_le v0
  have hn := lt59 v1
  have hn2 : n < 2 ^ 1000 := Nat.lt_of_lt_of_le hn (Nat.pow_le_pow_right (by decide) (by decide))
  have hn3 : ∀ i : Int, some (n : Int) = some i → i.natAbs < 2 ^ 1900 := fun i e => by
    cases e
    rw [Int.natAbs_natCast]
    exact Nat.lt_of_lt_of_le hn (Nat.pow_le_pow_right (by decide) (by decide))
  let S := (hs n).reverse
  have lS : S.length ≤ 400 := by
    have := hs_len 197 n hn
    simp only [S, List.length_reverse]
    omega
  have sS : ∀ s ∈ S, 0 ≤ s ∧ s ≤ 2 := fun s hs' => hs_sgn n s (List.mem_reverse.mp hs')
  have rS : rd 0 S = some (n : Int) := rd_hs n
  let Z : Option FB.Slot → Option FB.Slot → DSt := fun a b => ⟨[some (.frz scr), some (.frz (.obj 0)), x2, some (.frz (.int n)), a, b, x6, x7, x8, x9, x10, x11, x12, x13, x14, x15], so1⟩
  have e1 : sSet 3 (mCall d__law_far (mCons (mVar 1) (mNil))) ⟨[some (.frz scr), some (.frz (.obj 0)), x2, x3, x4, x5, x6, x7, x8, x9, x10, x11, x12, x13, x14, x15], so⟩ = some (.nx (Z x4 x5)) :=
    sSet_at (st1 := ⟨[some (.frz scr), some (.frz (.obj 0)), x2, x3, x4, x5, x6, x7, x8, x9, x10, x11, x12, x13, x14, x15], so1⟩) (call_at (s := .frz (.int n)) (st1 := ⟨[some (.frz scr), some (.frz (.obj 0)), x2, x3, x4, x5, x6, x7, x8, x9, x10, x11, x12, x13, x14, x15], so⟩) (st2 := ⟨[some (.frz scr), some (.frz (.obj 0)), x2, x3, x4, x5, x6, x7, x8, x9, x10, x11, x12, x13, x14, x15], so⟩) (vs := [.vr 1]) rfl rfl f1)
  have ch : ∀ a b, mCallP d_halves (mCons (mVar 3) (mNil)) (Z a b) = some (.ok (.own (lints S)) (Z a b)) := fun a b =>
    callP_at (s := .own (lints S)) (vs := [.vr 3]) (ds := [.int n]) rfl rfl rfl (halves_ok hn2) (noLsts_ints _)
  have e2 : sSet 4 (mCallP d_halves (mCons (mVar 3) (mNil))) (Z x4 x5) = some (.nx (Z (some (.own (lints S))) x5)) := sSet_own (ch _ _)
  have bk : ∀ a b, mLst (mCons (mVar 3) (mNil)) (Z a b) = some (.ok (.own (optInts (some (n : Int)))) (Z a b)) := fun a b => rfl
  have isS : d__law_is_signs [lints S] [] = some (.ret (.frz (.bl true)) []) := (is_signs_ok (ds := S.map .int) rfl (good_lints S) (by rw [List.length_map]; omega)).trans (by rw [all_sgn sS])
  have e3 : sIf (mOr (mNot (mTru (mCB isiD (mCons (mVar 4) (mCons (mC (.ty "list")) (mNil)))))) (mOr (mNot (mTru (mCallP d__law_is_signs (mCons (mVar 4) (mNil))))) (mBl (mBin neD (mCB reprD (mCons (mCallP d__law_read (mCons (mVar 4) (mNil))) (mNil))) (mCB reprD (mCons (mLst (mCons (mVar 3) (mNil))) (mNil))))))) (sRet (mC (.bl false))) (sNx) (Z (some (.own (lints S))) x5) = some (.nx (Z (some (.own (lints S))) x5)) := by
    have hi : mCallP d__law_is_signs (mCons (mVar 4) (mNil)) (Z (some (.own (lints S))) x5) = some (.ok (.frz (.bl true)) (Z (some (.own (lints S))) x5)) :=
      callP_at (s := .frz (.bl true)) (vs := [.vr 4]) (ds := [lints S]) rfl rfl (by simp [noObjs, noObj, noObjs_ints]) isS rfl
    have hr : mCallP d__law_read (mCons (mVar 4) (mNil)) (Z (some (.own (lints S))) x5) = some (.ok (.own (optInts (some (n : Int)))) (Z (some (.own (lints S))) x5)) :=
      callP_at (s := .own (optInts (some (n : Int)))) (vs := [.vr 4]) (ds := [lints S]) rfl rfl (by simp [noObjs, noObj, noObjs_ints]) (by rw [← rS]; exact read_ok rfl (by omega) sS) rfl
    have hb : mOr (mNot (mTru (mCB isiD (mCons (mVar 4) (mCons (mC (.ty "list")) (mNil)))))) (mOr (mNot (mTru (mCallP d__law_is_signs (mCons (mVar 4) (mNil))))) (mBl (mBin neD (mCB reprD (mCons (mCallP d__law_read (mCons (mVar 4) (mNil))) (mNil))) (mCB reprD (mCons (mLst (mCons (mVar 3) (mNil))) (mNil)))))) (Z (some (.own (lints S))) x5) = some (.ok false (Z (some (.own (lints S))) x5)) := by
      rw [or_at (c := false) (st1 := Z (some (.own (lints S))) x5) (by rfl), if_neg (by decide), or_at (not_at (tru_at hi rfl rfl))]
      exact same_repr hr rfl (bk _ _) rfl hn3
    rw [sIf_at hb]
    rfl
  have e4 : sSet 5 (mCB toLstD (mCons (mVar 4) (mNil))) (Z (some (.own (lints S))) x5) = some (.nx (Z (some (.own (lints S))) (some (.own (lints S))))) :=
    sSet_own (st1 := Z (some (.own (lints S))) x5) (cb_at (s := .own (lints S)) (vs := [.vr 4]) (ds := [lints S]) rfl rfl rfl)
  have e5 : sIf (mBl (mBin neD (mCB reprD (mCons (mCallP d__law_told (mCons (mCB toTupD (mCons (mVar 4) (mNil))) (mNil))) (mNil))) (mCB reprD (mCons (mLst (mCons (mVar 3) (mNil))) (mNil))))) (sRet (mC (.bl false))) (sNx) (Z (some (.own (lints S))) (some (.own (lints S)))) = some (.nx (Z (some (.own (lints S))) (some (.own (lints S))))) := by
    have ht : mCallP d__law_told (mCons (mCB toTupD (mCons (mVar 4) (mNil))) (mNil)) (Z (some (.own (lints S))) (some (.own (lints S)))) = some (.ok (.own (optInts (some (n : Int)))) (Z (some (.own (lints S))) (some (.own (lints S))))) :=
      callP_at (s := .own (optInts (some (n : Int)))) (vs := [.frz (.tup (S.map .int))]) (ds := [.tup (S.map .int)]) rfl rfl (by simp [noObjs, noObj, noObjs_ints]) (by rw [← rS, ← val_tints sS]; exact told_ok (arg_tints (by omega))) rfl
    rw [sIf_at (same_repr ht rfl (bk _ _) rfl hn3)]
    rfl
  have e6 : sApp 4 (mC (.int 7)) (Z (some (.own (lints S))) (some (.own (lints S)))) = some (.nx (Z (some (.own (.lst (S.map .int ++ [.int 7])))) (some (.own (lints S))))) := by
    show (if (S.map D.int).length < 16777216 then some (SR.nx (Z (some (.own (.lst (S.map .int ++ [.int 7])))) (some (.own (lints S))))) else none) = _
    rw [if_pos (by rw [List.length_map]; omega)]
  have e7 : sIf (mOr (mBl (mBin neD (mCallP d_halves (mCons (mVar 3) (mNil))) (mVar 5))) (mBl (mBin neD (mCB reprD (mCons (mCallP d__law_told (mCons (mVar 5) (mNil))) (mNil))) (mCB reprD (mCons (mLst (mCons (mVar 3) (mNil))) (mNil)))))) (sRet (mC (.bl false))) (sNx) (Z (some (.own (.lst (S.map .int ++ [.int 7])))) (some (.own (lints S)))) = some (.nx (Z (some (.own (.lst (S.map .int ++ [.int 7])))) (some (.own (lints S))))) := by
    have hne : neD (lints S) (lints S) = some (.frz (.bl false)) := by
      unfold neD
      rw [eqB_ints]
      simp
    have ht : mCallP d__law_told (mCons (mVar 5) (mNil)) (Z (some (.own (.lst (S.map .int ++ [.int 7])))) (some (.own (lints S)))) = some (.ok (.own (optInts (some (n : Int)))) (Z (some (.own (.lst (S.map .int ++ [.int 7])))) (some (.own (lints S))))) :=
      callP_at (s := .own (optInts (some (n : Int)))) (vs := [.vr 5]) (ds := [lints S]) rfl rfl (by simp [noObjs, noObj, noObjs_ints]) (by rw [← rS, ← val_lints sS]; exact told_ok (arg_lints (by omega))) rfl
    have hb : mOr (mBl (mBin neD (mCallP d_halves (mCons (mVar 3) (mNil))) (mVar 5))) (mBl (mBin neD (mCB reprD (mCons (mCallP d__law_told (mCons (mVar 5) (mNil))) (mNil))) (mCB reprD (mCons (mLst (mCons (mVar 3) (mNil))) (mNil))))) (Z (some (.own (.lst (S.map .int ++ [.int 7])))) (some (.own (lints S)))) = some (.ok false (Z (some (.own (.lst (S.map .int ++ [.int 7])))) (some (.own (lints S))))) := by
      rw [or_at (bl_at (v := .frz (.bl false)) (bin_at (s := .frz (.bl false)) (va := .own (lints S)) (vb := .vr 5) (d1 := lints S) (d2 := lints S) (ch _ _) rfl rfl rfl hne) rfl), if_neg (by decide)]
      exact same_repr ht rfl (bk _ _) rfl hn3
    rw [sIf_at hb]
    rfl
  -- four bent ones
  obtain ⟨y6, y7, y8, y9, y10, y11, y12, so2, p2, f2⟩ := inner_loop (scr := scr) lS x2 (some (.frz (.int n))) (some (.own (.lst (S.map .int ++ [.int 7])))) x13 x14 x15 (rngD 0 4) (k + 33) so1 (p1.mono (by rw [rngD_len]; omega)) x6 x7 x8 x9 x10 x11 x12
  let V : Option FB.Slot → Option FB.Slot → Sto → DSt := fun a b so => ⟨[some (.frz scr), some (.frz (.obj 0)), x2, some (.frz (.int n)), some (.own (.lst (S.map .int ++ [.int 7]))), some (.own (lints S)), y6, y7, y8, y9, y10, y11, y12, a, b, x15], so⟩
  have e8 : sFor (mRng rng1 (mCons (mC (.int 4)) (mNil))) (tgName 6) ib (Z (some (.own (.lst (S.map .int ++ [.int 7])))) (some (.own (lints S)))) = some (.nx (V x13 x14 so2)) := by
    rw [sFor_at (st1 := Z (some (.own (.lst (S.map .int ++ [.int 7])))) (some (.own (lints S)))) (ds := rngD 0 4) (by rfl)]
    exact f2
  -- few
  obtain ⟨m, so3, m0, m1, p3, f3⟩ := draw_at (k := k + 32) (st := V x13 x14 so2) (i := 1) (many := 31) (mb := mC (.int 31)) rfl ⟨_, rfl, rfl⟩ p2 (by decide) (by decide)
  have hm : mRng rng1 (mCons (mCall d__law_draw (mCons (mVar 1) (mCons (mC (.int 31)) (mNil)))) (mNil)) (V x13 x14 so2) = some (.ok (rngD 0 m.toNat) (V x13 x14 so3)) :=
    rng_at (st1 := V x13 x14 so3) (vs := [.frz (.int m)]) (ds := [.int m]) (cons_at f3 rfl) rfl (by rw [rng1_int, if_pos (by omega)])
  obtain ⟨L, so4, l1, l2, p4, f4⟩ := few_loop (scr := scr) x2 (some (.frz (.int n))) (some (.own (.lst (S.map .int ++ [.int 7])))) (some (.own (lints S))) y6 y7 y8 y9 y10 y11 y12 x13 x14 (rngD 0 m.toNat) [] (k + 1) so3 (by rw [rngD_len]; simp; omega) (p3.mono (by rw [rngD_len]; omega)) (by simp)
  rw [rngD_len] at l1
  have lL : L.length ≤ 30 := by simp at l1; omega
  let V2 : Option FB.Slot → Option FB.Slot → Sto → DSt := fun a b so => ⟨[some (.frz scr), some (.frz (.obj 0)), x2, some (.frz (.int n)), some (.own (.lst (S.map .int ++ [.int 7]))), some (.own (lints S)), y6, y7, y8, y9, y10, y11, y12, a, b, (V x13 x14 so2).slot 15], so⟩
  have e9 : sSet 13 (mComp (mRng rng1 (mCons (mCall d__law_draw (mCons (mVar 1) (mCons (mC (.int 31)) (mNil)))) (mNil))) (tgName 15) (mYes) (mCall d__law_draw (mCons (mVar 1) (mCons (mC (.int 3)) (mNil)))) [15]) (V x13 x14 so2) = some (.nx (V2 (some (.own (lints L))) x14 so4)) :=
    sSet_own (st1 := V2 x13 x14 so4) (mComp_at hm f4)
  have smL : ∀ i, rd 0 L = some i → i.natAbs < 2 ^ 1900 := fun i h => val_small (d := lints L) (by rw [val_lints l2]; exact h) fun ds h => by
    cases h
    rw [List.length_map]
    omega
  have e10 : sIf (mBl (mBin neD (mCB reprD (mCons (mCallP d__law_told (mCons (mVar 13) (mNil))) (mNil))) (mCB reprD (mCons (mCallP d__law_read (mCons (mVar 13) (mNil))) (mNil))))) (sRet (mC (.bl false))) (sNx) (V2 (some (.own (lints L))) x14 so4) = some (.nx (V2 (some (.own (lints L))) x14 so4)) := by
    have ht : mCallP d__law_told (mCons (mVar 13) (mNil)) (V2 (some (.own (lints L))) x14 so4) = some (.ok (.own (optInts (rd 0 L))) (V2 (some (.own (lints L))) x14 so4)) :=
      callP_at (s := .own (optInts (rd 0 L))) (vs := [.vr 13]) (ds := [lints L]) rfl rfl (by simp [noObjs, noObj, noObjs_ints]) (by rw [← val_lints l2]; exact told_ok (arg_lints (by omega))) (noLsts_ints _)
    have hr : mCallP d__law_read (mCons (mVar 13) (mNil)) (V2 (some (.own (lints L))) x14 so4) = some (.ok (.own (optInts (rd 0 L))) (V2 (some (.own (lints L))) x14 so4)) :=
      callP_at (s := .own (optInts (rd 0 L))) (vs := [.vr 13]) (ds := [lints L]) rfl rfl (by simp [noObjs, noObj, noObjs_ints]) (read_ok rfl (by omega) l2) (noLsts_ints _)
    rw [sIf_at (same_repr ht rfl hr rfl smL)]
    rfl
  -- a thing of any kind
  obtain ⟨th, so5, mt, p5, f5⟩ := pick_ok (ds := [D.non, .int 0, .int 2, .bl true, .str "", .str "2", .dK [], .dK [(.inl 2, .int 1)], .lst [.lst [.int 2]], .tup [.int 2, .lst [.int 1]], .str "21"]) (by simp) (by simp) p4
  have e11 : sSet 14 (mCall d__law_pick (mCons (mVar 1) (mCons (mLst (mCons (mC .non) (mCons (mC (.int 0)) (mCons (mC (.int 2)) (mCons (mC (.bl true)) (mCons (mC (.str "")) (mCons (mC (.str "2")) (mCons (mNewK) (mCons (mDisp [(.inl 2)] [mC (.int 1)]) (mCons (mLst (mCons (mLst (mCons (mC (.int 2)) (mNil))) (mNil))) (mCons (mTup (mCons (mC (.int 2)) (mCons (mLst (mCons (mC (.int 1)) (mNil))) (mNil)))) (mCons (mC (.str "21")) (mNil))))))))))))) (mNil)))) (V2 (some (.own (lints L))) x14 so4) = some (.nx (V2 (some (.own (lints L))) (some (.frz th)) so5)) :=
    sSet_at (st1 := V2 (some (.own (lints L))) x14 so5) (call_at (s := .frz th) (st1 := V2 (some (.own (lints L))) x14 so4) (st2 := V2 (some (.own (lints L))) x14 so4) (vs := [.vr 1, .own (.lst [D.non, .int 0, .int 2, .bl true, .str "", .str "2", .dK [], .dK [(.inl 2, .int 1)], .lst [.lst [.int 2]], .tup [.int 2, .lst [.int 1]], .str "21"])]) rfl rfl f5)
  have gl2 : ∀ x ∈ [D.lst [.int 2]], Good x := fun x hx => by
    cases List.mem_singleton.mp hx
    exact ⟨⟨_, rfl⟩, ⟨_, rfl, rfl, by decide +kernel⟩, rfl⟩
  have gt2 : ∀ x ∈ [D.int 2, .lst [.int 1]], Good x := fun x hx => by
    simp only [List.mem_cons, List.not_mem_nil, or_false] at hx
    rcases hx with rfl | rfl
    · exact good_int _
    · exact ⟨⟨_, rfl⟩, ⟨_, rfl, rfl, by decide +kernel⟩, rfl⟩
  have none_of : val th = none ∧ Arg th := by
    simp only [List.mem_cons, List.not_mem_nil, or_false] at mt
    rcases mt with rfl | rfl | rfl | rfl | rfl | rfl | rfl | rfl | rfl | rfl | rfl
    iterate 8 exact ⟨rfl, ⟨_, rfl⟩, rfl, fun ds h => by cases h⟩
    · exact ⟨rfl, ⟨_, rfl⟩, rfl, fun ds h => by cases h; exact ⟨gl2, by decide⟩⟩
    · exact ⟨rfl, ⟨_, rfl⟩, rfl, fun ds h => by cases h; exact ⟨gt2, by decide⟩⟩
    · exact ⟨rfl, ⟨_, rfl⟩, rfl, fun ds h => by cases h⟩
  have e12 : sIf (mBl (mBin neD (mCB reprD (mCons (mCallP d__law_told (mCons (mVar 14) (mNil))) (mNil))) (mC (.str "[]")))) (sRet (mC (.bl false))) (sNx) (V2 (some (.own (lints L))) (some (.frz th)) so5) = some (.nx (V2 (some (.own (lints L))) (some (.frz th)) so5)) := by
    have ht : mCallP d__law_told (mCons (mVar 14) (mNil)) (V2 (some (.own (lints L))) (some (.frz th)) so5) = some (.ok (.own (optInts none)) (V2 (some (.own (lints L))) (some (.frz th)) so5)) :=
      callP_at (s := .own (optInts none)) (vs := [.vr 14]) (ds := [th]) rfl rfl (by simp [noObjs, none_of.2.no]) (by rw [← none_of.1]; exact told_ok none_of.2) rfl
    have htx : tx none = Str.ofString "[]" := by decide +kernel
    have hb := bl_at (bin_at (f := neD) (mb := mC (.str "[]")) (s := .frz (.bl false)) (repr_at ht rfl (fun _ h => by cases h)) rfl rfl rfl (by rw [neD_str, htx]; simp)) rfl
    rw [sIf_at hb]
    rfl
  refine ⟨some (.frz (.int n)), some (.own (.lst (S.map .int ++ [.int 7]))), some (.own (lints S)), y6, y7, y8, y9, y10, y11, y12, some (.own (lints L)), some (.frz th), (V x13 x14 so2).slot 15, so5, p5, ?_⟩
  refine (sSeq_nx e1).trans ?_
  refine (sSeq_nx e2).trans ?_
  refine (sSeq_nx e3).trans ?_
  refine (sSeq_nx e4).trans ?_
  refine (sSeq_nx e5).trans ?_
  refine (sSeq_nx e6).trans ?_
  refine (sSeq_nx e7).trans ?_
  refine (sSeq_nx e8).trans ?_
  refine (sSeq_nx e9).trans ?_
  refine (sSeq_nx e10).trans ?_
  refine (sSeq_nx e11).trans ?_
  exact e12
theorem outer_loop {scr : D} : ∀ (ds : List D) (k : Nat) (so : Sto), PenP (k + 110 * ds.length) so → ∀ x2 x3 x4 x5 x6 x7 x8 x9 x10 x11 x12 x13 x14 x15 : Option FB.Slot,
    ∃ st so', st.so = so' ∧ PenP k so' ∧ forF (tgName 2) ob ds ⟨[some (.frz scr), some (.frz (.obj 0)), x2, x3, x4, x5, x6, x7, x8, x9, x10, x11, x12, x13, x14, x15], so⟩ = some (.nx st)
  | [], k, so, hp, x2, x3, x4, x5, x6, x7, x8, x9, x10, x11, x12, x13, x14, x15 => ⟨_, so, rfl, hp, rfl⟩
  | d :: ds, k, so, hp, x2, x3, x4, x5, x6, x7, x8, x9, x10, x11, x12, x13, x14, x15 => by
    obtain ⟨y3, y4, y5, y6, y7, y8, y9, y10, y11, y12, y13, y14, y15, so1, p1, e1⟩ := turn_ok (scr := scr) (k := k + 110 * ds.length) (so := so) (hp.mono (by simp; omega)) (some (.frz d)) x3 x4 x5 x6 x7 x8 x9 x10 x11 x12 x13 x14 x15
    obtain ⟨st, so2, h1, h2, h3⟩ := outer_loop (scr := scr) ds k so1 p1 (some (.frz d)) y3 y4 y5 y6 y7 y8 y9 y10 y11 y12 y13 y14 y15
    exact ⟨st, so2, h1, h2, (for_step (st1 := ⟨[some (.frz scr), some (.frz (.obj 0)), some (.frz d), x3, x4, x5, x6, x7, x8, x9, x10, x11, x12, x13, x14, x15], so⟩) rfl e1).trans h3⟩
theorem cut_ints (ns : List Int) (lo hi : Option Int) : ∃ C : List Int, cutD (ns.map .int) lo hi = C.map .int ∧ C.length ≤ ns.length ∧ ∀ c ∈ C, c ∈ ns := by
  refine ⟨(ns.drop (HT.sIx ns.length 0 lo)).take (HT.sIx ns.length ns.length hi - HT.sIx ns.length 0 lo), ?_, ?_, fun c hc => List.mem_of_mem_drop (List.mem_of_mem_take hc)⟩
  · unfold cutD
    rw [List.length_map, List.map_take, List.map_drop]
  · rw [List.length_take, List.length_drop]
    omega
theorem callP_own {den : Den} {ma : M (List Val)} {st st1 st2 st3 : DSt} {vs : List Val} {ds fs : List D} {s : Slot} {so : Sto} (h1 : ma st = some (.ok vs st1)) (h2 : mGets vs st1 = some (.ok ds st2)) (hno : noObjs ds = true) (h3 : den ds [] = some (.ret s so)) (hs : safeS s = false) (ho : okS s = true) (hf : mFrzs vs st2 = some (.ok fs st3)) :
    mCallP den ma st = some (.ok s.val st3) := by
  unfold mCallP M.bind
  rw [h1]
  dsimp only
  rw [h2]
  dsimp only
  unfold callPT
  rw [if_pos hno, h3]
  dsimp only
  rw [if_neg (by rw [hs]; decide), if_pos ho, hf]
theorem law_holds (ns : List Int) (h1 : ns.length ≤ 63) (h2 : ∀ z ∈ ns, PySem.Builtin.Int.intBits z ≤ 1048576) : ∃ so, d_law [.scr ns] [] = some (.ret (.frz (.bl true)) so) := by
  obtain ⟨C, c1, c2, c3⟩ := cut_ints ns none (some 63)
  let A : Sto → DSt := fun so => ⟨[some (.frz (.scr ns)), some (.frz (.obj 0)), none, none, none, none, none, none, none, none, none, none, none, none, none, none], so⟩
  have e1 : sSetO 1 (mCallP d__law_pen (mCons (mVar 0) (mNil))) ⟨[some (.frz (.scr ns)), none, none, none, none, none, none, none, none, none, none, none, none, none, none, none], []⟩ = some (.nx (A [penS C 0 0])) := by
    have hp : d__law_pen [.scr ns] [] = some (.ret (.own (.dK (penK C 0 0))) []) := by
      have : d__law_pen [.scr ns] [] = some (.ret (.own (.dK [(.inr "cells", .lst (cutD (ns.map .int) none (some 63))), (.inr "turn", .int 0), (.inr "left", .int 0)])) []) := rfl
      rw [this, c1]
    have hc := callP_own (st := ⟨[some (.frz (.scr ns)), none, none, none, none, none, none, none, none, none, none, none, none, none, none, none], []⟩) (st1 := ⟨[some (.frz (.scr ns)), none, none, none, none, none, none, none, none, none, none, none, none, none, none, none], []⟩) (st2 := ⟨[some (.frz (.scr ns)), none, none, none, none, none, none, none, none, none, none, none, none, none, none, none], []⟩) (st3 := ⟨[some (.frz (.scr ns)), none, none, none, none, none, none, none, none, none, none, none, none, none, none, none], []⟩) (ma := mCons (mVar 0) (mNil)) (vs := [.vr 0]) (ds := [.scr ns]) (fs := [.scr ns]) rfl rfl rfl hp rfl (by simp [okS, noObj, noObjK, noObjs_ints]) rfl
    unfold sSetO M.toS
    rw [hc]
    rfl
  let m : Int := 3 + (if (ns.length : Int) < 6 then (ns.length : Int) else 6)
  have m0 : 0 ≤ m := by simp only [m]; split <;> omega
  have m9 : m ≤ 9 := by simp only [m]; split <;> omega
  have hr : mRng rng1 (mCons (mBin addD (mC (.int 3)) (mCB minD (mCons (mC (.int 6)) (mCons (mCB lenD (mCons (mVar 0) (mNil))) (mNil))))) (mNil)) (A [penS C 0 0]) = some (.ok (rngD 0 m.toNat) (A [penS C 0 0])) :=
    rng_at (vs := [.frz (.int m)]) (ds := [.int m]) rfl rfl (by rw [rng1_int, if_pos (by omega)])
  have hp : PenP (0 + 110 * (rngD 0 m.toNat).length) [penS C 0 0] := ⟨C, 0, 0, rfl, by omega, fun c hc => h2 c (c3 c hc), by omega, by rw [rngD_len]; omega, by omega⟩
  obtain ⟨st, so, hs, _, hl⟩ := outer_loop (scr := .scr ns) (rngD 0 m.toNat) 0 [penS C 0 0] hp none none none none none none none none none none none none none none
  refine ⟨so, ?_⟩
  show outF (b_law ⟨[some (.frz (.scr ns)), none, none, none, none, none, none, none, none, none, none, none, none, none, none, none], []⟩) = _
  have e2 : sFor (mRng rng1 (mCons (mBin addD (mC (.int 3)) (mCB minD (mCons (mC (.int 6)) (mCons (mCB lenD (mCons (mVar 0) (mNil))) (mNil))))) (mNil))) (tgName 2) ob (A [penS C 0 0]) = some (.nx st) := by
    rw [sFor_at hr]
    exact hl
  have good : ∀ l : List Int, ∀ x ∈ l.map D.int, Good x := good_lints
  have f0 : mCallP d_from_halves (mCons (mLst (mNil)) (mNil)) st = some (.ok (.frz (.int 0)) st) :=
    callP_at (s := .frz (.int 0)) (st1 := st) (st2 := st) (vs := [.own (.lst [])]) (ds := [.lst []]) rfl rfl rfl (from_ok (d := .lst []) ⟨⟨_, rfl⟩, rfl, fun ds h => by cases h; exact ⟨by simp, by decide⟩⟩) rfl
  have f1 : mCallP d_halves (mCons (mC (.int 0)) (mNil)) st = some (.ok (.own (lints [])) st) :=
    callP_at (s := .own (lints [])) (st1 := st) (st2 := st) (vs := [.frz (.int 0)]) (ds := [.int 0]) rfl rfl rfl (by have := halves_ok (b := 0) (Nat.two_pow_pos _); rw [hs_zero] at this; exact this) rfl
  have f2 : mCallP d_from_halves (mCons (mTup (mCons (mC (.int 2)) (mCons (mC (.int 1)) (mNil)))) (mNil)) st = some (.ok (.frz (.int 2)) st) :=
    callP_at (s := .frz (.int 2)) (st1 := st) (st2 := st) (vs := [.frz (.tup [.int 2, .int 1])]) (ds := [.tup [.int 2, .int 1]]) rfl rfl rfl (from_ok (d := .tup [.int 2, .int 1]) ⟨⟨_, rfl⟩, rfl, fun ds h => by cases h; exact ⟨good [2, 1], by decide⟩⟩) rfl
  have e3 : sRet (mAndV (mBin eqD (mCallP d_from_halves (mCons (mLst (mNil)) (mNil))) (mC (.int 0))) (mAndV (mBin eqD (mCallP d_halves (mCons (mC (.int 0)) (mNil))) (mLst (mNil))) (mBin eqD (mCallP d_from_halves (mCons (mTup (mCons (mC (.int 2)) (mCons (mC (.int 1)) (mNil)))) (mNil))) (mC (.int 2))))) st = some (.rt (.frz (.bl true)) st) := by
    refine ret_at ?_
    rw [andV_at (c := true) (bin_at (s := .frz (.bl true)) f0 rfl rfl rfl rfl) rfl, if_pos rfl, andV_at (c := true) (bin_at (s := .frz (.bl true)) (vb := .own (.lst [])) f1 rfl rfl rfl rfl) rfl, if_pos rfl]
    exact bin_at (s := .frz (.bl true)) f2 rfl rfl rfl rfl
  have : b_law ⟨[some (.frz (.scr ns)), none, none, none, none, none, none, none, none, none, none, none, none, none, none, none], []⟩ = some (.rt (.frz (.bl true)) st) := (sSeq_nx e1).trans ((sSeq_nx e2).trans e3)
  rw [this, ← hs]
  rfl
end K82

open PySem PySem.W PyProof.Rows in
set_option maxRecDepth 100000 in
set_option maxHeartbeats 0 in
theorem PySem.Challenge.cw_firstbooks_k82_halves_and_lists_of_signs_holds : PySem.Challenge.rw_firstbooks_k82_halves_and_lists_of_signs.Holds := by
  w_on; o_law; k_head; (case hw => w_witness2)
  k_fill
  refine FB.lawEnd (l := PySem.Challenge.rw_firstbooks_k82_halves_and_lists_of_signs) (n := 63) (k := 5) (x := "script") (den := K82.d_law) rfl (by decide) rfl ⟨rfl, by decide, by decide⟩ (fun w h Y => PySem.W.kIn_of Y) ?F K82.law_holds
  case F =>
    intro w mg fa h KX G hmg
    refine' K82.finish (K82.txt_mk KX G ?fb_g0 ?fb_l0 ?fb_c0 ?fb_k0 ?fb_g1 ?fb_l1 ?fb_c1 ?fb_k1 ?fb_g2 ?fb_l2 ?fb_c2 ?fb_k2 ?fb_g3 ?fb_l3 ?fb_c3 ?fb_k3 ?fb_g4 ?fb_l4 ?fb_c4 ?fb_k4 ?fb_g5 ?fb_l5 ?fb_c5 ?fb_k5 ?fb_g6 ?fb_l6 ?fb_c6 ?fb_k6 ?fb_g7 ?fb_l7 ?fb_c7 ?fb_k7 ?fb_g8 ?fb_l8 ?fb_c8 ?fb_k8 ?fb_g9 ?fb_l9 ?fb_c9 ?fb_k9 ?fb_g10 ?fb_l10 ?fb_c10 ?fb_k10 ?fb_g11 ?fb_l11 ?fb_c11 ?fb_k11 ?fb_g12 ?fb_l12 ?fb_c12 ?fb_k12 ?fb_g13 ?fb_l13 ?fb_c13 ?fb_k13 ?fb_xg0 ?fb_xl0 ?fb_xi0 ?fb_xt0 ?fb_xf0 ?fb_xc0 ?fb_xj0 ?fb_xk0 ?fb_xe0 ?fb_xy0 ?fb_xga0 ?fb_xgb0 ?fb_xh0 ?fb_xca0 ?fb_xcb0 ?fb_xcc0 ?fb_xcd0 ?fb_xs0_0 ?fb_xqValueError0 ?fb_vValueError ?fb_zValueError ?fb_zabs ?fb_zall ?fb_zbool ?fb_zdivmod ?fb_zint ?fb_zisinstance ?fb_zlen ?fb_zlist ?fb_zmin ?fb_zrange ?fb_zrepr ?fb_ztuple ) hmg
    (case fb_g0 => k_is)
    (case fb_l0 => k_is)
    (case fb_c0 => k_is)
    (case fb_k0 => k_is)
    (case fb_g1 => k_is)
    (case fb_l1 => k_is)
    (case fb_c1 => k_is)
    (case fb_k1 => k_is)
    (case fb_g2 => k_is)
    (case fb_l2 => k_is)
    (case fb_c2 => k_is)
    (case fb_k2 => k_is)
    (case fb_g3 => k_is)
    (case fb_l3 => k_is)
    (case fb_c3 => k_is)
    (case fb_k3 => k_is)
    (case fb_g4 => k_is)
    (case fb_l4 => k_is)
    (case fb_c4 => k_is)
    (case fb_k4 => k_is)
    (case fb_g5 => k_is)
    (case fb_l5 => k_is)
    (case fb_c5 => k_is)
    (case fb_k5 => k_is)
    (case fb_g6 => k_is)
    (case fb_l6 => k_is)
    (case fb_c6 => k_is)
    (case fb_k6 => k_is)
    (case fb_g7 => k_is)
    (case fb_l7 => k_is)
    (case fb_c7 => k_is)
    (case fb_k7 => k_is)
    (case fb_g8 => k_is)
    (case fb_l8 => k_is)
    (case fb_c8 => k_is)
    (case fb_k8 => k_is)
    (case fb_g9 => k_is)
    (case fb_l9 => k_is)
    (case fb_c9 => k_is)
    (case fb_k9 => k_is)
    (case fb_g10 => k_is)
    (case fb_l10 => k_is)
    (case fb_c10 => k_is)
    (case fb_k10 => k_is)
    (case fb_g11 => k_is)
    (case fb_l11 => k_is)
    (case fb_c11 => k_is)
    (case fb_k11 => k_is)
    (case fb_g12 => k_is)
    (case fb_l12 => k_is)
    (case fb_c12 => k_is)
    (case fb_k12 => k_is)
    (case fb_g13 => k_is)
    (case fb_l13 => k_is)
    (case fb_c13 => k_is)
    (case fb_k13 => k_is)
    (case fb_xg0 => k_is)
    (case fb_xl0 => k_is)
    (case fb_xi0 => k_is)
    (case fb_xt0 => k_is)
    (case fb_xf0 => k_is)
    (case fb_xc0 => k_is)
    (case fb_xj0 => k_is)
    (case fb_xk0 => k_is)
    (case fb_xe0 => k_is)
    (case fb_xy0 => k_is)
    (case fb_xga0 => k_is)
    (case fb_xgb0 => k_is)
    (case fb_xh0 => k_is)
    (case fb_xca0 => k_is)
    (case fb_xcb0 => k_is)
    (case fb_xcc0 => k_is)
    (case fb_xcd0 => k_is)
    (case fb_xs0_0 => k_is)
    (case fb_xqValueError0 => k_is)
    (case fb_vValueError => k_is)
    (case fb_zValueError => k_is)
    (case fb_zabs => k_is)
    (case fb_zall => k_is)
    (case fb_zbool => k_is)
    (case fb_zdivmod => k_is)
    (case fb_zint => k_is)
    (case fb_zisinstance => k_is)
    (case fb_zlen => k_is)
    (case fb_zlist => k_is)
    (case fb_zmin => k_is)
    (case fb_zrange => k_is)
    (case fb_zrepr => k_is)
    (case fb_ztuple => k_is)
