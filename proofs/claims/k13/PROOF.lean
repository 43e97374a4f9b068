import PyProof.Rows.All
import Wide.All
import OpenK.AllK
import Wide.FinOn
import HandS.ForMost
import HandS.Walk
import HandS.Zip
import HandS.TupAny
import HandS.DictComp
import HandS.TupMul
import HandS.IsInst
import HandS.Deep
import HandS.Style
import HandS.StrMore
import HandS.MakeKwOnly
import HandS.Property
import HandS.Defaults
import KE.KTupSum
import PyProof.ReprRoads
import PyProof.ReprLen
import HandS.SetFor
import HandS.Strs
import HandS.SetBool
import PySem.Challenge.RW_nomoreheard_k13_parts_told
import PyProof.Rows.ReprOcc
set_option Elab.async false
set_option linter.all false
set_option maxRecDepth 100000
set_option maxHeartbeats 1000000
/-! DD1: data D, values W, the model heap, the relation to the hand layer's heap, the readings tE, tT, tA, tS. -/
namespace DD
open PySem L2

/-- pure data, never changed -/
inductive D where
  | non
  | bl (b : Bool)
  | int (i : Int)
  | str (s : Str)
  | tup (l : List D)
  | lst (l : List D)
  | frz (l : List D)
  | dic (l : List (Key × D))
  | ins (c : Str) (fs : List (Str × D))
  | glb (n : Str)
  | ty (n : String)
/-- a value: data, or a handle of an object that may change -/
inductive W where
  | d (x : D)
  | ref (n : Nat)
/-- an object that may change -/
inductive O where
  | lst (l : List W)
  | dic (l : List (Key × W))
  | ins (c : Str) (fs : List (Str × W))
  | dead
/-- what a step of the mirror gives -/
inductive R (α : Type) where
  | ok (a : α) (h : List O)
  | ex (e : D) (h : List O)
  | st
abbrev M (α : Type) := List O → R α
abbrev Env := List (Option W)
inductive Fl where
  | nx (ρ : Env)
  | rt (w : W)
  | bk (ρ : Env)
  | ct (ρ : Env)
def pu {α : Type} (a : α) : M α := fun h => .ok a h
def bd {α β : Type} (m : M α) (f : α → M β) : M β := fun h => match m h with
  | .ok a h' => f a h'
  | .ex e h' => .ex e h'
  | .st => .st
def stk {α : Type} : M α := fun _ => .st
theorem bd_pu {α β : Type} (a : α) (f : α → M β) : bd (pu a) f = f a := rfl
theorem bd_bd {α β γ : Type} (m : M α) (f : α → M β) (g : β → M γ) : bd (bd m f) g = bd m fun a => bd (f a) g := by
  funext h
  show (match (match m h with | .ok a h' => f a h' | .ex e h' => .ex e h' | .st => .st : R β) with | .ok a h' => g a h' | .ex e h' => .ex e h' | .st => .st : R γ) = (match m h with | .ok a h' => bd (f a) g h' | .ex e h' => .ex e h' | .st => .st)
  cases m h <;> rfl

abbrev Mg := Str → Option Value
abbrev Mu := List (Option Addr)
def KTup (K : PySem.W.Frag) (a : Addr) (xs : List V) : Prop :=
  ∃ (o : Obj) (its : Array Value) (n : Nat), K.lookup a = some o ∧ o.cls = .type "tuple" ∧ o.data = .seq its n ∧ its.size ≤ sizeLine ∧ Vals xs its.toList
def KLst (K : PySem.W.Frag) (a : Addr) (xs : List V) : Prop :=
  ∃ (o : Obj) (its : Array Value) (n : Nat), K.lookup a = some o ∧ o.cls = .type "list" ∧ o.dict = none ∧ o.data = .seq its n ∧ its.size ≤ sizeLine ∧ Vals xs its.toList

mutual
/-- data d stands at the value v: its objects are among A -/
inductive RepD (K : PySem.W.Frag) (mg : Mg) (A : Addr → Prop) (H : Hp) : D → V → Prop
  | non : RepD K mg A H .non .non
  | bl (b : Bool) : RepD K mg A H (.bl b) (.bl b)
  | int (i : Int) : RepD K mg A H (.int i) (.int i)
  | str (x : Str) : RepD K mg A H (.str x) (.str x)
  | ty (n : String) : RepD K mg A H (.ty n) (.ty n)
  | glb {n : Str} {a : Addr} : mg n = some (.ref a) → RepD K mg A H (.glb n) (.ref a)
  | tup {l : List D} {a : Addr} {xs : List V} : ((A a ∧ Rd H a (.tup xs)) ∨ KTup K a xs) → RepL K mg A H l xs → RepD K mg A H (.tup l) (.ref a)
  | lst {l : List D} {a : Addr} {xs : List V} : A a → H a = some (.lst xs) → RepL K mg A H l xs → RepD K mg A H (.lst l) (.ref a)
  | frz {l : List D} {a : Addr} {xs : List V} : ((A a ∧ Rd H a (.lst xs)) ∨ KLst K a xs) → RepL K mg A H l xs → RepD K mg A H (.frz l) (.ref a)
  | dic {l : List (Key × D)} {a : Addr} {kvs : List (Key × V)} : A a → H a = some (.dK kvs) → RepK K mg A H l kvs → RepD K mg A H (.dic l) (.ref a)
  | ins {c : Str} {fs : List (Str × D)} {C a dx : Addr} {fvs : List (Str × V)} : A a → mg c = some (.ref C) → H a = some (.ins C dx fvs) → RepF K mg A H fs fvs → RepD K mg A H (.ins c fs) (.ref a)
inductive RepL (K : PySem.W.Frag) (mg : Mg) (A : Addr → Prop) (H : Hp) : List D → List V → Prop
  | nil : RepL K mg A H [] []
  | cons {d : D} {l : List D} {v : V} {vs : List V} : RepD K mg A H d v → RepL K mg A H l vs → RepL K mg A H (d :: l) (v :: vs)
inductive RepK (K : PySem.W.Frag) (mg : Mg) (A : Addr → Prop) (H : Hp) : List (Key × D) → List (Key × V) → Prop
  | nil : RepK K mg A H [] []
  | cons {k : Key} {d : D} {l : List (Key × D)} {v : V} {vs : List (Key × V)} : RepD K mg A H d v → RepK K mg A H l vs → RepK K mg A H ((k, d) :: l) ((k, v) :: vs)
inductive RepF (K : PySem.W.Frag) (mg : Mg) (A : Addr → Prop) (H : Hp) : List (Str × D) → List (Str × V) → Prop
  | nil : RepF K mg A H [] []
  | cons {k : Str} {d : D} {l : List (Str × D)} {v : V} {vs : List (Str × V)} : RepD K mg A H d v → RepF K mg A H l vs → RepF K mg A H ((k, d) :: l) ((k, v) :: vs)
end

section
variable {K : PySem.W.Frag} {mg : Mg} {A A' : Addr → Prop} {H H' : Hp}
mutual
theorem RepD.mono (e : ∀ a o, A a → H a = some o → A' a ∧ H' a = some o) : ∀ {d : D} {v : V}, RepD K mg A H d v → RepD K mg A' H' d v
  | _, _, .non => .non
  | _, _, .bl b => .bl b
  | _, _, .int i => .int i
  | _, _, .str x => .str x
  | _, _, .ty n => .ty n
  | _, _, .glb h => .glb h
  | _, _, .tup h r => .tup (by
      rcases h with ⟨h1, h2 | ⟨o, h2⟩⟩ | h
      · exact .inl ⟨(e _ _ h1 h2).1, .inl (e _ _ h1 h2).2⟩
      · exact .inl ⟨(e _ _ h1 h2).1, .inr ⟨o, (e _ _ h1 h2).2⟩⟩
      · exact .inr h) (RepL.mono e r)
  | _, _, .lst h1 h2 r => .lst (e _ _ h1 h2).1 (e _ _ h1 h2).2 (RepL.mono e r)
  | _, _, .frz h r => .frz (by
      rcases h with ⟨h1, h2 | ⟨o, h2⟩⟩ | h
      · exact .inl ⟨(e _ _ h1 h2).1, .inl (e _ _ h1 h2).2⟩
      · exact .inl ⟨(e _ _ h1 h2).1, .inr ⟨o, (e _ _ h1 h2).2⟩⟩
      · exact .inr h) (RepL.mono e r)
  | _, _, .dic h1 h2 r => .dic (e _ _ h1 h2).1 (e _ _ h1 h2).2 (RepK.mono e r)
  | _, _, .ins h1 h2 h3 r => .ins (e _ _ h1 h3).1 h2 (e _ _ h1 h3).2 (RepF.mono e r)
theorem RepL.mono (e : ∀ a o, A a → H a = some o → A' a ∧ H' a = some o) : ∀ {d : List D} {v : List V}, RepL K mg A H d v → RepL K mg A' H' d v
  | _, _, .nil => .nil
  | _, _, .cons h r => .cons (RepD.mono e h) (RepL.mono e r)
theorem RepK.mono (e : ∀ a o, A a → H a = some o → A' a ∧ H' a = some o) : ∀ {d : List (Key × D)} {v : List (Key × V)}, RepK K mg A H d v → RepK K mg A' H' d v
  | _, _, .nil => .nil
  | _, _, .cons h r => .cons (RepD.mono e h) (RepK.mono e r)
theorem RepF.mono (e : ∀ a o, A a → H a = some o → A' a ∧ H' a = some o) : ∀ {d : List (Str × D)} {v : List (Str × V)}, RepF K mg A H d v → RepF K mg A' H' d v
  | _, _, .nil => .nil
  | _, _, .cons h r => .cons (RepD.mono e h) (RepF.mono e r)
end
theorem RepL.length : ∀ {l : List D} {vs : List V}, RepL K mg A H l vs → vs.length = l.length
  | _, _, .nil => rfl
  | _, _, .cons _ r => by rw [List.length_cons, List.length_cons, r.length]
theorem RepL.get : ∀ {l : List D} {vs : List V} {i : Nat} {v : V}, RepL K mg A H l vs → vs[i]? = some v → ∃ d, l[i]? = some d ∧ RepD K mg A H d v
  | _, _, i, _, .nil, e => by simp at e
  | _, _, 0, _, .cons h _, e => by simp at e; subst e; exact ⟨_, rfl, h⟩
  | _, _, i + 1, v, .cons _ r, e => by
    obtain ⟨d, h1, h2⟩ := r.get (i := i) (v := v) (by simpa using e)
    exact ⟨d, by simpa using h1, h2⟩
theorem RepL.getD : ∀ {l : List D} {vs : List V} {i : Nat} {d : D}, RepL K mg A H l vs → l[i]? = some d → ∃ v, vs[i]? = some v ∧ RepD K mg A H d v
  | _, _, i, _, .nil, e => by simp at e
  | _, _, 0, _, .cons h _, e => by simp at e; subst e; exact ⟨_, rfl, h⟩
  | _, _, i + 1, v, .cons _ r, e => by
    obtain ⟨d, h1, h2⟩ := r.getD (i := i) (d := v) (by simpa using e)
    exact ⟨d, by simpa using h1, h2⟩
theorem RepL.append : ∀ {l l' : List D} {vs vs' : List V}, RepL K mg A H l vs → RepL K mg A H l' vs' → RepL K mg A H (l ++ l') (vs ++ vs')
  | _, _, _, _, .nil, s => s
  | _, _, _, _, .cons h r, s => .cons h (RepL.append r s)
theorem RepL.take : ∀ {l : List D} {vs : List V} (n : Nat), RepL K mg A H l vs → RepL K mg A H (l.take n) (vs.take n)
  | _, _, 0, _ => by rw [List.take_zero, List.take_zero]; exact .nil
  | _, _, n + 1, .nil => .nil
  | _, _, n + 1, .cons h r => .cons h (RepL.take n r)
theorem RepL.drop : ∀ {l : List D} {vs : List V} (n : Nat), RepL K mg A H l vs → RepL K mg A H (l.drop n) (vs.drop n)
  | _, _, 0, r => r
  | _, _, n + 1, .nil => .nil
  | _, _, n + 1, .cons _ r => RepL.drop n r
end

/-! ### handles -/
/-- a is no handle's address, and not kept from us -/
def Av (F0 : Addr → Prop) (μ : Mu) (a : Addr) : Prop := ¬ F0 a ∧ ∀ n : Nat, μ[n]? ≠ some (some a)
def RepW (K : PySem.W.Frag) (mg : Mg) (F0 : Addr → Prop) (μ : Mu) (H : Hp) : W → V → Prop
  | .d x, v => RepD K mg (Av F0 μ) H x v
  | .ref n, v => n < μ.length ∧ ∀ a, μ[n]? = some (some a) → v = .ref a
inductive RepWs (K : PySem.W.Frag) (mg : Mg) (F0 : Addr → Prop) (μ : Mu) (H : Hp) : List W → List V → Prop
  | nil : RepWs K mg F0 μ H [] []
  | cons {w : W} {ws : List W} {v : V} {vs : List V} : RepW K mg F0 μ H w v → RepWs K mg F0 μ H ws vs → RepWs K mg F0 μ H (w :: ws) (v :: vs)
inductive RepWK {κ : Type} (K : PySem.W.Frag) (mg : Mg) (F0 : Addr → Prop) (μ : Mu) (H : Hp) : List (κ × W) → List (κ × V) → Prop
  | nil : RepWK K mg F0 μ H [] []
  | cons {k : κ} {w : W} {ws : List (κ × W)} {v : V} {vs : List (κ × V)} : RepW K mg F0 μ H w v → RepWK K mg F0 μ H ws vs → RepWK K mg F0 μ H ((k, w) :: ws) ((k, v) :: vs)
def ObjR (K : PySem.W.Frag) (mg : Mg) (F0 : Addr → Prop) (μ : Mu) (H : Hp) : O → Addr → Prop
  | .lst ws, a => ∃ vs, H a = some (.lst vs) ∧ RepWs K mg F0 μ H ws vs
  | .dic ws, a => ∃ vs, H a = some (.dK vs) ∧ RepWK K mg F0 μ H ws vs
  | .ins c ws, a => ∃ C dx vs, mg c = some (.ref C) ∧ H a = some (.ins C dx vs) ∧ RepWK K mg F0 μ H ws vs
  | .dead, _ => False
structure Rl (K : PySem.W.Frag) (mg : Mg) (F0 : Addr → Prop) (μ : Mu) (h : List O) (H : Hp) : Prop where
  len : μ.length = h.length
  nd : ∀ (i j : Nat) (a : Addr), μ[i]? = some (some a) → μ[j]? = some (some a) → i = j
  f0 : ∀ a, F0 a → (∃ o, H a = some o) ∧ ∀ n : Nat, μ[n]? ≠ some (some a)
  ob : ∀ (n : Nat) (a : Addr) (o : O), μ[n]? = some (some a) → h[n]? = some o → ObjR K mg F0 μ H o a
  dd : ∀ (n : Nat), μ[n]? = some none → h[n]? = some .dead
/-- what a step may do: only handles' objects change, new handles are new objects -/
structure Stp (μ : Mu) (H : Hp) (μ' : Mu) (H' : Hp) : Prop where
  len : μ.length ≤ μ'.length
  old : ∀ (n : Nat) (a : Addr), n < μ.length → μ'[n]? = some (some a) → μ[n]? = some (some a)
  new : ∀ (n : Nat) (a : Addr), μ.length ≤ n → μ'[n]? = some (some a) → H a = none
  kp : ∀ (b : Addr) (o : HO), H b = some o → (∀ n : Nat, μ[n]? ≠ some (some b)) → H' b = some o
  trk : ∀ (b : Addr) (o : HO), H b = some o → ∃ o', H' b = some o'
theorem noAt {μ : Mu} {n : Nat} {x : Option Addr} (hn : μ.length ≤ n) (e : μ[n]? = some x) : False := by
  rw [List.getElem?_eq_none hn] at e
  cases e
theorem Stp.refl (μ : Mu) (H : Hp) : Stp μ H μ H :=
  ⟨Nat.le_refl _, fun _ _ _ e => e, fun n a hn e => (noAt hn e).elim, fun _ _ e _ => e, fun _ o e => ⟨o, e⟩⟩
theorem Stp.nin {μ μ' : Mu} {H H' : Hp} (s : Stp μ H μ' H') {b : Addr} {o : HO} (e : H b = some o) (h : ∀ n : Nat, μ[n]? ≠ some (some b)) : ∀ n : Nat, μ'[n]? ≠ some (some b) := fun n q => by
  by_cases hn : n < μ.length
  · exact h n (s.old n b hn q)
  · have := s.new n b (by omega) q
    rw [e] at this
    cases this
theorem Stp.trans {μ μ1 μ2 : Mu} {H H1 H2 : Hp} (a : Stp μ H μ1 H1) (b : Stp μ1 H1 μ2 H2) : Stp μ H μ2 H2 where
  len := Nat.le_trans a.len b.len
  old := fun n x hn e => a.old n x hn (b.old n x (Nat.lt_of_lt_of_le hn a.len) e)
  new := fun n x hn e => by
    by_cases h1 : n < μ1.length
    · exact a.new n x hn (b.old n x h1 e)
    · have h2 := b.new n x (by omega) e
      cases q : H x with
      | none => rfl
      | some o =>
        obtain ⟨o', e'⟩ := a.trk x o q
        rw [h2] at e'
        cases e'
  kp := fun x o e h => b.kp x o (a.kp x o e h) (a.nin e h)
  trk := fun x o e => let ⟨o1, e1⟩ := a.trk x o e; b.trk x o1 e1
section
variable {K : PySem.W.Frag} {mg : Mg} {F0 : Addr → Prop} {μ μ' : Mu} {H H' : Hp} {h h' : List O}
theorem Stp.av (s : Stp μ H μ' H') : ∀ a o, Av F0 μ a → H a = some o → Av F0 μ' a ∧ H' a = some o := fun a o v e =>
  ⟨⟨v.1, s.nin e v.2⟩, s.kp a o e v.2⟩
theorem RepD.step (s : Stp μ H μ' H') {d : D} {v : V} (r : RepD K mg (Av F0 μ) H d v) : RepD K mg (Av F0 μ') H' d v := r.mono s.av
theorem RepL.step (s : Stp μ H μ' H') {d : List D} {v : List V} (r : RepL K mg (Av F0 μ) H d v) : RepL K mg (Av F0 μ') H' d v := r.mono s.av
theorem RepW.step (s : Stp μ H μ' H') : ∀ {w : W} {v : V}, RepW K mg F0 μ H w v → RepW K mg F0 μ' H' w v
  | .d _, _, r => RepD.step s r
  | .ref n, _, ⟨h1, h2⟩ => ⟨Nat.lt_of_lt_of_le h1 s.len, fun a e => h2 a (s.old n a h1 e)⟩
theorem RepWs.step (s : Stp μ H μ' H') : ∀ {w : List W} {v : List V}, RepWs K mg F0 μ H w v → RepWs K mg F0 μ' H' w v
  | _, _, .nil => .nil
  | _, _, .cons a b => .cons (a.step s) (b.step s)
theorem RepWK.step {κ : Type} (s : Stp μ H μ' H') : ∀ {w : List (κ × W)} {v : List (κ × V)}, RepWK K mg F0 μ H w v → RepWK K mg F0 μ' H' w v
  | _, _, .nil => .nil
  | _, _, .cons a b => .cons (a.step s) (b.step s)
theorem ObjR.step (s : Stp μ H μ' H') {a : Addr} (e : H' a = H a) : ∀ {o : O}, ObjR K mg F0 μ H o a → ObjR K mg F0 μ' H' o a
  | .lst _, ⟨vs, h1, h2⟩ => ⟨vs, e.trans h1, h2.step s⟩
  | .dic _, ⟨vs, h1, h2⟩ => ⟨vs, e.trans h1, h2.step s⟩
  | .ins _ _, ⟨C, dx, vs, h0, h1, h2⟩ => ⟨C, dx, vs, h0, e.trans h1, h2.step s⟩
  | .dead, z => z.elim
theorem ObjR.there {o : O} {a : Addr} (r : ObjR K mg F0 μ H o a) : ∃ u, H a = some u := by
  cases o with
  | lst _ => obtain ⟨_, e, _⟩ := r; exact ⟨_, e⟩
  | dic _ => obtain ⟨_, e, _⟩ := r; exact ⟨_, e⟩
  | ins _ _ => obtain ⟨_, _, _, _, e, _⟩ := r; exact ⟨_, e⟩
  | dead => exact r.elim
theorem Rl.there (r : Rl K mg F0 μ h H) {n : Nat} {a : Addr} (e : μ[n]? = some (some a)) : ∃ o, h[n]? = some o ∧ ObjR K mg F0 μ H o a ∧ ∃ u, H a = some u := by
  have hn : n < h.length := by
    rw [← r.len]
    exact (List.getElem?_eq_some_iff.mp e).1
  exact ⟨h[n], List.getElem?_eq_getElem hn, r.ob n a _ e (List.getElem?_eq_getElem hn), (r.ob n a _ e (List.getElem?_eq_getElem hn)).there⟩
theorem Rl.nfree (r : Rl K mg F0 μ h H) {p : Addr} (e : H p = none) : ∀ n : Nat, μ[n]? ≠ some (some p) := fun n q => by
  obtain ⟨_, _, _, u, z⟩ := r.there q
  rw [e] at z
  cases z
theorem Rl.avfree (r : Rl K mg F0 μ h H) {p : Addr} (e : H p = none) : Av F0 μ p := by
  refine ⟨fun z => ?_, r.nfree e⟩
  obtain ⟨⟨o, q⟩, _⟩ := r.f0 p z
  rw [e] at q
  cases q
/-- a new object that is no handle's -/
theorem Stp.fresh {p : Addr} {o : HO} (e : H p = none) : Stp μ H μ (upd H p o) :=
  ⟨Nat.le_refl _, fun _ _ _ z => z, fun n a hn z => (noAt hn z).elim, fun b u q _ => by rw [upd_ne (ne_of_none q e)]; exact q, fun b u q => ⟨u, by rw [upd_ne (ne_of_none q e)]; exact q⟩⟩
theorem Rl.fresh (r : Rl K mg F0 μ h H) {p : Addr} {o : HO} (e : H p = none) : Rl K mg F0 μ h (upd H p o) :=
  ⟨r.len, r.nd, fun a z => let ⟨⟨u, q⟩, n⟩ := r.f0 a z; ⟨⟨u, by rw [upd_ne (ne_of_none q e)]; exact q⟩, n⟩, fun n a x q z => by
    obtain ⟨_, _, _, u, q2⟩ := r.there q
    exact (r.ob n a x q z).step (Stp.fresh e) (upd_ne (ne_of_none q2 e)), r.dd⟩
/-- a new handle -/
theorem Stp.push {p : Addr} {o : HO} (e : H p = none) : Stp μ H (μ ++ [some p]) (upd H p o) :=
  by
  refine ⟨by rw [List.length_append]; omega, fun n a hn z => ?_, fun n a hn z => ?_, fun b u q _ => by rw [upd_ne (ne_of_none q e)]; exact q, fun b u q => ⟨u, by rw [upd_ne (ne_of_none q e)]; exact q⟩⟩
  · rw [List.getElem?_append_left hn] at z
    exact z
  · rw [List.getElem?_append_right hn] at z
    have : a = p := by
      cases q : n - μ.length with
      | zero => rw [q] at z; simpa using z.symm
      | succ k => rw [q] at z; simp at z
    rw [this]
    exact e
theorem Rl.push (r : Rl K mg F0 μ h H) {p : Addr} {u : HO} {o : O} (e : H p = none) (new : ObjR K mg F0 (μ ++ [some p]) (upd H p u) o p) : Rl K mg F0 (μ ++ [some p]) (h ++ [o]) (upd H p u) := by
  have at_ : ∀ (n : Nat) (a : Addr), (μ ++ [some p])[n]? = some (some a) → (n < μ.length ∧ μ[n]? = some (some a)) ∨ (n = μ.length ∧ a = p) := fun n a z => by
    by_cases hn : n < μ.length
    · rw [List.getElem?_append_left hn] at z
      exact .inl ⟨hn, z⟩
    · rw [List.getElem?_append_right (by omega)] at z
      cases q : n - μ.length with
      | zero =>
        rw [q] at z
        exact .inr ⟨by omega, by simpa using z.symm⟩
      | succ k => rw [q] at z; simp at z
  refine ⟨by rw [List.length_append, List.length_append, r.len]; rfl, fun i j a z1 z2 => ?_, fun a z => ?_, fun n a x z1 z2 => ?_, fun n z => ?_⟩
  · rcases at_ i a z1 with ⟨h1, q1⟩ | ⟨h1, q1⟩ <;> rcases at_ j a z2 with ⟨h2, q2⟩ | ⟨h2, q2⟩
    · exact r.nd i j a q1 q2
    · subst q2; exact (r.nfree e i q1).elim
    · subst q1; exact (r.nfree e j q2).elim
    · omega
  · obtain ⟨⟨y, q⟩, n⟩ := r.f0 a z
    refine ⟨⟨y, by rw [upd_ne (ne_of_none q e)]; exact q⟩, fun i zi => ?_⟩
    rcases at_ i a zi with ⟨_, q1⟩ | ⟨_, q1⟩
    · exact n i q1
    · subst q1
      rw [e] at q
      cases q
  · rcases at_ n a z1 with ⟨h1, q1⟩ | ⟨h1, q1⟩
    · rw [List.getElem?_append_left (by rw [← r.len]; exact h1)] at z2
      obtain ⟨_, _, _, y, q2⟩ := r.there q1
      exact (r.ob n a x q1 z2).step (Stp.push e) (upd_ne (ne_of_none q2 e))
    · subst q1
      rw [h1, r.len, List.getElem?_append_right (Nat.le_refl _)] at z2
      have : o = x := by simpa using z2
      subst this
      exact new
  · by_cases hn : n < μ.length
    · rw [List.getElem?_append_left hn] at z
      rw [List.getElem?_append_left (by rw [← r.len]; exact hn)]
      exact r.dd n z
    · rw [List.getElem?_append_right (by omega)] at z
      cases q : n - μ.length with
      | zero => rw [q] at z; simp at z
      | succ k => rw [q] at z; simp at z
/-- a handle's object is changed -/
theorem Stp.write {n : Nat} {a : Addr} {o : HO} (e : μ[n]? = some (some a)) : Stp μ H μ (upd H a o) :=
  by
  refine ⟨Nat.le_refl _, fun _ _ _ z => z, fun n a hn z => (noAt hn z).elim, fun b u q hb => ?_, fun b u q => ?_⟩
  · have ne : b ≠ a := fun z => hb n (by rw [z]; exact e)
    rw [upd_ne ne]
    exact q
  · by_cases hb : b = a
    · subst hb; exact ⟨o, upd_same⟩
    · exact ⟨u, by rw [upd_ne hb]; exact q⟩
theorem Rl.write (r : Rl K mg F0 μ h H) {n : Nat} {a : Addr} {u : HO} {o : O} (e : μ[n]? = some (some a)) (new : ObjR K mg F0 μ (upd H a u) o a) : Rl K mg F0 μ (h.set n o) (upd H a u) := by
  refine ⟨by rw [List.length_set]; exact r.len, r.nd, fun b z => ?_, fun m b x z1 z2 => ?_, fun m z => ?_⟩
  · obtain ⟨⟨y, q⟩, k⟩ := r.f0 b z
    exact ⟨(Stp.write (o := u) e).trk b y q, k⟩
  · by_cases hm : m = n
    · subst hm
      have : a = b := by
        rw [e] at z1
        exact Option.some.inj (Option.some.inj z1)
      subst this
      have hl : m < h.length := by
        rw [← r.len]
        exact (List.getElem?_eq_some_iff.mp e).1
      rw [List.getElem?_set_self hl] at z2
      cases z2
      exact new
    · rw [List.getElem?_set_ne (Ne.symm hm)] at z2
      have hb : b ≠ a := fun z => hm (r.nd m n b z1 (z ▸ e))
      exact (r.ob m b x z1 z2).step (Stp.write e) (upd_ne hb)
  · have hm : m ≠ n := fun q => by
      rw [q, e] at z
      cases z
    rw [List.getElem?_set_ne (Ne.symm hm)]
    exact r.dd m z
/-- a handle is given up: its object is data from now on -/
theorem set_none {n m : Nat} {a : Addr} (z : (μ.set n none)[m]? = some (some a)) : m ≠ n ∧ μ[m]? = some (some a) := by
  by_cases hm : m = n
  · subst hm
    by_cases hl : m < μ.length
    · rw [List.getElem?_set_self hl] at z; cases z
    · rw [List.getElem?_eq_none (by simpa using hl)] at z; cases z
  · rw [List.getElem?_set_ne (Ne.symm hm)] at z
    exact ⟨hm, z⟩
theorem Stp.freeze (n : Nat) : Stp μ H (μ.set n none) H :=
  ⟨by rw [List.length_set]; exact Nat.le_refl _, fun _ _ _ z => (set_none z).2, fun m a hm z => (noAt hm (set_none z).2).elim, fun b u q _ => q, fun b u q => ⟨u, q⟩⟩
theorem Rl.freeze (r : Rl K mg F0 μ h H) (n : Nat) : Rl K mg F0 (μ.set n none) (h.set n .dead) H :=
  ⟨by rw [List.length_set, List.length_set]; exact r.len, fun i j a z1 z2 => r.nd i j a (set_none z1).2 (set_none z2).2, fun a z => let ⟨q, k⟩ := r.f0 a z; ⟨q, fun i zi => k i (set_none zi).2⟩, fun m a x z1 z2 => by
    rw [List.getElem?_set_ne (Ne.symm (set_none z1).1)] at z2
    exact (r.ob m a x (set_none z1).2 z2).step (Stp.freeze n) rfl, fun m z => by
    by_cases hm : m = n
    · subst hm
      have hl : m < h.length := by
        have := (List.getElem?_eq_some_iff.mp z).1
        rw [List.length_set] at this
        rw [← r.len]
        exact this
      exact List.getElem?_set_self hl
    · rw [List.getElem?_set_ne (Ne.symm hm)] at z
      rw [List.getElem?_set_ne (Ne.symm hm)]
      exact r.dd m z⟩
theorem Rl.avfreeze (r : Rl K mg F0 μ h H) {n : Nat} {a : Addr} (e : μ[n]? = some (some a)) : Av F0 (μ.set n none) a :=
  ⟨fun z => (r.f0 a z).2 n e, fun m z => (set_none z).1 (r.nd m n a (set_none z).2 e)⟩
end

/-! ### readings -/
def EnvR (K : PySem.W.Frag) (mg : Mg) (F0 : Addr → Prop) (μ : Mu) (H : Hp) (ρ : Env) (σ : St) : Prop :=
  ρ.length = σ.length ∧ ∀ (i : Nat) (w : W), ρ[i]? = some (some w) → ∃ v, σ[i]? = some (some v) ∧ RepW K mg F0 μ H w v
theorem EnvR.step {K : PySem.W.Frag} {mg : Mg} {F0 : Addr → Prop} {μ μ' : Mu} {H H' : Hp} {ρ : Env} {σ : St} (s : Stp μ H μ' H') (e : EnvR K mg F0 μ H ρ σ) : EnvR K mg F0 μ' H' ρ σ :=
  ⟨e.1, fun i w q => let ⟨v, h1, h2⟩ := e.2 i w q; ⟨v, h1, h2.step s⟩⟩
theorem EnvR.set {K : PySem.W.Frag} {mg : Mg} {F0 : Addr → Prop} {μ : Mu} {H : Hp} {ρ : Env} {σ : St} {w : W} {v : V} (i : Nat) (e : EnvR K mg F0 μ H ρ σ) (r : RepW K mg F0 μ H w v) : EnvR K mg F0 μ H (ρ.set i (some w)) (σ.set i (some v)) := by
  refine ⟨by rw [List.length_set, List.length_set]; exact e.1, fun j u q => ?_⟩
  by_cases hj : j = i
  · subst hj
    by_cases hl : j < ρ.length
    · rw [List.getElem?_set_self hl] at q
      cases q
      exact ⟨v, List.getElem?_set_self (by rw [← e.1]; exact hl), r⟩
    · rw [List.getElem?_eq_none (by simpa using hl)] at q
      cases q
  · rw [List.getElem?_set_ne (Ne.symm hj)] at q
    rw [List.getElem?_set_ne (Ne.symm hj)]
    exact e.2 j u q
/-- an exception as it lies: its class, its own dict -/
def ExcR (K : PySem.W.Frag) (mg : Mg) (F0 : Addr → Prop) (μ : Mu) (H : Hp) (e : D) (c : Value) (dx : Option Addr) : Prop :=
  ∃ n fs, e = .ins n fs ∧ mg n = some c ∧ match dx with
    | none => fs = []
    | some x => ∃ fvs, H x = some (.xd fvs) ∧ RepF K mg (Av F0 μ) H fs fvs
/-- what is wanted behind a step of the mirror -/
def Post {α : Type} (K : PySem.W.Frag) (mg : Mg) (F0 : Addr → Prop) (E : Option XK) (μ : Mu) (H : Hp) (P : α → List O → Mu → Hp → Prop) : R α → Prop
  | .ok a h' => ∀ μ' H', Stp μ H μ' H' → Rl K mg F0 μ' h' H' → P a h' μ' H'
  | .ex e h' => match E with
    | none => False
    | some X => ∀ μ' H' c dx, Stp μ H μ' H' → Rl K mg F0 μ' h' H' → ExcR K mg F0 μ' H' e c dx → X c dx H'
  | .st => False
section
variable {α β : Type} {K : PySem.W.Frag} {mg : Mg} {F0 : Addr → Prop} {E : Option XK} {μ μ' : Mu} {H H' : Hp} {h : List O}
theorem Post.imp {P P' : α → List O → Mu → Hp → Prop} {r : R α} (p : Post K mg F0 E μ H P r) (f : ∀ a h' μ' H', Stp μ H μ' H' → Rl K mg F0 μ' h' H' → P a h' μ' H' → P' a h' μ' H') : Post K mg F0 E μ H P' r := by
  cases r with
  | ok a h' => exact fun μ' H' s r => f a h' μ' H' s r (p μ' H' s r)
  | ex e h' => exact p
  | st => exact p
theorem Post.mono {P : α → List O → Mu → Hp → Prop} {r : R α} (p : Post K mg F0 E μ H P r) (s : Stp μ H μ' H') : Post K mg F0 E μ' H' P r := by
  cases r with
  | ok a h' => exact fun μ2 H2 s2 r => p μ2 H2 (s.trans s2) r
  | ex e h' =>
    cases E with
    | none => exact p
    | some X => exact fun μ2 H2 c dx s2 r x => p μ2 H2 c dx (s.trans s2) r x
  | st => exact p
theorem Post.bd {P : β → List O → Mu → Hp → Prop} {m : M α} {f : α → M β} (p : Post K mg F0 E μ H P (DD.bd m f h)) : Post K mg F0 E μ H (fun a h1 μ1 H1 => Post K mg F0 E μ1 H1 P (f a h1)) (m h) := by
  have e : DD.bd m f h = (match m h with | .ok a h' => f a h' | .ex e h' => .ex e h' | .st => .st) := rfl
  rw [e] at p
  cases q : m h with
  | ok a h' =>
    rw [q] at p
    exact fun μ' H' s r => Post.mono p s
  | ex x h' =>
    rw [q] at p
    exact p
  | st =>
    rw [q] at p
    exact p
end
section
variable (K : PySem.W.Frag) (mg : Mg) (E : Option XK)
def QW (F0 : Addr → Prop) (Q : VK) : W → List O → Mu → Hp → Prop := fun w _ μ' H' => ∀ v, RepW K mg F0 μ' H' w v → Q v H'
def QB (Q : Bool → Hp → Prop) : Bool → List O → Mu → Hp → Prop := fun b _ _ H' => Q b H'
def QWs (F0 : Addr → Prop) (Q : List V → Hp → Prop) : List W → List O → Mu → Hp → Prop := fun w _ μ' H' => ∀ v, RepWs K mg F0 μ' H' w v → Q v H'
def QF (F0 : Addr → Prop) (Dd : Ends) : Fl → List O → Mu → Hp → Prop := fun f _ μ' H' => match f with
  | .nx ρ => ∀ σ, EnvR K mg F0 μ' H' ρ σ → Dd.nx σ H'
  | .rt w => ∀ v, RepW K mg F0 μ' H' w v → Dd.rt v H'
  | .bk ρ => ∀ σ, EnvR K mg F0 μ' H' ρ σ → Dd.bk σ H'
  | .ct ρ => ∀ σ, EnvR K mg F0 μ' H' ρ σ → Dd.ct σ H'
def tE (m : Env → M W) : TE := fun σ H Q => ∃ F0 μ ρ h, Rl K mg F0 μ h H ∧ EnvR K mg F0 μ H ρ σ ∧ Post K mg F0 E μ H (QW K mg F0 Q) (m ρ h)
def tT (m : Env → M Bool) : TT := fun σ H Q => ∃ F0 μ ρ h, Rl K mg F0 μ h H ∧ EnvR K mg F0 μ H ρ σ ∧ Post K mg F0 E μ H (QB Q) (m ρ h)
def tA (m : Env → M (List W)) : TA := fun σ H Q => ∃ F0 μ ρ h, Rl K mg F0 μ h H ∧ EnvR K mg F0 μ H ρ σ ∧ Post K mg F0 E μ H (QWs K mg F0 Q) (m ρ h)
def tS (m : Env → M Fl) : TS := fun Dd σ H => ∃ F0 μ ρ h, Rl K mg F0 μ h H ∧ EnvR K mg F0 μ H ρ σ ∧ Post K mg F0 E μ H (QF K mg F0 Dd) (m ρ h)
/-- an operation of two values; of a value; of a list of values; a test of a value -/
def r2 (op : W → W → M W) : R2 := fun x y H Q => ∃ F0 μ h a b, Rl K mg F0 μ h H ∧ RepW K mg F0 μ H a x ∧ RepW K mg F0 μ H b y ∧ Post K mg F0 E μ H (QW K mg F0 Q) (op a b h)
def r1 (op : W → M W) : V → Hp → VK → Prop := fun x H Q => ∃ F0 μ h a, Rl K mg F0 μ h H ∧ RepW K mg F0 μ H a x ∧ Post K mg F0 E μ H (QW K mg F0 Q) (op a h)
def rA (op : List W → M W) : List V → Hp → VK → Prop := fun xs H Q => ∃ F0 μ h as, Rl K mg F0 μ h H ∧ RepWs K mg F0 μ H as xs ∧ Post K mg F0 E μ H (QW K mg F0 Q) (op as h)
end
/-! ### weakening a reading -/
section
variable {X : Cx}
theorem _root_.L2.PE.to {e : Expr} {t t' : TE} (h : PE X e t) (w : ∀ σ H Q, t' σ H Q → t σ H Q) : PE X e t' := ⟨fun pins s σ H Q I q => h.run pins s σ H Q I (w σ H Q q)⟩
theorem _root_.L2.PT.to {e : Expr} {t t' : TT} (h : PT X e t) (w : ∀ σ H Q, t' σ H Q → t σ H Q) : PT X e t' := ⟨fun pins s σ H Q I q => h.run pins s σ H Q I (w σ H Q q)⟩
theorem _root_.L2.PW.to {e : Expr} {t t' : TT} (h : PW X e t) (w : ∀ σ H Q, t' σ H Q → t σ H Q) : PW X e t' := ⟨fun wh pins s σ H Q I q => h.run wh pins s σ H Q I (w σ H Q q)⟩
theorem _root_.L2.PA.to {e : List Expr} {t t' : TA} (h : PA X e t) (w : ∀ σ H Q, t' σ H Q → t σ H Q) : PA X e t' := ⟨fun pos pins s σ H Q I q => h.run pos pins s σ H Q I (w σ H Q q)⟩
theorem _root_.L2.PS.to {e : Stmt} {t t' : TS} (h : PS X e t) (w : ∀ Dd σ H, t' Dd σ H → t Dd σ H) : PS X e t' := ⟨fun pins s σ H Dd I q => h.run pins s σ H Dd I (w Dd σ H q)⟩
theorem _root_.L2.PSs.to {e : List Stmt} {t t' : TS} (h : PSs X e t) (w : ∀ Dd σ H, t' Dd σ H → t Dd σ H) : PSs X e t' := ⟨fun pins s σ H Dd I q => h.run pins s σ H Dd I (w Dd σ H q)⟩
end
end DD

set_option Elab.async false
set_option linter.all false
set_option maxRecDepth 100000
set_option maxHeartbeats 1000000
/-! DD2: names, constants, operators, tests, displays, arguments, statements, loops. -/
namespace DD
open PySem L2

/-! ### what a value's data says of its shape -/
section
variable {K : PySem.W.Frag} {mg : Mg} {A : Addr → Prop} {H : Hp} {v : V}
theorem RepD.i {i : Int} (r : RepD K mg A H (.int i) v) : v = .int i := by cases r; rfl
theorem RepD.b {i : Bool} (r : RepD K mg A H (.bl i) v) : v = .bl i := by cases r; rfl
theorem RepD.s {i : Str} (r : RepD K mg A H (.str i) v) : v = .str i := by cases r; rfl
theorem RepD.n (r : RepD K mg A H .non v) : v = .non := by cases r; rfl
theorem RepD.t {l : List D} (r : RepD K mg A H (.tup l) v) : ∃ a xs, v = .ref a ∧ SqT K H a xs ∧ RepL K mg A H l xs := by
  cases r with
  | tup h q =>
    refine ⟨_, _, rfl, ?_, q⟩
    rcases h with h | h
    · exact .inl h.2
    · exact .inr h
theorem RepD.l {l : List D} (r : RepD K mg A H (.lst l) v) : ∃ a xs, v = .ref a ∧ H a = some (.lst xs) ∧ RepL K mg A H l xs := by
  cases r with
  | lst h1 h2 q => exact ⟨_, _, rfl, h2, q⟩
theorem RepD.f {l : List D} (r : RepD K mg A H (.frz l) v) : ∃ a xs, v = .ref a ∧ SqL K H a xs ∧ RepL K mg A H l xs := by
  cases r with
  | frz h q =>
    refine ⟨_, _, rfl, ?_, q⟩
    rcases h with h | h
    · exact .inl h.2
    · exact .inr h
/-- the items of what is a tuple or a list -/
def items : D → Option (List D)
  | .tup l => some l
  | .lst l => some l
  | .frz l => some l
  | _ => none
theorem RepD.seq {d : D} {l : List D} (e : items d = some l) (r : RepD K mg A H d v) : ∃ a xs, v = .ref a ∧ (SqL K H a xs ∨ SqT K H a xs) ∧ RepL K mg A H l xs := by
  cases d with
  | tup _ => cases e; obtain ⟨a, xs, h1, h2, h3⟩ := r.t; exact ⟨a, xs, h1, .inr h2, h3⟩
  | lst _ => cases e; obtain ⟨a, xs, h1, h2, h3⟩ := r.l; exact ⟨a, xs, h1, .inl (.of h2), h3⟩
  | frz _ => cases e; obtain ⟨a, xs, h1, h2, h3⟩ := r.f; exact ⟨a, xs, h1, .inl h2, h3⟩
  | _ => cases e
end
section
variable {K : PySem.W.Frag} {mg : Mg} {F0 : Addr → Prop} {μ : Mu} {h : List O} {H : Hp} {p : Addr} {l : List D} {xs : List V}
theorem newT (r : Rl K mg F0 μ h H) (e : H p = none) (q : RepL K mg (Av F0 μ) H l xs) : RepD K mg (Av F0 μ) (upd H p (.tup xs)) (.tup l) (.ref p) :=
  .tup (.inl ⟨r.avfree e, .inl upd_same⟩) (q.step (Stp.fresh e))
theorem newL (r : Rl K mg F0 μ h H) (e : H p = none) (q : RepL K mg (Av F0 μ) H l xs) : RepD K mg (Av F0 μ) (upd H p (.lst xs)) (.lst l) (.ref p) :=
  .lst (r.avfree e) upd_same (q.step (Stp.fresh e))
/-- all of some values are data -/
def datas : List W → Option (List D)
  | [] => some []
  | .d x :: r => (datas r).map (x :: ·)
  | .ref _ :: _ => none
theorem datas_map (l : List D) : datas (l.map W.d) = some l := by
  induction l with
  | nil => rfl
  | cons x l ih =>
    show (datas (l.map W.d)).map (x :: ·) = _
    rw [ih] <;> rfl
theorem datas_rep : ∀ {ws : List W} {l : List D} {vs : List V}, datas ws = some l → RepWs K mg F0 μ H ws vs → RepL K mg (Av F0 μ) H l vs
  | [], _, _, e, r => by
    cases r
    cases e
    exact .nil
  | .d x :: ws, _, _, e, r => by
    cases r with
    | cons r q =>
      have e : (datas ws).map (x :: ·) = some _ := e
      cases z : datas ws with
      | none => rw [z] at e; cases e
      | some l =>
        rw [z] at e
        cases e
        exact .cons r (datas_rep z q)
  | .ref _ :: _, _, _, e, _ => by cases e
theorem reps_of : ∀ {l : List D} {vs : List V}, RepL K mg (Av F0 μ) H l vs → RepWs K mg F0 μ H (l.map W.d) vs
  | [], _, .nil => .nil
  | d :: l, _, .cons r q => RepWs.cons (w := .d d) (ws := l.map W.d) r (reps_of q)
theorem RepWs.length : ∀ {ws : List W} {vs : List V}, RepWs K mg F0 μ H ws vs → vs.length = ws.length
  | _, _, .nil => rfl
  | _, _, .cons _ q => by rw [List.length_cons, List.length_cons, q.length]
theorem RepWs.append : ∀ {ws ws' : List W} {vs vs' : List V}, RepWs K mg F0 μ H ws vs → RepWs K mg F0 μ H ws' vs' → RepWs K mg F0 μ H (ws ++ ws') (vs ++ vs')
  | _, _, _, _, .nil, q => q
  | _, _, _, _, .cons r t, q => .cons r (t.append q)
end

/-- a step that changes nothing, where it is something -/
def oM {α : Type} (o : Option α) : M α := fun h => match o with
  | some w => .ok w h
  | none => .st
theorem oM_some {α : Type} (a : α) : oM (some a) = pu a := rfl
theorem oM_none {α : Type} : oM (none : Option α) = stk := rfl
theorem oM_ok {α : Type} {K : PySem.W.Frag} {mg : Mg} {F0 : Addr → Prop} {E : Option XK} {μ : Mu} {H : Hp} {h : List O} {P : α → List O → Mu → Hp → Prop} {o : Option α} (p : Post K mg F0 E μ H P (oM o h)) :
    ∃ w, o = some w ∧ ∀ μ' H', Stp μ H μ' H' → Rl K mg F0 μ' h H' → P w h μ' H' := by
  cases o with
  | none => exact p.elim
  | some w => exact ⟨w, rfl, p⟩
section
variable {X : Cx} {E : Option XK} {a b c : Expr} {m m1 m2 m3 : Env → M W} {pos : Pos}

/-! ### names, constants -/
abbrev xE (X : Cx) (E : Option XK) (m : Env → M W) : TE := tE X.K X.mg E m
abbrev xT (X : Cx) (E : Option XK) (m : Env → M Bool) : TT := tT X.K X.mg E m
abbrev xA (X : Cx) (E : Option XK) (m : Env → M (List W)) : TA := tA X.K X.mg E m
abbrev xS (X : Cx) (E : Option XK) (m : Env → M Fl) : TS := tS X.K X.mg E m
def mV (i : Nat) : Env → M W := fun ρ => oM (ρ[i]?).join
theorem at_join {ρ : Env} {i : Nat} {w : W} (e : (ρ[i]?).join = some w) : ρ[i]? = some (some w) := by
  cases q : ρ[i]? with
  | none => rw [q] at e; cases e
  | some o => rw [q] at e; rw [show o = some w from e]
def mC (d : D) : Env → M W := fun _ => pu (.d d)
theorem dV (i : Nat) {x : Str} (hN : X.N[i]? = some x := by rfl) (hv : Vis X.env.scope x := by first | exact Or.inl rfl | exact Or.inr (Or.inl rfl) | exact Or.inr (Or.inr rfl)) (hd : (x == ("__debug__" : Str)) = false := by decide)
    (hcd : (x == ("__classdict__" : Str)) = false := by decide) : PE X (.Name x pos) (xE X E (mV i)) := (pe_var hN hv hd hcd).to fun σ H Q ⟨F0, μ, ρ, h, rl, en, p⟩ => by
  obtain ⟨w, e, p⟩ := oM_ok p
  obtain ⟨v, e1, r⟩ := en.2 i w (at_join e)
  exact ⟨v, e1, p μ H (.refl μ H) rl v r⟩
theorem cst {v : V} {d : D} (he : PE X a (tC v)) (r : ∀ A H, RepD X.K X.mg A H d v) : PE X a (xE X E (mC d)) := he.to fun σ H Q ⟨F0, μ, ρ, h, rl, en, p⟩ => p μ H (.refl μ H) rl v (r _ H)
theorem dInt {i j} : PE X (.Constant (.int i) j pos) (xE X E (mC (.int i))) := cst pe_int fun _ _ => .int i
theorem dBl {i j} : PE X (.Constant (.bool i) j pos) (xE X E (mC (.bl i))) := cst pe_bl fun _ _ => .bl i
theorem dStr {i j} : PE X (.Constant (.str i) j pos) (xE X E (mC (.str i))) := cst pe_str fun _ _ => .str i
theorem dNon {j} : PE X (.Constant .none j pos) (xE X E (mC .non)) := cst pe_non fun _ _ => .non
/-- a module's name whose value is known -/
theorem dGlb {x : Str} {d : D} {v : V} {u : Value} (hg : Gl X x) (hm : X.mg x = some u) (r : RelV v u) (rd : ∀ A H, RepD X.K X.mg A H d v) (hd : (x == ("__debug__" : Str)) = false := by decide) : PE X (.Name x pos) (xE X E (mC d)) := cst (pe_glob hg hm r hd) rd

/-! ### operators by values -/
def m2op (op : W → W → M W) (m1 m2 : Env → M W) : Env → M W := fun ρ => bd (m1 ρ) fun x => bd (m2 ρ) fun y => op x y
def m1op (op : W → M W) (m1 : Env → M W) : Env → M W := fun ρ => bd (m1 ρ) fun x => op x
theorem t2op {op : W → W → M W} (σ : St) (H : Hp) (Q : VK) (q : xE X E (m2op op m1 m2) σ H Q) : tOp (r2 X.K X.mg E op) (xE X E m1) (xE X E m2) σ H Q := by
  obtain ⟨F0, μ, ρ, h, rl, en, p⟩ := q
  exact ⟨F0, μ, ρ, h, rl, en, (Post.bd p).imp fun w1 h1 μ1 H1 s1 rl1 p1 v1 r1 => ⟨F0, μ1, ρ, h1, rl1, en.step s1, (Post.bd p1).imp fun w2 h2 μ2 H2 s2 rl2 p2 v2 r2 => ⟨F0, μ2, h2, w1, w2, rl2, r1.step s2, r2, p2⟩⟩⟩
theorem t1op {op : W → M W} (σ : St) (H : Hp) (Q : VK) (q : xE X E (m1op op m1) σ H Q) : tUn (r1 X.K X.mg E op) (xE X E m1) σ H Q := by
  obtain ⟨F0, μ, ρ, h, rl, en, p⟩ := q
  exact ⟨F0, μ, ρ, h, rl, en, (Post.bd p).imp fun w1 h1 μ1 H1 s1 rl1 p1 v1 r1 => ⟨F0, μ1, h1, w1, rl1, r1, p1⟩⟩
theorem d2 {o : Operator} {op : W → W → M W} (ho : OpR X (binaryOp o) (r2 X.K X.mg E op)) (ha : PE X a (xE X E m1)) (hb : PE X b (xE X E m2)) : PE X (.BinOp a o b pos) (xE X E (m2op op m1 m2)) := (pe_op ho ha hb).to t2op
theorem d1 {o : UnaryOp} {op : W → M W} (ho : UnR X (unaryOp o) (r1 X.K X.mg E op)) (ha : PE X a (xE X E m1)) : PE X (.UnaryOp o a pos) (xE X E (m1op op m1)) := (pe_un ho ha).to t1op
theorem dCmp {o : CmpOp} {op : W → W → M W} (ho : OpR X (compareOp o) (r2 X.K X.mg E op)) (ha : PE X a (xE X E m1)) (hb : PE X b (xE X E m2)) (hm : behindInMarks o b = false := by first | exact nomark _ | rfl) : PE X (.Compare a [o] [b] pos) (xE X E (m2op op m1 m2)) := (pe_cmpR ho ha hb hm).to t2op
theorem dIx {op : W → W → M W} (ho : IxR X (r2 X.K X.mg E op)) (ha : PE X a (xE X E m1)) (hb : PE X b (xE X E m2)) (hm : PlainIx b := by exact fun _ _ => rfl) : PE X (.Subscript a b pos) (xE X E (m2op op m1 m2)) := (pe_ix ho ha hb hm).to t2op

/-! ### tests -/
/-- a bool -/
def asBO : W → Option Bool
  | .d (.bl b) => some b
  | _ => none
def asB (w : W) : M Bool := oM (asBO w)
theorem asBO_eq {w : W} {b : Bool} (e : asBO w = some b) : w = .d (.bl b) := by
  unfold asBO at e
  split at e
  · cases e; rfl
  · cases e
def mT (m : Env → M W) : Env → M Bool := fun ρ => bd (m ρ) asB
theorem tTst (σ : St) (H : Hp) (Q : Bool → Hp → Prop) (q : xT X E (mT m) σ H Q) : xE X E m σ H fun x H1 => ∃ k, x = .bl k ∧ Q k H1 := by
  obtain ⟨F0, μ, ρ, h, rl, en, p⟩ := q
  refine ⟨F0, μ, ρ, h, rl, en, (Post.bd p).imp fun w1 h1 μ1 H1 s1 rl1 p1 v1 r1 => ?_⟩
  obtain ⟨k, e, p1⟩ := oM_ok p1
  cases asBO_eq e
  exact ⟨_, RepD.b r1, p1 μ1 H1 (.refl _ _) rl1⟩
theorem dtCmp {o : CmpOp} {op : W → W → M W} (ho : OpR X (compareOp o) (r2 X.K X.mg E op)) (ha : PE X a (xE X E m1)) (hb : PE X b (xE X E m2)) (hm : behindInMarks o b = false := by first | exact nomark _ | rfl) : PT X (.Compare a [o] [b] pos) (xT X E (mT (m2op op m1 m2))) :=
  (pt_cmpR ho ha hb hm).to fun σ H Q q => t2op σ H _ (tTst σ H Q q)
/-- an expression that gives True or False -/
theorem dtV (ha : PE X a (xE X E m)) (he : ∀ whole, isTrue a X.env whole = (do let v ← whole; standAt a.pos; holding [v] (truthy v)) := by intro _; rfl) : PT X a (xT X E (mT m)) := (pt_val ha he).to fun σ H Q q => tTst σ H Q q
/-- a < b < c -/
def mChain (op op' : W → W → M W) (m1 m2 m3 : Env → M W) : Env → M W := fun ρ => bd (m1 ρ) fun x => bd (m2 ρ) fun y => bd (op x y) fun z => bd (asB z) fun k => if k = true then bd (m3 ρ) fun u => op' y u else pu (.d (.bl false))
variable {t t' : Env → M Bool} {rest : List Expr}
def mAnd (t t' : Env → M Bool) : Env → M Bool := fun ρ => bd (t ρ) fun k => if k = true then t' ρ else pu false
def mOr (t t' : Env → M Bool) : Env → M Bool := fun ρ => bd (t ρ) fun k => if k = true then pu true else t' ρ
def mNot (t : Env → M Bool) : Env → M Bool := fun ρ => bd (t ρ) fun k => pu (!k)
theorem dwAnd1 (ha : PT X a (xT X E t)) : PW X (.BoolOp .And [a] pos) (xT X E t) := pw_and1 ha
theorem dwOr1 (ha : PT X a (xT X E t)) : PW X (.BoolOp .Or [a] pos) (xT X E t) := pw_or1 ha
theorem dwAnd (ha : PT X a (xT X E t)) (hb : PW X (.BoolOp .And (b :: rest) pos) (xT X E t')) : PW X (.BoolOp .And (a :: b :: rest) pos) (xT X E (mAnd t t')) := (pw_and ha hb).to fun σ H Q ⟨F0, μ, ρ, h, rl, en, p⟩ =>
  ⟨F0, μ, ρ, h, rl, en, (Post.bd p).imp fun k h1 μ1 H1 s1 rl1 p1 => by
    cases k with
    | true => exact ⟨F0, μ1, ρ, h1, rl1, en.step s1, p1⟩
    | false => exact p1 μ1 H1 (.refl _ _) rl1⟩
theorem dwOr (ha : PT X a (xT X E t)) (hb : PW X (.BoolOp .Or (b :: rest) pos) (xT X E t')) : PW X (.BoolOp .Or (a :: b :: rest) pos) (xT X E (mOr t t')) := (pw_or ha hb).to fun σ H Q ⟨F0, μ, ρ, h, rl, en, p⟩ =>
  ⟨F0, μ, ρ, h, rl, en, (Post.bd p).imp fun k h1 μ1 H1 s1 rl1 p1 => by
    cases k with
    | true => exact p1 μ1 H1 (.refl _ _) rl1
    | false => exact ⟨F0, μ1, ρ, h1, rl1, en.step s1, p1⟩⟩
theorem dtW (h : PW X a (xT X E t)) : PT X a (xT X E t) := h.pt
theorem dtNot (ha : PT X a (xT X E t)) : PT X (.UnaryOp .Not a pos) (xT X E (mNot t)) := (pt_not ha).to fun σ H Q ⟨F0, μ, ρ, h, rl, en, p⟩ =>
  ⟨F0, μ, ρ, h, rl, en, (Post.bd p).imp fun k h1 μ1 H1 s1 rl1 p1 => p1 μ1 H1 (.refl _ _) rl1⟩
/-- .. as values -/
def mAndV (m1 m2 : Env → M W) : Env → M W := fun ρ => bd (m1 ρ) fun x => bd (asB x) fun k => if k = true then m2 ρ else pu (.d (.bl false))
def mOrV (m1 m2 : Env → M W) : Env → M W := fun ρ => bd (m1 ρ) fun x => bd (asB x) fun k => if k = true then pu (.d (.bl true)) else m2 ρ
def mNotV (m1 : Env → M W) : Env → M W := fun ρ => bd (m1 ρ) fun x => bd (asB x) fun k => pu (.d (.bl !k))
theorem asB_ok {F0 : Addr → Prop} {α : Type} {P : α → List O → Mu → Hp → Prop} {f : Bool → M α} {w : W} {μ : Mu} {H : Hp} {h : List O} {v : V} (r : RepW X.K X.mg F0 μ H w v) (p : Post X.K X.mg F0 E μ H P (bd (asB w) f h)) :
    ∃ k, v = .bl k ∧ Post X.K X.mg F0 E μ H P (f k h) := by
  cases e : asBO w with
  | none =>
    have z : Post X.K X.mg F0 E μ H P (bd (oM (asBO w)) f h) := p
    rw [e] at z
    exact z.elim
  | some k =>
    have z : Post X.K X.mg F0 E μ H P (bd (oM (asBO w)) f h) := p
    rw [e] at z
    cases asBO_eq e
    exact ⟨k, RepD.b r, z⟩
theorem dOne {op} (h : PE X a (xE X E m)) : PE X (.BoolOp op [a] pos) (xE X E m) := pe_one h
theorem dAnd (ha : PE X a (xE X E m1)) (hb : PE X (.BoolOp .And (b :: rest) pos) (xE X E m2)) : PE X (.BoolOp .And (a :: b :: rest) pos) (xE X E (mAndV m1 m2)) := (pe_and ha hb).to fun σ H Q ⟨F0, μ, ρ, h, rl, en, p⟩ =>
  ⟨F0, μ, ρ, h, rl, en, (Post.bd p).imp fun x h1 μ1 H1 s1 rl1 p1 v r => by
    obtain ⟨k, rfl, p2⟩ := asB_ok r p1
    refine ⟨k, rfl, ?_⟩
    cases k with
    | true => exact ⟨F0, μ1, ρ, h1, rl1, en.step s1, p2⟩
    | false => exact p2 μ1 H1 (.refl _ _) rl1 (.bl false) (RepD.bl false)⟩
theorem dOr (ha : PE X a (xE X E m1)) (hb : PE X (.BoolOp .Or (b :: rest) pos) (xE X E m2)) : PE X (.BoolOp .Or (a :: b :: rest) pos) (xE X E (mOrV m1 m2)) := (pe_or ha hb).to fun σ H Q ⟨F0, μ, ρ, h, rl, en, p⟩ =>
  ⟨F0, μ, ρ, h, rl, en, (Post.bd p).imp fun x h1 μ1 H1 s1 rl1 p1 v r => by
    obtain ⟨k, rfl, p2⟩ := asB_ok r p1
    refine ⟨k, rfl, ?_⟩
    cases k with
    | true => exact p2 μ1 H1 (.refl _ _) rl1 (.bl true) (RepD.bl true)
    | false => exact ⟨F0, μ1, ρ, h1, rl1, en.step s1, p2⟩⟩
theorem dNot (ha : PE X a (xE X E m)) : PE X (.UnaryOp .Not a pos) (xE X E (mNotV m)) := (pe_not ha).to fun σ H Q ⟨F0, μ, ρ, h, rl, en, p⟩ =>
  ⟨F0, μ, ρ, h, rl, en, (Post.bd p).imp fun x h1 μ1 H1 s1 rl1 p1 v r => by
    obtain ⟨k, rfl, p2⟩ := asB_ok r p1
    exact ⟨k, rfl, p2 μ1 H1 (.refl _ _) rl1 (.bl !k) (RepD.bl !k)⟩⟩
theorem dChain {o o' : CmpOp} {op op' : W → W → M W} (ho : OpR X (compareOp o) (r2 X.K X.mg E op)) (ho' : OpR X (compareOp o') (r2 X.K X.mg E op')) (ha : PE X a (xE X E m1)) (hb : PE X b (xE X E m2)) (hc : PE X c (xE X E m3)) (hm : lastMarks [o, o'] [b, c] = false := by with_unfolding_all rfl) : PE X (.Compare a [o, o'] [b, c] pos) (xE X E (mChain op op' m1 m2 m3)) :=
  (pe_chain ho ho' ha hb hc hm).to fun σ H Q ⟨F0, μ, ρ, h, rl, en, p⟩ =>
    ⟨F0, μ, ρ, h, rl, en, (Post.bd p).imp fun w1 h1 μ1 H1 s1 rl1 p1 v1 r1 => ⟨F0, μ1, ρ, h1, rl1, en.step s1, (Post.bd p1).imp fun w2 h2 μ2 H2 s2 rl2 p2 v2 r2 =>
      ⟨F0, μ2, h2, w1, w2, rl2, r1.step s2, r2, (Post.bd p2).imp fun z h3 μ3 H3 s3 rl3 p3 v3 r3 => by
        obtain ⟨k, rfl, p4⟩ := asB_ok r3 p3
        refine ⟨k, rfl, ?_⟩
        cases k with
        | true => exact ⟨F0, μ3, ρ, h3, rl3, ((en.step s1).step s2).step s3, (Post.bd p4).imp fun u h5 μ5 H5 s5 rl5 p5 v5 r5 => ⟨F0, μ5, h5, w2, u, rl5, (r2.step s3).step s5, r5, p5⟩⟩
        | false => exact p4 μ3 H3 (.refl _ _) rl3 (.bl false) (RepD.bl false)⟩⟩⟩
theorem dtChain {o o' : CmpOp} {op op' : W → W → M W} (ho : OpR X (compareOp o) (r2 X.K X.mg E op)) (ho' : OpR X (compareOp o') (r2 X.K X.mg E op')) (ha : PE X a (xE X E m1)) (hb : PE X b (xE X E m2)) (hc : PE X c (xE X E m3)) (hm : lastMarks [o, o'] [b, c] = false := by with_unfolding_all rfl) : PT X (.Compare a [o, o'] [b, c] pos) (xT X E (mT (mChain op op' m1 m2 m3))) :=
  (pt_chain ho ho' ha hb hc hm).to fun σ H Q q => by
    obtain ⟨F0, μ, ρ, h, rl, en, p⟩ := tTst σ H Q q
    exact ⟨F0, μ, ρ, h, rl, en, (Post.bd p).imp fun w1 h1 μ1 H1 s1 rl1 p1 v1 r1 => ⟨F0, μ1, ρ, h1, rl1, en.step s1, (Post.bd p1).imp fun w2 h2 μ2 H2 s2 rl2 p2 v2 r2 =>
      ⟨F0, μ2, h2, w1, w2, rl2, r1.step s2, r2, (Post.bd p2).imp fun z h3 μ3 H3 s3 rl3 p3 v3 r3 => by
        obtain ⟨k, rfl, p4⟩ := asB_ok r3 p3
        refine ⟨k, rfl, ?_⟩
        cases k with
        | true => exact ⟨F0, μ3, ρ, h3, rl3, ((en.step s1).step s2).step s3, (Post.bd p4).imp fun u h5 μ5 H5 s5 rl5 p5 v5 r5 => ⟨F0, μ5, h5, w2, u, rl5, (r2.step s3).step s5, r5, p5⟩⟩
        | false => exact p4 μ3 H3 (.refl _ _) rl3 (.bl false) (RepD.bl false)⟩⟩⟩
/-- a if t else b -/
def mIf (t : Env → M Bool) (m1 m2 : Env → M W) : Env → M W := fun ρ => bd (t ρ) fun k => if k = true then m1 ρ else m2 ρ
theorem dIf (ht : PT X c (xT X E t)) (ha : PE X a (xE X E m1)) (hb : PE X b (xE X E m2)) : PE X (.IfExp c a b pos) (xE X E (mIf t m1 m2)) := (pe_ifExp ht ha hb).to fun σ H Q ⟨F0, μ, ρ, h, rl, en, p⟩ =>
  ⟨F0, μ, ρ, h, rl, en, (Post.bd p).imp fun k h1 μ1 H1 s1 rl1 p1 => by
    cases k with
    | true => exact ⟨F0, μ1, ρ, h1, rl1, en.step s1, p1⟩
    | false => exact ⟨F0, μ1, ρ, h1, rl1, en.step s1, p1⟩⟩

/-! ### arguments, displays -/
variable {es : List Expr} {n : Env → M (List W)}
def mNil : Env → M (List W) := fun _ => pu []
def mCons (m : Env → M W) (n : Env → M (List W)) : Env → M (List W) := fun ρ => bd (m ρ) fun x => bd (n ρ) fun r => pu (x :: r)
theorem daNil : PA X [] (xA X E mNil) := pa_nil.to fun σ H Q ⟨F0, μ, ρ, h, rl, en, p⟩ => p μ H (.refl _ _) rl [] .nil
theorem daCons (ha : PE X a (xE X E m)) (hr : PA X es (xA X E n)) (hs : starEach (a :: es) X.env = (false, eval a X.env) :: starEach es X.env := by rfl) : PA X (a :: es) (xA X E (mCons m n)) := (pa_cons ha hr hs).to fun σ H Q ⟨F0, μ, ρ, h, rl, en, p⟩ =>
  ⟨F0, μ, ρ, h, rl, en, (Post.bd p).imp fun x h1 μ1 H1 s1 rl1 p1 v r => ⟨F0, μ1, ρ, h1, rl1, en.step s1, (Post.bd p1).imp fun xs h2 μ2 H2 s2 rl2 p2 vs rs => p2 μ2 H2 (.refl _ _) rl2 (v :: vs) (.cons (r.step s2) rs)⟩⟩
/-- (a, b, ..), of data -/
def mkTupO (ws : List W) : Option W := (datas ws).bind fun l => if l.length ≤ 100000 then some (.d (.tup l)) else none
def mkTup (ws : List W) : M W := oM (mkTupO ws)
theorem mkTupO_eq {ws : List W} {w : W} (e : mkTupO ws = some w) : ∃ l, datas ws = some l ∧ l.length ≤ 100000 ∧ w = .d (.tup l) := by
  unfold mkTupO at e
  cases q : datas ws with
  | none => rw [q] at e; cases e
  | some l =>
    rw [q] at e
    have e : (if l.length ≤ 100000 then some (W.d (.tup l)) else none) = some w := e
    split at e
    · rename_i hl
      cases e
      exact ⟨l, rfl, hl, rfl⟩
    · cases e
def mTup (n : Env → M (List W)) : Env → M W := fun ρ => bd (n ρ) mkTup
theorem len_ok {k : Nat} (h : k ≤ 100000) : k ≤ sizeLine := Nat.le_trans h (by decide)
theorem dTup {x1} (ha : PA X es (xA X E n)) : PE X (.Tuple es x1 pos) (xE X E (mTup n)) := (pe_tup ha).to fun σ H Q ⟨F0, μ, ρ, h, rl, en, p⟩ =>
  ⟨F0, μ, ρ, h, rl, en, (Post.bd p).imp fun ws h1 μ1 H1 s1 rl1 p1 vs rs => by
    obtain ⟨w, e, p1⟩ := oM_ok p1
    obtain ⟨l, e2, hl, rfl⟩ := mkTupO_eq e
    have rd := datas_rep e2 rs
    exact ⟨by rw [rd.length]; exact len_ok hl, fun q hq => p1 _ _ (.fresh hq) (rl1.fresh hq) _ (newT rl1 hq rd)⟩⟩
/-- [a, b, ..], of data, that stays as it is -/
def mkLstO (ws : List W) : Option W := (datas ws).bind fun l => if l.length ≤ 100000 then some (.d (.lst l)) else none
def mkLst (ws : List W) : M W := oM (mkLstO ws)
theorem mkLstO_eq {ws : List W} {w : W} (e : mkLstO ws = some w) : ∃ l, datas ws = some l ∧ l.length ≤ 100000 ∧ w = .d (.lst l) := by
  unfold mkLstO at e
  cases q : datas ws with
  | none => rw [q] at e; cases e
  | some l =>
    rw [q] at e
    have e : (if l.length ≤ 100000 then some (W.d (.lst l)) else none) = some w := e
    split at e
    · rename_i hl
      cases e
      exact ⟨l, rfl, hl, rfl⟩
    · cases e
def mLst (n : Env → M (List W)) : Env → M W := fun ρ => bd (n ρ) mkLst
theorem dLst (ha : PA X es (xA X E n)) : PE X (.List es pos) (xE X E (mLst n)) := (pe_lst ha).to fun σ H Q ⟨F0, μ, ρ, h, rl, en, p⟩ =>
  ⟨F0, μ, ρ, h, rl, en, (Post.bd p).imp fun ws h1 μ1 H1 s1 rl1 p1 vs rs => by
    obtain ⟨w, e, p1⟩ := oM_ok p1
    obtain ⟨l, e2, hl, rfl⟩ := mkLstO_eq e
    have rd := datas_rep e2 rs
    exact ⟨by rw [rd.length]; exact len_ok hl, fun q hq => p1 _ _ (.fresh hq) (rl1.fresh hq) _ (newL rl1 hq rd)⟩⟩
/-- [a, b, ..], that may change -/
def alc (o : O) : M W := fun h => .ok (.ref h.length) (h ++ [o])
def mkLstR (ws : List W) : M W := if ws.length ≤ 100000 then alc (.lst ws) else stk
def mLstR (n : Env → M (List W)) : Env → M W := fun ρ => bd (n ρ) mkLstR
theorem newR {K : PySem.W.Frag} {mg : Mg} {F0 : Addr → Prop} {μ : Mu} {h : List O} {H : Hp} {q : Addr} (rl : Rl K mg F0 μ h H) : RepW K mg F0 (μ ++ [some q]) (upd H q u) (.ref h.length) (.ref q) := by
  refine ⟨by rw [List.length_append, rl.len]; simp, fun a z => ?_⟩
  rw [← rl.len, List.getElem?_append_right (Nat.le_refl _)] at z
  have : q = a := by simpa using z
  rw [this]
theorem dLstR (ha : PA X es (xA X E n)) : PE X (.List es pos) (xE X E (mLstR n)) := (pe_lst ha).to fun σ H Q ⟨F0, μ, ρ, h, rl, en, p⟩ =>
  ⟨F0, μ, ρ, h, rl, en, (Post.bd p).imp fun ws h1 μ1 H1 s1 rl1 p1 vs rs => by
    unfold mkLstR at p1
    split at p1
    · rename_i hl
      exact ⟨by rw [rs.length]; exact len_ok hl, fun q hq => p1 _ _ (.push hq) (rl1.push hq ⟨vs, upd_same, rs.step (.push hq)⟩) _ (newR rl1)⟩
    · exact p1.elim⟩

/-! ### statements -/
variable {st : Stmt} {sts : List Stmt} {s s1 s2 : Env → M Fl} {i : Nat}
def mNext : Env → M Fl := fun ρ => pu (.nx ρ)
def mSeq (s1 s2 : Env → M Fl) : Env → M Fl := fun ρ => bd (s1 ρ) fun f => match f with
  | .nx ρ' => s2 ρ'
  | f => pu f
theorem dsNil : PSs X [] (xS X E mNext) := pss_nil.to fun Dd σ H ⟨F0, μ, ρ, h, rl, en, p⟩ => p μ H (.refl _ _) rl σ en
theorem dsOne (h1 : PS X st (xS X E s)) : PSs X [st] (xS X E s) := pss_one h1
theorem dsCons (h1 : PS X st (xS X E s1)) (h2 : PSs X sts (xS X E s2)) : PSs X (st :: sts) (xS X E (mSeq s1 s2)) := (pss_cons h1 h2).to fun Dd σ H ⟨F0, μ, ρ, h, rl, en, p⟩ =>
  ⟨F0, μ, ρ, h, rl, en, (Post.bd p).imp fun f h1 μ1 H1 s1 rl1 p1 => by
    cases f with
    | nx ρ' => exact fun σ' e' => ⟨F0, μ1, ρ', h1, rl1, e', p1⟩
    | rt w => exact p1 μ1 H1 (.refl _ _) rl1
    | bk ρ' => exact p1 μ1 H1 (.refl _ _) rl1
    | ct ρ' => exact p1 μ1 H1 (.refl _ _) rl1⟩
theorem dsPass : PS X (.Pass pos) (xS X E mNext) := ps_pass.to fun Dd σ H ⟨F0, μ, ρ, h, rl, en, p⟩ => p μ H (.refl _ _) rl σ en
def mBreak : Env → M Fl := fun ρ => pu (.bk ρ)
def mCont : Env → M Fl := fun ρ => pu (.ct ρ)
theorem dsBreak : PS X (.Break pos) (xS X E mBreak) := ps_break.to fun Dd σ H ⟨F0, μ, ρ, h, rl, en, p⟩ => p μ H (.refl _ _) rl σ en
theorem dsCont : PS X (.Continue pos) (xS X E mCont) := ps_continue.to fun Dd σ H ⟨F0, μ, ρ, h, rl, en, p⟩ => p μ H (.refl _ _) rl σ en
theorem dsDoc {x j pos pos'} : PS X (.Expr (.Constant (.str x) j pos) pos') (xS X E mNext) := ps_doc.to fun Dd σ H ⟨F0, μ, ρ, h, rl, en, p⟩ => p μ H (.refl _ _) rl σ en
/-- code that the mirror never comes to -/
def mNever : Env → M Fl := fun _ => stk
theorem dsNever : PS X st (xS X E mNever) := ps_never.to fun Dd σ H ⟨F0, μ, ρ, h, rl, en, p⟩ => p
theorem dssNever : PSs X sts (xS X E mNever) := pss_never.to fun Dd σ H ⟨F0, μ, ρ, h, rl, en, p⟩ => p
def mExpr (m : Env → M W) : Env → M Fl := fun ρ => bd (m ρ) fun _ => pu (.nx ρ)
theorem dsExpr (ha : PE X a (xE X E m)) (hs : swapsWith a none pos.line X.env = pure false := by rfl) : PS X (.Expr a pos) (xS X E (mExpr m)) := (ps_expr ha hs).to fun Dd σ H ⟨F0, μ, ρ, h, rl, en, p⟩ =>
  ⟨F0, μ, ρ, h, rl, en, (Post.bd p).imp fun x h1 μ1 H1 s1 rl1 p1 v r => p1 μ1 H1 (.refl _ _) rl1 σ (en.step s1)⟩
def mRet (m : Env → M W) : Env → M Fl := fun ρ => bd (m ρ) fun w => pu (.rt w)
theorem dsRet (ha : PE X a (xE X E m)) : PS X (.Return (some a) pos) (xS X E (mRet m)) := (ps_ret ha).to fun Dd σ H ⟨F0, μ, ρ, h, rl, en, p⟩ =>
  ⟨F0, μ, ρ, h, rl, en, (Post.bd p).imp fun x h1 μ1 H1 s1 rl1 p1 v r => p1 μ1 H1 (.refl _ _) rl1 v r⟩
def mRetN : Env → M Fl := fun ρ => pu (.rt (.d .non))
theorem dsRetN : PS X (.Return none pos) (xS X E mRetN) := ps_retN.to fun Dd σ H ⟨F0, μ, ρ, h, rl, en, p⟩ => p μ H (.refl _ _) rl .non RepD.non
def mIfS (t : Env → M Bool) (s1 s2 : Env → M Fl) : Env → M Fl := fun ρ => bd (t ρ) fun k => if k = true then s1 ρ else s2 ρ
theorem dsIf {x y : List Stmt} (ht : PT X c (xT X E t)) (ha : PSs X x (xS X E s1)) (hb : PSs X y (xS X E s2)) : PS X (.If c x y pos) (xS X E (mIfS t s1 s2)) := (ps_if ht ha hb).to fun Dd σ H ⟨F0, μ, ρ, h, rl, en, p⟩ =>
  ⟨F0, μ, ρ, h, rl, en, (Post.bd p).imp fun k h1 μ1 H1 s1 rl1 p1 => by
    cases k with
    | true => exact ⟨F0, μ1, ρ, h1, rl1, en.step s1, p1⟩
    | false => exact ⟨F0, μ1, ρ, h1, rl1, en.step s1, p1⟩⟩
/-- name = e -/
def mSet (i : Nat) (m : Env → M W) : Env → M Fl := fun ρ => bd (m ρ) fun w => pu (.nx (ρ.set i (some w)))
theorem dsSet {x : Str} {pos' : Pos} (hN : X.N.Nodup) (hi : X.N[i]? = some x) (hx : Loc X.env.scope x) (ha : PE X a (xE X E m)) (hs : swapsWith a (some (.Name x pos')) pos.line X.env = pure false := by rfl) (hf : X.fn x = true ∨ X.env.scope.names.lookup x = some .local := by first | exact .inl rfl | exact .inr rfl | assumption) :
    PS X (.Assign [.Name x pos'] a pos) (xS X E (mSet i m)) := (ps_set hN hi hx ha hs hf).to fun Dd σ H ⟨F0, μ, ρ, h, rl, en, p⟩ =>
  ⟨F0, μ, ρ, h, rl, en, (Post.bd p).imp fun x h1 μ1 H1 s1 rl1 p1 v r => p1 μ1 H1 (.refl _ _) rl1 _ ((en.step s1).set i r)⟩
/-- name op= e -/
def mAug (i : Nat) (op : W → W → M W) (m : Env → M W) : Env → M Fl := fun ρ => bd (mV i ρ) fun x => bd (m ρ) fun y => bd (op x y) fun z => pu (.nx (ρ.set i (some z)))
theorem dsAug {x : Str} {pos' : Pos} {o : Operator} {op : W → W → M W} (hN : X.N.Nodup) (hi : X.N[i]? = some x) (hx : Loc X.env.scope x) (ha : PE X a (xE X E m)) (ho : PIp X o (r2 X.K X.mg E op)) (hf : X.fn x = true ∨ X.env.scope.names.lookup x = some .local := by first | exact .inl rfl | exact .inr rfl | assumption) :
    PS X (.AugAssign (.Name x pos') o a pos) (xS X E (mAug i op m)) := (ps_aug hN hi hx ha ho hf).to fun Dd σ H ⟨F0, μ, ρ, h, rl, en, p⟩ => by
  obtain ⟨x, e, p⟩ := oM_ok (Post.bd p)
  obtain ⟨v, e1, r⟩ := en.2 i x (at_join e)
  exact ⟨v, e1, F0, μ, ρ, h, rl, en, (Post.bd (p μ H (.refl _ _) rl)).imp fun y h1 μ1 H1 s1 rl1 p1 v1 r1 => ⟨F0, μ1, h1, x, y, rl1, r.step s1, r1, (Post.bd p1).imp fun z h2 μ2 H2 s2 rl2 p2 v2 r2 => p2 μ2 H2 (.refl _ _) rl2 _ (((en.step s1).step s2).set i r2)⟩⟩

end
end DD

set_option Elab.async false
set_option linter.all false
set_option maxRecDepth 100000
set_option maxHeartbeats 1000000
/-! DD3: targets, what is walked, for, while, comprehensions. -/
namespace DD
open PySem L2

/-! ### targets: names, and tuples of such -/
inductive Tg where
  | nm (i : Nat)
  | tp (ts : List Tg)
mutual
def gT (K : PySem.W.Frag) : Tg → TG
  | .nm i => gName i
  | .tp ts => gTup K ts.length (gTs K ts)
def gTs (K : PySem.W.Frag) : List Tg → TGs
  | [] => gNil
  | t :: ts => gCons (gT K t) (gTs K ts)
end
mutual
/-- the slots of a target -/
def slt : Tg → List Nat
  | .nm i => [i]
  | .tp ts => slts ts
def slts : List Tg → List Nat
  | [] => []
  | t :: ts => slt t ++ slts ts
end
mutual
def mG : Tg → D → Env → Option Env
  | .nm i, d, ρ => some (ρ.set i (some (.d d)))
  | .tp ts, .tup l, ρ => mGs ts l ρ
  | .tp _, _, _ => none
def mGs : List Tg → List D → Env → Option Env
  | [], [], ρ => some ρ
  | t :: ts, d :: ds, ρ => (mG t d ρ).bind fun ρ' => mGs ts ds ρ'
  | _, _, _ => none
end
/-- slots that are forgotten -/
def wipeE (ρ : Env) : List Nat → Env
  | [] => ρ
  | v :: vs => (wipeE ρ vs).set v none
theorem wipe_set {σ : St} {i : Nat} {v : V} : ∀ {vs : List Nat}, i ∈ vs → wipe (σ.set i (some v)) vs = wipe σ vs
  | [], h => by cases h
  | j :: vs, h => by
    by_cases e : i ∈ vs
    · unfold wipe
      rw [wipe_set e]
    · have : i = j := by
        rcases List.mem_cons.mp h with q | q
        · exact q
        · exact (e q).elim
      subst this
      have out : ∀ {us : List Nat}, i ∉ us → wipe (σ.set i (some v)) us = (wipe σ us).set i (some v) := by
        intro us
        induction us with
        | nil => intro _; rfl
        | cons k us ih =>
          intro hk
          have h1 : i ≠ k := fun q => hk (by rw [q]; exact List.mem_cons_self)
          have h2 : i ∉ us := fun q => hk (List.mem_cons_of_mem _ q)
          unfold wipe
          rw [ih h2, List.set_comm _ _ h1]
      unfold wipe
      rw [out e, List.set_set]
theorem wipe_idem (σ : St) : ∀ vs : List Nat, wipe (wipe σ vs) vs = wipe σ vs := by
  intro vs
  induction vs with
  | nil => rfl
  | cons v vs ih =>
    have hs : ∀ (us : List Nat) (τ : St), wipe (τ.set v none) us = (wipe τ us).set v none := by
      intro us
      induction us with
      | nil => intro _; rfl
      | cons k us ih2 =>
        intro τ
        unfold wipe
        rw [ih2]
        by_cases e : v = k
        · subst e; rfl
        · rw [List.set_comm _ _ e]
    show (wipe ((wipe σ vs).set v none) vs).set v none = (wipe σ vs).set v none
    rw [hs, ih, List.set_set]
theorem EnvR.wipe {K : PySem.W.Frag} {mg : Mg} {F0 : Addr → Prop} {μ : Mu} {H : Hp} {ρ : Env} {σ : St} (e : EnvR K mg F0 μ H ρ σ) : ∀ vs : List Nat, EnvR K mg F0 μ H (wipeE ρ vs) (L2.wipe σ vs)
  | [] => e
  | v :: vs => by
    have q := e.wipe vs
    refine ⟨by show ((wipeE ρ vs).set v none).length = ((L2.wipe σ vs).set v none).length; rw [List.length_set, List.length_set]; exact q.1, fun i w z => ?_⟩
    have z : ((wipeE ρ vs).set v none)[i]? = some (some w) := z
    by_cases hi : i = v
    · subst hi
      by_cases hl : i < (wipeE ρ vs).length
      · rw [List.getElem?_set_self hl] at z; cases z
      · rw [List.getElem?_eq_none (by simpa using hl)] at z; cases z
    · rw [List.getElem?_set_ne (Ne.symm hi)] at z
      obtain ⟨u, h1, h2⟩ := q.2 i w z
      exact ⟨u, by show ((L2.wipe σ vs).set v none)[i]? = _; rw [List.getElem?_set_ne (Ne.symm hi)]; exact h1, h2⟩
section
variable {K : PySem.W.Frag} {mg : Mg} {F0 : Addr → Prop} {μ : Mu} {H : Hp}
mutual
theorem gT_ok : ∀ (t : Tg) {d : D} {v : V} {ρ ρ' : Env} {σ : St} {Q : St → Hp → Prop}, RepD K mg (Av F0 μ) H d v → EnvR K mg F0 μ H ρ σ → mG t d ρ = some ρ' →
    (∀ σ', EnvR K mg F0 μ H ρ' σ' → (∀ vs, (∀ i ∈ slt t, i ∈ vs) → L2.wipe σ' vs = L2.wipe σ vs) → Q σ' H) → gT K t v σ H Q
  | .nm i, d, v, ρ, ρ', σ, Q, r, e, m, k => by
    have m : some (ρ.set i (some (.d d))) = some ρ' := m
    cases m
    exact k _ (e.set i r) fun vs h => wipe_set (h i (by simp [slt]))
  | .tp ts, .tup l, v, ρ, ρ', σ, Q, r, e, m, k => by
    obtain ⟨a, xs, rfl, h1, h2⟩ := r.t
    have hl : xs.length = ts.length := by
      have m : mGs ts l ρ = some ρ' := m
      have : ∀ (ts : List Tg) (l : List D) (ρ : Env), mGs ts l ρ = some ρ' → l.length = ts.length := by
        intro ts
        induction ts with
        | nil =>
          intro l ρ m
          cases l with
          | nil => rfl
          | cons _ _ => cases m
        | cons t ts ih =>
          intro l ρ m
          cases l with
          | nil => cases m
          | cons d ds =>
            have m : (mG t d ρ).bind (fun ρ' => mGs ts ds ρ') = some ρ' := m
            cases q : mG t d ρ with
            | none => rw [q] at m; cases m
            | some ρ1 =>
              rw [q] at m
              rw [List.length_cons, List.length_cons, ih ds ρ1 m]
      rw [h2.length, this ts l ρ m]
    exact ⟨a, xs, rfl, h1, hl, gTs_ok ts h2 e m k⟩
  | .tp _, .non, _, _, _, _, _, _, _, m, _ => by cases m
  | .tp _, .bl _, _, _, _, _, _, _, _, m, _ => by cases m
  | .tp _, .int _, _, _, _, _, _, _, _, m, _ => by cases m
  | .tp _, .str _, _, _, _, _, _, _, _, m, _ => by cases m
  | .tp _, .lst _, _, _, _, _, _, _, _, m, _ => by cases m
  | .tp _, .frz _, _, _, _, _, _, _, _, m, _ => by cases m
  | .tp _, .dic _, _, _, _, _, _, _, _, m, _ => by cases m
  | .tp _, .ins _ _, _, _, _, _, _, _, _, m, _ => by cases m
  | .tp _, .glb _, _, _, _, _, _, _, _, m, _ => by cases m
  | .tp _, .ty _, _, _, _, _, _, _, _, m, _ => by cases m
theorem gTs_ok : ∀ (ts : List Tg) {l : List D} {vs : List V} {ρ ρ' : Env} {σ : St} {Q : St → Hp → Prop}, RepL K mg (Av F0 μ) H l vs → EnvR K mg F0 μ H ρ σ → mGs ts l ρ = some ρ' →
    (∀ σ', EnvR K mg F0 μ H ρ' σ' → (∀ us, (∀ i ∈ slts ts, i ∈ us) → L2.wipe σ' us = L2.wipe σ us) → Q σ' H) → gTs K ts vs σ H Q
  | [], [], _, ρ, ρ', σ, Q, r, e, m, k => by
    cases r
    have m : some ρ = some ρ' := m
    cases m
    exact ⟨rfl, k σ e fun _ _ => rfl⟩
  | [], _ :: _, _, _, _, _, _, _, _, m, _ => by cases m
  | _ :: _, [], _, _, _, _, _, _, _, m, _ => by cases m
  | t :: ts, d :: ds, _, ρ, ρ', σ, Q, r, e, m, k => by
    cases r with
    | cons r1 r2 =>
      have m : (mG t d ρ).bind (fun ρ' => mGs ts ds ρ') = some ρ' := m
      cases q : mG t d ρ with
      | none => rw [q] at m; cases m
      | some ρ1 =>
        rw [q] at m
        refine ⟨_, _, rfl, gT_ok t r1 e q fun σ1 e1 w1 => gTs_ok ts r2 e1 m fun σ2 e2 w2 => k σ2 e2 fun us h => ?_⟩
        rw [w2 us fun i hi => h i (by simp [slts, hi]), w1 us fun i hi => h i (by simp [slts, hi])]
end
end

/-! ### what is walked: a list of data -/
def IsW (K : PySem.W.Frag) (mg : Mg) (F0 : Addr → Prop) (J : It) (ds : List D) (μ0 : Mu) (H0 : Hp) : Prop :=
  ds.length ≤ sizeLine ∧ ∃ G Y, Walk J ds.length G Y ∧ (∀ μ H, Stp μ0 H0 μ H → G H) ∧ ∀ i H x H' μ h (F' : Addr → Prop), (∀ a o, H0 a = some o → F' a → F0 a) → i < ds.length → Stp μ0 H0 μ H → Rl K mg F' μ h H → Y i H x H' →
    (H' = H ∨ ∃ p u, H p = none ∧ H' = upd H p u) ∧ ∃ d, ds[i]? = some d ∧ RepD K mg (Av F' μ) H' d x
def xI (X : Cx) (E : Option XK) (m : Env → M (List D)) : TI := fun σ H Rr => ∃ F0 μ ρ h, Rl X.K X.mg F0 μ h H ∧ EnvR X.K X.mg F0 μ H ρ σ ∧
  Post X.K X.mg F0 E μ H (fun ds _ μ' H' => ∀ J, IsW X.K X.mg F0 J ds μ' H' → Rr J H') (m ρ h)
theorem go_step {K : PySem.W.Frag} {mg : Mg} {F0 : Addr → Prop} {μ : Mu} {h : List O} {H H' : Hp} (e : H' = H ∨ ∃ p u, H p = none ∧ H' = upd H p u) (r : Rl K mg F0 μ h H) : Stp μ H μ H' ∧ Rl K mg F0 μ h H' := by
  rcases e with rfl | ⟨p, u, hp, rfl⟩
  · exact ⟨.refl _ _, r⟩
  · exact ⟨.fresh hp, r.fresh hp⟩

/-! ### for -/
def mForL (g : Tg) (b : Env → M Fl) : List D → Env → M Fl
  | [], ρ => pu (.nx ρ)
  | d :: ds, ρ => bd (oM (mG g d ρ)) fun ρ1 => bd (b ρ1) fun f => match f with
    | .nx ρ2 => mForL g b ds ρ2
    | .ct ρ2 => mForL g b ds ρ2
    | .bk ρ2 => pu (.nx ρ2)
    | .rt w => pu (.rt w)
def mFor (src : Env → M (List D)) (g : Tg) (b : Env → M Fl) : Env → M Fl := fun ρ => bd (src ρ) fun ds => mForL g b ds ρ
section
variable {X : Cx} {E : Option XK} {tg iter : Expr} {body : List Stmt} {src : Env → M (List D)} {g : Tg} {b : Env → M Fl} {pos : Pos}
theorem dsFor (hp : PassesOwn (model X.prog X.w) X.A X.env X.xe) (hc : X.calm = true) (hi : PI X tg iter (xI X E src)) (hg : PG X tg (gT X.K g)) (hb : PSs X body (xS X E b)) (hs : ∀ x, foldedSetIterable iter X.env x = pure x := by intro _; rfl) :
    PS X (.For tg iter body [] pos) (xS X E (mFor src g b)) := (ps_for hp hc hi hg hb hs).to fun Dd σ H ⟨F0, μ0, ρ0, h0, rl0, en0, p0⟩ => by
  refine ⟨F0, μ0, ρ0, h0, rl0, en0, (Post.bd p0).imp fun ds h1 μ1 H1 s1 rl1 p1 J hJ => ?_⟩
  obtain ⟨hz, G, Y, wk, hG, hY⟩ := hJ
  refine ⟨fun i m σ H => m = ds.length - i ∧ i ≤ ds.length ∧ ∃ μ ρ h, Stp μ1 H1 μ H ∧ Rl X.K X.mg F0 μ h H ∧ EnvR X.K X.mg F0 μ H ρ σ ∧ Post X.K X.mg F0 E μ H (QF X.K X.mg F0 Dd) (mForL g b (ds.drop i) ρ h),
    ⟨ds.length, rfl, Nat.zero_le _, μ1, ρ0, h1, .refl _ _, rl1, en0.step s1, p1⟩, ?_⟩
  rintro i m σ H ⟨rfl, hi, μ, ρ, h, st, rl, en, p⟩
  by_cases hlt : i < ds.length
  · refine .inr ⟨wk.goes i H hlt (hG μ H st), fun σ' H' => ∃ μ ρ h, Stp μ1 H1 μ H' ∧ Rl X.K X.mg F0 μ h H' ∧ EnvR X.K X.mg F0 μ H' ρ σ' ∧ Post X.K X.mg F0 E μ H' (QF X.K X.mg F0 Dd) (mForL g b (ds.drop (i + 1)) ρ h),
      fun σ' H' q => ⟨ds.length - (i + 1), by omega, rfl, hlt, q⟩, fun x H' y => ?_⟩
    obtain ⟨hH, d, hd, rd⟩ := hY i H x H' μ h F0 (fun _ _ _ z => z) hlt st rl (wk.yields i H x H' hlt (hG μ H st) y)
    obtain ⟨st', rl'⟩ := go_step hH rl
    have ed : ds.drop i = d :: ds.drop (i + 1) := by
      rw [List.drop_eq_getElem_cons hlt]
      rw [List.getElem?_eq_getElem hlt] at hd
      rw [Option.some.inj hd]
    rw [ed] at p
    obtain ⟨ρ1, hm, p⟩ := oM_ok (Post.bd (Post.mono p st'))
    have p := p μ H' (.refl _ _) rl'
    refine gT_ok g rd (en.step st') hm fun σ' en' _ => ?_
    refine ⟨F0, μ, ρ1, h, rl', en', (Post.bd p).imp fun f h2 μ2 H2 s2 rl2 p2 => ?_⟩
    have st2 := (st.trans st').trans s2
    cases f with
    | nx ρ2 => exact fun σ2 en2 => ⟨μ2, ρ2, h2, st2, rl2, en2, p2⟩
    | ct ρ2 => exact fun σ2 en2 => ⟨μ2, ρ2, h2, st2, rl2, en2, p2⟩
    | bk ρ2 => exact p2 μ2 H2 (.refl _ _) rl2
    | rt w => exact p2 μ2 H2 (.refl _ _) rl2
  · have e : i = ds.length := by omega
    subst e
    rw [List.drop_length] at p
    exact .inl ⟨wk.stops H (hG μ H st), p μ H (.refl _ _) rl σ en⟩

/-! ### while -/
def mWhileN (t : Env → M Bool) (b : Env → M Fl) : Nat → Env → M Fl
  | 0, _ => stk
  | k + 1, ρ => bd (t ρ) fun c => if c = true then bd (b ρ) fun f => match f with
      | .nx ρ2 => mWhileN t b k ρ2
      | .ct ρ2 => mWhileN t b k ρ2
      | .bk ρ2 => pu (.nx ρ2)
      | .rt w => pu (.rt w)
    else pu (.nx ρ)
def mWhile (k : Nat) (t : Env → M Bool) (b : Env → M Fl) : Env → M Fl := fun ρ => mWhileN t b k ρ
theorem dsWhile {c : Expr} {t : Env → M Bool} (k : Nat) (hp : PassesOwn (model X.prog X.w) X.A X.env X.xe) (hc : PT X c (xT X E t)) (hb : PSs X body (xS X E b)) : PS X (.While c body [] pos) (xS X E (mWhile k t b)) := (ps_while hp hc hb).to fun Dd σ H ⟨F0, μ0, ρ0, h0, rl0, en0, p0⟩ => by
  refine ⟨fun m σ H => ∃ μ ρ h, Rl X.K X.mg F0 μ h H ∧ EnvR X.K X.mg F0 μ H ρ σ ∧ Post X.K X.mg F0 E μ H (QF X.K X.mg F0 Dd) (mWhileN t b m ρ h), ⟨k, μ0, ρ0, h0, rl0, en0, p0⟩, ?_⟩
  rintro m σ H ⟨μ, ρ, h, rl, en, p⟩
  cases m with
  | zero => exact p.elim
  | succ m =>
    refine ⟨F0, μ, ρ, h, rl, en, (Post.bd p).imp fun c h1 μ1 H1 s1 rl1 p1 => ?_⟩
    cases c with
    | false => exact p1 μ1 H1 (.refl _ _) rl1 σ (en.step s1)
    | true =>
      refine ⟨fun σ' H' => ∃ μ ρ h, Rl X.K X.mg F0 μ h H' ∧ EnvR X.K X.mg F0 μ H' ρ σ' ∧ Post X.K X.mg F0 E μ H' (QF X.K X.mg F0 Dd) (mWhileN t b m ρ h), fun σ' H' q => ⟨m, Nat.lt_succ_self _, q⟩, ?_⟩
      refine ⟨F0, μ1, ρ, h1, rl1, en.step s1, (Post.bd p1).imp fun f h2 μ2 H2 s2 rl2 p2 => ?_⟩
      cases f with
      | nx ρ2 => exact fun σ2 en2 => ⟨μ2, ρ2, h2, rl2, en2, p2⟩
      | ct ρ2 => exact fun σ2 en2 => ⟨μ2, ρ2, h2, rl2, en2, p2⟩
      | bk ρ2 => exact p2 μ2 H2 (.refl _ _) rl2
      | rt w => exact p2 μ2 H2 (.refl _ _) rl2
end

/-! ### an object kept from the others -/
section
variable {K : PySem.W.Frag} {mg : Mg} {F0 : Addr → Prop} {μ μ' : Mu} {H H' : Hp} {h : List O} {p : Addr}
def Pro (F0 : Addr → Prop) (p : Addr) : Addr → Prop := fun a => F0 a ∨ a = p
theorem ObjR.mono {F1 : Addr → Prop} (e : ∀ a o, Av F0 μ a → H a = some o → Av F1 μ a ∧ H' a = some o) {a : Addr} (ea : H' a = H a) : ∀ {o : O}, ObjR K mg F0 μ H o a → ObjR K mg F1 μ H' o a := by
  have ew : ∀ {w : W} {v : V}, RepW K mg F0 μ H w v → RepW K mg F1 μ H' w v := fun {w v} r => by
    cases w with
    | d x => exact RepD.mono e r
    | ref n => exact r
  have ews : ∀ {w : List W} {v : List V}, RepWs K mg F0 μ H w v → RepWs K mg F1 μ H' w v := fun {w v} r => by
    induction r with
    | nil => exact .nil
    | cons r _ ih => exact .cons (ew r) ih
  have ewk : ∀ {κ : Type} {w : List (κ × W)} {v : List (κ × V)}, RepWK K mg F0 μ H w v → RepWK K mg F1 μ H' w v := fun {κ w v} r => by
    induction r with
    | nil => exact .nil
    | cons r _ ih => exact .cons (ew r) ih
  intro o r
  cases o with
  | lst _ => obtain ⟨vs, h1, h2⟩ := r; exact ⟨vs, ea.trans h1, ews h2⟩
  | dic _ => obtain ⟨vs, h1, h2⟩ := r; exact ⟨vs, ea.trans h1, ewk h2⟩
  | ins _ _ => obtain ⟨C, dx, vs, h0, h1, h2⟩ := r; exact ⟨C, dx, vs, h0, ea.trans h1, ewk h2⟩
  | dead => exact r.elim
theorem Av.un {a : Addr} (v : Av (Pro F0 p) μ a) : Av F0 μ a ∧ a ≠ p := ⟨⟨fun z => v.1 (.inl z), v.2⟩, fun z => v.1 (.inr z)⟩
theorem Rl.protect (r : Rl K mg F0 μ h H) (e : H p = none) (o : HO) : Rl K mg (Pro F0 p) μ h (upd H p o) := by
  refine ⟨r.len, r.nd, fun a z => ?_, fun n a x q z => ?_, r.dd⟩
  · rcases z with z | rfl
    · obtain ⟨⟨u, q⟩, k⟩ := r.f0 a z
      exact ⟨⟨u, by rw [upd_ne (ne_of_none q e)]; exact q⟩, k⟩
    · exact ⟨⟨o, upd_same⟩, r.nfree e⟩
  · obtain ⟨_, _, _, u, q2⟩ := r.there q
    refine (r.ob n a x q z).mono (fun b w v eb => ?_) (upd_ne (ne_of_none q2 e))
    have ne := ne_of_none eb e
    exact ⟨⟨fun z => z.elim v.1 ne, v.2⟩, by rw [upd_ne ne]; exact eb⟩
theorem Rl.rewrite (r : Rl K mg (Pro F0 p) μ h H) (o : HO) : Rl K mg (Pro F0 p) μ h (upd H p o) := by
  refine ⟨r.len, r.nd, fun a z => ?_, fun n a x q z => ?_, r.dd⟩
  · obtain ⟨⟨u, q⟩, k⟩ := r.f0 a z
    by_cases ha : a = p
    · subst ha; exact ⟨⟨o, upd_same⟩, k⟩
    · exact ⟨⟨u, by rw [upd_ne ha]; exact q⟩, k⟩
  · have ne : a ≠ p := fun z => (r.f0 p (.inr rfl)).2 n (by rw [← z]; exact q)
    refine (r.ob n a x q z).mono (fun b w v eb => ⟨v, by rw [upd_ne v.un.2]; exact eb⟩) (upd_ne ne)
theorem Rl.unprotect (r : Rl K mg (Pro F0 p) μ h H) : Rl K mg F0 μ h H :=
  ⟨r.len, r.nd, fun a z => r.f0 a (.inl z), fun n a x q z => (r.ob n a x q z).mono (fun b w v eb => ⟨v.un.1, eb⟩) rfl, r.dd⟩
theorem Stp.over (s : Stp μ H μ' H') (e : H p = none) (o : HO) : Stp μ H μ' (upd H' p o) :=
  ⟨s.len, s.old, s.new, fun b u q n => by rw [upd_ne (ne_of_none q e)]; exact s.kp b u q n, fun b u q => by
    obtain ⟨w, z⟩ := s.trk b u q
    exact ⟨w, by rw [upd_ne (ne_of_none q e)]; exact z⟩⟩
theorem Post.prot {α : Type} {E : Option XK} {P : α → List O → Mu → Hp → Prop} {r : R α} (q : Post K mg F0 E μ H P r) : Post K mg (Pro F0 p) E μ H P r := by
  cases r with
  | ok a h' => exact fun μ' H' s rl => q μ' H' s rl.unprotect
  | ex e h' =>
    cases E with
    | none => exact q
    | some X => exact fun μ' H' c dx s rl ⟨n, fs, h1, h2, h3⟩ => q μ' H' c dx s rl.unprotect ⟨n, fs, h1, h2, by
        cases dx with
        | none => exact h3
        | some x =>
          obtain ⟨fvs, g1, g2⟩ := h3
          exact ⟨fvs, g1, g2.mono fun a o v e => ⟨v.un.1, e⟩⟩⟩
  | st => exact q
theorem RepW.prot (e : H p = none) (o : HO) {w : W} {v : V} (r : RepW K mg F0 μ H w v) : RepW K mg (Pro F0 p) μ (upd H p o) w v := by
  cases w with
  | d x =>
    refine RepD.mono (fun b u va eb => ?_) r
    have ne := ne_of_none eb e
    exact ⟨⟨fun z => z.elim va.1 ne, va.2⟩, by rw [upd_ne ne]; exact eb⟩
  | ref n => exact r
theorem EnvR.prot (e : H p = none) (o : HO) {ρ : Env} {σ : St} (r : EnvR K mg F0 μ H ρ σ) : EnvR K mg (Pro F0 p) μ (upd H p o) ρ σ :=
  ⟨r.1, fun i w q => let ⟨v, h1, h2⟩ := r.2 i w q; ⟨v, h1, h2.prot e o⟩⟩
theorem RepW.rew (o : HO) {w : W} {v : V} (r : RepW K mg (Pro F0 p) μ H w v) : RepW K mg (Pro F0 p) μ (upd H p o) w v := by
  cases w with
  | d x => exact RepD.mono (fun b u va eb => ⟨va, by rw [upd_ne va.un.2]; exact eb⟩) r
  | ref n => exact r
theorem RepL.rew (o : HO) {w : List D} {v : List V} (r : RepL K mg (Av (Pro F0 p) μ) H w v) : RepL K mg (Av (Pro F0 p) μ) (upd H p o) w v :=
  RepL.mono (fun b u va eb => ⟨va, by rw [upd_ne va.un.2]; exact eb⟩) r
theorem EnvR.rew (o : HO) {ρ : Env} {σ : St} (r : EnvR K mg (Pro F0 p) μ H ρ σ) : EnvR K mg (Pro F0 p) μ (upd H p o) ρ σ :=
  ⟨r.1, fun i w q => let ⟨v, h1, h2⟩ := r.2 i w q; ⟨v, h1, h2.rew o⟩⟩
end

/-! ### comprehensions -/
/-- nothing is raised -/
def nox {α : Type} (m : M α) : M α := fun h => match m h with
  | .ok a h' => .ok a h'
  | _ => .st
theorem Post.nox {α : Type} {K : PySem.W.Frag} {mg : Mg} {F0 : Addr → Prop} {E : Option XK} {μ : Mu} {H : Hp} {h : List O} {P : α → List O → Mu → Hp → Prop} {m : M α} (p : Post K mg F0 E μ H P (DD.nox m h)) : Post K mg F0 none μ H P (m h) := by
  have e : DD.nox m h = (match m h with | .ok a h' => .ok a h' | _ => .st) := rfl
  rw [e] at p
  cases q : m h with
  | ok a h' => rw [q] at p; exact p
  | ex x h' => rw [q] at p; exact p.elim
  | st => rw [q] at p; exact p.elim
theorem nox_pu {α : Type} (a : α) : nox (pu a) = pu a := rfl
def asD : W → M D
  | .d x => pu x
  | .ref _ => stk
/-- the elements: data -/
def mLcL (vs : List Nat) (g : Tg) (t : Env → M Bool) (e : Env → M W) (ρ : Env) : List D → M (List D)
  | [] => pu []
  | d :: ds => bd (oM (mG g d (wipeE ρ vs))) fun ρ1 => bd (t ρ1) fun k => if k = true then bd (e ρ1) fun w => bd (asD w) fun x => bd (mLcL vs g t e ρ ds) fun r => pu (x :: r) else mLcL vs g t e ρ ds
def mLc (src : Env → M (List D)) (vs : List Nat) (g : Tg) (t : Env → M Bool) (e : Env → M W) : Env → M W := fun ρ => bd (src ρ) fun ds => nox (bd (mLcL vs g t e ρ ds) fun l => pu (.d (.lst l)))
def mYes : Env → M Bool := fun _ => pu true
theorem asD_ok {α : Type} {K : PySem.W.Frag} {mg : Mg} {F0 : Addr → Prop} {E : Option XK} {μ : Mu} {H : Hp} {h : List O} {P : α → List O → Mu → Hp → Prop} {w : W} {f : D → M α} (p : Post K mg F0 E μ H P (bd (asD w) f h)) : ∃ x, w = .d x ∧ Post K mg F0 E μ H P (f x h) := by
  cases w with
  | d x => exact ⟨x, rfl, p⟩
  | ref n => exact p.elim
section
variable {X : Cx} {E : Option XK}
/-- .. the rest is wanted from where one stood -/
theorem Post.bd1 {α β : Type} {K : PySem.W.Frag} {mg : Mg} {F0 : Addr → Prop} {E : Option XK} {μ : Mu} {H : Hp} {h : List O} {P : β → List O → Mu → Hp → Prop} {m : M α} {f : α → M β} (p : Post K mg F0 E μ H P (DD.bd m f h)) : Post K mg F0 E μ H (fun a h1 _ _ => Post K mg F0 E μ H P (f a h1)) (m h) := by
  have e : DD.bd m f h = (match m h with | .ok a h' => f a h' | .ex e h' => .ex e h' | .st => .st) := rfl
  rw [e] at p
  cases q : m h with
  | ok a h' =>
    rw [q] at p
    exact fun μ' H' s r => p
  | ex x h' =>
    rw [q] at p
    exact p
  | st =>
    rw [q] at p
    exact p
theorem drop_at {ds : List D} {i : Nat} {d : D} (hd : ds[i]? = some d) : ds.drop i = d :: ds.drop (i + 1) := by
  have hlt := (List.getElem?_eq_some_iff.mp hd).1
  rw [List.drop_eq_getElem_cons hlt]
  rw [List.getElem?_eq_getElem hlt] at hd
  rw [Option.some.inj hd]
theorem lcD {src : Env → M (List D)} {g : Tg} {t : Env → M Bool} {e : Env → M W} {vs : List Nat} {tt : TT} {te : TE} (hv : ∀ i ∈ slt g, i ∈ vs) (htt : ∀ σ H Q, tT X.K X.mg none t σ H Q → tt σ H Q) (hte : ∀ σ H Q, tE X.K X.mg none e σ H Q → te σ H Q) (σ : St) (H : Hp) (Q : VK)
    (q : xE X E (mLc src vs g t e) σ H Q) : tLc (xI X E src) (gT X.K g) tt te vs σ H Q := by
  obtain ⟨F0, μ0, ρ0, h0, rl0, en0, p0⟩ := q
  refine ⟨F0, μ0, ρ0, h0, rl0, en0, (Post.bd p0).imp fun ds h1 μ1 H1 s1 rl1 p1 J hJ => ?_⟩
  obtain ⟨hz, G, Y, wk, hG, hY⟩ := hJ
  have en1 := en0.step s1
  have p1 := Post.nox p1
  intro Dl hD
  have nD : ∀ {μ h H}, Rl X.K X.mg (Pro F0 Dl) μ h H → ∀ n : Nat, μ[n]? ≠ some (some Dl) := fun r => (r.f0 Dl (.inr rfl)).2
  refine ⟨fun i m H => m = ds.length - i ∧ i ≤ ds.length ∧ ∃ μ h ls vs', Stp μ1 H1 μ H ∧ Rl X.K X.mg (Pro F0 Dl) μ h H ∧ EnvR X.K X.mg (Pro F0 Dl) μ H ρ0 σ ∧ H Dl = some (.lst vs') ∧ RepL X.K X.mg (Av (Pro F0 Dl) μ) H ls vs' ∧ vs'.length ≤ i ∧
      Post X.K X.mg F0 none μ1 H1 (QW X.K X.mg F0 Q) (bd (mLcL vs g t e ρ0 (ds.drop i)) (fun l => pu (.d (.lst (ls ++ l)))) h),
    ⟨ds.length, rfl, Nat.zero_le _, μ1, h1, [], [], (Stp.refl _ _).over hD _, rl1.protect hD _, en1.prot hD _, upd_same, .nil, Nat.zero_le _, p1⟩, ?_⟩
  rintro i m H ⟨rfl, hi, μ, h, ls, vs', st, rl, en, hl, rd, hn, p⟩
  by_cases hlt : i < ds.length
  · refine .inr ⟨wk.goes i H hlt (hG μ H st), fun H => ∃ μ h ls vs', Stp μ1 H1 μ H ∧ Rl X.K X.mg (Pro F0 Dl) μ h H ∧ EnvR X.K X.mg (Pro F0 Dl) μ H ρ0 σ ∧ H Dl = some (.lst vs') ∧ RepL X.K X.mg (Av (Pro F0 Dl) μ) H ls vs' ∧ vs'.length ≤ i + 1 ∧
      Post X.K X.mg F0 none μ1 H1 (QW X.K X.mg F0 Q) (bd (mLcL vs g t e ρ0 (ds.drop (i + 1))) (fun l => pu (.d (.lst (ls ++ l)))) h), fun H' q => ⟨ds.length - (i + 1), by omega, rfl, hlt, q⟩, fun x H' y => ?_⟩
    obtain ⟨hH, d, hd, rx⟩ := hY i H x H' μ h (Pro F0 Dl) (fun a o ha z => z.elim id fun z => by rw [z, hD] at ha; cases ha) hlt st rl (wk.yields i H x H' hlt (hG μ H st) y)
    obtain ⟨st', rl'⟩ := go_step hH rl
    rw [drop_at hd] at p
    have z : bd (mLcL vs g t e ρ0 (d :: ds.drop (i + 1))) (fun l => pu (W.d (.lst (ls ++ l)))) = bd (oM (mG g d (wipeE ρ0 vs))) (fun ρ1 => bd (t ρ1) fun k => bd (if k = true then bd (e ρ1) fun w => bd (asD w) fun x => bd (mLcL vs g t e ρ0 (ds.drop (i + 1))) fun r => pu (x :: r) else mLcL vs g t e ρ0 (ds.drop (i + 1))) fun l => pu (.d (.lst (ls ++ l)))) := by
      show bd (bd (oM (mG g d (wipeE ρ0 vs))) fun ρ1 => bd (t ρ1) fun k => if k = true then bd (e ρ1) fun w => bd (asD w) fun x => bd (mLcL vs g t e ρ0 (ds.drop (i + 1))) fun r => pu (x :: r) else mLcL vs g t e ρ0 (ds.drop (i + 1))) (fun l => pu (W.d (.lst (ls ++ l)))) = _
      rw [bd_bd]
      congr 1
      funext ρ1
      rw [bd_bd]
    rw [z] at p
    obtain ⟨ρ1, hm, p⟩ := oM_ok (Post.bd1 p)
    have p := p μ H' (st.trans st') rl'.unprotect
    refine gT_ok g rx ((en.step st').wipe vs) hm fun σ' en' we => ⟨?_, ?_⟩
    · rw [we vs hv, wipe_idem]
    · refine htt _ _ _ ⟨Pro F0 Dl, μ, ρ1, h, rl', en', (Post.prot (Post.mono (Post.bd1 p) (st.trans st'))).imp fun k h3 μ3 H3 s3 rl3 p3 => ?_⟩
      have st3 := (st.trans st').trans s3
      have hl3 : H3 Dl = some (.lst vs') := s3.kp _ _ (st'.kp _ _ hl (nD rl)) (nD rl')
      cases k with
      | false => exact ⟨μ3, h3, ls, vs', st3, rl3, (en.step st').step s3, hl3, (rd.step st').step s3, Nat.le_succ_of_le hn, p3⟩
      | true =>
        have p3 : Post X.K X.mg F0 none μ1 H1 (QW X.K X.mg F0 Q) (bd (bd (e ρ1) fun w => bd (asD w) fun x => bd (mLcL vs g t e ρ0 (ds.drop (i + 1))) fun r => pu (x :: r)) (fun l => pu (W.d (.lst (ls ++ l)))) h3) := p3
        rw [bd_bd] at p3
        refine hte _ _ _ ⟨Pro F0 Dl, μ3, ρ1, h3, rl3, en'.step s3, (Post.prot (Post.mono (Post.bd1 p3) st3)).imp fun w h4 μ4 H4 s4 rl4 p4 v r => ?_⟩
        rw [bd_bd] at p4
        obtain ⟨y, rfl, p5⟩ := asD_ok p4
        rw [bd_bd] at p5
        have hl4 : H4 Dl = some (.lst vs') := s4.kp _ _ hl3 (nD rl3)
        refine ⟨vs', hl4, by omega, μ4, h4, ls ++ [y], vs' ++ [v], (st3.trans s4).over hD _, rl4.rewrite _, (((en.step st').step s3).step s4).rew _, upd_same, ((((rd.step st').step s3).step s4).append (.cons r .nil)).rew _, by rw [List.length_append, List.length_singleton]; omega, ?_⟩
        have z2 : (fun r => bd (pu (y :: r)) fun l => pu (W.d (.lst (ls ++ l)))) = fun l => pu (W.d (.lst (ls ++ [y] ++ l))) := by
          funext r
          rw [bd_pu, List.append_assoc]
          rfl
        rw [z2] at p5
        exact p5
  · have e : i = ds.length := by omega
    subst e
    rw [List.drop_length] at p
    refine .inl ⟨wk.stops H (hG μ H st), ?_⟩
    have p : Post X.K X.mg F0 none μ1 H1 (QW X.K X.mg F0 Q) (pu (.d (.lst (ls ++ []))) h) := p
    rw [List.append_nil] at p
    refine p μ H st rl.unprotect (.ref Dl) ?_
    have av : Av F0 μ Dl := by
      refine ⟨fun z => ?_, nD rl⟩
      obtain ⟨⟨o, q⟩, _⟩ := rl1.f0 Dl z
      rw [hD] at q
      cases q
    exact RepD.lst av hl (rd.mono fun a o v z => ⟨v.un.1, z⟩)
/-- [e for tg in iter if t], of data -/
theorem dLc {elt tg iter : Expr} {ifs : List Expr} {scope : Scope} {own : List (Str × Nat)} {pos : Pos} {src : Env → M (List D)} {g : Tg} {t : Env → M Bool} {e : Env → M W} (hc : X.calm = true) (hN : X.N.Nodup) (hi : PI X tg iter (xI X E src)) (ok : BlkOk X.N X.env.scope scope own)
    (hg : ∀ (s : Shared) (H : Hp) (C : Addr) (cl : List (Str × Addr)) (fp : List Addr), PG (X.blk s H scope (compEnvC scope cl C X.env) fp) tg (gT X.K g)) (ht : ∀ (s : Shared) (H : Hp) (C : Addr) (cl : List (Str × Addr)) (fp : List Addr), PTs (X.blk s H scope (compEnvC scope cl C X.env) fp) ifs (tT X.K X.mg none t))
    (he : ∀ (s : Shared) (H : Hp) (C : Addr) (cl : List (Str × Addr)) (fp : List Addr), PE (X.blk s H scope (compEnvC scope cl C X.env) fp) elt (tE X.K X.mg none e)) (hv : ∀ i ∈ slt g, i ∈ own.map (·.2) := by decide) (hs : ∀ x, foldedSetIterable iter X.env x = pure x := by intro _; rfl) :
    PE X (.ListComp elt [⟨tg, iter, ifs, 0⟩] scope pos) (xE X E (mLc src (own.map (·.2)) g t e)) :=
  (pe_lc hc hN hi ok hg ht he hs).to (lcD hv (fun _ _ _ q => q) fun _ _ _ q => q)
theorem dsSetLc {i : Nat} {y : Str} {py : Pos} {elt tg iter : Expr} {ifs : List Expr} {scope : Scope} {own : List (Str × Nat)} {pos spos : Pos} {src : Env → M (List D)} {g : Tg} {t : Env → M Bool} {e : Env → M W} (hc : X.calm = true) (hN : X.N.Nodup) (hy : X.N[i]? = some y) (hyl : X.env.scope.names.lookup y = some .local)
    (hsw : swapsWith (.ListComp elt [⟨tg, iter, ifs, 0⟩] scope pos) (some (.Name y py)) spos.line X.env = pure true) (hi : PI X tg iter (xI X E src)) (ok : BlkOk X.N X.env.scope scope own)
    (hg : ∀ (s : Shared) (H : Hp) (C : Addr) (cl : List (Str × Addr)) (fp : List Addr), PG (X.blk s H scope (compEnvC scope cl C X.env) fp) tg (gT X.K g)) (ht : ∀ (s : Shared) (H : Hp) (C : Addr) (cl : List (Str × Addr)) (fp : List Addr), PTs (X.blk s H scope (compEnvC scope cl C X.env) fp) ifs (tT X.K X.mg none t))
    (he : ∀ (s : Shared) (H : Hp) (C : Addr) (cl : List (Str × Addr)) (fp : List Addr), PE (X.blk s H scope (compEnvC scope cl C X.env) fp) elt (tE X.K X.mg none e)) (hv : ∀ i ∈ slt g, i ∈ own.map (·.2) := by decide) (hs : ∀ x, foldedSetIterable iter X.env x = pure x := by intro _; rfl) :
    PS X (.Assign [.Name y py] (.ListComp elt [⟨tg, iter, ifs, 0⟩] scope pos) spos) (xS X E (mSet i (mLc src (own.map (·.2)) g t e))) :=
  (ps_setLc hc hN hy hyl hsw hi ok hg ht he hs).to fun Dd σ H ⟨F0, μ, ρ, h, rl, en, p⟩ =>
    lcD hv (fun _ _ _ q => q) (fun _ _ _ q => q) σ H _ ⟨F0, μ, ρ, h, rl, en, (Post.bd p).imp fun x h1 μ1 H1 s1 rl1 p1 v r => p1 μ1 H1 (.refl _ _) rl1 _ ((en.step s1).set i r)⟩
theorem dtYes : PTs X [] (tT X.K X.mg none mYes) := ⟨fun pins s σ H Q I ⟨F0, μ, ρ, h, rl, en, p⟩ => pts_nil.run pins s σ H Q I (p μ H (.refl _ _) rl)⟩
theorem dgNm {i : Nat} {x : Str} {pos : Pos} (hN : X.N.Nodup) (hi : X.N[i]? = some x) (hx : Loc X.env.scope x) (hf : X.fn x = true ∨ X.env.scope.names.lookup x = some .local := by first | exact .inl rfl | exact .inr rfl | assumption) : PG X (.Name x pos) (gT X.K (.nm i)) := pg_name hN hi hx hf
theorem dgTp {es : List Expr} {k : Nat} {ts : List Tg} {pos : Pos} (hc : X.calm = true) (h : PGs X es (gTs X.K ts)) (hn : (assignEach es X.env).length = ts.length := by rfl) (hst : (assignEach es X.env).findIdx? (·.1) = none := by rfl) : PG X (.Tuple es k pos) (gT X.K (.tp ts)) := pg_tup hc h hn hst
theorem dgsNil : PGs X [] (gTs X.K []) := pgs_nil
theorem dgsCons {e : Expr} {es : List Expr} {t : Tg} {ts : List Tg} (h1 : PG X e (gT X.K t)) (h2 : PGs X es (gTs X.K ts)) (hs : (assignEach (e :: es) X.env).map (·.2) = assign e X.env :: (assignEach es X.env).map (·.2) := by rfl) : PGs X (e :: es) (gTs X.K (t :: ts)) := pgs_cons h1 h2 hs
/-- a, b = e, of a tuple of data -/
def mAsg (g : Tg) (m : Env → M W) : Env → M Fl := fun ρ => bd (m ρ) fun w => bd (asD w) fun d => bd (oM (mG g d ρ)) fun ρ' => pu (.nx ρ')
theorem dsAsg {tg e : Expr} {g : Tg} {m : Env → M W} {pos : Pos} (he : PE X e (xE X E m)) (hg : PG X tg (gT X.K g)) (hs : swapsWithSole [tg] e pos.line X.env = pure false := by rfl) (hw : swappedStores [tg] e X.env = pure none := by rfl)
    (h1 : (assignEach [tg] X.env).map (·.2) = [assign tg X.env] := by rfl) : PS X (.Assign [tg] e pos) (xS X E (mAsg g m)) := (ps_asg he hg hs hw h1).to fun Dd σ H ⟨F0, μ, ρ, h, rl, en, p⟩ =>
  ⟨F0, μ, ρ, h, rl, en, (Post.bd p).imp fun w h1 μ1 H1 s1 rl1 p1 v r => by
    obtain ⟨d, rfl, p1⟩ := asD_ok p1
    obtain ⟨ρ', hm, p1⟩ := oM_ok (Post.bd p1)
    exact gT_ok g r (en.step s1) hm fun σ' en' _ => p1 μ1 H1 (.refl _ _) rl1 μ1 H1 (.refl _ _) rl1 σ' en'⟩
/-- a, b = e1, e2 -/
def mPar (i j : Nat) (n : Env → M (List W)) : Env → M Fl := fun ρ => bd (n ρ) fun ws => match ws with
  | [v, w] => pu (.nx ((ρ.set i (some v)).set j (some w)))
  | _ => stk
theorem dsPar {i j : Nat} {x y : Str} {a b : Expr} {n : Env → M (List W)} {px py pt pos : Pos} {kt k2 pt2} (hc : X.calm = true) (hN : X.N.Nodup) (hi : X.N[i]? = some x) (hj : X.N[j]? = some y) (hij : i ≠ j)
    (hx : X.env.scope.names.lookup x = some .local) (hy : X.env.scope.names.lookup y = some .local) (ha : PA X [a, b] (xA X E n))
    (hw : swappedStores [.Tuple [.Name x px, .Name y py] kt pt] (.Tuple [a, b] k2 pt2) X.env = pure (some [x, y]) := by rfl)
    (hs : swapsWithSole [.Tuple [.Name x px, .Name y py] kt pt] (.Tuple [a, b] k2 pt2) pos.line X.env = pure false := by rfl) :
    PS X (.Assign [.Tuple [.Name x px, .Name y py] kt pt] (.Tuple [a, b] k2 pt2) pos) (xS X E (mPar i j n)) := (ps_par hc hN hi hj hij hx hy ha hw hs).to fun Dd σ H ⟨F0, μ, ρ, h, rl, en, p⟩ =>
  ⟨F0, μ, ρ, h, rl, en, (Post.bd p).imp fun ws h1 μ1 H1 s1 rl1 p1 vs rs => by
    cases rs with
    | nil => exact p1.elim
    | cons r rs =>
      cases rs with
      | nil => exact p1.elim
      | cons r2 rs =>
        cases rs with
        | cons _ _ => exact p1.elim
        | nil => exact ⟨_, _, rfl, p1 μ1 H1 (.refl _ _) rl1 _ (((en.step s1).set i r).set j r2)⟩⟩
end
end DD

set_option Elab.async false
set_option linter.all false
set_option maxRecDepth 100000
set_option maxHeartbeats 1000000
/-! DD4: defs, calls with all handles, with the first k handles, with none; what is given up. -/
namespace DD
open PySem L2

/-! ### a handle's object as data -/
def datasK {κ : Type} : List (κ × W) → Option (List (κ × D))
  | [] => some []
  | (k, .d x) :: r => (datasK r).map ((k, x) :: ·)
  | (_, .ref _) :: _ => none
def objD : O → Option D
  | .lst ws => (datas ws).map .lst
  | .dic ws => (datasK ws).map .dic
  | .ins c ws => (datasK ws).map (.ins c)
  | .dead => none
def view (h : List O) : W → Option D
  | .d x => some x
  | .ref n => (h[n]?).bind objD
section
variable {K : PySem.W.Frag} {mg : Mg} {F0 : Addr → Prop} {μ : Mu} {h : List O} {H : Hp} {A : Addr → Prop}
theorem RepD.sub {d : D} {v : V} (r : RepD K mg A H d v) : RepD K mg (fun _ => True) H d v := r.mono fun _ _ _ e => ⟨trivial, e⟩
theorem RepL.sub {d : List D} {v : List V} (r : RepL K mg A H d v) : RepL K mg (fun _ => True) H d v := r.mono fun _ _ _ e => ⟨trivial, e⟩
theorem datasK_repK : ∀ {ws : List (Key × W)} {l : List (Key × D)} {vs : List (Key × V)}, datasK ws = some l → RepWK K mg F0 μ H ws vs → RepK K mg (Av F0 μ) H l vs
  | [], _, _, e, r => by
    cases r
    cases e
    exact .nil
  | (k, .d x) :: ws, _, _, e, r => by
    cases r with
    | cons r q =>
      have e : (datasK ws).map ((k, x) :: ·) = some _ := e
      cases z : datasK ws with
      | none => rw [z] at e; cases e
      | some l =>
        rw [z] at e
        cases e
        exact .cons r (datasK_repK z q)
  | (_, .ref _) :: _, _, _, e, _ => by cases e
theorem datasK_repF : ∀ {ws : List (Str × W)} {l : List (Str × D)} {vs : List (Str × V)}, datasK ws = some l → RepWK K mg F0 μ H ws vs → RepF K mg (Av F0 μ) H l vs
  | [], _, _, e, r => by
    cases r
    cases e
    exact .nil
  | (k, .d x) :: ws, _, _, e, r => by
    cases r with
    | cons r q =>
      have e : (datasK ws).map ((k, x) :: ·) = some _ := e
      cases z : datasK ws with
      | none => rw [z] at e; cases e
      | some l =>
        rw [z] at e
        cases e
        exact .cons r (datasK_repF z q)
  | (_, .ref _) :: _, _, _, e, _ => by cases e
/-- a handle's object, told as data: A holds of its own address -/
theorem objD_rep {o : O} {d : D} {a : Addr} {B : Addr → Prop} (e : objD o = some d) (r : ObjR K mg F0 μ H o a) (ha : B a) (hB : ∀ b u, Av F0 μ b → H b = some u → B b) : RepD K mg B H d (.ref a) := by
  cases o with
  | lst ws =>
    obtain ⟨vs, h1, h2⟩ := r
    have e : (datas ws).map D.lst = some d := e
    cases z : datas ws with
    | none => rw [z] at e; cases e
    | some l =>
      rw [z] at e
      cases e
      exact .lst ha h1 ((datas_rep z h2).mono fun b u v q => ⟨hB b u v q, q⟩)
  | dic ws =>
    obtain ⟨vs, h1, h2⟩ := r
    have e : (datasK ws).map D.dic = some d := e
    cases z : datasK ws with
    | none => rw [z] at e; cases e
    | some l =>
      rw [z] at e
      cases e
      exact .dic ha h1 ((datasK_repK z h2).mono fun b u v q => ⟨hB b u v q, q⟩)
  | ins c ws =>
    obtain ⟨C, dx, vs, h0, h1, h2⟩ := r
    have e : (datasK ws).map (D.ins c) = some d := e
    cases z : datasK ws with
    | none => rw [z] at e; cases e
    | some l =>
      rw [z] at e
      cases e
      exact .ins ha h0 h1 ((datasK_repF z h2).mono fun b u v q => ⟨hB b u v q, q⟩)
  | dead => exact r.elim
/-- a handle that lives -/
theorem Rl.live (rl : Rl K mg F0 μ h H) {n : Nat} {o : O} {d : D} (e : h[n]? = some o) (q : objD o = some d) : ∃ a, μ[n]? = some (some a) ∧ ObjR K mg F0 μ H o a := by
  have hn : n < μ.length := by
    rw [rl.len]
    exact (List.getElem?_eq_some_iff.mp e).1
  cases z : μ[n]'hn with
  | none =>
    have := rl.dd n (by rw [List.getElem?_eq_getElem hn, z])
    rw [e] at this
    cases this
    cases q
  | some a =>
    have z' : μ[n]? = some (some a) := by rw [List.getElem?_eq_getElem hn, z]
    exact ⟨a, z', rl.ob n a o z' e⟩
theorem view_rep (rl : Rl K mg F0 μ h H) {w : W} {d : D} {v : V} (e : view h w = some d) (r : RepW K mg F0 μ H w v) : RepD K mg (fun _ => True) H d v := by
  cases w with
  | d x => cases e; exact RepD.sub r
  | ref n =>
    have e : (h[n]?).bind objD = some d := e
    cases z : h[n]? with
    | none => rw [z] at e; cases e
    | some o =>
      rw [z] at e
      obtain ⟨a, q1, q2⟩ := rl.live z e
      rw [r.2 a q1]
      exact objD_rep e q2 trivial fun _ _ _ _ => trivial
end

/-! ### a def's promise -/
/-- r: it may raise -/
def spM (K : PySem.W.Frag) (mg : Mg) (r : Bool) (n : Nat) (m : List W → M W) : Sp := fun vs H Q E => vs.length = n ∧ ∃ F0 μ h ws, Rl K mg F0 μ h H ∧ RepWs K mg F0 μ H ws vs ∧ Post K mg F0 (if r = true then some E else none) μ H (QW K mg F0 Q) (m ws h)
/-- N names, n of them parameters -/
def mFn (n N : Nat) (b : Env → M Fl) : List W → M W := fun ws => if ws.length = n then bd (b (ws.map some ++ List.replicate (N - n) none)) fun f => match f with
  | .nx _ => pu (.d .non)
  | .rt w => pu w
  | _ => stk
  else stk
theorem env_start {K : PySem.W.Frag} {mg : Mg} {F0 : Addr → Prop} {μ : Mu} {H : Hp} {N : List Str} {n : Nat} : ∀ {ws : List W} {vs : List V}, RepWs K mg F0 μ H ws vs → ws.length = n → EnvR K mg F0 μ H (ws.map some ++ List.replicate (N.length - n) none) (L2.start N vs) := by
  intro ws vs r hn
  have hl := r.length
  refine ⟨by unfold L2.start; rw [List.length_append, List.length_append, List.length_map, List.length_map, List.length_replicate, List.length_replicate]; omega, fun i w q => ?_⟩
  have hlt : i < ws.length := by
    by_cases h : i < ws.length
    · exact h
    · rw [List.getElem?_append_right (by rw [List.length_map]; omega), List.getElem?_replicate] at q
      split at q
      · cases q
      · cases q
  rw [List.getElem?_append_left (by rw [List.length_map]; exact hlt)] at q
  have get : ∀ {ws : List W} {vs : List V} {i : Nat} {w : W}, RepWs K mg F0 μ H ws vs → (ws.map some)[i]? = some (some w) → ∃ v, vs[i]? = some v ∧ RepW K mg F0 μ H w v := by
    intro ws vs i w r
    induction r generalizing i with
    | nil => intro q; simp at q
    | cons r _ ih =>
      intro q
      cases i with
      | zero => simp at q; subst q; exact ⟨_, rfl, r⟩
      | succ i =>
        obtain ⟨v, h1, h2⟩ := ih (i := i) (by simpa using q)
        exact ⟨v, by simpa using h1, h2⟩
  obtain ⟨v, h1, h2⟩ := get r q
  refine ⟨v, ?_, h2⟩
  unfold L2.start
  rw [List.getElem?_append_left (by rw [List.length_map, hl]; exact hlt), List.getElem?_map, h1]
  rfl
theorem mFn_len {n N : Nat} {b : Env → M Fl} {ws : List W} (h : ws.length ≠ n) : mFn n N b ws = stk := by
  unfold mFn
  rw [if_neg h]
section
variable {P : Program} {w : World} {K : PySem.W.Frag} {mg : Mg} {base : Heap}
/-- a body's reading, from the promise -/
theorem body_of {r : Bool} {N : List Str} {n : Nat} {b : Env → M Fl} {vs : List V} {H : Hp} {Q : VK} {E : XK} (q : spM K mg r n (mFn n N.length b) vs H Q E) : tS K mg (if r = true then some E else none) b { nx := fun _ H' => Q .non H', rt := Q } (L2.start N vs) H := by
  obtain ⟨hl, F0, μ, h, ws, rl, rs, p⟩ := q
  by_cases hw : ws.length = n
  · have e : mFn n N.length b ws = bd (b (ws.map some ++ List.replicate (N.length - n) none)) fun f => match f with
      | .nx _ => pu (.d .non)
      | .rt w => pu w
      | _ => stk := by
      unfold mFn
      rw [if_pos hw]
    rw [e] at p
    refine ⟨F0, μ, _, h, rl, env_start rs hw, (Post.bd p).imp fun f h1 μ1 H1 s1 rl1 p1 => ?_⟩
    cases f with
    | nx ρ => exact fun _ _ => p1 μ1 H1 (.refl _ _) rl1 .non RepD.non
    | rt w => exact fun v r => p1 μ1 H1 (.refl _ _) rl1 v r
    | bk ρ => exact p1.elim
    | ct ρ => exact p1.elim
  · rw [mFn_len hw] at p
    exact p.elim
/-- a def that raises nothing keeps the promise of its mirror (what runs around it shows nothing) -/
structure FnG (P : Program) (w : World) (K : PySem.W.Frag) (mg : Mg) (base : Heap) (k : Nat) (f : Addr) (fd : FuncData) (ps : List Str) (m : List W → M W) : Prop where
  run : ∀ (A : Around) (outer : List PySem.Env) (s : Shared) (H : Hp) (args : Args) (us : List Value) (vs : List V) (Q : VK), Room k A → A.guards = some [] → Env0 P w K mg base A outer s H → BindsTo s fd args (ps.zip us) → Vals vs us →
    spM K mg false ps.length m vs H Q E0 → codeAny (model P w) A (.call (.ref f) args) (CR CX0 outer P w H s Q E0) s
theorem FnG.mono {j k : Nat} {f : Addr} {fd : FuncData} {ps : List Str} {m : List W → M W} (F : FnG P w K mg base j f fd ps m) (h : j ≤ k) : FnG P w K mg base k f fd ps m :=
  ⟨fun A outer s H args us vs Q hr => F.run A outer s H args us vs Q (hr.mono h)⟩
/-- THE RULE: a def that raises nothing, by its body -/
theorem fnG {name qual : Str} {params : Arguments} {body : List Stmt} {scope : Scope} {dV kV doc pm cdv ct oc : Value} {an od : Option Addr} {osl : Array (Option Value)} {f : Addr} {N ps : List Str} {k : Nat} {b : Env → M Fl}
    (lk : K.lookup f = some ⟨oc, od, .func (PySem.W.fnOf name qual params body scope dV kV doc pm an cdv ct), osl⟩) (hcd : PySem.W.codeIn K cdv qual = true) (S : FnScope N ps scope)
    (hb : ∀ (A : Around) (outer : List PySem.Env) (s : Shared) (H : Hp) (E : XK), Room k (A.deeper (PyProof.Rows.envOfC qual scope s.heap.objs.size f cdv)) → A.guards = some [] → PSs (cxOf CX0 P w K mg base N qual scope f cdv A outer s H E).nox body (tS K mg none b)) :
    FnG P w K mg base (k + 1) f (PySem.W.fnOf name qual params body scope dV kV doc pm an cdv ct) ps (mFn ps.length N.length b) := by
  refine ⟨fun A outer s H args us vs Q hr hg e0 hb' r hsp => ?_⟩
  have hl : vs.length = ps.length := hsp.1
  have KX : K.In s.heap := e0.mod.kin.keeps fun b o e => (e0.bs b o e).1
  have lim : s.heap.NoLimit := e0.mod.nolimit.keeps fun b o e => (e0.bs b o e).1
  have hkind : ∀ y ∈ ps.zip us, scope.names.lookup y.1 = some .local ∨ (scope.names.lookup y.1 = some .cell ∧ ((cellsFrom (s.heap.objs.size + 1) scope.names []).lookup y.1).isSome = true) := fun ⟨n, v⟩ hy => by
    rcases S.par n (List.of_mem_zip hy).1 with q | q
    · exact .inl q
    · exact .inr ⟨q, PySem.W.cellsFrom_some _ _ _ (.inl q)⟩
  refine codeAny_call_function hr.depth (KX _ _ lk) rfl S.co S.gen rfl (PySem.W.codeRec_of KX hcd) (hb' _ _ _ _ ?_)
  refine wpAny_newFunctionEnv_cells S.kind hkind fun env he s1 x => ?_
  subst he
  refine ⟨lim.keeps x.toInCall.keep, codeAny_func ?_⟩
  have ht := (hb A outer s H E0 (hr.deeper _) hg).nox
  have I : Inv (cxOf CX0 P w K mg base N qual scope f cdv A outer s H E0) [] (L2.start N vs) H s1 := inv_start S hr.hd e0 hl r x
  refine wpAny_mono (ht.run [] s1 (L2.start N vs) H _ I (body_of hsp)) (fun fl s' hs => ?_) fun e s' hs => hs
  have fin : ∀ {σ' : St} {H' : Hp} {v : V} {u : Value}, Inv (cxOf CX0 P w K mg base N qual scope f cdv A outer s H E0) [] σ' H' s' → RelV v u → Q v H' → CE outer P w H s Q u s' :=
    fun {σ' H' v u} J rv q => ⟨v, H', J.os, J.bare, J.base, J.hok, rv, q⟩
  cases fl with
  | ret u =>
    obtain ⟨v, σ', H', J, rv, q⟩ := hs
    exact fin J rv q
  | next =>
    obtain ⟨σ', H', J, q⟩ := hs
    exact fin (v := V.non) (u := Value.none) J rfl q
  | brk =>
    obtain ⟨_, _, _, q⟩ := hs
    exact False.elim q
  | cont =>
    obtain ⟨_, _, _, q⟩ := hs
    exact False.elim q
theorem fnD {x qual : Str} {st : Stmt} {f : Addr} {fd : FuncData} {N ps : List Str} {k : Nat} {b : Env → M Fl} (F : Fun K x qual st f fd) (S : FnScope N ps (defScope st))
    (hb : ∀ (cdv : Value) (A : Around) (outer : List PySem.Env) (s : Shared) (H : Hp) (E : XK), Room k (A.deeper (PyProof.Rows.envOfC qual (defScope st) s.heap.objs.size f cdv)) → A.guards = some [] → PSs (cxOf CX0 P w K mg base N qual (defScope st) f cdv A outer s H E).nox (defBody st) (tS K mg none b)) :
    FnG P w K mg base (k + 1) f fd ps (mFn ps.length N.length b) := by
  obtain ⟨oc, od, kV, doc, pm, an, cdv, ct, osl, rfl, lk, hcd⟩ := F.ex
  exact fnG lk hcd S (hb cdv)
end

/-! ### calls -/
section
variable {X : Cx} {E : Option XK} {n : Env → M (List W)}
/-- all handles are lent -/
def mCall (m : List W → M W) (n : Env → M (List W)) : Env → M W := fun ρ => bd (n ρ) m
theorem callD {r : Bool} {k : Nat} {m : List W → M W} {E' : XK} (hE : (if r = true then some E' else none) = E) (hm : ∀ ws, ws.length ≠ k → m ws = stk) (σ : St) (H : Hp) (Q : VK) (q : xE X E (mCall m n) σ H Q) : tCall (spM X.K X.mg r k m) [] E' (xA X E n) σ H Q := by
  obtain ⟨F0, μ, ρ, h, rl, en, p⟩ := q
  refine ⟨F0, μ, ρ, h, rl, en, (Post.bd p).imp fun ws h1 μ1 H1 s1 rl1 p1 vs rs => ?_⟩
  show spM X.K X.mg r k m (vs ++ []) H1 Q E'
  rw [List.append_nil]
  by_cases hw : ws.length = k
  · refine ⟨by rw [rs.length]; exact hw, F0, μ1, h1, ws, rl1, rs, ?_⟩
    rw [hE]
    exact p1
  · rw [hm ws hw] at p1
    exact p1.elim

/-! ### the first k handles are lent -/
def clW (k : Nat) : W → Bool
  | .d _ => true
  | .ref n => decide (n < k)
def clO (k : Nat) : O → Bool
  | .lst ws => ws.all (clW k)
  | .dic ws => ws.all fun p => clW k p.2
  | .ins _ ws => ws.all fun p => clW k p.2
  | .dead => true
/-- what comes back: data, a lent handle, or a new object as data -/
def backW (k : Nat) (h' : List O) : W → Option W
  | .d x => some (.d x)
  | .ref n => if n < k then some (.ref n) else (view h' (.ref n)).map .d
def lendC (k : Nat) (m : List W → M W) (ws : List W) : M W := fun h =>
  if k ≤ h.length ∧ (h.take k).all (clO k) = true ∧ ws.all (clW k) = true then match m ws (h.take k) with
    | .ok w h' => if (h'.take k).all (clO k) = true then match backW k h' w with
        | some w' => .ok w' (h'.take k ++ h.drop k)
        | none => .st
      else .st
    | .ex e h' => if (h'.take k).all (clO k) = true then .ex e (h'.take k ++ h.drop k) else .st
    | .st => .st
  else .st
def mLend (k : Nat) (m : List W → M W) (n : Env → M (List W)) : Env → M W := fun ρ => bd (n ρ) (lendC k m)
section
variable {K : PySem.W.Frag} {mg : Mg} {F0 : Addr → Prop} {μ μ' : Mu} {h h' : List O} {H H' : Hp} {k : Nat}
/-- what the callee has to keep away from -/
def Far (F0 : Addr → Prop) (μ : Mu) (k : Nat) : Addr → Prop := fun a => F0 a ∨ ∃ n : Nat, k ≤ n ∧ μ[n]? = some (some a)
theorem take_at {α : Type} {l : List α} {k n : Nat} {x : α} (e : (l.take k)[n]? = some x) : n < k ∧ l[n]? = some x := by
  rw [List.getElem?_take] at e
  split at e
  · rename_i hn; exact ⟨hn, e⟩
  · cases e
theorem at_take {α : Type} {l : List α} {k n : Nat} (hn : n < k) : (l.take k)[n]? = l[n]? := by
  rw [List.getElem?_take, if_pos hn]
theorem Av.far {a : Addr} (v : Av F0 μ a) : Av (Far F0 μ k) (μ.take k) a := ⟨fun z => z.elim v.1 fun ⟨n, _, q⟩ => v.2 n q, fun n q => v.2 n (take_at q).2⟩
theorem RepW.far {w : W} {v : V} (hk : k ≤ μ.length) (c : clW k w = true) (r : RepW K mg F0 μ H w v) : RepW K mg (Far F0 μ k) (μ.take k) H w v := by
  cases w with
  | d x => exact RepD.mono (fun a o v e => ⟨v.far, e⟩) r
  | ref n =>
    have hn : n < k := of_decide_eq_true c
    exact ⟨by rw [List.length_take]; omega, fun a q => r.2 a (take_at q).2⟩
theorem RepWs.far (hk : k ≤ μ.length) : ∀ {ws : List W} {vs : List V}, ws.all (clW k) = true → RepWs K mg F0 μ H ws vs → RepWs K mg (Far F0 μ k) (μ.take k) H ws vs
  | _, _, _, .nil => .nil
  | _, _, c, .cons r q => by
    rw [List.all_cons, Bool.and_eq_true] at c
    exact .cons (r.far hk c.1) (q.far hk c.2)
theorem RepWK.far {κ : Type} (hk : k ≤ μ.length) : ∀ {ws : List (κ × W)} {vs : List (κ × V)}, (ws.all fun p => clW k p.2) = true → RepWK K mg F0 μ H ws vs → RepWK K mg (Far F0 μ k) (μ.take k) H ws vs
  | _, _, _, .nil => .nil
  | _, _, c, .cons r q => by
    rw [List.all_cons, Bool.and_eq_true] at c
    exact .cons (r.far hk c.1) (q.far hk c.2)
theorem ObjR.far {o : O} {a : Addr} (hk : k ≤ μ.length) (c : clO k o = true) (r : ObjR K mg F0 μ H o a) : ObjR K mg (Far F0 μ k) (μ.take k) H o a := by
  cases o with
  | lst _ => obtain ⟨vs, h1, h2⟩ := r; exact ⟨vs, h1, h2.far hk c⟩
  | dic _ => obtain ⟨vs, h1, h2⟩ := r; exact ⟨vs, h1, h2.far hk c⟩
  | ins _ _ => obtain ⟨C, dx, vs, h0, h1, h2⟩ := r; exact ⟨C, dx, vs, h0, h1, h2.far hk c⟩
  | dead => exact r.elim
theorem Rl.far (rl : Rl K mg F0 μ h H) (hk : k ≤ h.length) (c : (h.take k).all (clO k) = true) : Rl K mg (Far F0 μ k) (μ.take k) (h.take k) H := by
  have hk' : k ≤ μ.length := by rw [rl.len]; exact hk
  refine ⟨by rw [List.length_take, List.length_take, rl.len], fun i j a z1 z2 => rl.nd i j a (take_at z1).2 (take_at z2).2, fun a z => ?_, fun n a o z1 z2 => ?_, fun n z => ?_⟩
  · rcases z with z | ⟨n, hn, q⟩
    · exact ⟨(rl.f0 a z).1, fun m q => (rl.f0 a z).2 m (take_at q).2⟩
    · obtain ⟨_, _, _, u⟩ := rl.there q
      exact ⟨u, fun m q2 => by have := rl.nd n m a q (take_at q2).2; have := (take_at q2).1; omega⟩
  · have cc : clO k o = true := List.all_eq_true.mp c o (List.mem_of_getElem? z2)
    exact (rl.ob n a o (take_at z1).2 (take_at z2).2).far hk' cc
  · have hn := take_at z
    rw [at_take hn.1]
    exact rl.dd n hn.2
/-- behind the call -/
structure Home (K : PySem.W.Frag) (mg : Mg) (F0 : Addr → Prop) (μ μ' : Mu) (h h' : List O) (H H' : Hp) (k : Nat) : Prop where
  st : Stp μ H (μ'.take k ++ μ.drop k) H'
  rl : Rl K mg F0 (μ'.take k ++ μ.drop k) (h'.take k ++ h.drop k) H'
  av : ∀ a, Av (Far F0 μ k) μ' a → Av F0 (μ'.take k ++ μ.drop k) a
  at1 : ∀ n, n < k → (μ'.take k ++ μ.drop k)[n]? = μ'[n]?
  len : (μ'.take k ++ μ.drop k).length = μ.length
theorem home (rl : Rl K mg F0 μ h H) (hk : k ≤ h.length) (s : Stp (μ.take k) H μ' H') (rl' : Rl K mg (Far F0 μ k) μ' h' H') (c : (h'.take k).all (clO k) = true) : Home K mg F0 μ μ' h h' H H' k := by
  have hkm : k ≤ μ.length := by rw [rl.len]; exact hk
  have lt : (μ.take k).length = k := by rw [List.length_take]; omega
  have hk2 : k ≤ μ'.length := by have := s.len; omega
  have hk3 : k ≤ h'.length := by rw [← rl'.len]; exact hk2
  have lt' : (μ'.take k).length = k := by rw [List.length_take]; omega
  have lth : (h'.take k).length = k := by rw [List.length_take]; omega
  have at1 : ∀ n, n < k → (μ'.take k ++ μ.drop k)[n]? = μ'[n]? := fun n hn => by rw [List.getElem?_append_left (by omega), at_take hn]
  have at2 : ∀ n, k ≤ n → (μ'.take k ++ μ.drop k)[n]? = μ[n]? := fun n hn => by
    rw [List.getElem?_append_right (by omega), lt', List.getElem?_drop]
    congr 1
    omega
  have ah1 : ∀ n, n < k → (h'.take k ++ h.drop k)[n]? = h'[n]? := fun n hn => by rw [List.getElem?_append_left (by omega), at_take hn]
  have ah2 : ∀ n, k ≤ n → (h'.take k ++ h.drop k)[n]? = h[n]? := fun n hn => by
    rw [List.getElem?_append_right (by omega), lth, List.getElem?_drop]
    congr 1
    omega
  have len : (μ'.take k ++ μ.drop k).length = μ.length := by rw [List.length_append, lt', List.length_drop]; omega
  -- an old handle's address
  have old : ∀ n a, n < k → μ'[n]? = some (some a) → μ[n]? = some (some a) := fun n a hn q => (take_at (s.old n a (by omega) q)).2
  have back : ∀ n a, (μ'.take k ++ μ.drop k)[n]? = some (some a) → μ[n]? = some (some a) := fun n a q => by
    by_cases hn : n < k
    · rw [at1 n hn] at q; exact old n a hn q
    · rw [at2 n (by omega)] at q; exact q
  have keep : ∀ b o, H b = some o → (∀ n : Nat, n < k → μ[n]? ≠ some (some b)) → H' b = some o := fun b o e q => s.kp b o e fun n z => q n (take_at z).1 (take_at z).2
  have av : ∀ a, Av (Far F0 μ k) μ' a → Av F0 (μ'.take k ++ μ.drop k) a := fun a v => ⟨fun z => v.1 (.inl z), fun n q => by
    by_cases hn : n < k
    · rw [at1 n hn] at q; exact v.2 n q
    · rw [at2 n (by omega)] at q; exact v.1 (.inr ⟨n, by omega, q⟩)⟩
  have avO : ∀ a o, Av F0 μ a → H a = some o → Av F0 (μ'.take k ++ μ.drop k) a ∧ H' a = some o := fun a o v e => ⟨⟨v.1, fun n q => v.2 n (back n a q)⟩, keep a o e fun n _ q => v.2 n q⟩
  have rwN : ∀ {w : W} {v : V}, clW k w = true → RepW K mg (Far F0 μ k) μ' H' w v → RepW K mg F0 (μ'.take k ++ μ.drop k) H' w v := fun {w v} c r => by
    cases w with
    | d x => exact RepD.mono (fun a o z e => ⟨av a z, e⟩) r
    | ref n =>
      have hn : n < k := of_decide_eq_true c
      exact ⟨by omega, fun a q => r.2 a (by rw [at1 n hn] at q; exact q)⟩
  have rwO : ∀ {w : W} {v : V}, RepW K mg F0 μ H w v → RepW K mg F0 (μ'.take k ++ μ.drop k) H' w v := fun {w v} r => by
    cases w with
    | d x => exact RepD.mono avO r
    | ref n => exact ⟨by rw [len]; exact r.1, fun a q => r.2 a (back n a q)⟩
  refine ⟨⟨by rw [len]; exact Nat.le_refl _, fun n a _ q => back n a q, fun n a hn q => ?_, fun b o e q => keep b o e fun n _ => q n, s.trk⟩, ⟨?_, fun i j a z1 z2 => rl.nd i j a (back i a z1) (back j a z2), fun a z => ⟨(rl'.f0 a (.inl z)).1, fun n q => (rl.f0 a z).2 n (back n a q)⟩, fun n a o z1 z2 => ?_, fun n z => ?_⟩, av, at1, len⟩
  · rw [List.getElem?_eq_none (by rw [len]; exact hn)] at q
    cases q
  · rw [len, List.length_append, lth, List.length_drop, rl.len]; omega
  · by_cases hn : n < k
    · rw [at1 n hn] at z1
      rw [ah1 n hn] at z2
      have cc : clO k o = true := List.all_eq_true.mp c o (List.mem_of_getElem? (by rw [at_take hn]; exact z2))
      have r := rl'.ob n a o z1 z2
      have ws : ∀ {ws : List W} {vs : List V}, ws.all (clW k) = true → RepWs K mg (Far F0 μ k) μ' H' ws vs → RepWs K mg F0 (μ'.take k ++ μ.drop k) H' ws vs := fun {ws vs} c r => by
        induction r with
        | nil => exact .nil
        | cons r _ ih =>
          rw [List.all_cons, Bool.and_eq_true] at c
          exact .cons (rwN c.1 r) (ih c.2)
      have wk : ∀ {κ : Type} {ws : List (κ × W)} {vs : List (κ × V)}, (ws.all fun p => clW k p.2) = true → RepWK K mg (Far F0 μ k) μ' H' ws vs → RepWK K mg F0 (μ'.take k ++ μ.drop k) H' ws vs := fun {κ ws vs} c r => by
        induction r with
        | nil => exact .nil
        | cons r _ ih =>
          rw [List.all_cons, Bool.and_eq_true] at c
          exact .cons (rwN c.1 r) (ih c.2)
      cases o with
      | lst _ => obtain ⟨vs, h1, h2⟩ := r; exact ⟨vs, h1, ws cc h2⟩
      | dic _ => obtain ⟨vs, h1, h2⟩ := r; exact ⟨vs, h1, wk cc h2⟩
      | ins _ _ => obtain ⟨C, dx, vs, h0, h1, h2⟩ := r; exact ⟨C, dx, vs, h0, h1, wk cc h2⟩
      | dead => exact r.elim
    · rw [at2 n (by omega)] at z1
      rw [ah2 n (by omega)] at z2
      have r := rl.ob n a o z1 z2
      have ea : H' a = H a := by
        obtain ⟨u, q⟩ := r.there
        rw [q]
        exact keep a u q fun m hm z => by have := rl.nd m n a z z1; omega
      have ws : ∀ {ws : List W} {vs : List V}, RepWs K mg F0 μ H ws vs → RepWs K mg F0 (μ'.take k ++ μ.drop k) H' ws vs := fun {ws vs} r => by
        induction r with
        | nil => exact .nil
        | cons r _ ih => exact .cons (rwO r) ih
      have wk : ∀ {κ : Type} {ws : List (κ × W)} {vs : List (κ × V)}, RepWK K mg F0 μ H ws vs → RepWK K mg F0 (μ'.take k ++ μ.drop k) H' ws vs := fun {κ ws vs} r => by
        induction r with
        | nil => exact .nil
        | cons r _ ih => exact .cons (rwO r) ih
      cases o with
      | lst _ => obtain ⟨vs, h1, h2⟩ := r; exact ⟨vs, ea.trans h1, ws h2⟩
      | dic _ => obtain ⟨vs, h1, h2⟩ := r; exact ⟨vs, ea.trans h1, wk h2⟩
      | ins _ _ => obtain ⟨C, dx, vs, h0, h1, h2⟩ := r; exact ⟨C, dx, vs, h0, ea.trans h1, wk h2⟩
      | dead => exact r.elim
  · by_cases hn : n < k
    · rw [at1 n hn] at z
      rw [ah1 n hn]
      exact rl'.dd n z
    · rw [at2 n (by omega)] at z
      rw [ah2 n (by omega)]
      exact rl.dd n z
end
/-- the callee's wish -/
theorem lend_ok {r : Bool} {k j : Nat} {m : List W → M W} {E' : XK} {F0 : Addr → Prop} {μ : Mu} {h : List O} {H : Hp} {ws : List W} {vs : List V} {Q : VK} (hE : (if r = true then some E' else none) = E) (hm : ∀ ws, ws.length ≠ j → m ws = stk)
    (rl : Rl X.K X.mg F0 μ h H) (rs : RepWs X.K X.mg F0 μ H ws vs) (p : Post X.K X.mg F0 E μ H (QW X.K X.mg F0 Q) (lendC k m ws h)) : spM X.K X.mg r j m vs H Q E' := by
  have e : lendC k m ws h = if k ≤ h.length ∧ (h.take k).all (clO k) = true ∧ ws.all (clW k) = true then match m ws (h.take k) with
    | .ok w h' => if (h'.take k).all (clO k) = true then match backW k h' w with
        | some w' => .ok w' (h'.take k ++ h.drop k)
        | none => .st
      else .st
    | .ex e h' => if (h'.take k).all (clO k) = true then .ex e (h'.take k ++ h.drop k) else .st
    | .st => .st
    else .st := rfl
  rw [e] at p
  by_cases hc : k ≤ h.length ∧ (h.take k).all (clO k) = true ∧ ws.all (clW k) = true
  · rw [if_pos hc] at p
    obtain ⟨hk, c1, c2⟩ := hc
    have hkm : k ≤ μ.length := by rw [rl.len]; exact hk
    by_cases hw : ws.length = j
    · refine ⟨by rw [rs.length]; exact hw, Far F0 μ k, μ.take k, h.take k, ws, rl.far hk c1, rs.far hkm c2, ?_⟩
      rw [hE]
      cases q : m ws (h.take k) with
      | st => rw [q] at p; exact p
      | ok w' h' =>
        rw [q] at p
        simp only at p
        split at p
        · rename_i c3
          intro μ' H' s rl' v rv
          have hm := home rl hk s rl' c3
          cases b : backW k h' w' with
          | none => rw [b] at p; exact p.elim
          | some w2 =>
            rw [b] at p
            refine p _ H' hm.st hm.rl v ?_
            cases w' with
            | d x =>
              cases b
              exact RepD.mono (fun a o z e => ⟨hm.av a z, e⟩) rv
            | ref i =>
              have b : (if i < k then some (W.ref i) else (view h' (.ref i)).map .d) = some w2 := b
              split at b
              · rename_i hi
                cases b
                exact ⟨by rw [hm.len]; omega, fun a z => rv.2 a (by rw [hm.at1 i hi] at z; exact z)⟩
              · rename_i hi
                cases z : view h' (.ref i) with
                | none => rw [z] at b; cases b
                | some d =>
                  rw [z] at b
                  cases b
                  have z : (h'[i]?).bind objD = some d := z
                  cases z2 : h'[i]? with
                  | none => rw [z2] at z; cases z
                  | some o =>
                    rw [z2] at z
                    obtain ⟨a, q1, q2⟩ := rl'.live z2 z
                    rw [rv.2 a q1]
                    refine objD_rep z q2 ?_ fun b u v _ => hm.av b v
                    refine ⟨fun y => (rl'.f0 a (.inl y)).2 i q1, fun l y => ?_⟩
                    by_cases hl : l < k
                    · rw [hm.at1 l hl] at y
                      have := rl'.nd l i a y q1
                      omega
                    · have y' : Far F0 μ k a := .inr ⟨l, by omega, by
                        have y2 := y
                        rw [List.getElem?_append_right (by rw [List.length_take]; omega), List.length_take, List.getElem?_drop] at y2
                        have hk2 : k ≤ μ'.length := by have := s.len; rw [List.length_take] at this; omega
                        have e2 : k + (l - min k μ'.length) = l := by omega
                        rw [e2] at y2
                        exact y2⟩
                      exact (rl'.f0 a y').2 i q1
        · exact p.elim
      | ex x h' =>
        rw [q] at p
        simp only at p
        split at p
        · rename_i c3
          cases E with
          | none => exact p
          | some E =>
            intro μ' H' c dx s rl' ⟨nm, fs, g1, g2, g3⟩
            have hm := home rl hk s rl' c3
            refine p _ H' c dx hm.st hm.rl ⟨nm, fs, g1, g2, ?_⟩
            cases dx with
            | none => exact g3
            | some y =>
              obtain ⟨fvs, y1, y2⟩ := g3
              exact ⟨fvs, y1, y2.mono fun a o z e => ⟨hm.av a z, e⟩⟩
        · exact p.elim
    · rw [hm ws hw] at p
      exact p.elim
  · rw [if_neg hc] at p
    exact p.elim
theorem lendD {r : Bool} {k j : Nat} {m : List W → M W} {E' : XK} (hE : (if r = true then some E' else none) = E) (hm : ∀ ws, ws.length ≠ j → m ws = stk) (σ : St) (H : Hp) (Q : VK) (q : xE X E (mLend k m n) σ H Q) : tCall (spM X.K X.mg r j m) [] E' (xA X E n) σ H Q := by
  obtain ⟨F0, μ, ρ, h, rl, en, p⟩ := q
  refine ⟨F0, μ, ρ, h, rl, en, (Post.bd p).imp fun ws h1 μ1 H1 s1 rl1 p1 vs rs => ?_⟩
  show spM X.K X.mg r j m (vs ++ []) H1 Q E'
  rw [List.append_nil]
  exact lend_ok hE hm rl1 rs p1
/-! ### the rules for calls by name -/
variable {k j : Nat} {f C : Addr} {fd : FuncData} {ps ks : List Str} {m : List W → M W} {x : Str} {p pos : Pos} {e : Expr} {es : List Expr} {kws : List Keyword}
theorem run_fnG {pins : List (Addr × Obj)} {σ : St} {H : Hp} {s : Shared} {Q : VK} {args : Args} {us : List Value} {vs : List V} (F : FnG X.prog X.w X.K X.mg X.base k f fd ps m) (hr : Room k X.A) (hgd : X.A.guards = some []) (hb : BindsTo s fd args (ps.zip us))
    (I : Inv X pins σ H s) (r : Vals vs us) (h : spM X.K X.mg false ps.length m vs H Q E0) : codeAny (model X.prog X.w) X.A (.call (.ref f) args) (fun r s' => match r with
      | .ok (.ret u) => EP X pins σ Q u s'
      | _ => False) s := by
  refine codeAny_mono (F.run X.A X.stack s H args us vs Q hr hgd I.env0 hb r h) fun r s' hq => ?_
  cases r with
  | error e => exact False.elim hq
  | ok fl =>
    cases fl with
    | ret u => exact I.after hq
    | next => exact False.elim hq
    | brk => exact False.elim hq
    | cont => exact False.elim hq
theorem run_fnG1 {pins : List (Addr × Obj)} {σ : St} {H : Hp} {s : Shared} {Q : VK} {us : List Value} {kw : List (Str × Value)} {us' : List Value} {vs : List V} (F : FnG X.prog X.w X.K X.mg X.base k f fd ps m) (hr : Room k X.A) (hgd : X.A.guards = some []) (hb : BindsTo s fd ⟨us, kw⟩ (ps.zip us'))
    (I : Inv X pins σ H s) (r : Vals vs us') (h : spM X.K X.mg false ps.length m vs H Q E0) : wpAny (model X.prog X.w) X.A (call (.ref f) us kw) (EP X pins σ Q) X.xe s := by
  refine wpAny_call (codeAny_mono (run_fnG F hr hgd hb I r h) fun r s' hq => ?_)
  cases r with
  | error e => exact False.elim hq
  | ok fl =>
    cases fl with
    | ret u => exact hq
    | next => exact False.elim hq
    | brk => exact False.elim hq
    | cont => exact False.elim hq
/-- f(a, ..): m' says which handles are lent -/
theorem dCallG {sp : Sp} {m' : Env → M W} (F : FnG X.prog X.w X.K X.mg X.base k f fd ps m) (hr : Room k X.A) (hgd : X.A.guards = some []) (hg : Gl X x) (hm : X.mg x = some (.ref f)) (hk : PySem.W.keepIn X.K (.ref f) = true) (hb : Binds X.K fd ps [])
    (ha : PA X (e :: es) (xA X none n)) (hq : ∀ σ H Q, xE X none m' σ H Q → tCall (spM X.K X.mg false ps.length m) [] E0 (xA X none n) σ H Q)
    (hdb : (x == ("__debug__" : Str)) = false := by decide) (he : starEach (e :: es) X.env = (false, eval e X.env) :: starEach es X.env := by rfl) (hpl : (backTo pos (starEach es X.env)).any (·.1) = false := by rfl) :
    PE X (.Call (.Name x p) (e :: es) [] pos) (xE X none m') := by
  refine ⟨fun pins s σ H Q I h => ?_⟩
  refine wpAny_Call_Name_kw (ld_glob I hg hm ?_ hdb)
  refine PySem.W.callWith_K (h₀ := X.base) I.ok.mod.kin hk (thn (ha.run pos pins s σ H _ I (hq σ H Q h)) fun us s1 ⟨vs, H1, I1, r, q⟩ => ⟨I1.kIn, ?_⟩) he hpl
  have q : spM X.K X.mg false ps.length m (vs ++ []) H1 Q E0 := q
  rw [List.append_nil] at q
  have hl : (us ++ []).length = ps.length := by rw [List.append_nil, ← r.length]; exact q.1
  have b := hb s1 us I1.kIn hl
  rw [List.append_nil] at b
  exact run_fnG1 F hr hgd b I1 r q
theorem dCall0G {m' : Env → M W} (F : FnG X.prog X.w X.K X.mg X.base k f fd ps m) (hr : Room k X.A) (hgd : X.A.guards = some []) (hg : Gl X x) (hm : X.mg x = some (.ref f)) (hk : PySem.W.keepIn X.K (.ref f) = true) (hb : Binds X.K fd ps [])
    (hq : ∀ σ H Q, xE X none m' σ H Q → tCall (spM X.K X.mg false ps.length m) [] E0 (xA X none mNil) σ H Q) (hdb : (x == ("__debug__" : Str)) = false := by decide) : PE X (.Call (.Name x p) [] [] pos) (xE X none m') := by
  refine ⟨fun pins s σ H Q I h => ?_⟩
  refine wpAny_Call_Name_kw (ld_glob I hg hm ?_ hdb)
  obtain ⟨F0, μ, ρ, h0, rl, en, p⟩ := hq σ H Q h
  have q : spM X.K X.mg false ps.length m ([] ++ []) H Q E0 := p μ H (.refl _ _) rl [] .nil
  exact PySem.W.callWith_K0 I.kIn hk (run_fnG1 (us := []) (us' := []) F hr hgd (hb s [] I.kIn (by show 0 = _; exact q.1)) I .nil q)
/-- f(a, ..) with all handles -/
theorem dCall (F : FnG X.prog X.w X.K X.mg X.base k f fd ps m) (hr : Room k X.A) (hgd : X.A.guards = some []) (hg : Gl X x) (hm : X.mg x = some (.ref f)) (hk : PySem.W.keepIn X.K (.ref f) = true) (hb : Binds X.K fd ps [])
    (ha : PA X (e :: es) (xA X none n)) (hl : ∀ ws, ws.length ≠ ps.length → m ws = stk) (hdb : (x == ("__debug__" : Str)) = false := by decide) (he : starEach (e :: es) X.env = (false, eval e X.env) :: starEach es X.env := by rfl) (hpl : (backTo pos (starEach es X.env)).any (·.1) = false := by rfl) :
    PE X (.Call (.Name x p) (e :: es) [] pos) (xE X none (mCall m n)) :=
  dCallG (sp := spM X.K X.mg false ps.length m) F hr hgd hg hm hk hb ha (callD (r := false) rfl hl) hdb he hpl
/-- f(a, ..) with the first j handles -/
theorem dLend (j : Nat) (F : FnG X.prog X.w X.K X.mg X.base k f fd ps m) (hr : Room k X.A) (hgd : X.A.guards = some []) (hg : Gl X x) (hm : X.mg x = some (.ref f)) (hk : PySem.W.keepIn X.K (.ref f) = true) (hb : Binds X.K fd ps [])
    (ha : PA X (e :: es) (xA X none n)) (hl : ∀ ws, ws.length ≠ ps.length → m ws = stk) (hdb : (x == ("__debug__" : Str)) = false := by decide) (he : starEach (e :: es) X.env = (false, eval e X.env) :: starEach es X.env := by rfl) (hpl : (backTo pos (starEach es X.env)).any (·.1) = false := by rfl) :
    PE X (.Call (.Name x p) (e :: es) [] pos) (xE X none (mLend j m n)) :=
  dCallG (sp := spM X.K X.mg false ps.length m) F hr hgd hg hm hk hb ha (lendD (r := false) rfl hl) hdb he hpl
end
end DD

set_option Elab.async false
set_option linter.all false
set_option maxRecDepth 100000
set_option maxHeartbeats 1000000
/-! DD5: what is walked: lists and tuples, ranges, zip. -/
namespace DD
open PySem L2
section
variable {K : PySem.W.Frag} {mg : Mg} {F0 F' : Addr → Prop} {μ μ' : Mu} {H H' : Hp}
theorem far_mono (s : Stp μ H μ' H') (hF : ∀ a o, H a = some o → F' a → F0 a) : ∀ a o, Av F0 μ a → H a = some o → Av F' μ' a ∧ H' a = some o := fun a o v e =>
  ⟨⟨fun z => v.1 (hF a o e z), s.nin e v.2⟩, s.kp a o e v.2⟩
/-- a list or a tuple of data -/
theorem isW_tup {ds : List D} {a : Addr} {xs : List V} (hz : xs.length ≤ sizeLine) (ha : (Av F0 μ a ∧ Rd H a (.tup xs)) ∨ KTup K a xs) (r : RepL K mg (Av F0 μ) H ds xs) : IsW K mg F0 (Itt K a) ds μ H := by
  have hl := r.length
  refine ⟨by omega, fun H => SqT K H a xs, YAt xs, ?_, fun μ2 H2 s => ?_, fun i H1 x H2 μ2 h F' hF hi s rl y => ?_⟩
  · rw [← hl]; exact walk_tup
  · rcases ha with ⟨v, q | ⟨o, q⟩⟩ | q
    · exact .inl (.inl (s.kp _ _ q v.2))
    · exact .inl (.inr ⟨o, s.kp _ _ q v.2⟩)
    · exact .inr q
  · obtain ⟨rfl, hx⟩ := y
    obtain ⟨d, h1, h2⟩ := r.get hx
    exact ⟨.inl rfl, d, h1, h2.mono (far_mono s hF)⟩
theorem isW_lst {ds : List D} {a : Addr} {xs : List V} (hz : xs.length ≤ sizeLine) (ha : (Av F0 μ a ∧ Rd H a (.lst xs)) ∨ KLst K a xs) (r : RepL K mg (Av F0 μ) H ds xs) : IsW K mg F0 (Itl K a) ds μ H := by
  have hl := r.length
  refine ⟨by omega, fun H => SqL K H a xs, YAt xs, ?_, fun μ2 H2 s => ?_, fun i H1 x H2 μ2 h F' hF hi s rl y => ?_⟩
  · rw [← hl]; exact walk_list
  · rcases ha with ⟨v, q | ⟨o, q⟩⟩ | q
    · exact .inl (.inl (s.kp _ _ q v.2))
    · exact .inl (.inr ⟨o, s.kp _ _ q v.2⟩)
    · exact .inr q
  · obtain ⟨rfl, hx⟩ := y
    obtain ⟨d, h1, h2⟩ := r.get hx
    exact ⟨.inl rfl, d, h1, h2.mono (far_mono s hF)⟩
/-- a data sequence, by its kind -/
theorem seq_cases {d : D} {l : List D} {v : V} {A : Addr → Prop} (e : items d = some l) (r : RepD K mg A H d v) : ∃ a xs, v = .ref a ∧ RepL K mg A H l xs ∧ ((((A a ∧ Rd H a (.lst xs)) ∨ KLst K a xs)) ∨ ((A a ∧ Rd H a (.tup xs)) ∨ KTup K a xs)) := by
  cases r with
  | tup h q => cases e; exact ⟨_, _, rfl, q, .inr h⟩
  | lst h1 h2 q => cases e; exact ⟨_, _, rfl, q, .inl (.inl ⟨h1, .inl h2⟩)⟩
  | frz h q => cases e; exact ⟨_, _, rfl, q, .inl h⟩
  | non => cases e
  | bl => cases e
  | int => cases e
  | str => cases e
  | ty => cases e
  | glb => cases e
  | dic => cases e
  | ins => cases e
end
def itemsW : W → Option (List D)
  | .d x => items x
  | .ref _ => none
def mItems (m : Env → M W) : Env → M (List D) := fun ρ => bd (m ρ) fun w => oM (itemsW w)
section
variable {X : Cx} {E : Option XK} {m m1 m2 : Env → M W} {n : Env → M (List W)} {tg e e1 e2 : Expr}
theorem seqL_of {K : PySem.W.Frag} {H : Hp} {a : Addr} {xs : List V} {A : Addr → Prop} (h : (A a ∧ Rd H a (.lst xs)) ∨ KLst K a xs) : SqL K H a xs := h.elim (fun z => .inl z.2) .inr
theorem seqT_of {K : PySem.W.Frag} {H : Hp} {a : Addr} {xs : List V} {A : Addr → Prop} (h : (A a ∧ Rd H a (.tup xs)) ∨ KTup K a xs) : SqT K H a xs := h.elim (fun z => .inl z.2) .inr
theorem diSeq (he : PE X e (xE X E m)) : PI X tg e (xI X E (mItems m)) := by
  refine ⟨fun pins s σ H Rr I ⟨F0, μ, ρ, h, rl, en, p⟩ => ?_⟩
  refine thn (he.run pins s σ H (fun v H1 => ∃ a xs, v = .ref a ∧ ((SqL X.K H1 a xs ∧ (xs.length ≤ sizeLine → Rr (Itl X.K a) H1)) ∨ (SqT X.K H1 a xs ∧ (xs.length ≤ sizeLine → Rr (Itt X.K a) H1)))) I
    ⟨F0, μ, ρ, h, rl, en, (Post.bd p).imp fun w h1 μ1 H1 s1 rl1 p1 v r => ?_⟩) fun v s1 ⟨x, H1, I1, r1, a, xs, ex, q1⟩ => ?_
  · obtain ⟨ds, hds, p2⟩ := oM_ok p1
    cases w with
    | ref _ => cases hds
    | d x =>
      obtain ⟨a, xs, rfl, rr, hh⟩ := seq_cases hds r
      refine ⟨a, xs, rfl, ?_⟩
      rcases hh with hh | hh
      · exact .inl ⟨seqL_of hh, fun hz => p2 μ1 H1 (.refl _ _) rl1 _ (isW_lst hz hh rr)⟩
      · exact .inr ⟨seqT_of hh, fun hz => p2 μ1 H1 (.refl _ _) rl1 _ (isW_tup hz hh rr)⟩
  · subst ex
    cases r1
    rcases q1 with ⟨hq, q⟩ | ⟨hq, q⟩
    · obtain ⟨its, rv, p, hz⟩ := I1.list hq
      refine wpAny_pyIter_list p.isList ?_
      refine ⟨s1.heap.objs.size, [s1.heap.objs.size], _, _, H1, rfl, I1.kept (t' := s1.toks) fun b o e => Heap.get?_push_of_some _ e, turn_list a _, ⟨_, Heap.get?_push_size _ rfl, rfl, rfl⟩, fun b hb => ?_, q hz⟩
      have e : b = s1.heap.objs.size := by simpa using hb
      subst e
      exact I1.fpOk (Nat.le_refl _) (I1.hok.fresh (Nat.le_refl _))
    · obtain ⟨its, rv, p, hz⟩ := I1.tuple hq
      refine wpAny_pyIter_tuple (show s1.heap.IsTuple a its.toArray from p) ?_
      refine ⟨s1.heap.objs.size, [s1.heap.objs.size], _, _, H1, rfl, I1.kept (t' := s1.toks) fun b o e => Heap.get?_push_of_some _ e, turn_tuple a _, ⟨_, Heap.get?_push_size _ rfl, rfl, rfl⟩, fun b hb => ?_, q hz⟩
      have e : b = s1.heap.objs.size := by simpa using hb
      subst e
      exact I1.fpOk (Nat.le_refl _) (I1.hok.fresh (Nat.le_refl _))

/-! ### ranges -/
def rangeD (lo : Int) (n : Nat) : List D := (List.range n).map fun i => .int (lo + (i : Nat))
def rng1 : List W → Option (List D)
  | [.d (.int j)] => if -100000 ≤ j ∧ j ≤ 100000 then some (rangeD 0 j.toNat) else none
  | _ => none
def rng2 : List W → Option (List D)
  | [.d (.int i), .d (.int j)] => if -100000 ≤ i ∧ i ≤ 100000 ∧ -100000 ≤ j ∧ j ≤ 100000 then some (rangeD i (j - i).toNat) else none
  | _ => none
def mRng1 (n : Env → M (List W)) : Env → M (List D) := fun ρ => bd (n ρ) fun ws => oM (rng1 ws)
def mRng2 (n : Env → M (List W)) : Env → M (List D) := fun ρ => bd (n ρ) fun ws => oM (rng2 ws)
theorem rangeD_len (lo : Int) (n : Nat) : (rangeD lo n).length = n := by simp [rangeD]
theorem isW_rng {K : PySem.W.Frag} {mg : Mg} {F0 : Addr → Prop} {μ : Mu} {H : Hp} {lo : Int} {n : Nat} (hz : n ≤ 1000000) : IsW K mg F0 (Itr lo n) (rangeD lo n) μ H := by
  refine ⟨by rw [rangeD_len]; exact Nat.le_trans hz (by decide), fun _ => True, YFn fun i => .int (lo + i), by rw [rangeD_len]; exact walk_range, fun _ _ _ => trivial, fun i H1 x H2 μ2 h F' hF hi s rl y => ?_⟩
  obtain ⟨rfl, rfl⟩ := y
  rw [rangeD_len] at hi
  refine ⟨.inl rfl, .int (lo + (i : Nat)), ?_, .int _⟩
  unfold rangeD
  rw [List.getElem?_map, List.getElem?_range hi]
  rfl
theorem rng1_eq {ws : List W} {ds : List D} (e : rng1 ws = some ds) : ∃ j : Int, ws = [.d (.int j)] ∧ (-100000 ≤ j ∧ j ≤ 100000) ∧ ds = rangeD 0 j.toNat := by
  unfold rng1 at e
  split at e
  · split at e
    · cases e; exact ⟨_, rfl, by assumption, rfl⟩
    · cases e
  · cases e
theorem rng2_eq {ws : List W} {ds : List D} (e : rng2 ws = some ds) : ∃ i j : Int, ws = [.d (.int i), .d (.int j)] ∧ (-100000 ≤ i ∧ i ≤ 100000 ∧ -100000 ≤ j ∧ j ≤ 100000) ∧ ds = rangeD i (j - i).toNat := by
  unfold rng2 at e
  split at e
  · split at e
    · cases e; exact ⟨_, _, rfl, by assumption, rfl⟩
    · cases e
  · cases e
theorem PI.to {t t' : TI} (h : PI X tg e t) (w : ∀ σ H Q, t' σ H Q → t σ H Q) : PI X tg e t' := ⟨fun pins s σ H Q I q => h.run pins s σ H Q I (w σ H Q q)⟩
theorem diRng1 {p pos : Pos} (hg : Gl X "range") (hm : X.mg "range" = none) (ha : PA X [e] (xA X E n)) (hs : starEach [e] X.env = [(false, eval e X.env)] := by rfl) : PI X tg (.Call (.Name "range" p) [e] [] pos) (xI X E (mRng1 n)) :=
  PI.to (pi_range1 hg hm ha hs) fun σ H Rr ⟨F0, μ, ρ, h, rl, en, p⟩ => ⟨F0, μ, ρ, h, rl, en, (Post.bd p).imp fun ws h1 μ1 H1 s1 rl1 p1 vs rs => by
    obtain ⟨ds, hds, p1⟩ := oM_ok p1
    obtain ⟨j, rfl, hj, rfl⟩ := rng1_eq hds
    cases rs with
    | cons r rs =>
      cases rs
      rw [RepD.i r]
      exact ⟨j, rfl, by omega, by omega, p1 μ1 H1 (.refl _ _) rl1 _ (isW_rng (by omega))⟩⟩
theorem diRng2 {p pos : Pos} (hg : Gl X "range") (hm : X.mg "range" = none) (ha : PA X [e1, e2] (xA X E n)) (hs : starEach [e1, e2] X.env = [(false, eval e1 X.env), (false, eval e2 X.env)] := by rfl) (hs2 : starEach [e2] X.env = [(false, eval e2 X.env)] := by rfl) :
    PI X tg (.Call (.Name "range" p) [e1, e2] [] pos) (xI X E (mRng2 n)) :=
  PI.to (pi_range2 hg hm ha hs hs2) fun σ H Rr ⟨F0, μ, ρ, h, rl, en, p⟩ => ⟨F0, μ, ρ, h, rl, en, (Post.bd p).imp fun ws h1 μ1 H1 s1 rl1 p1 vs rs => by
    obtain ⟨ds, hds, p1⟩ := oM_ok p1
    obtain ⟨i, j, rfl, hj, rfl⟩ := rng2_eq hds
    cases rs with
    | cons r rs =>
      cases rs with
      | cons r2 rs =>
        cases rs
        rw [RepD.i r, RepD.i r2]
        exact ⟨i, j, rfl, ⟨by omega, by omega, by omega, by omega⟩, p1 μ1 H1 (.refl _ _) rl1 _ (isW_rng (by omega))⟩⟩

/-! ### zip -/
def zipD : List D → List D → List D
  | x :: xs, y :: ys => .tup [x, y] :: zipD xs ys
  | _, _ => []
/-- two tuples, or two lists -/
def zipW : List W → Option (List D)
  | [.d (.tup a), .d (.tup b)] => some (zipD a b)
  | [.d (.lst a), .d (.lst b)] => some (zipD a b)
  | _ => none
def mZip (n : Env → M (List W)) : Env → M (List D) := fun ρ => bd (n ρ) fun ws => oM (zipW ws)
theorem zipD_len : ∀ a b : List D, (zipD a b).length = min a.length b.length
  | [], b => by simp [zipD]
  | _ :: _, [] => by simp [zipD]
  | x :: a, y :: b => by simp only [zipD, List.length_cons, zipD_len a b]; omega
theorem zipD_at : ∀ {a b : List D} {i : Nat} {x y : D}, a[i]? = some x → b[i]? = some y → (zipD a b)[i]? = some (.tup [x, y])
  | [], _, i, _, _, e, _ => by simp at e
  | _ :: _, [], i, _, _, _, e => by simp at e
  | x :: a, y :: b, 0, _, _, e1, e2 => by simp at e1 e2; simp [zipD, e1, e2]
  | x :: a, y :: b, i + 1, _, _, e1, e2 => by
    simp only [List.getElem?_cons_succ] at e1 e2
    simp only [zipD, List.getElem?_cons_succ]
    exact zipD_at e1 e2
theorem zip_step {K : PySem.W.Frag} {mg : Mg} {F0 F' : Addr → Prop} {μ μ2 : Mu} {H H1 H2 : Hp} {h : List O} {as bs : List D} {xs ys : List V} {i : Nat} {v : V} (ra : RepL K mg (Av F0 μ) H as xs) (rb : RepL K mg (Av F0 μ) H bs ys) (s : Stp μ H μ2 H1) (hF : ∀ a o, H a = some o → F' a → F0 a)
    (rl : Rl K mg F' μ2 h H1) (y : YPair (fun i => xs[i]?) (fun i => ys[i]?) i H1 v H2) : (H2 = H1 ∨ ∃ p u, H1 p = none ∧ H2 = upd H1 p u) ∧ ∃ d, (zipD as bs)[i]? = some d ∧ RepD K mg (Av F' μ2) H2 d v := by
  obtain ⟨T, x, z, rfl, hT, rfl, hx, hz⟩ := y
  obtain ⟨d1, g1, r1⟩ := ra.get hx
  obtain ⟨d2, g2, r2⟩ := rb.get hz
  exact ⟨.inr ⟨T, _, hT, rfl⟩, _, zipD_at g1 g2, newT rl hT (.cons (r1.mono (far_mono s hF)) (.cons (r2.mono (far_mono s hF)) .nil))⟩
theorem tup_cases {K : PySem.W.Frag} {mg : Mg} {A : Addr → Prop} {H : Hp} {l : List D} {v : V} (r : RepD K mg A H (.tup l) v) : ∃ a xs, v = .ref a ∧ RepL K mg A H l xs ∧ ((A a ∧ Rd H a (.tup xs)) ∨ KTup K a xs) := by
  cases r with
  | tup h q => exact ⟨_, _, rfl, q, h⟩
theorem lst_cases {K : PySem.W.Frag} {mg : Mg} {A : Addr → Prop} {H : Hp} {l : List D} {v : V} (r : RepD K mg A H (.lst l) v) : ∃ a xs, v = .ref a ∧ RepL K mg A H l xs ∧ ((A a ∧ Rd H a (.lst xs)) ∨ KLst K a xs) := by
  cases r with
  | lst h1 h2 q => exact ⟨_, _, rfl, q, .inl ⟨h1, .inl h2⟩⟩
theorem walk_zipT {K : PySem.W.Frag} {a b : Addr} {xs ys : List V} {n : Nat} (hn : n = min xs.length ys.length) : Walk (RZ.ItzT K a b) n (fun H => SqT K H a xs ∧ SqT K H b ys) (YPair (fun i => xs[i]?) (fun i => ys[i]?)) := by
  subst hn
  refine ⟨fun i _ hi q => ?_, fun _ q => ⟨xs, ys, q.1, q.2, by omega⟩, fun i H v H' _ q y => ?_⟩
  · have h1 : i < xs.length := by omega
    have h2 : i < ys.length := by omega
    exact ⟨xs, ys, xs[i], ys[i], q.1, q.2, by simp [h1], by simp [h2]⟩
  · obtain ⟨T, x, z, h1, h2, h3, h4, h5⟩ := y
    exact ⟨T, x, z, h1, h2, h3, h4 xs q.1, h5 ys q.2⟩
theorem stayT {K : PySem.W.Frag} {F0 : Addr → Prop} {μ μ2 : Mu} {H H2 : Hp} {a : Addr} {xs : List V} (ha : (Av F0 μ a ∧ Rd H a (.tup xs)) ∨ KTup K a xs) (s : Stp μ H μ2 H2) : SqT K H2 a xs := by
  rcases ha with ⟨v, q | ⟨o, q⟩⟩ | q
  · exact .inl (.inl (s.kp _ _ q v.2))
  · exact .inl (.inr ⟨o, s.kp _ _ q v.2⟩)
  · exact .inr q
theorem stayL {K : PySem.W.Frag} {F0 : Addr → Prop} {μ μ2 : Mu} {H H2 : Hp} {a : Addr} {xs : List V} (ha : (Av F0 μ a ∧ Rd H a (.lst xs)) ∨ KLst K a xs) (s : Stp μ H μ2 H2) : SqL K H2 a xs := by
  rcases ha with ⟨v, q | ⟨o, q⟩⟩ | q
  · exact .inl (.inl (s.kp _ _ q v.2))
  · exact .inl (.inr ⟨o, s.kp _ _ q v.2⟩)
  · exact .inr q
theorem isW_zipT {K : PySem.W.Frag} {mg : Mg} {F0 : Addr → Prop} {μ : Mu} {H : Hp} {as bs : List D} {a b : Addr} {xs ys : List V} (hz : xs.length ≤ sizeLine) (ha : (Av F0 μ a ∧ Rd H a (.tup xs)) ∨ KTup K a xs) (hb : (Av F0 μ b ∧ Rd H b (.tup ys)) ∨ KTup K b ys)
    (ra : RepL K mg (Av F0 μ) H as xs) (rb : RepL K mg (Av F0 μ) H bs ys) : IsW K mg F0 (RZ.ItzT K a b) (zipD as bs) μ H := by
  have h1 := ra.length
  have h2 := rb.length
  refine ⟨by rw [zipD_len]; omega, fun H => SqT K H a xs ∧ SqT K H b ys, _, walk_zipT (by rw [zipD_len]; omega), fun μ2 H2 s => ⟨stayT ha s, stayT hb s⟩, fun i H1 x H2 μ2 h F' hF hi s rl y => zip_step ra rb s hF rl y⟩
theorem isW_zipL {K : PySem.W.Frag} {mg : Mg} {F0 : Addr → Prop} {μ : Mu} {H : Hp} {as bs : List D} {a b : Addr} {xs ys : List V} (hz : xs.length ≤ sizeLine) (ha : (Av F0 μ a ∧ Rd H a (.lst xs)) ∨ KLst K a xs) (hb : (Av F0 μ b ∧ Rd H b (.lst ys)) ∨ KLst K b ys)
    (ra : RepL K mg (Av F0 μ) H as xs) (rb : RepL K mg (Av F0 μ) H bs ys) : IsW K mg F0 (Itz K a b) (zipD as bs) μ H := by
  have h1 := ra.length
  have h2 := rb.length
  refine ⟨by rw [zipD_len]; omega, fun H => SqL K H a xs ∧ SqL K H b ys, _, walk_zip (by rw [zipD_len]; omega), fun μ2 H2 s => ⟨stayL ha s, stayL hb s⟩, fun i H1 x H2 μ2 h F' hF hi s rl y => zip_step ra rb s hF rl y⟩
theorem diZip {p pos tpos : Pos} {elts : List Expr} {kk : Nat} (hg : Gl X "zip") (hm : X.mg "zip" = none) (ha : PA X [e1, e2] (xA X E n))
    (hs : starEach [e1, e2] X.env = (false, eval e1 X.env) :: starEach [e2] X.env := by rfl) (hpl : (backTo pos (starEach [e2] X.env)).any (·.1) = false := by rfl) :
    PI X (.Tuple elts kk tpos) (.Call (.Name "zip" p) [e1, e2] [] pos) (xI X E (mZip n)) := by
  refine ⟨fun pins s σ H Rr I ⟨F0, μ, ρ, h, rl, en, p0⟩ => ?_⟩
  have base := (RZ.pi_zipA (X := X) (elts := elts) (kk := kk) (tpos := tpos) (pos := pos) (p := p) hg hm ha hs hpl).run pins s σ H
    (fun J H1 => ∃ a b xs ys, (((SqL X.K H1 a xs ∧ SqL X.K H1 b ys) ∨ (SqT X.K H1 a xs ∧ SqT X.K H1 b ys))) ∧ (xs.length ≤ sizeLine → Rr J H1)) I
    ⟨F0, μ, ρ, h, rl, en, (Post.bd p0).imp fun ws h1 μ1 H1 s1 rl1 p1 vs rs => ?_⟩
  · refine thn base fun v s1 q => thn q fun itv s2 ⟨it, fp, tn, J, H2, e, I2, T, st2, f2, a, b, xs, ys, hh, q2⟩ => ⟨it, fp, tn, J, H2, e, I2, T, st2, f2, q2 ?_⟩
    rcases hh with ⟨hh, _⟩ | ⟨hh, _⟩
    · exact (I2.list hh).choose_spec.2.2
    · exact (I2.tuple hh).choose_spec.2.2
  · obtain ⟨ds, hds, p2⟩ := oM_ok p1
    unfold zipW at hds
    split at hds
    · rename_i a b
      cases hds
      cases rs with
      | cons r rs =>
        cases rs with
        | cons r2 rs =>
          cases rs
          obtain ⟨pa, xs, rfl, ra, ha'⟩ := tup_cases r
          obtain ⟨pb, ys, rfl, rb, hb'⟩ := tup_cases r2
          exact ⟨pa, pb, xs, ys, rfl, .inr ⟨seqT_of ha', seqT_of hb', pa, pb, xs, ys, .inr ⟨seqT_of ha', seqT_of hb'⟩, fun hz => p2 μ1 H1 (.refl _ _) rl1 _ (isW_zipT hz ha' hb' ra rb)⟩⟩
    · rename_i a b
      cases hds
      cases rs with
      | cons r rs =>
        cases rs with
        | cons r2 rs =>
          cases rs
          obtain ⟨pa, xs, rfl, ra, ha'⟩ := lst_cases r
          obtain ⟨pb, ys, rfl, rb, hb'⟩ := lst_cases r2
          exact ⟨pa, pb, xs, ys, rfl, .inl ⟨seqL_of ha', seqL_of hb', pa, pb, xs, ys, .inl ⟨seqL_of ha', seqL_of hb'⟩, fun hz => p2 μ1 H1 (.refl _ _) rl1 _ (isW_zipL hz ha' hb' ra rb)⟩⟩
    · cases hds
end
end DD

set_option Elab.async false
set_option linter.all false
set_option maxRecDepth 100000
set_option maxHeartbeats 1000000
/-! DD6: operators and built-ins over data. -/
namespace DD
open PySem L2

/-! ### data that the library's rules compare -/
mutual
def py : D → PyData
  | .non => .none
  | .bl b => .bool b
  | .int i => .int i
  | .str x => .str x
  | .tup l => .tuple (pyL l)
  | .lst l => .list (pyL l)
  | .frz l => .list (pyL l)
  | _ => .none
def pyL : List D → List PyData
  | [] => []
  | d :: l => py d :: pyL l
end
mutual
def pureD : D → Bool
  | .non => true
  | .bl _ => true
  | .int _ => true
  | .str _ => true
  | .tup l => pureL l
  | .lst l => pureL l
  | .frz l => pureL l
  | _ => false
def pureL : List D → Bool
  | [] => true
  | d :: l => pureD d && pureL l
end
section
variable {K : PySem.W.Frag} {mg : Mg} {A : Addr → Prop} {H : Hp}
mutual
theorem dp_of : ∀ {d : D} {v : V}, pureD d = true → RepD K mg A H d v → Dp K H v (py d)
  | .non, _, _, r => by cases r; exact .non
  | .bl b, _, _, r => by cases r; exact .bl b
  | .int i, _, _, r => by cases r; exact .int i
  | .str x, _, _, r => by cases r; exact .str x
  | .tup l, _, h, r => by
    obtain ⟨a, xs, rfl, q, hh⟩ := tup_cases r
    exact .tup (seqT_of hh) (dps_of h q)
  | .lst l, _, h, r => by
    obtain ⟨a, xs, rfl, q, hh⟩ := lst_cases r
    exact .lst (seqL_of hh) (dps_of h q)
  | .frz l, _, h, r => by
    obtain ⟨a, xs, rfl, q, hh⟩ := r.f
    exact .lst q (dps_of h hh)
theorem dps_of : ∀ {d : List D} {v : List V}, pureL d = true → RepL K mg A H d v → DpAll K H v (pyL d)
  | [], _, _, r => by cases r; exact .nil
  | d :: l, _, h, r => by
    cases r with
    | cons r q =>
      have h : (pureD d && pureL l) = true := h
      rw [Bool.and_eq_true] at h
      exact .cons (dp_of h.1 r) (dps_of h.2 q)
end
end
def okD (d : D) : Bool := pureD d && SeqAt.shaped (py d)
def eqD (a b : D) : Bool := PyData.eqv (py a) (py b)

/-! ### steps by values -/
def vw (w : W) : M D := fun h => match view h w with
  | some d => .ok d h
  | none => .st
theorem vw_d (d : D) : vw (.d d) = pu d := rfl
theorem vw_ok {α : Type} {K : PySem.W.Frag} {mg : Mg} {F0 : Addr → Prop} {E : Option XK} {μ : Mu} {H : Hp} {h : List O} {P : α → List O → Mu → Hp → Prop} {w : W} {f : D → M α} (p : Post K mg F0 E μ H P (bd (vw w) f h)) : ∃ d, view h w = some d ∧ Post K mg F0 E μ H P (f d h) := by
  cases e : view h w with
  | none =>
    have z : bd (vw w) f h = .st := by
      unfold bd vw
      rw [e]
    rw [z] at p
    exact p.elim
  | some d =>
    have z : bd (vw w) f h = f d h := by
      unfold bd vw
      rw [e]
    rw [z] at p
    exact ⟨d, rfl, p⟩
/-- of two values' data something that has no address -/
def o2 (f : D → D → Option D) : W → W → M W := fun a b => bd (vw a) fun x => bd (vw b) fun y => oM ((f x y).map .d)
def opEq (neg : Bool) : W → W → M W := o2 fun x y => if okD x && okD y then some (.bl (if neg then !eqD x y else eqD x y)) else none
section
variable {X : Cx} {E : Option XK}
theorem o2_ok {f : D → D → Option D} {K : PySem.W.Frag} {mg : Mg} {F0 : Addr → Prop} {μ : Mu} {H : Hp} {h : List O} {a b : W} {x y : V} {Q : VK} (rl : Rl K mg F0 μ h H) (ra : RepW K mg F0 μ H a x) (rb : RepW K mg F0 μ H b y) (p : Post K mg F0 E μ H (QW K mg F0 Q) (o2 f a b h)) :
    ∃ d1 d2 d3, RepD K mg (fun _ => True) H d1 x ∧ RepD K mg (fun _ => True) H d2 y ∧ f d1 d2 = some d3 ∧ ∀ v, RepD K mg (Av F0 μ) H d3 v → Q v H := by
  obtain ⟨d1, e1, p⟩ := vw_ok p
  obtain ⟨d2, e2, p⟩ := vw_ok p
  obtain ⟨w, e3, p⟩ := oM_ok p
  cases z : f d1 d2 with
  | none => rw [z] at e3; cases e3
  | some d3 =>
    rw [z] at e3
    cases e3
    exact ⟨d1, d2, d3, view_rep rl e1 ra, view_rep rl e2 rb, z, fun v r => p μ H (.refl _ _) rl v r⟩
theorem oEq (hu : X.A.units + 64 < cLine) : OpR X (compareOp .Eq) (r2 X.K X.mg E (opEq false)) := by
  intro pins s σ H x y v u Q I rx ry ⟨F0, μ, h, a, b, rl, ra, rb, p⟩
  obtain ⟨d1, d2, d3, q1, q2, e, k⟩ := o2_ok rl ra rb p
  split at e
  · rename_i hc
    cases e
    rw [Bool.and_eq_true] at hc
    obtain ⟨c1, c2⟩ := Bool.and_eq_true_iff.mp hc.1
    obtain ⟨c3, c4⟩ := Bool.and_eq_true_iff.mp hc.2
    exact op_eqD hu pins s σ H x y v u Q I rx ry ⟨_, _, dp_of c1 q1, dp_of c3 q2, c2, c4, k _ (.bl _)⟩
  · cases e
theorem oNe (hu : X.A.units + 64 < cLine) : OpR X (compareOp .NotEq) (r2 X.K X.mg E (opEq true)) := by
  intro pins s σ H x y v u Q I rx ry ⟨F0, μ, h, a, b, rl, ra, rb, p⟩
  obtain ⟨d1, d2, d3, q1, q2, e, k⟩ := o2_ok rl ra rb p
  split at e
  · rename_i hc
    cases e
    rw [Bool.and_eq_true] at hc
    obtain ⟨c1, c2⟩ := Bool.and_eq_true_iff.mp hc.1
    obtain ⟨c3, c4⟩ := Bool.and_eq_true_iff.mp hc.2
    exact op_neD hu pins s σ H x y v u Q I rx ry ⟨_, _, dp_of c1 q1, dp_of c3 q2, c2, c4, k _ (.bl _)⟩
  · cases e

/-! ### ints -/
def iOp (C : Int → Int → Bool) (g : Int → Int → D) : W → W → M W := o2 fun x y => match x, y with
  | .int i, .int j => if C i j then some (g i j) else none
  | _, _ => none
theorem iOp_ok {f : Value → Value → Sem Value} {C : Int → Int → Bool} {g : Int → Int → D} {C' : Int → Int → Prop} {g' : Int → Int → V} (ho : OpR X f (rI C' g')) (hC : ∀ i j, C i j = true → C' i j) (hg : ∀ i j A H, RepD X.K X.mg A H (g i j) (g' i j)) : OpR X f (r2 X.K X.mg E (iOp C g)) := by
  intro pins s σ H x y v u Q I rx ry ⟨F0, μ, h, a, b, rl, ra, rb, p⟩
  obtain ⟨d1, d2, d3, q1, q2, e, k⟩ := o2_ok rl ra rb p
  split at e
  · split at e
    · rename_i hc
      cases e
      cases q1.i
      cases q2.i
      exact ho pins s σ H _ _ v u Q I rx ry ⟨_, _, rfl, rfl, hC _ _ hc, k _ (hg _ _ _ _)⟩
    · cases e
  · cases e
theorem rI0_I {f : Value → Value → Sem Value} {g : Int → Int → V} (h : OpR X f (rI0 g)) : OpR X f (rI (fun _ _ => True) g) := fun pins s σ H x y v u Q I rx ry ⟨i, j, h1, h2, _, q⟩ => h pins s σ H x y v u Q I rx ry ⟨i, j, h1, h2, q⟩
def cMul (i j : Int) : Bool := (decide (-(2 ^ 64) < i) && decide (i < 2 ^ 64)) || (decide (-(2 ^ 64) < j) && decide (j < 2 ^ 64))
def opSub : W → W → M W := iOp (fun _ _ => true) fun i j => .int (i - j)
def opMod : W → W → M W := iOp (fun _ j => decide (0 < j)) fun i j => .int (i % j)
def opFdiv : W → W → M W := iOp (fun _ j => decide (0 < j) && decide (j < 1073741824)) fun i j => .int (i / j)
def opPow : W → W → M W := iOp (fun i j => decide (0 ≤ j) && decide (j ≤ 1000) && decide (i.natAbs < 2 ^ 64)) fun i j => .int (i ^ j.toNat)
def opLt : W → W → M W := iOp (fun _ _ => true) fun i j => .bl (decide (i < j))
def opLe : W → W → M W := iOp (fun _ _ => true) fun i j => .bl (decide (i ≤ j))
def opGt : W → W → M W := iOp (fun _ _ => true) fun i j => .bl (decide (j < i))
def opGe : W → W → M W := iOp (fun _ _ => true) fun i j => .bl (decide (j ≤ i))
def opMul : W → W → M W := iOp cMul fun i j => .int (i * j)
theorem oSub : OpR X (binaryOp .Sub) (r2 X.K X.mg E opSub) := iOp_ok (rI0_I op_sub) (fun _ _ _ => trivial) fun _ _ _ _ => .int _
theorem oMod : OpR X (binaryOp .Mod) (r2 X.K X.mg E opMod) := iOp_ok op_mod (fun _ _ h => of_decide_eq_true h) fun _ _ _ _ => .int _
theorem oFdiv : OpR X (binaryOp .FloorDiv) (r2 X.K X.mg E opFdiv) := iOp_ok op_fdiv (fun _ _ h => by
  rw [Bool.and_eq_true] at h
  exact ⟨of_decide_eq_true h.1, of_decide_eq_true h.2⟩) fun _ _ _ _ => .int _
theorem oPow : OpR X (binaryOp .Pow) (r2 X.K X.mg E opPow) := iOp_ok op_pow (fun _ _ h => by
  rw [Bool.and_eq_true, Bool.and_eq_true] at h
  have := of_decide_eq_true h.1.2
  exact ⟨of_decide_eq_true h.1.1, by omega, of_decide_eq_true h.2⟩) fun _ _ _ _ => .int _
theorem oLt : OpR X (compareOp .Lt) (r2 X.K X.mg E opLt) := iOp_ok (rI0_I L2.op_lt) (fun _ _ _ => trivial) fun _ _ _ _ => .bl _
theorem oLe : OpR X (compareOp .LtE) (r2 X.K X.mg E opLe) := iOp_ok (rI0_I L2.op_le) (fun _ _ _ => trivial) fun _ _ _ _ => .bl _
theorem oGt : OpR X (compareOp .Gt) (r2 X.K X.mg E opGt) := iOp_ok (rI0_I L2.op_gt) (fun _ _ _ => trivial) fun _ _ _ _ => .bl _
theorem oGe : OpR X (compareOp .GtE) (r2 X.K X.mg E opGe) := iOp_ok (rI0_I L2.op_ge) (fun _ _ _ => trivial) fun _ _ _ _ => .bl _
theorem oMul : OpR X (binaryOp .Mult) (r2 X.K X.mg E opMul) := iOp_ok op_mul (fun _ _ h => by
  unfold cMul at h
  rw [Bool.or_eq_true, Bool.and_eq_true, Bool.and_eq_true] at h
  exact h.imp (fun h => ⟨of_decide_eq_true h.1, of_decide_eq_true h.2⟩) fun h => ⟨of_decide_eq_true h.1, of_decide_eq_true h.2⟩) fun _ _ _ _ => .int _
/-- x is None -/
def opIsN (neg : Bool) : W → W → M W := o2 fun x y => match y with
  | .non => some (.bl (match x with | .non => !neg | _ => neg))
  | _ => none
theorem isn_dec {K : PySem.W.Frag} {mg : Mg} {A : Addr → Prop} {H : Hp} {d : D} {v : V} (r : RepD K mg A H d v) : decide (v = .non) = (match d with | .non => true | _ => false) := by
  cases r <;> rfl
theorem oIsN : OpR X (compareOp .Is) (r2 X.K X.mg E (opIsN false)) := by
  intro pins s σ H x y v u Q I rx ry ⟨F0, μ, h, a, b, rl, ra, rb, p⟩
  obtain ⟨d1, d2, d3, q1, q2, e, k⟩ := o2_ok rl ra rb p
  split at e
  · cases e
    cases q2.n
    refine op_isN pins s σ H _ _ v u Q I rx ry ⟨rfl, k _ ?_⟩
    rw [isn_dec q1]
    cases d1 <;> exact .bl _
  · cases e
theorem oNotN : OpR X (compareOp .IsNot) (r2 X.K X.mg E (opIsN true)) := by
  intro pins s σ H x y v u Q I rx ry ⟨F0, μ, h, a, b, rl, ra, rb, p⟩
  obtain ⟨d1, d2, d3, q1, q2, e, k⟩ := o2_ok rl ra rb p
  split at e
  · cases e
    cases q2.n
    refine op_notN pins s σ H _ _ v u Q I rx ry ⟨rfl, k _ ?_⟩
    rw [isn_dec q1]
    cases d1 <;> exact .bl _
  · cases e
/-- x in xs, xs a tuple or a list -/
def inD (x : D) (l : List D) : Bool := (pyL l).any fun y => PyData.eqv y (py x)
def opIn (neg : Bool) : W → W → M W := o2 fun x y => match items y with
  | some l => if okD x && okD y then some (.bl (if neg then !inD x l else inD x l)) else none
  | none => none

/-! ### built-ins -/
variable {n : Env → M (List W)} {e : Expr} {es : List Expr} {x : Str} {p pos : Pos}
theorem tCBd {op : List W → M W} (σ : L2.St) (H : Hp) (Q : VK) (q : xE X E (mCall op n) σ H Q) : tCB (rA X.K X.mg E op) (xA X E n) σ H Q := by
  obtain ⟨F0, μ, ρ, h, rl, en, p⟩ := q
  exact ⟨F0, μ, ρ, h, rl, en, (Post.bd p).imp fun ws h1 μ1 H1 s1 rl1 p1 vs rs => ⟨F0, μ1, h1, ws, rl1, rs, p1⟩⟩
theorem dB {id : String} {op : List W → M W} (hc : CallR X (.builtin id) (rA X.K X.mg E op)) (hg : Gl X x) (hm : X.mg x = none) (hv : bootBuiltins x = some (.builtin id)) (ha : PA X (e :: es) (xA X E n)) (hn : x ≠ "__name__" := by decide) (hdb : (x == ("__debug__" : Str)) = false := by decide)
    (he : starEach (e :: es) X.env = (false, eval e X.env) :: starEach es X.env := by rfl) (hpl : (backTo pos (starEach es X.env)).any (·.1) = false := by rfl) : PE X (.Call (.Name x p) (e :: es) [] pos) (xE X E (mCall op n)) := (pe_callB hc hg hm hv ha hn hdb he hpl).to tCBd
theorem dTy {T : String} {op : List W → M W} (hc : CallR X (.type T) (rA X.K X.mg E op)) (hg : Gl X x) (hm : X.mg x = none) (hv : bootBuiltins x = some (.type T)) (ha : PA X (e :: es) (xA X E n)) (hn : x ≠ "__name__" := by decide) (hdb : (x == ("__debug__" : Str)) = false := by decide)
    (he : starEach (e :: es) X.env = (false, eval e X.env) :: starEach es X.env := by rfl) (hpl : (backTo pos (starEach es X.env)).any (·.1) = false := by rfl) : PE X (.Call (.Name x p) (e :: es) [] pos) (xE X E (mCall op n)) := (pe_callTy hc hg hm hv ha hn hdb he hpl).to tCBd
/-- of one value's data something that has no address -/
def b1 (f : D → Option D) : List W → M W
  | [w] => bd (vw w) fun x => oM ((f x).map .d)
  | _ => stk
theorem b1_ok {f : D → Option D} {K : PySem.W.Frag} {mg : Mg} {F0 : Addr → Prop} {μ : Mu} {H : Hp} {h : List O} {ws : List W} {vs : List V} {Q : VK} (rl : Rl K mg F0 μ h H) (rs : RepWs K mg F0 μ H ws vs) (p : Post K mg F0 E μ H (QW K mg F0 Q) (b1 f ws h)) :
    ∃ v d1 d3, vs = [v] ∧ RepD K mg (fun _ => True) H d1 v ∧ f d1 = some d3 ∧ ∀ v, RepD K mg (Av F0 μ) H d3 v → Q v H := by
  cases rs with
  | nil => exact p.elim
  | cons r rs =>
    cases rs with
    | cons _ _ => exact p.elim
    | nil =>
      obtain ⟨d1, e1, p⟩ := vw_ok p
      obtain ⟨w, e3, p⟩ := oM_ok p
      cases z : f d1 with
      | none => rw [z] at e3; cases e3
      | some d3 =>
        rw [z] at e3
        cases e3
        exact ⟨_, d1, d3, rfl, view_rep rl e1 r, z, fun v r => p μ H (.refl _ _) rl v r⟩
/-- len -/
def lenD : D → Option D
  | .str s => if s.length ≤ 100000 then some (.int s.length) else none
  | d => (items d).map fun l => .int (l.length : Nat)
def bLen : List W → M W := b1 lenD
theorem cLen : CallR X (.builtin "len") (rA X.K X.mg E bLen) := by
  intro pins s σ H xs us Q I r ⟨F0, μ, h, as, rl, rs, p⟩
  obtain ⟨v, d1, d3, rfl, q1, e, k⟩ := b1_ok rl rs p
  have sq : ∀ l, items d1 = some l → d3 = .int (l.length : Nat) → wpAny (model X.prog X.w) X.A (call (.builtin "len") us) (EP X pins σ Q) X.xe s := fun l hl hd => by
    obtain ⟨a, xs, rfl, hh, rr⟩ := q1.seq hl
    refine call_len_seq pins s σ H _ us Q I r ⟨a, xs, rfl, hh, k _ ?_⟩
    rw [hd, rr.length]
    exact .int _
  cases d1 with
  | str z =>
    have e : (if z.length ≤ 100000 then some (D.int z.length) else none) = some d3 := e
    split at e
    · rename_i hz
      cases e
      cases q1.s
      exact call_len_str pins s σ H _ us Q I r ⟨z, rfl, len_ok hz, k _ (.int _)⟩
    · cases e
  | tup l => cases e; exact sq l rfl rfl
  | lst l => cases e; exact sq l rfl rfl
  | frz l => cases e; exact sq l rfl rfl
  | non => cases e
  | bl => cases e
  | int => cases e
  | dic => cases e
  | ins => cases e
  | glb => cases e
  | ty => cases e
end
end DD

set_option Elab.async false
set_option linter.all false
set_option maxRecDepth 100000
set_option maxHeartbeats 1000000
/-! DD7: in, +, <, subscripts, slices, tuple(), list(), methods of lists. -/
namespace DD
open PySem L2
section
variable {X : Cx} {E : Option XK}
theorem bool2 {a b : Bool} (h : (a && b) = true) : a = true ∧ b = true := Bool.and_eq_true_iff.mp h
theorem okD_of {d : D} (h : okD d = true) : pureD d = true ∧ SeqAt.shaped (py d) = true := bool2 h
theorem room_in {A : Around} {xs : List PyData} {d : PyData} (hd : SeqAt.shaped d = true) (hu : A.units + 65 < cLine) : A.units + 1 + min (PyData.depthAll xs) d.depth < cLine := by
  have := SeqAt.depth_of_shaped hd
  omega
theorem oIn (hu : X.A.units + 65 < cLine) : OpR X (compareOp .In) (r2 X.K X.mg E (opIn false)) := by
  intro pins s σ H x y v u Q I rx ry ⟨F0, μ, h, a, b, rl, ra, rb, p⟩
  obtain ⟨d1, d2, d3, q1, q2, e, k⟩ := o2_ok rl ra rb p
  split at e
  · rename_i l hl
    split at e
    · rename_i hc
      cases e
      obtain ⟨c1, c2⟩ := bool2 hc
      obtain ⟨as, r1⟩ := Dp.reads I _ x v (dp_of (okD_of c1).1 q1) rx
      obtain ⟨bs, r2⟩ := Dp.reads I _ y u (dp_of (okD_of c2).1 q2) ry
      have fin : ∀ {t : PyData}, SeqAt.shaped t = true → EP X pins σ Q (.bool ((pyL l).any fun y => PyData.eqv y (py d1))) s := fun _ => ⟨.bl _, H, I, rfl, k _ (.bl _)⟩
      cases d2 with
      | tup _ => cases hl; exact SeqAt.in_tuple_reads r2 r1 (SeqAt.canLay_of_shaped (okD_of c2).2) (SeqAt.canLay_of_shaped (okD_of c1).2) (room_in (okD_of c1).2 hu) (fin (okD_of c1).2)
      | lst _ => cases hl; exact SeqAt.in_list_reads r2 r1 (SeqAt.canLay_of_shaped (okD_of c2).2) (SeqAt.canLay_of_shaped (okD_of c1).2) (room_in (okD_of c1).2 hu) (fin (okD_of c1).2)
      | frz _ => cases hl; exact SeqAt.in_list_reads r2 r1 (SeqAt.canLay_of_shaped (okD_of c2).2) (SeqAt.canLay_of_shaped (okD_of c1).2) (room_in (okD_of c1).2 hu) (fin (okD_of c1).2)
      | _ => cases hl
    · cases e
  · cases e
theorem oNotIn (hu : X.A.units + 65 < cLine) : OpR X (compareOp .NotIn) (r2 X.K X.mg E (opIn true)) := by
  intro pins s σ H x y v u Q I rx ry ⟨F0, μ, h, a, b, rl, ra, rb, p⟩
  obtain ⟨d1, d2, d3, q1, q2, e, k⟩ := o2_ok rl ra rb p
  split at e
  · rename_i l hl
    split at e
    · rename_i hc
      cases e
      obtain ⟨c1, c2⟩ := bool2 hc
      obtain ⟨as, r1⟩ := Dp.reads I _ x v (dp_of (okD_of c1).1 q1) rx
      obtain ⟨bs, r2⟩ := Dp.reads I _ y u (dp_of (okD_of c2).1 q2) ry
      have fin : ∀ {t : PyData}, SeqAt.shaped t = true → EP X pins σ Q (.bool (!(pyL l).any fun y => PyData.eqv y (py d1))) s := fun _ => ⟨.bl _, H, I, rfl, k _ (.bl _)⟩
      cases d2 with
      | tup _ => cases hl; exact SeqAt.notIn_tuple_reads r2 r1 (SeqAt.canLay_of_shaped (okD_of c2).2) (SeqAt.canLay_of_shaped (okD_of c1).2) (room_in (okD_of c1).2 hu) (fin (okD_of c1).2)
      | lst _ => cases hl; exact SeqAt.notIn_list_reads r2 r1 (SeqAt.canLay_of_shaped (okD_of c2).2) (SeqAt.canLay_of_shaped (okD_of c1).2) (room_in (okD_of c1).2 hu) (fin (okD_of c1).2)
      | frz _ => cases hl; exact SeqAt.notIn_list_reads r2 r1 (SeqAt.canLay_of_shaped (okD_of c2).2) (SeqAt.canLay_of_shaped (okD_of c1).2) (room_in (okD_of c1).2 hu) (fin (okD_of c1).2)
      | _ => cases hl
    · cases e
  · cases e
/-- one sign in a text -/
def opInS : W → W → M W := o2 fun x y => match x, y with
  | .str c, .str z => match c.cps.toList with
    | [k] => some (.bl (decide (k ∈ z.cps.toList)))
    | _ => none
  | _, _ => none
theorem str_one {c : Str} {k : Nat} (h : c.cps.toList = [k]) : c = ⟨#[k]⟩ := by
  cases c with
  | mk a =>
    have : a.toList = [k] := h
    have e : a = #[k] := by
      cases a
      simp at this
      rw [this]
    rw [e]
theorem oInS : OpR X (compareOp .In) (r2 X.K X.mg E opInS) := by
  intro pins s σ H x y v u Q I rx ry ⟨F0, μ, h, a, b, rl, ra, rb, p⟩
  obtain ⟨d1, d2, d3, q1, q2, e, k⟩ := o2_ok rl ra rb p
  split at e
  · split at e
    · rename_i hk
      cases e
      cases q1.s
      cases q2.s
      exact op_in_sign pins s σ H _ _ v u Q I rx ry ⟨_, _, by rw [str_one hk], rfl, k _ (.bl _)⟩
    · cases e
  · cases e
/-- < of ints, of tuples of ints -/
def intsD : List D → Option (List Int)
  | [] => some []
  | .int i :: l => (intsD l).map (i :: ·)
  | _ :: _ => none
theorem intsD_map (l : List Int) : intsD (l.map .int) = some l := by
  induction l with
  | nil => rfl
  | cons x l ih =>
    show (intsD (l.map .int)).map (x :: ·) = _
    rw [ih] <;> rfl
theorem intsD_eq : ∀ {l : List D} {ns : List Int}, intsD l = some ns → l = ns.map .int
  | [], _, e => by cases e; rfl
  | .int i :: l, _, e => by
    have e : (intsD l).map (i :: ·) = some _ := e
    cases z : intsD l with
    | none => rw [z] at e; cases e
    | some ms =>
      rw [z] at e
      cases e
      rw [intsD_eq z]
      rfl
  | .non :: _, _, e => by cases e
  | .bl _ :: _, _, e => by cases e
  | .str _ :: _, _, e => by cases e
  | .tup _ :: _, _, e => by cases e
  | .lst _ :: _, _, e => by cases e
  | .frz _ :: _, _, e => by cases e
  | .dic _ :: _, _, e => by cases e
  | .ins _ _ :: _, _, e => by cases e
  | .glb _ :: _, _, e => by cases e
  | .ty _ :: _, _, e => by cases e
theorem rep_ints {K : PySem.W.Frag} {mg : Mg} {A : Addr → Prop} {H : Hp} : ∀ {ns : List Int} {vs : List V}, RepL K mg A H (ns.map .int) vs → vs = ns.map .int
  | [], _, r => by cases r; rfl
  | n :: ns, _, r => by
    cases r with
    | cons r q => rw [r.i, rep_ints q]; rfl
def opLtA : W → W → M W := o2 fun x y => match x, y with
  | .int i, .int j => some (.bl (decide (i < j)))
  | .tup a, .tup b => (intsD a).bind fun ns => (intsD b).map fun ms => .bl (HT.lexLt ns ms)
  | _, _ => none
theorem oLtA (hu : X.A.units < cLine) : OpR X (compareOp .Lt) (r2 X.K X.mg E opLtA) := by
  intro pins s σ H x y v u Q I rx ry ⟨F0, μ, h, a, b, rl, ra, rb, p⟩
  obtain ⟨d1, d2, d3, q1, q2, e, k⟩ := o2_ok rl ra rb p
  split at e
  · cases e
    cases q1.i
    cases q2.i
    exact L2.op_lt pins s σ H _ _ v u Q I rx ry ⟨_, _, rfl, rfl, k _ (.bl _)⟩
  · rename_i l1 l2
    cases z1 : intsD l1 with
    | none => rw [z1] at e; cases e
    | some ns =>
      rw [z1] at e
      cases z2 : intsD l2 with
      | none => rw [z2] at e; cases e
      | some ms =>
        rw [z2] at e
        cases e
        obtain ⟨pa, xs, rfl, r1, h1⟩ := tup_cases q1
        obtain ⟨pb, ys, rfl, r2, h2⟩ := tup_cases q2
        rw [intsD_eq z1] at r1
        rw [intsD_eq z2] at r2
        cases rep_ints r1
        cases rep_ints r2
        exact op_ltT hu pins s σ H _ _ v u Q I rx ry ⟨pa, pb, ns, ms, rfl, rfl, seqT_of (A := fun _ => True) h1, seqT_of (A := fun _ => True) h2, k _ (.bl _)⟩
  · cases e
/-- + of ints, texts, tuples, lists -/
def opAddO : W → W → Option W
  | .d (.int i), .d (.int j) => some (.d (.int (i + j)))
  | .d (.str i), .d (.str j) => if i.length + j.length ≤ 100000 then some (.d (.str (i ++ j))) else none
  | .d (.tup a), .d (.tup b) => if a.length + b.length ≤ 100000 then some (.d (.tup (a ++ b))) else none
  | .d (.lst a), .d (.lst b) => if a.length + b.length ≤ 100000 then some (.d (.lst (a ++ b))) else none
  | _, _ => none
def opAdd : W → W → M W := fun a b => oM (opAddO a b)
theorem oAdd : OpR X (binaryOp .Add) (r2 X.K X.mg E opAdd) := by
  intro pins s σ H x y v u Q I rx ry ⟨F0, μ, h, a, b, rl, ra, rb, p⟩
  obtain ⟨w, e, k⟩ := oM_ok p
  unfold opAddO at e
  split at e
  · cases e
    cases RepD.i ra
    cases RepD.i rb
    exact L2.op_add pins s σ H _ _ v u Q I rx ry ⟨_, _, rfl, rfl, k μ H (.refl _ _) rl _ (RepD.int _)⟩
  · split at e
    · cases e
      cases RepD.s ra
      cases RepD.s rb
      rename_i hl
      exact op_add_str pins s σ H _ _ v u Q I rx ry ⟨_, _, rfl, rfl, len_ok hl, k μ H (.refl _ _) rl _ (RepD.str _)⟩
    · cases e
  · split at e
    · rename_i l1 l2 hl
      cases e
      have ra' : RepD X.K X.mg (Av F0 μ) H (.tup l1) x := ra
      have rb' : RepD X.K X.mg (Av F0 μ) H (.tup l2) y := rb
      obtain ⟨pa, xs, rfl, r1, h1⟩ := tup_cases ra'
      obtain ⟨pb, ys, rfl, r2, h2⟩ := tup_cases rb'
      refine op_catA pins s σ H _ _ v u Q I rx ry ⟨pa, pb, xs, ys, rfl, rfl, seqT_of h1, seqT_of h2, by rw [r1.length, r2.length]; exact len_ok hl, fun z => ?_, fun _ z => ?_, fun _ _ q hq => ?_⟩
      · subst z
        cases r1
        exact k μ H (.refl _ _) rl _ rb
      · subst z
        cases r2
        rw [List.append_nil] at k
        exact k μ H (.refl _ _) rl _ ra
      · exact k _ _ (.fresh hq) (rl.fresh hq) _ (newT rl hq (r1.append r2))
    · cases e
  · split at e
    · rename_i l1 l2 hl
      cases e
      have ra' : RepD X.K X.mg (Av F0 μ) H (.lst l1) x := ra
      have rb' : RepD X.K X.mg (Av F0 μ) H (.lst l2) y := rb
      obtain ⟨pa, xs, rfl, h1, r1⟩ := ra'.l
      obtain ⟨pb, ys, rfl, h2, r2⟩ := rb'.l
      exact op_cat pins s σ H _ _ v u Q I rx ry ⟨pa, pb, xs, ys, rfl, rfl, h1, h2, by rw [r1.length, r2.length]; exact len_ok hl, fun q hq => k _ _ (.fresh hq) (rl.fresh hq) _ (newL rl hq (r1.append r2))⟩
    · cases e
  · cases e

/-! ### subscripts -/
/-- an item: of a tuple, a list, a text; of a list that may change -/
def opIx : W → W → M W := fun a b h => match b with
  | .d (.int i) => match a with
    | .d (.str z) => if z.length ≤ 100000 then match atI z.cps.toList i with
        | some c => .ok (.d (.str ⟨#[c]⟩)) h
        | none => .st
      else .st
    | .d d => match (items d).bind fun l => atI l i with
      | some x => .ok (.d x) h
      | none => .st
    | .ref n => match h[n]? with
      | some (.lst ws) => match atI ws i with
        | some w => .ok w h
        | none => .st
      | _ => .st
  | _ => .st
theorem RepWs.get {K : PySem.W.Frag} {mg : Mg} {F0 : Addr → Prop} {μ : Mu} {H : Hp} : ∀ {ws : List W} {vs : List V} {i : Nat} {w : W}, RepWs K mg F0 μ H ws vs → ws[i]? = some w → ∃ v, vs[i]? = some v ∧ RepW K mg F0 μ H w v
  | _, _, i, _, .nil, e => by simp at e
  | _, _, 0, _, .cons h _, e => by simp at e; subst e; exact ⟨_, rfl, h⟩
  | _, _, i + 1, w, .cons _ r, e => by
    obtain ⟨v, h1, h2⟩ := r.get (i := i) (w := w) (by simpa using e)
    exact ⟨v, by simpa using h1, h2⟩
theorem atI_len {α β : Type} {xs : List α} {ys : List β} {i : Int} {x : α} (hl : ys.length = xs.length) (e : atI xs i = some x) : ∃ j : Nat, xs[j]? = some x ∧ ∀ y, ys[j]? = some y → atI ys i = some y := by
  unfold atI at e
  cases z : ixN xs.length i with
  | none => rw [z] at e; cases e
  | some j =>
    rw [z] at e
    refine ⟨j, e, fun y hy => ?_⟩
    unfold atI
    rw [hl, z]
    exact hy
theorem ixSeq (d : D) {i : Int} {F0 : Addr → Prop} {μ : Mu} {H : Hp} {v : V} {d' : D} (r : RepD X.K X.mg (Av F0 μ) H d v) (e : ((items d).bind fun l => atI l i) = some d') {Q : VK} (k : ∀ v, RepD X.K X.mg (Av F0 μ) H d' v → Q v H) : rIx X.K v (.int i) H Q := by
  cases z : items d with
  | none => rw [z] at e; cases e
  | some l =>
    rw [z] at e
    obtain ⟨a, xs, rfl, hs, rr⟩ := r.seq z
    obtain ⟨j, h1, h2⟩ := atI_len rr.length e
    obtain ⟨v', g1, g2⟩ := rr.getD h1
    rcases hs with hs | hs
    · exact .inl ⟨a, xs, i, v', rfl, rfl, hs, h2 v' g1, k v' g2⟩
    · exact .inr (.inl ⟨a, xs, i, v', rfl, rfl, hs, h2 v' g1, k v' g2⟩)
theorem oIx : IxR X (r2 X.K X.mg E opIx) := by
  intro value slice pins s σ H x y v u Q I rx ry ⟨F0, μ, h, a, b, rl, ra, rb, p⟩ hs
  refine ix_seq value slice pins s σ H x y v u Q I rx ry ?_ hs
  unfold opIx at p
  split at p
  · cases RepD.i rb
    split at p
    · split at p
      · split at p
        · rename_i hz _ c hc
          cases RepD.s ra
          exact .inr (.inr ⟨_, _, c, rfl, rfl, len_ok hz, hc, p μ H (.refl _ _) rl _ (RepD.str _)⟩)
        · exact p.elim
      · exact p.elim
    · split at p
      · rename_i hx
        exact ixSeq _ ra hx fun v r => p μ H (.refl _ _) rl v r
      · exact p.elim
    · rename_i n
      split at p
      · rename_i ws hn
        split at p
        · rename_i w hw
          have hn' : n < μ.length := ra.1
          cases z : μ[n]'hn' with
          | none =>
            have := rl.dd n (by rw [List.getElem?_eq_getElem hn', z])
            rw [hn] at this
            cases this
          | some a =>
            have z' : μ[n]? = some (some a) := by rw [List.getElem?_eq_getElem hn', z]
            obtain ⟨vs, g1, g2⟩ := rl.ob n a _ z' hn
            rw [ra.2 a z']
            obtain ⟨j, h1, h2⟩ := atI_len g2.length hw
            obtain ⟨v', k1, k2⟩ := g2.get h1
            exact .inl ⟨a, vs, _, v', rfl, rfl, .of g1, h2 v' k1, p μ H (.refl _ _) rl v' k2⟩
        · exact p.elim
      · exact p.elim
  · exact p.elim
end
end DD

set_option Elab.async false
set_option linter.all false
set_option maxRecDepth 100000
set_option maxHeartbeats 1000000
/-! DD8: slices, tuple(), list(), all, any, methods of lists, dicts by texts. -/
namespace DD
open PySem L2
section
variable {X : Cx} {E : Option XK} {m m1 m2 : Env → M W} {n : Env → M (List W)} {e e1 e2 : Expr} {es : List Expr} {pos : Pos}

/-! ### slices -/
def xO (X : Cx) (E : Option XK) (m : Env → M (Option Int)) : TO := fun σ H Q => ∃ F0 μ ρ h, Rl X.K X.mg F0 μ h H ∧ EnvR X.K X.mg F0 μ H ρ σ ∧ Post X.K X.mg F0 E μ H (fun o _ _ H' => Q o H') (m ρ h)
def mNo : Env → M (Option Int) := fun _ => pu none
def asIO : W → Option Int
  | .d (.int i) => some i
  | _ => none
def mSome (m : Env → M W) : Env → M (Option Int) := fun ρ => bd (m ρ) fun w => bd (oM (asIO w)) fun i => pu (some i)
theorem asIO_eq {w : W} {i : Int} (e : asIO w = some i) : w = .d (.int i) := by
  unfold asIO at e
  split at e
  · cases e; rfl
  · cases e
theorem PO.to {e : Option Expr} {t t' : TO} (h : PO X e t) (w : ∀ σ H Q, t' σ H Q → t σ H Q) : PO X e t' := ⟨fun pins s σ H Q I q => h.run pins s σ H Q I (w σ H Q q)⟩
theorem doNo : PO X none (xO X E mNo) := PO.to po_none fun σ H Q ⟨F0, μ, ρ, h, rl, en, p⟩ => p μ H (.refl _ _) rl
theorem doSome (h : PE X e (xE X E m)) : PO X (some e) (xO X E (mSome m)) := PO.to (po_some h) fun σ H Q ⟨F0, μ, ρ, h, rl, en, p⟩ =>
  ⟨F0, μ, ρ, h, rl, en, (Post.bd p).imp fun w h1 μ1 H1 s1 rl1 p1 v r => by
    obtain ⟨i, ei, p2⟩ := oM_ok (Post.bd p1)
    cases asIO_eq ei
    exact ⟨i, RepD.i r, p2 μ1 H1 (.refl _ _) rl1 μ1 H1 (.refl _ _) rl1⟩⟩
def cutD (xs : List D) (lo hi : Option Int) : List D := (xs.drop (HT.sIx xs.length 0 lo)).take (HT.sIx xs.length xs.length hi - HT.sIx xs.length 0 lo)
def opSlO (w : W) (lo hi : Option Int) : Option W := match w with
  | .d (.tup l) => some (.d (.tup (cutD l lo hi)))
  | .d (.lst l) => some (.d (.lst (cutD l lo hi)))
  | .d (.frz l) => some (.d (.lst (cutD l lo hi)))
  | .d (.str z) => if z.length ≤ 100000 then some (.d (.str (cutS z lo hi))) else none
  | _ => none
def mSl (m : Env → M W) (lo hi : Env → M (Option Int)) : Env → M W := fun ρ => bd (m ρ) fun w => bd (lo ρ) fun l => bd (hi ρ) fun u => oM (opSlO w l u)
theorem cut_rep {K : PySem.W.Frag} {mg : Mg} {A : Addr → Prop} {H : Hp} {l : List D} {xs : List V} (lo hi : Option Int) (r : RepL K mg A H l xs) : RepL K mg A H (cutD l lo hi) (cutV xs lo hi) := by
  unfold cutD cutV
  rw [r.length]
  exact (r.drop _).take _
theorem cut_whole {K : PySem.W.Frag} {mg : Mg} {A : Addr → Prop} {H : Hp} {l : List D} {xs : List V} {lo hi : Option Int} (r : RepL K mg A H l xs) (h : HT.sIx xs.length 0 lo = 0 ∧ HT.sIx xs.length xs.length hi = xs.length) : cutD l lo hi = l := by
  unfold cutD
  rw [← r.length, h.1, h.2, List.drop_zero]
  exact List.take_of_length_le (by rw [r.length]; omega)
theorem dSl {lo hi : Option Expr} {ml mh : Env → M (Option Int)} {p2 : Pos} (he : PE X e (xE X E m)) (hl : PO X lo (xO X E ml)) (hh : PO X hi (xO X E mh)) : PE X (.Subscript e (.Slice lo hi none p2) pos) (xE X E (mSl m ml mh)) :=
  (pe_slice (sl_tupA.or (sl_list.or sl_str)) he hl hh).to fun σ H Q ⟨F0, μ, ρ, h, rl, en, p⟩ =>
    ⟨F0, μ, ρ, h, rl, en, (Post.bd p).imp fun w h1 μ1 H1 s1 rl1 p1 v r => ⟨F0, μ1, ρ, h1, rl1, en.step s1, (Post.bd p1).imp fun l h2 μ2 H2 s2 rl2 p2 =>
      ⟨F0, μ2, ρ, h2, rl2, (en.step s1).step s2, (Post.bd p2).imp fun u h3 μ3 H3 s3 rl3 p3 => by
        have r3 := (r.step s2).step s3
        obtain ⟨w', e', k⟩ := oM_ok p3
        unfold opSlO at e'
        split at e'
        · cases e'
          obtain ⟨a, xs, rfl, rr, hh⟩ := tup_cases r3
          refine .inl ⟨a, xs, rfl, seqT_of hh, fun z => ?_, fun _ q hq => k _ _ (.fresh hq) (rl3.fresh hq) _ (newT rl3 hq (cut_rep l u rr))⟩
          rw [cut_whole rr z] at k
          exact k _ _ (.refl _ _) rl3 _ r3
        · cases e'
          obtain ⟨a, xs, rfl, rr, hh⟩ := lst_cases r3
          exact .inr (.inl ⟨a, xs, rfl, seqL_of hh, fun q hq => k _ _ (.fresh hq) (rl3.fresh hq) _ (newL rl3 hq (cut_rep l u rr))⟩)
        · cases e'
          obtain ⟨a, xs, rfl, hh, rr⟩ := RepD.f r3
          exact .inr (.inl ⟨a, xs, rfl, hh, fun q hq => k _ _ (.fresh hq) (rl3.fresh hq) _ (newL rl3 hq (cut_rep l u rr))⟩)
        · split at e'
          · rename_i hz
            cases e'
            cases RepD.s r3
            exact .inr (.inr ⟨_, rfl, len_ok hz, k _ _ (.refl _ _) rl3 _ (RepD.str _)⟩)
          · cases e'
        · cases e'⟩⟩⟩
/-- xs[::-1], that may change from then on -/
def revR (w : W) : M W := match w with
  | .d (.lst l) => alc (.lst (l.reverse.map .d))
  | _ => stk
def mRevR (m : Env → M W) : Env → M W := fun ρ => bd (m ρ) revR
theorem RepL.reverse {K : PySem.W.Frag} {mg : Mg} {A : Addr → Prop} {H : Hp} : ∀ {l : List D} {xs : List V}, RepL K mg A H l xs → RepL K mg A H l.reverse xs.reverse
  | _, _, .nil => .nil
  | _, _, .cons r q => by
    rw [List.reverse_cons, List.reverse_cons]
    exact q.reverse.append (.cons r .nil)
theorem dRevR {k : Nat} {p1 p2 p3 : Pos} (he : PE X e (xE X E m)) : PE X (.Subscript e (.Slice none none (some (.UnaryOp .USub (.Constant (.int 1) k p1) p2)) p3) pos) (xE X E (mRevR m)) := (pe_revL he).to fun σ H Q ⟨F0, μ, ρ, h, rl, en, p⟩ =>
  ⟨F0, μ, ρ, h, rl, en, (Post.bd p).imp fun w h1 μ1 H1 s1 rl1 p1 v r => by
    unfold revR at p1
    split at p1
    · obtain ⟨a, xs, rfl, rr, hh⟩ := lst_cases r
      refine ⟨a, xs, rfl, seqL_of hh, fun q hq => ?_⟩
      exact p1 _ _ (.push hq) (rl1.push hq ⟨xs.reverse, upd_same, (reps_of rr.reverse).step (.push hq)⟩) _ (newR rl1)
    · exact p1.elim⟩

/-! ### a sequence's items -/
def itsW (h : List O) : W → Option (List D)
  | .d x => items x
  | .ref n => match h[n]? with
    | some (.lst ws) => datas ws
    | _ => none
theorem itsW_rep {F0 : Addr → Prop} {μ : Mu} {h : List O} {H : Hp} {w : W} {l : List D} {v : V} (rl : Rl X.K X.mg F0 μ h H) (e : itsW h w = some l) (r : RepW X.K X.mg F0 μ H w v) :
    ∃ a xs, v = .ref a ∧ RepL X.K X.mg (Av F0 μ) H l xs ∧ (SqL X.K H a xs ∨ (SqT X.K H a xs ∧ w = .d (.tup l))) := by
  cases w with
  | d x =>
    cases x with
    | tup l' => cases e; obtain ⟨a, xs, rfl, rr, hh⟩ := tup_cases r; exact ⟨a, xs, rfl, rr, .inr ⟨seqT_of hh, rfl⟩⟩
    | lst l' => cases e; obtain ⟨a, xs, rfl, rr, hh⟩ := lst_cases r; exact ⟨a, xs, rfl, rr, .inl (seqL_of hh)⟩
    | frz l' => cases e; obtain ⟨a, xs, rfl, hh, rr⟩ := RepD.f r; exact ⟨a, xs, rfl, rr, .inl hh⟩
    | _ => cases e
  | ref n =>
    have e : (match h[n]? with | some (.lst ws) => datas ws | _ => none) = some l := e
    split at e
    · rename_i ws hn
      obtain ⟨a, q1, q2⟩ := rl.live (d := .lst l) hn (by show (datas ws).map D.lst = _; rw [e]; rfl)
      obtain ⟨vs, g1, g2⟩ := q2
      exact ⟨a, vs, r.2 a q1, datas_rep e g2, .inl (.of g1)⟩
    · cases e
def its (w : W) : M (List D) := fun h => match itsW h w with
  | some l => .ok l h
  | none => .st
theorem its_ok {α : Type} {K : PySem.W.Frag} {mg : Mg} {F0 : Addr → Prop} {E : Option XK} {μ : Mu} {H : Hp} {h : List O} {P : α → List O → Mu → Hp → Prop} {w : W} {f : List D → M α} (p : Post K mg F0 E μ H P (bd (its w) f h)) : ∃ l, itsW h w = some l ∧ Post K mg F0 E μ H P (f l h) := by
  cases e : itsW h w with
  | none =>
    have z : bd (its w) f h = .st := by
      unfold bd its
      rw [e]
    rw [z] at p
    exact p.elim
  | some d =>
    have z : bd (its w) f h = f d h := by
      unfold bd its
      rw [e]
    rw [z] at p
    exact ⟨d, rfl, p⟩
theorem its_d {x : D} {l : List D} (e : items x = some l) : its (.d x) = pu l := by
  funext h
  unfold its
  rw [show itsW h (.d x) = some l from e]
  rfl
/-- tuple(x), list(x) -/
def bTuple : List W → M W
  | [w] => bd (its w) fun l => pu (.d (.tup l))
  | _ => stk
def bList : List W → M W
  | [w] => bd (its w) fun l => pu (.d (.lst l))
  | _ => stk
def bListR : List W → M W
  | [w] => bd (its w) fun l => alc (.lst (l.map .d))
  | _ => stk
theorem one_of {K : PySem.W.Frag} {mg : Mg} {F0 : Addr → Prop} {μ : Mu} {H : Hp} {ws : List W} {vs : List V} (rs : RepWs K mg F0 μ H ws vs) : (∃ w v, ws = [w] ∧ vs = [v] ∧ RepW K mg F0 μ H w v) ∨ ∀ w, ws ≠ [w] := by
  cases rs with
  | nil => exact .inr fun w z => by cases z
  | cons r rs =>
    cases rs with
    | nil => exact .inl ⟨_, _, rfl, rfl, r⟩
    | cons _ _ => exact .inr fun w z => by cases z
theorem cTuple : CallR X (.type "tuple") (rA X.K X.mg E bTuple) := by
  intro pins s σ H xs us Q I r ⟨F0, μ, h, as, rl, rs, p⟩
  unfold bTuple at p
  split at p
  · cases rs with
    | cons r1 rs =>
      cases rs
      obtain ⟨l, e, p⟩ := its_ok p
      obtain ⟨a, ys, rfl, rr, hh⟩ := itsW_rep rl e r1
      refine call_tuple_of pins s σ H _ us Q I r ⟨a, ys, rfl, ?_⟩
      rcases hh with hh | ⟨hh, rfl⟩
      · exact .inl ⟨hh, fun q hq => p _ _ (.fresh hq) (rl.fresh hq) _ (newT rl hq rr)⟩
      · exact .inr ⟨hh, p _ _ (.refl _ _) rl _ r1⟩
  · exact p.elim
theorem cList : CallR X (.type "list") (rA X.K X.mg E bList) := by
  intro pins s σ H xs us Q I r ⟨F0, μ, h, as, rl, rs, p⟩
  unfold bList at p
  split at p
  · cases rs with
    | cons r1 rs =>
      cases rs
      obtain ⟨l, e, p⟩ := its_ok p
      obtain ⟨a, ys, rfl, rr, hh⟩ := itsW_rep rl e r1
      exact call_list_of pins s σ H _ us Q I r ⟨a, ys, rfl, hh.imp id (·.1), fun q hq => p _ _ (.fresh hq) (rl.fresh hq) _ (newL rl hq rr)⟩
  · exact p.elim
theorem cListR : CallR X (.type "list") (rA X.K X.mg E bListR) := by
  intro pins s σ H xs us Q I r ⟨F0, μ, h, as, rl, rs, p⟩
  unfold bListR at p
  split at p
  · cases rs with
    | cons r1 rs =>
      cases rs
      obtain ⟨l, e, p⟩ := its_ok p
      obtain ⟨a, ys, rfl, rr, hh⟩ := itsW_rep rl e r1
      exact call_list_of pins s σ H _ us Q I r ⟨a, ys, rfl, hh.imp id (·.1), fun q hq => p _ _ (.push hq) (rl.push hq ⟨ys, upd_same, (reps_of rr).step (.push hq)⟩) _ (newR rl)⟩
  · exact p.elim
/-- int(x) -/
def bInt : List W → M W := b1 fun d => match d with
  | .int i => some (.int i)
  | .bl b => some (.int (if b then 1 else 0))
  | _ => none
theorem cInt : CallR X (.type "int") (rA X.K X.mg E bInt) := by
  intro pins s σ H xs us Q I r ⟨F0, μ, h, as, rl, rs, p⟩
  obtain ⟨v, d1, d3, rfl, q1, e, k⟩ := b1_ok rl rs p
  split at e
  · cases e
    cases q1.i
    exact call_int1 pins s σ H _ us Q I r (.inl ⟨_, rfl, k _ (.int _)⟩)
  · cases e
    cases q1.b
    exact call_int1 pins s σ H _ us Q I r (.inr ⟨_, rfl, k _ (.int _)⟩)
  · cases e
/-- all, any of a list of truth values -/
def boolsD : List D → Option (List Bool)
  | [] => some []
  | .bl b :: l => (boolsD l).map (b :: ·)
  | _ :: _ => none
theorem rep_bools {K : PySem.W.Frag} {mg : Mg} {A : Addr → Prop} {H : Hp} : ∀ {l : List D} {bs : List Bool} {vs : List V}, boolsD l = some bs → RepL K mg A H l vs → vs = bs.map .bl
  | [], _, _, e, r => by cases e; cases r; rfl
  | .bl b :: l, _, _, e, r => by
    have e : (boolsD l).map (b :: ·) = some _ := e
    cases z : boolsD l with
    | none => rw [z] at e; cases e
    | some bs =>
      rw [z] at e
      cases e
      cases r with
      | cons r q => rw [r.b, rep_bools z q]; rfl
  | .non :: _, _, _, e, _ => by cases e
  | .int _ :: _, _, _, e, _ => by cases e
  | .str _ :: _, _, _, e, _ => by cases e
  | .tup _ :: _, _, _, e, _ => by cases e
  | .lst _ :: _, _, _, e, _ => by cases e
  | .frz _ :: _, _, _, e, _ => by cases e
  | .dic _ :: _, _, _, e, _ => by cases e
  | .ins _ _ :: _, _, _, e, _ => by cases e
  | .glb _ :: _, _, _, e, _ => by cases e
  | .ty _ :: _, _, _, e, _ => by cases e
theorem boolsD_map (l : List Bool) : boolsD (l.map .bl) = some l := by
  induction l with
  | nil => rfl
  | cons x l ih =>
    show (boolsD (l.map .bl)).map (x :: ·) = _
    rw [ih] <;> rfl
/-- of a list's items -/
def lstD (f : List D → Option D) : D → Option D
  | .lst l => f l
  | .frz l => f l
  | _ => none
def bAll : List W → M W := b1 (lstD fun l => (boolsD l).map fun bs => .bl (bs.all id))
def bAny : List W → M W := b1 (lstD fun l => (boolsD l).map fun bs => .bl (bs.any id))
theorem lstD_ok {f : List D → Option D} {K : PySem.W.Frag} {mg : Mg} {A : Addr → Prop} {H : Hp} {d d' : D} {v : V} (e : lstD f d = some d') (r : RepD K mg A H d v) : ∃ a xs l, v = .ref a ∧ SqL K H a xs ∧ RepL K mg A H l xs ∧ f l = some d' := by
  unfold lstD at e
  split at e
  · obtain ⟨a, xs, rfl, hh, rr⟩ := r.l; exact ⟨a, xs, _, rfl, .of hh, rr, e⟩
  · obtain ⟨a, xs, rfl, hh, rr⟩ := r.f; exact ⟨a, xs, _, rfl, hh, rr, e⟩
  · cases e
theorem cAll (hc : X.calm = true) : CallR X (.builtin "all") (rA X.K X.mg E bAll) := by
  intro pins s σ H xs us Q I r ⟨F0, μ, h, as, rl, rs, p⟩
  obtain ⟨v, d1, d3, rfl, q1, e, k⟩ := b1_ok rl rs p
  obtain ⟨a, ys, l, rfl, hh, rr, e⟩ := lstD_ok e q1
  cases z : boolsD l with
  | none => rw [z] at e; cases e
  | some bs =>
    rw [z] at e
    cases e
    cases rep_bools z rr
    exact cr_all hc pins s σ H _ us Q I r ⟨a, bs, rfl, hh, k _ (.bl _)⟩
theorem cAny (hc : X.calm = true) : CallR X (.builtin "any") (rA X.K X.mg E bAny) := by
  intro pins s σ H xs us Q I r ⟨F0, μ, h, as, rl, rs, p⟩
  obtain ⟨v, d1, d3, rfl, q1, e, k⟩ := b1_ok rl rs p
  obtain ⟨a, ys, l, rfl, hh, rr, e⟩ := lstD_ok e q1
  cases z : boolsD l with
  | none => rw [z] at e; cases e
  | some bs =>
    rw [z] at e
    cases e
    cases rep_bools z rr
    exact cr_any hc pins s σ H _ us Q I r ⟨a, bs, rfl, hh, k _ (.bl _)⟩
/-- sum, of a list of ints -/
def bSum : List W → M W := b1 (lstD fun l => (intsD l).map fun ns => .int ns.sum)
theorem cSum (hc : X.calm = true) : CallR X (.builtin "sum") (rA X.K X.mg E bSum) := by
  intro pins s σ H xs us Q I r ⟨F0, μ, h, as, rl, rs, p⟩
  obtain ⟨v, d1, d3, rfl, q1, e, k⟩ := b1_ok rl rs p
  obtain ⟨a, ys, l, rfl, hh, rr, e⟩ := lstD_ok e q1
  cases z : intsD l with
  | none => rw [z] at e; cases e
  | some bs =>
    rw [z] at e
    cases e
    rw [intsD_eq z] at rr
    cases rep_ints rr
    exact cr_sum hc pins s σ H _ us Q I r ⟨a, bs, rfl, hh, k _ (.int _)⟩

/-! ### methods of a list that may change -/
def lsR (w : W) : M Nat := fun h => match w with
  | .ref n => match h[n]? with
    | some (.lst _) => .ok n h
    | _ => .st
  | .d _ => .st
def rM (X : Cx) (E : Option XK) (op : Nat → List W → M W) : V → List V → Hp → VK → Prop := fun x xs H Q => ∃ F0 μ h k ws, Rl X.K X.mg F0 μ h H ∧ RepW X.K X.mg F0 μ H (.ref k) x ∧ RepWs X.K X.mg F0 μ H ws xs ∧ Post X.K X.mg F0 E μ H (QW X.K X.mg F0 Q) (op k ws h)
def mMeth (op : Nat → List W → M W) (m : Env → M W) (n : Env → M (List W)) : Env → M W := fun ρ => bd (m ρ) fun w => bd (lsR w) fun k => bd (n ρ) fun ws => op k ws
theorem lsR_ok {α : Type} {F0 : Addr → Prop} {μ : Mu} {H : Hp} {h : List O} {P : α → List O → Mu → Hp → Prop} {w : W} {f : Nat → M α} {v : V} (rl : Rl X.K X.mg F0 μ h H) (r : RepW X.K X.mg F0 μ H w v) (p : Post X.K X.mg F0 E μ H P (bd (lsR w) f h)) :
    ∃ n a vs, w = .ref n ∧ v = .ref a ∧ μ[n]? = some (some a) ∧ H a = some (.lst vs) ∧ Post X.K X.mg F0 E μ H P (f n h) := by
  cases w with
  | d x => exact p.elim
  | ref n =>
    cases z : h[n]? with
    | none =>
      have y : bd (lsR (.ref n)) f h = .st := by
        unfold bd lsR
        simp only [z]
      rw [y] at p
      exact p.elim
    | some o =>
      cases o with
      | lst ws =>
        have y : bd (lsR (.ref n)) f h = f n h := by
          unfold bd lsR
          simp only [z]
        rw [y] at p
        have hn' : n < μ.length := r.1
        cases z2 : μ[n]'hn' with
        | none =>
          have := rl.dd n (by rw [List.getElem?_eq_getElem hn', z2])
          rw [z] at this
          cases this
        | some a =>
          have z' : μ[n]? = some (some a) := by rw [List.getElem?_eq_getElem hn', z2]
          obtain ⟨vs, g1, g2⟩ := rl.ob n a _ z' z
          exact ⟨n, a, vs, rfl, r.2 a z', z', g1, p⟩
      | dic ws =>
        have y : bd (lsR (.ref n)) f h = .st := by
          unfold bd lsR
          simp only [z]
        rw [y] at p
        exact p.elim
      | ins c ws =>
        have y : bd (lsR (.ref n)) f h = .st := by
          unfold bd lsR
          simp only [z]
        rw [y] at p
        exact p.elim
      | dead =>
        have y : bd (lsR (.ref n)) f h = .st := by
          unfold bd lsR
          simp only [z]
        rw [y] at p
        exact p.elim
theorem tMeth {op : Nat → List W → M W} (σ : L2.St) (H : Hp) (Q : VK) (q : xE X E (mMeth op m n) σ H Q) : tBM X.K "list" (rM X E op) (xE X E m) (xA X E n) σ H Q := by
  obtain ⟨F0, μ, ρ, h, rl, en, p⟩ := q
  refine ⟨F0, μ, ρ, h, rl, en, (Post.bd p).imp fun w h1 μ1 H1 s1 rl1 p1 v r => ?_⟩
  obtain ⟨k, a, vs, rfl, rfl, hm, hl, p2⟩ := lsR_ok rl1 r p1
  exact ⟨.inl ⟨rfl, vs, .of hl⟩, F0, μ1, ρ, h1, rl1, en.step s1, (Post.bd p2).imp fun ws h2 μ2 H2 s2 rl2 p3 xs rs => ⟨F0, μ2, h2, k, ws, rl2, r.step s2, rs, p3⟩⟩
theorem tMeth0 {op : Nat → List W → M W} (σ : L2.St) (H : Hp) (Q : VK) (q : xE X E (mMeth op m mNil) σ H Q) : tBM0 X.K "list" (rM X E op) (xE X E m) σ H Q := by
  obtain ⟨F0, μ, ρ, h, rl, en, p⟩ := q
  refine ⟨F0, μ, ρ, h, rl, en, (Post.bd p).imp fun w h1 μ1 H1 s1 rl1 p1 v r => ?_⟩
  obtain ⟨k, a, vs, rfl, rfl, hm, hl, p2⟩ := lsR_ok rl1 r p1
  exact ⟨.inl ⟨rfl, vs, .of hl⟩, F0, μ1, h1, k, [], rl1, r, .nil, p2⟩
theorem liveL {F0 : Addr → Prop} {μ : Mu} {H : Hp} {h : List O} {k : Nat} {ws : List W} {x : V} (rl : Rl X.K X.mg F0 μ h H) (hk : h[k]? = some (.lst ws)) (r : RepW X.K X.mg F0 μ H (.ref k) x) : ∃ a vs, μ[k]? = some (some a) ∧ x = .ref a ∧ H a = some (.lst vs) ∧ RepWs X.K X.mg F0 μ H ws vs := by
  have hn' : k < μ.length := r.1
  cases z2 : μ[k]'hn' with
  | none =>
    have := rl.dd k (by rw [List.getElem?_eq_getElem hn', z2])
    rw [hk] at this
    cases this
  | some a =>
    have z' : μ[k]? = some (some a) := by rw [List.getElem?_eq_getElem hn', z2]
    obtain ⟨vs, g1, g2⟩ := rl.ob k a _ z' hk
    exact ⟨a, vs, z', r.2 a z', g1, g2⟩
theorem setL {F0 : Addr → Prop} {μ : Mu} {H : Hp} {h : List O} {k : Nat} {ws : List W} {vs : List V} {a : Addr} (rl : Rl X.K X.mg F0 μ h H) (hm : μ[k]? = some (some a)) (r : RepWs X.K X.mg F0 μ H ws vs) : Rl X.K X.mg F0 μ (h.set k (.lst ws)) (upd H a (.lst vs)) :=
  rl.write hm ⟨vs, upd_same, r.step (.write hm)⟩
def upL (f : List W → List W → Option (W × List W)) : Nat → List W → M W := fun k args h => match h[k]? with
  | some (.lst ws) => match f ws args with
    | some (w, ws') => .ok w (h.set k (.lst ws'))
    | none => .st
  | _ => .st
/-- a method that changes its list alone -/
theorem upL_ok {f : List W → List W → Option (W × List W)} {F0 : Addr → Prop} {μ : Mu} {H : Hp} {h : List O} {k : Nat} {args : List W} {x : V} {Q : VK} (rl : Rl X.K X.mg F0 μ h H) (r : RepW X.K X.mg F0 μ H (.ref k) x) (p : Post X.K X.mg F0 E μ H (QW X.K X.mg F0 Q) (upL f k args h)) :
    ∃ a ws vs w ws', h[k]? = some (.lst ws) ∧ x = .ref a ∧ H a = some (.lst vs) ∧ RepWs X.K X.mg F0 μ H ws vs ∧ f ws args = some (w, ws') ∧
      ∀ vs' v, RepWs X.K X.mg F0 μ H ws' vs' → RepW X.K X.mg F0 μ H w v → Q v (upd H a (.lst vs')) := by
  unfold upL at p
  split at p
  · rename_i ws hk
    split at p
    · rename_i w ws' hf
      obtain ⟨a, vs, hm, rfl, hl, rr⟩ := liveL rl hk r
      exact ⟨a, ws, vs, w, ws', hk, rfl, hl, rr, hf, fun vs' v r1 r2 => p _ _ (.write hm) (setL rl hm r1) v (r2.step (.write hm))⟩
    · exact p.elim
  · exact p.elim
def fAppend (ws args : List W) : Option (W × List W) := match args with
  | [w] => if ws.length < 100000 then some (.d .non, ws ++ [w]) else none
  | _ => none
def fPop (ws args : List W) : Option (W × List W) := match args with
  | [] => (ws[ws.length - 1]?).map fun w => (w, ws.dropLast)
  | _ => none
def fPopAt (ws args : List W) : Option (W × List W) := match args with
  | [.d (.int i)] => if 0 ≤ i ∧ i < 100000 then (ws[i.toNat]?).map fun w => (w, ws.eraseIdx i.toNat) else none
  | _ => none
def fInsert (ws args : List W) : Option (W × List W) := match args with
  | [.d (.int i), w] => if ws.length < 100000 ∧ 0 ≤ i ∧ i < 100000 then some (.d .non, ws.take i.toNat ++ [w] ++ ws.drop i.toNat) else none
  | _ => none
theorem RepWs.take {K : PySem.W.Frag} {mg : Mg} {F0 : Addr → Prop} {μ : Mu} {H : Hp} : ∀ {l : List W} {vs : List V} (n : Nat), RepWs K mg F0 μ H l vs → RepWs K mg F0 μ H (l.take n) (vs.take n)
  | _, _, 0, _ => by rw [List.take_zero, List.take_zero]; exact .nil
  | _, _, n + 1, .nil => .nil
  | _, _, n + 1, .cons h r => .cons h (RepWs.take n r)
theorem RepWs.drop {K : PySem.W.Frag} {mg : Mg} {F0 : Addr → Prop} {μ : Mu} {H : Hp} : ∀ {l : List W} {vs : List V} (n : Nat), RepWs K mg F0 μ H l vs → RepWs K mg F0 μ H (l.drop n) (vs.drop n)
  | _, _, 0, r => r
  | _, _, n + 1, .nil => .nil
  | _, _, n + 1, .cons _ r => RepWs.drop n r
theorem RepWs.dropLast {K : PySem.W.Frag} {mg : Mg} {F0 : Addr → Prop} {μ : Mu} {H : Hp} {l : List W} {vs : List V} (r : RepWs K mg F0 μ H l vs) : RepWs K mg F0 μ H l.dropLast vs.dropLast := by
  rw [List.dropLast_eq_take, List.dropLast_eq_take, r.length]
  exact r.take _
theorem RepWs.erase {K : PySem.W.Frag} {mg : Mg} {F0 : Addr → Prop} {μ : Mu} {H : Hp} : ∀ {l : List W} {vs : List V} (n : Nat), RepWs K mg F0 μ H l vs → RepWs K mg F0 μ H (l.eraseIdx n) (vs.eraseIdx n)
  | _, _, _, .nil => .nil
  | _, _, 0, .cons _ r => r
  | _, _, n + 1, .cons h r => .cons h (RepWs.erase n r)
theorem mAppend : MtR X "list.append" (rM X E (upL fAppend)) := by
  intro pins s σ H x xs v us Q I rx rxs ⟨F0, μ, h, k, args, rl, r, rs, p⟩
  obtain ⟨a, ws, vs, w, ws', hk, rfl, hl, rr, hf, kk⟩ := upL_ok rl r p
  unfold fAppend at hf
  split at hf
  · split at hf
    · rename_i hz
      cases hf
      cases rs with
      | cons r1 rs =>
        cases rs
        exact mt_append pins s σ H _ _ v us Q I rx rxs ⟨a, vs, _, rfl, rfl, hl, Nat.lt_of_lt_of_le (by rw [rr.length]; exact hz) (by decide), kk _ _ (rr.append (.cons r1 .nil)) RepD.non⟩
    · cases hf
  · cases hf
theorem mPop : MtR X "list.pop" (rM X E (upL fPop)) := by
  intro pins s σ H x xs v us Q I rx rxs ⟨F0, μ, h, k, args, rl, r, rs, p⟩
  obtain ⟨a, ws, vs, w, ws', hk, rfl, hl, rr, hf, kk⟩ := upL_ok rl r p
  unfold fPop at hf
  split at hf
  · cases z : ws[ws.length - 1]? with
    | none => rw [z] at hf; cases hf
    | some w0 =>
      rw [z] at hf
      cases hf
      cases rs
      obtain ⟨y, h1, h2⟩ := rr.get z
      exact mt_pop pins s σ H _ _ v us Q I rx rxs ⟨a, vs, y, rfl, rfl, hl, by rw [rr.length]; exact h1, kk _ _ rr.dropLast h2⟩
  · cases hf
theorem mPopAt : MtR X "list.pop" (rM X E (upL fPopAt)) := by
  intro pins s σ H x xs v us Q I rx rxs ⟨F0, μ, h, k, args, rl, r, rs, p⟩
  obtain ⟨a, ws, vs, w, ws', hk, rfl, hl, rr, hf, kk⟩ := upL_ok rl r p
  unfold fPopAt at hf
  split at hf
  · rename_i i
    split at hf
    · rename_i hi
      cases z : ws[i.toNat]? with
      | none => rw [z] at hf; cases hf
      | some w0 =>
        rw [z] at hf
        cases hf
        cases rs with
        | cons r1 rs =>
          cases rs
          cases RepD.i r1
          obtain ⟨y, h1, h2⟩ := rr.get z
          have hlt := (List.getElem?_eq_some_iff.mp h1).1
          exact mt_popAt pins s σ H _ _ v us Q I rx rxs ⟨a, vs, i, i.toNat, y, rfl, rfl, hl, by omega, by omega, (ixN_seq (n := vs.length) (i := i) (j := i.toNat) (by unfold ixN; rw [if_pos hi.1, if_pos (by omega)])).1, h1, kk _ _ (rr.erase _) h2⟩
    · cases hf
  · cases hf
theorem mInsert : MtR X "list.insert" (rM X E (upL fInsert)) := by
  intro pins s σ H x xs v us Q I rx rxs ⟨F0, μ, h, k, args, rl, r, rs, p⟩
  obtain ⟨a, ws, vs, w, ws', hk, rfl, hl, rr, hf, kk⟩ := upL_ok rl r p
  unfold fInsert at hf
  split at hf
  · rename_i i w0
    split at hf
    · rename_i hi
      cases hf
      cases rs with
      | cons r1 rs =>
        cases rs with
        | cons r2 rs =>
          cases rs
          cases RepD.i r1
          exact mt_insert pins s σ H _ _ v us Q I rx rxs ⟨a, vs, i, _, rfl, rfl, hl, Nat.lt_of_lt_of_le (by rw [rr.length]; exact hi.1) (by decide), hi.2.1, by omega, kk _ _ (((rr.take _).append (.cons r2 .nil)).append (rr.drop _)) RepD.non⟩
    · cases hf
  · cases hf
/-- xs.extend(ys), ys a list of data -/
def fExtend (ws args : List W) : Option (W × List W) := match args with
  | [.d (.lst l)] => if ws.length + l.length ≤ 100000 then some (.d .non, ws ++ l.map .d) else none
  | _ => none
theorem mExtend : MtR X "list.extend" (rM X E (upL fExtend)) := by
  intro pins s σ H x xs v us Q I rx rxs ⟨F0, μ, h, k, args, rl, r, rs, p⟩
  obtain ⟨a, ws, vs, w, ws', hk, rfl, hl, rr, hf, kk⟩ := upL_ok rl r p
  unfold fExtend at hf
  split at hf
  · split at hf
    · rename_i l hz
      cases hf
      cases rs with
      | cons r1 rs =>
        cases rs
        have r1' : RepD X.K X.mg (Av F0 μ) H (.lst l) _ := r1
        obtain ⟨b, ys, rfl, hb, rb⟩ := r1'.l
        exact mt_extend pins s σ H _ _ v us Q I rx rxs ⟨a, b, vs, ys, rfl, rfl, hl, hb, by rw [rr.length, rb.length]; exact len_ok hz, kk _ _ (rr.append (reps_of rb)) RepD.non⟩
    · cases hf
  · cases hf
end
end DD

set_option Elab.async false
set_option linter.all false
set_option maxRecDepth 100000
set_option maxHeartbeats 1000000
/-! DD9: dicts with int and text keys, attributes, new instances, isinstance. -/
namespace DD
open PySem L2
/-! ### tables -/
section
variable {κ α : Type} [DecidableEq κ]
def lookG (l : List (κ × α)) (k : κ) : Option α := (l.find? fun p => decide (p.1 = k)).map (·.2)
def putG (l : List (κ × α)) (k : κ) (v : α) : List (κ × α) := if (l.any fun kv => decide (kv.1 = k)) = true then l.map (fun kv => if kv.1 = k then (kv.1, v) else kv) else l ++ [(k, v)]
theorem lookG_cons (p : κ × α) (l : List (κ × α)) (k : κ) : lookG (p :: l) k = if p.1 = k then some p.2 else lookG l k := by
  unfold lookG
  rw [List.find?_cons]
  by_cases h : p.1 = k
  · simp [h]
  · simp [h]
end
def keyW : W → Option Key
  | .d (.int i) => some (.inl i)
  | .d (.str s) => some (.inr s)
  | _ => none
section
variable {K : PySem.W.Frag} {mg : Mg} {F0 : Addr → Prop} {μ : Mu} {H : Hp} {A : Addr → Prop}
theorem keyW_rep {w : W} {k : Key} {v : V} (e : keyW w = some k) (r : RepW K mg F0 μ H w v) : v = kV k := by
  unfold keyW at e
  split at e
  · cases e; exact RepD.i r
  · cases e; exact RepD.s r
  · cases e
theorem valV_cons {κ : Type} [DecidableEq κ] (p : κ × V) (l : List (κ × V)) (k : κ) : valV (p :: l) k = if p.1 = k then some p.2 else valV l k := by
  by_cases h : p.1 = k
  · rw [valV_pos h, if_pos h]
  · rw [valV_neg h, if_neg h]
theorem look_repK {k : Key} {d : D} : ∀ {l : List (Key × D)} {kvs : List (Key × V)}, RepK K mg A H l kvs → lookG l k = some d → ∃ v, valV kvs k = some v ∧ RepD K mg A H d v
  | _, _, .nil, e => by cases e
  | _, _, .cons r q, e => by
    rw [lookG_cons] at e
    rw [valV_cons]
    split at e
    · rename_i h
      cases e
      rw [if_pos h]
      exact ⟨_, rfl, r⟩
    · rename_i h
      rw [if_neg h]
      exact look_repK q e
theorem look_repWK {κ : Type} [DecidableEq κ] {k : κ} {w : W} : ∀ {l : List (κ × W)} {kvs : List (κ × V)}, RepWK K mg F0 μ H l kvs → lookG l k = some w → ∃ v, valV kvs k = some v ∧ RepW K mg F0 μ H w v
  | _, _, .nil, e => by cases e
  | _, _, .cons r q, e => by
    rw [lookG_cons] at e
    rw [valV_cons]
    split at e
    · rename_i h
      cases e
      rw [if_pos h]
      exact ⟨_, rfl, r⟩
    · rename_i h
      rw [if_neg h]
      exact look_repWK q e
theorem any_keys {κ α β : Type} {R : κ × α → κ × β → Prop} {f : κ → Bool} {l : List (κ × α)} {m : List (κ × β)} (h : l.map (·.1) = m.map (·.1)) : (l.any fun p => f p.1) = m.any fun p => f p.1 := by
  have a : ∀ {γ : Type} (l : List (κ × γ)), (l.any fun p => f p.1) = (l.map (·.1)).any f := fun l => by rw [List.any_map]; rfl
  rw [a, a, h]
theorem RepWK.keys {κ : Type} : ∀ {l : List (κ × W)} {kvs : List (κ × V)}, RepWK K mg F0 μ H l kvs → l.map (·.1) = kvs.map (·.1)
  | _, _, .nil => rfl
  | _, _, .cons _ q => by rw [List.map_cons, List.map_cons, q.keys]
theorem RepWK.length {κ : Type} : ∀ {l : List (κ × W)} {kvs : List (κ × V)}, RepWK K mg F0 μ H l kvs → kvs.length = l.length
  | _, _, .nil => rfl
  | _, _, .cons _ q => by rw [List.length_cons, List.length_cons, q.length]
theorem put_repWK {κ : Type} [DecidableEq κ] {k : κ} {w : W} {v : V} {l : List (κ × W)} {kvs : List (κ × V)} (r : RepWK K mg F0 μ H l kvs) (rw' : RepW K mg F0 μ H w v) : RepWK K mg F0 μ H (putG l k w) (putK kvs k v) := by
  unfold putG putK
  have e : (l.any fun kv => decide (kv.1 = k)) = kvs.any fun kv => decide (kv.1 = k) := any_keys (R := fun _ _ => True) (f := fun x => decide (x = k)) r.keys
  rw [e]
  have hm : ∀ {l : List (κ × W)} {kvs : List (κ × V)}, RepWK K mg F0 μ H l kvs → RepWK K mg F0 μ H (l.map fun kv => if kv.1 = k then (kv.1, w) else kv) (kvs.map fun kv => if kv.1 = k then (kv.1, v) else kv) := fun {l kvs} r => by
    induction r with
    | nil => exact .nil
    | @cons k' w' ws v' vs r q ih =>
      rw [List.map_cons, List.map_cons]
      by_cases h : k' = k
      · rw [if_pos h, if_pos h]
        exact .cons rw' ih
      · rw [if_neg h, if_neg h]
        exact .cons r ih
  have ha : ∀ {l : List (κ × W)} {kvs : List (κ × V)}, RepWK K mg F0 μ H l kvs → RepWK K mg F0 μ H (l ++ [(k, w)]) (kvs ++ [(k, v)]) := fun {l kvs} r => by
    induction r with
    | nil => exact .cons rw' .nil
    | cons r _ ih => exact .cons r ih
  split
  · exact hm r
  · exact ha r
end
section
variable {X : Cx} {E : Option XK} {m m1 m2 m3 : Env → M W} {n nk : Env → M (List W)} {e o i value : Expr} {es : List Expr} {pos : Pos}
theorem liveO {F0 : Addr → Prop} {μ : Mu} {H : Hp} {h : List O} {k : Nat} {ob : O} {x : V} (rl : Rl X.K X.mg F0 μ h H) (hk : h[k]? = some ob) (nd : ob ≠ .dead) (r : RepW X.K X.mg F0 μ H (.ref k) x) : ∃ a, μ[k]? = some (some a) ∧ x = .ref a ∧ ObjR X.K X.mg F0 μ H ob a := by
  have hn' : k < μ.length := r.1
  cases z2 : μ[k]'hn' with
  | none =>
    have := rl.dd k (by rw [List.getElem?_eq_getElem hn', z2])
    rw [hk] at this
    exact (nd (Option.some.inj this)).elim
  | some a =>
    have z' : μ[k]? = some (some a) := by rw [List.getElem?_eq_getElem hn', z2]
    exact ⟨a, z', r.2 a z', rl.ob k a _ z' hk⟩
/-- d[k] -/
def opDGet (a b : W) : M W := fun h => match keyW b with
  | none => .st
  | some k => match a with
    | .d (.dic l) => match lookG l k with
      | some d => .ok (.d d) h
      | none => .st
    | .ref n => match h[n]? with
      | some (.dic ws) => match lookG ws k with
        | some w => .ok w h
        | none => .st
      | _ => .st
    | _ => .st
theorem dDGet (hu : X.A.units + 1 < cLine) (ho : PE X o (xE X E m1)) (hi : PE X i (xE X E m2)) (hs : NoSl i := by exact fun _ _ => rfl) : PE X (.Subscript o i pos) (xE X E (m2op opDGet m1 m2)) := (pe_dget hu ho hi hs).to fun σ H Q ⟨F0, μ, ρ, h, rl, en, p⟩ =>
  ⟨F0, μ, ρ, h, rl, en, (Post.bd p).imp fun w1 h1 μ1 H1 s1 rl1 p1 v1 r1 => ⟨F0, μ1, ρ, h1, rl1, en.step s1, (Post.bd p1).imp fun w2 h2 μ2 H2 s2 rl2 p2 v2 r2 => by
    have r1' := r1.step s2
    unfold opDGet at p2
    split at p2
    · exact p2.elim
    · rename_i k hk
      cases keyW_rep hk r2
      split at p2
      · rename_i l
        split at p2
        · rename_i d hd
          have r1d : RepD X.K X.mg (Av F0 μ2) H2 (.dic l) v1 := r1'
          cases r1d with
          | dic g1 g2 g3 =>
            obtain ⟨v, y1, y2⟩ := look_repK g3 hd
            exact ⟨_, v, rfl, by rw [← y1]; exact DGet.k g2, p2 μ2 H2 (.refl _ _) rl2 v y2⟩
        · exact p2.elim
      · rename_i j
        split at p2
        · rename_i ws hj
          split at p2
          · rename_i w hw
            obtain ⟨a, z1, rfl, kvs, z2, z3⟩ := liveO rl2 hj (fun z => nomatch z) r1'
            obtain ⟨v, y1, y2⟩ := look_repWK z3 hw
            exact ⟨_, v, rfl, by rw [← y1]; exact DGet.k z2, p2 μ2 H2 (.refl _ _) rl2 v y2⟩
          · exact p2.elim
        · exact p2.elim
      · exact p2.elim⟩⟩
/-- d[k] = v -/
def opDPut (a b v : W) : M Unit := fun h => match keyW b with
  | none => .st
  | some k => match a with
    | .ref n => match h[n]? with
      | some (.dic ws) => if ws.length < 100000 then .ok () (h.set n (.dic (putG ws k v))) else .st
      | _ => .st
    | _ => .st
def mDPut (m1 m2 m3 : Env → M W) : Env → M Fl := fun ρ => bd (m3 ρ) fun v => bd (m1 ρ) fun a => bd (m2 ρ) fun b => bd (opDPut a b v) fun _ => pu (.nx ρ)
theorem dsDPut {pos' : Pos} (hu : X.A.units + 1 < cLine) (ho : PE X o (xE X E m1)) (hi : PE X i (xE X E m2)) (hv : PE X value (xE X E m3)) (hs : swapsWith value (some (.Subscript o i pos')) pos.line X.env = pure false := by rfl) :
    PS X (.Assign [.Subscript o i pos'] value pos) (xS X E (mDPut m1 m2 m3)) := (ps_dput hu ho hi hv hs).to fun Dd σ H ⟨F0, μ, ρ, h, rl, en, p⟩ =>
  ⟨F0, μ, ρ, h, rl, en, (Post.bd p).imp fun w1 h1 μ1 H1 s1 rl1 p1 v1 r1 => ⟨F0, μ1, ρ, h1, rl1, en.step s1, (Post.bd p1).imp fun w2 h2 μ2 H2 s2 rl2 p2 v2 r2 => ⟨F0, μ2, ρ, h2, rl2, (en.step s1).step s2, (Post.bd p2).imp fun w3 h3 μ3 H3 s3 rl3 p3 v3 r3 => by
    have p4 := Post.bd p3
    unfold opDPut at p4
    split at p4
    · exact p4.elim
    · rename_i k hk
      cases keyW_rep hk r3
      split at p4
      · rename_i j
        split at p4
        · rename_i ws hj
          split at p4
          · rename_i hl
            obtain ⟨a, z1, rfl, kvs, z2, z3⟩ := liveO rl3 hj (fun z => nomatch z) (r2.step s3)
            have rv := (r1.step s2).step s3
            refine ⟨a, _, rfl, DPut.k z2 (Nat.lt_of_lt_of_le (by rw [z3.length]; exact hl) (by decide)), ?_⟩
            have p5 := p4 μ3 _ (.write z1) (rl3.write (u := .dK (putK kvs k v1)) z1 ⟨_, upd_same, (put_repWK z3 rv).step (.write z1)⟩)
            exact p5 _ _ (.refl _ _) (rl3.write z1 ⟨_, upd_same, (put_repWK z3 rv).step (.write z1)⟩) σ ((((en.step s1).step s2).step s3).step (.write z1))
          · exact p4.elim
        · exact p4.elim
      · exact p4.elim⟩⟩⟩

/-! ### a new dict by its pairs -/
def mPairs : List ((Env → M W) × (Env → M W)) → Env → M (List (Key × W))
  | [], _ => pu []
  | (a, b) :: r, ρ => bd (a ρ) fun x => bd (oM (keyW x)) fun k => bd (b ρ) fun w => bd (mPairs r ρ) fun l => pu ((k, w) :: l)
def mergeG (l : List (Key × W)) : List (Key × W) := l.foldl (fun acc kv => putG acc kv.1 kv.2) []
def mDisp (ms : List ((Env → M W) × (Env → M W))) : Env → M W := fun ρ => bd (mPairs ms ρ) fun l => if l.length ≤ 15 then alc (.dic (mergeG l)) else stk
def prs (X : Cx) (E : Option XK) (ms : List ((Env → M W) × (Env → M W))) : List (TE × TE) := ms.map fun p => (xE X E p.1, xE X E p.2)
theorem dpNil : PPs X pos [] [] (prs X E []) := pps_nil
theorem dpCons {k v : Expr} {ks : List (Option Expr)} {vs : List Expr} {ms : List ((Env → M W) × (Env → M W))} (hk : PE X k (xE X E m1)) (hv : PE X v (xE X E m2)) (hr : PPs X pos ks vs (prs X E ms)) : PPs X pos (some k :: ks) (v :: vs) (prs X E ((m1, m2) :: ms)) := pps_cons hk hv hr
theorem Rl.adopt {K : PySem.W.Frag} {mg : Mg} {F0 : Addr → Prop} {μ : Mu} {h : List O} {H : Hp} {p : Addr} {u : HO} {ob : O} (r : Rl K mg (Pro F0 p) μ h H) (hf : ¬ F0 p) (new : ObjR K mg F0 (μ ++ [some p]) (upd H p u) ob p) : Rl K mg F0 (μ ++ [some p]) (h ++ [ob]) (upd H p u) := by
  have np : ∀ n : Nat, μ[n]? ≠ some (some p) := (r.f0 p (.inr rfl)).2
  have at_ : ∀ (n : Nat) (a : Addr), (μ ++ [some p])[n]? = some (some a) → (n < μ.length ∧ μ[n]? = some (some a)) ∨ (n = μ.length ∧ a = p) := fun n a z => by
    by_cases hn : n < μ.length
    · rw [List.getElem?_append_left hn] at z
      exact .inl ⟨hn, z⟩
    · rw [List.getElem?_append_right (by omega)] at z
      cases q : n - μ.length with
      | zero =>
        rw [q] at z
        exact .inr ⟨by omega, by simpa using z.symm⟩
      | succ k => rw [q] at z; simp at z
  refine ⟨by rw [List.length_append, List.length_append, r.len]; rfl, fun i j a z1 z2 => ?_, fun a z => ?_, fun n a x z1 z2 => ?_, fun n z => ?_⟩
  · rcases at_ i a z1 with ⟨h1, q1⟩ | ⟨h1, q1⟩ <;> rcases at_ j a z2 with ⟨h2, q2⟩ | ⟨h2, q2⟩
    · exact r.nd i j a q1 q2
    · subst q2; exact (np i q1).elim
    · subst q1; exact (np j q2).elim
    · omega
  · obtain ⟨⟨y, q⟩, n⟩ := r.f0 a (.inl z)
    have ha : a ≠ p := fun q => hf (q ▸ z)
    refine ⟨⟨y, by rw [upd_ne ha]; exact q⟩, fun i zi => ?_⟩
    rcases at_ i a zi with ⟨_, q1⟩ | ⟨_, q1⟩
    · exact n i q1
    · exact ha q1
  · rcases at_ n a z1 with ⟨h1, q1⟩ | ⟨h1, q1⟩
    · rw [List.getElem?_append_left (by rw [← r.len]; exact h1)] at z2
      have ne : a ≠ p := fun z => np n (z ▸ q1)
      have ob1 := r.ob n a x q1 z2
      have e : ∀ b w, Av (Pro F0 p) μ b → H b = some w → Av F0 (μ ++ [some p]) b ∧ (upd H p u) b = some w := fun b w v eb =>
        ⟨⟨v.un.1.1, fun i zi => by
          rcases at_ i b zi with ⟨_, q2⟩ | ⟨_, q2⟩
          · exact v.2 i q2
          · exact v.un.2 q2⟩, by rw [upd_ne v.un.2]; exact eb⟩
      have ew : ∀ {w : W} {v : V}, RepW K mg (Pro F0 p) μ H w v → RepW K mg F0 (μ ++ [some p]) (upd H p u) w v := fun {w v} r => by
        cases w with
        | d x => exact RepD.mono e r
        | ref i => exact ⟨by rw [List.length_append]; have := r.1; omega, fun b z => r.2 b (by
            rcases at_ i b z with ⟨_, q2⟩ | ⟨q2, _⟩
            · exact q2
            · have := r.1; omega)⟩
      have ews : ∀ {w : List W} {v : List V}, RepWs K mg (Pro F0 p) μ H w v → RepWs K mg F0 (μ ++ [some p]) (upd H p u) w v := fun {w v} r => by
        induction r with
        | nil => exact .nil
        | cons r _ ih => exact .cons (ew r) ih
      have ewk : ∀ {κ : Type} {w : List (κ × W)} {v : List (κ × V)}, RepWK K mg (Pro F0 p) μ H w v → RepWK K mg F0 (μ ++ [some p]) (upd H p u) w v := fun {κ w v} r => by
        induction r with
        | nil => exact .nil
        | cons r _ ih => exact .cons (ew r) ih
      cases x with
      | lst _ => obtain ⟨vs, h1, h2⟩ := ob1; exact ⟨vs, by rw [upd_ne ne]; exact h1, ews h2⟩
      | dic _ => obtain ⟨vs, h1, h2⟩ := ob1; exact ⟨vs, by rw [upd_ne ne]; exact h1, ewk h2⟩
      | ins _ _ => obtain ⟨C, dx, vs, h0, h1, h2⟩ := ob1; exact ⟨C, dx, vs, h0, by rw [upd_ne ne]; exact h1, ewk h2⟩
      | dead => exact ob1.elim
    · subst q1
      rw [h1, r.len, List.getElem?_append_right (Nat.le_refl _)] at z2
      have : ob = x := by simpa using z2
      subst this
      exact new
  · by_cases hn : n < μ.length
    · rw [List.getElem?_append_left hn] at z
      rw [List.getElem?_append_left (by rw [← r.len]; exact hn)]
      exact r.dd n z
    · rw [List.getElem?_append_right (by omega)] at z
      cases q : n - μ.length with
      | zero => rw [q] at z; simp at z
      | succ k => rw [q] at z; simp at z
/-- values, with what keeps the new object from them -/
inductive RepPs (K : PySem.W.Frag) (mg : Mg) (F0 : Addr → Prop) (μ : Mu) (H : Hp) : List (Key × W) → List (V × V) → Prop
  | nil : RepPs K mg F0 μ H [] []
  | cons {k : Key} {w : W} {ws : List (Key × W)} {v : V} {vs : List (V × V)} : RepW K mg F0 μ H w v → RepPs K mg F0 μ H ws vs → RepPs K mg F0 μ H ((k, w) :: ws) ((kV k, v) :: vs)
theorem pairsOk {F0 : Addr → Prop} {p : Addr} {P : List (Key × W) → List O → Mu → Hp → Prop} : ∀ (ms : List ((Env → M W) × (Env → M W))) {μ : Mu} {ρ : Env} {h : List O} {H : Hp} {σ : L2.St} {Q : List (V × V) → Hp → Prop}, Rl X.K X.mg (Pro F0 p) μ h H → EnvR X.K X.mg (Pro F0 p) μ H ρ σ →
    Post X.K X.mg (Pro F0 p) E μ H P (mPairs ms ρ h) → (∀ l h' μ' H' ps, Stp μ H μ' H' → Rl X.K X.mg (Pro F0 p) μ' h' H' → RepPs X.K X.mg (Pro F0 p) μ' H' l ps → P l h' μ' H' → Q ps H') → tPairs (prs X E ms) σ H Q
  | [], μ, ρ, h, H, σ, Q, rl, en, q, k => k [] h μ H [] (.refl _ _) rl .nil (q μ H (.refl _ _) rl)
  | (a, b) :: r, μ, ρ, h, H, σ, Q, rl, en, q, k => by
    have q : Post X.K X.mg (Pro F0 p) E μ H P (bd (a ρ) (fun x => bd (oM (keyW x)) fun k => bd (b ρ) fun w => bd (mPairs r ρ) fun l => pu ((k, w) :: l)) h) := q
    refine ⟨Pro F0 p, μ, ρ, h, rl, en, (Post.bd q).imp fun x h1 μ1 H1 s1 rl1 p1 v1 r1 => ?_⟩
    obtain ⟨ky, hk, p2⟩ := oM_ok (Post.bd p1)
    cases keyW_rep hk r1
    refine ⟨Pro F0 p, μ1, ρ, h1, rl1, en.step s1, (Post.bd (p2 μ1 H1 (.refl _ _) rl1)).imp fun w h2 μ2 H2 s2 rl2 p3 v2 r2 => ?_⟩
    exact pairsOk r rl2 ((en.step s1).step s2) (Post.bd p3) fun l h' μ' H' ps s3 rl3 rs p4 => k _ h' μ' H' _ ((s1.trans s2).trans s3) rl3 (.cons (r2.step s3) rs) (p4 μ' H' (.refl _ _) rl3)
theorem mergeG_rep {K : PySem.W.Frag} {mg : Mg} {F0 : Addr → Prop} {μ : Mu} {H : Hp} {l : List (Key × W)} {kvs : List (Key × V)} (r : RepWK K mg F0 μ H l kvs) : RepWK K mg F0 μ H (mergeG l) (mergeK [] kvs) := by
  have g : ∀ {l : List (Key × W)} {kvs : List (Key × V)} {a : List (Key × W)} {b : List (Key × V)}, RepWK K mg F0 μ H l kvs → RepWK K mg F0 μ H a b → RepWK K mg F0 μ H (l.foldl (fun acc kv => putG acc kv.1 kv.2) a) (mergeK b kvs) := by
    intro l kvs a b r
    induction r generalizing a b with
    | nil => exact id
    | cons r _ ih => exact fun q => ih (put_repWK q r)
  exact g r .nil
theorem dDisp {keys : List (Option Expr)} {values : List Expr} {ms : List ((Env → M W) × (Env → M W))} (h : PPs X pos keys values (prs X E ms)) (hall : keys.all (·.isSome) = true := by rfl) (hl : keys.length = values.length := by rfl) (h0 : keys ≠ [] := by intro z; cases z)
    (h15 : keys.length ≤ 15 := by decide) : PE X (.Dict keys values pos) (xE X E (mDisp ms)) := (pe_disp h hall hl h0 h15).to fun σ H Q ⟨F0, μ, ρ, hh, rl, en, q⟩ => by
  intro p hp
  have st0 : Stp μ H μ (upd H p (.dK [])) := .fresh hp
  refine pairsOk (X := X) (E := E) (F0 := F0) (p := p) ms (rl.protect hp _) (en.prot hp _) (Post.prot (Post.mono (Post.bd1 q) st0)) fun l h' μ' H' ps s1 rl1 rs p1 => ?_
  have nD := (rl1.f0 p (.inr rfl)).2
  have hl : H' p = some (.dK []) := s1.kp _ _ upd_same (rl.nfree hp)
  by_cases h15' : l.length ≤ 15
  · have e : (if l.length ≤ 15 then alc (.dic (mergeG l)) else stk : M W) = alc (.dic (mergeG l)) := if_pos h15'
    rw [e] at p1
    have key : ∀ {l : List (Key × W)} {ps : List (V × V)}, RepPs X.K X.mg (Pro F0 p) μ' H' l ps → ∃ kvs : List (Key × V), ps = kvs.map (fun kv => (kV kv.1, kv.2)) ∧ RepWK X.K X.mg (Pro F0 p) μ' H' l kvs := fun {l ps} r => by
      induction r with
      | nil => exact ⟨[], rfl, .nil⟩
      | @cons k w ws v vs r _ ih =>
        obtain ⟨kvs, rfl, q⟩ := ih
        exact ⟨(k, v) :: kvs, rfl, .cons r q⟩
    obtain ⟨kvs, rfl, rk⟩ := key rs
    refine ⟨hl, kvs, rfl, by rw [rk.length]; exact h15', ?_⟩
    have nf : ¬ F0 p := fun z => by
      obtain ⟨⟨o, y⟩, _⟩ := rl.f0 p z
      rw [hp] at y
      cases y
    have rk2 : RepWK X.K X.mg F0 (μ' ++ [some p]) (upd H' p (.dK (mergeK [] kvs))) (mergeG l) (mergeK [] kvs) := by
      have r0 := mergeG_rep rk
      have ew : ∀ {w : W} {v : V}, RepW X.K X.mg (Pro F0 p) μ' H' w v → RepW X.K X.mg F0 (μ' ++ [some p]) (upd H' p (.dK (mergeK [] kvs))) w v := fun {w v} r => by
        have at_ : ∀ (n : Nat) (a : Addr), (μ' ++ [some p])[n]? = some (some a) → μ'[n]? = some (some a) ∨ (n = μ'.length ∧ a = p) := fun n a z => by
          by_cases hn : n < μ'.length
          · rw [List.getElem?_append_left hn] at z
            exact .inl z
          · rw [List.getElem?_append_right (by omega)] at z
            cases q : n - μ'.length with
            | zero =>
              rw [q] at z
              exact .inr ⟨by omega, by simpa using z.symm⟩
            | succ k => rw [q] at z; simp at z
        cases w with
        | d x => exact RepD.mono (fun b w va eb => ⟨⟨va.un.1.1, fun i zi => by
            rcases at_ i b zi with q2 | ⟨_, q2⟩
            · exact va.2 i q2
            · exact va.un.2 q2⟩, by rw [upd_ne va.un.2]; exact eb⟩) r
        | ref i => exact ⟨by rw [List.length_append]; have := r.1; omega, fun b z => r.2 b (by
            rcases at_ i b z with q2 | ⟨q2, _⟩
            · exact q2
            · have := r.1; omega)⟩
      generalize mergeG l = a at r0 ⊢
      generalize mergeK [] kvs = b at r0 ew ⊢
      have : ∀ {a : List (Key × W)} {c : List (Key × V)}, RepWK X.K X.mg (Pro F0 p) μ' H' a c → RepWK X.K X.mg F0 (μ' ++ [some p]) (upd H' p (.dK b)) a c := fun {a c} r => by
        induction r with
        | nil => exact .nil
        | cons r _ ih => exact .cons (ew r) ih
      exact this r0
    have rl2 := rl1.adopt (u := .dK (mergeK [] kvs)) (ob := .dic (mergeG l)) nf ⟨_, upd_same, rk2⟩
    have st2 : Stp μ H (μ' ++ [some p]) (upd H' p (.dK (mergeK [] kvs))) := by
      have s2 := st0.trans s1
      refine ⟨by rw [List.length_append]; have := s2.len; omega, fun n a hn z => ?_, fun n a hn z => ?_, fun b o y z => ?_, fun b o y => ?_⟩
      · rw [List.getElem?_append_left (Nat.lt_of_lt_of_le hn s2.len)] at z
        exact s2.old n a hn z
      · by_cases hn2 : n < μ'.length
        · rw [List.getElem?_append_left hn2] at z
          exact s2.new n a hn z
        · rw [List.getElem?_append_right (by omega)] at z
          cases q : n - μ'.length with
          | zero =>
            rw [q] at z
            have : p = a := by simpa using z
            rw [← this]
            exact hp
          | succ k => rw [q] at z; simp at z
      · rw [upd_ne (ne_of_none y hp)]
        exact s2.kp b o y z
      · obtain ⟨w, y2⟩ := s2.trk b o y
        by_cases hb : b = p
        · exact ⟨_, by rw [hb]; exact upd_same⟩
        · exact ⟨w, by rw [upd_ne hb]; exact y2⟩
    refine p1 _ _ st2 rl2 _ ⟨by rw [List.length_append, rl1.len]; simp, fun a z => ?_⟩
    rw [← rl1.len, List.getElem?_append_right (Nat.le_refl _)] at z
    have : p = a := by simpa using z
    rw [this]
  · have e : (if l.length ≤ 15 then alc (.dic (mergeG l)) else stk : M W) = stk := if_neg h15'
    rw [e] at p1
    exact p1.elim
end
end DD

set_option Elab.async false
set_option linter.all false
set_option maxRecDepth 100000
set_option maxHeartbeats 1000000
/-! DD10: attributes, new instances, properties, calls with keywords, isinstance. -/
namespace DD
open PySem L2

/-! ### attributes -/
def lookF {α : Type} (l : List (Str × α)) (f : Str) : Option α := l.lookup f
def putFw {α : Type} (f : Str) (v : α) : List (Str × α) → List (Str × α)
  | [] => [(f, v)]
  | (g, x) :: r => if g = f then (g, v) :: r else (g, x) :: putFw f v r
section
variable {K : PySem.W.Frag} {mg : Mg} {A : Addr → Prop} {F0 : Addr → Prop} {μ : Mu} {H : Hp}
theorem look_repF {f : Str} {d : D} : ∀ {fs : List (Str × D)} {vs : List (Str × V)}, RepF K mg A H fs vs → lookF fs f = some d → ∃ v, vs.lookup f = some v ∧ RepD K mg A H d v
  | _, _, .nil, e => by cases e
  | (k, x) :: fs, (_, v) :: vs, .cons r q, e => by
    have e : (match f == k with | true => some x | false => lookF fs f) = some d := e
    show ∃ y, (match f == k with | true => some v | false => vs.lookup f) = some y ∧ _
    cases z : f == k with
    | true => rw [z] at e; cases e; exact ⟨v, rfl, r⟩
    | false => rw [z] at e; exact look_repF q e
theorem look_repWF {f : Str} {w : W} : ∀ {fs : List (Str × W)} {vs : List (Str × V)}, RepWK K mg F0 μ H fs vs → lookF fs f = some w → ∃ v, vs.lookup f = some v ∧ RepW K mg F0 μ H w v
  | _, _, .nil, e => by cases e
  | (k, x) :: fs, (_, v) :: vs, .cons r q, e => by
    have e : (match f == k with | true => some x | false => lookF fs f) = some w := e
    show ∃ y, (match f == k with | true => some v | false => vs.lookup f) = some y ∧ _
    cases z : f == k with
    | true => rw [z] at e; cases e; exact ⟨v, rfl, r⟩
    | false => rw [z] at e; exact look_repWF q e
theorem put_repF {f : Str} {w : W} {v : V} (rw' : RepW K mg F0 μ H w v) : ∀ {fs : List (Str × W)} {vs : List (Str × V)}, RepWK K mg F0 μ H fs vs → RepWK K mg F0 μ H (putFw f w fs) (putF f v vs)
  | _, _, .nil => .cons rw' .nil
  | (k, x) :: fs, (_, y) :: vs, .cons r q => by
    unfold putFw putF
    by_cases h : k = f
    · rw [if_pos h, if_pos h]; exact .cons rw' q
    · rw [if_neg h, if_neg h]; exact .cons r (put_repF rw' q)
end
section
variable {X : Cx} {E : Option XK} {m m1 m2 : Env → M W} {n nk : Env → M (List W)} {e o value : Expr} {es : List Expr} {pos : Pos} {c f : Str} {C : Addr}
/-- x.f, x an instance of the class c -/
def opFld (c f : Str) : W → M W := fun w h => match w with
  | .d (.ins c' fs) => if c' = c then match lookF fs f with
      | some d => .ok (.d d) h
      | none => .st
    else .st
  | .ref n => match h[n]? with
    | some (.ins c' ws) => if c' = c then match lookF ws f with
        | some w => .ok w h
        | none => .st
      else .st
    | _ => .st
  | _ => .st
theorem dFld (c : Str) (hm : X.mg c = some (.ref C)) (cl : Cls X.K C) (na : NoAttr X.K C f) (he : PE X e (xE X E m)) (hb : attributeBase e f X.env (eval e X.env) = eval e X.env := by rfl) : PE X (.Attribute e f pos) (xE X E (m1op (opFld c f) m)) := (pe_fld he hb).to fun σ H Q ⟨F0, μ, ρ, h, rl, en, p⟩ =>
  ⟨F0, μ, ρ, h, rl, en, (Post.bd p).imp fun w h1 μ1 H1 s1 rl1 p1 v r => by
    unfold opFld at p1
    split at p1
    · split at p1
      · rename_i hc
        subst hc
        split at p1
        · rename_i hd
          have r : RepD X.K X.mg (Av F0 μ1) H1 (.ins _ _) v := r
          cases r with
          | ins g1 g2 g3 g4 =>
            rw [hm] at g2
            cases g2
            obtain ⟨y, z1, z2⟩ := look_repF g4 hd
            exact ⟨_, _, _, _, y, rfl, g3, cl, na, z1, p1 μ1 H1 (.refl _ _) rl1 y z2⟩
        · exact p1.elim
      · exact p1.elim
    · split at p1
      · rename_i hj
        split at p1
        · rename_i hc
          subst hc
          split at p1
          · rename_i hd
            obtain ⟨a, z1, rfl, C', dx, vs, g2, g3, g4⟩ := liveO rl1 hj (fun z => nomatch z) r
            rw [hm] at g2
            cases g2
            obtain ⟨y, y1, y2⟩ := look_repWF g4 hd
            exact ⟨_, _, _, _, y, rfl, g3, cl, na, y1, p1 μ1 H1 (.refl _ _) rl1 y y2⟩
          · exact p1.elim
        · exact p1.elim
      · exact p1.elim
    · exact p1.elim⟩
/-- x.f = v -/
def opFldSet (c f : Str) (a v : W) : M Unit := fun h => match a with
  | .ref n => match h[n]? with
    | some (.ins c' ws) => if c' = c ∧ ws.length < 900 then .ok () (h.set n (.ins c (putFw f v ws))) else .st
    | _ => .st
  | _ => .st
def mFldSet (c f : Str) (m1 m2 : Env → M W) : Env → M Fl := fun ρ => bd (m2 ρ) fun v => bd (m1 ρ) fun a => bd (opFldSet c f a v) fun _ => pu (.nx ρ)
theorem dsFld {pos' : Pos} (c : Str) (hm : X.mg c = some (.ref C)) (cl : Cls X.K C) (na : NoAttr X.K C f) (ho : PE X o (xE X E m1)) (hv : PE X value (xE X E m2)) (hs : swapsWith value (some (.Attribute o f pos')) pos.line X.env = pure false := by rfl) :
    PS X (.Assign [.Attribute o f pos'] value pos) (xS X E (mFldSet c f m1 m2)) := (ps_fld ho hv hs).to fun Dd σ H ⟨F0, μ, ρ, h, rl, en, p⟩ =>
  ⟨F0, μ, ρ, h, rl, en, (Post.bd p).imp fun w1 h1 μ1 H1 s1 rl1 p1 v1 r1 => ⟨F0, μ1, ρ, h1, rl1, en.step s1, (Post.bd p1).imp fun w2 h2 μ2 H2 s2 rl2 p2 v2 r2 => by
    have p4 := Post.bd p2
    unfold opFldSet at p4
    split at p4
    · split at p4
      · rename_i hj
        split at p4
        · rename_i hc
          obtain ⟨rfl, hl⟩ := hc
          obtain ⟨a, z1, rfl, C', dx, vs, g2, g3, g4⟩ := liveO rl2 hj (fun z => nomatch z) r2
          have g2' := g2
          rw [hm] at g2'
          cases g2'
          have rv := r1.step s2
          have hl2 := g4.length
          refine ⟨a, C, dx, vs, rfl, g3, cl, na, by omega, ?_⟩
          have new : ObjR X.K X.mg F0 μ2 (upd H2 a (.ins C dx (putF f v1 vs))) (.ins _ (putFw f w1 _)) a := ⟨C, dx, _, g2, upd_same, (put_repF rv g4).step (.write z1)⟩
          have p5 := p4 μ2 _ (.write z1) (rl2.write z1 new)
          exact p5 _ _ (.refl _ _) (rl2.write z1 new) σ (((en.step s1).step s2).step (.write z1))
        · exact p4.elim
      · exact p4.elim
    · exact p4.elim⟩⟩

/-! ### keywords -/
theorem PK.to {kws : List Keyword} {t t' : TA} (h : PK X kws t) (w : ∀ σ H Q, t' σ H Q → t σ H Q) : PK X kws t' := ⟨fun pos pins s σ H Q I q => h.run pos pins s σ H Q I (w σ H Q q)⟩
theorem dkNil : PK X [] (xA X E mNil) := PK.to pk_nil fun σ H Q ⟨F0, μ, ρ, h, rl, en, p⟩ => p μ H (.refl _ _) rl [] .nil
theorem dkCons {nm : Option Str} {kpos : Pos} {kws : List Keyword} (ha : PE X e (xE X E m)) (hr : PK X kws (xA X E n)) : PK X (⟨nm, e, kpos⟩ :: kws) (xA X E (mCons m n)) := PK.to (pk_cons ha hr) fun σ H Q ⟨F0, μ, ρ, h, rl, en, p⟩ =>
  ⟨F0, μ, ρ, h, rl, en, (Post.bd p).imp fun x h1 μ1 H1 s1 rl1 p1 v r => ⟨F0, μ1, ρ, h1, rl1, en.step s1, (Post.bd p1).imp fun xs h2 μ2 H2 s2 rl2 p2 vs rs => p2 μ2 H2 (.refl _ _) rl2 (v :: vs) (.cons (r.step s2) rs)⟩⟩
/-- gW puts positional values and keywords' values in the parameters' order, as gV does -/
def Puts (K : PySem.W.Frag) (mg : Mg) (gV : List V → List V → List V) (gW : List W → List W → List W) : Prop :=
  ∀ {F0 : Addr → Prop} {μ : Mu} {H : Hp} {ws : List W} {vs : List V} {ws' : List W} {vs' : List V}, RepWs K mg F0 μ H ws vs → RepWs K mg F0 μ H ws' vs' → RepWs K mg F0 μ H (gW ws ws') (gV vs vs')
/-- j: positional values, l: keywords, k: the first k handles are lent -/
def mCallK (k j l : Nat) (gW : List W → List W → List W) (m : List W → M W) (n nk : Env → M (List W)) : Env → M W := fun ρ => bd (n ρ) fun ws => bd (nk ρ) fun zs => if ws.length = j ∧ zs.length = l then lendC k m (gW ws zs) else stk
theorem lendN {r : Bool} {k j l q : Nat} {m : List W → M W} {E' : XK} {gV : List V → List V → List V} {gW : List W → List W → List W} (hE : (if r = true then some E' else none) = E) (hm : ∀ ws, ws.length ≠ q → m ws = stk) (hg : Puts X.K X.mg gV gW) (σ : L2.St) (H : Hp) (Q : VK)
    (z : xE X E (mCallK k j l gW m n nk) σ H Q) : tCallN j l (spM X.K X.mg r q m) gV E' (xA X E n) (xA X E nk) σ H Q := by
  obtain ⟨F0, μ, ρ, h, rl, en, p⟩ := z
  refine ⟨F0, μ, ρ, h, rl, en, (Post.bd p).imp fun ws h1 μ1 H1 s1 rl1 p1 vs rs => ⟨F0, μ1, ρ, h1, rl1, en.step s1, (Post.bd p1).imp fun zs h2 μ2 H2 s2 rl2 p2 vz rz => ?_⟩⟩
  split at p2
  · rename_i hl
    exact ⟨by rw [rs.length]; exact hl.1, by rw [rz.length]; exact hl.2, lend_ok hE hm rl2 (hg (rs.step s2) rz) p2⟩
  · exact p2.elim
variable {k j : Nat} {g : Addr} {fd : FuncData} {ps ks : List Str} {mf : List W → M W} {x : Str} {p : Pos} {kws : List Keyword} {gg : List Value → List Value → List Value} {gV : List V → List V → List V} {gW : List W → List W → List W}
theorem run_fnGN {pins : List (Addr × Obj)} {σ : L2.St} {H : Hp} {s : Shared} {Q : VK} {us ws : List Value} {vs zs : List V} (F : FnG X.prog X.w X.K X.mg X.base k g fd ps mf) (hr : Room k X.A) (hgd : X.A.guards = some []) (hb : KBn X.K fd ps j ks gg gV)
    (I : Inv X pins σ H s) (r : Vals vs us) (rz : Vals zs ws) (l1 : vs.length = j) (l2 : zs.length = ks.length) (h : spM X.K X.mg false ps.length mf (gV vs zs) H Q E0) : wpAny (model X.prog X.w) X.A (call (.ref g) us (ks.zip ws)) (EP X pins σ Q) X.xe s :=
  run_fnG1 F hr hgd (hb.to s us ws I.kIn (r.length.symm.trans l1) (rz.length.symm.trans l2)) I (hb.rel r rz) h
theorem dCallK (i : Nat) (F : FnG X.prog X.w X.K X.mg X.base k g fd ps mf) (hr : Room k X.A) (hgd : X.A.guards = some []) (hg : Gl X x) (hm : X.mg x = some (.ref g)) (hk : PySem.W.keepIn X.K (.ref g) = true) (hb : KBn X.K fd ps j ks gg gV) (hgW : Puts X.K X.mg gV gW) (hl : ∀ ws, ws.length ≠ ps.length → mf ws = stk)
    (ha : PA X (e :: es) (xA X none n)) (hkw : PK X kws (xA X none nk)) (hall : (backToKw pos (keywordEach kws X.env)).all (·.1.isSome) = true := by rfl) (hks : (backToKw pos (keywordEach kws X.env)).filterMap (·.1) = ks := by rfl)
    (hdb : (x == ("__debug__" : Str)) = false := by decide) (he : starEach (e :: es) X.env = (false, eval e X.env) :: starEach es X.env := by rfl)
    (hpl : ((backTo pos (starEach (e :: es) X.env)).any (·.1) || (backToKw pos (keywordEach kws X.env)).any (·.1.isNone)) = false := by rfl) {l : Nat} (hkl : ks.length = l := by rfl) :
    PE X (.Call (.Name x p) (e :: es) kws pos) (xE X none (mCallK i j l gW mf n nk)) := by
  subst hkl
  refine ⟨fun pins s σ H Q I h => ?_⟩
  have h := lendN (r := false) (E' := E0) (q := ps.length) rfl hl hgW σ H Q h
  refine wpAny_Call_Name_kw (ld_glob I hg hm ?_ hdb)
  refine PySem.W.callWith_KW (h₀ := X.base) I.ok.mod.kin hk hall (thn (ha.run pos pins s σ H _ I h) fun us s1 ⟨vs, H1, I1, r, q⟩ => ?_) hpl he
  refine thn (hkw.run pos pins s1 σ H1 _ I1 q) fun ws s2 ⟨zs, H2, I2, rz, l1, l2, q2⟩ => ⟨I2.kIn, ?_⟩
  rw [hks]
  exact run_fnGN F hr hgd hb I2 r rz l1 l2 q2
theorem dCallK0 (i : Nat) (F : FnG X.prog X.w X.K X.mg X.base k g fd ps mf) (hr : Room k X.A) (hgd : X.A.guards = some []) (hg : Gl X x) (hm : X.mg x = some (.ref g)) (hk : PySem.W.keepIn X.K (.ref g) = true) (hb : KBn X.K fd ps 0 ks gg gV) (hgW : Puts X.K X.mg gV gW) (hl : ∀ ws, ws.length ≠ ps.length → mf ws = stk)
    (hkw : PK X kws (xA X none nk)) (hall : (backToKw pos (keywordEach kws X.env)).all (·.1.isSome) = true := by rfl) (hks : (backToKw pos (keywordEach kws X.env)).filterMap (·.1) = ks := by rfl) (hdb : (x == ("__debug__" : Str)) = false := by decide)
    (hpl : ((backTo pos (starEach [] X.env)).any (·.1) || (backToKw pos (keywordEach kws X.env)).any (·.1.isNone)) = false := by rfl) {l : Nat} (hkl : ks.length = l := by rfl) :
    PE X (.Call (.Name x p) [] kws pos) (xE X none (mCallK i 0 l gW mf mNil nk)) := by
  subst hkl
  refine ⟨fun pins s σ H Q I h => ?_⟩
  have h := lendN (r := false) (E' := E0) (q := ps.length) rfl hl hgW σ H Q h
  refine wpAny_Call_Name_kw (ld_glob I hg hm ?_ hdb)
  refine PySem.W.callWith_KW0 (h₀ := X.base) I.ok.mod.kin hk hall ?_ hpl
  obtain ⟨F0, μ, ρ, h0, rl, en, p0⟩ := h
  have q := p0 μ H (.refl _ _) rl [] .nil
  refine thn (hkw.run pos pins s σ H _ I q) fun ws s2 ⟨zs, H2, I2, rz, l1, l2, q2⟩ => ⟨I2.kIn, ?_⟩
  rw [hks]
  exact run_fnGN (us := []) (vs := []) F hr hgd hb I2 .nil rz l1 l2 q2

/-! ### new instances -/
/-- C(..): a new instance of the class c, then __init__'s mirror -/
def isNonW : W → Bool
  | .d .non => true
  | _ => false
theorem isNonW_eq {w : W} (e : isNonW w = true) : w = .d .non := by
  unfold isNonW at e
  split at e
  · rfl
  · cases e
def mNew (c : Str) (mi : List W → M W) : List W → M W := fun ws h => match mi (.ref h.length :: ws) (h ++ [.ins c []]) with
  | .ok w h' => if isNonW w = true then .ok (.ref h.length) h' else .st
  | .ex e h' => .ex e h'
  | .st => .st
theorem new_sp {r : Bool} {q : Nat} {mi : List W → M W} {Q : VK} {E' : XK} {H : Hp} {vs : List V} {xa dx : Addr} (hmg : X.mg c = some (.ref C)) (h1 : H xa = none) (h2 : H dx = none) (ne : dx ≠ xa) (h : spM X.K X.mg r q (mNew c mi) vs H Q E') :
    spM X.K X.mg r (q + 1) mi (.ref xa :: vs) (upd (upd H dx (.own xa)) xa (.ins C dx [])) (fun v H2 => v = .non ∧ Q (.ref xa) H2) E' := by
  obtain ⟨hl, F0, μ, h, ws, rl, rs, p⟩ := h
  have e1 : (upd H dx (.own xa)) xa = none := by rw [upd_ne (Ne.symm ne)]; exact h1
  have s1 : Stp μ H μ (upd H dx (.own xa)) := .fresh h2
  have rl1 := rl.fresh (o := .own xa) h2
  have s2 : Stp μ (upd H dx (.own xa)) (μ ++ [some xa]) (upd (upd H dx (.own xa)) xa (.ins C dx [])) := .push e1
  have rl2 : Rl X.K X.mg F0 (μ ++ [some xa]) (h ++ [.ins c []]) (upd (upd H dx (.own xa)) xa (.ins C dx [])) := rl1.push e1 ⟨C, dx, [], hmg, upd_same, .nil⟩
  refine ⟨by rw [List.length_cons, hl], F0, μ ++ [some xa], h ++ [.ins c []], .ref h.length :: ws, rl2, .cons (newR rl1) ((rs.step s1).step s2), ?_⟩
  have e : mNew c mi ws h = (match mi (.ref h.length :: ws) (h ++ [.ins c []]) with
    | .ok w h' => if isNonW w = true then .ok (.ref h.length) h' else .st
    | .ex e h' => .ex e h'
    | .st => .st) := rfl
  rw [e] at p
  cases z : mi (.ref h.length :: ws) (h ++ [.ins c []]) with
  | ok w h' =>
    rw [z] at p
    simp only at p
    by_cases hw : isNonW w = true
    · rw [if_pos hw] at p
      cases isNonW_eq hw
      intro μ' H' s3 rl' v rv
      cases RepD.n rv
      refine ⟨rfl, p μ' H' ((s1.trans s2).trans s3) rl' _ ?_⟩
      have hn : h.length < μ'.length := Nat.lt_of_lt_of_le (by rw [List.length_append, rl.len]; exact Nat.lt_succ_self _) s3.len
      refine ⟨hn, fun a ea => ?_⟩
      have := s3.old h.length a (by rw [List.length_append, rl.len]; exact Nat.lt_succ_self _) ea
      rw [← rl.len, List.getElem?_append_right (Nat.le_refl _)] at this
      have : xa = a := by simpa using this
      rw [this]
    · rw [if_neg hw] at p
      exact p.elim
  | ex x h' =>
    rw [z] at p
    cases r with
    | false => exact p
    | true => exact fun μ' H' c dx s3 rl' x => p μ' H' c dx ((s1.trans s2).trans s3) rl' x
  | st => rw [z] at p; exact p
theorem make_guards {A : Around} {C : Addr} {us : List Value} {kw : List (Str × Value)} : (A.under (.builtin "type.__call__" ⟨.ref C :: us, kw⟩)).guards = A.guards := by
  first | rfl | simp [Around.under, Code.guards, Code.isGuard, guardIds, pushGuards]
theorem run_makeG {i : Nat} {gV' : List V → List V → List V} {pins : List (Addr × Obj)} {σ : L2.St} {H : Hp} {s : Shared} {Q : VK} {us ws : List Value} {vs zs : List V} (M : Mk X.K C g) (hmg : X.mg c = some (.ref C)) (F : FnG X.prog X.w X.K X.mg X.base k g fd ps mf) (hr : Room (k + 1) X.A) (hgd : X.A.guards = some []) (hb : KBn X.K fd ps (j + 1) ks gg (fun us ws => gV' us ws))
    (hcons : ∀ x vs zs, gV' (x :: vs) zs = x :: gV vs zs) (hps : ps.length = i + 1)
    (I : Inv X pins σ H s) (r : Vals vs us) (rz : Vals zs ws) (l1 : vs.length = j) (l2 : zs.length = ks.length)
    (h : spM X.K X.mg false i (mNew c mf) (gV vs zs) H Q E0) :
    wpAny (model X.prog X.w) X.A (call (.ref C) us (ks.zip ws)) (EP X pins σ Q) X.xe s := by
  have ne : s.heap.objs.size ≠ s.heap.objs.size + 1 := Nat.ne_of_lt (Nat.lt_succ_self _)
  have hq := new_sp (C := C) hmg (I.hok.fresh (Nat.le_succ s.heap.objs.size)) (I.hok.fresh (Nat.le_refl s.heap.objs.size)) ne h
  have I2 := Inv.made (C := C) I
  have r1 : Vals (V.ref (s.heap.objs.size + 1) :: vs) (Value.ref (s.heap.objs.size + 1) :: us) := .cons rfl r
  have r2 := hb.rel r1 rz
  rw [hcons] at r2
  rw [← hps] at hq
  have n1 : (Value.ref (s.heap.objs.size + 1) :: us).length = j + 1 := by
    rw [List.length_cons, ← r.length, l1]
  refine wpAny_call (make_map (f := g) I.kIn M.makes M.init (beq_iff_eq.mp M.fn) (codeAny_mono (F.run _ X.stack _ _ ⟨Value.ref (s.heap.objs.size + 1) :: us, ks.zip ws⟩ (gg (Value.ref (s.heap.objs.size + 1) :: us) ws) _ _ (hr.make C us (ks.zip ws)) (make_guards.trans hgd)
    (I2.env0.make C us (ks.zip ws)) (hb.to _ (Value.ref (s.heap.objs.size + 1) :: us) ws I2.kIn n1 (rz.length.symm.trans l2)) r2 hq) fun rr s' hq' => ?_))
  cases rr with
  | error e => exact False.elim hq'
  | ok fl =>
    cases fl with
    | ret u =>
      obtain ⟨v, H', I3, rv, ev, q3⟩ := I2.after hq'
      subst ev
      exact ⟨rv, ⟨V.ref (s.heap.objs.size + 1), H', I3, rfl, q3⟩⟩
    | next => exact False.elim hq'
    | brk => exact False.elim hq'
    | cont => exact False.elim hq'
end
end DD

set_option Elab.async false
set_option linter.all false
set_option maxRecDepth 100000
set_option maxHeartbeats 1000000
/-! DD11: calls of classes, properties, isinstance. -/
namespace DD
open PySem L2
section
variable {X : Cx} {E : Option XK} {m m1 m2 : Env → M W} {n nk : Env → M (List W)} {e o value : Expr} {es : List Expr} {pos : Pos} {c f : Str} {C : Addr}
variable {i k j : Nat} {g : Addr} {fd : FuncData} {ps ks : List Str} {mf : List W → M W} {x : Str} {p : Pos} {kws : List Keyword} {gg : List Value → List Value → List Value} {gV gV' : List V → List V → List V} {gW : List W → List W → List W}
theorem mNew_len (hps : ps.length = i + 1) (hl : ∀ ws, ws.length ≠ ps.length → mf ws = stk) (ws : List W) (h : ws.length ≠ i) : mNew c mf ws = stk := by
  funext hp
  have e : mf (.ref hp.length :: ws) = stk := hl _ (by rw [List.length_cons, hps]; omega)
  unfold mNew
  rw [e]
  rfl
theorem dMakeK (q : Nat) (M : Mk X.K C g) (hmg : X.mg c = some (.ref C)) (F : FnG X.prog X.w X.K X.mg X.base k g fd ps mf) (hr : Room (k + 1) X.A) (hgd : X.A.guards = some []) (hg : Gl X c) (hb : KBn X.K fd ps (j + 1) ks gg gV') (hcons : ∀ x vs zs, gV' (x :: vs) zs = x :: gV vs zs) (hps : ps.length = i + 1)
    (hgW : Puts X.K X.mg gV gW) (hl : ∀ ws, ws.length ≠ ps.length → mf ws = stk)
    (ha : PA X (e :: es) (xA X none n)) (hkw : PK X kws (xA X none nk)) (hall : (backToKw pos (keywordEach kws X.env)).all (·.1.isSome) = true := by rfl) (hks : (backToKw pos (keywordEach kws X.env)).filterMap (·.1) = ks := by rfl)
    (hdb : (c == ("__debug__" : Str)) = false := by decide) (he : starEach (e :: es) X.env = (false, eval e X.env) :: starEach es X.env := by rfl)
    (hpl : ((backTo pos (starEach (e :: es) X.env)).any (·.1) || (backToKw pos (keywordEach kws X.env)).any (·.1.isNone)) = false := by rfl) {l : Nat} (hkl : ks.length = l := by rfl) :
    PE X (.Call (.Name c p) (e :: es) kws pos) (xE X none (mCallK q j l gW (mNew c mf) n nk)) := by
  subst hkl
  refine ⟨fun pins s σ H Q I h => ?_⟩
  have h := lendN (r := false) (E' := E0) (q := i) rfl (mNew_len hps hl) hgW σ H Q h
  refine wpAny_Call_Name_kw (ld_glob I hg hmg ?_ hdb)
  refine PySem.W.callWith_KW (h₀ := X.base) I.ok.mod.kin M.kp hall (thn (ha.run pos pins s σ H _ I h) fun us s1 ⟨vs, H1, I1, r, q⟩ => ?_) hpl he
  refine thn (hkw.run pos pins s1 σ H1 _ I1 q) fun ws s2 ⟨zs, H2, I2, rz, l1, l2, q2⟩ => ⟨I2.kIn, ?_⟩
  rw [hks]
  exact run_makeG M hmg F hr hgd hb hcons hps I2 r rz l1 l2 q2
theorem dMakeK0 (q : Nat) (M : Mk X.K C g) (hmg : X.mg c = some (.ref C)) (F : FnG X.prog X.w X.K X.mg X.base k g fd ps mf) (hr : Room (k + 1) X.A) (hgd : X.A.guards = some []) (hg : Gl X c) (hb : KBn X.K fd ps 1 ks gg gV') (hcons : ∀ x vs zs, gV' (x :: vs) zs = x :: gV vs zs) (hps : ps.length = i + 1)
    (hgW : Puts X.K X.mg gV gW) (hl : ∀ ws, ws.length ≠ ps.length → mf ws = stk)
    (hkw : PK X kws (xA X none nk)) (hall : (backToKw pos (keywordEach kws X.env)).all (·.1.isSome) = true := by rfl) (hks : (backToKw pos (keywordEach kws X.env)).filterMap (·.1) = ks := by rfl) (hdb : (c == ("__debug__" : Str)) = false := by decide)
    (hpl : ((backTo pos (starEach [] X.env)).any (·.1) || (backToKw pos (keywordEach kws X.env)).any (·.1.isNone)) = false := by rfl) {l : Nat} (hkl : ks.length = l := by rfl) :
    PE X (.Call (.Name c p) [] kws pos) (xE X none (mCallK q 0 l gW (mNew c mf) mNil nk)) := by
  subst hkl
  refine ⟨fun pins s σ H Q I h => ?_⟩
  have h := lendN (r := false) (E' := E0) (q := i) rfl (mNew_len hps hl) hgW σ H Q h
  refine wpAny_Call_Name_kw (ld_glob I hg hmg ?_ hdb)
  refine PySem.W.callWith_KW0 (h₀ := X.base) I.ok.mod.kin M.kp hall ?_ hpl
  obtain ⟨F0, μ, ρ, h0, rl, en, p0⟩ := h
  have q := p0 μ H (.refl _ _) rl [] .nil
  refine thn (hkw.run pos pins s σ H _ I q) fun ws s2 ⟨zs, H2, I2, rz, l1, l2, q2⟩ => ⟨I2.kIn, ?_⟩
  rw [hks]
  exact run_makeG (us := []) (vs := []) M hmg F hr hgd hb hcons hps I2 .nil rz l1 l2 q2
/-- what binds without keywords, told with keywords -/
theorem KBn.plain {dvs : List V} {ds : List Value} (hb : Binds X.K fd ps ds) (hd : Vals dvs ds) (hn : j + ds.length = ps.length) : KBn X.K fd ps j [] (fun us _ => us ++ ds) (fun vs _ => vs ++ dvs) := by
  refine ⟨fun s us ws K1 l1 l2 => ?_, fun r1 r2 => r1.append hd⟩
  have : ws = [] := List.eq_nil_of_length_eq_zero l2
  subst this
  exact hb s us K1 (by rw [List.length_append, l1, hn])

/-! ### properties -/
def clsO : O → Option Str
  | .ins c _ => some c
  | _ => none
def clsW (h : List O) : W → Option Str
  | .d (.ins c _) => some c
  | .ref n => (h[n]?).bind clsO
  | _ => none
def opProp (q : Nat) (c : Str) (mf : List W → M W) : W → M W := fun w h => if clsW h w = some c then lendC q mf [w] h else .st
theorem clsW_rep {F0 : Addr → Prop} {μ : Mu} {H : Hp} {h : List O} {w : W} {v : V} (hm : X.mg c = some (.ref C)) (rl : Rl X.K X.mg F0 μ h H) (e : clsW h w = some c) (r : RepW X.K X.mg F0 μ H w v) : ∃ a dx fs, v = .ref a ∧ H a = some (.ins C dx fs) := by
  unfold clsW at e
  split at e
  · cases e
    have r : RepD X.K X.mg (Av F0 μ) H (.ins c _) v := r
    cases r with
    | ins g1 g2 g3 g4 =>
      rw [hm] at g2
      cases g2
      exact ⟨_, _, _, rfl, g3⟩
  · rename_i j
    cases z : h[j]? with
    | none => rw [z] at e; cases e
    | some ob =>
      rw [z] at e
      have e : clsO ob = some c := e
      unfold clsO at e
      split at e
      · cases e
        obtain ⟨a, z1, rfl, C', dx, vs, g2, g3, g4⟩ := liveO rl z (fun z => nomatch z) r
        rw [hm] at g2
        cases g2
        exact ⟨_, _, _, rfl, g3⟩
      · cases e
  · cases e
theorem dProp (q : Nat) {pa : Addr} (c : Str) (hm : X.mg c = some (.ref C)) (cl : Cls X.K C) (hp : PropOf X.K C f pa g) (F : FnG X.prog X.w X.K X.mg X.base k g fd ps mf) (hps : ps.length = 1) (hr : Room (k + 1) X.A) (hgd : X.A.guards = some []) (hb : Binds X.K fd ps []) (hl : ∀ ws, ws.length ≠ ps.length → mf ws = stk)
    (he : PE X e (xE X none m)) (hab : attributeBase e f X.env (eval e X.env) = eval e X.env := by rfl) : PE X (.Attribute e f pos) (xE X none (m1op (opProp q c mf) m)) := by
  refine ⟨fun pins s σ H Q I ⟨F0, μ, ρ, h, rl, en, p0⟩ => ?_⟩
  refine attr_of hab (thn (he.run pins s σ H (fun x H1 => ∃ a dx fs, x = .ref a ∧ H1 a = some (.ins C dx fs) ∧ spM X.K X.mg false ps.length mf [x] H1 Q E0) I ⟨F0, μ, ρ, h, rl, en, (Post.bd p0).imp fun w h1 μ1 H1 s1 rl1 p1 v r => ?_⟩) fun u s1 ⟨x, H1, I1, rx, a, dx, fs, ex, ea, q⟩ => ?_)
  · unfold opProp at p1
    split at p1
    · rename_i hc
      obtain ⟨a, dx, fs, rfl, ea⟩ := clsW_rep hm rl1 hc r
      exact ⟨a, dx, fs, rfl, ea, lend_ok (r := false) rfl hl rl1 (.cons r .nil) p1⟩
    · exact p1.elim
  · subst ex
    obtain rfl : u = Value.ref a := rx
    obtain ⟨mA, O, _, _, _, _⟩ := ins_get I1.hok ea
    obtain ⟨od, J, _⟩ := O.look
    obtain ⟨rest, hrec⟩ := hp.rec_
    have I2 := I1.tok (s1.toks + 1)
    have hc : (PySem.W.clsIn X.K C).isSome = true := by
      obtain ⟨cd, hc, _⟩ := PySem.W.any_some cl.hd
      rw [hc]
      rfl
    refine PySem.W.get_bind I1.kIn J (PySem.W.plainGet_of (cl.get f)).1 (PySem.W.findObj_data hc hp.at_ hp.get hp.tak) (PySem.W.plainGet_of (cl.get f)).2 (wpAny_call (PySem.W.prop_get (s := { s1 with toks := s1.toks + 1 }) I1.kIn hrec ?_))
    refine codeAny_mono (F.run X.A.in1 X.stack { s1 with toks := s1.toks + 1 } H1 ⟨[.ref a], []⟩ [.ref a] [.ref a] Q hr.in1 hgd I2.env0.in1 (hb _ [.ref a] I2.kIn (by rw [hps]; rfl)) (.cons rfl .nil) q) fun r s' hq => ?_
    cases r with
    | error er => exact False.elim hq
    | ok fl =>
      cases fl with
      | ret u =>
        obtain ⟨v, H', I3, rv, q3⟩ := I2.after hq
        show wpAny _ _ (handedOut u) _ _ _
        rw [PySem.W.handedOut_of (handed_of rv)]
        exact wpAny_pure ⟨v, H', I3, rv, q3⟩
      | next => exact False.elim hq
      | brk => exact False.elim hq
      | cont => exact False.elim hq

/-! ### isinstance, of a value that is no instance of an own class -/
def kindD : D → Option String
  | .non => some "NoneType"
  | .bl _ => some "bool"
  | .int _ => some "int"
  | .str _ => some "str"
  | .tup _ => some "tuple"
  | .lst _ => some "list"
  | .frz _ => some "list"
  | .dic _ => some "dict"
  | _ => none
def kindW (h : List O) : W → Option String
  | .d x => kindD x
  | .ref n => (h[n]?).bind fun o => match o with
    | .lst _ => some "list"
    | .dic _ => some "dict"
    | _ => none
def isiT (a b : String) : Option Bool :=
  if a ∈ ["NoneType", "bool", "int", "str", "tuple", "list", "dict"] ∧ b ∈ ["bool", "int", "str", "tuple", "list", "dict"] then some (decide (a = b) || (decide (a = "bool") && decide (b = "int"))) else none
theorem isiT_kit {a b : String} {r : Bool} (e : isiT a b = some r) : kitB a b = some r := by
  unfold isiT at e
  split at e
  · rename_i h
    obtain ⟨h1, h2⟩ := h
    have key : ∀ a ∈ ["NoneType", "bool", "int", "str", "tuple", "list", "dict"], ∀ b ∈ ["bool", "int", "str", "tuple", "list", "dict"], kitB a b = some (decide (a = b) || (decide (a = "bool") && decide (b = "int"))) := by decide +kernel
    rw [key a h1 b h2, e]
  · cases e
def bIsi : List W → M W
  | [w, .d (.ty t)] => fun h => match (kindW h w).bind fun a => isiT a t with
    | some b => .ok (.d (.bl b)) h
    | none => .st
  | _ => stk
theorem kind_rep {F0 : Addr → Prop} {μ : Mu} {H : Hp} {h : List O} {w : W} {v : V} {a : String} (rl : Rl X.K X.mg F0 μ h H) (e : kindW h w = some a) (r : RepW X.K X.mg F0 μ H w v) : TyX X.K H v (.type a) := by
  cases w with
  | d x =>
    have r : RepD X.K X.mg (Av F0 μ) H x v := r
    have e : kindD x = some a := e
    cases r with
    | non => cases e; exact .base .non
    | bl b => cases e; exact .base (.bl b)
    | int b => cases e; exact .base (.int b)
    | str b => cases e; exact .base (.str b)
    | ty => cases e
    | glb => cases e
    | ins => cases e
    | tup g1 g2 =>
      cases e
      rcases g1 with ⟨_, q | ⟨o, q⟩⟩ | ⟨o, its, n, q1, q2, _⟩
      · exact .base (.tup q)
      · exact .fTuple q
      · exact .kTuple q1 q2
    | lst _ q _ => cases e; exact .base (.lst q)
    | frz g1 g2 =>
      cases e
      rcases g1 with ⟨_, q | ⟨o, q⟩⟩ | ⟨o, its, n, q1, q2, _⟩
      · exact .base (.lst q)
      · exact .base (.frz q)
      · exact .kList q1 q2
    | dic _ q _ => cases e; exact .base (.dK q)
  | ref j =>
    cases z : h[j]? with
    | none =>
      have e : (h[j]?).bind _ = some a := e
      rw [z] at e
      cases e
    | some ob =>
      have e : (h[j]?).bind _ = some a := e
      rw [z] at e
      cases ob with
      | lst ws =>
        cases e
        obtain ⟨a, z1, rfl, vs, g2, g3⟩ := liveO rl z (fun z => nomatch z) r
        exact .base (.lst g2)
      | dic ws =>
        cases e
        obtain ⟨a, z1, rfl, vs, g2, g3⟩ := liveO rl z (fun z => nomatch z) r
        exact .base (.dK g2)
      | ins c ws => cases e
      | dead => cases e
theorem cIsi : CallR X (.builtin "isinstance") (rA X.K X.mg E bIsi) := by
  intro pins s σ H xs us Q I r ⟨F0, μ, h, as, rl, rs, p⟩
  unfold bIsi at p
  split at p
  · rename_i w t
    cases rs with
    | cons r1 rs =>
      cases rs with
      | cons r2 rs =>
        cases rs
        have r2 : RepD X.K X.mg (Av F0 μ) H (.ty t) _ := r2
        cases r2
        split at p
        · rename_i b hb
          cases z : kindW h w with
          | none => rw [z] at hb; cases hb
          | some a =>
            rw [z] at hb
            exact call_isi pins s σ H _ us Q I r ⟨_, _, _, _, b, rfl, .ty t, kind_rep rl z r1, kit_ty (isiT_kit hb), p μ H (.refl _ _) rl _ (RepD.bl b)⟩
        · exact p.elim
  · exact p.elim
/-- a built-in type's name -/
theorem dTyN {t : String} (hg : Gl X x) (hm : X.mg x = none) (hv : bootBuiltins x = some (.type t)) (hn : x ≠ "__name__" := by decide) (hd : (x == ("__debug__" : Str)) = false := by decide) : PE X (.Name x pos) (xE X E (mC (.ty t))) := cst (pe_bltn (v := V.ty t) hg hm hv rfl hn hd) fun _ _ => .ty t
end
end DD

set_option Elab.async false
set_option linter.all false
set_option maxRecDepth 100000
set_option maxHeartbeats 1000000
/-! DD12: calls of methods, giving up a handle, is of truth values, list * int, signs of a text, sum, max, repr, sorted. -/
namespace DD
open PySem L2
section
variable {X : Cx} {E : Option XK} {m m1 m2 : Env → M W} {n nk : Env → M (List W)} {e o value : Expr} {es : List Expr} {pos apos cpos : Pos}

/-! ### methods of a list that may change -/
theorem dMeth {name : Str} {id : String} {op : Nat → List W → M W} (slot : Slot "list" name id) (hty : typeOf (.builtin id) = pure (.type "method_descriptor")) (hm : MtR X id (rM X E op)) (ho : PE X o (xE X E m)) (ha : PA X (e :: es) (xA X E n))
    (hbase : attributeBase o name X.env (eval o X.env) = eval o X.env := by rfl)
    (hfew : ((backTo cpos (starEach (e :: es) X.env)).all (fun x => !x.1) && (backToKw cpos (keywordEach [] X.env)).all (fun x => x.1.isSome) && decide ((e :: es).length + ([] : List Keyword).length + (if ([] : List Keyword).isEmpty then 0 else 1) < 30)) = true := by rfl)
    (hline : (apos.endLine == cpos.line) = true := by rfl) (hs : starEach (e :: es) X.env = (false, eval e X.env) :: starEach es X.env := by rfl) (hplain : (backTo cpos (starEach es X.env)).any (·.1) = false := by rfl) :
    PE X (.Call (.Attribute o name apos) (e :: es) [] cpos) (xE X E (mMeth op m n)) := (pe_bm PySem.F.plainAttrs_list slot hty hm ho ha hbase hfew hline hs hplain).to tMeth
theorem dMeth0 {name : Str} {id : String} {op : Nat → List W → M W} (slot : Slot "list" name id) (hty : typeOf (.builtin id) = pure (.type "method_descriptor")) (hm : MtR X id (rM X E op)) (ho : PE X o (xE X E m))
    (hbase : attributeBase o name X.env (eval o X.env) = eval o X.env := by rfl) (hline : (apos.endLine == cpos.line) = true := by rfl) :
    PE X (.Call (.Attribute o name apos) [] [] cpos) (xE X E (mMeth op m mNil)) := (pe_bm0 PySem.F.plainAttrs_list slot hty hm ho hbase hline).to tMeth0

/-! ### a name's handle is given up -/
def frz (i : Nat) (ρ : Env) : M Env := fun h => match (ρ[i]?).join with
  | some (.ref n) => match (h[n]?).bind objD with
    | some d => .ok (ρ.set i (some (.d d))) (h.set n .dead)
    | none => .st
  | _ => .st
def mFrz (i : Nat) (s : Env → M Fl) : Env → M Fl := fun ρ => bd (s ρ) fun f => match f with
  | .nx ρ' => bd (frz i ρ') fun ρ2 => pu (.nx ρ2)
  | f => pu f
theorem frz_ok {F0 : Addr → Prop} {μ : Mu} {H : Hp} {h h2 : List O} {i : Nat} {ρ ρ2 : Env} {σ : L2.St} (rl : Rl X.K X.mg F0 μ h H) (en : EnvR X.K X.mg F0 μ H ρ σ) (e : frz i ρ h = .ok ρ2 h2) : ∃ μ2, Stp μ H μ2 H ∧ Rl X.K X.mg F0 μ2 h2 H ∧ ∃ σ2, σ2 = σ ∧ EnvR X.K X.mg F0 μ2 H ρ2 σ2 := by
  unfold frz at e
  split at e
  · rename_i k hk
    split at e
    · rename_i d hd
      cases e
      cases z : h[k]? with
      | none => rw [z] at hd; cases hd
      | some ob =>
        rw [z] at hd
        have hd : objD ob = some d := hd
        obtain ⟨a, q1, q2⟩ := rl.live z hd
        refine ⟨μ.set k none, Stp.freeze k, rl.freeze k, σ, rfl, ?_⟩
        have en2 := en.step (Stp.freeze (μ := μ) (H := H) k)
        obtain ⟨v, g1, g2⟩ := en.2 i (.ref k) (at_join hk)
        have ea := g2.2 a q1
        have rd : RepD X.K X.mg (Av F0 (μ.set k none)) H d (.ref a) := objD_rep hd q2 (rl.avfreeze q1) fun b u v _ => ⟨v.1, fun m y => v.2 m (set_none y).2⟩
        have := en2.set (w := .d d) (v := .ref a) i rd
        rw [ea] at g1
        have es : σ.set i (some (.ref a)) = σ := by
          have hi := (List.getElem?_eq_some_iff.mp g1).1
          have hv := (List.getElem?_eq_some_iff.mp g1).2
          rw [← hv, List.set_getElem_self hi]
        rw [es] at this
        exact this
    · cases e
  · cases e
theorem dsFrz {i : Nat} {st : Stmt} {s : Env → M Fl} (hs : PS X st (xS X E s)) : PS X st (xS X E (mFrz i s)) := hs.to fun Dd σ H ⟨F0, μ, ρ, h, rl, en, p⟩ =>
  ⟨F0, μ, ρ, h, rl, en, (Post.bd p).imp fun f h1 μ1 H1 s1 rl1 p1 => by
    cases f with
    | nx ρ' =>
      intro σ' en'
      have p1 : Post X.K X.mg F0 E μ1 H1 (QF X.K X.mg F0 Dd) (bd (frz i ρ') (fun ρ2 => pu (.nx ρ2)) h1) := p1
      cases z : frz i ρ' h1 with
      | ok ρ2 h2 =>
        obtain ⟨μ2, s2, rl2, σ2, rfl, en2⟩ := frz_ok rl1 en' z
        unfold bd at p1
        rw [z] at p1
        exact p1 μ2 H1 s2 rl2 _ en2
      | ex x h2 =>
        exfalso
        unfold frz at z
        split at z
        · split at z <;> cases z
        · cases z
      | st =>
        unfold bd at p1
        rw [z] at p1
        exact p1.elim
    | rt w => exact p1 μ1 H1 (.refl _ _) rl1
    | bk ρ' => exact p1 μ1 H1 (.refl _ _) rl1
    | ct ρ' => exact p1 μ1 H1 (.refl _ _) rl1⟩

/-! ### is, is not of truth values -/
def opIsB (neg : Bool) : W → W → M W := o2 fun x y => match x, y with
  | .bl a, .bl b => some (.bl (if neg then !decide (a = b) else decide (a = b)))
  | _, _ => none
theorem oIsB : OpR X (compareOp .Is) (r2 X.K X.mg E (opIsB false)) := by
  intro pins s σ H x y v u Q I rx ry ⟨F0, μ, h, a, b, rl, ra, rb, p⟩
  obtain ⟨d1, d2, d3, q1, q2, e, k⟩ := o2_ok rl ra rb p
  split at e
  · cases e
    cases q1.b
    cases q2.b
    exact op_isBl pins s σ H _ _ v u Q I rx ry ⟨_, _, rfl, rfl, k _ (.bl _)⟩
  · cases e
theorem oNotB : OpR X (compareOp .IsNot) (r2 X.K X.mg E (opIsB true)) := by
  intro pins s σ H x y v u Q I rx ry ⟨F0, μ, h, a, b, rl, ra, rb, p⟩
  obtain ⟨d1, d2, d3, q1, q2, e, k⟩ := o2_ok rl ra rb p
  split at e
  · cases e
    cases q1.b
    cases q2.b
    exact op_notBl pins s σ H _ _ v u Q I rx ry ⟨_, _, rfl, rfl, k _ (.bl _)⟩
  · cases e

/-! ### list * int; ints, too -/
def repD (k : Nat) (l : List D) : List D := (List.replicate k l).flatten
theorem repD_rep {K : PySem.W.Frag} {mg : Mg} {A : Addr → Prop} {H : Hp} {l : List D} {xs : List V} (r : RepL K mg A H l xs) : ∀ k, RepL K mg A H (repD k l) (List.replicate k xs).flatten
  | 0 => .nil
  | k + 1 => by
    unfold repD
    rw [List.replicate_succ, List.flatten_cons, List.replicate_succ, List.flatten_cons]
    exact r.append (repD_rep r k)
def opRepO : W → W → Option W
  | .d (.lst l), .d (.int k) => if 0 ≤ k ∧ k ≤ 100000 ∧ l.length * k.toNat ≤ 100000 then some (.d (.lst (repD k.toNat l))) else none
  | .d (.int i), .d (.int j) => if cMul i j = true then some (.d (.int (i * j))) else none
  | _, _ => none
def opRep : W → W → M W := fun a b => oM (opRepO a b)
theorem oRep : OpR X (binaryOp .Mult) (r2 X.K X.mg E opRep) := by
  intro pins s σ H x y v u Q I rx ry ⟨F0, μ, h, a, b, rl, ra, rb, p⟩
  obtain ⟨w, e, k⟩ := oM_ok p
  unfold opRepO at e
  split at e
  · split at e
    · rename_i l1 k1 hl
      cases e
      have ra' : RepD X.K X.mg (Av F0 μ) H (.lst l1) x := ra
      cases RepD.i rb
      obtain ⟨pa, xs, rfl, h1, r1⟩ := ra'.l
      exact op_rep pins s σ H _ _ v u Q I rx ry ⟨pa, k1, xs, rfl, rfl, h1, by omega, by omega, by rw [r1.length]; exact len_ok hl.2.2, fun q hq => k _ _ (.fresh hq) (rl.fresh hq) _ (newL rl hq (repD_rep r1 _))⟩
    · cases e
  · split at e
    · rename_i hc
      cases e
      exact oMul (E := E) pins s σ H _ _ v u Q I rx ry ⟨F0, μ, h, _, _, rl, ra, rb, by
        show Post X.K X.mg F0 E μ H (QW X.K X.mg F0 Q) (oM (Option.map W.d (if cMul _ _ = true then some (D.int _) else none)) h)
        rw [if_pos hc]
        exact k⟩
    · cases e
  · cases e

/-! ### a text's signs -/
def signsD (z : Str) : List D := z.cps.toList.map fun c => .str ⟨#[c]⟩
def signsW : W → Option (List D)
  | .d (.str z) => if z.length ≤ 100000 then some (signsD z) else none
  | _ => none
def mSigns (m : Env → M W) : Env → M (List D) := fun ρ => bd (m ρ) fun w => oM (signsW w)
theorem isW_str {K : PySem.W.Frag} {mg : Mg} {F0 : Addr → Prop} {μ : Mu} {H : Hp} {z : Str} (hz : z.length ≤ 100000) : IsW K mg F0 (Its z) (signsD z) μ H := by
  have e : (signsD z).length = z.cps.size := by unfold signsD; rw [List.length_map, Array.length_toList]
  refine ⟨by rw [e]; exact len_ok hz, fun _ => True, fun i H v H' => H' = H ∧ ∃ c, z.cps[i]? = some c ∧ v = .str ⟨#[c]⟩, ⟨fun i H hi _ => ?_, fun H _ => ?_, fun i H v H' hi _ y => y⟩, fun _ _ _ => trivial, fun i H1 x H2 μ2 h F' hF hi s rl y => ?_⟩
  · rw [e] at hi
    exact hi
  · rw [e]
    exact Nat.le_refl _
  · obtain ⟨rfl, c, hc, rfl⟩ := y
    refine ⟨.inl rfl, .str ⟨#[c]⟩, ?_, .str _⟩
    unfold signsD
    rw [List.getElem?_map, Array.getElem?_toList, hc]
    rfl
theorem diStr {tg : Expr} (he : PE X e (xE X E m)) : PI X tg e (xI X E (mSigns m)) := PI.to (pi_str he) fun σ H Rr ⟨F0, μ, ρ, h, rl, en, p⟩ =>
  ⟨F0, μ, ρ, h, rl, en, (Post.bd p).imp fun w h1 μ1 H1 s1 rl1 p1 v r => by
    obtain ⟨ds, hds, p1⟩ := oM_ok p1
    unfold signsW at hds
    split at hds
    · split at hds
      · rename_i hz
        cases hds
        cases RepD.s r
        exact ⟨_, rfl, p1 μ1 H1 (.refl _ _) rl1 _ (isW_str hz)⟩
      · cases hds
    · cases hds⟩

/-! ### sum of a list or a tuple of ints, max, min, sorted of a list of ints -/
def seqD (f : List D → Option D) : D → Option D
  | .lst l => f l
  | .frz l => f l
  | .tup l => f l
  | _ => none
def bSumA : List W → M W := b1 (seqD fun l => (intsD l).map fun ns => .int ns.sum)
theorem cSumA (hc : X.calm = true) : CallR X (.builtin "sum") (rA X.K X.mg E bSumA) := by
  intro pins s σ H xs us Q I r ⟨F0, μ, h, as, rl, rs, p⟩
  obtain ⟨v, d1, d3, rfl, q1, e, k⟩ := b1_ok rl rs p
  have key : ∀ {a : Addr} {ys : List V} {l : List D}, ((intsD l).map fun ns => D.int ns.sum) = some d3 → RepL X.K X.mg (fun _ => True) H l ys → v = .ref a → (SqL X.K H a ys ∨ SqT X.K H a ys) → wpAny (model X.prog X.w) X.A (call (.builtin "sum") us) (EP X pins σ Q) X.xe s := fun {a ys l} e rr ev hs => by
    subst ev
    cases z : intsD l with
    | none => rw [z] at e; cases e
    | some bs =>
      rw [z] at e
      cases e
      rw [intsD_eq z] at rr
      cases rep_ints rr
      rcases hs with hs | hs
      · exact cr_sum hc pins s σ H _ us Q I r ⟨a, bs, rfl, hs, k _ (.int _)⟩
      · obtain ⟨its, rv, ht, _⟩ := I.tuple hs
        rw [Vals.ref1 r]
        have hi := rv.ints
        obtain ⟨xs, hx⟩ := hi.allInts.items
        have hn : numsOf its.toArray.toList = bs := by rw [show its.toArray.toList = its from rfl, hi.numsOf]
        have ht' : s.heap.IsTuple a its.toArray := ht
        rw [hx] at ht' hn
        rw [nums_intItems] at hn
        refine PySem.W.ktm_sumG (I.ok.hd hc) ht' fun h' tk t' hk => ?_
        rw [preSum_eq, List.take_of_length_le (by simp), hn]
        exact ⟨.int _, H, I.kept hk, ⟨_, rfl⟩, k _ (.int _)⟩
  unfold seqD at e
  split at e
  · obtain ⟨a, ys, rfl, hh, rr⟩ := q1.l; exact key e rr rfl (.inl (.of hh))
  · obtain ⟨a, ys, rfl, hh, rr⟩ := q1.f; exact key e rr rfl (.inl hh)
  · obtain ⟨a, ys, rfl, hh, rr⟩ := q1.t; exact key e rr rfl (.inr hh)
  · cases e
def maxI : List Int → Option Int
  | [] => none
  | x :: l => some (l.foldl (fun m y => if m < y then y else m) x)
def minI : List Int → Option Int
  | [] => none
  | x :: l => some (l.foldl (fun m y => if y < m then y else m) x)
theorem foldl_max (l : List Int) : ∀ x : Int, (l.foldl (fun m y => if m < y then y else m) x = x ∨ l.foldl (fun m y => if m < y then y else m) x ∈ l) ∧ x ≤ l.foldl (fun m y => if m < y then y else m) x ∧ ∀ y ∈ l, y ≤ l.foldl (fun m y => if m < y then y else m) x := by
  induction l with
  | nil => intro x; exact ⟨.inl rfl, Int.le_refl _, fun y h => by cases h⟩
  | cons a l ih =>
    intro x
    rw [List.foldl_cons]
    obtain ⟨h1, h2, h3⟩ := ih (if x < a then a else x)
    refine ⟨?_, ?_, ?_⟩
    · rcases h1 with h1 | h1
      · rw [h1]
        split
        · exact .inr List.mem_cons_self
        · exact .inl rfl
      · exact .inr (List.mem_cons_of_mem _ h1)
    · refine Int.le_trans ?_ h2
      split <;> omega
    · intro y hy
      rcases List.mem_cons.mp hy with rfl | hy
      · refine Int.le_trans ?_ h2
        split <;> omega
      · exact h3 y hy
theorem foldl_min (l : List Int) : ∀ x : Int, (l.foldl (fun m y => if y < m then y else m) x = x ∨ l.foldl (fun m y => if y < m then y else m) x ∈ l) ∧ l.foldl (fun m y => if y < m then y else m) x ≤ x ∧ ∀ y ∈ l, l.foldl (fun m y => if y < m then y else m) x ≤ y := by
  induction l with
  | nil => intro x; exact ⟨.inl rfl, Int.le_refl _, fun y h => by cases h⟩
  | cons a l ih =>
    intro x
    rw [List.foldl_cons]
    obtain ⟨h1, h2, h3⟩ := ih (if a < x then a else x)
    refine ⟨?_, ?_, ?_⟩
    · rcases h1 with h1 | h1
      · rw [h1]
        split
        · exact .inr List.mem_cons_self
        · exact .inl rfl
      · exact .inr (List.mem_cons_of_mem _ h1)
    · refine Int.le_trans h2 ?_
      split <;> omega
    · intro y hy
      rcases List.mem_cons.mp hy with rfl | hy
      · refine Int.le_trans h2 ?_
        split <;> omega
      · exact h3 y hy
theorem maxI_is {l : List Int} {m z : Int} (e : maxI l = some z) (h1 : m ∈ l) (h2 : ∀ y ∈ l, y ≤ m) : m = z := by
  cases l with
  | nil => cases e
  | cons x l =>
    cases e
    obtain ⟨q1, q2, q3⟩ := foldl_max l x
    have a : m ≤ l.foldl (fun m y => if m < y then y else m) x := by
      rcases List.mem_cons.mp h1 with rfl | h
      · exact q2
      · exact q3 m h
    have b : l.foldl (fun m y => if m < y then y else m) x ≤ m := by
      rcases q1 with h | h
      · rw [h]; exact h2 x List.mem_cons_self
      · exact h2 _ (List.mem_cons_of_mem _ h)
    omega
theorem minI_is {l : List Int} {m z : Int} (e : minI l = some z) (h1 : m ∈ l) (h2 : ∀ y ∈ l, m ≤ y) : m = z := by
  cases l with
  | nil => cases e
  | cons x l =>
    cases e
    obtain ⟨q1, q2, q3⟩ := foldl_min l x
    have a : l.foldl (fun m y => if y < m then y else m) x ≤ m := by
      rcases List.mem_cons.mp h1 with rfl | h
      · exact q2
      · exact q3 m h
    have b : m ≤ l.foldl (fun m y => if y < m then y else m) x := by
      rcases q1 with h | h
      · rw [h]; exact h2 x List.mem_cons_self
      · exact h2 _ (List.mem_cons_of_mem _ h)
    omega
theorem maxI_pos {l : List Int} {z : Int} (e : maxI l = some z) : 0 < l.length := by
  cases l with
  | nil => cases e
  | cons x l => simp
theorem minI_pos {l : List Int} {z : Int} (e : minI l = some z) : 0 < l.length := by
  cases l with
  | nil => cases e
  | cons x l => simp
def bMax : List W → M W := b1 (lstD fun l => (intsD l).bind fun ns => (maxI ns).map .int)
def bMin : List W → M W := b1 (lstD fun l => (intsD l).bind fun ns => (minI ns).map .int)
theorem cMax (hc : X.calm = true) : CallR X (.builtin "max") (rA X.K X.mg E bMax) := by
  intro pins s σ H xs us Q I r ⟨F0, μ, h, as, rl, rs, p⟩
  obtain ⟨v, d1, d3, rfl, q1, e, k⟩ := b1_ok rl rs p
  obtain ⟨a, ys, l, rfl, hh, rr, e⟩ := lstD_ok e q1
  cases z : intsD l with
  | none => rw [z] at e; cases e
  | some bs =>
    rw [z] at e
    have e : (maxI bs).map D.int = some d3 := e
    cases z2 : maxI bs with
    | none => rw [z2] at e; cases e
    | some mx =>
      rw [z2] at e
      cases e
      rw [intsD_eq z] at rr
      cases rep_ints rr
      exact cr_max hc pins s σ H _ us Q I r ⟨a, bs, rfl, hh, maxI_pos z2, fun m h1 h2 => by rw [maxI_is z2 h1 h2]; exact k _ (.int _)⟩
theorem cMin (hc : X.calm = true) : CallR X (.builtin "min") (rA X.K X.mg E bMin) := by
  intro pins s σ H xs us Q I r ⟨F0, μ, h, as, rl, rs, p⟩
  obtain ⟨v, d1, d3, rfl, q1, e, k⟩ := b1_ok rl rs p
  obtain ⟨a, ys, l, rfl, hh, rr, e⟩ := lstD_ok e q1
  cases z : intsD l with
  | none => rw [z] at e; cases e
  | some bs =>
    rw [z] at e
    have e : (minI bs).map D.int = some d3 := e
    cases z2 : minI bs with
    | none => rw [z2] at e; cases e
    | some mx =>
      rw [z2] at e
      cases e
      rw [intsD_eq z] at rr
      cases rep_ints rr
      exact cr_min hc pins s σ H _ us Q I r ⟨a, bs, rfl, hh, minI_pos z2, fun m h1 h2 => by rw [minI_is z2 h1 h2]; exact k _ (.int _)⟩

/-! ### repr of what is no single number or text -/
def shD (d : D) : Bool := pureD d && (py d).showable && decide ((py d).depth ≤ 64) && (py d).leavesShort 50 && decide ((py d).weight ≤ 300000) && !(py d).hasDict
def isSeqD : D → Bool
  | .tup _ => true
  | .lst _ => true
  | .frz _ => true
  | _ => false
def bRepr : List W → M W := b1 fun d => if (isSeqD d && shD d) = true then some (.str (py d).shown) else none
theorem cRepr (hgd : X.A.guards = some []) (hu : X.A.units + 80 < cLine) : CallR X (.builtin "repr") (rA X.K X.mg E bRepr) := by
  intro pins s σ H xs us Q I r ⟨F0, μ, h, as, rl, rs, p⟩
  obtain ⟨v, d1, d3, rfl, q1, e, k⟩ := b1_ok rl rs p
  split at e
  · rename_i hc
    cases e
    obtain ⟨c0, c⟩ := bool2 hc
    unfold shD at c
    simp only [Bool.and_eq_true, decide_eq_true_eq, Bool.not_eq_true'] at c
    obtain ⟨⟨⟨⟨⟨c1, c2⟩, c3⟩, c4⟩, c5⟩, c6⟩ := c
    have hv : ∃ a, v = .ref a := by
      cases q1 <;> first | exact ⟨_, rfl⟩ | cases c0
    obtain ⟨a, rfl⟩ := hv
    rw [Vals.ref1 r]
    obtain ⟨bs, rd⟩ := Dp.reads I _ _ (.ref a) (dp_of c1 q1) rfl
    have hz := PyData.shown_le 50 (by decide) (py d1) c4
    have hz2 : (50 + 2) * (py d1).weight ≤ 52 * 300000 := Nat.mul_le_mul_left 52 c5
    refine repr_of_reads' rd c2 (PyData.noDict_hsm c6) hgd (by omega) (fun _ _ e => e) (fun h' u tk hk => ⟨.str _, H, I.kept hk, ⟨_, rfl⟩, k _ (.str _)⟩) ?_
    have : (sizeLine : Nat) = 16777216 := by decide
    omega
  · cases e
end
end DD

set_option Elab.async false
set_option linter.all false
set_option maxRecDepth 100000
set_option maxHeartbeats 1000000
/-! DD13: set(xs), set comprehensions, sorted of them, how many they are. -/
namespace DD
open PySem PySem.Spec PyProof.Rows L2

section
variable {P : Program} {w : World} {A : Around} {E : Value → Shared → Prop} {s : Shared}
/-- a new set, as the interpreter lays it -/
abbrev freshSetOf (w : World) : Obj := { cls := .type "set", dict := none, data := .set #[] 0 (.fresh 0 0 (!w.params.followText "set-order")) }

set_option maxRecDepth 100000 in
set_option maxHeartbeats 3200000 in
/-- set(list): whatever its loop does -/
theorem set_of_list {l : Addr} {items : Array Value} {Pv : Heap → Prop} {Q : Value → Shared → Prop} (hh : A.handled = none) (hl : s.heap.IsList l items)
    (loop : ∀ (A' : Around) (s1 : Shared) (I : Addr) (R : Result → Shared → Prop), A'.handled = none → s1.heap.get? s.heap.objs.size = some (freshSetOf w) → s.heap.objs.size ∉ [I, l] →
      WalksS P w A'.in1 I [I, l] [I] (fun a b => b = a) items.size (fun i v => items[i]? = some v) (fun i s => s.heap.IsListIter I l i ∧ s.heap.IsList l items) → s1.heap.IsListIter I l 0 → s1.heap.IsList l items →
      (∀ s', Moved (s.heap.objs.size :: [I]) (fun a b => b = a) s1 s' → Pv s'.heap → R (.ok (.ret .none)) s') → codeAny (model P w) A' (.builtin "set.update.loop" ⟨[.ref s.heap.objs.size, .ref I], []⟩) R s1)
    (h : ∀ (h' : Heap) (tk : Nat), Pv h' → (∀ b o, s.heap.get? b = some o → h'.get? b = some o) → Q (.ref s.heap.objs.size) { s with heap := h', toks := tk }) :
    wpAny (model P w) A (call (.type "set") [.ref l]) Q E s := by
  obtain ⟨c, tl, hmro⟩ := F.called_set.mro
  have made := F.called_set.made
  have subs := F.called_set.sub
  have k1 := F.called_set.notType
  have k2 := F.called_set.canCreate
  have k3 := F.typeCall_set_1 (.ref l)
  refine wpAny_call (codeAny_of_tree ?_)
  show wpAny _ _ (callAny (.type "set") _) _ _ _
  refine wpAny_pure ⟨Code.quiet_builtin _ (by decide +kernel), codeAny_builtin F.entry_type_call ?_⟩
  rw [Around.under_plain (weight_type_call_type "set" [.ref l] []) rfl]
  repeat (any_goals (first | assumption | wp_step))
  refine codeAny_mono (code_set_led1 (.ref l) (E := E) (Q₁ := fun obj s₁ => obj = .ref s.heap.objs.size ∧ s₁ = { s with heap := s.heap.push (freshSetOf w) }) ⟨rfl, rfl⟩) fun r s₁ hr => ?_
  cases r with
  | error e => exact hr
  | ok fl =>
    cases fl with
    | next => exact hr.elim
    | brk => exact hr.elim
    | cont => exact hr.elim
    | ret obj =>
      obtain ⟨rfl, rfl⟩ := hr
      have hS : (s.heap.push (freshSetOf w)).get? s.heap.objs.size = some (freshSetOf w) := Heap.get?_push_size _ rfl
      have hT : Shared.TypeIs { s with heap := s.heap.push (freshSetOf w) } (.ref s.heap.objs.size) "set" := ⟨_, hS, rfl⟩
      have k4 := F.called_set.init.lookup
      have k5 := F.called_set.init.bind (.ref s.heap.objs.size)
      repeat (any_goals (first | assumption | wp_step))
      refine codeAny_mono (codeAny_call_builtin (R := wants (fun r s₂ => r = .none ∧ ∃ h' tk, s₂ = { s with heap := h', toks := tk } ∧ Pv h' ∧ (∀ b o, s.heap.get? b = some o → h'.get? b = some o)) E) F.called_set.init.plain F.entry_set_init (check_set_init_1 hT ?_)) fun r₂ s₂ hr₂ => ?_
      · have hl1 : (s.heap.push (freshSetOf w)).IsList l items := hl.push _
        obtain ⟨ol, hol, hcl, nl, hdl⟩ := id hl1
        obtain ⟨ocls, odict, odata, oslots⟩ := ol
        simp only at hcl hdl
        subst hcl; subst hdl
        have hlS : l < s.heap.objs.size := Heap.lt_size hl.choose_spec.1
        have m1 := F.sub_list_set
        have m2 := F.sub_list_frozenset
        have m3 : (Value.type "list" == Value.type "dict") = false := by decide
        unfold Builtin.«set.__init__» noKeywords Builtin.Frozenset.updateFrom
        generalize hPI : pyIter = PI
        wp_walk
        subst hPI
        refine wpAny_pyIter_list hl1 ?_
        refine wpAny_bind (wpAny_runValue ?_)
        have hh3 : A.in1.in1.in1.handled = none := by simp [hh]
        have sz : (s.heap.push (freshSetOf w)).objs.size = s.heap.objs.size + 1 := Heap.size_push ..
        have ne1 : l ≠ (s.heap.push (freshSetOf w)).objs.size := by rw [sz]; exact Nat.ne_of_lt (Nat.lt_succ_of_lt hlS)
        have out : s.heap.objs.size ∉ [(s.heap.push (freshSetOf w)).objs.size, l] := by
          rw [sz]
          simp only [List.mem_cons, List.not_mem_nil, or_false, not_or]
          exact ⟨Nat.ne_of_lt (Nat.lt_succ_self _), Nat.ne_of_gt hlS⟩
        refine loop _ _ _ _ (by simp [hh]) (Heap.get?_push_of_some _ hS) out (Walks.list (prog := P) (w := w) hh3 _ l ne1 items).toS ⟨_, Heap.get?_push_size _ rfl, rfl, rfl⟩ (hl1.push _) fun s' hm hP => ?_
        obtain ⟨h', g2, d', tk', os'⟩ := s'
        have eg : g2 = s.gens := hm.gens
        have ed : d' = s.drawn := hm.drawn
        have eo : os' = s.os := hm.os
        subst eg; subst ed; subst eo
        show wpAny _ _ _ _ _ _
        refine wpAny_pure ?_
        show wpAny _ _ (ret Value.none) _ _ _
        refine wpAny_pure ⟨rfl, h', tk', rfl, hP, fun b o e => ?_⟩
        have b0 : b < s.heap.objs.size := Heap.lt_size e
        exact hm.heap b o (by rw [sz]; simp only [List.mem_cons, List.not_mem_nil, or_false, not_or]; exact ⟨Nat.ne_of_lt b0, Nat.ne_of_lt (Nat.lt_succ_of_lt b0)⟩) (Heap.get?_push_of_some _ (Heap.get?_push_of_some _ e))
      · cases r₂ with
        | error e => exact hr₂
        | ok fl₂ =>
          cases fl₂ with
          | next => exact hr₂.elim
          | brk => exact hr₂.elim
          | cont => exact hr₂.elim
          | ret r =>
            obtain ⟨rfl, h', tk, rfl, hP, hk'⟩ := hr₂
            repeat (any_goals (first | assumption | wp_step))
            exact h _ _ hP hk'

set_option maxRecDepth 100000 in
set_option maxHeartbeats 3200000 in
/-- set(tuple): whatever its loop does -/
theorem set_of_tuple {l : Addr} {items : Array Value} {Pv : Heap → Prop} {Q : Value → Shared → Prop} (hh : A.handled = none) (hl : s.heap.IsTuple l items)
    (loop : ∀ (A' : Around) (s1 : Shared) (I : Addr) (R : Result → Shared → Prop), A'.handled = none → s1.heap.get? s.heap.objs.size = some (freshSetOf w) → s.heap.objs.size ∉ [I, l] →
      WalksS P w A'.in1 I [I, l] [I] (fun a b => b = a) items.size (fun i v => items[i]? = some v) (fun i s => s.heap.IsTupleIter I l i ∧ s.heap.IsTuple l items) → s1.heap.IsTupleIter I l 0 → s1.heap.IsTuple l items →
      (∀ s', Moved (s.heap.objs.size :: [I]) (fun a b => b = a) s1 s' → Pv s'.heap → R (.ok (.ret .none)) s') → codeAny (model P w) A' (.builtin "set.update.loop" ⟨[.ref s.heap.objs.size, .ref I], []⟩) R s1)
    (h : ∀ (h' : Heap) (tk : Nat), Pv h' → (∀ b o, s.heap.get? b = some o → h'.get? b = some o) → Q (.ref s.heap.objs.size) { s with heap := h', toks := tk }) :
    wpAny (model P w) A (call (.type "set") [.ref l]) Q E s := by
  obtain ⟨c, tl, hmro⟩ := F.called_set.mro
  have made := F.called_set.made
  have subs := F.called_set.sub
  have k1 := F.called_set.notType
  have k2 := F.called_set.canCreate
  have k3 := F.typeCall_set_1 (.ref l)
  refine wpAny_call (codeAny_of_tree ?_)
  show wpAny _ _ (callAny (.type "set") _) _ _ _
  refine wpAny_pure ⟨Code.quiet_builtin _ (by decide +kernel), codeAny_builtin F.entry_type_call ?_⟩
  rw [Around.under_plain (weight_type_call_type "set" [.ref l] []) rfl]
  repeat (any_goals (first | assumption | wp_step))
  refine codeAny_mono (code_set_led1 (.ref l) (E := E) (Q₁ := fun obj s₁ => obj = .ref s.heap.objs.size ∧ s₁ = { s with heap := s.heap.push (freshSetOf w) }) ⟨rfl, rfl⟩) fun r s₁ hr => ?_
  cases r with
  | error e => exact hr
  | ok fl =>
    cases fl with
    | next => exact hr.elim
    | brk => exact hr.elim
    | cont => exact hr.elim
    | ret obj =>
      obtain ⟨rfl, rfl⟩ := hr
      have hS : (s.heap.push (freshSetOf w)).get? s.heap.objs.size = some (freshSetOf w) := Heap.get?_push_size _ rfl
      have hT : Shared.TypeIs { s with heap := s.heap.push (freshSetOf w) } (.ref s.heap.objs.size) "set" := ⟨_, hS, rfl⟩
      have k4 := F.called_set.init.lookup
      have k5 := F.called_set.init.bind (.ref s.heap.objs.size)
      repeat (any_goals (first | assumption | wp_step))
      refine codeAny_mono (codeAny_call_builtin (R := wants (fun r s₂ => r = .none ∧ ∃ h' tk, s₂ = { s with heap := h', toks := tk } ∧ Pv h' ∧ (∀ b o, s.heap.get? b = some o → h'.get? b = some o)) E) F.called_set.init.plain F.entry_set_init (check_set_init_1 hT ?_)) fun r₂ s₂ hr₂ => ?_
      · have hl1 : (s.heap.push (freshSetOf w)).IsTuple l items := hl.push _
        obtain ⟨ol, hol, hcl, nl, hdl⟩ := id hl1
        obtain ⟨ocls, odict, odata, oslots⟩ := ol
        simp only at hcl hdl
        subst hcl; subst hdl
        have hlS : l < s.heap.objs.size := Heap.lt_size hl.choose_spec.1
        have m1 := F.sub_tuple_set
        have m2 := F.sub_tuple_frozenset
        have m3 : (Value.type "tuple" == Value.type "dict") = false := by decide
        unfold Builtin.«set.__init__» noKeywords Builtin.Frozenset.updateFrom
        generalize hPI : pyIter = PI
        wp_walk
        subst hPI
        refine wpAny_pyIter_tuple hl1 ?_
        refine wpAny_bind (wpAny_runValue ?_)
        have hh3 : A.in1.in1.in1.handled = none := by simp [hh]
        have sz : (s.heap.push (freshSetOf w)).objs.size = s.heap.objs.size + 1 := Heap.size_push ..
        have ne1 : l ≠ (s.heap.push (freshSetOf w)).objs.size := by rw [sz]; exact Nat.ne_of_lt (Nat.lt_succ_of_lt hlS)
        have out : s.heap.objs.size ∉ [(s.heap.push (freshSetOf w)).objs.size, l] := by
          rw [sz]
          simp only [List.mem_cons, List.not_mem_nil, or_false, not_or]
          exact ⟨Nat.ne_of_lt (Nat.lt_succ_self _), Nat.ne_of_gt hlS⟩
        refine loop _ _ _ _ (by simp [hh]) (Heap.get?_push_of_some _ hS) out (Walks.tuple (prog := P) (w := w) hh3 _ l ne1 items).toS ⟨_, Heap.get?_push_size _ rfl, rfl, rfl⟩ (hl1.push _) fun s' hm hP => ?_
        obtain ⟨h', g2, d', tk', os'⟩ := s'
        have eg : g2 = s.gens := hm.gens
        have ed : d' = s.drawn := hm.drawn
        have eo : os' = s.os := hm.os
        subst eg; subst ed; subst eo
        show wpAny _ _ _ _ _ _
        refine wpAny_pure ?_
        show wpAny _ _ (ret Value.none) _ _ _
        refine wpAny_pure ⟨rfl, h', tk', rfl, hP, fun b o e => ?_⟩
        have b0 : b < s.heap.objs.size := Heap.lt_size e
        exact hm.heap b o (by rw [sz]; simp only [List.mem_cons, List.not_mem_nil, or_false, not_or]; exact ⟨Nat.ne_of_lt b0, Nat.ne_of_lt (Nat.lt_succ_of_lt b0)⟩) (Heap.get?_push_of_some _ (Heap.get?_push_of_some _ e))
      · cases r₂ with
        | error e => exact hr₂
        | ok fl₂ =>
          cases fl₂ with
          | next => exact hr₂.elim
          | brk => exact hr₂.elim
          | cont => exact hr₂.elim
          | ret r =>
            obtain ⟨rfl, h', tk, rfl, hP, hk'⟩ := hr₂
            repeat (any_goals (first | assumption | wp_step))
            exact h _ _ hP hk'

end
end DD

set_option Elab.async false
set_option linter.all false
set_option maxRecDepth 100000
set_option maxHeartbeats 1000000
/-! DD14: sets: len(set(xs)), sorted(set(xs)), sorted({.. for ..}). -/
namespace DD
open PySem PySem.Spec PyProof.Rows L2

/-! ### each once -/
section
theorem snocInd {α : Type} {Q : List α → Prop} (h0 : Q []) (h1 : ∀ l x, Q l → Q (l ++ [x])) (l : List α) : Q l := by
  have h : ∀ l : List α, Q l.reverse := by
    intro l
    induction l with
    | nil => exact h0
    | cons x l ih => rw [List.reverse_cons]; exact h1 _ _ ih
  rw [← List.reverse_reverse l]
  exact h _
variable {α : Type} [DecidableEq α]
def nub (l : List α) : List α := l.foldl (fun acc x => if x ∈ acc then acc else acc ++ [x]) []
theorem nub_snoc (l : List α) (x : α) : nub (l ++ [x]) = if x ∈ nub l then nub l else nub l ++ [x] := by
  unfold nub
  rw [List.foldl_append]
  rfl
theorem mem_nub (l : List α) : ∀ x, x ∈ nub l ↔ x ∈ l := by
  refine snocInd (Q := fun l => ∀ x, x ∈ nub l ↔ x ∈ l) (fun x => Iff.rfl) (fun l a ih => ?_) l
  · intro x
    rw [nub_snoc]
    split
    · rename_i h
      rw [ih, List.mem_append, List.mem_singleton]
      constructor
      · exact .inl
      · rintro (h2 | rfl)
        · exact h2
        · exact (ih _).mp h
    · rw [List.mem_append, List.mem_append, ih]
theorem nub_len_snoc (l : List α) (x : α) : (nub (l ++ [x])).length = if decide (x ∈ l) = true then (nub l).length else (nub l).length + 1 := by
  rw [nub_snoc]
  by_cases h : x ∈ l
  · rw [if_pos ((mem_nub l x).mpr h), if_pos (decide_eq_true h)]
  · rw [if_neg (fun z => h ((mem_nub l x).mp z)), if_neg (by simpa using h), List.length_append]
    rfl
theorem nub_len_le (l : List α) : (nub l).length ≤ l.length := by
  refine snocInd (Q := fun l => (nub l).length ≤ l.length) (Nat.le_refl _) (fun l a ih => ?_) l
  · rw [nub_len_snoc, List.length_append]
    split <;> simp only [List.length_singleton] <;> omega
end
/-- ascending, each once -/
def insI (x : Int) : List Int → List Int
  | [] => [x]
  | y :: l => if x < y then x :: y :: l else if x = y then y :: l else y :: insI x l
def sdI (l : List Int) : List Int := l.foldl (fun acc x => insI x acc) []
theorem mem_insI (x : Int) : ∀ (l : List Int) (z : Int), z ∈ insI x l ↔ z = x ∨ z ∈ l
  | [], z => by simp [insI]
  | y :: l, z => by
    unfold insI
    split
    · simp
    · split
      · rename_i h
        subst h
        simp
      · rw [List.mem_cons, mem_insI x l, List.mem_cons]
        constructor
        · rintro (h | h | h)
          · exact .inr (.inl h)
          · exact .inl h
          · exact .inr (.inr h)
        · rintro (h | h | h)
          · exact .inr (.inl h)
          · exact .inl h
          · exact .inr (.inr h)
theorem insI_asc (x : Int) : ∀ (l : List Int), l.Pairwise (· < ·) → (insI x l).Pairwise (· < ·)
  | [], _ => by simp [insI]
  | y :: l, h => by
    unfold insI
    obtain ⟨h1, h2⟩ := List.pairwise_cons.mp h
    split
    · rename_i hx
      refine List.pairwise_cons.mpr ⟨fun z hz => ?_, h⟩
      rcases List.mem_cons.mp hz with rfl | hz
      · exact hx
      · exact Int.lt_trans hx (h1 z hz)
    · split
      · exact h
      · rename_i a b
        refine List.pairwise_cons.mpr ⟨fun z hz => ?_, insI_asc x l h2⟩
        rcases (mem_insI x l z).mp hz with rfl | hz
        · omega
        · exact h1 z hz
theorem sdI_asc (l : List Int) : (sdI l).Pairwise (· < ·) := by
  have : ∀ (l acc : List Int), acc.Pairwise (· < ·) → (l.foldl (fun acc x => insI x acc) acc).Pairwise (· < ·) := by
    intro l
    induction l with
    | nil => exact fun _ h => h
    | cons x l ih => exact fun acc h => ih _ (insI_asc x acc h)
  exact this l [] List.Pairwise.nil
theorem mem_sdI (l : List Int) (z : Int) : z ∈ sdI l ↔ z ∈ l := by
  have : ∀ (l acc : List Int), z ∈ l.foldl (fun acc x => insI x acc) acc ↔ z ∈ acc ∨ z ∈ l := by
    intro l
    induction l with
    | nil => intro acc; simp
    | cons x l ih =>
      intro acc
      rw [List.foldl_cons, ih, mem_insI, List.mem_cons]
      constructor
      · rintro ((h | h) | h)
        · exact .inr (.inl h)
        · exact .inl h
        · exact .inr (.inr h)
      · rintro (h | h | h)
        · exact .inl (.inr h)
        · exact .inl (.inl h)
        · exact .inr h
  unfold sdI
  rw [this l []]
  simp
theorem asc_eq : ∀ {l k : List Int}, l.Pairwise (· < ·) → k.Pairwise (· < ·) → (∀ z, z ∈ l ↔ z ∈ k) → l = k
  | [], [], _, _, _ => rfl
  | [], y :: k, _, _, h => by have := (h y).mpr List.mem_cons_self; cases this
  | x :: l, [], _, _, h => by have := (h x).mp List.mem_cons_self; cases this
  | x :: l, y :: k, h1, h2, h => by
    obtain ⟨a1, a2⟩ := List.pairwise_cons.mp h1
    obtain ⟨b1, b2⟩ := List.pairwise_cons.mp h2
    have e : x = y := by
      rcases List.mem_cons.mp ((h x).mp List.mem_cons_self) with q | q
      · exact q
      · have p1 := b1 x q
        rcases List.mem_cons.mp ((h y).mpr List.mem_cons_self) with r | r
        · omega
        · have p2 := a1 y r
          omega
    subst e
    have : l = k := asc_eq a2 b2 fun z => by
      constructor
      · intro hz
        rcases List.mem_cons.mp ((h z).mp (List.mem_cons_of_mem _ hz)) with q | q
        · have := a1 z hz; omega
        · exact q
      · intro hz
        rcases List.mem_cons.mp ((h z).mpr (List.mem_cons_of_mem _ hz)) with q | q
        · have := b1 z hz; omega
        · exact q
    rw [this]

/-! ### the loop of set(xs), by the kind of its keys -/
section
variable {P : Program} {w : World} {κ : Type} [DecidableEq κ] {knd : KeyKind P w κ} {A : Around} {R : Result → Shared → Prop}
theorem setOf_congr {h : Heap} {a : Addr} {S S' : κ → Bool} {n n' : Nat} (q : h.SetOf knd a S n) (e : ∀ k, S k = S' k) (en : n = n') : h.SetOf knd a S' n' := by
  have : S = S' := funext e
  subst this en
  exact q
theorem setOf_at {h h' : Heap} {a : Addr} {S : κ → Bool} {n : Nat} (q : h.SetOf knd a S n) (k : ∀ o, h.get? a = some o → h'.get? a = some o) : h'.SetOf knd a S n := by
  obtain ⟨o, es, ep, t, ho, r⟩ := q
  exact ⟨o, es, ep, t, k o ho, r⟩
theorem loop_kind {I : Addr} {fp wr : List Addr} {G : Array GenState → Array GenState → Prop} {n : Nat} {Pv : Nat → Value → Prop} {St : Nat → Shared → Prop}
    (W : WalksS P w A.in1 I fp wr G n Pv St) (S : Addr) (hSf : S ∉ fp) (xs : List κ) (hn : n = xs.length) (hb : xs.length + 1 < scanBound) (hval : ∀ i v, Pv i v → ∃ k, xs[i]? = some k ∧ knd.is k v = true ∧ v.scannable = true) :
    ∀ (d i : Nat) (s : Shared), n - i = d → i ≤ n → St i s → s.heap.SetOf knd S (fun j => decide (j ∈ xs.take i)) (nub (xs.take i)).length →
      (∀ s', Moved (S :: wr) G s s' → s'.heap.SetOf knd S (fun j => decide (j ∈ xs)) (nub xs).length → R (.ok (.ret .none)) s') → codeAny (model P w) A (.builtin "set.update.loop" ⟨[.ref S, .ref I], []⟩) R s := by
  have out : S ∉ wr := fun h => hSf (W.sub _ h)
  have sub : ∀ b ∈ wr, b ∈ S :: wr := fun b hb => List.mem_cons_of_mem _ hb
  intro d
  induction d with
  | zero =>
    intro i s hd hi hst hS hR
    have e : i = n := by omega
    subst e
    refine codeAny_builtin F.entry_set_update_loop ?_
    rw [Around.under_plainId F.plain_set_update_loop _]
    show wpAny _ A.in1 (pyNext (.ref I) >>= _) _ _ s
    refine wpAny_bind (W.done s _ _ hst fun s' hm => ?_)
    show wpAny _ A.in1 (ret Value.none) _ _ s'
    rw [List.take_of_length_le (by omega)] at hS
    exact wpAny_pure (hR s' (hm.mono sub) (setOf_at hS fun o e => hm.heap S o out e))
  | succ d ih =>
    intro i s hd hi hst hS hR
    have hlt : i < n := by omega
    refine codeAny_builtin F.entry_set_update_loop ?_
    rw [Around.under_plainId F.plain_set_update_loop _]
    show wpAny _ A.in1 (pyNext (.ref I) >>= _) _ _ s
    refine wpAny_bind (W.item i s _ _ hlt hst fun v s' hP hst' hm => ?_)
    obtain ⟨k, hk, his, hsc⟩ := hval i v hP
    have hS1 := setOf_at hS fun o e => hm.heap S o out e
    show wpAny _ A.in1 (holding [v] (setAdd S v) >>= _) _ _ s'
    refine wpAny_bind (wpAny_holding ?_)
    unfold setAdd
    refine wpAny_holding ?_
    refine wpAny_bind (knd.pyHash his ?_)
    have hc : (nub (xs.take i)).length + 1 < scanBound := by
      have := nub_len_le (xs.take i)
      rw [List.length_take] at this
      omega
    refine wpAny_setAddHashed_of (knd := knd) (s := { s' with toks := s'.toks + 1 }) his hsc hS1 hc fun h' hsb hS2 => ?_
    have e1 : xs.take (i + 1) = xs.take i ++ [k] := by
      rw [List.take_add_one, hk]
      rfl
    have hS3 : h'.SetOf knd S (fun j => decide (j ∈ xs.take (i + 1))) (nub (xs.take (i + 1))).length := setOf_congr hS2 (fun j => by rw [e1]; simp [List.mem_append, Bool.decide_or]) (by rw [e1, nub_len_snoc])
    refine wpAny_pure ⟨plainId_quiet F.plain_set_update_loop _, ih (i + 1) _ (by omega) hlt (W.frame _ s' _ _ hst' (Nat.le_succ _) fun b hb o e => ?_) hS3 fun s'' hm2 hS4 => ?_⟩
    · rw [hsb.2 b (fun z : b = S => hSf (by rw [← z]; exact hb))]
      exact e
    · refine hR s'' (Moved.trans W.gtrans ((hm.mono sub).then_heap (Nat.le_succ _) fun b o hb e => ?_) hm2) hS4
      rw [hsb.2 b (fun z : b = S => hb (by rw [z]; exact List.mem_cons_self))]
      exact e
end

/-! ### len(set(xs)), sorted(set(xs)) -/
def strsD : List D → Option (List Str)
  | [] => some []
  | .str i :: l => (strsD l).map (i :: ·)
  | _ :: _ => none
theorem strsD_eq : ∀ {l : List D} {ns : List Str}, strsD l = some ns → l = ns.map .str
  | [], _, e => by cases e; rfl
  | .str i :: l, _, e => by
    have e : (strsD l).map (i :: ·) = some _ := e
    cases z : strsD l with
    | none => rw [z] at e; cases e
    | some ms =>
      rw [z] at e
      cases e
      rw [strsD_eq z]
      rfl
  | .non :: _, _, e => by cases e
  | .bl _ :: _, _, e => by cases e
  | .int _ :: _, _, e => by cases e
  | .tup _ :: _, _, e => by cases e
  | .lst _ :: _, _, e => by cases e
  | .frz _ :: _, _, e => by cases e
  | .dic _ :: _, _, e => by cases e
  | .ins _ _ :: _, _, e => by cases e
  | .glb _ :: _, _, e => by cases e
  | .ty _ :: _, _, e => by cases e
theorem strsD_map (l : List Str) : strsD (l.map .str) = some l := by
  induction l with
  | nil => rfl
  | cons x l ih =>
    show (strsD (l.map .str)).map (x :: ·) = _
    rw [ih] <;> rfl
theorem rep_strs {K : PySem.W.Frag} {mg : Mg} {A : Addr → Prop} {H : Hp} : ∀ {ns : List Str} {vs : List V}, RepL K mg A H (ns.map .str) vs → vs = ns.map .str
  | [], _, r => by cases r; rfl
  | n :: ns, _, r => by
    cases r with
    | cons r q => rw [r.s, rep_strs q]; rfl
theorem int_at : ∀ {ns : List Int} {its : List Value}, Vals (ns.map V.int) its → ∀ (i : Nat) (v : Value), its[i]? = some v → ∃ k t, ns[i]? = some k ∧ v = .int k t
  | [], _, .nil, i, v, e => by simp at e
  | n :: ns, _, .cons r q, 0, v, e => by
    obtain ⟨t, rfl⟩ := r
    simp at e
    exact ⟨n, t, rfl, e.symm⟩
  | n :: ns, _, .cons r q, i + 1, v, e => by
    obtain ⟨k, t, h1, h2⟩ := int_at q i v (by simpa using e)
    exact ⟨k, t, by simpa using h1, h2⟩
theorem str_at : ∀ {ns : List Str} {its : List Value}, Vals (ns.map V.str) its → ∀ (i : Nat) (v : Value), its[i]? = some v → ∃ k t, ns[i]? = some k ∧ v = .str k t
  | [], _, .nil, i, v, e => by simp at e
  | n :: ns, _, .cons r q, 0, v, e => by
    obtain ⟨t, rfl⟩ := r
    simp at e
    exact ⟨n, t, rfl, e.symm⟩
  | n :: ns, _, .cons r q, i + 1, v, e => by
    obtain ⟨k, t, h1, h2⟩ := str_at q i v (by simpa using e)
    exact ⟨k, t, by simpa using h1, h2⟩
section
variable {X : Cx} {E : Option XK} {m m1 m2 : Env → M W} {n nk : Env → M (List W)} {e o value : Expr} {es : List Expr} {pos apos cpos : Pos}
/-- set(xs) of a list or a tuple whose items are keys of a kind -/
theorem set_kind {κ : Type} [DecidableEq κ] {knd : KeyKind X.prog X.w κ} {f : κ → V} {pins : List (Addr × Obj)} {σ : L2.St} {H : Hp} {s : Shared} {E' : Value → Shared → Prop} {a : Addr} {ks : List κ} {Q : Value → Shared → Prop} (hc : X.calm = true) (I : Inv X pins σ H s)
    (hs : SqL X.K H a (ks.map f) ∨ SqT X.K H a (ks.map f)) (hb : ks.length + 1 < scanBound) (hv : ∀ its, Vals (ks.map f) its → ∀ (i : Nat) (v : Value), its[i]? = some v → ∃ k, ks[i]? = some k ∧ knd.is k v = true ∧ v.scannable = true)
    (h : ∀ (h' : Heap) (tk : Nat), h'.SetOf knd s.heap.objs.size (fun j => decide (j ∈ ks)) (nub ks).length → (∀ b o, s.heap.get? b = some o → h'.get? b = some o) → Q (.ref s.heap.objs.size) { s with heap := h', toks := tk }) :
    wpAny (model X.prog X.w) X.A (call (.type "set") [.ref a]) Q E' s := by
  have start : ∀ {s1 : Shared}, s1.heap.get? s.heap.objs.size = some (freshSetOf X.w) → s1.heap.SetOf knd s.heap.objs.size (fun j => decide (j ∈ ks.take 0)) (nub (ks.take 0)).length := fun {s1} g =>
    PyProof.Rows.SetOf_congr ((PyProof.Rows.setObjOf_fresh (knd := knd) (!X.w.params.followText "set-order")).setOf g (by unfold scanBound; omega)) (fun _ => by simp) rfl
  rcases hs with hs | hs
  · obtain ⟨its, rv, pl, hz⟩ := I.list hs
    have sz : its.toArray.size = ks.length := by rw [List.size_toArray, ← rv.length, List.length_map]
    refine set_of_list (Pv := fun h' => h'.SetOf knd s.heap.objs.size (fun j => decide (j ∈ ks)) (nub ks).length) (I.ok.hd hc) pl.isList (fun A' s1 It R hA g1 out W i1 i2 hR => ?_) h
    exact loop_kind W s.heap.objs.size out ks sz hb (fun i v hi => hv its rv i v (by simpa using hi)) _ 0 s1 rfl (Nat.zero_le _) ⟨i1, i2⟩ (start g1) hR
  · obtain ⟨its, rv, pl, hz⟩ := I.tuple hs
    have sz : its.toArray.size = ks.length := by rw [List.size_toArray, ← rv.length, List.length_map]
    refine set_of_tuple (Pv := fun h' => h'.SetOf knd s.heap.objs.size (fun j => decide (j ∈ ks)) (nub ks).length) (I.ok.hd hc) pl (fun A' s1 It R hA g1 out W i1 i2 hR => ?_) h
    exact loop_kind W s.heap.objs.size out ks sz hb (fun i v hi => hv its rv i v (by simpa using hi)) _ 0 s1 rfl (Nat.zero_le _) ⟨i1, i2⟩ (start g1) hR
def lenSetD (l : List D) : Option D := if l.length < 4000 then match strsD l with
    | some ks => some (.int (nub ks).length)
    | none => (intsD l).map fun ks => .int (nub ks).length
  else none
def opLenSet (w : W) : M W := bd (its w) fun l => oM ((lenSetD l).map .d)
theorem dLenSet {p p2 q pos : Pos} (hc : X.calm = true) (hg : Gl X "len") (hm : X.mg "len" = none) (hg2 : Gl X "set") (hm2 : X.mg "set" = none) (ha : PE X e (xE X E m))
    (na : starEach [e] X.env = (false, eval e X.env) :: starEach [] X.env := by rfl) : PE X (.Call (.Name "len" p) [.Call (.Name "set" p2) [e] [] q] [] pos) (xE X E (m1op opLenSet m)) := by
  refine ⟨fun pins s σ H Q I ⟨F0, μ, ρ, h, rl, en, p0⟩ => ?_⟩
  refine Call_ (ld_blt I hg hm boot_len ?_)
  refine PyProof.Rows.callWith_builtin1 (PyProof.Rows.args_cons ?_ rfl) rfl rfl
  refine Call_ (ld_blt I hg2 hm2 boot_set ?_)
  refine PyProof.Rows.callWith_type1 (PyProof.Rows.args_cons (thn (ha.run pins s σ H (fun x H1 => ∃ a l d, x = .ref a ∧ lenSetD l = some d ∧ (∃ ys, RepL X.K X.mg (fun _ => True) H1 l ys ∧ (SqL X.K H1 a ys ∨ SqT X.K H1 a ys)) ∧ ∀ z, d = .int z → Q (.int z) H1) I
    ⟨F0, μ, ρ, h, rl, en, (Post.bd p0).imp fun w h1 μ1 H1 s1 rl1 p1 v r => ?_⟩) fun v s1 ⟨x, H1, I1, r1, q1⟩ => PyProof.Rows.args_nil ?_) na) na rfl
  · obtain ⟨l, e1, p1⟩ := its_ok p1
    obtain ⟨w2, e2, k⟩ := oM_ok p1
    cases z : lenSetD l with
    | none => rw [z] at e2; cases e2
    | some d =>
      rw [z] at e2
      cases e2
      obtain ⟨a, xs, rfl, rr, hh⟩ := itsW_rep rl1 e1 r
      exact ⟨a, l, d, rfl, z, ⟨xs, rr.sub, hh.imp id (·.1)⟩, fun j ez => by subst ez; exact k μ1 H1 (.refl _ _) rl1 _ (RepD.int j)⟩
  · obtain ⟨a, l, d, rfl, hd, ⟨ys, rr, hs⟩, k⟩ := q1
    cases r1
    unfold lenSetD at hd
    split at hd
    · rename_i hl
      have fin : ∀ {h' : Heap} {tk : Nat} {κ : Type} [DecidableEq κ] {knd : KeyKind X.prog X.w κ} {S : κ → Bool} {j : Nat}, h'.SetOf knd s1.heap.objs.size S j → (j : Nat) < 4000 → Q (.int (j : Nat)) H1 → (∀ b o, s1.heap.get? b = some o → h'.get? b = some o) →
          wpAny (model X.prog X.w) X.A (spliced (backTo pos (starEach [] X.env))) (fun vs s₂ => wpAny (model X.prog X.w) X.A (call (.builtin "len") (Value.ref s1.heap.objs.size :: vs)) (EP X pins σ Q) X.xe s₂) X.xe { s1 with heap := h', toks := tk } := fun {h' tk κ _ knd S j} hS hj q hk => by
        refine PyProof.Rows.args_nil ?_
        obtain ⟨o, es, ep, t, ho, hex, hd, _, _, _, hf, hn⟩ := hS
        exact call_len_set ho hex hd hf (by rw [hn] <;> omega) ⟨.int (j : Nat), H1, (I1.kept hk).tok _, ⟨_, by rw [hn]⟩, q⟩
      split at hd
      · rename_i ks hks
        cases hd
        rw [strsD_eq hks] at rr
        cases rep_strs rr
        have hl2 : ks.length < 4000 := by rw [strsD_eq hks, List.length_map] at hl; exact hl
        refine set_kind (knd := PySem.strKind X.prog X.w) (f := V.str) hc I1 hs (by unfold scanBound; omega) (fun its rv i v e => ?_) fun h' tk hS hk => fin hS (by have := nub_len_le ks; omega) (k _ rfl) hk
        obtain ⟨k', t, e1, rfl⟩ := str_at rv i v e
        exact ⟨k', e1, strKind_is _ _ _ _, rfl⟩
      · cases z : intsD l with
        | none => rw [z] at hd; cases hd
        | some ks =>
          rw [z] at hd
          cases hd
          rw [intsD_eq z] at rr
          cases rep_ints rr
          have hl2 : ks.length < 4000 := by rw [intsD_eq z, List.length_map] at hl; exact hl
          refine set_kind (knd := intKind X.prog X.w) (f := V.int) hc I1 hs (by unfold scanBound; omega) (fun its rv i v e => ?_) fun h' tk hS hk => fin hS (by have := nub_len_le ks; omega) (k _ rfl) hk
          obtain ⟨k', t, e1, rfl⟩ := int_at rv i v e
          exact ⟨k', e1, intKind_is _ _ _ _, rfl⟩
    · cases hd

/-! ### sorted(set(xs)) -/
def rSetI (K : PySem.W.Frag) (w : World) : List V → Hp → VK → Prop := fun xs H Q => ∃ (a : Addr) (ns : List Int), xs = [.ref a] ∧ (SqL K H a (ns.map V.int) ∨ SqT K H a (ns.map V.int)) ∧ ns.length + 1 < scanBound ∧ ∀ p c, H p = none → Q (.ref p) (upd H p (SetO w p (fun j => decide (j ∈ ns)) c))
theorem cr_setI (hc : X.calm = true) : CallR X (.type "set") (rSetI X.K X.w) := by
  intro pins s σ H xs us Q I r ⟨a, ns, ex, hs, hb, q⟩
  subst ex
  rw [Vals.ref1 r]
  have fin : ∀ (h' : Heap) (tk : Nat), (∃ c, SetR X.w h' s.heap.objs.size (fun j => decide (j ∈ ns)) c) → (∀ b o, s.heap.get? b = some o → h'.get? b = some o) → EP X pins σ Q (.ref s.heap.objs.size) { s with heap := h', toks := tk } := fun h' tk ⟨c, R⟩ hk =>
    ⟨.ref s.heap.objs.size, _, I.laid (t' := tk) hk (Nat.le_refl _) (setO_new R), rfl, q _ c (I.hok.fresh (Nat.le_refl _))⟩
  rcases hs with hs | hs
  · obtain ⟨its, rv, pl, hz⟩ := I.list hs
    have sz : its.toArray.size = ns.length := by rw [List.size_toArray, ← rv.length, List.length_map]
    refine set_of_list (Pv := fun h' => ∃ c, SetR X.w h' s.heap.objs.size (fun j => decide (j ∈ ns)) c) (I.ok.hd hc) pl.isList (fun A' s1 It R hA g1 out W i1 i2 hR => ?_) fin
    exact set_update_ints W s.heap.objs.size out ns sz hb (fun i v hi => int_at rv i v (by simpa using hi)) _ 0 s1 rfl (Nat.zero_le _) ⟨i1, i2⟩ ⟨0, Nat.le_refl _, setR_new_at g1⟩ fun s' c hm _ hS => hR s' hm ⟨c, hS⟩
  · obtain ⟨its, rv, pl, hz⟩ := I.tuple hs
    have sz : its.toArray.size = ns.length := by rw [List.size_toArray, ← rv.length, List.length_map]
    refine set_of_tuple (Pv := fun h' => ∃ c, SetR X.w h' s.heap.objs.size (fun j => decide (j ∈ ns)) c) (I.ok.hd hc) pl (fun A' s1 It R hA g1 out W i1 i2 hR => ?_) fin
    exact set_update_ints W s.heap.objs.size out ns sz hb (fun i v hi => int_at rv i v (by simpa using hi)) _ 0 s1 rfl (Nat.zero_le _) ⟨i1, i2⟩ ⟨0, Nat.le_refl _, setR_new_at g1⟩ fun s' c hm _ hS => hR s' hm ⟨c, hS⟩
/-- sorted of a set of ints, whatever its size is told to be -/
theorem card_of {w : World} {h : Heap} {a : Addr} {S : Int → Bool} {c : Nat} {l : List Int} (R : SetR w h a S c) (hl : l.Pairwise (· < ·)) (e : ∀ z, z ∈ l ↔ S z = true) : c = l.length := by
  obtain ⟨o, es, ep, t, ho, hex, hd, g, nd, hm, hb, hf, hn, hr, hx⟩ := R
  have nl : l.Nodup := hl.imp fun h => Int.ne_of_lt h
  have pm : l.Perm (es.toList.map keyOf) := (List.perm_ext_iff_of_nodup nl nd).mpr fun z => (e z).trans (hm z)
  have q := pm.length_eq
  rw [List.length_map] at q
  rw [q, Array.length_toList, hn]
def rSortI (w : World) : List V → Hp → VK → Prop := fun vs H Q => ∃ (a : Addr) (S : Int → Bool) (c : Nat) (l : List Int), vs = [V.ref a] ∧ H a = some (SetO w a S c) ∧ l.Pairwise (· < ·) ∧ (∀ z, z ∈ l ↔ S z = true) ∧ l.length < 64 ∧ ∀ p, H p = none → Q (.ref p) (upd H p (.lst (l.map V.int)))
theorem cr_sortI (hc : X.calm = true) : CallR X (.builtin "sorted") (rSortI X.w) := by
  intro pins s σ H vs us Q I r ⟨a, S, c, l, ev, ha, hl, e, h64, q⟩
  subst ev
  have hcl := card_of (setO_get I ha) hl e
  exact cr_sortedSet hc pins s σ H _ us Q I r ⟨a, S, c, rfl, ha, by omega, fun ns p h1 h2 h3 hp => by
    have : ns = l := asc_eq h1 hl fun z => (h2 z).trans (e z).symm
    rw [this]
    exact q p hp⟩
def sdD (l : List D) : Option D := (intsD l).bind fun ns => if ns.length < 4000 ∧ (sdI ns).length < 64 then some (.lst ((sdI ns).map .int)) else none
def opSortSet (w : W) : M W := bd (its w) fun l => oM ((sdD l).map .d)
theorem rep_of_ints {K : PySem.W.Frag} {mg : Mg} {A : Addr → Prop} {H : Hp} (l : List Int) : RepL K mg A H (l.map .int) (l.map V.int) := by
  induction l with
  | nil => exact .nil
  | cons x l ih => exact .cons (.int x) ih
theorem dSortSet {p p2 q pos : Pos} (hc : X.calm = true) (hg : Gl X "sorted") (hm : X.mg "sorted" = none) (hg2 : Gl X "set") (hm2 : X.mg "set" = none) (hv1 : bootBuiltins "sorted" = some (.builtin "sorted")) (hv2 : bootBuiltins "set" = some (.type "set")) (ha : PE X e (xE X E m))
    (na : starEach [e] X.env = (false, eval e X.env) :: starEach [] X.env := by rfl) (hpl : (backTo q (starEach [] X.env)).any (·.1) = false := by rfl)
    (na2 : starEach [.Call (.Name "set" p2) [e] [] q] X.env = (false, eval (.Call (.Name "set" p2) [e] [] q) X.env) :: starEach [] X.env := by rfl) (hpl2 : (backTo pos (starEach [] X.env)).any (·.1) = false := by rfl) :
    PE X (.Call (.Name "sorted" p) [.Call (.Name "set" p2) [e] [] q] [] pos) (xE X E (m1op opSortSet m)) :=
  (pe_callB (cr_sortI hc) hg hm hv1 (pa_cons (pe_callTy (cr_setI hc) hg2 hm2 hv2 (pa_cons ha pa_nil na) (by decide) (by decide) na hpl) pa_nil na2) (by decide) (by decide) na2 hpl2).to fun σ H Q ⟨F0, μ, ρ, h, rl, en, p⟩ =>
    ⟨F0, μ, ρ, h, rl, en, (Post.bd p).imp fun w h1 μ1 H1 s1 rl1 p1 v r => by
      obtain ⟨l, e1, p1⟩ := its_ok p1
      obtain ⟨w2, e2, k⟩ := oM_ok p1
      unfold sdD at e2
      cases z : intsD l with
      | none => rw [z] at e2; cases e2
      | some ns =>
        rw [z] at e2
        have e2 : (if ns.length < 4000 ∧ (sdI ns).length < 64 then some (D.lst ((sdI ns).map .int)) else none).map W.d = some w2 := e2
        split at e2
        · rename_i hl
          cases e2
          obtain ⟨a, xs, rfl, rr, hh⟩ := itsW_rep rl1 e1 r
          rw [intsD_eq z] at rr
          cases rep_ints rr
          refine ⟨a, ns, rfl, hh.imp id (·.1), by unfold scanBound; omega, fun p c hp => ?_⟩
          refine ⟨p, _, c, sdI ns, rfl, upd_same, sdI_asc ns, fun z => by rw [mem_sdI, decide_eq_true_iff], hl.2, fun p2 hp2 => ?_⟩
          have st1 : Stp μ1 H1 μ1 (upd H1 p (SetO X.w p (fun j => decide (j ∈ ns)) c)) := .fresh hp
          have rl2 := rl1.fresh (o := SetO X.w p (fun j => decide (j ∈ ns)) c) hp
          exact k _ _ (st1.trans (.fresh hp2)) (rl2.fresh hp2) _ (newL rl2 hp2 (rep_of_ints _))
        · cases e2⟩
end
end DD

set_option Elab.async false
set_option linter.all false
set_option maxRecDepth 100000
set_option maxHeartbeats 1000000
/-! DD15: set comprehensions, list comprehensions whose list may change, three names at once. -/
namespace DD
open PySem PySem.Spec PyProof.Rows L2

/-! ### set comprehensions, by what is collected -/
/-- what collects: t0 at first, one more value by add -/
structure Acc (X : Cx) (τ : Type) where
  ob : Addr → τ → HO
  t0 : τ
  add : τ → V → Option τ
  new : ∀ {H : Hp} {h : Heap}, ObjOk X.prog X.w H (h.push (freshSetOf X.w)) h.objs.size (ob h.objs.size t0)
  more : ∀ (X' : Cx), X'.prog = X.prog → X'.w = X.w → X'.K = X.K → ∀ (pins : List (Addr × Obj)) (σ : L2.St) (H : Hp) (s : Shared) (D : Addr) (t t' : τ) (y : V) (u : Value) (E : Value → Shared → Prop) (Q : Value → Shared → Prop), Inv X' pins σ H s → H D = some (ob D t) → RelV y u → add t y = some t' →
    (∀ s', Inv X' pins σ (upd H D (ob D t')) s' → Q .none s') → wpAny (model X'.prog X'.w) X'.A (call (.builtin "set.add") [.ref D, u]) Q E s
def tScG {X : Cx} {τ : Type} (C : Acc X τ) (wi : TI) (g : TG) (tt : TT) (te : TE) (vs : List Nat) : TE := fun σ H Q => wi σ H fun J H1 => ∀ D, H1 D = none → ∃ W : Nat → Nat → Hp → Prop, (∃ m, W 0 m (upd H1 D (C.ob D C.t0))) ∧ ∀ i m H, W i m H →
  (J.stop i H ∧ Q (.ref D) H) ∨ (J.go i H ∧ ∃ Nx : Hp → Prop, (∀ H', Nx H' → ∃ m', m' < m ∧ W (i + 1) m' H') ∧ ∀ x H', J.yld i H x H' → g x (wipe σ vs) H' fun σ2 H2 => wipe σ2 vs = wipe σ vs ∧ tt σ2 H2 fun b H3 =>
    if b = true then te σ2 H3 fun y H4 => ∃ t t', H4 D = some (C.ob D t) ∧ C.add t y = some t' ∧ Nx (upd H4 D (C.ob D t')) else Nx H3)
section
variable {X : Cx}
theorem scG {τ : Type} (C : Acc X τ) {elt tg iter : Expr} {ifs : List Expr} {scope : Scope} {own : List (PySem.Str × Nat)} {pos : Pos} {wi : TI} {g : TG} {tt : TT} {te : TE} (hc : X.calm = true) (hN : X.N.Nodup) (hi : PI X tg iter wi) (ok : BlkOk X.N X.env.scope scope own)
    (hg : ∀ (s : Shared) (H : Hp) (C : Addr) (cl : List (PySem.Str × Addr)) (fp : List Addr), PG (X.blk s H scope (compEnvC scope cl C X.env) fp) tg g) (ht : ∀ (s : Shared) (H : Hp) (C : Addr) (cl : List (PySem.Str × Addr)) (fp : List Addr), PTs (X.blk s H scope (compEnvC scope cl C X.env) fp) ifs tt)
    (he : ∀ (s : Shared) (H : Hp) (C : Addr) (cl : List (PySem.Str × Addr)) (fp : List Addr), PE (X.blk s H scope (compEnvC scope cl C X.env) fp) elt te) (hs : ∀ x, foldedSetIterable iter X.env x = pure x := by intro _; rfl) :
    PE X (.SetComp elt [⟨tg, iter, ifs, 0⟩] scope pos) (tScG C wi g tt te (own.map (·.2))) := by
  refine ⟨fun pins s σ H Q I h => ?_⟩
  rw [PpSet.eval_SetComp]
  have free : ∀ y ∈ scope.names, y.2 = .free → ∃ c, X.env.cells.lookup y.1 = some c := fun y hy e => by
    rcases ok.free y hy e with k | k
    · exact I.ok.has _ (.inl k)
    · exact I.ok.has _ (.inr k)
  refine wpAny_comprehension_free (use := none) rfl hs (closure_ok free) ok.kind (fun y hy e => by rw [ok.uniq y hy, e]) (thn (hi.run pins s σ H _ I h) fun xv s1 hx => thn hx fun itv s2 h2 => ?_)
  obtain ⟨it, fp, tn, J, H2, e, I2, T, st2, f2, q⟩ := h2
  subst e
  refine PpSet.newSet_ok (newEnv_comp ?_)
  generalize hD : s2.heap.objs.size = D
  have none2 : H2 D = none := I2.hok.fresh (Nat.le_of_eq hD)
  obtain ⟨W, ⟨m0, w0⟩, turn⟩ := q D none2
  generalize hs3 : ({ s2 with heap := s2.heap.push (freshSetOf X.w) } : Shared) = s3
  have I3 : Inv X pins σ (upd H2 D (C.ob D C.t0)) s3 := by
    subst hs3
    subst hD
    exact I2.laid (t' := s2.toks) (fun b o e => Heap.get?_push_of_some _ e) (Nat.le_refl _) C.new
  have e3 : s3.heap = s2.heap.push (freshSetOf X.w) := by rw [← hs3]
  have below : ∀ b ∈ fp, b < s2.heap.objs.size := fun b hb => let ⟨o, e, _⟩ := T.obj _ _ st2 b hb; Heap.lt_size e
  have f3 : ∀ b ∈ fp, FpOk X pins (upd H2 D (C.ob D C.t0)) b ∧ b < s3.heap.objs.size := fun b hb => by
    have lt := below b hb
    refine ⟨⟨?_, (f2 b hb).2⟩, by rw [e3, Heap.size_push]; exact Nat.lt_succ_of_lt lt⟩
    rw [upd_ne (by rw [← hD]; exact Nat.ne_of_lt lt)]
    exact (f2 b hb).1
  have st3 : tn 0 s3.heap := T.keep _ _ _ st2 fun b _ o e => by rw [e3]; exact Heap.get?_push_of_some _ e
  have I4 := block_start I3 ok hN f3
  have pg := hg s3 (upd H2 D (C.ob D C.t0)) s3.heap.objs.size (cellsFrom (s3.heap.objs.size + 1) scope.names (cloFrom X.env.cells scope.names [])) fp
  have pt := ht s3 (upd H2 D (C.ob D C.t0)) s3.heap.objs.size (cellsFrom (s3.heap.objs.size + 1) scope.names (cloFrom X.env.cells scope.names [])) fp
  have pe := he s3 (upd H2 D (C.ob D C.t0)) s3.heap.objs.size (cellsFrom (s3.heap.objs.size + 1) scope.names (cloFrom X.env.cells scope.names [])) fp
  have hN3 : ∀ b ∈ fp, (upd H2 D (C.ob D C.t0)) b = none := fun b hb => (f3 b hb).1.1
  generalize hce : compEnvC scope (cellsFrom (s3.heap.objs.size + 1) scope.names (cloFrom X.env.cells scope.names [])) s3.heap.objs.size X.env = ce at I4 pg pt pe
  have cL : ce.locals = s3.heap.objs.size := by subst hce; rfl
  generalize hH3 : upd H2 D (C.ob D C.t0) = H3 at I3 I4 pg pt pe w0 hN3 f3
  have Qend : ∀ H' s' m, Inv X pins σ H' s' → Q (.ref D) H' → s'.heap.Ns s3.heap.objs.size m → FpOk X pins H' s3.heap.objs.size → compPost (model X.prog X.w) X.A X.xe none (EP X pins σ Q) (.ref D) s3.heap.objs.size (.ok .next) s' := fun H' s' m I' q hn f => ⟨m, hn, fun h'' sb => by
    obtain ⟨f0, f1, f2, f3, f4, f5⟩ := f
    exact ⟨.ref D, H', I'.turned (t' := s'.toks) (fun b o hb e => (sb.2 b hb).trans e) f0 f1 f3 f4 f5, rfl, q⟩⟩
  have main : ∀ s4 : Shared, Inv (X.blk s3 H3 scope ce fp) [] (wipe σ (own.map (·.2))) H3 s4 → tn 0 s4.heap → codeAny (model X.prog X.w) X.A (.compStart (.SetComp elt [⟨tg, iter, ifs, 0⟩] scope pos) 0 (.ref it) (.ref D) ce) (compPost (model X.prog X.w) X.A X.xe none (EP X pins σ Q) (.ref D) s3.heap.objs.size) s4 := fun s4 I4 st4 => by
    have stat : ∀ {σ' : L2.St} {H' : Hp} {s' : Shared}, Inv (X.blk s3 H3 scope ce fp) [] σ' H' s' → (∀ b ∈ fp, H' b = none) → ∀ b ∈ fp, FpOk (X.blk s3 H3 scope ce fp) [] H' b := fun {σ' H' s'} I' hn b hb =>
      ⟨hn b hb, (I'.ok.exf b hb).1, I'.ok.exfs b hb, .inl hb, fun x c e => (I'.ok.exf b hb).2 x c e, fun p hp => absurd (show p ∈ ([] : List (Addr × Obj)) ++ [] from hp) (by simp)⟩
    have loop : codeAny (model X.prog X.w) X.A (.compLoop (.SetComp elt [⟨tg, iter, ifs, 0⟩] scope pos) 0 (.ref it) (.ref D) ce) (compPost (model X.prog X.w) X.A X.xe none (EP X pins σ Q) (.ref D) s3.heap.objs.size) s4 := by
      refine PpSet.compLoopS_any (fun n s' => ∃ i H', Inv (X.blk s3 H3 scope ce fp) [] (wipe σ (own.map (·.2))) H' s' ∧ tn i s'.heap ∧ (∀ b ∈ fp, H' b = none) ∧ W i n H') ?_ m0 ⟨0, H3, I4, st4, hN3, w0⟩
      rintro n s5 ⟨i, H5, I5, st5, n5, w5⟩
      rcases turn i n H5 w5 with ⟨stop, qq⟩ | ⟨go, Nx, hNx, step⟩
      · refine thnF (T.done (X.blk s3 H3 scope ce fp) rfl rfl rfl hc i [] s5 _ H5 (fun _ _ => False) I5 (stat I5 n5) st5 stop) fun r s6 ⟨hr, I6⟩ => ?_
        subst hr
        have I7 : Inv X pins σ H5 s6 := I3.call' (ch := fp) I6.os I6.base I6.hok I6.bare fun b hb => ⟨(f3 b hb).1.2.2.2.1, (f3 b hb).1.2.1, (f3 b hb).1.2.2.2.2.1, (f3 b hb).1.2.2.2.2.2⟩
        have nC : H5 s3.heap.objs.size = none := by
          have z : H5 ce.locals = none := I6.free
          rw [cL] at z
          exact z
        obtain ⟨m, hn, _⟩ := I6.loc
        have hn : s6.heap.Ns ce.locals m := hn
        rw [cL] at hn
        exact Qend H5 s6 m I7 qq hn (I3.fpOk (Nat.le_refl _) nC)
      · refine thnF (T.item (X.blk s3 H3 scope ce fp) rfl rfl rfl hc i [] s5 _ H5 (fun _ _ => False) I5 (stat I5 n5) st5 go) fun r s6 ⟨u, hr, h6⟩ => ?_
        subst hr
        refine thnF h6 fun _ s7 ⟨x, H7, I7, r7, y7, st7, n7⟩ => ?_
        refine thnF (pg.run _ s7 _ H7 x u _ (I7.pinned (stat I7 n7) (T.obj _ _ st7)) r7 (step x H7 y7)) fun _ s8 ⟨σ8, H8, I8, hw8, q8⟩ => ?_
        refine thnF (pt.run _ s8 σ8 H8 _ I8 q8) fun b s9 ⟨H9, I9, q9⟩ => ?_
        have fin : ∀ {s' : Shared} {H' : Hp}, Inv (X.blk s3 H3 scope ce fp) ([] ++ pinsAt fp s7.heap) σ8 H' s' → Nx H' → ∃ m, m < n ∧ ∃ i H', Inv (X.blk s3 H3 scope ce fp) [] (wipe σ (own.map (·.2))) H' s' ∧ tn i s'.heap ∧ (∀ b ∈ fp, H' b = none) ∧ W i m H' := fun {s' H'} I' nx => by
          obtain ⟨m', hm, w'⟩ := hNx H' nx
          have pin' : ∀ b ∈ fp, ∀ o, s7.heap.get? b = some o → s'.heap.get? b = some o ∧ H' b = none := fun b hb o e =>
            let z := I'.pin (b, o) (List.mem_append_right _ (List.mem_append_right _ (mem_pinsAt hb e)))
            ⟨z.1, z.2.1⟩
          have hl : (wipe σ (own.map (·.2))).length = σ8.length := by rw [← hw8, wipe_length]
          refine ⟨m', hm, i + 1, H', (I'.unpinned (pins := [])).weak hl (fun j v e => ?_), T.keep _ _ _ st7 fun b hb o e => (pin' b hb o e).1, fun b hb => ?_, w'⟩
          · rw [← hw8] at e
            exact (wipe_some e).1
          · obtain ⟨o, e, _⟩ := T.obj _ _ st7 b hb
            exact (pin' b hb o e).2
        cases b with
        | false =>
          simp only [Bool.false_eq_true, if_false] at q9 ⊢
          exact fin I9 q9
        | true =>
          simp only [if_true] at q9 ⊢
          refine thnF (pe.run _ s9 σ8 H9 _ I9 q9) fun z s10 ⟨yv, H10, I10, r10, t, t', hD10, ha, nx⟩ => ?_
          exact C.more (X.blk s3 H3 scope ce fp) rfl rfl rfl _ _ _ _ _ _ _ _ _ _ _ I10 hD10 r10 ha fun s11 I11 => fin I11 nx
    exact PpSet.codeAny_compStart_set loop (T.self X.A 0 _ _ _ st4 loop)
  subst hce
  refine main _ I4 (T.keep _ _ _ st3 fun b _ o e => pushCells_keeps _ _ _ _ (Heap.get?_push_of_some _ e))
/-- the ints -/
def accI (X : Cx) : Acc X ((Int → Bool) × Nat) where
  ob := fun D t => SetO X.w D t.1 t.2
  t0 := (fun _ => false, 0)
  add := fun t y => match y with
    | .int k => if t.2 + 1 < 4096 then some (fun j => t.1 j || decide (j = k), if t.1 k = true then t.2 else t.2 + 1) else none
    | _ => none
  new := fun {H h} => setO_new (setR_fresh X.w)
  more := by
    intro X' h1 h2 h3 pins σ H s D t t' y u E Q I hD r e h
    cases y with
    | int k =>
      have e : (if t.2 + 1 < 4096 then some ((fun j => t.1 j || decide (j = k)), if t.1 k = true then t.2 else t.2 + 1) else none) = some t' := e
      split at e
      · rename_i hr
        cases e
        obtain ⟨tk, rfl⟩ := r
        have hD : H D = some (SetO X'.w D t.1 t.2) := by rw [h2]; exact hD
        have R := setO_get I hD
        refine setR_add R hr fun h' sb new => ?_
        have he : ∃ u, h'.get? D = some u := let ⟨o, _, _, _, ho, _⟩ := new; ⟨o, ho⟩
        refine h _ ?_
        have z := setO_new (P := X'.prog) (H := upd H D (SetO X'.w D (fun j => t.1 j || decide (j = k)) (if t.1 k = true then t.2 else t.2 + 1))) new
        have := I.write (e := D) (t' := s.toks + 1) (by rw [hD]; trivial) (.inl rfl) (fun b u hb hu => (sb.2 b hb).trans hu) he z
        rw [h2] at this
        exact this
      · cases e
    | _ => exact nomatch e
end
end DD

set_option Elab.async false
set_option linter.all false
set_option maxRecDepth 100000
set_option maxHeartbeats 1000000
/-! DD16: sorted({.. for ..}), list comprehensions whose list may change, three names at once. -/
namespace DD
open PySem PySem.Spec PyProof.Rows L2
section
variable {X : Cx} {E : Option XK}
def mInt (e : Env → M W) : Env → M W := fun ρ => bd (e ρ) fun w => bd (oM (asIO w)) fun i => pu (.d (.int i))
def mSortSc (src : Env → M (List D)) (vs : List Nat) (g : Tg) (t : Env → M Bool) (e : Env → M W) : Env → M W := fun ρ => bd (src ρ) fun ds => if ds.length < 4000 then nox (bd (mLcL vs g t (mInt e) ρ ds) fun l => oM ((sdD l).map .d)) else stk
/-- one turn of a comprehension's mirror -/
theorem mLcL_cons {α : Type} (vs : List Nat) (g : Tg) (t : Env → M Bool) (e : Env → M W) (ρ : Env) (d : D) (ds : List D) (f : List D → M α) :
    bd (mLcL vs g t e ρ (d :: ds)) f = bd (oM (mG g d (wipeE ρ vs))) fun ρ1 => bd (t ρ1) fun k => if k = true then bd (e ρ1) fun w => bd (asD w) fun x => bd (mLcL vs g t e ρ ds) fun r => f (x :: r) else bd (mLcL vs g t e ρ ds) f := by
  show bd (bd (oM (mG g d (wipeE ρ vs))) fun ρ1 => bd (t ρ1) fun k => if k = true then bd (e ρ1) fun w => bd (asD w) fun x => bd (mLcL vs g t e ρ ds) fun r => pu (x :: r) else mLcL vs g t e ρ ds) f = _
  rw [bd_bd]
  congr 1
  funext ρ1
  rw [bd_bd]
  congr 1
  funext k
  cases k with
  | true =>
    show bd (bd (e ρ1) fun w => bd (asD w) fun x => bd (mLcL vs g t e ρ ds) fun r => pu (x :: r)) f = bd (e ρ1) fun w => bd (asD w) fun x => bd (mLcL vs g t e ρ ds) fun r => f (x :: r)
    rw [bd_bd]
    congr 1
    funext w
    rw [bd_bd]
    congr 1
    funext x
    rw [bd_bd]
    rfl
  | false => rfl
theorem int_in_app {ns : List Int} {c j : Int} : (decide (j ∈ ns) || decide (j = c)) = decide (j ∈ ns ++ [c]) := by
  simp [List.mem_append, Bool.decide_or]
theorem scD {src : Env → M (List D)} {g : Tg} {t : Env → M Bool} {e : Env → M W} {vs : List Nat} {tt : TT} {te : TE} (hv : ∀ i ∈ slt g, i ∈ vs) (htt : ∀ σ H Q, tT X.K X.mg none t σ H Q → tt σ H Q) (hte : ∀ σ H Q, tE X.K X.mg none e σ H Q → te σ H Q) (σ : L2.St) (H : Hp) (Q : VK)
    (q : xE X E (mSortSc src vs g t e) σ H Q) : tScG (accI X) (xI X E src) (gT X.K g) tt te vs σ H fun v H' => rSortI X.w [v] H' Q := by
  obtain ⟨F0, μ0, ρ0, h0, rl0, en0, p0⟩ := q
  refine ⟨F0, μ0, ρ0, h0, rl0, en0, (Post.bd p0).imp fun ds h1 μ1 H1 s1 rl1 p1 J hJ => ?_⟩
  obtain ⟨hz, G, Y, wk, hG, hY⟩ := hJ
  have en1 := en0.step s1
  by_cases hd4 : ds.length < 4000
  · rw [if_pos hd4] at p1
    have p1 := Post.nox p1
    intro Dl hD
    have nD : ∀ {μ h H}, Rl X.K X.mg (Pro F0 Dl) μ h H → ∀ n : Nat, μ[n]? ≠ some (some Dl) := fun r => (r.f0 Dl (.inr rfl)).2
    refine ⟨fun i m H => m = ds.length - i ∧ i ≤ ds.length ∧ ∃ (μ : Mu) (h : List O) (ns : List Int) (c : Nat), Stp μ1 H1 μ H ∧ Rl X.K X.mg (Pro F0 Dl) μ h H ∧ EnvR X.K X.mg (Pro F0 Dl) μ H ρ0 σ ∧ H Dl = some (SetO X.w Dl (fun j => decide (j ∈ ns)) c) ∧ c ≤ i ∧
        Post X.K X.mg F0 none μ1 H1 (QW X.K X.mg F0 Q) (bd (mLcL vs g t (mInt e) ρ0 (ds.drop i)) (fun l => oM ((sdD (ns.map D.int ++ l)).map .d)) h),
      ⟨ds.length, rfl, Nat.zero_le _, μ1, h1, [], 0, (Stp.refl _ _).over hD _, rl1.protect hD _, en1.prot hD _, by rw [upd_same]; rfl, Nat.le_refl _, p1⟩, ?_⟩
    rintro i m H ⟨rfl, hi, μ, h, ns, c, st, rl, en, hl, hn, p⟩
    by_cases hlt : i < ds.length
    · refine .inr ⟨wk.goes i H hlt (hG μ H st), fun H => ∃ (μ : Mu) (h : List O) (ns : List Int) (c : Nat), Stp μ1 H1 μ H ∧ Rl X.K X.mg (Pro F0 Dl) μ h H ∧ EnvR X.K X.mg (Pro F0 Dl) μ H ρ0 σ ∧ H Dl = some (SetO X.w Dl (fun j => decide (j ∈ ns)) c) ∧ c ≤ i + 1 ∧
        Post X.K X.mg F0 none μ1 H1 (QW X.K X.mg F0 Q) (bd (mLcL vs g t (mInt e) ρ0 (ds.drop (i + 1))) (fun l => oM ((sdD (ns.map D.int ++ l)).map .d)) h), fun H' q => ⟨ds.length - (i + 1), by omega, rfl, hlt, q⟩, fun x H' y => ?_⟩
      obtain ⟨hH, d, hd, rx⟩ := hY i H x H' μ h (Pro F0 Dl) (fun a o ha z => z.elim id fun z => by rw [z, hD] at ha; cases ha) hlt st rl (wk.yields i H x H' hlt (hG μ H st) y)
      obtain ⟨st', rl'⟩ := go_step hH rl
      rw [drop_at hd, mLcL_cons] at p
      obtain ⟨ρ1, hm, p⟩ := oM_ok (Post.bd1 p)
      have p := p μ H' (st.trans st') rl'.unprotect
      refine gT_ok g rx ((en.step st').wipe vs) hm fun σ' en' we => ⟨by rw [we vs hv, wipe_idem], ?_⟩
      refine htt _ _ _ ⟨Pro F0 Dl, μ, ρ1, h, rl', en', (Post.prot (Post.mono (Post.bd1 p) (st.trans st'))).imp fun k h3 μ3 H3 s3 rl3 p3 => ?_⟩
      have st3 := (st.trans st').trans s3
      have hl3 : H3 Dl = some (SetO X.w Dl (fun j => decide (j ∈ ns)) c) := s3.kp _ _ (st'.kp _ _ hl (nD rl)) (nD rl')
      cases k with
      | false => exact ⟨μ3, h3, ns, c, st3, rl3, (en.step st').step s3, hl3, Nat.le_succ_of_le hn, p3⟩
      | true =>
        have p3 : Post X.K X.mg F0 none μ1 H1 (QW X.K X.mg F0 Q) (bd (mInt e ρ1) (fun w => bd (asD w) fun x => bd (mLcL vs g t (mInt e) ρ0 (ds.drop (i + 1))) fun r => oM ((sdD (ns.map D.int ++ (x :: r))).map .d)) h3) := p3
        unfold mInt at p3
        rw [bd_bd] at p3
        refine hte _ _ _ ⟨Pro F0 Dl, μ3, ρ1, h3, rl3, en'.step s3, (Post.prot (Post.mono (Post.bd1 p3) st3)).imp fun w h4 μ4 H4 s4 rl4 p4 v r => ?_⟩
        rw [bd_bd] at p4
        obtain ⟨j, ej, p5⟩ := oM_ok (Post.bd1 p4)
        have p5 := p5 μ4 H4 (st3.trans s4) rl4.unprotect
        cases asIO_eq ej
        cases RepD.i r
        have hl4 : H4 Dl = some (SetO X.w Dl (fun j => decide (j ∈ ns)) c) := s4.kp _ _ hl3 (nD rl3)
        refine ⟨(fun j => decide (j ∈ ns), c), (fun z => decide (z ∈ ns) || decide (z = j), if decide (j ∈ ns) = true then c else c + 1), hl4, ?_, ?_⟩
        · show (if c + 1 < 4096 then some _ else none) = _
          rw [if_pos (by omega)]
        · refine ⟨μ4, h4, ns ++ [j], if decide (j ∈ ns) = true then c else c + 1, (st3.trans s4).over hD _, rl4.rewrite _, (((en.step st').step s3).step s4).rew _, ?_, by split <;> omega, ?_⟩
          · rw [upd_same]
            show some (SetO X.w Dl (fun z => decide (z ∈ ns) || decide (z = j)) _) = _
            congr 2
            funext z
            exact int_in_app
          · have z2 : (fun r => oM (Option.map W.d (sdD (List.map D.int ns ++ (D.int j :: r))))) = fun l => oM ((sdD ((ns ++ [j]).map D.int ++ l)).map .d) := by
              funext r
              rw [List.map_append, List.append_assoc]
              rfl
            have p6 : Post X.K X.mg F0 none μ1 H1 (QW X.K X.mg F0 Q) (bd (mLcL vs g t (mInt e) ρ0 (ds.drop (i + 1))) (fun r => oM (Option.map W.d (sdD (List.map D.int ns ++ (D.int j :: r))))) h4) := p5
            rw [z2] at p6
            exact p6
    · have ei : i = ds.length := by omega
      subst ei
      rw [List.drop_length] at p
      refine .inl ⟨wk.stops H (hG μ H st), ?_⟩
      have p : Post X.K X.mg F0 none μ1 H1 (QW X.K X.mg F0 Q) (oM ((sdD (ns.map D.int ++ [])).map .d) h) := p
      rw [List.append_nil] at p
      obtain ⟨w2, e2, k⟩ := oM_ok p
      unfold sdD at e2
      rw [intsD_map] at e2
      have e2 : (if ns.length < 4000 ∧ (sdI ns).length < 64 then some (D.lst ((sdI ns).map .int)) else none).map W.d = some w2 := e2
      split at e2
      · rename_i hl2
        cases e2
        have rl2 := rl.unprotect
        refine ⟨Dl, _, c, sdI ns, rfl, hl, sdI_asc ns, fun z => by rw [mem_sdI, decide_eq_true_iff], hl2.2, fun p2 hp2 => ?_⟩
        exact k _ _ (st.trans (.fresh hp2)) (rl2.fresh hp2) _ (newL rl2 hp2 (rep_of_ints _))
      · cases e2
  · rw [if_neg hd4] at p1
    exact p1.elim
/-- sorted({e for tg in iter if t}), of ints -/
theorem dSortSc {elt tg iter : Expr} {ifs : List Expr} {scope : Scope} {own : List (PySem.Str × Nat)} {p q pos : Pos} {src : Env → M (List D)} {g : Tg} {t : Env → M Bool} {e : Env → M W} (hc : X.calm = true) (hN : X.N.Nodup) (hg1 : Gl X "sorted") (hm1 : X.mg "sorted" = none) (hv1 : bootBuiltins "sorted" = some (.builtin "sorted"))
    (hi : PI X tg iter (xI X E src)) (ok : BlkOk X.N X.env.scope scope own)
    (hg : ∀ (s : Shared) (H : Hp) (C : Addr) (cl : List (PySem.Str × Addr)) (fp : List Addr), PG (X.blk s H scope (compEnvC scope cl C X.env) fp) tg (gT X.K g)) (ht : ∀ (s : Shared) (H : Hp) (C : Addr) (cl : List (PySem.Str × Addr)) (fp : List Addr), PTs (X.blk s H scope (compEnvC scope cl C X.env) fp) ifs (tT X.K X.mg none t))
    (he : ∀ (s : Shared) (H : Hp) (C : Addr) (cl : List (PySem.Str × Addr)) (fp : List Addr), PE (X.blk s H scope (compEnvC scope cl C X.env) fp) elt (tE X.K X.mg none e)) (hv : ∀ i ∈ slt g, i ∈ own.map (·.2) := by decide) (hs : ∀ x, foldedSetIterable iter X.env x = pure x := by intro _; rfl)
    (na2 : starEach [.SetComp elt [⟨tg, iter, ifs, 0⟩] scope q] X.env = (false, eval (.SetComp elt [⟨tg, iter, ifs, 0⟩] scope q) X.env) :: starEach [] X.env := by rfl) (hpl2 : (backTo pos (starEach [] X.env)).any (·.1) = false := by rfl) :
    PE X (.Call (.Name "sorted" p) [.SetComp elt [⟨tg, iter, ifs, 0⟩] scope q] [] pos) (xE X E (mSortSc src (own.map (·.2)) g t e)) :=
  (pe_callB (cr_sortI hc) hg1 hm1 hv1 (pa_cons (scG (accI X) hc hN hi ok hg ht he hs) pa_nil na2) (by decide) (by decide) na2 hpl2).to fun σ H Q z => scD hv (fun _ _ _ q => q) (fun _ _ _ q => q) σ H Q z

/-! ### a list comprehension whose list may change -/
def mLcR (src : Env → M (List D)) (vs : List Nat) (g : Tg) (t : Env → M Bool) (e : Env → M W) : Env → M W := fun ρ => bd (src ρ) fun ds => nox (bd (mLcL vs g t e ρ ds) fun l => alc (.lst (l.map .d)))
theorem upd_self {H : Hp} {a : Addr} {o : HO} (h : H a = some o) : upd H a o = H := by
  funext b
  by_cases e : b = a
  · subst e
    rw [upd_same, h]
  · rw [upd_ne e]
theorem RepL.own {K : PySem.W.Frag} {mg : Mg} {F0 : Addr → Prop} {μ : Mu} {h : List O} {H : Hp} {p : Addr} {l : List D} {vs : List V} (rl : Rl K mg (Pro F0 p) μ h H) (r : RepL K mg (Av (Pro F0 p) μ) H l vs) : RepL K mg (Av F0 (μ ++ [some p])) H l vs := r.mono fun b u va eb => ⟨⟨va.un.1.1, fun i zi => by
  by_cases hn : i < μ.length
  · rw [List.getElem?_append_left hn] at zi
    exact va.2 i zi
  · rw [List.getElem?_append_right (by omega)] at zi
    cases q : i - μ.length with
    | zero => rw [q] at zi; exact va.un.2 (by simpa using zi.symm)
    | succ k => rw [q] at zi; simp at zi⟩, eb⟩
theorem Stp.own {μ1 μ : Mu} {H1 H : Hp} {p : Addr} (s : Stp μ1 H1 μ H) (e : H1 p = none) : Stp μ1 H1 (μ ++ [some p]) H := by
  refine ⟨by rw [List.length_append]; have := s.len; omega, fun n a hn z => ?_, fun n a hn z => ?_, s.kp, s.trk⟩
  · rw [List.getElem?_append_left (Nat.lt_of_lt_of_le hn s.len)] at z
    exact s.old n a hn z
  · by_cases hn2 : n < μ.length
    · rw [List.getElem?_append_left hn2] at z
      exact s.new n a hn z
    · rw [List.getElem?_append_right (by omega)] at z
      cases q : n - μ.length with
      | zero =>
        rw [q] at z
        have : p = a := by simpa using z
        rw [← this]
        exact e
      | succ k => rw [q] at z; simp at z
theorem lcDR {src : Env → M (List D)} {g : Tg} {t : Env → M Bool} {e : Env → M W} {vs : List Nat} {tt : TT} {te : TE} (hv : ∀ i ∈ slt g, i ∈ vs) (htt : ∀ σ H Q, tT X.K X.mg none t σ H Q → tt σ H Q) (hte : ∀ σ H Q, tE X.K X.mg none e σ H Q → te σ H Q) (σ : L2.St) (H : Hp) (Q : VK)
    (q : xE X E (mLcR src vs g t e) σ H Q) : tLc (xI X E src) (gT X.K g) tt te vs σ H Q := by
  obtain ⟨F0, μ0, ρ0, h0, rl0, en0, p0⟩ := q
  refine ⟨F0, μ0, ρ0, h0, rl0, en0, (Post.bd p0).imp fun ds h1 μ1 H1 s1 rl1 p1 J hJ => ?_⟩
  obtain ⟨hz, G, Y, wk, hG, hY⟩ := hJ
  have en1 := en0.step s1
  have p1 := Post.nox p1
  intro Dl hD
  have nD : ∀ {μ h H}, Rl X.K X.mg (Pro F0 Dl) μ h H → ∀ n : Nat, μ[n]? ≠ some (some Dl) := fun r => (r.f0 Dl (.inr rfl)).2
  refine ⟨fun i m H => m = ds.length - i ∧ i ≤ ds.length ∧ ∃ μ h ls vs', Stp μ1 H1 μ H ∧ Rl X.K X.mg (Pro F0 Dl) μ h H ∧ EnvR X.K X.mg (Pro F0 Dl) μ H ρ0 σ ∧ H Dl = some (.lst vs') ∧ RepL X.K X.mg (Av (Pro F0 Dl) μ) H ls vs' ∧ vs'.length ≤ i ∧
      Post X.K X.mg F0 none μ1 H1 (QW X.K X.mg F0 Q) (bd (mLcL vs g t e ρ0 (ds.drop i)) (fun l => alc (.lst ((ls ++ l).map .d))) h),
    ⟨ds.length, rfl, Nat.zero_le _, μ1, h1, [], [], (Stp.refl _ _).over hD _, rl1.protect hD _, en1.prot hD _, upd_same, .nil, Nat.zero_le _, p1⟩, ?_⟩
  rintro i m H ⟨rfl, hi, μ, h, ls, vs', st, rl, en, hl, rd, hn, p⟩
  by_cases hlt : i < ds.length
  · refine .inr ⟨wk.goes i H hlt (hG μ H st), fun H => ∃ μ h ls vs', Stp μ1 H1 μ H ∧ Rl X.K X.mg (Pro F0 Dl) μ h H ∧ EnvR X.K X.mg (Pro F0 Dl) μ H ρ0 σ ∧ H Dl = some (.lst vs') ∧ RepL X.K X.mg (Av (Pro F0 Dl) μ) H ls vs' ∧ vs'.length ≤ i + 1 ∧
      Post X.K X.mg F0 none μ1 H1 (QW X.K X.mg F0 Q) (bd (mLcL vs g t e ρ0 (ds.drop (i + 1))) (fun l => alc (.lst ((ls ++ l).map .d))) h), fun H' q => ⟨ds.length - (i + 1), by omega, rfl, hlt, q⟩, fun x H' y => ?_⟩
    obtain ⟨hH, d, hd, rx⟩ := hY i H x H' μ h (Pro F0 Dl) (fun a o ha z => z.elim id fun z => by rw [z, hD] at ha; cases ha) hlt st rl (wk.yields i H x H' hlt (hG μ H st) y)
    obtain ⟨st', rl'⟩ := go_step hH rl
    rw [drop_at hd, mLcL_cons] at p
    obtain ⟨ρ1, hm, p⟩ := oM_ok (Post.bd1 p)
    have p := p μ H' (st.trans st') rl'.unprotect
    refine gT_ok g rx ((en.step st').wipe vs) hm fun σ' en' we => ⟨by rw [we vs hv, wipe_idem], ?_⟩
    refine htt _ _ _ ⟨Pro F0 Dl, μ, ρ1, h, rl', en', (Post.prot (Post.mono (Post.bd1 p) (st.trans st'))).imp fun k h3 μ3 H3 s3 rl3 p3 => ?_⟩
    have st3 := (st.trans st').trans s3
    have hl3 : H3 Dl = some (.lst vs') := s3.kp _ _ (st'.kp _ _ hl (nD rl)) (nD rl')
    cases k with
    | false => exact ⟨μ3, h3, ls, vs', st3, rl3, (en.step st').step s3, hl3, (rd.step st').step s3, Nat.le_succ_of_le hn, p3⟩
    | true =>
      have p3 : Post X.K X.mg F0 none μ1 H1 (QW X.K X.mg F0 Q) (bd (e ρ1) (fun w => bd (asD w) fun x => bd (mLcL vs g t e ρ0 (ds.drop (i + 1))) fun r => alc (.lst ((ls ++ (x :: r)).map .d))) h3) := p3
      refine hte _ _ _ ⟨Pro F0 Dl, μ3, ρ1, h3, rl3, en'.step s3, (Post.prot (Post.mono (Post.bd1 p3) st3)).imp fun w h4 μ4 H4 s4 rl4 p4 v r => ?_⟩
      obtain ⟨y, rfl, p5⟩ := asD_ok p4
      have hl4 : H4 Dl = some (.lst vs') := s4.kp _ _ hl3 (nD rl3)
      refine ⟨vs', hl4, by omega, μ4, h4, ls ++ [y], vs' ++ [v], (st3.trans s4).over hD _, rl4.rewrite _, (((en.step st').step s3).step s4).rew _, upd_same, ((((rd.step st').step s3).step s4).append (.cons r .nil)).rew _, by rw [List.length_append, List.length_singleton]; omega, ?_⟩
      have z2 : (fun r => alc (.lst ((ls ++ (y :: r)).map .d))) = fun l => alc (.lst ((ls ++ [y] ++ l).map .d)) := by
        funext r
        rw [List.append_assoc]
        rfl
      rw [z2] at p5
      exact p5
  · have e : i = ds.length := by omega
    subst e
    rw [List.drop_length] at p
    refine .inl ⟨wk.stops H (hG μ H st), ?_⟩
    have p : Post X.K X.mg F0 none μ1 H1 (QW X.K X.mg F0 Q) (alc (.lst ((ls ++ []).map .d)) h) := p
    rw [List.append_nil] at p
    have nf : ¬ F0 Dl := fun z => by
      obtain ⟨⟨o, y⟩, _⟩ := rl1.f0 Dl z
      rw [hD] at y
      cases y
    have ro : RepL X.K X.mg (Av F0 (μ ++ [some Dl])) (upd H Dl (.lst vs')) ls vs' := by rw [upd_self hl]; exact RepL.own rl rd
    have rl2 := rl.adopt (u := .lst vs') (ob := .lst (ls.map .d)) nf ⟨vs', upd_same, reps_of ro⟩
    rw [upd_self hl] at rl2
    refine p _ _ (st.own hD) rl2 _ ⟨by rw [List.length_append, rl.len]; simp, fun a z => ?_⟩
    rw [← rl.len, List.getElem?_append_right (Nat.le_refl _)] at z
    have : Dl = a := by simpa using z
    rw [this]
theorem dLcR {elt tg iter : Expr} {ifs : List Expr} {scope : Scope} {own : List (PySem.Str × Nat)} {pos : Pos} {src : Env → M (List D)} {g : Tg} {t : Env → M Bool} {e : Env → M W} (hc : X.calm = true) (hN : X.N.Nodup) (hi : PI X tg iter (xI X E src)) (ok : BlkOk X.N X.env.scope scope own)
    (hg : ∀ (s : Shared) (H : Hp) (C : Addr) (cl : List (PySem.Str × Addr)) (fp : List Addr), PG (X.blk s H scope (compEnvC scope cl C X.env) fp) tg (gT X.K g)) (ht : ∀ (s : Shared) (H : Hp) (C : Addr) (cl : List (PySem.Str × Addr)) (fp : List Addr), PTs (X.blk s H scope (compEnvC scope cl C X.env) fp) ifs (tT X.K X.mg none t))
    (he : ∀ (s : Shared) (H : Hp) (C : Addr) (cl : List (PySem.Str × Addr)) (fp : List Addr), PE (X.blk s H scope (compEnvC scope cl C X.env) fp) elt (tE X.K X.mg none e)) (hv : ∀ i ∈ slt g, i ∈ own.map (·.2) := by decide) (hs : ∀ x, foldedSetIterable iter X.env x = pure x := by intro _; rfl) :
    PE X (.ListComp elt [⟨tg, iter, ifs, 0⟩] scope pos) (xE X E (mLcR src (own.map (·.2)) g t e)) :=
  (pe_lc hc hN hi ok hg ht he hs).to (lcDR hv (fun _ _ _ q => q) fun _ _ _ q => q)
theorem dsSetLcR {i : Nat} {y : PySem.Str} {py : Pos} {elt tg iter : Expr} {ifs : List Expr} {scope : Scope} {own : List (PySem.Str × Nat)} {pos spos : Pos} {src : Env → M (List D)} {g : Tg} {t : Env → M Bool} {e : Env → M W} (hc : X.calm = true) (hN : X.N.Nodup) (hy : X.N[i]? = some y) (hyl : X.env.scope.names.lookup y = some .local)
    (hsw : swapsWith (.ListComp elt [⟨tg, iter, ifs, 0⟩] scope pos) (some (.Name y py)) spos.line X.env = pure true) (hi : PI X tg iter (xI X E src)) (ok : BlkOk X.N X.env.scope scope own)
    (hg : ∀ (s : Shared) (H : Hp) (C : Addr) (cl : List (PySem.Str × Addr)) (fp : List Addr), PG (X.blk s H scope (compEnvC scope cl C X.env) fp) tg (gT X.K g)) (ht : ∀ (s : Shared) (H : Hp) (C : Addr) (cl : List (PySem.Str × Addr)) (fp : List Addr), PTs (X.blk s H scope (compEnvC scope cl C X.env) fp) ifs (tT X.K X.mg none t))
    (he : ∀ (s : Shared) (H : Hp) (C : Addr) (cl : List (PySem.Str × Addr)) (fp : List Addr), PE (X.blk s H scope (compEnvC scope cl C X.env) fp) elt (tE X.K X.mg none e)) (hv : ∀ i ∈ slt g, i ∈ own.map (·.2) := by decide) (hs : ∀ x, foldedSetIterable iter X.env x = pure x := by intro _; rfl) :
    PS X (.Assign [.Name y py] (.ListComp elt [⟨tg, iter, ifs, 0⟩] scope pos) spos) (xS X E (mSet i (mLcR src (own.map (·.2)) g t e))) :=
  (ps_setLc hc hN hy hyl hsw hi ok hg ht he hs).to fun Dd σ H ⟨F0, μ, ρ, h, rl, en, p⟩ =>
    lcDR hv (fun _ _ _ q => q) (fun _ _ _ q => q) σ H _ ⟨F0, μ, ρ, h, rl, en, (Post.bd p).imp fun x h1 μ1 H1 s1 rl1 p1 v r => p1 μ1 H1 (.refl _ _) rl1 _ ((en.step s1).set i r)⟩

/-! ### a, b, c = e1, e2, e3 -/
def mPar3 (i j l : Nat) (n : Env → M (List W)) : Env → M Fl := fun ρ => bd (n ρ) fun ws => match ws with
  | [u, v, w] => pu (.nx (((ρ.set i (some u)).set j (some v)).set l (some w)))
  | _ => stk
theorem dsPar3 {i j l : Nat} {x y z : PySem.Str} {a b c : Expr} {n : Env → M (List W)} {px py pz pt pos : Pos} {kt k2 pt2} (hc : X.calm = true) (hN : X.N.Nodup) (hi : X.N[i]? = some x) (hj : X.N[j]? = some y) (hl : X.N[l]? = some z) (hij : i ≠ j) (hil : i ≠ l) (hjl : j ≠ l)
    (hx : X.env.scope.names.lookup x = some .local) (hy : X.env.scope.names.lookup y = some .local) (hz : X.env.scope.names.lookup z = some .local) (ha : PA X [a, b, c] (xA X E n))
    (hw : swappedStores [.Tuple [.Name x px, .Name y py, .Name z pz] kt pt] (.Tuple [a, b, c] k2 pt2) X.env = pure (some [x, y, z]) := by rfl)
    (hs : swapsWithSole [.Tuple [.Name x px, .Name y py, .Name z pz] kt pt] (.Tuple [a, b, c] k2 pt2) pos.line X.env = pure false := by rfl) :
    PS X (.Assign [.Tuple [.Name x px, .Name y py, .Name z pz] kt pt] (.Tuple [a, b, c] k2 pt2) pos) (xS X E (mPar3 i j l n)) := (ps_par3 hc hN hi hj hl hij hil hjl hx hy hz ha hw hs).to fun Dd σ H ⟨F0, μ, ρ, h, rl, en, p⟩ =>
  ⟨F0, μ, ρ, h, rl, en, (Post.bd p).imp fun ws h1 μ1 H1 s1 rl1 p1 vs rs => by
    cases rs with
    | nil => exact p1.elim
    | cons r rs =>
      cases rs with
      | nil => exact p1.elim
      | cons r2 rs =>
        cases rs with
        | nil => exact p1.elim
        | cons r3 rs =>
          cases rs with
          | cons _ _ => exact p1.elim
          | nil => exact ⟨_, _, _, rfl, p1 μ1 H1 (.refl _ _) rl1 _ ((((en.step s1).set i r).set j r2).set l r3)⟩⟩
end
end DD

set_option Elab.async false
set_option linter.all false
set_option maxRecDepth 100000
set_option maxHeartbeats 1000000
/-! DD17: the law's end. -/
namespace DD
open PySem PySem.Spec PyProof.Rows L2
theorem frz_of {K : PySem.W.Frag} {mg : Mg} {H : Hp} {a : Addr} {ns : List Int} (hS : SqL K H a (ns.map V.int)) : RepD K mg (Av (fun _ => False) []) H (.frz (ns.map .int)) (.ref a) := by
  refine .frz ?_ (rep_of_ints ns)
  rcases hS with h | h
  · exact .inl ⟨⟨fun z => z, fun n z => by simp at z⟩, h⟩
  · exact .inr h
theorem rl_nil {K : PySem.W.Frag} {mg : Mg} {H : Hp} : Rl K mg (fun _ => False) [] [] H :=
  ⟨rfl, fun i j a z => by simp at z, fun a z => z.elim, fun n a o z => by simp at z, fun n z => by simp at z⟩
theorem law_sp {K : PySem.W.Frag} {mg : Mg} {H : Hp} {a : Addr} {ns : List Int} {m : List W → M W} (hS : SqL K H a (ns.map V.int)) (hm : ∃ h', m [.d (.frz (ns.map .int))] [] = .ok (.d (.bl true)) h') : spM K mg false 1 m [.ref a] H (fun v _ => v = .bl true) E0 := by
  obtain ⟨h', e⟩ := hm
  refine ⟨rfl, fun _ => False, [], [], [.d (.frz (ns.map .int))], rl_nil, .cons (frz_of hS) .nil, ?_⟩
  rw [e]
  exact fun μ' H' _ _ v r => RepD.b r
theorem law_callG {P : Program} {w : World} {K : PySem.W.Frag} {mg mb : Str → Option Value} {k : Nat} {fa a : Addr} {fd : FuncData} {x : Str} {m : List W → M W} {s₁ : Shared} {vs : List Value} {ns : List Int}
    (KX : K.In s₁.heap) (hns : s₁.heap.Ns mainGlobals mg) (hb : s₁.heap.Ns builtinsNs mb) (hbb : ∀ x : Str, x ≠ "__name__" → mb x = bootBuiltins x) (hlim : s₁.heap.NoLimit) (hg : s₁.gens = #[])
    (ha : s₁.heap.get? a = some { cls := .type "list", data := .seq vs.toArray }) (hi : IntsAre vs ns) (hl : ns.length ≤ sizeLine) (hr : Room k callerA) (hgd : callerA.guards = some [])
    (F : ∀ base : Heap, K.In base → base.Ns mainGlobals mg → FnG P w K mg base k fa fd [x] m) (hbind : ∀ (s : Shared) (u : Value), BindsTo s fd ⟨[u], []⟩ [(x, u)])
    (hm : ∃ h', m [.d (.frz (ns.map .int))] [] = .ok (.d (.bl true)) h') :
    codeAny (model P w) callerA (.call (.ref fa) ⟨[.ref a], []⟩) (fun r s' => r = .ok (.ret (.bool true)) ∧ OldK s₁.heap s'.heap ∧ s'.os = s₁.os ∧ AllBare s'.gens) s₁ := by
  have rv := vals_ints hi
  have lenV := hi.length
  have core : ∀ H : Hp, Only H → SqL K H a (ns.map V.int) → HOk P w H s₁.heap → (∀ b, H b ≠ none → b = a) → (H a ≠ none → K.lookup a = none) →
      codeAny (model P w) callerA (.call (.ref fa) ⟨[.ref a], []⟩) (fun r s' => r = .ok (.ret (.bool true)) ∧ OldK s₁.heap s'.heap ∧ s'.os = s₁.os ∧ AllBare s'.gens) s₁ := by
    intro H hO hS hok hA hK
    have only : ∀ {b : Addr} {o : Obj}, s₁.heap.get? b = some o → (b = a → H a = none) → H b = none := fun {b o} e z => by
      cases q : H b with
      | none => rfl
      | some u =>
        have e' : b = a := hA b (by rw [q]; simp)
        have := z e'
        rw [← e', q] at this
        cases this
    have base_of : ∀ {b : Addr} {o : Obj}, s₁.heap.get? b = some o → H b = none → (hidT s₁.heap H).get? b = some o := fun e n => hidT_get e n
    have nsK : ∀ {b : Addr} {m : Str → Option Value}, s₁.heap.Ns b m → (hidT s₁.heap H).Ns b m := fun {b m} ⟨o, es, ep, e, d, r⟩ => ⟨o, es, ep, base_of e (by
      cases q : H b with
      | none => rfl
      | some u =>
        have e' : b = a := hA b (by rw [q]; simp)
        subst e'
        rw [ha] at e
        cases e
        cases d), d, r⟩
    have hKb : K.In (hidT s₁.heap H) := fun b o e => base_of (KX b o e) (by
      cases q : H b with
      | none => rfl
      | some u =>
        have e' : b = a := hA b (by rw [q]; simp)
        subst e'
        rw [hK (by rw [q]; simp)] at e
        cases e)
    have hM : Mod K mg (hidT s₁.heap H) := ⟨hKb, nsK hns, ⟨mb, nsK hb, hbb⟩, let ⟨mc, h1, h2⟩ := hlim; ⟨mc, nsK h1, h2⟩⟩
    have e0 : Env0 P w K mg (hidT s₁.heap H) callerA [] s₁ H := ⟨rfl, hM, fun b o e => of_hidT e, Nat.le_of_eq (hidT_size _ _), trivial, fun b hb => absurd (show b ∈ ([] : List Addr) from hb) (by simp), hok, .of_eq hg⟩
    refine codeAny_mono ((F _ hKb (nsK hns)).run callerA [] s₁ H ⟨[.ref a], []⟩ [.ref a] [.ref a] _ hr hgd e0 (hbind s₁ (.ref a)) (.cons rfl .nil) (law_sp hS hm)) fun r s' h => ?_
    cases r with
    | error e => exact False.elim h
    | ok fl =>
      cases fl with
      | next => exact False.elim h
      | brk => exact False.elim h
      | cont => exact False.elim h
      | ret u =>
        obtain ⟨v, H', os, bare, un, hok', r', q⟩ := h
        have q' : v = .bl true := q
        subst q'
        obtain rfl : u = Value.bool true := r'
        refine ⟨rfl, OldK.of_keep fun b o e => ?_, os, bare⟩
        cases q : H b with
        | none => exact un.keep b o e q (by intro z; exact absurd (show b ∈ ([] : List Addr) from z) (by simp)) (by simp)
        | some u =>
          rcases hO b with z | ⟨ob, xs, z⟩
          · rw [q] at z
            cases z
          · obtain ⟨e1, _⟩ := hok b _ z
            obtain ⟨e2, _⟩ := hok' b _ (un.frzs b ob _ z)
            rw [e] at e1
            cases e1
            exact e2
  cases hk : K.lookup a with
  | some o =>
    have e := KX a o hk
    rw [ha] at e
    cases e
    refine core (fun _ => none) (fun _ => .inl rfl) (.inr ⟨_, vs.toArray, _, hk, rfl, rfl, rfl, by rw [List.size_toArray, lenV]; exact hl, by simpa using rv⟩) (fun b u z => by have z' : (none : Option HO) = some u := z; cases z') (fun b z => absurd rfl z) fun z => absurd rfl z
  | none =>
    refine core (fun b => if b = a then some (.frz { cls := .type "list", data := .seq vs.toArray } (.lst (ns.map V.int))) else none) (fun b => ?_) (.inl (.inr ⟨{ cls := .type "list", data := .seq vs.toArray }, if_pos rfl⟩)) (fun b u z => ?_) (fun b z => ?_) fun _ => hk
    · by_cases hb : b = a
      · exact .inr ⟨_, _, if_pos hb⟩
      · exact .inl (if_neg hb)
    · by_cases hb : b = a
      · have z' := (if_pos hb).symm.trans z
        cases z'
        subst hb
        exact ⟨ha, by rw [List.length_map]; exact hl, vs, _, rv, ha⟩
      · have z' := (if_neg hb).symm.trans z
        cases z'
    · by_cases hb : b = a
      · exact hb
      · exact absurd (if_neg hb) z
theorem walk_ofG {l : PySem.W.OpenLaw} {n k : Nat} {q : Program} {loose : List Str} {XP : (Str → Option Value) → Heap → Prop} {YP : World → Heap → Prop} {d : DefRec} {K : Params → PySem.W.Frag} {x : Str} {m : List W → M W}
    (hn : l.most = some n) (hn2 : n ≤ sizeLine) (hdf : d.params.defaults = []) (hr : Room k callerA) (hgd : callerA.guards = some [])
    (hY : ∀ (w : World) (h : Heap), YP w h → (K w.params).In h)
    (F : ∀ (w : World) (mg : Str → Option Value) (fa : Addr) (h : Heap), (K w.params).In h → h.Ns mainGlobals mg → mg d.name = some (.ref fa) →
      ∃ fd : FuncData, (∀ (s : Shared) (u : Value), BindsTo s fd ⟨[u], []⟩ [(x, u)]) ∧ ∀ base : Heap, (K w.params).In base → base.Ns mainGlobals mg → FnG l.prog w (K w.params) mg base k fa fd [x] m)
    (hlaw : ∀ ns : List Int, ns.length ≤ n → ∃ h', m [.d (.frz (ns.map .int))] [] = .ok (.d (.bl true)) h') :
    PySem.W.WalkO q loose XP YP l.row.toRowW d [] (fun f vs => PySem.call f vs) := by
  refine Att.attach_call hn hdf fun w s₀ s₁ mg mb fa o pm cd doc a vs ns G Y ho hd hcd hmg hobj hints hlen hg => ?_
  have KX := hY w _ Y
  obtain ⟨fd, hb, hF⟩ := F w mg fa _ KX G.T.g hmg
  exact law_callG KX G.T.g G.T.b G.T.builtins G.T.nolimit hg hobj hints (Nat.le_trans hlen hn2) hr hgd hF hb (hlaw ns hlen)
end DD

set_option Elab.async false
set_option linter.all false
set_option maxRecDepth 100000
set_option maxHeartbeats 1000000
/-! DD18: what the printed derivations use: constants of the module, room, how keywords stand. -/
namespace DD
open PySem L2
section
variable {X : Cx} {E : Option XK} {x : Str} {pos : Pos} {K : PySem.W.Frag}
theorem dGInt {i : Int} (hm : ∃ t, X.mg x = some (.int i t)) (hg : Gl X x) (hd : (x == ("__debug__" : Str)) = false := by decide) : PE X (.Name x pos) (xE X E (mC (.int i))) :=
  hm.elim fun t h => cst (pe_glob (v := V.int i) hg h ⟨t, rfl⟩ hd) fun _ _ => .int i
theorem dGStr {z : Str} (hm : ∃ t, X.mg x = some (.str z t)) (hg : Gl X x) (hd : (x == ("__debug__" : Str)) = false := by decide) : PE X (.Name x pos) (xE X E (mC (.str z))) :=
  hm.elim fun t h => cst (pe_glob (v := V.str z) hg h ⟨t, rfl⟩ hd) fun _ _ => .str z
/-- a tuple of texts that the module holds -/
def TupAt (K : PySem.W.Frag) (mg : Mg) (x : Str) (l : List Str) : Prop := ∃ (a : Addr), mg x = some (.ref a) ∧ KTup K a (l.map V.str)
theorem rep_of_strs {mg : Mg} {A : Addr → Prop} {H : Hp} (l : List Str) : RepL K mg A H (l.map .str) (l.map V.str) := by
  induction l with
  | nil => exact .nil
  | cons x l ih => exact .cons (.str x) ih
theorem dGTup {l : List Str} (hm : TupAt X.K X.mg x l) (hg : Gl X x) (hd : (x == ("__debug__" : Str)) = false := by decide) : PE X (.Name x pos) (xE X E (mC (.tup (l.map .str)))) :=
  hm.elim fun a h => cst (pe_glob (v := V.ref a) hg h.1 rfl hd) fun _ _ => .tup (.inr h.2) (rep_of_strs l)
theorem vals_strs : ∀ (l : List Str) (ts : List Tok), ts.length = l.length → Vals (l.map V.str) (List.zipWith (fun z t => Value.str z t) l ts)
  | [], _, _ => .nil
  | z :: l, t :: ts, h => .cons ⟨t, rfl⟩ (vals_strs l ts (by simpa using h))
theorem tupAt_mk {mg : Mg} {l : List Str} {a : Addr} {od : Option Addr} {its : Array Value} {n : Nat} {osl : Array (Option Value)} {h : Heap} (KX : K.In h) (G : h.Ns mainGlobals mg) (e : PySem.W.nsIn K mainGlobals x = some (some (.ref a)))
    (lk : K.lookup a = some ⟨.type "tuple", od, .seq its n, osl⟩) (ts : List Tok) (ht : ts.length = l.length) (hi : its.toList = List.zipWith (fun z t => Value.str z t) l ts) (hz : l.length ≤ 1000) : TupAt K mg x l := by
  refine ⟨a, PySem.W.mg_of KX G e, _, its, n, lk, rfl, rfl, ?_, ?_⟩
  · have : its.size = its.toList.length := (Array.length_toList).symm
    rw [this, hi, List.length_zipWith, ht, Nat.min_self]
    exact Nat.le_trans hz (by decide)
  · rw [hi]
    exact vals_strs l ts ht
theorem dtOne {c : Expr} {t : Env → M Bool} (h : PT X c (xT X E t)) : PTs X [c] (xT X E t) := pts_one h
theorem glk {X : Cx} {x : Str} (h : X.env.kindOf x = some .globalImplicit) : Gl X x := h
theorem hu64 {A : Around} {k : Nat} (hr : Room k A) : A.units + 64 < cLine := hr.units
theorem hu65 {A : Around} {k : Nat} (hr : Room k A) : A.units + 65 < cLine := by have := hr.un; omega
theorem hu80 {A : Around} {k : Nat} (hr : Room k A) : A.units + 80 < cLine := by have := hr.un; omega
theorem hu1 {A : Around} {k : Nat} (hr : Room k A) : A.units + 1 < cLine := by have := hr.un; omega
theorem hu0 {A : Around} {k : Nat} (hr : Room k A) : A.units < cLine := by have := hr.un; omega

/-! ### the order of parameters -/
def permL {α : Type} (ix : List Nat) (us ws : List α) : List α := ix.filterMap fun i => (us ++ ws)[i]?
theorem permL_vals (ix : List Nat) {vs : List V} {us : List Value} {zs : List V} {ws : List Value} (r1 : Vals vs us) (r2 : Vals zs ws) : Vals (permL ix vs zs) (permL ix us ws) := by
  have r := r1.append r2
  have g : ∀ {vs : List V} {us : List Value}, Vals vs us → ∀ i : Nat, (∃ v u, vs[i]? = some v ∧ us[i]? = some u ∧ RelV v u) ∨ (vs[i]? = none ∧ us[i]? = none) := fun {vs us} r => by
    induction r with
    | nil => exact fun i => .inr ⟨by simp, by simp⟩
    | cons r _ ih =>
      intro i
      cases i with
      | zero => exact .inl ⟨_, _, rfl, rfl, r⟩
      | succ i => simpa using ih i
  unfold permL
  induction ix with
  | nil => exact .nil
  | cons i ix ih =>
    rcases g r i with ⟨v, u, e1, e2, q⟩ | ⟨e1, e2⟩
    · rw [List.filterMap_cons_some e1, List.filterMap_cons_some e2]
      exact .cons q ih
    · rw [List.filterMap_cons_none e1, List.filterMap_cons_none e2]
      exact ih
theorem permL_puts {mg : Mg} (ix : List Nat) : Puts K mg (permL ix) (permL ix) := by
  intro F0 μ H ws vs ws' vs' r1 r2
  have r := r1.append r2
  have g : ∀ {ws : List W} {vs : List V}, RepWs K mg F0 μ H ws vs → ∀ i : Nat, (∃ w v, ws[i]? = some w ∧ vs[i]? = some v ∧ RepW K mg F0 μ H w v) ∨ (ws[i]? = none ∧ vs[i]? = none) := fun {ws vs} r => by
    induction r with
    | nil => exact fun i => .inr ⟨by simp, by simp⟩
    | cons r _ ih =>
      intro i
      cases i with
      | zero => exact .inl ⟨_, _, rfl, rfl, r⟩
      | succ i => simpa using ih i
  unfold permL
  induction ix with
  | nil => exact .nil
  | cons i ix ih =>
    rcases g r i with ⟨v, u, e1, e2, q⟩ | ⟨e1, e2⟩
    · rw [List.filterMap_cons_some e1, List.filterMap_cons_some e2]
      exact .cons q ih
    · rw [List.filterMap_cons_none e1, List.filterMap_cons_none e2]
      exact ih
theorem permL_self (ix : List Nat) (x : V) (vs zs : List V) : permL (0 :: ix.map (· + 1)) (x :: vs) zs = x :: permL ix vs zs := by
  unfold permL
  rw [List.filterMap_cons_some (by rfl), List.filterMap_map]
  rfl
theorem kbn_mk {fd : FuncData} {z qual : Str} {st : Stmt} {f : Addr} {ps ks : List Str} {n : Nat} (ix : List Nat) (F : L2.Fun K z qual st f fd)
    (h : ∀ (kV doc pm : Value) (an : Option Addr) (cdv ct : Value) (us ws : List Value), us.length = n → ws.length = ks.length → bindArgs (PySem.W.fnOf z qual (defArgs st) (defBody st) (defScope st) .none kV doc pm an cdv ct) ⟨us, ks.zip ws⟩ = pure (ps.zip (permL ix us ws))) : KBn K fd ps n ks (permL ix) (permL ix) := by
  obtain ⟨oc, od, kV, doc, pm, an, cdv, ct, osl, rfl, lk, hcd⟩ := F.ex
  exact ⟨fun s us ws X l1 l2 => .of_eq (h kV doc pm an cdv ct us ws l1 l2), fun r1 r2 => permL_vals ix r1 r2⟩
end
end DD

set_option Elab.async false
set_option linter.all false
set_option maxRecDepth 100000
set_option maxHeartbeats 1000000
/-! DD19: what a mirror does, in plain terms. -/
namespace DD
open PySem L2
/-- m ends well, with P -/
def wp {α : Type} (m : M α) (P : α → List O → Prop) (h : List O) : Prop := match m h with
  | .ok a h' => P a h'
  | _ => False
section
variable {α β : Type} {P Q : α → List O → Prop} {h : List O}
theorem wp_pu (a : α) : wp (pu a) P h = P a h := rfl
theorem wp_bd {R : β → List O → Prop} (m : M α) (f : α → M β) : wp (bd m f) R h = wp m (fun a h' => wp (f a) R h') h := by
  unfold wp bd
  cases m h <;> rfl
theorem wp_stk : wp (stk : M α) P h = False := rfl
theorem wp_oM (o : Option α) : wp (oM o) P h = (∃ a, o = some a ∧ P a h) := by
  cases o with
  | none => exact propext ⟨fun z => z.elim, fun ⟨_, z, _⟩ => nomatch z⟩
  | some a => exact propext ⟨fun z => ⟨a, rfl, z⟩, fun ⟨_, e, z⟩ => by cases e; exact z⟩
theorem wp_some (a : α) : wp (oM (some a)) P h = P a h := rfl
theorem wp_ite {c : Prop} [Decidable c] (m1 m2 : M α) : wp (if c then m1 else m2) P h = (if c then wp m1 P h else wp m2 P h) := by
  split <;> rfl
theorem wp.imp {m : M α} (w : wp m P h) (f : ∀ a h', P a h' → Q a h') : wp m Q h := by
  unfold wp at w ⊢
  cases e : m h with
  | ok a h' => rw [e] at w; exact f a h' w
  | ex x h' => rw [e] at w; exact w
  | st => rw [e] at w; exact w
theorem wp_nox (m : M α) : wp (nox m) P h = wp m P h := by
  unfold wp nox
  cases m h <;> rfl
theorem wp.ok {m : M α} (w : wp m P h) : ∃ a h', m h = .ok a h' ∧ P a h' := by
  unfold wp at w
  cases e : m h with
  | ok a h' => rw [e] at w; exact ⟨a, h', rfl, w⟩
  | ex x h' => rw [e] at w; exact w.elim
  | st => rw [e] at w; exact w.elim
end
section
variable {P : W → List O → Prop} {h : List O} {ρ : Env}
theorem wp_mV (i : Nat) (w : W) (e : (ρ[i]?).join = some w) : wp (mV i ρ) P h = P w h := by
  unfold mV
  rw [e]
  rfl
theorem wp_mC (d : D) : wp (mC d ρ) P h = P (.d d) h := rfl
theorem wp_m2op (op : W → W → M W) (a b : Env → M W) : wp (m2op op a b ρ) P h = wp (a ρ) (fun x h1 => wp (b ρ) (fun y h2 => wp (op x y) P h2) h1) h := by
  unfold m2op
  rw [wp_bd]
  congr 1
  funext x h1
  rw [wp_bd]
theorem wp_m1op (op : W → M W) (a : Env → M W) : wp (m1op op a ρ) P h = wp (a ρ) (fun x h1 => wp (op x) P h1) h := by
  unfold m1op
  rw [wp_bd]
theorem wp_mCall (m : List W → M W) (n : Env → M (List W)) : wp (mCall m n ρ) P h = wp (n ρ) (fun ws h1 => wp (m ws) P h1) h := by
  unfold mCall
  rw [wp_bd]
theorem wp_mLend (k : Nat) (m : List W → M W) (n : Env → M (List W)) : wp (mLend k m n ρ) P h = wp (n ρ) (fun ws h1 => wp (lendC k m ws) P h1) h := by
  unfold mLend
  rw [wp_bd]
theorem wp_mIf (t : Env → M Bool) (a b : Env → M W) : wp (mIf t a b ρ) P h = wp (t ρ) (fun k h1 => if k = true then wp (a ρ) P h1 else wp (b ρ) P h1) h := by
  unfold mIf
  rw [wp_bd]
  congr 1
  funext k h1
  rw [wp_ite]
theorem wp_mTup (n : Env → M (List W)) : wp (mTup n ρ) P h = wp (n ρ) (fun ws h1 => wp (mkTup ws) P h1) h := by
  unfold mTup
  rw [wp_bd]
theorem wp_mLst (n : Env → M (List W)) : wp (mLst n ρ) P h = wp (n ρ) (fun ws h1 => wp (mkLst ws) P h1) h := by
  unfold mLst
  rw [wp_bd]
theorem wp_mkTup (l : List D) (hl : l.length ≤ 100000) : wp (mkTup (l.map .d)) P h = P (.d (.tup l)) h := by
  unfold mkTup mkTupO
  rw [datas_map]
  show wp (oM (if l.length ≤ 100000 then some (.d (.tup l)) else none)) P h = _
  rw [if_pos hl]
  rfl
theorem wp_mkLst (l : List D) (hl : l.length ≤ 100000) : wp (mkLst (l.map .d)) P h = P (.d (.lst l)) h := by
  unfold mkLst mkLstO
  rw [datas_map]
  show wp (oM (if l.length ≤ 100000 then some (.d (.lst l)) else none)) P h = _
  rw [if_pos hl]
  rfl
variable {PB : Bool → List O → Prop} {PF : Fl → List O → Prop} {PL : List W → List O → Prop} {PD : List D → List O → Prop}
theorem wp_mNil : wp (mNil ρ) PL h = PL [] h := rfl
theorem wp_mCons (m : Env → M W) (n : Env → M (List W)) : wp (mCons m n ρ) PL h = wp (m ρ) (fun x h1 => wp (n ρ) (fun r h2 => PL (x :: r) h2) h1) h := by
  unfold mCons
  rw [wp_bd]
  congr 1
  funext x h1
  rw [wp_bd]
  rfl
theorem wp_asB (b : Bool) : wp (asB (.d (.bl b))) PB h = PB b h := rfl
theorem wp_mT (m : Env → M W) : wp (mT m ρ) PB h = wp (m ρ) (fun x h1 => wp (asB x) PB h1) h := by
  unfold mT
  rw [wp_bd]
theorem wp_mNot (t : Env → M Bool) : wp (mNot t ρ) PB h = wp (t ρ) (fun k h1 => PB (!k) h1) h := by
  unfold mNot
  rw [wp_bd]
  rfl
theorem wp_mAnd (t t' : Env → M Bool) : wp (mAnd t t' ρ) PB h = wp (t ρ) (fun k h1 => if k = true then wp (t' ρ) PB h1 else PB false h1) h := by
  unfold mAnd
  rw [wp_bd]
  congr 1
  funext k h1
  rw [wp_ite]
  rfl
theorem wp_mOr (t t' : Env → M Bool) : wp (mOr t t' ρ) PB h = wp (t ρ) (fun k h1 => if k = true then PB true h1 else wp (t' ρ) PB h1) h := by
  unfold mOr
  rw [wp_bd]
  congr 1
  funext k h1
  rw [wp_ite]
  rfl
theorem wp_mAndV (a b : Env → M W) : wp (mAndV a b ρ) P h = wp (a ρ) (fun x h1 => wp (asB x) (fun k h2 => if k = true then wp (b ρ) P h2 else P (.d (.bl false)) h2) h1) h := by
  unfold mAndV
  rw [wp_bd]
  congr 1
  funext x h1
  rw [wp_bd]
  congr 1
  funext k h2
  rw [wp_ite]
  rfl
theorem wp_mOrV (a b : Env → M W) : wp (mOrV a b ρ) P h = wp (a ρ) (fun x h1 => wp (asB x) (fun k h2 => if k = true then P (.d (.bl true)) h2 else wp (b ρ) P h2) h1) h := by
  unfold mOrV
  rw [wp_bd]
  congr 1
  funext x h1
  rw [wp_bd]
  congr 1
  funext k h2
  rw [wp_ite]
  rfl
theorem wp_mNotV (a : Env → M W) : wp (mNotV a ρ) P h = wp (a ρ) (fun x h1 => wp (asB x) (fun k h2 => P (.d (.bl !k)) h2) h1) h := by
  unfold mNotV
  rw [wp_bd]
  congr 1
  funext x h1
  rw [wp_bd]
  rfl
theorem wp_mChain (op op' : W → W → M W) (a b c : Env → M W) : wp (mChain op op' a b c ρ) P h = wp (a ρ) (fun x h1 => wp (b ρ) (fun y h2 => wp (op x y) (fun z h3 => wp (asB z) (fun k h4 => if k = true then wp (c ρ) (fun u h5 => wp (op' y u) P h5) h4 else P (.d (.bl false)) h4) h3) h2) h1) h := by
  unfold mChain
  rw [wp_bd]
  congr 1
  funext x h1
  rw [wp_bd]
  congr 1
  funext y h2
  rw [wp_bd]
  congr 1
  funext z h3
  rw [wp_bd]
  congr 1
  funext k h4
  rw [wp_ite, wp_bd]
  rfl
/-! statements -/
theorem wp_mNext : wp (mNext ρ) PF h = PF (.nx ρ) h := rfl
theorem wp_mSeq (s1 s2 : Env → M Fl) : wp (mSeq s1 s2 ρ) PF h = wp (s1 ρ) (fun f h1 => match f with | .nx ρ' => wp (s2 ρ') PF h1 | f => PF f h1) h := by
  unfold mSeq
  rw [wp_bd]
  congr 1
  funext f h1
  cases f <;> rfl
theorem wp_mRet (m : Env → M W) : wp (mRet m ρ) PF h = wp (m ρ) (fun w h1 => PF (.rt w) h1) h := by
  unfold mRet
  rw [wp_bd]
  rfl
theorem wp_mSet (i : Nat) (m : Env → M W) : wp (mSet i m ρ) PF h = wp (m ρ) (fun w h1 => PF (.nx (ρ.set i (some w))) h1) h := by
  unfold mSet
  rw [wp_bd]
  rfl
theorem wp_mExpr (m : Env → M W) : wp (mExpr m ρ) PF h = wp (m ρ) (fun w h1 => PF (.nx ρ) h1) h := by
  unfold mExpr
  rw [wp_bd]
  rfl
theorem wp_mIfS (t : Env → M Bool) (s1 s2 : Env → M Fl) : wp (mIfS t s1 s2 ρ) PF h = wp (t ρ) (fun k h1 => if k = true then wp (s1 ρ) PF h1 else wp (s2 ρ) PF h1) h := by
  unfold mIfS
  rw [wp_bd]
  congr 1
  funext k h1
  rw [wp_ite]
theorem wp_mPar (i j : Nat) (n : Env → M (List W)) : wp (mPar i j n ρ) PF h = wp (n ρ) (fun ws h1 => ∃ v w, ws = [v, w] ∧ PF (.nx ((ρ.set i (some v)).set j (some w))) h1) h := by
  unfold mPar
  rw [wp_bd]
  congr 1
  funext ws h1
  apply propext
  constructor
  · intro z
    match ws, z with
    | [v, w], z => exact ⟨v, w, rfl, z⟩
    | [], z => exact z.elim
    | [_], z => exact z.elim
    | _ :: _ :: _ :: _, z => exact z.elim
  · rintro ⟨v, w, rfl, z⟩
    exact z
theorem wp_mPar3 (i j l : Nat) (n : Env → M (List W)) : wp (mPar3 i j l n ρ) PF h = wp (n ρ) (fun ws h1 => ∃ u v w, ws = [u, v, w] ∧ PF (.nx (((ρ.set i (some u)).set j (some v)).set l (some w))) h1) h := by
  unfold mPar3
  rw [wp_bd]
  congr 1
  funext ws h1
  apply propext
  constructor
  · intro z
    match ws, z with
    | [u, v, w], z => exact ⟨u, v, w, rfl, z⟩
    | [], z => exact z.elim
    | [_], z => exact z.elim
    | [_, _], z => exact z.elim
    | _ :: _ :: _ :: _ :: _, z => exact z.elim
  · rintro ⟨u, v, w, rfl, z⟩
    exact z
theorem wp_mFor (src : Env → M (List D)) (g : Tg) (b : Env → M Fl) : wp (mFor src g b ρ) PF h = wp (src ρ) (fun ds h1 => wp (mForL g b ds ρ) PF h1) h := by
  unfold mFor
  rw [wp_bd]
/-- a loop by its invariant: at each turn the state and the list that is left -/
theorem wp_loop {g : Tg} {b : Env → M Fl} (I : Nat → Env → List O → Prop) {ds : List D} (h0 : I 0 ρ h) (step : ∀ i d ρ h, ds[i]? = some d → I i ρ h → ∃ ρ1, mG g d ρ = some ρ1 ∧ wp (b ρ1) (fun f h' => match f with
      | .nx ρ2 => I (i + 1) ρ2 h'
      | .ct ρ2 => I (i + 1) ρ2 h'
      | .bk ρ2 => PF (.nx ρ2) h'
      | .rt w => PF (.rt w) h') h) (done : ∀ ρ h, I ds.length ρ h → PF (.nx ρ) h) : wp (mForL g b ds ρ) PF h := by
  have main : ∀ (n i : Nat) (ρ : Env) (h : List O), ds.length - i = n → i ≤ ds.length → I i ρ h → wp (mForL g b (ds.drop i) ρ) PF h := by
    intro n
    induction n with
    | zero =>
      intro i ρ h hn hi hI
      have : i = ds.length := by omega
      subst this
      rw [List.drop_length]
      exact done ρ h hI
    | succ n ih =>
      intro i ρ h hn hi hI
      have hlt : i < ds.length := by omega
      obtain ⟨ρ1, e, w⟩ := step i ds[i] ρ h (List.getElem?_eq_getElem hlt) hI
      rw [List.drop_eq_getElem_cons hlt]
      show wp (bd (oM (mG g ds[i] ρ)) fun ρ1 => bd (b ρ1) fun f => match f with
        | .nx ρ2 => mForL g b (ds.drop (i + 1)) ρ2
        | .ct ρ2 => mForL g b (ds.drop (i + 1)) ρ2
        | .bk ρ2 => pu (.nx ρ2)
        | .rt w => pu (.rt w)) PF h
      rw [wp_bd, e, wp_some, wp_bd]
      refine w.imp fun f h' q => ?_
      cases f with
      | nx ρ2 => exact ih (i + 1) ρ2 h' (by omega) (by omega) q
      | ct ρ2 => exact ih (i + 1) ρ2 h' (by omega) (by omega) q
      | bk ρ2 => exact q
      | rt w => exact q
  exact main ds.length 0 ρ h (by omega) (Nat.zero_le _) h0
theorem wp_mFn {n N : Nat} {b : Env → M Fl} {ws : List W} (hw : ws.length = n) : wp (mFn n N b ws) P h = wp (b (ws.map some ++ List.replicate (N - n) none)) (fun f h' => match f with
    | .nx _ => P (.d .non) h'
    | .rt w => P w h'
    | _ => False) h := by
  unfold mFn
  rw [if_pos hw, wp_bd]
  congr 1
  funext f h'
  cases f <;> rfl
/-- a statement, what follows kept apart -/
theorem seqK {s1 s2 : Env → M Fl} (H : ∀ K : Fl → List O → Prop, (∀ ρ' h', wp (s2 ρ') PF h' → K (.nx ρ') h') → (∀ w h', PF (.rt w) h' → K (.rt w) h') → (∀ ρ' h', PF (.ct ρ') h' → K (.ct ρ') h') → (∀ ρ' h', PF (.bk ρ') h' → K (.bk ρ') h') → wp (s1 ρ) K h) : wp (mSeq s1 s2 ρ) PF h := by
  rw [wp_mSeq]
  exact H _ (fun _ _ z => z) (fun _ _ z => z) (fun _ _ z => z) (fun _ _ z => z)
def FnP (P : W → List O → Prop) : Fl → List O → Prop := fun f h' => match f with
    | .nx _ => P (.d .non) h'
    | .rt w => P w h'
    | _ => False
theorem wp_mFn1 {N : Nat} {b : Env → M Fl} {x : W} : wp (mFn 1 N b [x]) P h = wp (b (some x :: List.replicate (N - 1) none)) (FnP P) h := wp_mFn rfl
theorem wp_mFn2 {N : Nat} {b : Env → M Fl} {x y : W} : wp (mFn 2 N b [x, y]) P h = wp (b (some x :: some y :: List.replicate (N - 2) none)) (FnP P) h := wp_mFn rfl
theorem wp_mFn3 {N : Nat} {b : Env → M Fl} {x y z : W} : wp (mFn 3 N b [x, y, z]) P h = wp (b (some x :: some y :: some z :: List.replicate (N - 3) none)) (FnP P) h := wp_mFn rfl
theorem wp_mFn4 {N : Nat} {b : Env → M Fl} {x y z u : W} : wp (mFn 4 N b [x, y, z, u]) P h = wp (b (some x :: some y :: some z :: some u :: List.replicate (N - 4) none)) (FnP P) h := wp_mFn rfl
theorem wp_mFn5 {N : Nat} {b : Env → M Fl} {x y z u v : W} : wp (mFn 5 N b [x, y, z, u, v]) P h = wp (b (some x :: some y :: some z :: some u :: some v :: List.replicate (N - 5) none)) (FnP P) h := wp_mFn rfl
/-! sources and comprehensions -/
theorem wp_mItems (m : Env → M W) : wp (mItems m ρ) PD h = wp (m ρ) (fun w h1 => ∃ l, itemsW w = some l ∧ PD l h1) h := by
  unfold mItems
  rw [wp_bd]
  congr 1
  funext w h1
  rw [wp_oM]
theorem wp_mRng1 (n : Env → M (List W)) : wp (mRng1 n ρ) PD h = wp (n ρ) (fun ws h1 => ∃ l, rng1 ws = some l ∧ PD l h1) h := by
  unfold mRng1
  rw [wp_bd]
  congr 1
  funext w h1
  rw [wp_oM]
theorem wp_mZip (n : Env → M (List W)) : wp (mZip n ρ) PD h = wp (n ρ) (fun ws h1 => ∃ l, zipW ws = some l ∧ PD l h1) h := by
  unfold mZip
  rw [wp_bd]
  congr 1
  funext w h1
  rw [wp_oM]
theorem wp_mSigns (m : Env → M W) : wp (mSigns m ρ) PD h = wp (m ρ) (fun w h1 => ∃ l, signsW w = some l ∧ PD l h1) h := by
  unfold mSigns
  rw [wp_bd]
  congr 1
  funext w h1
  rw [wp_oM]
theorem wp_mLc (src : Env → M (List D)) (vs : List Nat) (g : Tg) (t : Env → M Bool) (e : Env → M W) : wp (mLc src vs g t e ρ) P h = wp (src ρ) (fun ds h1 => wp (mLcL vs g t e ρ ds) (fun l h2 => P (.d (.lst l)) h2) h1) h := by
  unfold mLc
  rw [wp_bd]
  congr 1
  funext ds h1
  rw [wp_nox, wp_bd]
  rfl
theorem wp_mSortSc (src : Env → M (List D)) (vs : List Nat) (g : Tg) (t : Env → M Bool) (e : Env → M W) : wp (mSortSc src vs g t e ρ) P h = wp (src ρ) (fun ds h1 => if ds.length < 4000 then wp (mLcL vs g t (mInt e) ρ ds) (fun l h2 => ∃ d, sdD l = some d ∧ P (.d d) h2) h1 else False) h := by
  unfold mSortSc
  rw [wp_bd]
  congr 1
  funext ds h1
  rw [wp_ite]
  split
  · rw [wp_nox, wp_bd]
    congr 1
    funext l h2
    rw [wp_oM]
    apply propext
    constructor
    · rintro ⟨w, e, p⟩
      cases z : sdD l with
      | none => rw [z] at e; cases e
      | some d => rw [z] at e; cases e; exact ⟨d, rfl, p⟩
    · rintro ⟨d, e, p⟩
      rw [e]
      exact ⟨_, rfl, p⟩
  · rfl
/-- a comprehension whose parts are plain: filter and map -/
theorem wp_lc {vs : List Nat} {g : Tg} {t : Env → M Bool} {e : Env → M W} (k : D → Bool) (f : D → D) : ∀ {ds : List D} {PD : List D → List O → Prop}, (∀ d ∈ ds, ∃ ρ1, mG g d (wipeE ρ vs) = some ρ1 ∧ (∀ (PB : Bool → List O → Prop), PB (k d) h → wp (t ρ1) PB h) ∧ (k d = true → ∀ (P : W → List O → Prop), P (.d (f d)) h → wp (e ρ1) P h)) →
    PD ((ds.filter k).map f) h → wp (mLcL vs g t e ρ ds) PD h
  | [], _, _, p => p
  | d :: ds, PD, hd, p => by
    obtain ⟨ρ1, e1, e2, e3⟩ := hd d List.mem_cons_self
    show wp (bd (oM (mG g d (wipeE ρ vs))) fun ρ1 => bd (t ρ1) fun k => if k = true then bd (e ρ1) fun w => bd (asD w) fun x => bd (mLcL vs g t e ρ ds) fun r => pu (x :: r) else mLcL vs g t e ρ ds) PD h
    rw [wp_bd, e1, wp_some, wp_bd]
    refine e2 _ ?_
    cases hk : k d with
    | true =>
      rw [List.filter_cons_of_pos hk] at p
      show wp (bd (e ρ1) fun w => bd (asD w) fun x => bd (mLcL vs g t e ρ ds) fun r => pu (x :: r)) PD h
      rw [wp_bd]
      refine e3 hk _ ?_
      show wp (bd (pu (f d)) fun x => bd (mLcL vs g t e ρ ds) fun r => pu (x :: r)) PD h
      rw [bd_pu, wp_bd]
      exact wp_lc (PD := fun r h' => PD (f d :: r) h') k f (fun d' hd' => hd d' (List.mem_cons_of_mem _ hd')) p
    | false =>
      rw [List.filter_cons_of_neg (by rw [hk]; exact Bool.false_ne_true)] at p
      exact wp_lc k f (fun d' hd' => hd d' (List.mem_cons_of_mem _ hd')) p
/-- a comprehension with an invariant of the heap -/
theorem wp_lcI {vs : List Nat} {g : Tg} {t : Env → M Bool} {e : Env → M W} (I : Nat → List D → List O → Prop) {ds : List D} (h0 : I 0 [] h) (step : ∀ i d l h, ds[i]? = some d → I i l h → ∃ ρ1, mG g d (wipeE ρ vs) = some ρ1 ∧
      wp (t ρ1) (fun k h1 => if k = true then wp (e ρ1) (fun w h2 => ∃ x, w = .d x ∧ I (i + 1) (l ++ [x]) h2) h1 else I (i + 1) l h1) h) (done : ∀ l h, I ds.length l h → PD l h) : wp (mLcL vs g t e ρ ds) PD h := by
  have main : ∀ (n i : Nat) (l : List D) (h : List O), ds.length - i = n → i ≤ ds.length → I i l h → wp (mLcL vs g t e ρ (ds.drop i)) (fun r h' => PD (l ++ r) h') h := by
    intro n
    induction n with
    | zero =>
      intro i l h hn hi hI
      have : i = ds.length := by omega
      subst this
      rw [List.drop_length]
      show PD (l ++ []) h
      rw [List.append_nil]
      exact done l h hI
    | succ n ih =>
      intro i l h hn hi hI
      have hlt : i < ds.length := by omega
      obtain ⟨ρ1, e1, w⟩ := step i ds[i] l h (List.getElem?_eq_getElem hlt) hI
      rw [List.drop_eq_getElem_cons hlt]
      show wp (bd (oM (mG g ds[i] (wipeE ρ vs))) fun ρ1 => bd (t ρ1) fun k => if k = true then bd (e ρ1) fun w => bd (asD w) fun x => bd (mLcL vs g t e ρ (ds.drop (i + 1))) fun r => pu (x :: r) else mLcL vs g t e ρ (ds.drop (i + 1))) _ h
      rw [wp_bd, e1, wp_some, wp_bd]
      refine w.imp fun k h1 q => ?_
      cases k with
      | false => exact ih (i + 1) l h1 (by omega) (by omega) q
      | true =>
        show wp (bd (e ρ1) fun w => bd (asD w) fun x => bd (mLcL vs g t e ρ (ds.drop (i + 1))) fun r => pu (x :: r)) _ h1
        rw [wp_bd]
        refine wp.imp q fun w h2 ⟨x, ew, q2⟩ => ?_
        subst ew
        show wp (bd (pu x) fun x => bd (mLcL vs g t e ρ (ds.drop (i + 1))) fun r => pu (x :: r)) _ h2
        rw [bd_pu, wp_bd]
        refine (ih (i + 1) (l ++ [x]) h2 (by omega) (by omega) q2).imp fun r h3 q3 => ?_
        show PD (l ++ (x :: r)) h3
        rw [List.append_assoc] at q3
        exact q3
  exact main ds.length 0 [] h (by omega) (Nat.zero_le _) h0
/-! calls that lend -/
theorem wp_lend {k : Nat} {m : List W → M W} {ws : List W} (hk : k ≤ h.length) (c1 : (h.take k).all (clO k) = true) (c2 : ws.all (clW k) = true) (w : wp (m ws) (fun v h' => (h'.take k).all (clO k) = true ∧ ∃ v', backW k h' v = some v' ∧ P v' (h'.take k ++ h.drop k)) (h.take k)) : wp (lendC k m ws) P h := by
  unfold wp lendC at *
  rw [if_pos ⟨hk, c1, c2⟩]
  cases e : m ws (h.take k) with
  | ok v h' =>
    rw [e] at w
    obtain ⟨a, v', b, c⟩ := w
    simp only [a, if_true, b]
    exact c
  | ex x h' => rw [e] at w; exact w.elim
  | st => rw [e] at w; exact w.elim
/-- a call of data that gives data -/
theorem wp_lend0 {m : List W → M W} {l : List D} (w : wp (m (l.map .d)) (fun v h' => ∃ d, view h' v = some d ∧ P (.d d) h) []) : wp (lendC 0 m (l.map .d)) P h := by
  refine wp_lend (Nat.zero_le _) (by rw [List.take_zero]; rfl) (by simp [List.all_map, clW]) ?_
  rw [List.take_zero]
  refine w.imp fun v h' ⟨d, e, p⟩ => ⟨by rw [List.take_zero]; rfl, .d d, ?_, by rw [List.take_zero, List.drop_zero]; exact p⟩
  cases v with
  | d x => cases e; rfl
  | ref n =>
    show (if n < 0 then some (W.ref n) else (view h' (.ref n)).map .d) = _
    rw [if_neg (Nat.not_lt_zero n), e]
    rfl
end
end DD

set_option Elab.async false
set_option linter.all false
set_option maxRecDepth 100000
set_option maxHeartbeats 1000000
/-! DD20: plain data: ints, tuples and lists of them; what equals what; what may be compared and shown. -/
namespace DD
open PySem hiding Env
open L2
abbrev eT (l : List Int) : D := .tup (l.map .int)
abbrev eL (l : List Int) : D := .lst (l.map .int)
abbrev eTT (l : List (List Int)) : D := .tup (l.map eT)
abbrev eLT (l : List (List Int)) : D := .lst (l.map eT)
/-! ### comparable -/
structure OkN (k : Nat) (d : D) : Prop where
  pure : pureD d = true
  lay : (py d).canLay0 = true
  deep : (py d).depth ≤ k
section
theorem OkN.mono {j k : Nat} {d : D} (h : OkN j d) (hjk : j ≤ k) : OkN k d := ⟨h.pure, h.lay, Nat.le_trans h.deep hjk⟩
theorem OkN.ok {d : D} {k : Nat} (h : OkN k d) (hk : k ≤ 64 := by decide) : okD d = true := by
  unfold okD SeqAt.shaped
  rw [h.pure, h.lay, decide_eq_true (Nat.le_trans h.deep hk)]
  rfl
theorem okN_int (i : Int) : OkN 0 (.int i) := ⟨rfl, rfl, Nat.le_refl _⟩
theorem okN_bl (i : Bool) : OkN 0 (.bl i) := ⟨rfl, rfl, Nat.le_refl _⟩
theorem okN_non : OkN 0 .non := ⟨rfl, rfl, Nat.le_refl _⟩
theorem okN_all {k : Nat} : ∀ {l : List D}, (∀ d ∈ l, OkN k d) → pureL l = true ∧ PyData.canLayAll0 (pyL l) = true ∧ PyData.depthAll (pyL l) ≤ k
  | [], _ => ⟨rfl, rfl, Nat.zero_le _⟩
  | d :: l, h => by
    obtain ⟨a, b, c⟩ := okN_all fun x hx => h x (List.mem_cons_of_mem _ hx)
    have z := h d List.mem_cons_self
    refine ⟨?_, ?_, ?_⟩
    · show (pureD d && pureL l) = true
      rw [z.pure, a]; rfl
    · show ((py d).canLay0 && PyData.canLayAll0 (pyL l)) = true
      rw [z.lay, b]; rfl
    · show max (py d).depth (PyData.depthAll (pyL l)) ≤ k
      exact Nat.max_le.mpr ⟨z.deep, c⟩
theorem okN_tup {k : Nat} {l : List D} (h : ∀ d ∈ l, OkN k d) : OkN (k + 1) (.tup l) := by
  obtain ⟨a, b, c⟩ := okN_all h
  exact ⟨a, b, Nat.succ_le_succ c⟩
theorem okN_lst {k : Nat} {l : List D} (h : ∀ d ∈ l, OkN k d) : OkN (k + 1) (.lst l) := by
  obtain ⟨a, b, c⟩ := okN_all h
  exact ⟨a, b, Nat.succ_le_succ c⟩
theorem okN_map {α : Type} {k : Nat} {f : α → D} {l : List α} (h : ∀ x ∈ l, OkN k (f x)) : ∀ d ∈ l.map f, OkN k d := fun d hd => by
  obtain ⟨x, hx, rfl⟩ := List.mem_map.mp hd
  exact h x hx
theorem okN_eT (l : List Int) : OkN 1 (eT l) := okN_tup (okN_map fun _ _ => okN_int _)
theorem okN_eL (l : List Int) : OkN 1 (eL l) := okN_lst (okN_map fun _ _ => okN_int _)
theorem okN_eTT (l : List (List Int)) : OkN 2 (eTT l) := okN_tup (okN_map fun _ _ => okN_eT _)
theorem okN_eLT (l : List (List Int)) : OkN 2 (eLT l) := okN_lst (okN_map fun _ _ => okN_eT _)
end
/-! ### equal -/
/-- f tells things apart by == -/
def Tells {α : Type} [DecidableEq α] (f : α → D) : Prop := ∀ x y, PyData.eqv (py (f x)) (py (f y)) = decide (x = y)
section
variable {α : Type} [DecidableEq α] {f : α → D}
theorem tells_int : Tells D.int := fun x y => by
  show (x == y) = _
  by_cases h : x = y
  · subst h; simp
  · simp [h]
theorem tells_all (t : Tells f) : ∀ a b : List α, PyData.eqvAll (pyL (a.map f)) (pyL (b.map f)) = decide (a = b)
  | [], [] => rfl
  | [], _ :: _ => rfl
  | _ :: _, [] => rfl
  | x :: a, y :: b => by
    show (PyData.eqv (py (f x)) (py (f y)) && PyData.eqvAll (pyL (a.map f)) (pyL (b.map f))) = _
    rw [t x y, tells_all t a b]
    by_cases h1 : x = y <;> by_cases h2 : a = b <;> simp [h1, h2]
theorem tells_tup (t : Tells f) : Tells fun l : List α => .tup (l.map f) := fun a b => tells_all t a b
theorem tells_lst (t : Tells f) : Tells fun l : List α => .lst (l.map f) := fun a b => tells_all t a b
theorem tells_eT : Tells eT := tells_tup tells_int
theorem tells_eTT : Tells eTT := tells_tup tells_eT
theorem tells_eL : Tells eL := tells_lst tells_int
theorem tells_eLT : Tells eLT := tells_lst tells_eT
theorem Tells.eq (t : Tells f) (x y : α) : eqD (f x) (f y) = decide (x = y) := t x y
theorem inD_tells (t : Tells f) (x : α) : ∀ l : List α, inD (f x) (l.map f) = decide (x ∈ l)
  | [] => rfl
  | y :: l => by
    show (PyData.eqv (py (f y)) (py (f x)) || inD (f x) (l.map f)) = _
    rw [t y x, inD_tells t x l]
    by_cases h1 : x = y
    · subst h1; simp
    · by_cases h2 : x ∈ l <;> simp [h1, h2, Ne.symm h1]
end
theorem eqD_nil_lst (l : List D) : eqD (.lst l) (.lst []) = l.isEmpty := by cases l <;> rfl
theorem eqD_nil_tup (l : List D) : eqD (.tup l) (.tup []) = l.isEmpty := by cases l <;> rfl
theorem eqD_refl {d : D} {k : Nat} (h : OkN k d) : eqD d d = true := SeqAt.eqv_refl _ h.lay
section
variable {P : W → List O → Prop} {h : List O} {a b : D}
theorem w_eq {j k : Nat} (ha : OkN j a) (hb : OkN k b) (hj : j ≤ 64 := by decide) (hk : k ≤ 64 := by decide) : wp (opEq false (.d a) (.d b)) P h = P (.d (.bl (eqD a b))) h := by
  show wp (oM (Option.map W.d (if okD a && okD b then some (.bl (eqD a b)) else none))) P h = _
  rw [ha.ok hj, hb.ok hk]
  rfl
theorem w_ne {j k : Nat} (ha : OkN j a) (hb : OkN k b) (hj : j ≤ 64 := by decide) (hk : k ≤ 64 := by decide) : wp (opEq true (.d a) (.d b)) P h = P (.d (.bl (!eqD a b))) h := by
  show wp (oM (Option.map W.d (if okD a && okD b then some (.bl (!eqD a b)) else none))) P h = _
  rw [ha.ok hj, hb.ok hk]
  rfl
theorem w_in {l : List D} {j k : Nat} (e : items b = some l) (ha : OkN j a) (hb : OkN k b) (hj : j ≤ 64 := by decide) (hk : k ≤ 64 := by decide) : wp (opIn false (.d a) (.d b)) P h = P (.d (.bl (inD a l))) h := by
  show wp (oM (Option.map W.d (match items b with | some l => if okD a && okD b then some (.bl (inD a l)) else none | none => none))) P h = _
  rw [e]
  show wp (oM (Option.map W.d (if okD a && okD b then some (.bl (inD a l)) else none))) P h = _
  rw [ha.ok hj, hb.ok hk]
  rfl
theorem w_nin {l : List D} {j k : Nat} (e : items b = some l) (ha : OkN j a) (hb : OkN k b) (hj : j ≤ 64 := by decide) (hk : k ≤ 64 := by decide) : wp (opIn true (.d a) (.d b)) P h = P (.d (.bl (!inD a l))) h := by
  show wp (oM (Option.map W.d (match items b with | some l => if okD a && okD b then some (.bl (!inD a l)) else none | none => none))) P h = _
  rw [e]
  show wp (oM (Option.map W.d (if okD a && okD b then some (.bl (!inD a l)) else none))) P h = _
  rw [ha.ok hj, hb.ok hk]
  rfl
end
/-! ### shown -/
structure ShN (k w : Nat) (d : D) : Prop where
  pure : pureD d = true
  sh : (py d).showable = true
  deep : (py d).depth ≤ k
  short : (py d).leavesShort 50 = true
  light : (py d).weight ≤ w
  nod : (py d).hasDict = false
theorem ShN.mono {j k v w : Nat} {d : D} (h : ShN j v d) (hk : j ≤ k) (hw : v ≤ w) : ShN k w d := ⟨h.pure, h.sh, Nat.le_trans h.deep hk, h.short, Nat.le_trans h.light hw, h.nod⟩
theorem ShN.ok {k w : Nat} {d : D} (h : ShN k w d) (hk : k ≤ 64 := by decide) (hw : w ≤ 300000 := by decide) : shD d = true := by
  unfold shD
  rw [h.pure, h.sh, h.short, h.nod, decide_eq_true (Nat.le_trans h.deep hk), decide_eq_true (Nat.le_trans h.light hw)]
  rfl
theorem shN_int {i : Int} (hi : -(10 ^ 30) < i ∧ i < 10 ^ 30) : ShN 0 101 (.int i) := by
  have hn : i.natAbs < 10 ^ 30 := by omega
  have h2 : i.natAbs < 2 ^ 100 := Nat.lt_of_lt_of_le hn (by decide)
  have hl : i.natAbs.log2 < 101 := by
    by_cases h0 : i.natAbs = 0
    · rw [h0]; decide
    · exact Nat.lt_succ_of_lt ((Nat.log2_lt h0).mpr h2)
  have hl2 : i.natAbs.log2 ≤ 99 := by
    by_cases h0 : i.natAbs = 0
    · rw [h0]; decide
    · have := (Nat.log2_lt h0).mpr h2; omega
  refine ⟨rfl, decide_eq_true (by omega), Nat.le_refl _, decide_eq_true ?_, ?_, rfl⟩
  · have := int_text_length_le10 (a := i) (k := 30) (by decide) hn
    show (Str.ofString (toString i)).length ≤ 50
    rw [ofString_length]
    omega
  · show (if i == 0 then 0 else i.natAbs.log2 + 1) ≤ 101
    split <;> omega
theorem shN_all {k w : Nat} : ∀ {l : List D}, (∀ d ∈ l, ShN k w d) → pureL l = true ∧ PyData.showableAll (pyL l) = true ∧ PyData.depthAll (pyL l) ≤ k ∧ PyData.leavesShortAll 50 (pyL l) = true ∧ PyData.weightAll (pyL l) ≤ (w + 1) * l.length ∧ PyData.hasDictAll (pyL l) = false
  | [], _ => ⟨rfl, rfl, Nat.zero_le _, rfl, Nat.zero_le _, rfl⟩
  | d :: l, h => by
    obtain ⟨a, b, c, e, f, g⟩ := shN_all fun x hx => h x (List.mem_cons_of_mem _ hx)
    have z := h d List.mem_cons_self
    refine ⟨?_, ?_, ?_, ?_, ?_, ?_⟩
    · show (pureD d && pureL l) = true
      rw [z.pure, a]; rfl
    · show ((py d).showable && PyData.showableAll (pyL l)) = true
      rw [z.sh, b]; rfl
    · show max (py d).depth (PyData.depthAll (pyL l)) ≤ k
      exact Nat.max_le.mpr ⟨z.deep, c⟩
    · show ((py d).leavesShort 50 && PyData.leavesShortAll 50 (pyL l)) = true
      rw [z.short, e]; rfl
    · show (py d).weight + 1 + PyData.weightAll (pyL l) ≤ _
      have := z.light
      rw [List.length_cons, Nat.mul_succ]
      omega
    · show ((py d).hasDict || PyData.hasDictAll (pyL l)) = false
      rw [z.nod, g]; rfl
theorem shN_tup {k w n : Nat} {l : List D} (h : ∀ d ∈ l, ShN k w d) (hn : l.length ≤ n) : ShN (k + 1) ((w + 1) * n) (.tup l) := by
  obtain ⟨a, b, c, e, f, g⟩ := shN_all h
  exact ⟨a, b, Nat.succ_le_succ c, e, Nat.le_trans f (Nat.mul_le_mul_left _ hn), g⟩
theorem shN_lst {k w n : Nat} {l : List D} (h : ∀ d ∈ l, ShN k w d) (hn : l.length ≤ n) : ShN (k + 1) ((w + 1) * n) (.lst l) := by
  obtain ⟨a, b, c, e, f, g⟩ := shN_all h
  exact ⟨a, b, Nat.succ_le_succ c, e, Nat.le_trans f (Nat.mul_le_mul_left _ hn), g⟩
theorem shN_map {α : Type} {k w : Nat} {f : α → D} {l : List α} (h : ∀ x ∈ l, ShN k w (f x)) : ∀ d ∈ l.map f, ShN k w d := fun d hd => by
  obtain ⟨x, hx, rfl⟩ := List.mem_map.mp hd
  exact h x hx
theorem w_repr {P : W → List O → Prop} {h : List O} {d : D} (hs : isSeqD d = true) (hd : shD d = true) : wp (bRepr [.d d]) P h = P (.d (.str (py d).shown)) h := by
  show wp (oM (Option.map W.d (if (isSeqD d && shD d) = true then some (.str (py d).shown) else none))) P h = _
  rw [hs, hd]
  rfl
end DD

set_option Elab.async false
set_option linter.all false
set_option maxRecDepth 100000
set_option maxHeartbeats 1000000
/-! DD21: steps of a mirror with named ways on, for one simp call. -/
namespace DD
open PySem hiding Env
open L2
section
variable {α : Type} {P : W → List O → Prop} {PB : Bool → List O → Prop} {PF : Fl → List O → Prop} {PL : List W → List O → Prop} {PD : List D → List O → Prop} {PO : Option Int → List O → Prop} {h : List O} {ρ ρ' : Env}
  {a b c m : Env → M W} {n n' : Env → M (List W)} {s1 s2 : Env → M Fl} {t t' : Env → M Bool} {w v : W} {ws : List W} {d x y : D} {l : List D} {k : Bool} {i j : Nat}
/-! statements -/
def seqF (s2 : Env → M Fl) (PF : Fl → List O → Prop) : Fl → List O → Prop := fun f h1 => match f with
  | .nx ρ' => wp (s2 ρ') PF h1
  | f => PF f h1
theorem v_seq : wp (mSeq s1 s2 ρ) PF h = wp (s1 ρ) (seqF s2 PF) h := wp_mSeq ..
theorem v_seq_nx : seqF s2 PF (.nx ρ) h = wp (s2 ρ) PF h := rfl
theorem v_seq_rt : seqF s2 PF (.rt w) h = PF (.rt w) h := rfl
theorem v_seq_bk : seqF s2 PF (.bk ρ) h = PF (.bk ρ) h := rfl
theorem v_seq_ct : seqF s2 PF (.ct ρ) h = PF (.ct ρ) h := rfl
def ifF {α : Type} (m1 m2 : M α) (P : α → List O → Prop) : Bool → List O → Prop := fun k h1 => if k = true then wp m1 P h1 else wp m2 P h1
theorem v_ifS : wp (mIfS t s1 s2 ρ) PF h = wp (t ρ) (ifF (s1 ρ) (s2 ρ) PF) h := wp_mIfS ..
theorem v_ifE : wp (mIf t a b ρ) P h = wp (t ρ) (ifF (a ρ) (b ρ) P) h := wp_mIf ..
theorem v_ift {m1 m2 : M α} {P : α → List O → Prop} : ifF m1 m2 P true h = wp m1 P h := rfl
theorem v_iff {m1 m2 : M α} {P : α → List O → Prop} : ifF m1 m2 P false h = wp m2 P h := rfl
theorem if_by {m1 m2 : M α} {P : α → List O → Prop} {k : Bool} (h1 : k = true → wp m1 P h) (h2 : k = false → wp m2 P h) : ifF m1 m2 P k h := by
  cases k with
  | true => exact h1 rfl
  | false => exact h2 rfl
def setF (i : Nat) (ρ : Env) (PF : Fl → List O → Prop) : W → List O → Prop := fun w h1 => PF (.nx (ρ.set i (some w))) h1
theorem v_set : wp (mSet i m ρ) PF h = wp (m ρ) (setF i ρ PF) h := wp_mSet ..
theorem v_setF : setF i ρ PF w h = PF (.nx (ρ.set i (some w))) h := rfl
def retF (PF : Fl → List O → Prop) : W → List O → Prop := fun w h1 => PF (.rt w) h1
theorem v_ret : wp (mRet m ρ) PF h = wp (m ρ) (retF PF) h := wp_mRet ..
theorem v_retF : retF PF w h = PF (.rt w) h := rfl
theorem v_retN : wp (mRetN ρ) PF h = PF (.rt (.d .non)) h := rfl
def exprF (ρ : Env) (PF : Fl → List O → Prop) : W → List O → Prop := fun _ h1 => PF (.nx ρ) h1
theorem v_expr : wp (mExpr m ρ) PF h = wp (m ρ) (exprF ρ PF) h := wp_mExpr ..
theorem v_exprF : exprF ρ PF w h = PF (.nx ρ) h := rfl
theorem v_next : wp (mNext ρ) PF h = PF (.nx ρ) h := rfl
theorem v_brk : wp (mBreak ρ) PF h = PF (.bk ρ) h := rfl
theorem v_cont : wp (mCont ρ) PF h = PF (.ct ρ) h := rfl
theorem v_fnp_rt : FnP P (.rt w) h = P w h := rfl
theorem v_fnp_nx : FnP P (.nx ρ) h = P (.d .non) h := rfl
def parF (i j : Nat) (ρ : Env) (PF : Fl → List O → Prop) : List W → List O → Prop := fun ws h1 => ∃ v w, ws = [v, w] ∧ PF (.nx ((ρ.set i (some v)).set j (some w))) h1
theorem v_par : wp (mPar i j n ρ) PF h = wp (n ρ) (parF i j ρ PF) h := wp_mPar ..
theorem v_parF : parF i j ρ PF [v, w] h = PF (.nx ((ρ.set i (some v)).set j (some w))) h := propext ⟨fun ⟨_, _, e, p⟩ => by cases e; exact p, fun p => ⟨_, _, rfl, p⟩⟩
def par3F (i j l : Nat) (ρ : Env) (PF : Fl → List O → Prop) : List W → List O → Prop := fun ws h1 => ∃ u v w, ws = [u, v, w] ∧ PF (.nx (((ρ.set i (some u)).set j (some v)).set l (some w))) h1
theorem v_par3 {l : Nat} : wp (mPar3 i j l n ρ) PF h = wp (n ρ) (par3F i j l ρ PF) h := wp_mPar3 ..
theorem v_par3F {l : Nat} {u : W} : par3F i j l ρ PF [u, v, w] h = PF (.nx (((ρ.set i (some u)).set j (some v)).set l (some w))) h := propext ⟨fun ⟨_, _, _, e, p⟩ => by cases e; exact p, fun p => ⟨_, _, _, rfl, p⟩⟩
def asgF (g : Tg) (ρ : Env) (PF : Fl → List O → Prop) : W → List O → Prop := fun w h1 => ∃ d ρ', w = .d d ∧ mG g d ρ = some ρ' ∧ PF (.nx ρ') h1
theorem v_asg {g : Tg} : wp (mAsg g m ρ) PF h = wp (m ρ) (asgF g ρ PF) h := by
  unfold mAsg
  rw [wp_bd]
  congr 1
  funext w h1
  rw [wp_bd]
  cases w with
  | ref k => exact propext ⟨fun z => z.elim, fun ⟨_, _, e, _⟩ => nomatch e⟩
  | d d =>
    show wp (pu d) _ h1 = _
    rw [wp_pu, wp_bd, wp_oM]
    exact propext ⟨fun ⟨ρ', e, p⟩ => ⟨d, ρ', rfl, e, p⟩, fun ⟨_, ρ', e, e2, p⟩ => by cases e; exact ⟨ρ', e2, p⟩⟩
theorem v_asgF2 : asgF (.tp [.nm i, .nm j]) ρ PF (.d (.tup [x, y])) h = PF (.nx ((ρ.set i (some (.d x))).set j (some (.d y)))) h := propext ⟨fun ⟨_, _, e, e2, p⟩ => by cases e; cases e2; exact p, fun p => ⟨_, _, rfl, rfl, p⟩⟩
def forF (g : Tg) (b : Env → M Fl) (ρ : Env) (PF : Fl → List O → Prop) : List D → List O → Prop := fun ds h1 => wp (mForL g b ds ρ) PF h1
theorem v_for {src : Env → M (List D)} {g : Tg} {b : Env → M Fl} : wp (mFor src g b ρ) PF h = wp (src ρ) (forF g b ρ PF) h := wp_mFor ..
theorem v_forF {g : Tg} {b : Env → M Fl} : forF g b ρ PF l h = wp (mForL g b l ρ) PF h := rfl
/-! expressions -/
def op2F (op : W → W → M W) (mb : M W) (P : W → List O → Prop) : W → List O → Prop := fun x h1 => wp mb (fun y h2 => wp (op x y) P h2) h1
def op2G (op : W → W → M W) (x : W) (P : W → List O → Prop) : W → List O → Prop := fun y h2 => wp (op x y) P h2
theorem v_op2 {op : W → W → M W} : wp (m2op op a b ρ) P h = wp (a ρ) (op2F op (b ρ) P) h := wp_m2op ..
theorem v_op2F {op : W → W → M W} {mb : M W} : op2F op mb P w h = wp mb (op2G op w P) h := rfl
theorem v_op2G {op : W → W → M W} : op2G op v P w h = wp (op v w) P h := rfl
def op1F (op : W → M W) (P : W → List O → Prop) : W → List O → Prop := fun x h1 => wp (op x) P h1
theorem v_op1 {op : W → M W} : wp (m1op op a ρ) P h = wp (a ρ) (op1F op P) h := wp_m1op ..
theorem v_op1F {op : W → M W} : op1F op P w h = wp (op w) P h := rfl
def callF (f : List W → M W) (P : W → List O → Prop) : List W → List O → Prop := fun ws h1 => wp (f ws) P h1
theorem v_call {f : List W → M W} : wp (mCall f n ρ) P h = wp (n ρ) (callF f P) h := wp_mCall ..
theorem v_callF {f : List W → M W} : callF f P ws h = wp (f ws) P h := rfl
theorem v_lend {q : Nat} {f : List W → M W} : wp (mLend q f n ρ) P h = wp (n ρ) (callF (lendC q f) P) h := wp_mLend ..
def kcF (k j l : Nat) (gW : List W → List W → List W) (f : List W → M W) (nk : M (List W)) (P : W → List O → Prop) : List W → List O → Prop := fun ws h1 => wp nk (fun zs h2 => if ws.length = j ∧ zs.length = l then wp (lendC k f (gW ws zs)) P h2 else False) h1
def kcG (k j l : Nat) (gW : List W → List W → List W) (f : List W → M W) (ws : List W) (P : W → List O → Prop) : List W → List O → Prop := fun zs h2 => if ws.length = j ∧ zs.length = l then wp (lendC k f (gW ws zs)) P h2 else False
theorem v_callK {k j l : Nat} {gW : List W → List W → List W} {f : List W → M W} : wp (mCallK k j l gW f n n' ρ) P h = wp (n ρ) (kcF k j l gW f (n' ρ) P) h := by
  unfold mCallK kcF
  rw [wp_bd]
  congr 1
  funext ws h1
  rw [wp_bd]
  congr 1
  funext zs h2
  rw [wp_ite]
  rfl
theorem v_kcF {k j l : Nat} {gW : List W → List W → List W} {f : List W → M W} {nk : M (List W)} : kcF k j l gW f nk P ws h = wp nk (kcG k j l gW f ws P) h := rfl
theorem v_kcG {k j l : Nat} {gW : List W → List W → List W} {f : List W → M W} {zs : List W} (hj : ws.length = j := by rfl) (hl : zs.length = l := by rfl) : kcG k j l gW f ws P zs h = wp (lendC k f (gW ws zs)) P h := if_pos ⟨hj, hl⟩
def consF (mr : M (List W)) (PL : List W → List O → Prop) : W → List O → Prop := fun x h1 => wp mr (fun r h2 => PL (x :: r) h2) h1
def consG (x : W) (PL : List W → List O → Prop) : List W → List O → Prop := fun r h2 => PL (x :: r) h2
theorem v_cons : wp (mCons m n ρ) PL h = wp (m ρ) (consF (n ρ) PL) h := wp_mCons ..
theorem v_consF {mr : M (List W)} : consF mr PL w h = wp mr (consG w PL) h := rfl
theorem v_consG : consG w PL ws h = PL (w :: ws) h := rfl
theorem v_nil : wp (mNil ρ) PL h = PL [] h := rfl
theorem v_var : wp (mV i ρ) P h = wp (oM (ρ[i]?).join) P h := rfl
theorem v_cst : wp (mC d ρ) P h = P (.d d) h := rfl
/-! tests -/
def asBF (PB : Bool → List O → Prop) : W → List O → Prop := fun x h1 => wp (asB x) PB h1
theorem v_tst : wp (mT m ρ) PB h = wp (m ρ) (asBF PB) h := wp_mT ..
theorem v_asBF : asBF PB (.d (.bl k)) h = PB k h := rfl
def notF (PB : Bool → List O → Prop) : Bool → List O → Prop := fun k h1 => PB (!k) h1
theorem v_not : wp (mNot t ρ) PB h = wp (t ρ) (notF PB) h := wp_mNot ..
theorem v_notF : notF PB k h = PB (!k) h := rfl
def andF (m : M Bool) (PB : Bool → List O → Prop) : Bool → List O → Prop := fun k h1 => if k = true then wp m PB h1 else PB false h1
theorem v_and : wp (mAnd t t' ρ) PB h = wp (t ρ) (andF (t' ρ) PB) h := wp_mAnd ..
theorem v_andt {m : M Bool} : andF m PB true h = wp m PB h := rfl
theorem v_andf {m : M Bool} : andF m PB false h = PB false h := rfl
def orF (m : M Bool) (PB : Bool → List O → Prop) : Bool → List O → Prop := fun k h1 => if k = true then PB true h1 else wp m PB h1
theorem v_or : wp (mOr t t' ρ) PB h = wp (t ρ) (orF (t' ρ) PB) h := wp_mOr ..
theorem v_ort {m : M Bool} : orF m PB true h = PB true h := rfl
theorem v_orf {m : M Bool} : orF m PB false h = wp m PB h := rfl
def andVF (m : M W) (P : W → List O → Prop) : W → List O → Prop := fun x h1 => wp (asB x) (fun k h2 => if k = true then wp m P h2 else P (.d (.bl false)) h2) h1
theorem v_andV : wp (mAndV a b ρ) P h = wp (a ρ) (andVF (b ρ) P) h := wp_mAndV ..
theorem v_andVt {m : M W} : andVF m P (.d (.bl true)) h = wp m P h := rfl
theorem v_andVf {m : M W} : andVF m P (.d (.bl false)) h = P (.d (.bl false)) h := rfl
def orVF (m : M W) (P : W → List O → Prop) : W → List O → Prop := fun x h1 => wp (asB x) (fun k h2 => if k = true then P (.d (.bl true)) h2 else wp m P h2) h1
theorem v_orV : wp (mOrV a b ρ) P h = wp (a ρ) (orVF (b ρ) P) h := wp_mOrV ..
theorem v_orVt {m : M W} : orVF m P (.d (.bl true)) h = P (.d (.bl true)) h := rfl
theorem v_orVf {m : M W} : orVF m P (.d (.bl false)) h = wp m P h := rfl
def notVF (P : W → List O → Prop) : W → List O → Prop := fun x h1 => wp (asB x) (fun k h2 => P (.d (.bl !k)) h2) h1
theorem v_notV : wp (mNotV a ρ) P h = wp (a ρ) (notVF P) h := wp_mNotV ..
theorem v_notVF : notVF P (.d (.bl k)) h = P (.d (.bl !k)) h := rfl
def ch1 (op op' : W → W → M W) (mb mc : M W) (P : W → List O → Prop) : W → List O → Prop := fun x h1 => wp mb (fun y h2 => wp (op x y) (fun z h3 => wp (asB z) (fun k h4 => if k = true then wp mc (fun u h5 => wp (op' y u) P h5) h4 else P (.d (.bl false)) h4) h3) h2) h1
def ch2 (op op' : W → W → M W) (x : W) (mc : M W) (P : W → List O → Prop) : W → List O → Prop := fun y h2 => wp (op x y) (fun z h3 => wp (asB z) (fun k h4 => if k = true then wp mc (fun u h5 => wp (op' y u) P h5) h4 else P (.d (.bl false)) h4) h3) h2
def ch3 (op' : W → W → M W) (y : W) (mc : M W) (P : W → List O → Prop) : W → List O → Prop := fun z h3 => wp (asB z) (fun k h4 => if k = true then wp mc (op2G op' y P) h4 else P (.d (.bl false)) h4) h3
theorem v_chain {op op' : W → W → M W} : wp (mChain op op' a b c ρ) P h = wp (a ρ) (ch1 op op' (b ρ) (c ρ) P) h := wp_mChain ..
theorem v_ch1 {op op' : W → W → M W} {mb mc : M W} : ch1 op op' mb mc P w h = wp mb (ch2 op op' w mc P) h := rfl
theorem v_ch2 {op op' : W → W → M W} {mc : M W} : ch2 op op' v mc P w h = wp (op v w) (ch3 op' w mc P) h := rfl
theorem v_ch3t {op' : W → W → M W} {mc : M W} : ch3 op' w mc P (.d (.bl true)) h = wp mc (op2G op' w P) h := rfl
theorem v_ch3f {op' : W → W → M W} {mc : M W} : ch3 op' w mc P (.d (.bl false)) h = P (.d (.bl false)) h := rfl
theorem v_yes : wp (mYes ρ) PB h = PB true h := rfl
/-! displays -/
theorem v_tup : wp (mTup n ρ) P h = wp (n ρ) (callF mkTup P) h := wp_mTup ..
theorem v_lst : wp (mLst n ρ) P h = wp (n ρ) (callF mkLst P) h := wp_mLst ..
theorem e_tup0 : mkTup [] = pu (.d (.tup [])) := rfl
theorem e_tup1 : mkTup [.d x] = pu (.d (.tup [x])) := rfl
theorem e_tup2 : mkTup [.d x, .d y] = pu (.d (.tup [x, y])) := rfl
theorem e_tup3 {z : D} : mkTup [.d x, .d y, .d z] = pu (.d (.tup [x, y, z])) := rfl
theorem e_tup4 {z u : D} : mkTup [.d x, .d y, .d z, .d u] = pu (.d (.tup [x, y, z, u])) := rfl
theorem e_lst0 : mkLst [] = pu (.d (.lst [])) := rfl
theorem e_lst1 : mkLst [.d x] = pu (.d (.lst [x])) := rfl
theorem e_lst2 : mkLst [.d x, .d y] = pu (.d (.lst [x, y])) := rfl
theorem e_lst3 {z : D} : mkLst [.d x, .d y, .d z] = pu (.d (.lst [x, y, z])) := rfl
theorem e_lst4 {z u : D} : mkLst [.d x, .d y, .d z, .d u] = pu (.d (.lst [x, y, z, u])) := rfl
/-! sources, comprehensions -/
def itemsF (PD : List D → List O → Prop) : W → List O → Prop := fun w h1 => ∃ l, itemsW w = some l ∧ PD l h1
theorem v_items : wp (mItems m ρ) PD h = wp (m ρ) (itemsF PD) h := wp_mItems ..
theorem v_itemsT : itemsF PD (.d (.tup l)) h = PD l h := propext ⟨fun ⟨_, e, p⟩ => by cases e; exact p, fun p => ⟨_, rfl, p⟩⟩
theorem v_itemsL : itemsF PD (.d (.lst l)) h = PD l h := propext ⟨fun ⟨_, e, p⟩ => by cases e; exact p, fun p => ⟨_, rfl, p⟩⟩
theorem v_itemsZ : itemsF PD (.d (.frz l)) h = PD l h := propext ⟨fun ⟨_, e, p⟩ => by cases e; exact p, fun p => ⟨_, rfl, p⟩⟩
def rngF (PD : List D → List O → Prop) : List W → List O → Prop := fun ws h1 => ∃ l, rng1 ws = some l ∧ PD l h1
theorem v_rng : wp (mRng1 n ρ) PD h = wp (n ρ) (rngF PD) h := wp_mRng1 ..
theorem v_rngF {k : Nat} (hk : k ≤ 100000) : rngF PD [.d (.int k)] h = PD (rangeD 0 k) h := by
  have e : rng1 [.d (.int k)] = some (rangeD 0 k) := by
    show (if -100000 ≤ (k : Int) ∧ (k : Int) ≤ 100000 then some (rangeD 0 (k : Int).toNat) else none) = _
    rw [if_pos (by omega)]
    rfl
  exact propext ⟨fun ⟨_, e2, p⟩ => by rw [e] at e2; cases e2; exact p, fun p => ⟨_, e, p⟩⟩
def zipF (PD : List D → List O → Prop) : List W → List O → Prop := fun ws h1 => ∃ l, zipW ws = some l ∧ PD l h1
theorem v_zip : wp (mZip n ρ) PD h = wp (n ρ) (zipF PD) h := wp_mZip ..
def lcF (vs : List Nat) (g : Tg) (t : Env → M Bool) (e : Env → M W) (ρ : Env) (P : W → List O → Prop) : List D → List O → Prop := fun ds h1 => wp (mLcL vs g t e ρ ds) (fun l h2 => P (.d (.lst l)) h2) h1
def lstF (P : W → List O → Prop) : List D → List O → Prop := fun l h2 => P (.d (.lst l)) h2
theorem v_lc {src : Env → M (List D)} {vs : List Nat} {g : Tg} {t : Env → M Bool} {e : Env → M W} : wp (mLc src vs g t e ρ) P h = wp (src ρ) (lcF vs g t e ρ P) h := wp_mLc ..
theorem v_lcF {vs : List Nat} {g : Tg} {t : Env → M Bool} {e : Env → M W} : lcF vs g t e ρ P l h = wp (mLcL vs g t e ρ l) (lstF P) h := rfl
theorem v_lstF : lstF P l h = P (.d (.lst l)) h := rfl
/-- a comprehension over the images of plain things -/
theorem lc_map {β : Type} (en : β → D) (k : β → Bool) (f : β → D) {xs : List β} {vs : List Nat} {g : Tg} {t : Env → M Bool} {e : Env → M W} (H : ∀ x ∈ xs, ∃ ρ1, mG g (en x) (wipeE ρ vs) = some ρ1 ∧ (∀ PB : Bool → List O → Prop, PB (k x) h → wp (t ρ1) PB h) ∧ (k x = true → ∀ P : W → List O → Prop, P (.d (f x)) h → wp (e ρ1) P h))
    (p : PD ((xs.filter k).map f) h) : wp (mLcL vs g t e ρ (xs.map en)) PD h := by
  induction xs generalizing PD with
  | nil => exact p
  | cons x xs ih =>
    obtain ⟨ρ1, e1, e2, e3⟩ := H x List.mem_cons_self
    show wp (bd (oM (mG g (en x) (wipeE ρ vs))) fun ρ1 => bd (t ρ1) fun k => if k = true then bd (e ρ1) fun w => bd (asD w) fun x => bd (mLcL vs g t e ρ (xs.map en)) fun r => pu (x :: r) else mLcL vs g t e ρ (xs.map en)) PD h
    rw [wp_bd, e1, wp_some, wp_bd]
    refine e2 _ ?_
    cases hk : k x with
    | true =>
      rw [List.filter_cons_of_pos hk] at p
      show wp (bd (e ρ1) fun w => bd (asD w) fun x => bd (mLcL vs g t e ρ (xs.map en)) fun r => pu (x :: r)) PD h
      rw [wp_bd]
      refine e3 hk _ ?_
      show wp (bd (pu (f x)) fun x => bd (mLcL vs g t e ρ (xs.map en)) fun r => pu (x :: r)) PD h
      rw [bd_pu, wp_bd]
      exact ih (PD := fun r h' => PD (f x :: r) h') (fun d' hd' => H d' (List.mem_cons_of_mem _ hd')) p
    | false =>
      rw [List.filter_cons_of_neg (by rw [hk]; exact Bool.false_ne_true)] at p
      exact ih (fun d' hd' => H d' (List.mem_cons_of_mem _ hd')) p
theorem lc_map1 {β : Type} (en : β → D) (f : β → D) {xs : List β} {vs : List Nat} {g : Tg} {e : Env → M W} (H : ∀ x ∈ xs, ∃ ρ1, mG g (en x) (wipeE ρ vs) = some ρ1 ∧ ∀ P : W → List O → Prop, P (.d (f x)) h → wp (e ρ1) P h)
    (p : PD (xs.map f) h) : wp (mLcL vs g mYes e ρ (xs.map en)) PD h :=
  lc_map en (fun _ => true) f (fun x hx => let ⟨ρ1, e1, e2⟩ := H x hx; ⟨ρ1, e1, fun _ q => q, fun _ => e2⟩) (by rw [show xs.filter (fun _ => true) = xs from List.filter_eq_self.mpr fun _ _ => rfl]; exact p)
theorem rangeD_map (n : Nat) : rangeD 0 n = (List.range n).map fun (i : Nat) => D.int i := by
  unfold rangeD
  refine List.map_congr_left fun i _ => ?_
  rw [Int.zero_add]
/-! operators of numbers, small calls -/
theorem q_i2 {C : Int → Int → Bool} {g : Int → Int → D} {i j : Int} (hc : C i j = true) : iOp C g (.d (.int i)) (.d (.int j)) = pu (.d (g i j)) := by
  show oM (Option.map W.d (if C i j = true then some (g i j) else none)) = _
  rw [if_pos hc]
  rfl
theorem q_add {i j : Int} : opAdd (.d (.int i)) (.d (.int j)) = pu (.d (.int (i + j))) := rfl
theorem q_sub {i j : Int} : opSub (.d (.int i)) (.d (.int j)) = pu (.d (.int (i - j))) := q_i2 rfl
theorem q_ge {i j : Int} : opGe (.d (.int i)) (.d (.int j)) = pu (.d (.bl (decide (j ≤ i)))) := q_i2 rfl
theorem q_gt {i j : Int} : opGt (.d (.int i)) (.d (.int j)) = pu (.d (.bl (decide (j < i)))) := q_i2 rfl
theorem q_lt {i j : Int} : opLt (.d (.int i)) (.d (.int j)) = pu (.d (.bl (decide (i < j)))) := q_i2 rfl
theorem q_le {i j : Int} : opLe (.d (.int i)) (.d (.int j)) = pu (.d (.bl (decide (i ≤ j)))) := q_i2 rfl
theorem q_int {i : Int} : bInt [.d (.int i)] = pu (.d (.int i)) := rfl
theorem q_lenT : bLen [.d (.tup l)] = pu (.d (.int (l.length : Nat))) := rfl
theorem q_lenL : bLen [.d (.lst l)] = pu (.d (.int (l.length : Nat))) := rfl
theorem q_tupL : bTuple [.d (.lst l)] = pu (.d (.tup l)) := rfl
theorem q_tupT : bTuple [.d (.tup l)] = pu (.d (.tup l)) := rfl
theorem q_lstL : bList [.d (.lst l)] = pu (.d (.lst l)) := rfl
theorem q_lstT : bList [.d (.tup l)] = pu (.d (.lst l)) := rfl
/-! == of numbers; by what tells -/
theorem q_eq {α : Type} [DecidableEq α] {f : α → D} (t : Tells f) {x y : α} {j k : Nat} (hx : OkN j (f x)) (hy : OkN k (f y)) (hj : j ≤ 64 := by decide) (hk : k ≤ 64 := by decide) : opEq false (.d (f x)) (.d (f y)) = pu (.d (.bl (decide (x = y)))) := by
  show oM (Option.map W.d (if okD (f x) && okD (f y) then some (.bl (eqD (f x) (f y))) else none)) = _
  rw [hx.ok hj, hy.ok hk, t.eq]
  rfl
theorem q_ne {α : Type} [DecidableEq α] {f : α → D} (t : Tells f) {x y : α} {j k : Nat} (hx : OkN j (f x)) (hy : OkN k (f y)) (hj : j ≤ 64 := by decide) (hk : k ≤ 64 := by decide) : opEq true (.d (f x)) (.d (f y)) = pu (.d (.bl (!decide (x = y)))) := by
  show oM (Option.map W.d (if okD (f x) && okD (f y) then some (.bl (!eqD (f x) (f y))) else none)) = _
  rw [hx.ok hj, hy.ok hk, t.eq]
  rfl
theorem q_eqI {i j : Int} : opEq false (.d (.int i)) (.d (.int j)) = pu (.d (.bl (decide (i = j)))) := q_eq tells_int (okN_int i) (okN_int j)
theorem q_neI {i j : Int} : opEq true (.d (.int i)) (.d (.int j)) = pu (.d (.bl (!decide (i = j)))) := q_ne tells_int (okN_int i) (okN_int j)
theorem q_in {α : Type} [DecidableEq α] {f : α → D} (t : Tells f) {x : α} {ys : List α} {b : D} {j k : Nat} (e : items b = some (ys.map f)) (hx : OkN j (f x)) (hy : OkN k b) (hj : j ≤ 64 := by decide) (hk : k ≤ 64 := by decide) : opIn false (.d (f x)) (.d b) = pu (.d (.bl (decide (x ∈ ys)))) := by
  show oM (Option.map W.d (match items b with | some l => if okD (f x) && okD b then some (.bl (inD (f x) l)) else none | none => none)) = _
  rw [e]
  show oM (Option.map W.d (if okD (f x) && okD b then some (.bl (inD (f x) (ys.map f))) else none)) = _
  rw [hx.ok hj, hy.ok hk, inD_tells t]
  rfl
theorem q_nin {α : Type} [DecidableEq α] {f : α → D} (t : Tells f) {x : α} {ys : List α} {b : D} {j k : Nat} (e : items b = some (ys.map f)) (hx : OkN j (f x)) (hy : OkN k b) (hj : j ≤ 64 := by decide) (hk : k ≤ 64 := by decide) : opIn true (.d (f x)) (.d b) = pu (.d (.bl (!decide (x ∈ ys)))) := by
  show oM (Option.map W.d (match items b with | some l => if okD (f x) && okD b then some (.bl (!inD (f x) l)) else none | none => none)) = _
  rw [e]
  show oM (Option.map W.d (if okD (f x) && okD b then some (.bl (!inD (f x) (ys.map f))) else none)) = _
  rw [hx.ok hj, hy.ok hk, inD_tells t]
  rfl
theorem q_inT {x : Int} {ys : List Int} : opIn false (.d (.int x)) (.d (eT ys)) = pu (.d (.bl (decide (x ∈ ys)))) := q_in tells_int rfl (okN_int x) (okN_eT ys)
theorem q_ninT {x : Int} {ys : List Int} : opIn true (.d (.int x)) (.d (eT ys)) = pu (.d (.bl (!decide (x ∈ ys)))) := q_nin tells_int rfl (okN_int x) (okN_eT ys)
theorem q_nilT : opEq true (.d (.tup l)) (.d (.tup [])) = oM (if okD (.tup l) then some (.d (.bl (!l.isEmpty))) else none) := by
  show oM (Option.map W.d (if okD (.tup l) && okD (.tup []) then some (.bl (!eqD (.tup l) (.tup []))) else none)) = _
  rw [eqD_nil_tup, show okD (.tup []) = true from (okN_tup (k := 0) fun x hx => absurd hx List.not_mem_nil).ok, Bool.and_true]
  split <;> rfl
/-! an index -/
theorem q_ix {x d : D} {l : List D} {i : Int} (e : items x = some l) (h0 : 0 ≤ i) (hd : l[i.toNat]? = some d) : opIx (.d x) (.d (.int i)) = pu (.d d) := by
  have hlt := (List.getElem?_eq_some_iff.mp hd).1
  have q : ((items x).bind fun l => atI l i) = some d := by
    rw [e]
    show atI l i = _
    unfold atI ixN
    rw [if_pos h0, if_pos (by omega)]
    exact hd
  funext h
  unfold opIx
  cases x with
  | str _ => cases e
  | tup _ => simp only [q]; rfl
  | lst _ => simp only [q]; rfl
  | frz _ => simp only [q]; rfl
  | _ => cases e
theorem q_ixT {r : List Int} {k : Nat} (hk : k < r.length) : opIx (.d (eT r)) (.d (.int k)) = pu (.d (.int (r.getD k 0))) := by
  refine q_ix rfl (by omega) ?_
  rw [Int.toNat_natCast, List.getElem?_map, List.getElem?_eq_getElem hk, List.getD_eq_getElem?_getD, List.getElem?_eq_getElem hk]
  rfl
theorem q_ixTT {bx : List (List Int)} {k : Nat} (hk : k < bx.length) : opIx (.d (eTT bx)) (.d (.int k)) = pu (.d (eT (bx.getD k []))) := by
  refine q_ix rfl (by omega) ?_
  rw [Int.toNat_natCast, List.getElem?_map, List.getElem?_eq_getElem hk, List.getD_eq_getElem?_getD, List.getElem?_eq_getElem hk]
  rfl
end
end DD

set_option Elab.async false
set_option linter.all false
set_option maxRecDepth 100000
set_option maxHeartbeats 1000000
/-! DD22: loops and comprehensions by invariants, with named ways on. -/
namespace DD
open PySem hiding Env
open L2
section
variable {P : W → List O → Prop} {PB : Bool → List O → Prop} {PF : Fl → List O → Prop} {PD : List D → List O → Prop} {h : List O} {ρ : Env} {w : W} {x : D} {l : List D}
theorem v_rngI {i : Int} (h0 : 0 ≤ i) (h1 : i ≤ 100000) : rngF PD [.d (.int i)] h = PD (rangeD 0 i.toNat) h := by
  obtain ⟨k, rfl⟩ : ∃ k : Nat, i = k := ⟨i.toNat, by omega⟩
  rw [v_rngF (by omega), Int.toNat_natCast]
theorem kc_go {k j l : Nat} {gW : List W → List W → List W} {f : List W → M W} {ws zs : List W} (hj : ws.length = j) (hl : zs.length = l) (p : wp (lendC k f (gW ws zs)) P h) : kcG k j l gW f ws P zs h := by
  show (if ws.length = j ∧ zs.length = l then _ else False)
  rw [if_pos ⟨hj, hl⟩]
  exact p
def loopF (I : Nat → Env → List O → Prop) (i : Nat) (PF : Fl → List O → Prop) : Fl → List O → Prop := fun f h' => match f with
  | .nx ρ2 => I (i + 1) ρ2 h'
  | .ct ρ2 => I (i + 1) ρ2 h'
  | .bk ρ2 => PF (.nx ρ2) h'
  | .rt w => PF (.rt w) h'
variable {I : Nat → Env → List O → Prop} {i : Nat}
theorem v_loop_nx : loopF I i PF (.nx ρ) h = I (i + 1) ρ h := rfl
theorem v_loop_ct : loopF I i PF (.ct ρ) h = I (i + 1) ρ h := rfl
theorem v_loop_bk : loopF I i PF (.bk ρ) h = PF (.nx ρ) h := rfl
theorem v_loop_rt : loopF I i PF (.rt w) h = PF (.rt w) h := rfl
theorem for_I {g : Tg} {b : Env → M Fl} (I : Nat → Env → List O → Prop) {ds : List D} (h0 : I 0 ρ h) (step : ∀ i d ρ h, ds[i]? = some d → I i ρ h → ∃ ρ1, mG g d ρ = some ρ1 ∧ wp (b ρ1) (loopF I i PF) h) (done : ∀ ρ h, I ds.length ρ h → PF (.nx ρ) h) : wp (mForL g b ds ρ) PF h :=
  wp_loop I h0 (fun i d ρ h a b => let ⟨ρ1, e, p⟩ := step i d ρ h a b; ⟨ρ1, e, p⟩) done
/-- .. over the images of plain things -/
theorem for_map {β : Type} (en : β → D) {g : Tg} {b : Env → M Fl} (I : Nat → Env → List O → Prop) {xs : List β} (h0 : I 0 ρ h) (step : ∀ i x ρ h, xs[i]? = some x → I i ρ h → ∃ ρ1, mG g (en x) ρ = some ρ1 ∧ wp (b ρ1) (loopF I i PF) h) (done : ∀ ρ h, I xs.length ρ h → PF (.nx ρ) h) : wp (mForL g b (xs.map en) ρ) PF h :=
  for_I I h0 (fun i d ρ h a b => by
    rw [List.getElem?_map] at a
    cases e : xs[i]? with
    | none => rw [e] at a; cases a
    | some x => rw [e] at a; cases a; exact step i x ρ h e b) (by rw [List.length_map]; exact done)
/-- the same, by an order of the places below n -/
theorem for_n {g : Tg} {b : Env → M Fl} (n : Nat) (I : Nat → Env → List O → Prop) (h0 : I 0 ρ h) (step : ∀ (i : Nat) ρ h, i < n → I i ρ h → ∃ ρ1, mG g (.int i) ρ = some ρ1 ∧ wp (b ρ1) (loopF I i PF) h) (done : ∀ ρ h, I n ρ h → PF (.nx ρ) h) : wp (mForL g b (rangeD 0 n) ρ) PF h := by
  refine for_I I h0 (fun i d ρ h a b => ?_) ?_
  · have hlt := (List.getElem?_eq_some_iff.mp a).1
    rw [rangeD_len] at hlt
    unfold rangeD at a
    rw [List.getElem?_map, List.getElem?_range hlt] at a
    have : d = .int i := by
      have z : D.int (0 + (i : Int)) = d := Option.some.inj a
      rw [Int.zero_add] at z
      exact z.symm
    subst this
    exact step i ρ h hlt b
  · rw [rangeD_len]
    exact done
variable {J : Nat → List D → List O → Prop}
def lcT (m : M W) (J : Nat → List D → List O → Prop) (i : Nat) (l : List D) : Bool → List O → Prop := fun k h1 => if k = true then wp m (fun w h2 => ∃ x, w = .d x ∧ J (i + 1) (l ++ [x]) h2) h1 else J (i + 1) l h1
def lcE (J : Nat → List D → List O → Prop) (i : Nat) (l : List D) : W → List O → Prop := fun w h2 => ∃ x, w = .d x ∧ J (i + 1) (l ++ [x]) h2
theorem v_lcTt {m : M W} : lcT m J i l true h = wp m (lcE J i l) h := rfl
theorem v_lcTf {m : M W} : lcT m J i l false h = J (i + 1) l h := rfl
theorem v_lcE : lcE J i l (.d x) h = J (i + 1) (l ++ [x]) h := propext ⟨fun ⟨_, e, p⟩ => by cases e; exact p, fun p => ⟨_, rfl, p⟩⟩
theorem lc_I {vs : List Nat} {g : Tg} {t : Env → M Bool} {e : Env → M W} (J : Nat → List D → List O → Prop) {ds : List D} (h0 : J 0 [] h) (step : ∀ i d l h, ds[i]? = some d → J i l h → ∃ ρ1, mG g d (wipeE ρ vs) = some ρ1 ∧ wp (t ρ1) (lcT (e ρ1) J i l) h) (done : ∀ l h, J ds.length l h → PD l h) : wp (mLcL vs g t e ρ ds) PD h :=
  wp_lcI J h0 (fun i d l h a b => let ⟨ρ1, e, p⟩ := step i d l h a b; ⟨ρ1, e, p⟩) done
/-- .. over the images of plain things -/
theorem lc_mapI {β : Type} (en : β → D) {vs : List Nat} {g : Tg} {t : Env → M Bool} {e : Env → M W} (J : Nat → List D → List O → Prop) {xs : List β} (h0 : J 0 [] h) (step : ∀ i x l h, xs[i]? = some x → J i l h → ∃ ρ1, mG g (en x) (wipeE ρ vs) = some ρ1 ∧ wp (t ρ1) (lcT (e ρ1) J i l) h) (done : ∀ l h, J xs.length l h → PD l h) : wp (mLcL vs g t e ρ (xs.map en)) PD h :=
  lc_I J h0 (fun i d ρ h a b => by
    rw [List.getElem?_map] at a
    cases e : xs[i]? with
    | none => rw [e] at a; cases a
    | some x => rw [e] at a; cases a; exact step i x ρ h e b) (by rw [List.length_map]; exact done)
theorem lc_n {vs : List Nat} {g : Tg} {t : Env → M Bool} {e : Env → M W} (n : Nat) (J : Nat → List D → List O → Prop) (h0 : J 0 [] h) (step : ∀ (i : Nat) l h, i < n → J i l h → ∃ ρ1, mG g (.int i) (wipeE ρ vs) = some ρ1 ∧ wp (t ρ1) (lcT (e ρ1) J i l) h) (done : ∀ l h, J n l h → PD l h) : wp (mLcL vs g t e ρ (rangeD 0 n)) PD h := by
  refine lc_I J h0 (fun i d l h a b => ?_) ?_
  · have hlt := (List.getElem?_eq_some_iff.mp a).1
    rw [rangeD_len] at hlt
    unfold rangeD at a
    rw [List.getElem?_map, List.getElem?_range hlt] at a
    have : d = .int i := by
      have z : D.int (0 + (i : Int)) = d := Option.some.inj a
      rw [Int.zero_add] at z
      exact z.symm
    subst this
    exact step i l h hlt b
  · rw [rangeD_len]
    exact done
end
end DD

set_option Elab.async false
set_option linter.all false
set_option maxRecDepth 100000
set_option maxHeartbeats 4000000
namespace Lw
open PySem L2 DD
/-! ### the text by places -/
def top (i : Nat) : Stmt := PySem.Challenge.pw_nomoreheard_k13_parts_told.main.body.getD i (.Pass ⟨0, 0, 0, 0⟩)
abbrev s__law_deck : Stmt := top 57
abbrev s__law_draw : Stmt := top 58
abbrev s__law_pick : Stmt := top 59
abbrev s__law_rows : Stmt := top 60
abbrev s__law_some : Stmt := top 62
abbrev s__law_marks : Stmt := top 61
abbrev s__law_plan : Stmt := top 63
abbrev s_is_called : Stmt := top 10
abbrev s_are_names : Stmt := top 11
abbrev s_is_integer : Stmt := top 9
abbrev s_is_world : Stmt := top 47
abbrev s_are_ascending : Stmt := top 12
abbrev s_are_worlds : Stmt := top 48
abbrev s_is_group : Stmt := top 49
abbrev s_is_table : Stmt := top 50
abbrev s_is_group_table : Stmt := top 51
abbrev s_are_group_tables : Stmt := top 52
abbrev s_check_parts : Stmt := top 53
abbrev s_Case_init : Stmt := inClass (top 55) 0
abbrev s__law_code : Stmt := top 64
abbrev s__law_inputs : Stmt := top 65
abbrev s__law_lot : Stmt := top 67
abbrev s__law_within : Stmt := top 66
abbrev s_tight : Stmt := top 16
abbrev s_worlds_in : Stmt := top 15
abbrev s_told : Stmt := top 17
abbrev s__law_common : Stmt := top 69
abbrev s__law_right : Stmt := top 68
abbrev s_law : Stmt := top 70
/-! ### mirrors -/
def m__law_deck : List W → M W := mFn 1 4 (mSeq (mPar 1 2 (mCons (mCall bList (mCons (mSl (mV 0) mNo (mSome (mC (.int 63)))) mNil)) (mCons (mC (.int 136901)) mNil))) (mSeq (mFor (mItems (mV 1)) (.nm 3) (mSet 2 (m2op opMod (mCall bInt (mCons (m2op opAdd (m2op opAdd (m2op opMul (mV 2) (mC (.int 48271))) (m2op opMod (mCall bInt (mCons (mV 3) mNil)) (mC (.int 2147483629)))) (mC (.int 69))) mNil)) (mC (.int 2147483587))))) (mRet (mDisp [((mC (.str "cells")), (mRevR (mV 1))), ((mC (.str "blend")), (mV 2)), ((mC (.str "draws")), (mC (.int 0)))]))))
theorem l__law_deck (ws : List W) (h : ws.length ≠ 1) : m__law_deck ws = stk := mFn_len h
def m__law_draw : List W → M W := mFn 2 5 (mSeq (mDPut (mV 0) (mC (.str "draws")) (m2op opAdd (m2op opDGet (mV 0) (mC (.str "draws"))) (mC (.int 1)))) (mSeq (mPar 2 3 (mCons (m2op opDGet (mV 0) (mC (.str "draws"))) (mCons (m2op opDGet (mV 0) (mC (.str "blend"))) mNil))) (mSeq (mIfS (mT (m2op (opEq true) (m2op opDGet (mV 0) (mC (.str "cells"))) (mLst mNil))) (mSeq (mSet 3 (mMeth (upL fPop) (m2op opDGet (mV 0) (mC (.str "cells"))) mNil)) (mSeq (mIfS (mT (m2op opGe (mV 3) (m2op opPow (mC (.int 10)) (mC (.int 18))))) (mSeq (mExpr (mMeth (upL fAppend) (m2op opDGet (mV 0) (mC (.str "cells"))) (mCons (m2op opFdiv (mV 3) (mV 1)) mNil))) (mRet (m2op opMod (mCall bInt (mCons (mV 3) mNil)) (mV 1)))) mNext) (mSet 3 (m2op opAdd (mV 3) (m2op opDGet (mV 0) (mC (.str "blend"))))))) mNext) (mSeq (mSet 4 (m2op opMod (m2op opMul (mCall bInt (mCons (m2op opAdd (m2op opAdd (m2op opMod (mCall bInt (mCons (mV 3) mNil)) (mC (.int 2147483629))) (m2op opMul (m2op opMul (mC (.int 60693)) (mV 2)) (mV 2))) (mC (.int 29))) mNil)) (mC (.int 40692))) (mC (.int 2147483647)))) (mSeq (mSet 4 (m2op opMod (mCall bInt (mCons (m2op opAdd (m2op opAdd (m2op opMul (mV 4) (mV 4)) (m2op opMul (mC (.int 69621)) (mV 2))) (mC (.int 69))) mNil)) (mC (.int 2147483587)))) (mRet (m2op opMod (m2op opFdiv (m2op opMod (mCall bInt (mCons (m2op opMul (mV 4) (mC (.int 39373))) mNil)) (mC (.int 2147483563))) (mC (.int 64))) (mV 1))))))))
theorem l__law_draw (ws : List W) (h : ws.length ≠ 2) : m__law_draw ws = stk := mFn_len h
def m__law_pick : List W → M W := mFn 2 2 (mRet (m2op opIx (mV 1) (mLend 2 m__law_draw (mCons (mV 0) (mCons (mCall bLen (mCons (mV 1) mNil)) mNil)))))
theorem l__law_pick (ws : List W) (h : ws.length ≠ 2) : m__law_pick ws = stk := mFn_len h
def m__law_rows : List W → M W := mFn 2 13 (mSeq (mPar3 2 3 4 (mCons (mLst (mCons (mTup mNil) mNil)) (mCons (m2op opIx (mLst (mCons (mC (.int 6)) (mCons (mC (.int 6)) (mCons (mC (.int 4)) (mCons (mC (.int 3)) mNil))))) (m2op opSub (mV 1) (mC (.int 1)))) (mCons (mLend 2 m__law_pick (mCons (mV 0) (mCons (mLst (mCons (mC (.int 1)) (mCons (mC (.int 1)) (mCons (mC (.int 1)) (mCons (m2op opPow (mC (.int 10)) (mC (.int 6))) mNil))))) mNil))) mNil)))) (mSeq (mFor (mRng1 (mCons (mV 1) mNil)) (.nm 5) (mSeq (mPar 6 7 (mCons (m2op opSub (mLend 2 m__law_draw (mCons (mV 0) (mCons (mC (.int 7)) mNil))) (mC (.int 3))) (mCons (mLstR mNil) mNil))) (mSeq (mFrz 7 (mFor (mRng1 (mCons (m2op opAdd (mC (.int 1)) (mLend 2 m__law_draw (mCons (mV 0) (mCons (mV 3) mNil)))) mNil)) (.nm 8) (mSeq (mExpr (mMeth (upL fAppend) (mV 7) (mCons (m2op opMul (mV 6) (mV 4)) mNil))) (mSet 6 (m2op opAdd (m2op opAdd (mV 6) (mC (.int 1))) (mLend 2 m__law_draw (mCons (mV 0) (mCons (mC (.int 3)) mNil)))))))) (mSeq (mSet 9 (mLstR mNil)) (mSeq (mFor (mItems (mV 2)) (.nm 10) (mExpr (mMeth (upL fExtend) (mV 9) (mCons (mLc (mItems (mV 7)) [12] (.nm 12) mYes (m2op opAdd (mV 10) (mTup (mCons (mV 12) mNil)))) mNil)))) (mFrz 2 (mSet 2 (mV 9)))))))) (mSeq (mSet 11 (mV 2)) (mSeq (mIfS (mT (m2op (opEq false) (mLend 2 m__law_draw (mCons (mV 0) (mCons (mC (.int 3)) mNil))) (mC (.int 0)))) (mSet 11 (mLc (mItems (mV 2)) [10] (.nm 10) (mT (m2op opGt (mLend 2 m__law_draw (mCons (mV 0) (mCons (mC (.int 3)) mNil))) (mC (.int 0)))) (mV 10))) mNext) (mRet (mIf (mT (m2op (opEq true) (mV 11) (mLst mNil))) (mV 11) (mSl (mV 2) mNo (mSome (mC (.int 1))))))))))
theorem l__law_rows (ws : List W) (h : ws.length ≠ 2) : m__law_rows ws = stk := mFn_len h
def m__law_some : List W → M W := mFn 2 3 (mSeq (mIfS (mT (m2op opGt (mLend 2 m__law_draw (mCons (mV 0) (mCons (mC (.int 3)) mNil))) (mC (.int 0)))) (mRet (mTup (mCons (mLend 2 m__law_draw (mCons (mV 0) (mCons (mV 1) mNil))) mNil))) mNext) (mRet (mCall bTuple (mCons (mLc (mRng1 (mCons (mV 1) mNil)) [2] (.nm 2) (mT (m2op (opEq false) (mLend 2 m__law_draw (mCons (mV 0) (mCons (mC (.int 2)) mNil))) (mC (.int 0)))) (mV 2)) mNil))))
theorem l__law_some (ws : List W) (h : ws.length ≠ 2) : m__law_some ws = stk := mFn_len h
def m__law_marks : List W → M W := mFn 2 6 (mSeq (mAsg (.tp [(.nm 2), (.nm 3)]) (mTup (mCons (mLend 2 m__law_draw (mCons (mV 0) (mCons (mC (.int 6)) mNil))) (mCons (m2op opAdd (mC (.int 2)) (mLend 2 m__law_draw (mCons (mV 0) (mCons (mC (.int 3)) mNil)))) mNil)))) (mSeq (mIfS (mT (m2op opLt (mV 2) (mC (.int 2)))) (mRet (mCall bTuple (mCons (mLc (mItems (mV 1)) [5] (.nm 5) mYes (mLend 2 m__law_draw (mCons (mV 0) (mCons (mV 3) mNil)))) mNil))) mNext) (mSeq (mIfS (mT (m2op (opEq false) (mV 2) (mC (.int 2)))) (mRet (mCall bTuple (mCons (mLc (mItems (mV 1)) [5] (.nm 5) mYes (m2op opMod (mCall bInt (mCons (mCall bSumA (mCons (mV 5) mNil)) mNil)) (mV 3))) mNil))) mNext) (mSeq (mIfS (mT (m2op (opEq false) (mV 2) (mC (.int 3)))) (mRet (mCall bTuple (mCons (mLc (mItems (mV 1)) [5] (.nm 5) mYes (mCall bMax (mCons (mCall bList (mCons (mV 5) mNil)) mNil))) mNil))) mNext) (mSeq (mSet 4 (mLend 2 m__law_draw (mCons (mV 0) (mCons (mCall bLen (mCons (m2op opIx (mV 1) (mC (.int 0))) mNil)) mNil)))) (mRet (mCall bTuple (mCons (mLc (mItems (mV 1)) [5] (.nm 5) mYes (mIf (mT (m2op (opEq false) (mV 2) (mC (.int 4)))) (m2op opIx (mV 5) (mV 4)) (mC (.int 7)))) mNil))))))))
theorem l__law_marks (ws : List W) (h : ws.length ≠ 2) : m__law_marks ws = stk := mFn_len h
def m__law_plan : List W → M W := mFn 3 6 (mSeq (mSet 3 (mLend 2 m__law_pick (mCons (mV 0) (mCons (mLst (mCons (mC (.int 2)) (mCons (mC (.int 2)) (mCons (mC (.int 3)) (mCons (mC (.int 1)) (mCons (mC (.int 4)) (mCons (mC (.int 3)) (mCons (mC (.int 2)) mNil)))))))) mNil)))) (mSeq (mSet 4 (mDisp [((mC (.str "called")), (mSl (mTup (mCons (mC (.str "ann")) (mCons (mC (.str "bob")) (mCons (mC (.str "cy")) (mCons (mC (.str "d4")) mNil))))) mNo (mSome (mV 3)))), ((mC (.str "rows")), (mLend 2 m__law_rows (mCons (mV 0) (mCons (mV 3) mNil))))])) (mSeq (mDPut (mV 4) (mC (.str "aims")) (mLc (mRng1 (mCons (mLend 2 m__law_draw (mCons (mV 0) (mCons (m2op opAdd (mV 1) (mC (.int 1))) mNil))) mNil)) [5] (.nm 5) mYes (mTup (mCons (mLend 2 m__law_some (mCons (mV 0) (mCons (mV 3) mNil))) (mCons (mLend 2 m__law_marks (mCons (mV 0) (mCons (m2op opDGet (mV 4) (mC (.str "rows"))) mNil))) mNil))))) (mSeq (mDPut (mV 4) (mC (.str "bounds")) (mLc (mRng1 (mCons (mLend 2 m__law_draw (mCons (mV 0) (mCons (m2op opAdd (mV 2) (mC (.int 1))) mNil))) mNil)) [5] (.nm 5) mYes (mTup (mCons (mLend 2 m__law_some (mCons (mV 0) (mCons (mV 3) mNil))) (mCons (mLend 2 m__law_marks (mCons (mV 0) (mCons (m2op opDGet (mV 4) (mC (.str "rows"))) mNil))) mNil))))) (mRet (mV 4))))))
theorem l__law_plan (ws : List W) (h : ws.length ≠ 3) : m__law_plan ws = stk := mFn_len h
def m_is_called : List W → M W := mFn 1 2 (mSeq (mIfS (mOr (mNot (mT (mCall bIsi (mCons (mV 0) (mCons (mC (.ty "str")) mNil))))) (mOr (mNot (mT (mChain opLe opLe (mC (.int 1)) (mCall bLen (mCons (mV 0) mNil)) (mC (.int 8))))) (mT (m2op (opIn false) (mV 0) (mC (.tup ((["hands", "limit", "self", "want", "world"] : List Str).map .str))))))) (mRet (mC (.bl false))) mNext) (mRet (mAndV (m2op opInS (m2op opIx (mV 0) (mC (.int 0))) (mC (.str "abcdefghijklmnopqrstuvwxyz"))) (mCall bAll (mCons (mLc (mSigns (mV 0)) [1] (.nm 1) mYes (mOrV (m2op opInS (mV 1) (mC (.str "abcdefghijklmnopqrstuvwxyz"))) (m2op opInS (mV 1) (mC (.str "0123456789"))))) mNil)))))
theorem l_is_called (ws : List W) (h : ws.length ≠ 1) : m_is_called ws = stk := mFn_len h
def m_are_names : List W → M W := mFn 2 3 (mSeq (mIfS (mOr (mNot (mT (mCall bIsi (mCons (mV 0) (mCons (mC (.ty "tuple")) mNil))))) (mNot (mT (mChain opLe opLe (mC (.int 1)) (mCall bLen (mCons (mV 0) mNil)) (mV 1))))) (mRet (mC (.bl false))) mNext) (mRet (mAndV (mCall bAll (mCons (mLc (mItems (mV 0)) [2] (.nm 2) mYes (mLend 0 m_is_called (mCons (mV 2) mNil))) mNil)) (m2op (opEq false) (m1op opLenSet (mV 0)) (mCall bLen (mCons (mV 0) mNil))))))
theorem l_are_names (ws : List W) (h : ws.length ≠ 2) : m_are_names ws = stk := mFn_len h
def m_is_integer : List W → M W := mFn 1 1 (mRet (mAndV (mCall bIsi (mCons (mV 0) (mCons (mC (.ty "int")) mNil))) (mNotV (mCall bIsi (mCons (mV 0) (mCons (mC (.ty "bool")) mNil))))))
theorem l_is_integer (ws : List W) (h : ws.length ≠ 1) : m_is_integer ws = stk := mFn_len h
def m_is_world : List W → M W := mFn 2 3 (mRet (mAndV (mCall bIsi (mCons (mV 1) (mCons (mC (.ty "tuple")) mNil))) (mAndV (m2op (opEq false) (mCall bLen (mCons (mV 1) mNil)) (mV 0)) (mCall bAll (mCons (mLc (mItems (mV 1)) [2] (.nm 2) mYes (mLend 0 m_is_integer (mCons (mV 2) mNil))) mNil)))))
theorem l_is_world (ws : List W) (h : ws.length ≠ 2) : m_is_world ws = stk := mFn_len h
def m_are_ascending : List W → M W := mFn 1 3 (mRet (mCall bAll (mCons (mLc (mZip (mCons (mV 0) (mCons (mSl (mV 0) (mSome (mC (.int 1))) mNo) mNil))) [1, 2] (.tp [(.nm 1), (.nm 2)]) mYes (m2op opLtA (mV 1) (mV 2))) mNil)))
theorem l_are_ascending (ws : List W) (h : ws.length ≠ 1) : m_are_ascending ws = stk := mFn_len h
def m_are_worlds : List W → M W := mFn 2 3 (mSeq (mIfS (mOr (mNot (mT (mCall bIsi (mCons (mV 1) (mCons (mC (.ty "tuple")) mNil))))) (mOr (mT (m2op (opEq false) (mV 1) (mTup mNil))) (mNot (mT (mCall bAll (mCons (mLc (mItems (mV 1)) [2] (.nm 2) mYes (mLend 0 m_is_world (mCons (mV 0) (mCons (mV 2) mNil)))) mNil)))))) (mRet (mC (.bl false))) mNext) (mRet (mLend 0 m_are_ascending (mCons (mV 1) mNil))))
theorem l_are_worlds (ws : List W) (h : ws.length ≠ 2) : m_are_worlds ws = stk := mFn_len h
def m_is_group : List W → M W := mFn 2 3 (mSeq (mIfS (mOr (mNot (mT (mCall bIsi (mCons (mV 1) (mCons (mC (.ty "tuple")) mNil))))) (mNot (mT (mCall bAll (mCons (mLc (mItems (mV 1)) [2] (.nm 2) mYes (mAndV (mLend 0 m_is_integer (mCons (mV 2) mNil)) (mChain opLe opLt (mC (.int 0)) (mV 2) (mV 0)))) mNil))))) (mRet (mC (.bl false))) mNext) (mRet (mLend 0 m_are_ascending (mCons (mV 1) mNil))))
theorem l_is_group (ws : List W) (h : ws.length ≠ 2) : m_is_group ws = stk := mFn_len h
def m_is_table : List W → M W := mFn 2 3 (mRet (mAndV (mCall bIsi (mCons (mV 1) (mCons (mC (.ty "tuple")) mNil))) (mAndV (m2op (opEq false) (mCall bLen (mCons (mV 1) mNil)) (mV 0)) (mCall bAll (mCons (mLc (mItems (mV 1)) [2] (.nm 2) mYes (mLend 0 m_is_integer (mCons (mV 2) mNil))) mNil)))))
theorem l_is_table (ws : List W) (h : ws.length ≠ 2) : m_is_table ws = stk := mFn_len h
def m_is_group_table : List W → M W := mFn 3 3 (mRet (mAndV (mCall bIsi (mCons (mV 2) (mCons (mC (.ty "tuple")) mNil))) (mAndV (m2op (opEq false) (mCall bLen (mCons (mV 2) mNil)) (mC (.int 2))) (mAndV (mLend 0 m_is_group (mCons (mV 0) (mCons (m2op opIx (mV 2) (mC (.int 0))) mNil))) (mLend 0 m_is_table (mCons (mV 1) (mCons (m2op opIx (mV 2) (mC (.int 1))) mNil)))))))
theorem l_is_group_table (ws : List W) (h : ws.length ≠ 3) : m_is_group_table ws = stk := mFn_len h
def m_are_group_tables : List W → M W := mFn 3 4 (mRet (mAndV (mCall bIsi (mCons (mV 2) (mCons (mC (.ty "tuple")) mNil))) (mCall bAll (mCons (mLc (mItems (mV 2)) [3] (.nm 3) mYes (mLend 0 m_is_group_table (mCons (mV 0) (mCons (mV 1) (mCons (mV 3) mNil))))) mNil))))
theorem l_are_group_tables (ws : List W) (h : ws.length ≠ 3) : m_are_group_tables ws = stk := mFn_len h
def m_check_parts : List W → M W := mFn 4 4 (mSeq (mIfS (mNot (mT (mLend 0 m_are_names (mCons (mV 0) (mCons (mC (.int 4)) mNil))))) mNever mNext) (mSeq (mIfS (mNot (mT (mLend 0 m_are_worlds (mCons (mCall bLen (mCons (mV 0) mNil)) (mCons (mV 1) mNil))))) mNever mNext) (mSeq (mIfS (mNot (mT (mLend 0 m_are_group_tables (mCons (mCall bLen (mCons (mV 0) mNil)) (mCons (mCall bLen (mCons (mV 1) mNil)) (mCons (mV 2) mNil)))))) mNever mNext) (mIfS (mNot (mT (mLend 0 m_are_group_tables (mCons (mCall bLen (mCons (mV 0) mNil)) (mCons (mCall bLen (mCons (mV 1) mNil)) (mCons (mV 3) mNil)))))) mNever mNext))))
theorem l_check_parts (ws : List W) (h : ws.length ≠ 4) : m_check_parts ws = stk := mFn_len h
def m_Case_init : List W → M W := mFn 5 5 (mSeq (mExpr (mLend 0 m_check_parts (mCons (mV 1) (mCons (mV 2) (mCons (mV 3) (mCons (mV 4) mNil)))))) (mSeq (mFldSet "Case" "hands" (mV 0) (mV 1)) (mSeq (mFldSet "Case" "worlds" (mV 0) (mV 2)) (mSeq (mFldSet "Case" "wants" (mV 0) (mV 3)) (mFldSet "Case" "limits" (mV 0) (mV 4))))))
theorem l_Case_init (ws : List W) (h : ws.length ≠ 5) : m_Case_init ws = stk := mFn_len h
def m__law_code : List W → M W := mFn 1 1 (mRet (mCallK 0 2 2 (permL [0, 1, 2, 3]) (mNew "Case" m_Case_init) (mCons (m2op opDGet (mV 0) (mC (.str "called"))) (mCons (mCall bTuple (mCons (m2op opDGet (mV 0) (mC (.str "rows"))) mNil)) mNil)) (mCons (mCall bTuple (mCons (m2op opDGet (mV 0) (mC (.str "aims"))) mNil)) (mCons (mCall bTuple (mCons (m2op opDGet (mV 0) (mC (.str "bounds"))) mNil)) mNil))))
theorem l__law_code (ws : List W) (h : ws.length ≠ 1) : m__law_code ws = stk := mFn_len h
def m__law_inputs : List W → M W := mFn 1 3 (mRet (mCall bTuple (mCons (mLc (mRng1 (mCons (mCall bLen (mCons (m2op opIx (mV 0) (mC (.int 0))) mNil)) mNil)) [1] (.nm 1) mYes (mCall bTuple (mCons (m1op opSortSet (mLc (mItems (mV 0)) [2] (.nm 2) mYes (m2op opIx (mV 2) (mV 1)))) mNil))) mNil)))
theorem l__law_inputs (ws : List W) (h : ws.length ≠ 1) : m__law_inputs ws = stk := mFn_len h
def m__law_lot : List W → M W := mFn 3 5 (mSeq (mSet 3 (mLc (mItems (m2op opIx (mV 1) (mV 2))) [4] (.nm 4) (mT (m2op (opEq false) (mLend 2 m__law_draw (mCons (mV 0) (mCons (mC (.int 2)) mNil))) (mC (.int 0)))) (mV 4))) (mRet (mIf (mT (m2op (opEq true) (mV 3) (mLst mNil))) (mCall bTuple (mCons (mV 3) mNil)) (mTup (mCons (mLend 2 m__law_pick (mCons (mV 0) (mCons (m2op opIx (mV 1) (mV 2)) mNil))) mNil)))))
theorem l__law_lot (ws : List W) (h : ws.length ≠ 3) : m__law_lot ws = stk := mFn_len h
def m__law_within : List W → M W := mFn 2 4 (mRet (mLc (mItems (m2op opDGet (mV 0) (mC (.str "rows")))) [2] (.nm 2) (mT (m2op (opEq false) (mLc (mRng1 (mCons (mCall bLen (mCons (mV 2) mNil)) mNil)) [3] (.nm 3) (mT (m2op (opIn true) (m2op opIx (mV 2) (mV 3)) (m2op opIx (mV 1) (mV 3)))) (mV 3)) (mLst mNil))) (mV 2)))
theorem l__law_within (ws : List W) (h : ws.length ≠ 2) : m__law_within ws = stk := mFn_len h
def m_tight : List W → M W := mFn 2 4 (mRet (mCall bTuple (mCons (mLc (mRng1 (mCons (mCall bLen (mCons (m1op (opFld "Case" "hands") (mV 0)) mNil)) mNil)) [2] (.nm 2) mYes (mCall bTuple (mCons (mSortSc (mItems (mV 1)) [3] (.nm 3) mYes (m2op opIx (mV 3) (mV 2))) mNil))) mNil)))
theorem l_tight (ws : List W) (h : ws.length ≠ 2) : m_tight ws = stk := mFn_len h
def m_worlds_in : List W → M W := mFn 2 5 (mRet (mCall bTuple (mCons (mLc (mItems (m1op (opFld "Case" "worlds") (mV 0))) [2] (.nm 2) (mT (mCall bAll (mCons (mLc (mZip (mCons (mV 2) (mCons (mV 1) mNil))) [3, 4] (.tp [(.nm 3), (.nm 4)]) mYes (m2op (opIn false) (mV 3) (mV 4))) mNil))) (mV 2)) mNil)))
theorem l_worlds_in (ws : List W) (h : ws.length ≠ 2) : m_worlds_in ws = stk := mFn_len h
def m_told : List W → M W := mFn 4 5 (mRet (mLend 0 m_tight (mCons (mV 0) (mCons (mLc (mItems (mLend 0 m_worlds_in (mCons (mV 0) (mCons (mV 1) mNil)))) [4] (.nm 4) (mT (m2op (opIn false) (m2op opIx (mV 4) (mV 2)) (mV 3))) (mV 4)) mNil))))
theorem l_told (ws : List W) (h : ws.length ≠ 4) : m_told ws = stk := mFn_len h
def m__law_common : List W → M W := mFn 2 3 (mRet (mCall bTuple (mCons (mLc (mItems (mV 0)) [2] (.nm 2) (mT (m2op (opIn false) (mV 2) (mV 1))) (mV 2)) mNil)))
theorem l__law_common (ws : List W) (h : ws.length ≠ 2) : m__law_common ws = stk := mFn_len h
def m__law_right : List W → M W := mFn 1 19 (mSeq (mSet 1 (mLend 2 m__law_plan (mCons (mV 0) (mCons (mC (.int 0)) (mCons (mC (.int 1)) mNil))))) (mSeq (mPar 2 3 (mCons (mLend 0 m__law_code (mCons (mV 1) mNil)) (mCons (mCall bLen (mCons (m2op opDGet (mV 1) (mC (.str "called"))) mNil)) mNil))) (mSeq (mFor (mRng1 (mCons (mC (.int 5)) mNil)) (.nm 4) (mSeq (mSet 5 (mLend 0 m__law_inputs (mCons (mLc (mRng1 (mCons (m2op opAdd (mC (.int 1)) (mLend 2 m__law_draw (mCons (mV 0) (mCons (mC (.int 9)) mNil)))) mNil)) [17] (.nm 17) mYes (mLend 2 m__law_pick (mCons (mV 0) (mCons (m2op opDGet (mV 1) (mC (.str "rows"))) mNil)))) mNil))) (mSeq (mSet 6 (mLend 2 m__law_draw (mCons (mV 0) (mCons (mV 3) mNil)))) (mSeq (mAsg (.tp [(.nm 7), (.nm 8)]) (mTup (mCons (mLend 2 m__law_lot (mCons (mV 0) (mCons (mV 5) (mCons (mV 6) mNil)))) (mCons (mLend 0 m__law_within (mCons (mV 1) (mCons (mV 5) mNil))) mNil)))) (mSeq (mSet 9 (mLc (mItems (mV 8)) [18] (.nm 18) (mT (m2op (opIn false) (m2op opIx (mV 18) (mV 6)) (mV 7))) (mV 18))) (mSeq (mSet 10 (mLend 0 m__law_inputs (mCons (mV 9) mNil))) (mSeq (mSet 11 (mLst (mCons (mLend 0 m_told (mCons (mV 2) (mCons (mV 5) (mCons (mV 6) (mCons (mV 7) mNil))))) (mCons (mCallK 0 0 4 (permL [3, 2, 1, 0]) m_told mNil (mCons (mV 7) (mCons (mV 6) (mCons (mV 5) (mCons (mV 2) mNil))))) mNil)))) (mSeq (mIfS (mT (m2op (opEq true) (mCall bRepr (mCons (mV 11) mNil)) (mCall bRepr (mCons (mLst (mCons (mV 10) (mCons (mV 10) mNil))) mNil)))) (mRet (mC (.bl false))) mNext) (mSeq (mIfS (mT (m2op (opEq true) (mCall bRepr (mCons (mLend 0 m_worlds_in (mCons (mV 2) (mCons (mV 10) mNil))) mNil)) (mCall bRepr (mCons (mCall bTuple (mCons (mV 9) mNil)) mNil)))) (mRet (mC (.bl false))) mNext) (mSeq (mIfS (mT (m2op (opEq true) (mCall bRepr (mCons (mLend 0 m_told (mCons (mV 2) (mCons (mV 5) (mCons (mV 6) (mCons (m2op opIx (mV 5) (mV 6)) mNil))))) mNil)) (mCall bRepr (mCons (mV 5) mNil)))) (mRet (mC (.bl false))) mNext) (mSeq (mSet 12 (mLend 2 m__law_draw (mCons (mV 0) (mCons (mV 3) mNil)))) (mSeq (mSet 13 (mLend 2 m__law_lot (mCons (mV 0) (mCons (mV 10) (mCons (mV 12) mNil))))) (mSeq (mPar 14 15 (mCons (mLend 0 m_told (mCons (mV 2) (mCons (mV 5) (mCons (mV 12) (mCons (mV 13) mNil))))) (mCons (mLend 0 m_told (mCons (mV 2) (mCons (mV 10) (mCons (mV 12) (mCons (mV 13) mNil))))) mNil))) (mIfS (mT (m2op (opEq true) (mV 12) (mV 6))) (mSeq (mSet 16 (mLend 0 m__law_common (mCons (mV 7) (mCons (m2op opIx (mV 14) (mV 6)) mNil)))) (mIfS (mT (m2op (opEq true) (mCall bRepr (mCons (mV 15) mNil)) (mCall bRepr (mCons (mLend 0 m_told (mCons (mV 2) (mCons (mV 14) (mCons (mV 6) (mCons (mV 16) mNil))))) mNil)))) (mRet (mC (.bl false))) mNext)) mNext)))))))))))))) (mRet (mC (.bl true))))))
theorem l__law_right (ws : List W) (h : ws.length ≠ 1) : m__law_right ws = stk := mFn_len h
def m_law : List W → M W := mFn 1 3 (mSeq (mSet 1 (mCall m__law_deck (mCons (mV 0) mNil))) (mSeq (mFor (mRng1 (mCons (mC (.int 4)) mNil)) (.nm 2) (mIfS (mNot (mT (mLend 2 m__law_right (mCons (mV 1) mNil)))) (mRet (mC (.bl false))) mNext)) (mRet (mC (.bl true)))))
theorem l_law (ws : List W) (h : ws.length ≠ 1) : m_law ws = stk := mFn_len h
/-! ### facts -/
structure Tx (K : PySem.W.Frag) (mg : Str → Option Value) where
  a__law_deck : Addr
  fd__law_deck : FuncData
  m__law_deck : mg "_law_deck" = some (.ref a__law_deck)
  F__law_deck : L2.Fun K "_law_deck" "_law_deck" s__law_deck a__law_deck fd__law_deck
  a__law_draw : Addr
  fd__law_draw : FuncData
  m__law_draw : mg "_law_draw" = some (.ref a__law_draw)
  F__law_draw : L2.Fun K "_law_draw" "_law_draw" s__law_draw a__law_draw fd__law_draw
  a__law_pick : Addr
  fd__law_pick : FuncData
  m__law_pick : mg "_law_pick" = some (.ref a__law_pick)
  F__law_pick : L2.Fun K "_law_pick" "_law_pick" s__law_pick a__law_pick fd__law_pick
  a__law_rows : Addr
  fd__law_rows : FuncData
  m__law_rows : mg "_law_rows" = some (.ref a__law_rows)
  F__law_rows : L2.Fun K "_law_rows" "_law_rows" s__law_rows a__law_rows fd__law_rows
  a__law_some : Addr
  fd__law_some : FuncData
  m__law_some : mg "_law_some" = some (.ref a__law_some)
  F__law_some : L2.Fun K "_law_some" "_law_some" s__law_some a__law_some fd__law_some
  a__law_marks : Addr
  fd__law_marks : FuncData
  m__law_marks : mg "_law_marks" = some (.ref a__law_marks)
  F__law_marks : L2.Fun K "_law_marks" "_law_marks" s__law_marks a__law_marks fd__law_marks
  a__law_plan : Addr
  fd__law_plan : FuncData
  m__law_plan : mg "_law_plan" = some (.ref a__law_plan)
  F__law_plan : L2.Fun K "_law_plan" "_law_plan" s__law_plan a__law_plan fd__law_plan
  a_is_called : Addr
  fd_is_called : FuncData
  m_is_called : mg "is_called" = some (.ref a_is_called)
  F_is_called : L2.Fun K "is_called" "is_called" s_is_called a_is_called fd_is_called
  a_are_names : Addr
  fd_are_names : FuncData
  m_are_names : mg "are_names" = some (.ref a_are_names)
  F_are_names : L2.Fun K "are_names" "are_names" s_are_names a_are_names fd_are_names
  a_is_integer : Addr
  fd_is_integer : FuncData
  m_is_integer : mg "is_integer" = some (.ref a_is_integer)
  F_is_integer : L2.Fun K "is_integer" "is_integer" s_is_integer a_is_integer fd_is_integer
  a_is_world : Addr
  fd_is_world : FuncData
  m_is_world : mg "is_world" = some (.ref a_is_world)
  F_is_world : L2.Fun K "is_world" "is_world" s_is_world a_is_world fd_is_world
  a_are_ascending : Addr
  fd_are_ascending : FuncData
  m_are_ascending : mg "are_ascending" = some (.ref a_are_ascending)
  F_are_ascending : L2.Fun K "are_ascending" "are_ascending" s_are_ascending a_are_ascending fd_are_ascending
  a_are_worlds : Addr
  fd_are_worlds : FuncData
  m_are_worlds : mg "are_worlds" = some (.ref a_are_worlds)
  F_are_worlds : L2.Fun K "are_worlds" "are_worlds" s_are_worlds a_are_worlds fd_are_worlds
  a_is_group : Addr
  fd_is_group : FuncData
  m_is_group : mg "is_group" = some (.ref a_is_group)
  F_is_group : L2.Fun K "is_group" "is_group" s_is_group a_is_group fd_is_group
  a_is_table : Addr
  fd_is_table : FuncData
  m_is_table : mg "is_table" = some (.ref a_is_table)
  F_is_table : L2.Fun K "is_table" "is_table" s_is_table a_is_table fd_is_table
  a_is_group_table : Addr
  fd_is_group_table : FuncData
  m_is_group_table : mg "is_group_table" = some (.ref a_is_group_table)
  F_is_group_table : L2.Fun K "is_group_table" "is_group_table" s_is_group_table a_is_group_table fd_is_group_table
  a_are_group_tables : Addr
  fd_are_group_tables : FuncData
  m_are_group_tables : mg "are_group_tables" = some (.ref a_are_group_tables)
  F_are_group_tables : L2.Fun K "are_group_tables" "are_group_tables" s_are_group_tables a_are_group_tables fd_are_group_tables
  a_check_parts : Addr
  fd_check_parts : FuncData
  m_check_parts : mg "check_parts" = some (.ref a_check_parts)
  F_check_parts : L2.Fun K "check_parts" "check_parts" s_check_parts a_check_parts fd_check_parts
  a_Case_init : Addr
  fd_Case_init : FuncData
  F_Case_init : L2.Fun K "__init__" "Case.__init__" s_Case_init a_Case_init fd_Case_init
  a__law_code : Addr
  fd__law_code : FuncData
  m__law_code : mg "_law_code" = some (.ref a__law_code)
  F__law_code : L2.Fun K "_law_code" "_law_code" s__law_code a__law_code fd__law_code
  a__law_inputs : Addr
  fd__law_inputs : FuncData
  m__law_inputs : mg "_law_inputs" = some (.ref a__law_inputs)
  F__law_inputs : L2.Fun K "_law_inputs" "_law_inputs" s__law_inputs a__law_inputs fd__law_inputs
  a__law_lot : Addr
  fd__law_lot : FuncData
  m__law_lot : mg "_law_lot" = some (.ref a__law_lot)
  F__law_lot : L2.Fun K "_law_lot" "_law_lot" s__law_lot a__law_lot fd__law_lot
  a__law_within : Addr
  fd__law_within : FuncData
  m__law_within : mg "_law_within" = some (.ref a__law_within)
  F__law_within : L2.Fun K "_law_within" "_law_within" s__law_within a__law_within fd__law_within
  a_tight : Addr
  fd_tight : FuncData
  m_tight : mg "tight" = some (.ref a_tight)
  F_tight : L2.Fun K "tight" "tight" s_tight a_tight fd_tight
  a_worlds_in : Addr
  fd_worlds_in : FuncData
  m_worlds_in : mg "worlds_in" = some (.ref a_worlds_in)
  F_worlds_in : L2.Fun K "worlds_in" "worlds_in" s_worlds_in a_worlds_in fd_worlds_in
  a_told : Addr
  fd_told : FuncData
  m_told : mg "told" = some (.ref a_told)
  F_told : L2.Fun K "told" "told" s_told a_told fd_told
  a__law_common : Addr
  fd__law_common : FuncData
  m__law_common : mg "_law_common" = some (.ref a__law_common)
  F__law_common : L2.Fun K "_law_common" "_law_common" s__law_common a__law_common fd__law_common
  a__law_right : Addr
  fd__law_right : FuncData
  m__law_right : mg "_law_right" = some (.ref a__law_right)
  F__law_right : L2.Fun K "_law_right" "_law_right" s__law_right a__law_right fd__law_right
  a_law : Addr
  fd_law : FuncData
  m_law : mg "law" = some (.ref a_law)
  F_law : L2.Fun K "law" "law" s_law a_law fd_law
  a_Case : Addr
  m_Case : mg "Case" = some (.ref a_Case)
  cl_Case : Cls K a_Case
  mk_Case : Mk K a_Case a_Case_init
  na_Case_hands : NoAttr K a_Case "hands"
  na_Case_worlds : NoAttr K a_Case "worlds"
  na_Case_wants : NoAttr K a_Case "wants"
  na_Case_limits : NoAttr K a_Case "limits"
  z_list : mg "list" = none
  z_int : mg "int" = none
  z_range : mg "range" = none
  z_len : mg "len" = none
  z_tuple : mg "tuple" = none
  z_sum : mg "sum" = none
  z_max : mg "max" = none
  z_isinstance : mg "isinstance" = none
  z_str : mg "str" = none
  z_all : mg "all" = none
  z_set : mg "set" = none
  z_bool : mg "bool" = none
  z_zip : mg "zip" = none
  z_sorted : mg "sorted" = none
  z_repr : mg "repr" = none
  c_MOST_SIGNS : ∃ t, mg "MOST_SIGNS" = some (.int 8 t)
  c_BARRED : TupAt K mg "BARRED" ["hands", "limit", "self", "want", "world"]
  c_LETTERS : ∃ t, mg "LETTERS" = some (.str "abcdefghijklmnopqrstuvwxyz" t)
  c_DIGITS : ∃ t, mg "DIGITS" = some (.str "0123456789" t)
  c_MOST_HANDS_cases : ∃ t, mg "MOST_HANDS_cases" = some (.int 4 t)
section
variable {P : Program} {w : World} {K : PySem.W.Frag} {mg : Str → Option Value} {base : Heap}
theorem b__law_deck (T : Tx K mg) : Binds K T.fd__law_deck ["_law_script"] [] := T.F__law_deck.binds (ps := ["_law_script"]) fun _ _ _ _ _ _ us hl => match us, hl with | [_], _ => rfl
theorem b__law_draw (T : Tx K mg) : Binds K T.fd__law_draw ["_law_deck_here", "_law_many"] [] := T.F__law_draw.binds (ps := ["_law_deck_here", "_law_many"]) fun _ _ _ _ _ _ us hl => match us, hl with | [_, _], _ => rfl
theorem b__law_pick (T : Tx K mg) : Binds K T.fd__law_pick ["_law_deck_here", "_law_some_here"] [] := T.F__law_pick.binds (ps := ["_law_deck_here", "_law_some_here"]) fun _ _ _ _ _ _ us hl => match us, hl with | [_, _], _ => rfl
theorem b__law_rows (T : Tx K mg) : Binds K T.fd__law_rows ["_law_deck_here", "_law_many"] [] := T.F__law_rows.binds (ps := ["_law_deck_here", "_law_many"]) fun _ _ _ _ _ _ us hl => match us, hl with | [_, _], _ => rfl
theorem b__law_some (T : Tx K mg) : Binds K T.fd__law_some ["_law_deck_here", "_law_many"] [] := T.F__law_some.binds (ps := ["_law_deck_here", "_law_many"]) fun _ _ _ _ _ _ us hl => match us, hl with | [_, _], _ => rfl
theorem b__law_marks (T : Tx K mg) : Binds K T.fd__law_marks ["_law_deck_here", "_law_rows_here"] [] := T.F__law_marks.binds (ps := ["_law_deck_here", "_law_rows_here"]) fun _ _ _ _ _ _ us hl => match us, hl with | [_, _], _ => rfl
theorem b__law_plan (T : Tx K mg) : Binds K T.fd__law_plan ["_law_deck_here", "_law_far", "_law_near"] [] := T.F__law_plan.binds (ps := ["_law_deck_here", "_law_far", "_law_near"]) fun _ _ _ _ _ _ us hl => match us, hl with | [_, _, _], _ => rfl
theorem b_is_called (T : Tx K mg) : Binds K T.fd_is_called ["thing"] [] := T.F_is_called.binds (ps := ["thing"]) fun _ _ _ _ _ _ us hl => match us, hl with | [_], _ => rfl
theorem b_are_names (T : Tx K mg) : Binds K T.fd_are_names ["thing", "most"] [] := T.F_are_names.binds (ps := ["thing", "most"]) fun _ _ _ _ _ _ us hl => match us, hl with | [_, _], _ => rfl
theorem b_is_integer (T : Tx K mg) : Binds K T.fd_is_integer ["thing"] [] := T.F_is_integer.binds (ps := ["thing"]) fun _ _ _ _ _ _ us hl => match us, hl with | [_], _ => rfl
theorem b_is_world (T : Tx K mg) : Binds K T.fd_is_world ["many", "thing"] [] := T.F_is_world.binds (ps := ["many", "thing"]) fun _ _ _ _ _ _ us hl => match us, hl with | [_, _], _ => rfl
theorem b_are_ascending (T : Tx K mg) : Binds K T.fd_are_ascending ["items"] [] := T.F_are_ascending.binds (ps := ["items"]) fun _ _ _ _ _ _ us hl => match us, hl with | [_], _ => rfl
theorem b_are_worlds (T : Tx K mg) : Binds K T.fd_are_worlds ["many", "thing"] [] := T.F_are_worlds.binds (ps := ["many", "thing"]) fun _ _ _ _ _ _ us hl => match us, hl with | [_, _], _ => rfl
theorem b_is_group (T : Tx K mg) : Binds K T.fd_is_group ["many", "thing"] [] := T.F_is_group.binds (ps := ["many", "thing"]) fun _ _ _ _ _ _ us hl => match us, hl with | [_, _], _ => rfl
theorem b_is_table (T : Tx K mg) : Binds K T.fd_is_table ["size", "thing"] [] := T.F_is_table.binds (ps := ["size", "thing"]) fun _ _ _ _ _ _ us hl => match us, hl with | [_, _], _ => rfl
theorem b_is_group_table (T : Tx K mg) : Binds K T.fd_is_group_table ["many", "size", "thing"] [] := T.F_is_group_table.binds (ps := ["many", "size", "thing"]) fun _ _ _ _ _ _ us hl => match us, hl with | [_, _, _], _ => rfl
theorem b_are_group_tables (T : Tx K mg) : Binds K T.fd_are_group_tables ["many", "size", "thing"] [] := T.F_are_group_tables.binds (ps := ["many", "size", "thing"]) fun _ _ _ _ _ _ us hl => match us, hl with | [_, _, _], _ => rfl
theorem b_check_parts (T : Tx K mg) : Binds K T.fd_check_parts ["hands", "worlds", "wants", "limits"] [] := T.F_check_parts.binds (ps := ["hands", "worlds", "wants", "limits"]) fun _ _ _ _ _ _ us hl => match us, hl with | [_, _, _, _], _ => rfl
theorem b__law_code (T : Tx K mg) : Binds K T.fd__law_code ["_law_w"] [] := T.F__law_code.binds (ps := ["_law_w"]) fun _ _ _ _ _ _ us hl => match us, hl with | [_], _ => rfl
theorem b__law_inputs (T : Tx K mg) : Binds K T.fd__law_inputs ["_law_rows_here"] [] := T.F__law_inputs.binds (ps := ["_law_rows_here"]) fun _ _ _ _ _ _ us hl => match us, hl with | [_], _ => rfl
theorem b__law_lot (T : Tx K mg) : Binds K T.fd__law_lot ["_law_deck_here", "_law_pieces", "_law_at"] [] := T.F__law_lot.binds (ps := ["_law_deck_here", "_law_pieces", "_law_at"]) fun _ _ _ _ _ _ us hl => match us, hl with | [_, _, _], _ => rfl
theorem b__law_within (T : Tx K mg) : Binds K T.fd__law_within ["_law_w", "_law_pieces"] [] := T.F__law_within.binds (ps := ["_law_w", "_law_pieces"]) fun _ _ _ _ _ _ us hl => match us, hl with | [_, _], _ => rfl
theorem b_tight (T : Tx K mg) : Binds K T.fd_tight ["case", "worlds"] [] := T.F_tight.binds (ps := ["case", "worlds"]) fun _ _ _ _ _ _ us hl => match us, hl with | [_, _], _ => rfl
theorem b_worlds_in (T : Tx K mg) : Binds K T.fd_worlds_in ["case", "box"] [] := T.F_worlds_in.binds (ps := ["case", "box"]) fun _ _ _ _ _ _ us hl => match us, hl with | [_, _], _ => rfl
theorem b_told (T : Tx K mg) : Binds K T.fd_told ["case", "box", "hand", "part"] [] := T.F_told.binds (ps := ["case", "box", "hand", "part"]) fun _ _ _ _ _ _ us hl => match us, hl with | [_, _, _, _], _ => rfl
theorem b__law_common (T : Tx K mg) : Binds K T.fd__law_common ["_law_lot_here", "_law_some_here"] [] := T.F__law_common.binds (ps := ["_law_lot_here", "_law_some_here"]) fun _ _ _ _ _ _ us hl => match us, hl with | [_, _], _ => rfl
theorem b__law_right (T : Tx K mg) : Binds K T.fd__law_right ["_law_deck_here"] [] := T.F__law_right.binds (ps := ["_law_deck_here"]) fun _ _ _ _ _ _ us hl => match us, hl with | [_], _ => rfl
theorem b_law (T : Tx K mg) : Binds K T.fd_law ["_law_script"] [] := T.F_law.binds (ps := ["_law_script"]) fun _ _ _ _ _ _ us hl => match us, hl with | [_], _ => rfl
theorem kb_Case_init_3_wants_limits (T : Tx K mg) : KBn K T.fd_Case_init ["self", "hands", "worlds", "wants", "limits"] 3 ["wants", "limits"] (permL [0, 1, 2, 3, 4]) (permL [0, 1, 2, 3, 4]) := kbn_mk [0, 1, 2, 3, 4] T.F_Case_init fun _ _ _ _ _ _ us ws h1 h2 => match us, ws, h1, h2 with | [_, _, _], [_, _], _, _ => rfl
theorem kb_told_0_part_hand_box_case (T : Tx K mg) : KBn K T.fd_told ["case", "box", "hand", "part"] 0 ["part", "hand", "box", "case"] (permL [3, 2, 1, 0]) (permL [3, 2, 1, 0]) := kbn_mk [3, 2, 1, 0] T.F_told fun _ _ _ _ _ _ us ws h1 h2 => match us, ws, h1, h2 with | [], [_, _, _, _], _, _ => rfl
theorem sc__law_deck : FnScope ["_law_script", "_law_cells", "_law_blend", "_law_cell"] ["_law_script"] (defScope s__law_deck) := ⟨rfl, rfl, rfl, by decide +kernel, rfl, by decide +kernel, by decide +kernel⟩
theorem g__law_deck (T : Tx K mg) : FnG P w K mg base 1 T.a__law_deck T.fd__law_deck ["_law_script"] m__law_deck := fnD T.F__law_deck sc__law_deck fun cdv A outer s H E hr hg =>
    (dsCons (dsPar (i := 1) (j := 2) rfl sc__law_deck.nd (by rfl) (by rfl) (by decide) (by kernel_rfl) (by kernel_rfl) (daCons (dTy cList (glk (by kernel_rfl)) T.z_list (by kernel_rfl) (daCons (dSl (dV 0 (by rfl) (Or.inl (by kernel_rfl))) doNo (doSome dInt)) daNil)) (daCons dInt daNil)))
    (dsCons (dsFor (g := (.nm 3)) PassesOwn.never rfl (diSeq (dV 1 (by rfl) (Or.inl (by kernel_rfl)))) (dgNm sc__law_deck.nd (by rfl) (Or.inl (by kernel_rfl)) (Or.inl rfl)) (dsOne (dsSet (i := 2) sc__law_deck.nd (by rfl) (Or.inl (by kernel_rfl)) (d2 oMod (dTy cInt (glk (by kernel_rfl)) T.z_int (by kernel_rfl) (daCons (d2 oAdd (d2 oAdd (d2 oMul (dV 2 (by rfl) (Or.inl (by kernel_rfl))) dInt) (d2 oMod (dTy cInt (glk (by kernel_rfl)) T.z_int (by kernel_rfl) (daCons (dV 3 (by rfl) (Or.inl (by kernel_rfl))) daNil)) dInt)) dInt) daNil)) dInt) (hf := Or.inl rfl))))
    (dsOne (dsRet (dDisp (dpCons dStr (dRevR (dV 1 (by rfl) (Or.inl (by kernel_rfl)))) (dpCons dStr (dV 2 (by rfl) (Or.inl (by kernel_rfl))) (dpCons dStr dInt dpNil))))))))
theorem sc__law_draw : FnScope ["_law_deck_here", "_law_many", "_law_turn", "_law_cell", "_law_found"] ["_law_deck_here", "_law_many"] (defScope s__law_draw) := ⟨rfl, rfl, rfl, by decide +kernel, rfl, by decide +kernel, by decide +kernel⟩
theorem g__law_draw (T : Tx K mg) : FnG P w K mg base 1 T.a__law_draw T.fd__law_draw ["_law_deck_here", "_law_many"] m__law_draw := fnD T.F__law_draw sc__law_draw fun cdv A outer s H E hr hg =>
    (dsCons (dsDPut (hu1 hr) (dV 0 (by rfl) (Or.inl (by kernel_rfl))) dStr (d2 oAdd (dDGet (hu1 hr) (dV 0 (by rfl) (Or.inl (by kernel_rfl))) dStr) dInt))
    (dsCons (dsPar (i := 2) (j := 3) rfl sc__law_draw.nd (by rfl) (by rfl) (by decide) (by kernel_rfl) (by kernel_rfl) (daCons (dDGet (hu1 hr) (dV 0 (by rfl) (Or.inl (by kernel_rfl))) dStr) (daCons (dDGet (hu1 hr) (dV 0 (by rfl) (Or.inl (by kernel_rfl))) dStr) daNil)))
    (dsCons (dsIf (dtCmp (oNe (hu64 hr)) (dDGet (hu1 hr) (dV 0 (by rfl) (Or.inl (by kernel_rfl))) dStr) (dLst daNil)) (dsCons (dsSet (i := 3) sc__law_draw.nd (by rfl) (Or.inl (by kernel_rfl)) (dMeth0 PySem.F.slot_list_pop PySem.F.type_list_pop mPop (dDGet (hu1 hr) (dV 0 (by rfl) (Or.inl (by kernel_rfl))) dStr)) (hf := Or.inl rfl))
    (dsCons (dsIf (dtCmp oGe (dV 3 (by rfl) (Or.inl (by kernel_rfl))) (d2 oPow dInt dInt)) (dsCons (dsExpr (dMeth PySem.F.slot_list_append PySem.F.type_list_append mAppend (dDGet (hu1 hr) (dV 0 (by rfl) (Or.inl (by kernel_rfl))) dStr) (daCons (d2 oFdiv (dV 3 (by rfl) (Or.inl (by kernel_rfl))) (dV 1 (by rfl) (Or.inl (by kernel_rfl)))) daNil)))
    (dsOne (dsRet (d2 oMod (dTy cInt (glk (by kernel_rfl)) T.z_int (by kernel_rfl) (daCons (dV 3 (by rfl) (Or.inl (by kernel_rfl))) daNil)) (dV 1 (by rfl) (Or.inl (by kernel_rfl))))))) dsNil)
    (dsOne (dsSet (i := 3) sc__law_draw.nd (by rfl) (Or.inl (by kernel_rfl)) (d2 oAdd (dV 3 (by rfl) (Or.inl (by kernel_rfl))) (dDGet (hu1 hr) (dV 0 (by rfl) (Or.inl (by kernel_rfl))) dStr)) (hf := Or.inl rfl))))) dsNil)
    (dsCons (dsSet (i := 4) sc__law_draw.nd (by rfl) (Or.inl (by kernel_rfl)) (d2 oMod (d2 oMul (dTy cInt (glk (by kernel_rfl)) T.z_int (by kernel_rfl) (daCons (d2 oAdd (d2 oAdd (d2 oMod (dTy cInt (glk (by kernel_rfl)) T.z_int (by kernel_rfl) (daCons (dV 3 (by rfl) (Or.inl (by kernel_rfl))) daNil)) dInt) (d2 oMul (d2 oMul dInt (dV 2 (by rfl) (Or.inl (by kernel_rfl)))) (dV 2 (by rfl) (Or.inl (by kernel_rfl))))) dInt) daNil)) dInt) dInt) (hf := Or.inl rfl))
    (dsCons (dsSet (i := 4) sc__law_draw.nd (by rfl) (Or.inl (by kernel_rfl)) (d2 oMod (dTy cInt (glk (by kernel_rfl)) T.z_int (by kernel_rfl) (daCons (d2 oAdd (d2 oAdd (d2 oMul (dV 4 (by rfl) (Or.inl (by kernel_rfl))) (dV 4 (by rfl) (Or.inl (by kernel_rfl)))) (d2 oMul dInt (dV 2 (by rfl) (Or.inl (by kernel_rfl))))) dInt) daNil)) dInt) (hf := Or.inl rfl))
    (dsOne (dsRet (d2 oMod (d2 oFdiv (d2 oMod (dTy cInt (glk (by kernel_rfl)) T.z_int (by kernel_rfl) (daCons (d2 oMul (dV 4 (by rfl) (Or.inl (by kernel_rfl))) dInt) daNil)) dInt) dInt) (dV 1 (by rfl) (Or.inl (by kernel_rfl)))))))))))
theorem sc__law_pick : FnScope ["_law_deck_here", "_law_some_here"] ["_law_deck_here", "_law_some_here"] (defScope s__law_pick) := ⟨rfl, rfl, rfl, by decide +kernel, rfl, by decide +kernel, by decide +kernel⟩
theorem g__law_pick (T : Tx K mg) : FnG P w K mg base 2 T.a__law_pick T.fd__law_pick ["_law_deck_here", "_law_some_here"] m__law_pick := fnD T.F__law_pick sc__law_pick fun cdv A outer s H E hr hg =>
    (dsOne (dsRet (dIx oIx (dV 1 (by rfl) (Or.inl (by kernel_rfl))) (dLend 2 (g__law_draw T) (hr.mono (by decide)) hg (glk (by kernel_rfl)) T.m__law_draw T.F__law_draw.kp (b__law_draw T) (daCons (dV 0 (by rfl) (Or.inl (by kernel_rfl))) (daCons (dB cLen (glk (by kernel_rfl)) T.z_len (by kernel_rfl) (daCons (dV 1 (by rfl) (Or.inl (by kernel_rfl))) daNil)) daNil)) l__law_draw))))
theorem sc__law_rows : FnScope ["_law_deck_here", "_law_many", "_law_found", "_law_size", "_law_scale", "_law_at", "_law_low", "_law_some_here", "_law_k", "_law_longer", "_law_row", "_law_left", "_law_x"] ["_law_deck_here", "_law_many"] (defScope s__law_rows) := ⟨rfl, rfl, rfl, by decide +kernel, rfl, by decide +kernel, by decide +kernel⟩
theorem g__law_rows (T : Tx K mg) : FnG P w K mg base 3 T.a__law_rows T.fd__law_rows ["_law_deck_here", "_law_many"] m__law_rows := fnD T.F__law_rows sc__law_rows fun cdv A outer s H E hr hg =>
    (dsCons (dsPar3 (i := 2) (j := 3) (l := 4) rfl sc__law_rows.nd (by rfl) (by rfl) (by rfl) (by decide) (by decide) (by decide) (by kernel_rfl) (by kernel_rfl) (by kernel_rfl) (daCons (dLst (daCons (dTup daNil) daNil)) (daCons (dIx oIx (dLst (daCons dInt (daCons dInt (daCons dInt (daCons dInt daNil))))) (d2 oSub (dV 1 (by rfl) (Or.inl (by kernel_rfl))) dInt)) (daCons (dLend 2 (g__law_pick T) (hr.mono (by decide)) hg (glk (by kernel_rfl)) T.m__law_pick T.F__law_pick.kp (b__law_pick T) (daCons (dV 0 (by rfl) (Or.inr (Or.inl (by kernel_rfl)))) (daCons (dLst (daCons dInt (daCons dInt (daCons dInt (daCons (d2 oPow dInt dInt) daNil))))) daNil)) l__law_pick) daNil))))
    (dsCons (dsFor (g := (.nm 5)) PassesOwn.never rfl (diRng1 (glk (by kernel_rfl)) T.z_range (daCons (dV 1 (by rfl) (Or.inl (by kernel_rfl))) daNil)) (dgNm sc__law_rows.nd (by rfl) (Or.inl (by kernel_rfl)) (Or.inl rfl)) (dsCons (dsPar (i := 6) (j := 7) rfl sc__law_rows.nd (by rfl) (by rfl) (by decide) (by kernel_rfl) (by kernel_rfl) (daCons (d2 oSub (dLend 2 (g__law_draw T) (hr.mono (by decide)) hg (glk (by kernel_rfl)) T.m__law_draw T.F__law_draw.kp (b__law_draw T) (daCons (dV 0 (by rfl) (Or.inr (Or.inl (by kernel_rfl)))) (daCons dInt daNil)) l__law_draw) dInt) (daCons (dLstR daNil) daNil)))
    (dsCons (dsFrz (dsFor (g := (.nm 8)) PassesOwn.never rfl (diRng1 (glk (by kernel_rfl)) T.z_range (daCons (d2 oAdd dInt (dLend 2 (g__law_draw T) (hr.mono (by decide)) hg (glk (by kernel_rfl)) T.m__law_draw T.F__law_draw.kp (b__law_draw T) (daCons (dV 0 (by rfl) (Or.inr (Or.inl (by kernel_rfl)))) (daCons (dV 3 (by rfl) (Or.inl (by kernel_rfl))) daNil)) l__law_draw)) daNil)) (dgNm sc__law_rows.nd (by rfl) (Or.inl (by kernel_rfl)) (Or.inl rfl)) (dsCons (dsExpr (dMeth PySem.F.slot_list_append PySem.F.type_list_append mAppend (dV 7 (by rfl) (Or.inl (by kernel_rfl))) (daCons (d2 oMul (dV 6 (by rfl) (Or.inl (by kernel_rfl))) (dV 4 (by rfl) (Or.inl (by kernel_rfl)))) daNil)))
    (dsOne (dsSet (i := 6) sc__law_rows.nd (by rfl) (Or.inl (by kernel_rfl)) (d2 oAdd (d2 oAdd (dV 6 (by rfl) (Or.inl (by kernel_rfl))) dInt) (dLend 2 (g__law_draw T) (hr.mono (by decide)) hg (glk (by kernel_rfl)) T.m__law_draw T.F__law_draw.kp (b__law_draw T) (daCons (dV 0 (by rfl) (Or.inr (Or.inl (by kernel_rfl)))) (daCons dInt daNil)) l__law_draw)) (hf := Or.inl rfl))))))
    (dsCons (dsSet (i := 9) sc__law_rows.nd (by rfl) (Or.inl (by kernel_rfl)) (dLstR daNil) (hf := Or.inl rfl))
    (dsCons (dsFor (g := (.nm 10)) PassesOwn.never rfl (diSeq (dV 2 (by rfl) (Or.inl (by kernel_rfl)))) (dgNm sc__law_rows.nd (by rfl) (Or.inr (by kernel_rfl)) (Or.inl rfl)) (dsOne (dsExpr (dMeth PySem.F.slot_list_extend PySem.F.type_list_extend mExtend (dV 9 (by rfl) (Or.inl (by kernel_rfl))) (daCons (dLc (own := [("_law_x", 12)]) (g := (.nm 12)) rfl sc__law_rows.nd  (diSeq (dV 7 (by rfl) (Or.inl (by kernel_rfl)))) (blkOk_by (by kernel_rfl)) (fun _ _ _ _ _ => (dgNm sc__law_rows.nd (by rfl) (Or.inl (by kernel_rfl)) (Or.inr (by kernel_rfl)))) (fun _ _ _ _ _ => dtYes) (fun _ _ _ _ _ => (d2 oAdd (dV 10 (by rfl) (Or.inr (Or.inl (by kernel_rfl)))) (dTup (daCons (dV 12 (by rfl) (Or.inl (by kernel_rfl))) daNil))))) daNil)))))
    (dsOne (dsFrz (dsSet (i := 2) sc__law_rows.nd (by rfl) (Or.inl (by kernel_rfl)) (dV 9 (by rfl) (Or.inl (by kernel_rfl))) (hf := Or.inl rfl)))))))))
    (dsCons (dsSet (i := 11) sc__law_rows.nd (by rfl) (Or.inl (by kernel_rfl)) (dV 2 (by rfl) (Or.inl (by kernel_rfl))) (hf := Or.inl rfl))
    (dsCons (dsIf (dtCmp (oEq (hu64 hr)) (dLend 2 (g__law_draw T) (hr.mono (by decide)) hg (glk (by kernel_rfl)) T.m__law_draw T.F__law_draw.kp (b__law_draw T) (daCons (dV 0 (by rfl) (Or.inr (Or.inl (by kernel_rfl)))) (daCons dInt daNil)) l__law_draw) dInt) (dsOne (dsSetLc (own := [("_law_row", 10)]) (g := (.nm 10)) rfl sc__law_rows.nd (by rfl) (by kernel_rfl) rfl (diSeq (dV 2 (by rfl) (Or.inl (by kernel_rfl)))) (blkOk_by (by kernel_rfl)) (fun _ _ _ _ _ => (dgNm sc__law_rows.nd (by rfl) (Or.inl (by kernel_rfl)) (Or.inr (by kernel_rfl)))) (fun _ _ _ _ _ => (dtOne (dtCmp oGt (dLend 2 (g__law_draw T) (hr.mono (by decide)) hg (glk (by kernel_rfl)) T.m__law_draw T.F__law_draw.kp (b__law_draw T) (daCons (dV 0 (by rfl) (Or.inr (Or.inl (by kernel_rfl)))) (daCons dInt daNil)) l__law_draw) dInt))) (fun _ _ _ _ _ => (dV 10 (by rfl) (Or.inl (by kernel_rfl)))))) dsNil)
    (dsOne (dsRet (dIf (dtCmp (oNe (hu64 hr)) (dV 11 (by rfl) (Or.inl (by kernel_rfl))) (dLst daNil)) (dV 11 (by rfl) (Or.inl (by kernel_rfl))) (dSl (dV 2 (by rfl) (Or.inl (by kernel_rfl))) doNo (doSome dInt)))))))))
theorem sc__law_some : FnScope ["_law_deck_here", "_law_many", "_law_k"] ["_law_deck_here", "_law_many"] (defScope s__law_some) := ⟨rfl, rfl, rfl, by decide +kernel, rfl, by decide +kernel, by decide +kernel⟩
theorem g__law_some (T : Tx K mg) : FnG P w K mg base 2 T.a__law_some T.fd__law_some ["_law_deck_here", "_law_many"] m__law_some := fnD T.F__law_some sc__law_some fun cdv A outer s H E hr hg =>
    (dsCons (dsIf (dtCmp oGt (dLend 2 (g__law_draw T) (hr.mono (by decide)) hg (glk (by kernel_rfl)) T.m__law_draw T.F__law_draw.kp (b__law_draw T) (daCons (dV 0 (by rfl) (Or.inr (Or.inl (by kernel_rfl)))) (daCons dInt daNil)) l__law_draw) dInt) (dsOne (dsRet (dTup (daCons (dLend 2 (g__law_draw T) (hr.mono (by decide)) hg (glk (by kernel_rfl)) T.m__law_draw T.F__law_draw.kp (b__law_draw T) (daCons (dV 0 (by rfl) (Or.inr (Or.inl (by kernel_rfl)))) (daCons (dV 1 (by rfl) (Or.inl (by kernel_rfl))) daNil)) l__law_draw) daNil)))) dsNil)
    (dsOne (dsRet (dTy cTuple (glk (by kernel_rfl)) T.z_tuple (by kernel_rfl) (daCons (dLc (own := [("_law_k", 2)]) (g := (.nm 2)) rfl sc__law_some.nd  (diRng1 (glk (by kernel_rfl)) T.z_range (daCons (dV 1 (by rfl) (Or.inl (by kernel_rfl))) daNil)) (blkOk_by (by kernel_rfl)) (fun _ _ _ _ _ => (dgNm sc__law_some.nd (by rfl) (Or.inl (by kernel_rfl)) (Or.inr (by kernel_rfl)))) (fun _ _ _ _ _ => (dtOne (dtCmp (oEq (hu64 hr)) (dLend 2 (g__law_draw T) (hr.mono (by decide)) hg (glk (by kernel_rfl)) T.m__law_draw T.F__law_draw.kp (b__law_draw T) (daCons (dV 0 (by rfl) (Or.inr (Or.inl (by kernel_rfl)))) (daCons dInt daNil)) l__law_draw) dInt))) (fun _ _ _ _ _ => (dV 2 (by rfl) (Or.inl (by kernel_rfl))))) daNil)))))
theorem sc__law_marks : FnScope ["_law_deck_here", "_law_rows_here", "_law_way", "_law_size", "_law_spot", "_law_row"] ["_law_deck_here", "_law_rows_here"] (defScope s__law_marks) := ⟨rfl, rfl, rfl, by decide +kernel, rfl, by decide +kernel, by decide +kernel⟩
theorem g__law_marks (T : Tx K mg) : FnG P w K mg base 2 T.a__law_marks T.fd__law_marks ["_law_deck_here", "_law_rows_here"] m__law_marks := fnD T.F__law_marks sc__law_marks fun cdv A outer s H E hr hg =>
    (dsCons (dsAsg (g := (.tp [(.nm 2), (.nm 3)])) (dTup (daCons (dLend 2 (g__law_draw T) (hr.mono (by decide)) hg (glk (by kernel_rfl)) T.m__law_draw T.F__law_draw.kp (b__law_draw T) (daCons (dV 0 (by rfl) (Or.inr (Or.inl (by kernel_rfl)))) (daCons dInt daNil)) l__law_draw) (daCons (d2 oAdd dInt (dLend 2 (g__law_draw T) (hr.mono (by decide)) hg (glk (by kernel_rfl)) T.m__law_draw T.F__law_draw.kp (b__law_draw T) (daCons (dV 0 (by rfl) (Or.inr (Or.inl (by kernel_rfl)))) (daCons dInt daNil)) l__law_draw)) daNil))) (dgTp rfl (dgsCons (dgNm sc__law_marks.nd (by rfl) (Or.inr (by kernel_rfl)) (Or.inl rfl)) (dgsCons (dgNm sc__law_marks.nd (by rfl) (Or.inr (by kernel_rfl)) (Or.inl rfl)) dgsNil))))
    (dsCons (dsIf (dtCmp oLt (dV 2 (by rfl) (Or.inr (Or.inl (by kernel_rfl)))) dInt) (dsOne (dsRet (dTy cTuple (glk (by kernel_rfl)) T.z_tuple (by kernel_rfl) (daCons (dLc (own := [("_law_row", 5)]) (g := (.nm 5)) rfl sc__law_marks.nd  (diSeq (dV 1 (by rfl) (Or.inl (by kernel_rfl)))) (blkOk_by (by kernel_rfl)) (fun _ _ _ _ _ => (dgNm sc__law_marks.nd (by rfl) (Or.inl (by kernel_rfl)) (Or.inr (by kernel_rfl)))) (fun _ _ _ _ _ => dtYes) (fun _ _ _ _ _ => (dLend 2 (g__law_draw T) (hr.mono (by decide)) hg (glk (by kernel_rfl)) T.m__law_draw T.F__law_draw.kp (b__law_draw T) (daCons (dV 0 (by rfl) (Or.inr (Or.inl (by kernel_rfl)))) (daCons (dV 3 (by rfl) (Or.inr (Or.inl (by kernel_rfl)))) daNil)) l__law_draw))) daNil)))) dsNil)
    (dsCons (dsIf (dtCmp (oEq (hu64 hr)) (dV 2 (by rfl) (Or.inr (Or.inl (by kernel_rfl)))) dInt) (dsOne (dsRet (dTy cTuple (glk (by kernel_rfl)) T.z_tuple (by kernel_rfl) (daCons (dLc (own := [("_law_row", 5)]) (g := (.nm 5)) rfl sc__law_marks.nd  (diSeq (dV 1 (by rfl) (Or.inl (by kernel_rfl)))) (blkOk_by (by kernel_rfl)) (fun _ _ _ _ _ => (dgNm sc__law_marks.nd (by rfl) (Or.inl (by kernel_rfl)) (Or.inr (by kernel_rfl)))) (fun _ _ _ _ _ => dtYes) (fun _ _ _ _ _ => (d2 oMod (dTy cInt (glk (by kernel_rfl)) T.z_int (by kernel_rfl) (daCons (dB (cSumA rfl) (glk (by kernel_rfl)) T.z_sum (by kernel_rfl) (daCons (dV 5 (by rfl) (Or.inl (by kernel_rfl))) daNil)) daNil)) (dV 3 (by rfl) (Or.inr (Or.inl (by kernel_rfl))))))) daNil)))) dsNil)
    (dsCons (dsIf (dtCmp (oEq (hu64 hr)) (dV 2 (by rfl) (Or.inr (Or.inl (by kernel_rfl)))) dInt) (dsOne (dsRet (dTy cTuple (glk (by kernel_rfl)) T.z_tuple (by kernel_rfl) (daCons (dLc (own := [("_law_row", 5)]) (g := (.nm 5)) rfl sc__law_marks.nd  (diSeq (dV 1 (by rfl) (Or.inl (by kernel_rfl)))) (blkOk_by (by kernel_rfl)) (fun _ _ _ _ _ => (dgNm sc__law_marks.nd (by rfl) (Or.inl (by kernel_rfl)) (Or.inr (by kernel_rfl)))) (fun _ _ _ _ _ => dtYes) (fun _ _ _ _ _ => (dB (cMax rfl) (glk (by kernel_rfl)) T.z_max (by kernel_rfl) (daCons (dTy cList (glk (by kernel_rfl)) T.z_list (by kernel_rfl) (daCons (dV 5 (by rfl) (Or.inl (by kernel_rfl))) daNil)) daNil)))) daNil)))) dsNil)
    (dsCons (dsSet (i := 4) sc__law_marks.nd (by rfl) (Or.inr (by kernel_rfl)) (dLend 2 (g__law_draw T) (hr.mono (by decide)) hg (glk (by kernel_rfl)) T.m__law_draw T.F__law_draw.kp (b__law_draw T) (daCons (dV 0 (by rfl) (Or.inr (Or.inl (by kernel_rfl)))) (daCons (dB cLen (glk (by kernel_rfl)) T.z_len (by kernel_rfl) (daCons (dIx oIx (dV 1 (by rfl) (Or.inl (by kernel_rfl))) dInt) daNil)) daNil)) l__law_draw) (hf := Or.inl rfl))
    (dsOne (dsRet (dTy cTuple (glk (by kernel_rfl)) T.z_tuple (by kernel_rfl) (daCons (dLc (own := [("_law_row", 5)]) (g := (.nm 5)) rfl sc__law_marks.nd  (diSeq (dV 1 (by rfl) (Or.inl (by kernel_rfl)))) (blkOk_by (by kernel_rfl)) (fun _ _ _ _ _ => (dgNm sc__law_marks.nd (by rfl) (Or.inl (by kernel_rfl)) (Or.inr (by kernel_rfl)))) (fun _ _ _ _ _ => dtYes) (fun _ _ _ _ _ => (dIf (dtCmp (oEq (hu64 hr)) (dV 2 (by rfl) (Or.inr (Or.inl (by kernel_rfl)))) dInt) (dIx oIx (dV 5 (by rfl) (Or.inl (by kernel_rfl))) (dV 4 (by rfl) (Or.inr (Or.inl (by kernel_rfl))))) dInt))) daNil)))))))))
theorem sc__law_plan : FnScope ["_law_deck_here", "_law_far", "_law_near", "_law_many", "_law_w", "_law_k"] ["_law_deck_here", "_law_far", "_law_near"] (defScope s__law_plan) := ⟨rfl, rfl, rfl, by decide +kernel, rfl, by decide +kernel, by decide +kernel⟩
theorem g__law_plan (T : Tx K mg) : FnG P w K mg base 4 T.a__law_plan T.fd__law_plan ["_law_deck_here", "_law_far", "_law_near"] m__law_plan := fnD T.F__law_plan sc__law_plan fun cdv A outer s H E hr hg =>
    (dsCons (dsSet (i := 3) sc__law_plan.nd (by rfl) (Or.inr (by kernel_rfl)) (dLend 2 (g__law_pick T) (hr.mono (by decide)) hg (glk (by kernel_rfl)) T.m__law_pick T.F__law_pick.kp (b__law_pick T) (daCons (dV 0 (by rfl) (Or.inr (Or.inl (by kernel_rfl)))) (daCons (dLst (daCons dInt (daCons dInt (daCons dInt (daCons dInt (daCons dInt (daCons dInt (daCons dInt daNil)))))))) daNil)) l__law_pick) (hf := Or.inl rfl))
    (dsCons (dsSet (i := 4) sc__law_plan.nd (by rfl) (Or.inr (by kernel_rfl)) (dDisp (dpCons dStr (dSl (dTup (daCons dStr (daCons dStr (daCons dStr (daCons dStr daNil))))) doNo (doSome (dV 3 (by rfl) (Or.inr (Or.inl (by kernel_rfl)))))) (dpCons dStr (dLend 2 (g__law_rows T) (hr.mono (by decide)) hg (glk (by kernel_rfl)) T.m__law_rows T.F__law_rows.kp (b__law_rows T) (daCons (dV 0 (by rfl) (Or.inr (Or.inl (by kernel_rfl)))) (daCons (dV 3 (by rfl) (Or.inr (Or.inl (by kernel_rfl)))) daNil)) l__law_rows) dpNil))) (hf := Or.inl rfl))
    (dsCons (dsDPut (hu1 hr) (dV 4 (by rfl) (Or.inr (Or.inl (by kernel_rfl)))) dStr (dLc (own := [("_law_k", 5)]) (g := (.nm 5)) rfl sc__law_plan.nd  (diRng1 (glk (by kernel_rfl)) T.z_range (daCons (dLend 2 (g__law_draw T) (hr.mono (by decide)) hg (glk (by kernel_rfl)) T.m__law_draw T.F__law_draw.kp (b__law_draw T) (daCons (dV 0 (by rfl) (Or.inr (Or.inl (by kernel_rfl)))) (daCons (d2 oAdd (dV 1 (by rfl) (Or.inl (by kernel_rfl))) dInt) daNil)) l__law_draw) daNil)) (blkOk_by (by kernel_rfl)) (fun _ _ _ _ _ => (dgNm sc__law_plan.nd (by rfl) (Or.inl (by kernel_rfl)) (Or.inr (by kernel_rfl)))) (fun _ _ _ _ _ => dtYes) (fun _ _ _ _ _ => (dTup (daCons (dLend 2 (g__law_some T) (hr.mono (by decide)) hg (glk (by kernel_rfl)) T.m__law_some T.F__law_some.kp (b__law_some T) (daCons (dV 0 (by rfl) (Or.inr (Or.inl (by kernel_rfl)))) (daCons (dV 3 (by rfl) (Or.inr (Or.inl (by kernel_rfl)))) daNil)) l__law_some) (daCons (dLend 2 (g__law_marks T) (hr.mono (by decide)) hg (glk (by kernel_rfl)) T.m__law_marks T.F__law_marks.kp (b__law_marks T) (daCons (dV 0 (by rfl) (Or.inr (Or.inl (by kernel_rfl)))) (daCons (dDGet (hu1 hr) (dV 4 (by rfl) (Or.inr (Or.inl (by kernel_rfl)))) dStr) daNil)) l__law_marks) daNil))))))
    (dsCons (dsDPut (hu1 hr) (dV 4 (by rfl) (Or.inr (Or.inl (by kernel_rfl)))) dStr (dLc (own := [("_law_k", 5)]) (g := (.nm 5)) rfl sc__law_plan.nd  (diRng1 (glk (by kernel_rfl)) T.z_range (daCons (dLend 2 (g__law_draw T) (hr.mono (by decide)) hg (glk (by kernel_rfl)) T.m__law_draw T.F__law_draw.kp (b__law_draw T) (daCons (dV 0 (by rfl) (Or.inr (Or.inl (by kernel_rfl)))) (daCons (d2 oAdd (dV 2 (by rfl) (Or.inl (by kernel_rfl))) dInt) daNil)) l__law_draw) daNil)) (blkOk_by (by kernel_rfl)) (fun _ _ _ _ _ => (dgNm sc__law_plan.nd (by rfl) (Or.inl (by kernel_rfl)) (Or.inr (by kernel_rfl)))) (fun _ _ _ _ _ => dtYes) (fun _ _ _ _ _ => (dTup (daCons (dLend 2 (g__law_some T) (hr.mono (by decide)) hg (glk (by kernel_rfl)) T.m__law_some T.F__law_some.kp (b__law_some T) (daCons (dV 0 (by rfl) (Or.inr (Or.inl (by kernel_rfl)))) (daCons (dV 3 (by rfl) (Or.inr (Or.inl (by kernel_rfl)))) daNil)) l__law_some) (daCons (dLend 2 (g__law_marks T) (hr.mono (by decide)) hg (glk (by kernel_rfl)) T.m__law_marks T.F__law_marks.kp (b__law_marks T) (daCons (dV 0 (by rfl) (Or.inr (Or.inl (by kernel_rfl)))) (daCons (dDGet (hu1 hr) (dV 4 (by rfl) (Or.inr (Or.inl (by kernel_rfl)))) dStr) daNil)) l__law_marks) daNil))))))
    (dsOne (dsRet (dV 4 (by rfl) (Or.inr (Or.inl (by kernel_rfl))))))))))
theorem sc_is_called : FnScope ["thing", "sign"] ["thing"] (defScope s_is_called) := ⟨rfl, rfl, rfl, by decide +kernel, rfl, by decide +kernel, by decide +kernel⟩
theorem g_is_called (T : Tx K mg) : FnG P w K mg base 1 T.a_is_called T.fd_is_called ["thing"] m_is_called := fnD T.F_is_called sc_is_called fun cdv A outer s H E hr hg =>
    (dsCons (dsIf (dtW (dwOr (dtNot (dtV (dB cIsi (glk (by kernel_rfl)) T.z_isinstance (by kernel_rfl) (daCons (dV 0 (by rfl) (Or.inl (by kernel_rfl))) (daCons (dTyN (glk (by kernel_rfl)) T.z_str (by kernel_rfl)) daNil))))) (dwOr (dtNot (dtChain oLe oLe dInt (dB cLen (glk (by kernel_rfl)) T.z_len (by kernel_rfl) (daCons (dV 0 (by rfl) (Or.inl (by kernel_rfl))) daNil)) (dGInt T.c_MOST_SIGNS (glk (by kernel_rfl))))) (dwOr1 (dtCmp (oIn (hu65 hr)) (dV 0 (by rfl) (Or.inl (by kernel_rfl))) (dGTup T.c_BARRED (glk (by kernel_rfl)))))))) (dsOne (dsRet dBl)) dsNil)
    (dsOne (dsRet (dAnd (dCmp oInS (dIx oIx (dV 0 (by rfl) (Or.inl (by kernel_rfl))) dInt) (dGStr T.c_LETTERS (glk (by kernel_rfl)))) (dOne (dB (cAll rfl) (glk (by kernel_rfl)) T.z_all (by kernel_rfl) (daCons (dLc (own := [("sign", 1)]) (g := (.nm 1)) rfl sc_is_called.nd  (diStr (dV 0 (by rfl) (Or.inl (by kernel_rfl)))) (blkOk_by (by kernel_rfl)) (fun _ _ _ _ _ => (dgNm sc_is_called.nd (by rfl) (Or.inl (by kernel_rfl)) (Or.inr (by kernel_rfl)))) (fun _ _ _ _ _ => dtYes) (fun _ _ _ _ _ => (dOr (dCmp oInS (dV 1 (by rfl) (Or.inl (by kernel_rfl))) (dGStr T.c_LETTERS (glk (by kernel_rfl)))) (dOne (dCmp oInS (dV 1 (by rfl) (Or.inl (by kernel_rfl))) (dGStr T.c_DIGITS (glk (by kernel_rfl)))))))) daNil)))))))
theorem sc_are_names : FnScope ["thing", "most", "name"] ["thing", "most"] (defScope s_are_names) := ⟨rfl, rfl, rfl, by decide +kernel, rfl, by decide +kernel, by decide +kernel⟩
theorem g_are_names (T : Tx K mg) : FnG P w K mg base 2 T.a_are_names T.fd_are_names ["thing", "most"] m_are_names := fnD T.F_are_names sc_are_names fun cdv A outer s H E hr hg =>
    (dsCons (dsIf (dtW (dwOr (dtNot (dtV (dB cIsi (glk (by kernel_rfl)) T.z_isinstance (by kernel_rfl) (daCons (dV 0 (by rfl) (Or.inl (by kernel_rfl))) (daCons (dTyN (glk (by kernel_rfl)) T.z_tuple (by kernel_rfl)) daNil))))) (dwOr1 (dtNot (dtChain oLe oLe dInt (dB cLen (glk (by kernel_rfl)) T.z_len (by kernel_rfl) (daCons (dV 0 (by rfl) (Or.inl (by kernel_rfl))) daNil)) (dV 1 (by rfl) (Or.inl (by kernel_rfl)))))))) (dsOne (dsRet dBl)) dsNil)
    (dsOne (dsRet (dAnd (dB (cAll rfl) (glk (by kernel_rfl)) T.z_all (by kernel_rfl) (daCons (dLc (own := [("name", 2)]) (g := (.nm 2)) rfl sc_are_names.nd  (diSeq (dV 0 (by rfl) (Or.inl (by kernel_rfl)))) (blkOk_by (by kernel_rfl)) (fun _ _ _ _ _ => (dgNm sc_are_names.nd (by rfl) (Or.inl (by kernel_rfl)) (Or.inr (by kernel_rfl)))) (fun _ _ _ _ _ => dtYes) (fun _ _ _ _ _ => (dLend 0 (g_is_called T) (hr.mono (by decide)) hg (glk (by kernel_rfl)) T.m_is_called T.F_is_called.kp (b_is_called T) (daCons (dV 2 (by rfl) (Or.inl (by kernel_rfl))) daNil) l_is_called))) daNil)) (dOne (dCmp (oEq (hu64 hr)) (dLenSet rfl (glk (by kernel_rfl)) T.z_len (glk (by kernel_rfl)) T.z_set (dV 0 (by rfl) (Or.inl (by kernel_rfl)))) (dB cLen (glk (by kernel_rfl)) T.z_len (by kernel_rfl) (daCons (dV 0 (by rfl) (Or.inl (by kernel_rfl))) daNil))))))))
theorem sc_is_integer : FnScope ["thing"] ["thing"] (defScope s_is_integer) := ⟨rfl, rfl, rfl, by decide +kernel, rfl, by decide +kernel, by decide +kernel⟩
theorem g_is_integer (T : Tx K mg) : FnG P w K mg base 1 T.a_is_integer T.fd_is_integer ["thing"] m_is_integer := fnD T.F_is_integer sc_is_integer fun cdv A outer s H E hr hg =>
    (dsOne (dsRet (dAnd (dB cIsi (glk (by kernel_rfl)) T.z_isinstance (by kernel_rfl) (daCons (dV 0 (by rfl) (Or.inl (by kernel_rfl))) (daCons (dTyN (glk (by kernel_rfl)) T.z_int (by kernel_rfl)) daNil))) (dOne (dNot (dB cIsi (glk (by kernel_rfl)) T.z_isinstance (by kernel_rfl) (daCons (dV 0 (by rfl) (Or.inl (by kernel_rfl))) (daCons (dTyN (glk (by kernel_rfl)) T.z_bool (by kernel_rfl)) daNil))))))))
theorem sc_is_world : FnScope ["many", "thing", "number"] ["many", "thing"] (defScope s_is_world) := ⟨rfl, rfl, rfl, by decide +kernel, rfl, by decide +kernel, by decide +kernel⟩
theorem g_is_world (T : Tx K mg) : FnG P w K mg base 2 T.a_is_world T.fd_is_world ["many", "thing"] m_is_world := fnD T.F_is_world sc_is_world fun cdv A outer s H E hr hg =>
    (dsOne (dsRet (dAnd (dB cIsi (glk (by kernel_rfl)) T.z_isinstance (by kernel_rfl) (daCons (dV 1 (by rfl) (Or.inl (by kernel_rfl))) (daCons (dTyN (glk (by kernel_rfl)) T.z_tuple (by kernel_rfl)) daNil))) (dAnd (dCmp (oEq (hu64 hr)) (dB cLen (glk (by kernel_rfl)) T.z_len (by kernel_rfl) (daCons (dV 1 (by rfl) (Or.inl (by kernel_rfl))) daNil)) (dV 0 (by rfl) (Or.inl (by kernel_rfl)))) (dOne (dB (cAll rfl) (glk (by kernel_rfl)) T.z_all (by kernel_rfl) (daCons (dLc (own := [("number", 2)]) (g := (.nm 2)) rfl sc_is_world.nd  (diSeq (dV 1 (by rfl) (Or.inl (by kernel_rfl)))) (blkOk_by (by kernel_rfl)) (fun _ _ _ _ _ => (dgNm sc_is_world.nd (by rfl) (Or.inl (by kernel_rfl)) (Or.inr (by kernel_rfl)))) (fun _ _ _ _ _ => dtYes) (fun _ _ _ _ _ => (dLend 0 (g_is_integer T) (hr.mono (by decide)) hg (glk (by kernel_rfl)) T.m_is_integer T.F_is_integer.kp (b_is_integer T) (daCons (dV 2 (by rfl) (Or.inl (by kernel_rfl))) daNil) l_is_integer))) daNil)))))))
theorem sc_are_ascending : FnScope ["items", "one", "other"] ["items"] (defScope s_are_ascending) := ⟨rfl, rfl, rfl, by decide +kernel, rfl, by decide +kernel, by decide +kernel⟩
theorem g_are_ascending (T : Tx K mg) : FnG P w K mg base 1 T.a_are_ascending T.fd_are_ascending ["items"] m_are_ascending := fnD T.F_are_ascending sc_are_ascending fun cdv A outer s H E hr hg =>
    (dsOne (dsRet (dB (cAll rfl) (glk (by kernel_rfl)) T.z_all (by kernel_rfl) (daCons (dLc (own := [("one", 1), ("other", 2)]) (g := (.tp [(.nm 1), (.nm 2)])) rfl sc_are_ascending.nd  (diZip (glk (by kernel_rfl)) T.z_zip (daCons (dV 0 (by rfl) (Or.inl (by kernel_rfl))) (daCons (dSl (dV 0 (by rfl) (Or.inl (by kernel_rfl))) (doSome dInt) doNo) daNil))) (blkOk_by (by kernel_rfl)) (fun _ _ _ _ _ => (dgTp rfl (dgsCons (dgNm sc_are_ascending.nd (by rfl) (Or.inl (by kernel_rfl)) (Or.inr (by kernel_rfl))) (dgsCons (dgNm sc_are_ascending.nd (by rfl) (Or.inl (by kernel_rfl)) (Or.inr (by kernel_rfl))) dgsNil)))) (fun _ _ _ _ _ => dtYes) (fun _ _ _ _ _ => (dCmp (oLtA (hu0 hr)) (dV 1 (by rfl) (Or.inl (by kernel_rfl))) (dV 2 (by rfl) (Or.inl (by kernel_rfl)))))) daNil))))
theorem sc_are_worlds : FnScope ["many", "thing", "world"] ["many", "thing"] (defScope s_are_worlds) := ⟨rfl, rfl, rfl, by decide +kernel, rfl, by decide +kernel, by decide +kernel⟩
theorem g_are_worlds (T : Tx K mg) : FnG P w K mg base 3 T.a_are_worlds T.fd_are_worlds ["many", "thing"] m_are_worlds := fnD T.F_are_worlds sc_are_worlds fun cdv A outer s H E hr hg =>
    (dsCons (dsIf (dtW (dwOr (dtNot (dtV (dB cIsi (glk (by kernel_rfl)) T.z_isinstance (by kernel_rfl) (daCons (dV 1 (by rfl) (Or.inl (by kernel_rfl))) (daCons (dTyN (glk (by kernel_rfl)) T.z_tuple (by kernel_rfl)) daNil))))) (dwOr (dtCmp (oEq (hu64 hr)) (dV 1 (by rfl) (Or.inl (by kernel_rfl))) (dTup daNil)) (dwOr1 (dtNot (dtV (dB (cAll rfl) (glk (by kernel_rfl)) T.z_all (by kernel_rfl) (daCons (dLc (own := [("world", 2)]) (g := (.nm 2)) rfl sc_are_worlds.nd  (diSeq (dV 1 (by rfl) (Or.inl (by kernel_rfl)))) (blkOk_by (by kernel_rfl)) (fun _ _ _ _ _ => (dgNm sc_are_worlds.nd (by rfl) (Or.inl (by kernel_rfl)) (Or.inr (by kernel_rfl)))) (fun _ _ _ _ _ => dtYes) (fun _ _ _ _ _ => (dLend 0 (g_is_world T) (hr.mono (by decide)) hg (glk (by kernel_rfl)) T.m_is_world T.F_is_world.kp (b_is_world T) (daCons (dV 0 (by rfl) (Or.inr (Or.inl (by kernel_rfl)))) (daCons (dV 2 (by rfl) (Or.inl (by kernel_rfl))) daNil)) l_is_world))) daNil)))))))) (dsOne (dsRet dBl)) dsNil)
    (dsOne (dsRet (dLend 0 (g_are_ascending T) (hr.mono (by decide)) hg (glk (by kernel_rfl)) T.m_are_ascending T.F_are_ascending.kp (b_are_ascending T) (daCons (dV 1 (by rfl) (Or.inl (by kernel_rfl))) daNil) l_are_ascending))))
theorem sc_is_group : FnScope ["many", "thing", "hand"] ["many", "thing"] (defScope s_is_group) := ⟨rfl, rfl, rfl, by decide +kernel, rfl, by decide +kernel, by decide +kernel⟩
theorem g_is_group (T : Tx K mg) : FnG P w K mg base 2 T.a_is_group T.fd_is_group ["many", "thing"] m_is_group := fnD T.F_is_group sc_is_group fun cdv A outer s H E hr hg =>
    (dsCons (dsIf (dtW (dwOr (dtNot (dtV (dB cIsi (glk (by kernel_rfl)) T.z_isinstance (by kernel_rfl) (daCons (dV 1 (by rfl) (Or.inl (by kernel_rfl))) (daCons (dTyN (glk (by kernel_rfl)) T.z_tuple (by kernel_rfl)) daNil))))) (dwOr1 (dtNot (dtV (dB (cAll rfl) (glk (by kernel_rfl)) T.z_all (by kernel_rfl) (daCons (dLc (own := [("hand", 2)]) (g := (.nm 2)) rfl sc_is_group.nd  (diSeq (dV 1 (by rfl) (Or.inl (by kernel_rfl)))) (blkOk_by (by kernel_rfl)) (fun _ _ _ _ _ => (dgNm sc_is_group.nd (by rfl) (Or.inl (by kernel_rfl)) (Or.inr (by kernel_rfl)))) (fun _ _ _ _ _ => dtYes) (fun _ _ _ _ _ => (dAnd (dLend 0 (g_is_integer T) (hr.mono (by decide)) hg (glk (by kernel_rfl)) T.m_is_integer T.F_is_integer.kp (b_is_integer T) (daCons (dV 2 (by rfl) (Or.inl (by kernel_rfl))) daNil) l_is_integer) (dOne (dChain oLe oLt dInt (dV 2 (by rfl) (Or.inl (by kernel_rfl))) (dV 0 (by rfl) (Or.inr (Or.inl (by kernel_rfl))))))))) daNil))))))) (dsOne (dsRet dBl)) dsNil)
    (dsOne (dsRet (dLend 0 (g_are_ascending T) (hr.mono (by decide)) hg (glk (by kernel_rfl)) T.m_are_ascending T.F_are_ascending.kp (b_are_ascending T) (daCons (dV 1 (by rfl) (Or.inl (by kernel_rfl))) daNil) l_are_ascending))))
theorem sc_is_table : FnScope ["size", "thing", "number"] ["size", "thing"] (defScope s_is_table) := ⟨rfl, rfl, rfl, by decide +kernel, rfl, by decide +kernel, by decide +kernel⟩
theorem g_is_table (T : Tx K mg) : FnG P w K mg base 2 T.a_is_table T.fd_is_table ["size", "thing"] m_is_table := fnD T.F_is_table sc_is_table fun cdv A outer s H E hr hg =>
    (dsOne (dsRet (dAnd (dB cIsi (glk (by kernel_rfl)) T.z_isinstance (by kernel_rfl) (daCons (dV 1 (by rfl) (Or.inl (by kernel_rfl))) (daCons (dTyN (glk (by kernel_rfl)) T.z_tuple (by kernel_rfl)) daNil))) (dAnd (dCmp (oEq (hu64 hr)) (dB cLen (glk (by kernel_rfl)) T.z_len (by kernel_rfl) (daCons (dV 1 (by rfl) (Or.inl (by kernel_rfl))) daNil)) (dV 0 (by rfl) (Or.inl (by kernel_rfl)))) (dOne (dB (cAll rfl) (glk (by kernel_rfl)) T.z_all (by kernel_rfl) (daCons (dLc (own := [("number", 2)]) (g := (.nm 2)) rfl sc_is_table.nd  (diSeq (dV 1 (by rfl) (Or.inl (by kernel_rfl)))) (blkOk_by (by kernel_rfl)) (fun _ _ _ _ _ => (dgNm sc_is_table.nd (by rfl) (Or.inl (by kernel_rfl)) (Or.inr (by kernel_rfl)))) (fun _ _ _ _ _ => dtYes) (fun _ _ _ _ _ => (dLend 0 (g_is_integer T) (hr.mono (by decide)) hg (glk (by kernel_rfl)) T.m_is_integer T.F_is_integer.kp (b_is_integer T) (daCons (dV 2 (by rfl) (Or.inl (by kernel_rfl))) daNil) l_is_integer))) daNil)))))))
theorem sc_is_group_table : FnScope ["many", "size", "thing"] ["many", "size", "thing"] (defScope s_is_group_table) := ⟨rfl, rfl, rfl, by decide +kernel, rfl, by decide +kernel, by decide +kernel⟩
theorem g_is_group_table (T : Tx K mg) : FnG P w K mg base 3 T.a_is_group_table T.fd_is_group_table ["many", "size", "thing"] m_is_group_table := fnD T.F_is_group_table sc_is_group_table fun cdv A outer s H E hr hg =>
    (dsOne (dsRet (dAnd (dB cIsi (glk (by kernel_rfl)) T.z_isinstance (by kernel_rfl) (daCons (dV 2 (by rfl) (Or.inl (by kernel_rfl))) (daCons (dTyN (glk (by kernel_rfl)) T.z_tuple (by kernel_rfl)) daNil))) (dAnd (dCmp (oEq (hu64 hr)) (dB cLen (glk (by kernel_rfl)) T.z_len (by kernel_rfl) (daCons (dV 2 (by rfl) (Or.inl (by kernel_rfl))) daNil)) dInt) (dAnd (dLend 0 (g_is_group T) (hr.mono (by decide)) hg (glk (by kernel_rfl)) T.m_is_group T.F_is_group.kp (b_is_group T) (daCons (dV 0 (by rfl) (Or.inl (by kernel_rfl))) (daCons (dIx oIx (dV 2 (by rfl) (Or.inl (by kernel_rfl))) dInt) daNil)) l_is_group) (dOne (dLend 0 (g_is_table T) (hr.mono (by decide)) hg (glk (by kernel_rfl)) T.m_is_table T.F_is_table.kp (b_is_table T) (daCons (dV 1 (by rfl) (Or.inl (by kernel_rfl))) (daCons (dIx oIx (dV 2 (by rfl) (Or.inl (by kernel_rfl))) dInt) daNil)) l_is_table)))))))
theorem sc_are_group_tables : FnScope ["many", "size", "thing", "pair"] ["many", "size", "thing"] (defScope s_are_group_tables) := ⟨rfl, rfl, rfl, by decide +kernel, rfl, by decide +kernel, by decide +kernel⟩
theorem g_are_group_tables (T : Tx K mg) : FnG P w K mg base 4 T.a_are_group_tables T.fd_are_group_tables ["many", "size", "thing"] m_are_group_tables := fnD T.F_are_group_tables sc_are_group_tables fun cdv A outer s H E hr hg =>
    (dsOne (dsRet (dAnd (dB cIsi (glk (by kernel_rfl)) T.z_isinstance (by kernel_rfl) (daCons (dV 2 (by rfl) (Or.inl (by kernel_rfl))) (daCons (dTyN (glk (by kernel_rfl)) T.z_tuple (by kernel_rfl)) daNil))) (dOne (dB (cAll rfl) (glk (by kernel_rfl)) T.z_all (by kernel_rfl) (daCons (dLc (own := [("pair", 3)]) (g := (.nm 3)) rfl sc_are_group_tables.nd  (diSeq (dV 2 (by rfl) (Or.inl (by kernel_rfl)))) (blkOk_by (by kernel_rfl)) (fun _ _ _ _ _ => (dgNm sc_are_group_tables.nd (by rfl) (Or.inl (by kernel_rfl)) (Or.inr (by kernel_rfl)))) (fun _ _ _ _ _ => dtYes) (fun _ _ _ _ _ => (dLend 0 (g_is_group_table T) (hr.mono (by decide)) hg (glk (by kernel_rfl)) T.m_is_group_table T.F_is_group_table.kp (b_is_group_table T) (daCons (dV 0 (by rfl) (Or.inr (Or.inl (by kernel_rfl)))) (daCons (dV 1 (by rfl) (Or.inr (Or.inl (by kernel_rfl)))) (daCons (dV 3 (by rfl) (Or.inl (by kernel_rfl))) daNil))) l_is_group_table))) daNil))))))
theorem sc_check_parts : FnScope ["hands", "worlds", "wants", "limits"] ["hands", "worlds", "wants", "limits"] (defScope s_check_parts) := ⟨rfl, rfl, rfl, by decide +kernel, rfl, by decide +kernel, by decide +kernel⟩
theorem g_check_parts (T : Tx K mg) : FnG P w K mg base 5 T.a_check_parts T.fd_check_parts ["hands", "worlds", "wants", "limits"] m_check_parts := fnD T.F_check_parts sc_check_parts fun cdv A outer s H E hr hg =>
    (dsCons (dsIf (dtNot (dtV (dLend 0 (g_are_names T) (hr.mono (by decide)) hg (glk (by kernel_rfl)) T.m_are_names T.F_are_names.kp (b_are_names T) (daCons (dV 0 (by rfl) (Or.inl (by kernel_rfl))) (daCons (dGInt T.c_MOST_HANDS_cases (glk (by kernel_rfl))) daNil)) l_are_names))) dssNever dsNil)
    (dsCons (dsIf (dtNot (dtV (dLend 0 (g_are_worlds T) (hr.mono (by decide)) hg (glk (by kernel_rfl)) T.m_are_worlds T.F_are_worlds.kp (b_are_worlds T) (daCons (dB cLen (glk (by kernel_rfl)) T.z_len (by kernel_rfl) (daCons (dV 0 (by rfl) (Or.inl (by kernel_rfl))) daNil)) (daCons (dV 1 (by rfl) (Or.inl (by kernel_rfl))) daNil)) l_are_worlds))) dssNever dsNil)
    (dsCons (dsIf (dtNot (dtV (dLend 0 (g_are_group_tables T) (hr.mono (by decide)) hg (glk (by kernel_rfl)) T.m_are_group_tables T.F_are_group_tables.kp (b_are_group_tables T) (daCons (dB cLen (glk (by kernel_rfl)) T.z_len (by kernel_rfl) (daCons (dV 0 (by rfl) (Or.inl (by kernel_rfl))) daNil)) (daCons (dB cLen (glk (by kernel_rfl)) T.z_len (by kernel_rfl) (daCons (dV 1 (by rfl) (Or.inl (by kernel_rfl))) daNil)) (daCons (dV 2 (by rfl) (Or.inl (by kernel_rfl))) daNil))) l_are_group_tables))) dssNever dsNil)
    (dsOne (dsIf (dtNot (dtV (dLend 0 (g_are_group_tables T) (hr.mono (by decide)) hg (glk (by kernel_rfl)) T.m_are_group_tables T.F_are_group_tables.kp (b_are_group_tables T) (daCons (dB cLen (glk (by kernel_rfl)) T.z_len (by kernel_rfl) (daCons (dV 0 (by rfl) (Or.inl (by kernel_rfl))) daNil)) (daCons (dB cLen (glk (by kernel_rfl)) T.z_len (by kernel_rfl) (daCons (dV 1 (by rfl) (Or.inl (by kernel_rfl))) daNil)) (daCons (dV 3 (by rfl) (Or.inl (by kernel_rfl))) daNil))) l_are_group_tables))) dssNever dsNil)))))
theorem sc_Case_init : FnScope ["self", "hands", "worlds", "wants", "limits"] ["self", "hands", "worlds", "wants", "limits"] (defScope s_Case_init) := ⟨rfl, rfl, rfl, by decide +kernel, rfl, by decide +kernel, by decide +kernel⟩
theorem g_Case_init (T : Tx K mg) : FnG P w K mg base 6 T.a_Case_init T.fd_Case_init ["self", "hands", "worlds", "wants", "limits"] m_Case_init := fnD T.F_Case_init sc_Case_init fun cdv A outer s H E hr hg =>
    (dsCons (dsExpr (dLend 0 (g_check_parts T) (hr.mono (by decide)) hg (glk (by kernel_rfl)) T.m_check_parts T.F_check_parts.kp (b_check_parts T) (daCons (dV 1 (by rfl) (Or.inl (by kernel_rfl))) (daCons (dV 2 (by rfl) (Or.inl (by kernel_rfl))) (daCons (dV 3 (by rfl) (Or.inl (by kernel_rfl))) (daCons (dV 4 (by rfl) (Or.inl (by kernel_rfl))) daNil)))) l_check_parts))
    (dsCons (dsFld "Case" T.m_Case T.cl_Case T.na_Case_hands (dV 0 (by rfl) (Or.inl (by kernel_rfl))) (dV 1 (by rfl) (Or.inl (by kernel_rfl))))
    (dsCons (dsFld "Case" T.m_Case T.cl_Case T.na_Case_worlds (dV 0 (by rfl) (Or.inl (by kernel_rfl))) (dV 2 (by rfl) (Or.inl (by kernel_rfl))))
    (dsCons (dsFld "Case" T.m_Case T.cl_Case T.na_Case_wants (dV 0 (by rfl) (Or.inl (by kernel_rfl))) (dV 3 (by rfl) (Or.inl (by kernel_rfl))))
    (dsOne (dsFld "Case" T.m_Case T.cl_Case T.na_Case_limits (dV 0 (by rfl) (Or.inl (by kernel_rfl))) (dV 4 (by rfl) (Or.inl (by kernel_rfl)))))))))
theorem sc__law_code : FnScope ["_law_w"] ["_law_w"] (defScope s__law_code) := ⟨rfl, rfl, rfl, by decide +kernel, rfl, by decide +kernel, by decide +kernel⟩
theorem g__law_code (T : Tx K mg) : FnG P w K mg base 8 T.a__law_code T.fd__law_code ["_law_w"] m__law_code := fnD T.F__law_code sc__law_code fun cdv A outer s H E hr hg =>
    (dsOne (dsRet (dMakeK 0 T.mk_Case T.m_Case (g_Case_init T) (hr.mono (by decide)) hg (glk (by kernel_rfl)) (kb_Case_init_3_wants_limits T) (by exact permL_self [0, 1, 2, 3]) rfl (permL_puts [0, 1, 2, 3]) (by exact l_Case_init) (daCons (dDGet (hu1 hr) (dV 0 (by rfl) (Or.inl (by kernel_rfl))) dStr) (daCons (dTy cTuple (glk (by kernel_rfl)) T.z_tuple (by kernel_rfl) (daCons (dDGet (hu1 hr) (dV 0 (by rfl) (Or.inl (by kernel_rfl))) dStr) daNil)) daNil)) (dkCons (dTy cTuple (glk (by kernel_rfl)) T.z_tuple (by kernel_rfl) (daCons (dDGet (hu1 hr) (dV 0 (by rfl) (Or.inl (by kernel_rfl))) dStr) daNil)) (dkCons (dTy cTuple (glk (by kernel_rfl)) T.z_tuple (by kernel_rfl) (daCons (dDGet (hu1 hr) (dV 0 (by rfl) (Or.inl (by kernel_rfl))) dStr) daNil)) dkNil)))))
theorem sc__law_inputs : FnScope ["_law_rows_here", "_law_k", "_law_row"] ["_law_rows_here"] (defScope s__law_inputs) := ⟨rfl, rfl, rfl, by decide +kernel, rfl, by decide +kernel, by decide +kernel⟩
theorem g__law_inputs (T : Tx K mg) : FnG P w K mg base 1 T.a__law_inputs T.fd__law_inputs ["_law_rows_here"] m__law_inputs := fnD T.F__law_inputs sc__law_inputs fun cdv A outer s H E hr hg =>
    (dsOne (dsRet (dTy cTuple (glk (by kernel_rfl)) T.z_tuple (by kernel_rfl) (daCons (dLc (own := [("_law_k", 1)]) (g := (.nm 1)) rfl sc__law_inputs.nd  (diRng1 (glk (by kernel_rfl)) T.z_range (daCons (dB cLen (glk (by kernel_rfl)) T.z_len (by kernel_rfl) (daCons (dIx oIx (dV 0 (by rfl) (Or.inr (Or.inl (by kernel_rfl)))) dInt) daNil)) daNil)) (blkOk_by (by kernel_rfl)) (fun _ _ _ _ _ => (dgNm sc__law_inputs.nd (by rfl) (Or.inr (by kernel_rfl)) (Or.inl (by kernel_rfl)))) (fun _ _ _ _ _ => dtYes) (fun _ _ _ _ _ => (dTy cTuple (glk (by kernel_rfl)) T.z_tuple (by kernel_rfl) (daCons (dSortSet rfl (glk (by kernel_rfl)) T.z_sorted (glk (by kernel_rfl)) T.z_set (by kernel_rfl) (by kernel_rfl) (dLc (own := [("_law_row", 2)]) (g := (.nm 2)) rfl sc__law_inputs.nd  (diSeq (dV 0 (by rfl) (Or.inr (Or.inl (by kernel_rfl))))) (blkOk_by (by kernel_rfl)) (fun _ _ _ _ _ => (dgNm sc__law_inputs.nd (by rfl) (Or.inl (by kernel_rfl)) (Or.inr (by kernel_rfl)))) (fun _ _ _ _ _ => dtYes) (fun _ _ _ _ _ => (dIx oIx (dV 2 (by rfl) (Or.inl (by kernel_rfl))) (dV 1 (by rfl) (Or.inr (Or.inl (by kernel_rfl)))))))) daNil)))) daNil))))
theorem sc__law_lot : FnScope ["_law_deck_here", "_law_pieces", "_law_at", "_law_some_here", "_law_x"] ["_law_deck_here", "_law_pieces", "_law_at"] (defScope s__law_lot) := ⟨rfl, rfl, rfl, by decide +kernel, rfl, by decide +kernel, by decide +kernel⟩
theorem g__law_lot (T : Tx K mg) : FnG P w K mg base 3 T.a__law_lot T.fd__law_lot ["_law_deck_here", "_law_pieces", "_law_at"] m__law_lot := fnD T.F__law_lot sc__law_lot fun cdv A outer s H E hr hg =>
    (dsCons (dsSetLc (own := [("_law_x", 4)]) (g := (.nm 4)) rfl sc__law_lot.nd (by rfl) (by kernel_rfl) rfl (diSeq (dIx oIx (dV 1 (by rfl) (Or.inl (by kernel_rfl))) (dV 2 (by rfl) (Or.inl (by kernel_rfl))))) (blkOk_by (by kernel_rfl)) (fun _ _ _ _ _ => (dgNm sc__law_lot.nd (by rfl) (Or.inl (by kernel_rfl)) (Or.inr (by kernel_rfl)))) (fun _ _ _ _ _ => (dtOne (dtCmp (oEq (hu64 hr)) (dLend 2 (g__law_draw T) (hr.mono (by decide)) hg (glk (by kernel_rfl)) T.m__law_draw T.F__law_draw.kp (b__law_draw T) (daCons (dV 0 (by rfl) (Or.inr (Or.inl (by kernel_rfl)))) (daCons dInt daNil)) l__law_draw) dInt))) (fun _ _ _ _ _ => (dV 4 (by rfl) (Or.inl (by kernel_rfl)))))
    (dsOne (dsRet (dIf (dtCmp (oNe (hu64 hr)) (dV 3 (by rfl) (Or.inl (by kernel_rfl))) (dLst daNil)) (dTy cTuple (glk (by kernel_rfl)) T.z_tuple (by kernel_rfl) (daCons (dV 3 (by rfl) (Or.inl (by kernel_rfl))) daNil)) (dTup (daCons (dLend 2 (g__law_pick T) (hr.mono (by decide)) hg (glk (by kernel_rfl)) T.m__law_pick T.F__law_pick.kp (b__law_pick T) (daCons (dV 0 (by rfl) (Or.inr (Or.inl (by kernel_rfl)))) (daCons (dIx oIx (dV 1 (by rfl) (Or.inl (by kernel_rfl))) (dV 2 (by rfl) (Or.inl (by kernel_rfl)))) daNil)) l__law_pick) daNil))))))
theorem sc__law_within : FnScope ["_law_w", "_law_pieces", "_law_row", "_law_k"] ["_law_w", "_law_pieces"] (defScope s__law_within) := ⟨rfl, rfl, rfl, by decide +kernel, rfl, by decide +kernel, by decide +kernel⟩
theorem g__law_within (T : Tx K mg) : FnG P w K mg base 1 T.a__law_within T.fd__law_within ["_law_w", "_law_pieces"] m__law_within := fnD T.F__law_within sc__law_within fun cdv A outer s H E hr hg =>
    (dsOne (dsRet (dLc (own := [("_law_row", 2)]) (g := (.nm 2)) rfl sc__law_within.nd  (diSeq (dDGet (hu1 hr) (dV 0 (by rfl) (Or.inl (by kernel_rfl))) dStr)) (blkOk_by (by kernel_rfl)) (fun _ _ _ _ _ => (dgNm sc__law_within.nd (by rfl) (Or.inr (by kernel_rfl)) (Or.inl (by kernel_rfl)))) (fun _ _ _ _ _ => (dtOne (dtCmp (oEq (hu64 hr)) (dLc (own := [("_law_k", 3)]) (g := (.nm 3)) rfl sc__law_within.nd  (diRng1 (glk (by kernel_rfl)) T.z_range (daCons (dB cLen (glk (by kernel_rfl)) T.z_len (by kernel_rfl) (daCons (dV 2 (by rfl) (Or.inr (Or.inl (by kernel_rfl)))) daNil)) daNil)) (blkOk_by (by kernel_rfl)) (fun _ _ _ _ _ => (dgNm sc__law_within.nd (by rfl) (Or.inl (by kernel_rfl)) (Or.inr (by kernel_rfl)))) (fun _ _ _ _ _ => (dtOne (dtCmp (oNotIn (hu65 hr)) (dIx oIx (dV 2 (by rfl) (Or.inr (Or.inl (by kernel_rfl)))) (dV 3 (by rfl) (Or.inl (by kernel_rfl)))) (dIx oIx (dV 1 (by rfl) (Or.inr (Or.inl (by kernel_rfl)))) (dV 3 (by rfl) (Or.inl (by kernel_rfl))))))) (fun _ _ _ _ _ => (dV 3 (by rfl) (Or.inl (by kernel_rfl))))) (dLst daNil)))) (fun _ _ _ _ _ => (dV 2 (by rfl) (Or.inr (Or.inl (by kernel_rfl))))))))
theorem sc_tight : FnScope ["case", "worlds", "hand", "world"] ["case", "worlds"] (defScope s_tight) := ⟨rfl, rfl, rfl, by decide +kernel, rfl, by decide +kernel, by decide +kernel⟩
theorem g_tight (T : Tx K mg) : FnG P w K mg base 1 T.a_tight T.fd_tight ["case", "worlds"] m_tight := fnD T.F_tight sc_tight fun cdv A outer s H E hr hg =>
    (dsOne (dsRet (dTy cTuple (glk (by kernel_rfl)) T.z_tuple (by kernel_rfl) (daCons (dLc (own := [("hand", 2)]) (g := (.nm 2)) rfl sc_tight.nd  (diRng1 (glk (by kernel_rfl)) T.z_range (daCons (dB cLen (glk (by kernel_rfl)) T.z_len (by kernel_rfl) (daCons (dFld "Case" T.m_Case T.cl_Case T.na_Case_hands (dV 0 (by rfl) (Or.inl (by kernel_rfl)))) daNil)) daNil)) (blkOk_by (by kernel_rfl)) (fun _ _ _ _ _ => (dgNm sc_tight.nd (by rfl) (Or.inr (by kernel_rfl)) (Or.inl (by kernel_rfl)))) (fun _ _ _ _ _ => dtYes) (fun _ _ _ _ _ => (dTy cTuple (glk (by kernel_rfl)) T.z_tuple (by kernel_rfl) (daCons (dSortSc (own := [("world", 3)]) (g := (.nm 3)) rfl sc_tight.nd (glk (by kernel_rfl)) T.z_sorted (by kernel_rfl) (diSeq (dV 1 (by rfl) (Or.inr (Or.inl (by kernel_rfl))))) (blkOk_by (by kernel_rfl)) (fun _ _ _ _ _ => (dgNm sc_tight.nd (by rfl) (Or.inl (by kernel_rfl)) (Or.inr (by kernel_rfl)))) (fun _ _ _ _ _ => dtYes) (fun _ _ _ _ _ => (dIx oIx (dV 3 (by rfl) (Or.inl (by kernel_rfl))) (dV 2 (by rfl) (Or.inr (Or.inl (by kernel_rfl))))))) daNil)))) daNil))))
theorem sc_worlds_in : FnScope ["case", "box", "world", "own", "part"] ["case", "box"] (defScope s_worlds_in) := ⟨rfl, rfl, rfl, by decide +kernel, rfl, by decide +kernel, by decide +kernel⟩
theorem g_worlds_in (T : Tx K mg) : FnG P w K mg base 1 T.a_worlds_in T.fd_worlds_in ["case", "box"] m_worlds_in := fnD T.F_worlds_in sc_worlds_in fun cdv A outer s H E hr hg =>
    (dsOne (dsRet (dTy cTuple (glk (by kernel_rfl)) T.z_tuple (by kernel_rfl) (daCons (dLc (own := [("world", 2)]) (g := (.nm 2)) rfl sc_worlds_in.nd  (diSeq (dFld "Case" T.m_Case T.cl_Case T.na_Case_worlds (dV 0 (by rfl) (Or.inl (by kernel_rfl))))) (blkOk_by (by kernel_rfl)) (fun _ _ _ _ _ => (dgNm sc_worlds_in.nd (by rfl) (Or.inl (by kernel_rfl)) (Or.inr (by kernel_rfl)))) (fun _ _ _ _ _ => (dtOne (dtV (dB (cAll rfl) (glk (by kernel_rfl)) T.z_all (by kernel_rfl) (daCons (dLc (own := [("own", 3), ("part", 4)]) (g := (.tp [(.nm 3), (.nm 4)])) rfl sc_worlds_in.nd  (diZip (glk (by kernel_rfl)) T.z_zip (daCons (dV 2 (by rfl) (Or.inl (by kernel_rfl))) (daCons (dV 1 (by rfl) (Or.inr (Or.inl (by kernel_rfl)))) daNil))) (blkOk_by (by kernel_rfl)) (fun _ _ _ _ _ => (dgTp rfl (dgsCons (dgNm sc_worlds_in.nd (by rfl) (Or.inl (by kernel_rfl)) (Or.inr (by kernel_rfl))) (dgsCons (dgNm sc_worlds_in.nd (by rfl) (Or.inl (by kernel_rfl)) (Or.inr (by kernel_rfl))) dgsNil)))) (fun _ _ _ _ _ => dtYes) (fun _ _ _ _ _ => (dCmp (oIn (hu65 hr)) (dV 3 (by rfl) (Or.inl (by kernel_rfl))) (dV 4 (by rfl) (Or.inl (by kernel_rfl)))))) daNil))))) (fun _ _ _ _ _ => (dV 2 (by rfl) (Or.inl (by kernel_rfl))))) daNil))))
theorem sc_told : FnScope ["case", "box", "hand", "part", "world"] ["case", "box", "hand", "part"] (defScope s_told) := ⟨rfl, rfl, rfl, by decide +kernel, rfl, by decide +kernel, by decide +kernel⟩
theorem g_told (T : Tx K mg) : FnG P w K mg base 2 T.a_told T.fd_told ["case", "box", "hand", "part"] m_told := fnD T.F_told sc_told fun cdv A outer s H E hr hg =>
    (dsOne (dsRet (dLend 0 (g_tight T) (hr.mono (by decide)) hg (glk (by kernel_rfl)) T.m_tight T.F_tight.kp (b_tight T) (daCons (dV 0 (by rfl) (Or.inl (by kernel_rfl))) (daCons (dLc (own := [("world", 4)]) (g := (.nm 4)) rfl sc_told.nd  (diSeq (dLend 0 (g_worlds_in T) (hr.mono (by decide)) hg (glk (by kernel_rfl)) T.m_worlds_in T.F_worlds_in.kp (b_worlds_in T) (daCons (dV 0 (by rfl) (Or.inl (by kernel_rfl))) (daCons (dV 1 (by rfl) (Or.inl (by kernel_rfl))) daNil)) l_worlds_in)) (blkOk_by (by kernel_rfl)) (fun _ _ _ _ _ => (dgNm sc_told.nd (by rfl) (Or.inl (by kernel_rfl)) (Or.inr (by kernel_rfl)))) (fun _ _ _ _ _ => (dtOne (dtCmp (oIn (hu65 hr)) (dIx oIx (dV 4 (by rfl) (Or.inl (by kernel_rfl))) (dV 2 (by rfl) (Or.inr (Or.inl (by kernel_rfl))))) (dV 3 (by rfl) (Or.inr (Or.inl (by kernel_rfl))))))) (fun _ _ _ _ _ => (dV 4 (by rfl) (Or.inl (by kernel_rfl))))) daNil)) l_tight)))
theorem sc__law_common : FnScope ["_law_lot_here", "_law_some_here", "_law_x"] ["_law_lot_here", "_law_some_here"] (defScope s__law_common) := ⟨rfl, rfl, rfl, by decide +kernel, rfl, by decide +kernel, by decide +kernel⟩
theorem g__law_common (T : Tx K mg) : FnG P w K mg base 1 T.a__law_common T.fd__law_common ["_law_lot_here", "_law_some_here"] m__law_common := fnD T.F__law_common sc__law_common fun cdv A outer s H E hr hg =>
    (dsOne (dsRet (dTy cTuple (glk (by kernel_rfl)) T.z_tuple (by kernel_rfl) (daCons (dLc (own := [("_law_x", 2)]) (g := (.nm 2)) rfl sc__law_common.nd  (diSeq (dV 0 (by rfl) (Or.inl (by kernel_rfl)))) (blkOk_by (by kernel_rfl)) (fun _ _ _ _ _ => (dgNm sc__law_common.nd (by rfl) (Or.inl (by kernel_rfl)) (Or.inr (by kernel_rfl)))) (fun _ _ _ _ _ => (dtOne (dtCmp (oIn (hu65 hr)) (dV 2 (by rfl) (Or.inl (by kernel_rfl))) (dV 1 (by rfl) (Or.inr (Or.inl (by kernel_rfl))))))) (fun _ _ _ _ _ => (dV 2 (by rfl) (Or.inl (by kernel_rfl))))) daNil))))
theorem sc__law_right : FnScope ["_law_deck_here", "_law_w", "_law_code_here", "_law_many", "_law_turn", "_law_pieces", "_law_at", "_law_lot_here", "_law_rows_here", "_law_left", "_law_due", "_law_found", "_law_to", "_law_more", "_law_first", "_law_last", "_law_few", "_law_k", "_law_row"] ["_law_deck_here"] (defScope s__law_right) := ⟨rfl, rfl, rfl, by decide +kernel, rfl, by decide +kernel, by decide +kernel⟩
theorem g__law_right (T : Tx K mg) : FnG P w K mg base 9 T.a__law_right T.fd__law_right ["_law_deck_here"] m__law_right := fnD T.F__law_right sc__law_right fun cdv A outer s H E hr hg =>
    (dsCons (dsSet (i := 1) sc__law_right.nd (by rfl) (Or.inr (by kernel_rfl)) (dLend 2 (g__law_plan T) (hr.mono (by decide)) hg (glk (by kernel_rfl)) T.m__law_plan T.F__law_plan.kp (b__law_plan T) (daCons (dV 0 (by rfl) (Or.inr (Or.inl (by kernel_rfl)))) (daCons dInt (daCons dInt daNil))) l__law_plan) (hf := Or.inl rfl))
    (dsCons (dsPar (i := 2) (j := 3) rfl sc__law_right.nd (by rfl) (by rfl) (by decide) (by kernel_rfl) (by kernel_rfl) (daCons (dLend 0 (g__law_code T) (hr.mono (by decide)) hg (glk (by kernel_rfl)) T.m__law_code T.F__law_code.kp (b__law_code T) (daCons (dV 1 (by rfl) (Or.inr (Or.inl (by kernel_rfl)))) daNil) l__law_code) (daCons (dB cLen (glk (by kernel_rfl)) T.z_len (by kernel_rfl) (daCons (dDGet (hu1 hr) (dV 1 (by rfl) (Or.inr (Or.inl (by kernel_rfl)))) dStr) daNil)) daNil)))
    (dsCons (dsFor (g := (.nm 4)) PassesOwn.never rfl (diRng1 (glk (by kernel_rfl)) T.z_range (daCons dInt daNil)) (dgNm sc__law_right.nd (by rfl) (Or.inl (by kernel_rfl)) (Or.inl rfl)) (dsCons (dsSet (i := 5) sc__law_right.nd (by rfl) (Or.inl (by kernel_rfl)) (dLend 0 (g__law_inputs T) (hr.mono (by decide)) hg (glk (by kernel_rfl)) T.m__law_inputs T.F__law_inputs.kp (b__law_inputs T) (daCons (dLc (own := [("_law_k", 17)]) (g := (.nm 17)) rfl sc__law_right.nd  (diRng1 (glk (by kernel_rfl)) T.z_range (daCons (d2 oAdd dInt (dLend 2 (g__law_draw T) (hr.mono (by decide)) hg (glk (by kernel_rfl)) T.m__law_draw T.F__law_draw.kp (b__law_draw T) (daCons (dV 0 (by rfl) (Or.inr (Or.inl (by kernel_rfl)))) (daCons dInt daNil)) l__law_draw)) daNil)) (blkOk_by (by kernel_rfl)) (fun _ _ _ _ _ => (dgNm sc__law_right.nd (by rfl) (Or.inl (by kernel_rfl)) (Or.inr (by kernel_rfl)))) (fun _ _ _ _ _ => dtYes) (fun _ _ _ _ _ => (dLend 2 (g__law_pick T) (hr.mono (by decide)) hg (glk (by kernel_rfl)) T.m__law_pick T.F__law_pick.kp (b__law_pick T) (daCons (dV 0 (by rfl) (Or.inr (Or.inl (by kernel_rfl)))) (daCons (dDGet (hu1 hr) (dV 1 (by rfl) (Or.inr (Or.inl (by kernel_rfl)))) dStr) daNil)) l__law_pick))) daNil) l__law_inputs) (hf := Or.inl rfl))
    (dsCons (dsSet (i := 6) sc__law_right.nd (by rfl) (Or.inr (by kernel_rfl)) (dLend 2 (g__law_draw T) (hr.mono (by decide)) hg (glk (by kernel_rfl)) T.m__law_draw T.F__law_draw.kp (b__law_draw T) (daCons (dV 0 (by rfl) (Or.inr (Or.inl (by kernel_rfl)))) (daCons (dV 3 (by rfl) (Or.inl (by kernel_rfl))) daNil)) l__law_draw) (hf := Or.inl rfl))
    (dsCons (dsAsg (g := (.tp [(.nm 7), (.nm 8)])) (dTup (daCons (dLend 2 (g__law_lot T) (hr.mono (by decide)) hg (glk (by kernel_rfl)) T.m__law_lot T.F__law_lot.kp (b__law_lot T) (daCons (dV 0 (by rfl) (Or.inr (Or.inl (by kernel_rfl)))) (daCons (dV 5 (by rfl) (Or.inl (by kernel_rfl))) (daCons (dV 6 (by rfl) (Or.inr (Or.inl (by kernel_rfl)))) daNil))) l__law_lot) (daCons (dLend 0 (g__law_within T) (hr.mono (by decide)) hg (glk (by kernel_rfl)) T.m__law_within T.F__law_within.kp (b__law_within T) (daCons (dV 1 (by rfl) (Or.inr (Or.inl (by kernel_rfl)))) (daCons (dV 5 (by rfl) (Or.inl (by kernel_rfl))) daNil)) l__law_within) daNil))) (dgTp rfl (dgsCons (dgNm sc__law_right.nd (by rfl) (Or.inr (by kernel_rfl)) (Or.inl rfl)) (dgsCons (dgNm sc__law_right.nd (by rfl) (Or.inl (by kernel_rfl)) (Or.inl rfl)) dgsNil))))
    (dsCons (dsSetLc (own := [("_law_row", 18)]) (g := (.nm 18)) rfl sc__law_right.nd (by rfl) (by kernel_rfl) rfl (diSeq (dV 8 (by rfl) (Or.inl (by kernel_rfl)))) (blkOk_by (by kernel_rfl)) (fun _ _ _ _ _ => (dgNm sc__law_right.nd (by rfl) (Or.inl (by kernel_rfl)) (Or.inr (by kernel_rfl)))) (fun _ _ _ _ _ => (dtOne (dtCmp (oIn (hu65 hr)) (dIx oIx (dV 18 (by rfl) (Or.inl (by kernel_rfl))) (dV 6 (by rfl) (Or.inr (Or.inl (by kernel_rfl))))) (dV 7 (by rfl) (Or.inr (Or.inl (by kernel_rfl))))))) (fun _ _ _ _ _ => (dV 18 (by rfl) (Or.inl (by kernel_rfl)))))
    (dsCons (dsSet (i := 10) sc__law_right.nd (by rfl) (Or.inl (by kernel_rfl)) (dLend 0 (g__law_inputs T) (hr.mono (by decide)) hg (glk (by kernel_rfl)) T.m__law_inputs T.F__law_inputs.kp (b__law_inputs T) (daCons (dV 9 (by rfl) (Or.inl (by kernel_rfl))) daNil) l__law_inputs) (hf := Or.inl rfl))
    (dsCons (dsSet (i := 11) sc__law_right.nd (by rfl) (Or.inl (by kernel_rfl)) (dLst (daCons (dLend 0 (g_told T) (hr.mono (by decide)) hg (glk (by kernel_rfl)) T.m_told T.F_told.kp (b_told T) (daCons (dV 2 (by rfl) (Or.inl (by kernel_rfl))) (daCons (dV 5 (by rfl) (Or.inl (by kernel_rfl))) (daCons (dV 6 (by rfl) (Or.inr (Or.inl (by kernel_rfl)))) (daCons (dV 7 (by rfl) (Or.inr (Or.inl (by kernel_rfl)))) daNil)))) l_told) (daCons (dCallK0 0 (g_told T) (hr.mono (by decide)) hg (glk (by kernel_rfl)) T.m_told T.F_told.kp (kb_told_0_part_hand_box_case T) (permL_puts [3, 2, 1, 0]) (by exact l_told) (dkCons (dV 7 (by rfl) (Or.inr (Or.inl (by kernel_rfl)))) (dkCons (dV 6 (by rfl) (Or.inr (Or.inl (by kernel_rfl)))) (dkCons (dV 5 (by rfl) (Or.inl (by kernel_rfl))) (dkCons (dV 2 (by rfl) (Or.inl (by kernel_rfl))) dkNil))))) daNil))) (hf := Or.inl rfl))
    (dsCons (dsIf (dtCmp (oNe (hu64 hr)) (dB (cRepr hg (hu80 hr)) (glk (by kernel_rfl)) T.z_repr (by kernel_rfl) (daCons (dV 11 (by rfl) (Or.inl (by kernel_rfl))) daNil)) (dB (cRepr hg (hu80 hr)) (glk (by kernel_rfl)) T.z_repr (by kernel_rfl) (daCons (dLst (daCons (dV 10 (by rfl) (Or.inl (by kernel_rfl))) (daCons (dV 10 (by rfl) (Or.inl (by kernel_rfl))) daNil))) daNil))) (dsOne (dsRet dBl)) dsNil)
    (dsCons (dsIf (dtCmp (oNe (hu64 hr)) (dB (cRepr hg (hu80 hr)) (glk (by kernel_rfl)) T.z_repr (by kernel_rfl) (daCons (dLend 0 (g_worlds_in T) (hr.mono (by decide)) hg (glk (by kernel_rfl)) T.m_worlds_in T.F_worlds_in.kp (b_worlds_in T) (daCons (dV 2 (by rfl) (Or.inl (by kernel_rfl))) (daCons (dV 10 (by rfl) (Or.inl (by kernel_rfl))) daNil)) l_worlds_in) daNil)) (dB (cRepr hg (hu80 hr)) (glk (by kernel_rfl)) T.z_repr (by kernel_rfl) (daCons (dTy cTuple (glk (by kernel_rfl)) T.z_tuple (by kernel_rfl) (daCons (dV 9 (by rfl) (Or.inl (by kernel_rfl))) daNil)) daNil))) (dsOne (dsRet dBl)) dsNil)
    (dsCons (dsIf (dtCmp (oNe (hu64 hr)) (dB (cRepr hg (hu80 hr)) (glk (by kernel_rfl)) T.z_repr (by kernel_rfl) (daCons (dLend 0 (g_told T) (hr.mono (by decide)) hg (glk (by kernel_rfl)) T.m_told T.F_told.kp (b_told T) (daCons (dV 2 (by rfl) (Or.inl (by kernel_rfl))) (daCons (dV 5 (by rfl) (Or.inl (by kernel_rfl))) (daCons (dV 6 (by rfl) (Or.inr (Or.inl (by kernel_rfl)))) (daCons (dIx oIx (dV 5 (by rfl) (Or.inl (by kernel_rfl))) (dV 6 (by rfl) (Or.inr (Or.inl (by kernel_rfl))))) daNil)))) l_told) daNil)) (dB (cRepr hg (hu80 hr)) (glk (by kernel_rfl)) T.z_repr (by kernel_rfl) (daCons (dV 5 (by rfl) (Or.inl (by kernel_rfl))) daNil))) (dsOne (dsRet dBl)) dsNil)
    (dsCons (dsSet (i := 12) sc__law_right.nd (by rfl) (Or.inl (by kernel_rfl)) (dLend 2 (g__law_draw T) (hr.mono (by decide)) hg (glk (by kernel_rfl)) T.m__law_draw T.F__law_draw.kp (b__law_draw T) (daCons (dV 0 (by rfl) (Or.inr (Or.inl (by kernel_rfl)))) (daCons (dV 3 (by rfl) (Or.inl (by kernel_rfl))) daNil)) l__law_draw) (hf := Or.inl rfl))
    (dsCons (dsSet (i := 13) sc__law_right.nd (by rfl) (Or.inl (by kernel_rfl)) (dLend 2 (g__law_lot T) (hr.mono (by decide)) hg (glk (by kernel_rfl)) T.m__law_lot T.F__law_lot.kp (b__law_lot T) (daCons (dV 0 (by rfl) (Or.inr (Or.inl (by kernel_rfl)))) (daCons (dV 10 (by rfl) (Or.inl (by kernel_rfl))) (daCons (dV 12 (by rfl) (Or.inl (by kernel_rfl))) daNil))) l__law_lot) (hf := Or.inl rfl))
    (dsCons (dsPar (i := 14) (j := 15) rfl sc__law_right.nd (by rfl) (by rfl) (by decide) (by kernel_rfl) (by kernel_rfl) (daCons (dLend 0 (g_told T) (hr.mono (by decide)) hg (glk (by kernel_rfl)) T.m_told T.F_told.kp (b_told T) (daCons (dV 2 (by rfl) (Or.inl (by kernel_rfl))) (daCons (dV 5 (by rfl) (Or.inl (by kernel_rfl))) (daCons (dV 12 (by rfl) (Or.inl (by kernel_rfl))) (daCons (dV 13 (by rfl) (Or.inl (by kernel_rfl))) daNil)))) l_told) (daCons (dLend 0 (g_told T) (hr.mono (by decide)) hg (glk (by kernel_rfl)) T.m_told T.F_told.kp (b_told T) (daCons (dV 2 (by rfl) (Or.inl (by kernel_rfl))) (daCons (dV 10 (by rfl) (Or.inl (by kernel_rfl))) (daCons (dV 12 (by rfl) (Or.inl (by kernel_rfl))) (daCons (dV 13 (by rfl) (Or.inl (by kernel_rfl))) daNil)))) l_told) daNil)))
    (dsOne (dsIf (dtCmp (oNe (hu64 hr)) (dV 12 (by rfl) (Or.inl (by kernel_rfl))) (dV 6 (by rfl) (Or.inr (Or.inl (by kernel_rfl))))) (dsCons (dsSet (i := 16) sc__law_right.nd (by rfl) (Or.inl (by kernel_rfl)) (dLend 0 (g__law_common T) (hr.mono (by decide)) hg (glk (by kernel_rfl)) T.m__law_common T.F__law_common.kp (b__law_common T) (daCons (dV 7 (by rfl) (Or.inr (Or.inl (by kernel_rfl)))) (daCons (dIx oIx (dV 14 (by rfl) (Or.inl (by kernel_rfl))) (dV 6 (by rfl) (Or.inr (Or.inl (by kernel_rfl))))) daNil)) l__law_common) (hf := Or.inl rfl))
    (dsOne (dsIf (dtCmp (oNe (hu64 hr)) (dB (cRepr hg (hu80 hr)) (glk (by kernel_rfl)) T.z_repr (by kernel_rfl) (daCons (dV 15 (by rfl) (Or.inl (by kernel_rfl))) daNil)) (dB (cRepr hg (hu80 hr)) (glk (by kernel_rfl)) T.z_repr (by kernel_rfl) (daCons (dLend 0 (g_told T) (hr.mono (by decide)) hg (glk (by kernel_rfl)) T.m_told T.F_told.kp (b_told T) (daCons (dV 2 (by rfl) (Or.inl (by kernel_rfl))) (daCons (dV 14 (by rfl) (Or.inl (by kernel_rfl))) (daCons (dV 6 (by rfl) (Or.inr (Or.inl (by kernel_rfl)))) (daCons (dV 16 (by rfl) (Or.inl (by kernel_rfl))) daNil)))) l_told) daNil))) (dsOne (dsRet dBl)) dsNil))) dsNil)))))))))))))))
    (dsOne (dsRet dBl)))))
theorem sc_law : FnScope ["_law_script", "_law_deck_here", "_law_go"] ["_law_script"] (defScope s_law) := ⟨rfl, rfl, rfl, by decide +kernel, rfl, by decide +kernel, by decide +kernel⟩
theorem g_law (T : Tx K mg) : FnG P w K mg base 10 T.a_law T.fd_law ["_law_script"] m_law := fnD T.F_law sc_law fun cdv A outer s H E hr hg =>
    (dsCons (dsSet (i := 1) sc_law.nd (by rfl) (Or.inl (by kernel_rfl)) (dCall (g__law_deck T) (hr.mono (by decide)) hg (glk (by kernel_rfl)) T.m__law_deck T.F__law_deck.kp (b__law_deck T) (daCons (dV 0 (by rfl) (Or.inl (by kernel_rfl))) daNil) l__law_deck) (hf := Or.inl rfl))
    (dsCons (dsFor (g := (.nm 2)) PassesOwn.never rfl (diRng1 (glk (by kernel_rfl)) T.z_range (daCons dInt daNil)) (dgNm sc_law.nd (by rfl) (Or.inl (by kernel_rfl)) (Or.inl rfl)) (dsOne (dsIf (dtNot (dtV (dLend 2 (g__law_right T) (hr.mono (by decide)) hg (glk (by kernel_rfl)) T.m__law_right T.F__law_right.kp (b__law_right T) (daCons (dV 1 (by rfl) (Or.inl (by kernel_rfl))) daNil) l__law_right))) (dsOne (dsRet dBl)) dsNil)))
    (dsOne (dsRet dBl))))
end
theorem tx_end {l : PySem.W.OpenLaw} {w : World} {K : PySem.W.Frag} {h : Heap} {mg : Str → Option Value} {fa : Addr} (KX : K.In h) (G : h.Ns mainGlobals mg) (hfa : mg "law" = some (.ref fa))
    {a__law_deck : Addr} {od__law_deck an__law_deck : Option Addr} {sl__law_deck : Array (Option Value)} {oc__law_deck kV__law_deck dc__law_deck pm__law_deck cd__law_deck ct__law_deck : Value}
    {a__law_draw : Addr} {od__law_draw an__law_draw : Option Addr} {sl__law_draw : Array (Option Value)} {oc__law_draw kV__law_draw dc__law_draw pm__law_draw cd__law_draw ct__law_draw : Value}
    {a__law_pick : Addr} {od__law_pick an__law_pick : Option Addr} {sl__law_pick : Array (Option Value)} {oc__law_pick kV__law_pick dc__law_pick pm__law_pick cd__law_pick ct__law_pick : Value}
    {a__law_rows : Addr} {od__law_rows an__law_rows : Option Addr} {sl__law_rows : Array (Option Value)} {oc__law_rows kV__law_rows dc__law_rows pm__law_rows cd__law_rows ct__law_rows : Value}
    {a__law_some : Addr} {od__law_some an__law_some : Option Addr} {sl__law_some : Array (Option Value)} {oc__law_some kV__law_some dc__law_some pm__law_some cd__law_some ct__law_some : Value}
    {a__law_marks : Addr} {od__law_marks an__law_marks : Option Addr} {sl__law_marks : Array (Option Value)} {oc__law_marks kV__law_marks dc__law_marks pm__law_marks cd__law_marks ct__law_marks : Value}
    {a__law_plan : Addr} {od__law_plan an__law_plan : Option Addr} {sl__law_plan : Array (Option Value)} {oc__law_plan kV__law_plan dc__law_plan pm__law_plan cd__law_plan ct__law_plan : Value}
    {a_is_called : Addr} {od_is_called an_is_called : Option Addr} {sl_is_called : Array (Option Value)} {oc_is_called kV_is_called dc_is_called pm_is_called cd_is_called ct_is_called : Value}
    {a_are_names : Addr} {od_are_names an_are_names : Option Addr} {sl_are_names : Array (Option Value)} {oc_are_names kV_are_names dc_are_names pm_are_names cd_are_names ct_are_names : Value}
    {a_is_integer : Addr} {od_is_integer an_is_integer : Option Addr} {sl_is_integer : Array (Option Value)} {oc_is_integer kV_is_integer dc_is_integer pm_is_integer cd_is_integer ct_is_integer : Value}
    {a_is_world : Addr} {od_is_world an_is_world : Option Addr} {sl_is_world : Array (Option Value)} {oc_is_world kV_is_world dc_is_world pm_is_world cd_is_world ct_is_world : Value}
    {a_are_ascending : Addr} {od_are_ascending an_are_ascending : Option Addr} {sl_are_ascending : Array (Option Value)} {oc_are_ascending kV_are_ascending dc_are_ascending pm_are_ascending cd_are_ascending ct_are_ascending : Value}
    {a_are_worlds : Addr} {od_are_worlds an_are_worlds : Option Addr} {sl_are_worlds : Array (Option Value)} {oc_are_worlds kV_are_worlds dc_are_worlds pm_are_worlds cd_are_worlds ct_are_worlds : Value}
    {a_is_group : Addr} {od_is_group an_is_group : Option Addr} {sl_is_group : Array (Option Value)} {oc_is_group kV_is_group dc_is_group pm_is_group cd_is_group ct_is_group : Value}
    {a_is_table : Addr} {od_is_table an_is_table : Option Addr} {sl_is_table : Array (Option Value)} {oc_is_table kV_is_table dc_is_table pm_is_table cd_is_table ct_is_table : Value}
    {a_is_group_table : Addr} {od_is_group_table an_is_group_table : Option Addr} {sl_is_group_table : Array (Option Value)} {oc_is_group_table kV_is_group_table dc_is_group_table pm_is_group_table cd_is_group_table ct_is_group_table : Value}
    {a_are_group_tables : Addr} {od_are_group_tables an_are_group_tables : Option Addr} {sl_are_group_tables : Array (Option Value)} {oc_are_group_tables kV_are_group_tables dc_are_group_tables pm_are_group_tables cd_are_group_tables ct_are_group_tables : Value}
    {a_check_parts : Addr} {od_check_parts an_check_parts : Option Addr} {sl_check_parts : Array (Option Value)} {oc_check_parts kV_check_parts dc_check_parts pm_check_parts cd_check_parts ct_check_parts : Value}
    {a_Case_init : Addr} {od_Case_init an_Case_init : Option Addr} {sl_Case_init : Array (Option Value)} {oc_Case_init kV_Case_init dc_Case_init pm_Case_init cd_Case_init ct_Case_init : Value}
    {a__law_code : Addr} {od__law_code an__law_code : Option Addr} {sl__law_code : Array (Option Value)} {oc__law_code kV__law_code dc__law_code pm__law_code cd__law_code ct__law_code : Value}
    {a__law_inputs : Addr} {od__law_inputs an__law_inputs : Option Addr} {sl__law_inputs : Array (Option Value)} {oc__law_inputs kV__law_inputs dc__law_inputs pm__law_inputs cd__law_inputs ct__law_inputs : Value}
    {a__law_lot : Addr} {od__law_lot an__law_lot : Option Addr} {sl__law_lot : Array (Option Value)} {oc__law_lot kV__law_lot dc__law_lot pm__law_lot cd__law_lot ct__law_lot : Value}
    {a__law_within : Addr} {od__law_within an__law_within : Option Addr} {sl__law_within : Array (Option Value)} {oc__law_within kV__law_within dc__law_within pm__law_within cd__law_within ct__law_within : Value}
    {a_tight : Addr} {od_tight an_tight : Option Addr} {sl_tight : Array (Option Value)} {oc_tight kV_tight dc_tight pm_tight cd_tight ct_tight : Value}
    {a_worlds_in : Addr} {od_worlds_in an_worlds_in : Option Addr} {sl_worlds_in : Array (Option Value)} {oc_worlds_in kV_worlds_in dc_worlds_in pm_worlds_in cd_worlds_in ct_worlds_in : Value}
    {a_told : Addr} {od_told an_told : Option Addr} {sl_told : Array (Option Value)} {oc_told kV_told dc_told pm_told cd_told ct_told : Value}
    {a__law_common : Addr} {od__law_common an__law_common : Option Addr} {sl__law_common : Array (Option Value)} {oc__law_common kV__law_common dc__law_common pm__law_common cd__law_common ct__law_common : Value}
    {a__law_right : Addr} {od__law_right an__law_right : Option Addr} {sl__law_right : Array (Option Value)} {oc__law_right kV__law_right dc__law_right pm__law_right cd__law_right ct__law_right : Value}
    {a_law : Addr} {od_law an_law : Option Addr} {sl_law : Array (Option Value)} {oc_law kV_law dc_law pm_law cd_law ct_law : Value}
    {a_Case : Addr}
    {t_MOST_SIGNS : Tok}
    {ac_BARRED : Addr} {t0_BARRED t1_BARRED t2_BARRED t3_BARRED t4_BARRED : Tok} {odc_BARRED : Option Addr} {nc_BARRED : Nat} {slc_BARRED : Array (Option Value)}
    {t_LETTERS : Tok}
    {t_DIGITS : Tok}
    {t_MOST_HANDS_cases : Tok}
    (n_Case : PySem.W.nsIn K mainGlobals "Case" = some (some (.ref a_Case)))
    (n__law_deck : PySem.W.nsIn K mainGlobals "_law_deck" = some (some (.ref a__law_deck)))
    (lk__law_deck : K.lookup a__law_deck = some ⟨oc__law_deck, od__law_deck, .func (PySem.W.fnOf "_law_deck" "_law_deck" (defArgs s__law_deck) (defBody s__law_deck) (defScope s__law_deck) .none kV__law_deck dc__law_deck pm__law_deck an__law_deck cd__law_deck ct__law_deck), sl__law_deck⟩)
    (co__law_deck : PySem.W.codeIn K cd__law_deck "_law_deck" = true)
    (kp__law_deck : PySem.W.keepIn K (.ref a__law_deck) = true)
    (n__law_draw : PySem.W.nsIn K mainGlobals "_law_draw" = some (some (.ref a__law_draw)))
    (lk__law_draw : K.lookup a__law_draw = some ⟨oc__law_draw, od__law_draw, .func (PySem.W.fnOf "_law_draw" "_law_draw" (defArgs s__law_draw) (defBody s__law_draw) (defScope s__law_draw) .none kV__law_draw dc__law_draw pm__law_draw an__law_draw cd__law_draw ct__law_draw), sl__law_draw⟩)
    (co__law_draw : PySem.W.codeIn K cd__law_draw "_law_draw" = true)
    (kp__law_draw : PySem.W.keepIn K (.ref a__law_draw) = true)
    (n__law_pick : PySem.W.nsIn K mainGlobals "_law_pick" = some (some (.ref a__law_pick)))
    (lk__law_pick : K.lookup a__law_pick = some ⟨oc__law_pick, od__law_pick, .func (PySem.W.fnOf "_law_pick" "_law_pick" (defArgs s__law_pick) (defBody s__law_pick) (defScope s__law_pick) .none kV__law_pick dc__law_pick pm__law_pick an__law_pick cd__law_pick ct__law_pick), sl__law_pick⟩)
    (co__law_pick : PySem.W.codeIn K cd__law_pick "_law_pick" = true)
    (kp__law_pick : PySem.W.keepIn K (.ref a__law_pick) = true)
    (n__law_rows : PySem.W.nsIn K mainGlobals "_law_rows" = some (some (.ref a__law_rows)))
    (lk__law_rows : K.lookup a__law_rows = some ⟨oc__law_rows, od__law_rows, .func (PySem.W.fnOf "_law_rows" "_law_rows" (defArgs s__law_rows) (defBody s__law_rows) (defScope s__law_rows) .none kV__law_rows dc__law_rows pm__law_rows an__law_rows cd__law_rows ct__law_rows), sl__law_rows⟩)
    (co__law_rows : PySem.W.codeIn K cd__law_rows "_law_rows" = true)
    (kp__law_rows : PySem.W.keepIn K (.ref a__law_rows) = true)
    (n__law_some : PySem.W.nsIn K mainGlobals "_law_some" = some (some (.ref a__law_some)))
    (lk__law_some : K.lookup a__law_some = some ⟨oc__law_some, od__law_some, .func (PySem.W.fnOf "_law_some" "_law_some" (defArgs s__law_some) (defBody s__law_some) (defScope s__law_some) .none kV__law_some dc__law_some pm__law_some an__law_some cd__law_some ct__law_some), sl__law_some⟩)
    (co__law_some : PySem.W.codeIn K cd__law_some "_law_some" = true)
    (kp__law_some : PySem.W.keepIn K (.ref a__law_some) = true)
    (n__law_marks : PySem.W.nsIn K mainGlobals "_law_marks" = some (some (.ref a__law_marks)))
    (lk__law_marks : K.lookup a__law_marks = some ⟨oc__law_marks, od__law_marks, .func (PySem.W.fnOf "_law_marks" "_law_marks" (defArgs s__law_marks) (defBody s__law_marks) (defScope s__law_marks) .none kV__law_marks dc__law_marks pm__law_marks an__law_marks cd__law_marks ct__law_marks), sl__law_marks⟩)
    (co__law_marks : PySem.W.codeIn K cd__law_marks "_law_marks" = true)
    (kp__law_marks : PySem.W.keepIn K (.ref a__law_marks) = true)
    (n__law_plan : PySem.W.nsIn K mainGlobals "_law_plan" = some (some (.ref a__law_plan)))
    (lk__law_plan : K.lookup a__law_plan = some ⟨oc__law_plan, od__law_plan, .func (PySem.W.fnOf "_law_plan" "_law_plan" (defArgs s__law_plan) (defBody s__law_plan) (defScope s__law_plan) .none kV__law_plan dc__law_plan pm__law_plan an__law_plan cd__law_plan ct__law_plan), sl__law_plan⟩)
    (co__law_plan : PySem.W.codeIn K cd__law_plan "_law_plan" = true)
    (kp__law_plan : PySem.W.keepIn K (.ref a__law_plan) = true)
    (n_is_called : PySem.W.nsIn K mainGlobals "is_called" = some (some (.ref a_is_called)))
    (lk_is_called : K.lookup a_is_called = some ⟨oc_is_called, od_is_called, .func (PySem.W.fnOf "is_called" "is_called" (defArgs s_is_called) (defBody s_is_called) (defScope s_is_called) .none kV_is_called dc_is_called pm_is_called an_is_called cd_is_called ct_is_called), sl_is_called⟩)
    (co_is_called : PySem.W.codeIn K cd_is_called "is_called" = true)
    (kp_is_called : PySem.W.keepIn K (.ref a_is_called) = true)
    (n_are_names : PySem.W.nsIn K mainGlobals "are_names" = some (some (.ref a_are_names)))
    (lk_are_names : K.lookup a_are_names = some ⟨oc_are_names, od_are_names, .func (PySem.W.fnOf "are_names" "are_names" (defArgs s_are_names) (defBody s_are_names) (defScope s_are_names) .none kV_are_names dc_are_names pm_are_names an_are_names cd_are_names ct_are_names), sl_are_names⟩)
    (co_are_names : PySem.W.codeIn K cd_are_names "are_names" = true)
    (kp_are_names : PySem.W.keepIn K (.ref a_are_names) = true)
    (n_is_integer : PySem.W.nsIn K mainGlobals "is_integer" = some (some (.ref a_is_integer)))
    (lk_is_integer : K.lookup a_is_integer = some ⟨oc_is_integer, od_is_integer, .func (PySem.W.fnOf "is_integer" "is_integer" (defArgs s_is_integer) (defBody s_is_integer) (defScope s_is_integer) .none kV_is_integer dc_is_integer pm_is_integer an_is_integer cd_is_integer ct_is_integer), sl_is_integer⟩)
    (co_is_integer : PySem.W.codeIn K cd_is_integer "is_integer" = true)
    (kp_is_integer : PySem.W.keepIn K (.ref a_is_integer) = true)
    (n_is_world : PySem.W.nsIn K mainGlobals "is_world" = some (some (.ref a_is_world)))
    (lk_is_world : K.lookup a_is_world = some ⟨oc_is_world, od_is_world, .func (PySem.W.fnOf "is_world" "is_world" (defArgs s_is_world) (defBody s_is_world) (defScope s_is_world) .none kV_is_world dc_is_world pm_is_world an_is_world cd_is_world ct_is_world), sl_is_world⟩)
    (co_is_world : PySem.W.codeIn K cd_is_world "is_world" = true)
    (kp_is_world : PySem.W.keepIn K (.ref a_is_world) = true)
    (n_are_ascending : PySem.W.nsIn K mainGlobals "are_ascending" = some (some (.ref a_are_ascending)))
    (lk_are_ascending : K.lookup a_are_ascending = some ⟨oc_are_ascending, od_are_ascending, .func (PySem.W.fnOf "are_ascending" "are_ascending" (defArgs s_are_ascending) (defBody s_are_ascending) (defScope s_are_ascending) .none kV_are_ascending dc_are_ascending pm_are_ascending an_are_ascending cd_are_ascending ct_are_ascending), sl_are_ascending⟩)
    (co_are_ascending : PySem.W.codeIn K cd_are_ascending "are_ascending" = true)
    (kp_are_ascending : PySem.W.keepIn K (.ref a_are_ascending) = true)
    (n_are_worlds : PySem.W.nsIn K mainGlobals "are_worlds" = some (some (.ref a_are_worlds)))
    (lk_are_worlds : K.lookup a_are_worlds = some ⟨oc_are_worlds, od_are_worlds, .func (PySem.W.fnOf "are_worlds" "are_worlds" (defArgs s_are_worlds) (defBody s_are_worlds) (defScope s_are_worlds) .none kV_are_worlds dc_are_worlds pm_are_worlds an_are_worlds cd_are_worlds ct_are_worlds), sl_are_worlds⟩)
    (co_are_worlds : PySem.W.codeIn K cd_are_worlds "are_worlds" = true)
    (kp_are_worlds : PySem.W.keepIn K (.ref a_are_worlds) = true)
    (n_is_group : PySem.W.nsIn K mainGlobals "is_group" = some (some (.ref a_is_group)))
    (lk_is_group : K.lookup a_is_group = some ⟨oc_is_group, od_is_group, .func (PySem.W.fnOf "is_group" "is_group" (defArgs s_is_group) (defBody s_is_group) (defScope s_is_group) .none kV_is_group dc_is_group pm_is_group an_is_group cd_is_group ct_is_group), sl_is_group⟩)
    (co_is_group : PySem.W.codeIn K cd_is_group "is_group" = true)
    (kp_is_group : PySem.W.keepIn K (.ref a_is_group) = true)
    (n_is_table : PySem.W.nsIn K mainGlobals "is_table" = some (some (.ref a_is_table)))
    (lk_is_table : K.lookup a_is_table = some ⟨oc_is_table, od_is_table, .func (PySem.W.fnOf "is_table" "is_table" (defArgs s_is_table) (defBody s_is_table) (defScope s_is_table) .none kV_is_table dc_is_table pm_is_table an_is_table cd_is_table ct_is_table), sl_is_table⟩)
    (co_is_table : PySem.W.codeIn K cd_is_table "is_table" = true)
    (kp_is_table : PySem.W.keepIn K (.ref a_is_table) = true)
    (n_is_group_table : PySem.W.nsIn K mainGlobals "is_group_table" = some (some (.ref a_is_group_table)))
    (lk_is_group_table : K.lookup a_is_group_table = some ⟨oc_is_group_table, od_is_group_table, .func (PySem.W.fnOf "is_group_table" "is_group_table" (defArgs s_is_group_table) (defBody s_is_group_table) (defScope s_is_group_table) .none kV_is_group_table dc_is_group_table pm_is_group_table an_is_group_table cd_is_group_table ct_is_group_table), sl_is_group_table⟩)
    (co_is_group_table : PySem.W.codeIn K cd_is_group_table "is_group_table" = true)
    (kp_is_group_table : PySem.W.keepIn K (.ref a_is_group_table) = true)
    (n_are_group_tables : PySem.W.nsIn K mainGlobals "are_group_tables" = some (some (.ref a_are_group_tables)))
    (lk_are_group_tables : K.lookup a_are_group_tables = some ⟨oc_are_group_tables, od_are_group_tables, .func (PySem.W.fnOf "are_group_tables" "are_group_tables" (defArgs s_are_group_tables) (defBody s_are_group_tables) (defScope s_are_group_tables) .none kV_are_group_tables dc_are_group_tables pm_are_group_tables an_are_group_tables cd_are_group_tables ct_are_group_tables), sl_are_group_tables⟩)
    (co_are_group_tables : PySem.W.codeIn K cd_are_group_tables "are_group_tables" = true)
    (kp_are_group_tables : PySem.W.keepIn K (.ref a_are_group_tables) = true)
    (n_check_parts : PySem.W.nsIn K mainGlobals "check_parts" = some (some (.ref a_check_parts)))
    (lk_check_parts : K.lookup a_check_parts = some ⟨oc_check_parts, od_check_parts, .func (PySem.W.fnOf "check_parts" "check_parts" (defArgs s_check_parts) (defBody s_check_parts) (defScope s_check_parts) .none kV_check_parts dc_check_parts pm_check_parts an_check_parts cd_check_parts ct_check_parts), sl_check_parts⟩)
    (co_check_parts : PySem.W.codeIn K cd_check_parts "check_parts" = true)
    (kp_check_parts : PySem.W.keepIn K (.ref a_check_parts) = true)
    (n_Case_init : PySem.W.findIn K (.ref a_Case) "__init__" = some (some (.ref a_Case_init)))
    (lk_Case_init : K.lookup a_Case_init = some ⟨oc_Case_init, od_Case_init, .func (PySem.W.fnOf "__init__" "Case.__init__" (defArgs s_Case_init) (defBody s_Case_init) (defScope s_Case_init) .none kV_Case_init dc_Case_init pm_Case_init an_Case_init cd_Case_init ct_Case_init), sl_Case_init⟩)
    (co_Case_init : PySem.W.codeIn K cd_Case_init "Case.__init__" = true)
    (kp_Case_init : PySem.W.keepIn K (.ref a_Case_init) = true)
    (n__law_code : PySem.W.nsIn K mainGlobals "_law_code" = some (some (.ref a__law_code)))
    (lk__law_code : K.lookup a__law_code = some ⟨oc__law_code, od__law_code, .func (PySem.W.fnOf "_law_code" "_law_code" (defArgs s__law_code) (defBody s__law_code) (defScope s__law_code) .none kV__law_code dc__law_code pm__law_code an__law_code cd__law_code ct__law_code), sl__law_code⟩)
    (co__law_code : PySem.W.codeIn K cd__law_code "_law_code" = true)
    (kp__law_code : PySem.W.keepIn K (.ref a__law_code) = true)
    (n__law_inputs : PySem.W.nsIn K mainGlobals "_law_inputs" = some (some (.ref a__law_inputs)))
    (lk__law_inputs : K.lookup a__law_inputs = some ⟨oc__law_inputs, od__law_inputs, .func (PySem.W.fnOf "_law_inputs" "_law_inputs" (defArgs s__law_inputs) (defBody s__law_inputs) (defScope s__law_inputs) .none kV__law_inputs dc__law_inputs pm__law_inputs an__law_inputs cd__law_inputs ct__law_inputs), sl__law_inputs⟩)
    (co__law_inputs : PySem.W.codeIn K cd__law_inputs "_law_inputs" = true)
    (kp__law_inputs : PySem.W.keepIn K (.ref a__law_inputs) = true)
    (n__law_lot : PySem.W.nsIn K mainGlobals "_law_lot" = some (some (.ref a__law_lot)))
    (lk__law_lot : K.lookup a__law_lot = some ⟨oc__law_lot, od__law_lot, .func (PySem.W.fnOf "_law_lot" "_law_lot" (defArgs s__law_lot) (defBody s__law_lot) (defScope s__law_lot) .none kV__law_lot dc__law_lot pm__law_lot an__law_lot cd__law_lot ct__law_lot), sl__law_lot⟩)
    (co__law_lot : PySem.W.codeIn K cd__law_lot "_law_lot" = true)
    (kp__law_lot : PySem.W.keepIn K (.ref a__law_lot) = true)
    (n__law_within : PySem.W.nsIn K mainGlobals "_law_within" = some (some (.ref a__law_within)))
    (lk__law_within : K.lookup a__law_within = some ⟨oc__law_within, od__law_within, .func (PySem.W.fnOf "_law_within" "_law_within" (defArgs s__law_within) (defBody s__law_within) (defScope s__law_within) .none kV__law_within dc__law_within pm__law_within an__law_within cd__law_within ct__law_within), sl__law_within⟩)
    (co__law_within : PySem.W.codeIn K cd__law_within "_law_within" = true)
    (kp__law_within : PySem.W.keepIn K (.ref a__law_within) = true)
    (n_tight : PySem.W.nsIn K mainGlobals "tight" = some (some (.ref a_tight)))
    (lk_tight : K.lookup a_tight = some ⟨oc_tight, od_tight, .func (PySem.W.fnOf "tight" "tight" (defArgs s_tight) (defBody s_tight) (defScope s_tight) .none kV_tight dc_tight pm_tight an_tight cd_tight ct_tight), sl_tight⟩)
    (co_tight : PySem.W.codeIn K cd_tight "tight" = true)
    (kp_tight : PySem.W.keepIn K (.ref a_tight) = true)
    (n_worlds_in : PySem.W.nsIn K mainGlobals "worlds_in" = some (some (.ref a_worlds_in)))
    (lk_worlds_in : K.lookup a_worlds_in = some ⟨oc_worlds_in, od_worlds_in, .func (PySem.W.fnOf "worlds_in" "worlds_in" (defArgs s_worlds_in) (defBody s_worlds_in) (defScope s_worlds_in) .none kV_worlds_in dc_worlds_in pm_worlds_in an_worlds_in cd_worlds_in ct_worlds_in), sl_worlds_in⟩)
    (co_worlds_in : PySem.W.codeIn K cd_worlds_in "worlds_in" = true)
    (kp_worlds_in : PySem.W.keepIn K (.ref a_worlds_in) = true)
    (n_told : PySem.W.nsIn K mainGlobals "told" = some (some (.ref a_told)))
    (lk_told : K.lookup a_told = some ⟨oc_told, od_told, .func (PySem.W.fnOf "told" "told" (defArgs s_told) (defBody s_told) (defScope s_told) .none kV_told dc_told pm_told an_told cd_told ct_told), sl_told⟩)
    (co_told : PySem.W.codeIn K cd_told "told" = true)
    (kp_told : PySem.W.keepIn K (.ref a_told) = true)
    (n__law_common : PySem.W.nsIn K mainGlobals "_law_common" = some (some (.ref a__law_common)))
    (lk__law_common : K.lookup a__law_common = some ⟨oc__law_common, od__law_common, .func (PySem.W.fnOf "_law_common" "_law_common" (defArgs s__law_common) (defBody s__law_common) (defScope s__law_common) .none kV__law_common dc__law_common pm__law_common an__law_common cd__law_common ct__law_common), sl__law_common⟩)
    (co__law_common : PySem.W.codeIn K cd__law_common "_law_common" = true)
    (kp__law_common : PySem.W.keepIn K (.ref a__law_common) = true)
    (n__law_right : PySem.W.nsIn K mainGlobals "_law_right" = some (some (.ref a__law_right)))
    (lk__law_right : K.lookup a__law_right = some ⟨oc__law_right, od__law_right, .func (PySem.W.fnOf "_law_right" "_law_right" (defArgs s__law_right) (defBody s__law_right) (defScope s__law_right) .none kV__law_right dc__law_right pm__law_right an__law_right cd__law_right ct__law_right), sl__law_right⟩)
    (co__law_right : PySem.W.codeIn K cd__law_right "_law_right" = true)
    (kp__law_right : PySem.W.keepIn K (.ref a__law_right) = true)
    (n_law : PySem.W.nsIn K mainGlobals "law" = some (some (.ref a_law)))
    (lk_law : K.lookup a_law = some ⟨oc_law, od_law, .func (PySem.W.fnOf "law" "law" (defArgs s_law) (defBody s_law) (defScope s_law) .none kV_law dc_law pm_law an_law cd_law ct_law), sl_law⟩)
    (co_law : PySem.W.codeIn K cd_law "law" = true)
    (kp_law : PySem.W.keepIn K (.ref a_law) = true)
    (pg_Case : PySem.W.plainGet K a_Case Str.empty = true)
    (hd_Case : PySem.W.hasDictIn K a_Case = true)
    (po_Case : PySem.W.plainOver K a_Case = true)
    (sa_Case : PySem.W.findIn K (.ref a_Case) "__setattr__" = some (some (.builtin "object.__setattr__")))
    (mk_Case : PySem.W.makesIn K a_Case = true)
    (fi_Case : PySem.W.isFn K (.ref a_Case_init) = true)
    (kc_Case : PySem.W.keepIn K (.ref a_Case) = true)
    (na_Case_hands : PySem.W.findIn K (.ref a_Case) "hands" = some none)
    (na_Case_worlds : PySem.W.findIn K (.ref a_Case) "worlds" = some none)
    (na_Case_wants : PySem.W.findIn K (.ref a_Case) "wants" = some none)
    (na_Case_limits : PySem.W.findIn K (.ref a_Case) "limits" = some none)
    (z_list : PySem.W.nsIn K mainGlobals "list" = some none)
    (z_int : PySem.W.nsIn K mainGlobals "int" = some none)
    (z_range : PySem.W.nsIn K mainGlobals "range" = some none)
    (z_len : PySem.W.nsIn K mainGlobals "len" = some none)
    (z_tuple : PySem.W.nsIn K mainGlobals "tuple" = some none)
    (z_sum : PySem.W.nsIn K mainGlobals "sum" = some none)
    (z_max : PySem.W.nsIn K mainGlobals "max" = some none)
    (z_isinstance : PySem.W.nsIn K mainGlobals "isinstance" = some none)
    (z_str : PySem.W.nsIn K mainGlobals "str" = some none)
    (z_all : PySem.W.nsIn K mainGlobals "all" = some none)
    (z_set : PySem.W.nsIn K mainGlobals "set" = some none)
    (z_bool : PySem.W.nsIn K mainGlobals "bool" = some none)
    (z_zip : PySem.W.nsIn K mainGlobals "zip" = some none)
    (z_sorted : PySem.W.nsIn K mainGlobals "sorted" = some none)
    (z_repr : PySem.W.nsIn K mainGlobals "repr" = some none)
    (c_MOST_SIGNS : PySem.W.nsIn K mainGlobals "MOST_SIGNS" = some (some (.int 8 t_MOST_SIGNS)))
    (c_BARRED : PySem.W.nsIn K mainGlobals "BARRED" = some (some (.ref ac_BARRED)))
    (cl_BARRED : K.lookup ac_BARRED = some ⟨.type "tuple", odc_BARRED, .seq #[.str "hands" t0_BARRED, .str "limit" t1_BARRED, .str "self" t2_BARRED, .str "want" t3_BARRED, .str "world" t4_BARRED] nc_BARRED, slc_BARRED⟩)
    (c_LETTERS : PySem.W.nsIn K mainGlobals "LETTERS" = some (some (.str "abcdefghijklmnopqrstuvwxyz" t_LETTERS)))
    (c_DIGITS : PySem.W.nsIn K mainGlobals "DIGITS" = some (some (.str "0123456789" t_DIGITS)))
    (c_MOST_HANDS_cases : PySem.W.nsIn K mainGlobals "MOST_HANDS_cases" = some (some (.int 4 t_MOST_HANDS_cases)))
    : ∃ fd : FuncData, (∀ (s : Shared) (u : Value), BindsTo s fd ⟨[u], []⟩ [("_law_script", u)]) ∧ ∀ base : Heap, K.In base → base.Ns mainGlobals mg → FnG l.prog w K mg base 10 fa fd ["_law_script"] m_law := by
  have e : a_law = fa := Value.ref.inj (Option.some.inj ((PySem.W.mg_of KX G n_law).symm.trans hfa))
  subst e
  let T : Tx K mg := { a__law_deck := a__law_deck, fd__law_deck := _, m__law_deck := PySem.W.mg_of KX G n__law_deck, F__law_deck := fun_mk (st := s__law_deck) lk__law_deck co__law_deck kp__law_deck, a__law_draw := a__law_draw, fd__law_draw := _, m__law_draw := PySem.W.mg_of KX G n__law_draw, F__law_draw := fun_mk (st := s__law_draw) lk__law_draw co__law_draw kp__law_draw, a__law_pick := a__law_pick, fd__law_pick := _, m__law_pick := PySem.W.mg_of KX G n__law_pick, F__law_pick := fun_mk (st := s__law_pick) lk__law_pick co__law_pick kp__law_pick, a__law_rows := a__law_rows, fd__law_rows := _, m__law_rows := PySem.W.mg_of KX G n__law_rows, F__law_rows := fun_mk (st := s__law_rows) lk__law_rows co__law_rows kp__law_rows, a__law_some := a__law_some, fd__law_some := _, m__law_some := PySem.W.mg_of KX G n__law_some, F__law_some := fun_mk (st := s__law_some) lk__law_some co__law_some kp__law_some, a__law_marks := a__law_marks, fd__law_marks := _, m__law_marks := PySem.W.mg_of KX G n__law_marks, F__law_marks := fun_mk (st := s__law_marks) lk__law_marks co__law_marks kp__law_marks, a__law_plan := a__law_plan, fd__law_plan := _, m__law_plan := PySem.W.mg_of KX G n__law_plan, F__law_plan := fun_mk (st := s__law_plan) lk__law_plan co__law_plan kp__law_plan, a_is_called := a_is_called, fd_is_called := _, m_is_called := PySem.W.mg_of KX G n_is_called, F_is_called := fun_mk (st := s_is_called) lk_is_called co_is_called kp_is_called, a_are_names := a_are_names, fd_are_names := _, m_are_names := PySem.W.mg_of KX G n_are_names, F_are_names := fun_mk (st := s_are_names) lk_are_names co_are_names kp_are_names, a_is_integer := a_is_integer, fd_is_integer := _, m_is_integer := PySem.W.mg_of KX G n_is_integer, F_is_integer := fun_mk (st := s_is_integer) lk_is_integer co_is_integer kp_is_integer, a_is_world := a_is_world, fd_is_world := _, m_is_world := PySem.W.mg_of KX G n_is_world, F_is_world := fun_mk (st := s_is_world) lk_is_world co_is_world kp_is_world, a_are_ascending := a_are_ascending, fd_are_ascending := _, m_are_ascending := PySem.W.mg_of KX G n_are_ascending, F_are_ascending := fun_mk (st := s_are_ascending) lk_are_ascending co_are_ascending kp_are_ascending, a_are_worlds := a_are_worlds, fd_are_worlds := _, m_are_worlds := PySem.W.mg_of KX G n_are_worlds, F_are_worlds := fun_mk (st := s_are_worlds) lk_are_worlds co_are_worlds kp_are_worlds, a_is_group := a_is_group, fd_is_group := _, m_is_group := PySem.W.mg_of KX G n_is_group, F_is_group := fun_mk (st := s_is_group) lk_is_group co_is_group kp_is_group, a_is_table := a_is_table, fd_is_table := _, m_is_table := PySem.W.mg_of KX G n_is_table, F_is_table := fun_mk (st := s_is_table) lk_is_table co_is_table kp_is_table, a_is_group_table := a_is_group_table, fd_is_group_table := _, m_is_group_table := PySem.W.mg_of KX G n_is_group_table, F_is_group_table := fun_mk (st := s_is_group_table) lk_is_group_table co_is_group_table kp_is_group_table, a_are_group_tables := a_are_group_tables, fd_are_group_tables := _, m_are_group_tables := PySem.W.mg_of KX G n_are_group_tables, F_are_group_tables := fun_mk (st := s_are_group_tables) lk_are_group_tables co_are_group_tables kp_are_group_tables, a_check_parts := a_check_parts, fd_check_parts := _, m_check_parts := PySem.W.mg_of KX G n_check_parts, F_check_parts := fun_mk (st := s_check_parts) lk_check_parts co_check_parts kp_check_parts, a_Case_init := a_Case_init, fd_Case_init := _, F_Case_init := fun_mk (st := s_Case_init) lk_Case_init co_Case_init kp_Case_init, a__law_code := a__law_code, fd__law_code := _, m__law_code := PySem.W.mg_of KX G n__law_code, F__law_code := fun_mk (st := s__law_code) lk__law_code co__law_code kp__law_code, a__law_inputs := a__law_inputs, fd__law_inputs := _, m__law_inputs := PySem.W.mg_of KX G n__law_inputs, F__law_inputs := fun_mk (st := s__law_inputs) lk__law_inputs co__law_inputs kp__law_inputs, a__law_lot := a__law_lot, fd__law_lot := _, m__law_lot := PySem.W.mg_of KX G n__law_lot, F__law_lot := fun_mk (st := s__law_lot) lk__law_lot co__law_lot kp__law_lot, a__law_within := a__law_within, fd__law_within := _, m__law_within := PySem.W.mg_of KX G n__law_within, F__law_within := fun_mk (st := s__law_within) lk__law_within co__law_within kp__law_within, a_tight := a_tight, fd_tight := _, m_tight := PySem.W.mg_of KX G n_tight, F_tight := fun_mk (st := s_tight) lk_tight co_tight kp_tight, a_worlds_in := a_worlds_in, fd_worlds_in := _, m_worlds_in := PySem.W.mg_of KX G n_worlds_in, F_worlds_in := fun_mk (st := s_worlds_in) lk_worlds_in co_worlds_in kp_worlds_in, a_told := a_told, fd_told := _, m_told := PySem.W.mg_of KX G n_told, F_told := fun_mk (st := s_told) lk_told co_told kp_told, a__law_common := a__law_common, fd__law_common := _, m__law_common := PySem.W.mg_of KX G n__law_common, F__law_common := fun_mk (st := s__law_common) lk__law_common co__law_common kp__law_common, a__law_right := a__law_right, fd__law_right := _, m__law_right := PySem.W.mg_of KX G n__law_right, F__law_right := fun_mk (st := s__law_right) lk__law_right co__law_right kp__law_right, a_law := a_law, fd_law := _, m_law := PySem.W.mg_of KX G n_law, F_law := fun_mk (st := s_law) lk_law co_law kp_law, a_Case := a_Case, m_Case := PySem.W.mg_of KX G n_Case, cl_Case := ⟨pg_Case, hd_Case, po_Case, sa_Case⟩, mk_Case := ⟨mk_Case, n_Case_init, fi_Case, kc_Case⟩, na_Case_hands := na_Case_hands, na_Case_worlds := na_Case_worlds, na_Case_wants := na_Case_wants, na_Case_limits := na_Case_limits, z_list := PySem.W.mg_none_of KX G z_list, z_int := PySem.W.mg_none_of KX G z_int, z_range := PySem.W.mg_none_of KX G z_range, z_len := PySem.W.mg_none_of KX G z_len, z_tuple := PySem.W.mg_none_of KX G z_tuple, z_sum := PySem.W.mg_none_of KX G z_sum, z_max := PySem.W.mg_none_of KX G z_max, z_isinstance := PySem.W.mg_none_of KX G z_isinstance, z_str := PySem.W.mg_none_of KX G z_str, z_all := PySem.W.mg_none_of KX G z_all, z_set := PySem.W.mg_none_of KX G z_set, z_bool := PySem.W.mg_none_of KX G z_bool, z_zip := PySem.W.mg_none_of KX G z_zip, z_sorted := PySem.W.mg_none_of KX G z_sorted, z_repr := PySem.W.mg_none_of KX G z_repr, c_MOST_SIGNS := ⟨_, PySem.W.mg_of KX G c_MOST_SIGNS⟩, c_BARRED := tupAt_mk KX G c_BARRED cl_BARRED [t0_BARRED, t1_BARRED, t2_BARRED, t3_BARRED, t4_BARRED] rfl rfl (by decide), c_LETTERS := ⟨_, PySem.W.mg_of KX G c_LETTERS⟩, c_DIGITS := ⟨_, PySem.W.mg_of KX G c_DIGITS⟩, c_MOST_HANDS_cases := ⟨_, PySem.W.mg_of KX G c_MOST_HANDS_cases⟩ }
  exact ⟨T.fd_law, fun s v => .of_eq rfl, fun base _ _ => g_law T⟩
end Lw

set_option Elab.async false
set_option linter.all false
set_option maxRecDepth 100000
set_option maxHeartbeats 1000000
namespace Lw
open PySem hiding Env
open L2 DD
/-! ### the deck -/
def dk (c : List Int) (b : Int) (n : Nat) : List O := [.lst (c.map fun x => .d (.int x)), .dic [(.inr "cells", .ref 0), (.inr "blend", .d (.int b)), (.inr "draws", .d (.int n))]]
structure Dk (n : Nat) (h : List O) : Prop where
  ex : ∃ c b, h = dk c b n ∧ 0 ≤ b ∧ b < 2147483647 ∧ c.length ≤ 63
section
variable {P : W → List O → Prop} {PU : Unit → List O → Prop} {L : List O} {c : List Int} {b : Int} {n : Nat} {h : List O} {ρ : Env}
theorem kne1 : ((.inr "cells" : Key) = .inr "blend") = False := by decide +kernel
theorem kne2 : ((.inr "cells" : Key) = .inr "draws") = False := by decide +kernel
theorem kne3 : ((.inr "blend" : Key) = .inr "draws") = False := by decide +kernel
theorem get_cells : wp (opDGet (.ref 1) (.d (.str "cells"))) P (dk c b n ++ L) = P (.ref 0) (dk c b n ++ L) := by
  unfold wp opDGet
  simp only [keyW, dk, List.cons_append, List.nil_append, List.getElem?_cons_succ, List.getElem?_cons_zero, lookG_cons, if_true]
theorem get_blend : wp (opDGet (.ref 1) (.d (.str "blend"))) P (dk c b n ++ L) = P (.d (.int b)) (dk c b n ++ L) := by
  unfold wp opDGet
  simp only [keyW, dk, List.cons_append, List.nil_append, List.getElem?_cons_succ, List.getElem?_cons_zero, lookG_cons, kne1, if_false, if_true]
theorem get_draws : wp (opDGet (.ref 1) (.d (.str "draws"))) P (dk c b n ++ L) = P (.d (.int n)) (dk c b n ++ L) := by
  unfold wp opDGet
  simp only [keyW, dk, List.cons_append, List.nil_append, List.getElem?_cons_succ, List.getElem?_cons_zero, lookG_cons, kne2, kne3, if_false, if_true]
theorem put_draws : wp (opDPut (.ref 1) (.d (.str "draws")) (.d (.int ((n : Int) + 1)))) PU (dk c b n ++ L) = PU () (dk c b (n + 1) ++ L) := by
  unfold wp opDPut
  simp only [keyW, dk, List.cons_append, List.nil_append, List.getElem?_cons_succ, List.getElem?_cons_zero, List.length_cons, List.length_nil]
  rw [if_pos (by decide)]
  have : putG [((.inr "cells" : Key), W.ref 0), (.inr "blend", .d (.int b)), (.inr "draws", .d (.int (n : Int)))] (.inr "draws") (.d (.int ((n : Int) + 1))) = [(.inr "cells", .ref 0), (.inr "blend", .d (.int b)), (.inr "draws", .d (.int ((n + 1 : Nat) : Int)))] := by
    unfold putG
    rw [if_pos (by simp)]
    simp only [List.map_cons, List.map_nil, kne2, kne3, if_false, if_true]
    rfl
  rw [this]
  rfl
theorem wp_mV0 (i : Nat) : wp (mV i ρ) P h = wp (oM (ρ[i]?).join) P h := rfl
theorem pop_cells {x : Int} : wp (upL fPop 0 []) P (dk (c ++ [x]) b n ++ L) = P (.d (.int x)) (dk c b n ++ L) := by
  unfold wp upL fPop
  simp only [dk, List.cons_append, List.nil_append, List.getElem?_cons_zero, List.map_append, List.map_cons, List.map_nil, List.length_append, List.length_map, List.length_cons, List.length_nil]
  rw [show c.length + (0 + 1) - 1 = c.length from by omega]
  rw [List.getElem?_append_right (by simp)]
  simp [dk]
theorem app_cells {x : Int} (hc : c.length < 1000) : wp (upL fAppend 0 [.d (.int x)]) P (dk c b n ++ L) = P (.d .non) (dk (c ++ [x]) b n ++ L) := by
  unfold wp upL fAppend
  simp only [dk, List.cons_append, List.nil_append, List.getElem?_cons_zero, List.map_append, List.map_cons, List.map_nil, List.length_map]
  rw [if_pos (by omega)]
  rfl
theorem wp_mMeth (op : Nat → List W → M W) (m : Env → M W) (nn : Env → M (List W)) : wp (mMeth op m nn ρ) P h = wp (m ρ) (fun w h1 => wp (lsR w) (fun k h2 => wp (nn ρ) (fun ws h3 => wp (op k ws) P h3) h2) h1) h := by
  unfold mMeth
  rw [wp_bd]
  congr 1
  funext w h1
  rw [wp_bd]
  congr 1
  funext k h2
  rw [wp_bd]
theorem lsR_cells {PN : Nat → List O → Prop} : wp (lsR (.ref 0)) PN (dk c b n ++ L) = PN 0 (dk c b n ++ L) := rfl
theorem vw_cells {PD : D → List O → Prop} : wp (vw (.ref 0)) PD (dk c b n ++ L) = PD (.lst (c.map .int)) (dk c b n ++ L) := by
  unfold wp vw
  have : view (dk c b n ++ L) (.ref 0) = some (.lst (c.map .int)) := by
    show (objD (.lst (c.map fun x => .d (.int x)))) = _
    show (datas (c.map fun x => W.d (.int x))).map D.lst = _
    rw [show (c.map fun x => W.d (.int x)) = (c.map D.int).map W.d from by rw [List.map_map]; rfl, datas_map]
    rfl
  rw [this]
end
/-! ### small operations -/
section
variable {P : W → List O → Prop} {h : List O} {ρ : Env} {PF : Fl → List O → Prop}
theorem w_i2 {C : Int → Int → Bool} {g : Int → Int → D} {i j : Int} (hc : C i j = true) : wp (iOp C g (.d (.int i)) (.d (.int j))) P h = P (.d (g i j)) h := by
  show wp (oM (Option.map W.d (if C i j = true then some (g i j) else none))) P h = _
  rw [if_pos hc]
  rfl
theorem w_add {i j : Int} : wp (opAdd (.d (.int i)) (.d (.int j))) P h = P (.d (.int (i + j))) h := rfl
theorem w_sub {i j : Int} : wp (opSub (.d (.int i)) (.d (.int j))) P h = P (.d (.int (i - j))) h := w_i2 rfl
theorem w_mod {i j : Int} (hj : 0 < j) : wp (opMod (.d (.int i)) (.d (.int j))) P h = P (.d (.int (i % j))) h := w_i2 (decide_eq_true hj)
theorem w_fdiv {i j : Int} (hj : 0 < j) (h2 : j < 1073741824) : wp (opFdiv (.d (.int i)) (.d (.int j))) P h = P (.d (.int (i / j))) h := w_i2 (by simp [hj, h2])
theorem w_ge {i j : Int} : wp (opGe (.d (.int i)) (.d (.int j))) P h = P (.d (.bl (decide (j ≤ i)))) h := w_i2 rfl
theorem w_gt {i j : Int} : wp (opGt (.d (.int i)) (.d (.int j))) P h = P (.d (.bl (decide (j < i)))) h := w_i2 rfl
theorem w_lt {i j : Int} : wp (opLt (.d (.int i)) (.d (.int j))) P h = P (.d (.bl (decide (i < j)))) h := w_i2 rfl
theorem w_le {i j : Int} : wp (opLe (.d (.int i)) (.d (.int j))) P h = P (.d (.bl (decide (i ≤ j)))) h := w_i2 rfl
theorem w_mul {i j : Int} (hi : (-(2 ^ 64) < i ∧ i < 2 ^ 64) ∨ (-(2 ^ 64) < j ∧ j < 2 ^ 64)) : wp (opMul (.d (.int i)) (.d (.int j))) P h = P (.d (.int (i * j))) h := w_i2 (by
  unfold cMul
  rw [Bool.or_eq_true, Bool.and_eq_true, Bool.and_eq_true, decide_eq_true_iff, decide_eq_true_iff, decide_eq_true_iff, decide_eq_true_iff]
  exact hi)
theorem w_pow {i j : Int} (hj : 0 ≤ j ∧ j ≤ 1000) (hi : i.natAbs < 2 ^ 64) : wp (opPow (.d (.int i)) (.d (.int j))) P h = P (.d (.int (i ^ j.toNat))) h := w_i2 (by simp [hj, hi])
theorem e_add {i j : Int} : opAdd (.d (.int i)) (.d (.int j)) = pu (.d (.int (i + j))) := rfl
theorem e_i2 {C : Int → Int → Bool} {g : Int → Int → D} {i j : Int} (hc : C i j = true) : iOp C g (.d (.int i)) (.d (.int j)) = pu (.d (g i j)) := by
  show oM (Option.map W.d (if C i j = true then some (g i j) else none)) = _
  rw [if_pos hc]
  rfl
theorem e_sub {i j : Int} : opSub (.d (.int i)) (.d (.int j)) = pu (.d (.int (i - j))) := e_i2 rfl
theorem e_mod {i j : Int} (hj : 0 < j) : opMod (.d (.int i)) (.d (.int j)) = pu (.d (.int (i % j))) := e_i2 (decide_eq_true hj)
theorem e_fdiv {i j : Int} (hj : 0 < j) (h2 : j < 1073741824) : opFdiv (.d (.int i)) (.d (.int j)) = pu (.d (.int (i / j))) := e_i2 (by simp [hj, h2])
theorem e_ge {i j : Int} : opGe (.d (.int i)) (.d (.int j)) = pu (.d (.bl (decide (j ≤ i)))) := e_i2 rfl
theorem e_gt {i j : Int} : opGt (.d (.int i)) (.d (.int j)) = pu (.d (.bl (decide (j < i)))) := e_i2 rfl
theorem e_lt {i j : Int} : opLt (.d (.int i)) (.d (.int j)) = pu (.d (.bl (decide (i < j)))) := e_i2 rfl
theorem e_le {i j : Int} : opLe (.d (.int i)) (.d (.int j)) = pu (.d (.bl (decide (i ≤ j)))) := e_i2 rfl
theorem e_int {i : Int} : bInt [.d (.int i)] = pu (.d (.int i)) := rfl
theorem e_asB {b : Bool} : asB (.d (.bl b)) = pu b := rfl
theorem w_int {i : Int} : wp (bInt [.d (.int i)]) P h = P (.d (.int i)) h := rfl
theorem wp_mDPut (m1 m2 m3 : Env → M W) : wp (mDPut m1 m2 m3 ρ) PF h = wp (m3 ρ) (fun v h1 => wp (m1 ρ) (fun a h2 => wp (m2 ρ) (fun b h3 => wp (opDPut a b v) (fun _ h4 => PF (.nx ρ) h4) h3) h2) h1) h := by
  unfold mDPut
  rw [wp_bd]
  congr 1
  funext v h1
  rw [wp_bd]
  congr 1
  funext a h2
  rw [wp_bd]
  congr 1
  funext b h3
  rw [wp_bd]
  rfl
end
end Lw

set_option Elab.async false
set_option linter.all false
set_option maxRecDepth 100000
set_option maxHeartbeats 1000000
namespace Lw
open PySem hiding Env
open L2 DD
theorem Dk.len {n : Nat} {h : List O} (d : Dk n h) : h.length = 2 := by
  obtain ⟨c, b, rfl, _⟩ := d.ex
  rfl
theorem Dk.cl {n : Nat} {h : List O} (d : Dk n h) : h.all (clO 2) = true := by
  obtain ⟨c, b, rfl, _⟩ := d.ex
  unfold dk
  simp [clO, clW, List.all_map]
/-- called with the deck: at most c draws, something with R -/
def Sp2 (m : List W → M W) (ws : List W) (c : Nat) (R : D → Prop) : Prop := ∀ (n : Nat) (dk0 L : List O) (P : W → List O → Prop), Dk n dk0 → n + c ≤ 1000000000000 → (∀ d n' dk', R d → n' ≤ n + c → Dk n' dk' → P (.d d) (dk' ++ L)) → wp (lendC 2 m ws) P (dk0 ++ L)
theorem Sp2.mk {m : List W → M W} {ws : List W} {c : Nat} {R : D → Prop} (hw : ws.all (clW 2) = true) (h : ∀ (n : Nat) (dk0 : List O), Dk n dk0 → n + c ≤ 1000000000000 → wp (m ws) (fun w h' => ∃ n' dk' L' d, h' = dk' ++ L' ∧ n' ≤ n + c ∧ Dk n' dk' ∧ R d ∧ (w = .d d ∨ ∃ k, w = .ref k ∧ 2 ≤ k ∧ view h' w = some d)) dk0) : Sp2 m ws c R := by
  intro n dk0 L P hd hn hP
  have l2 := hd.len
  have t1 : (dk0 ++ L).take 2 = dk0 := by rw [← l2, List.take_left]
  have d1 : (dk0 ++ L).drop 2 = L := by rw [← l2, List.drop_left]
  refine wp_lend (by rw [List.length_append]; omega) (by rw [t1]; exact hd.cl) hw ?_
  rw [t1, d1]
  refine (h n dk0 hd hn).imp fun w h' ⟨n', dk', L', d, e, hn', hd', hR, hw⟩ => ?_
  subst e
  have l3 := hd'.len
  have t2 : (dk' ++ L').take 2 = dk' := by rw [← l3, List.take_left]
  rw [t2]
  refine ⟨hd'.cl, .d d, ?_, hP d n' dk' hR hn' hd'⟩
  rcases hw with rfl | ⟨k, rfl, hk, hv⟩
  · rfl
  · show (if k < 2 then some (W.ref k) else (view (dk' ++ L') (.ref k)).map .d) = _
    rw [if_neg (by omega), hv]
    rfl
/-- a result that is data at once -/
theorem Sp2.mk' {m : List W → M W} {ws : List W} {c : Nat} {R : D → Prop} (hw : ws.all (clW 2) = true) (h : ∀ (n : Nat) (dk0 : List O), Dk n dk0 → n + c ≤ 1000000000000 → wp (m ws) (fun w h' => ∃ n' dk' L' d, h' = dk' ++ L' ∧ n' ≤ n + c ∧ Dk n' dk' ∧ R d ∧ w = .d d) dk0) : Sp2 m ws c R :=
  .mk hw fun n dk0 hd hn => (h n dk0 hd hn).imp fun w h' ⟨n', dk', L', d, a, b, c, e, f⟩ => ⟨n', dk', L', d, a, b, c, e, .inl f⟩
theorem eqD_cells (c : List Int) : eqD (.lst (c.map .int)) (.lst []) = c.isEmpty := by cases c <;> rfl
theorem cells_ne {c : List Int} {b : Int} {n : Nat} {L : List O} {P : W → List O → Prop} : wp (opEq true (.ref 0) (.d (.lst []))) P (dk c b n ++ L) = P (.d (.bl (!c.isEmpty))) (dk c b n ++ L) := by
  unfold opEq o2
  rw [wp_bd, vw_cells]
  refine (w_ne (okN_eL c) (okN_eL [])).trans ?_
  show P (.d (.bl !eqD (.lst (c.map .int)) (.lst []))) _ = _
  rw [eqD_cells]
theorem draw_3 {k t x z : Int} {h : List O} {PF : Fl → List O → Prop} (k1 : 0 < k) (hP : ∀ r, 0 ≤ r → r < k → PF (.rt (.d (.int r))) h) : wp ((mRet (m2op opMod (m2op opFdiv (m2op opMod (mCall bInt (mCons (m2op opMul (mV 4) (mC (.int 39373))) mNil)) (mC (.int 2147483563))) (mC (.int 64))) (mV 1))) [some (.ref 1), some (.d (.int k)), some (.d (.int t)), some (.d (.int x)), some (.d (.int z))]) PF h := by
  simp only [wp_mSeq, wp_mSet, wp_m2op, wp_mCall, wp_mCons, wp_mNil, wp_mC, wp_mV0, wp_mRet, List.getElem?_cons_succ, List.getElem?_cons_zero, Option.join_some, wp_some, List.set_cons_succ, List.set_cons_zero, e_int, e_add, wp_pu]
  rw [w_mul (.inr ⟨by omega, by omega⟩)]
  simp only [e_int, wp_pu]
  rw [w_mod (by decide), w_fdiv (by decide) (by decide), w_mod k1]
  exact hP _ (Int.emod_nonneg _ (by omega)) (Int.emod_lt_of_pos _ k1)
theorem draw_2 {k t x y : Int} {h : List O} {PF : Fl → List O → Prop} (k1 : 0 < k) (hy : 0 ≤ y ∧ y < 2147483647) (ht : 0 ≤ t ∧ t < 1000000000001) (hP : ∀ r, 0 ≤ r → r < k → PF (.rt (.d (.int r))) h) : wp ((mSeq (mSet 4 (m2op opMod (mCall bInt (mCons (m2op opAdd (m2op opAdd (m2op opMul (mV 4) (mV 4)) (m2op opMul (mC (.int 69621)) (mV 2))) (mC (.int 69))) mNil)) (mC (.int 2147483587)))) (mRet (m2op opMod (m2op opFdiv (m2op opMod (mCall bInt (mCons (m2op opMul (mV 4) (mC (.int 39373))) mNil)) (mC (.int 2147483563))) (mC (.int 64))) (mV 1)))) [some (.ref 1), some (.d (.int k)), some (.d (.int t)), some (.d (.int x)), some (.d (.int y))]) PF h := by
  rw [wp_mSeq]
  simp only [wp_mSet, wp_m2op, wp_mCall, wp_mCons, wp_mNil, wp_mC, wp_mV0, List.getElem?_cons_succ, List.getElem?_cons_zero, Option.join_some, wp_some, List.set_cons_succ, List.set_cons_zero, e_int, e_add, wp_pu]
  rw [w_mul (.inr (by omega)), w_mul (.inr (by omega))]
  simp only [e_int, e_add, wp_pu]
  rw [w_mod (by decide)]
  exact draw_3 k1 hP
theorem draw_1 {k t x : Int} {h : List O} {PF : Fl → List O → Prop} (k1 : 0 < k) (ht : 0 ≤ t ∧ t < 1000000000001) (hP : ∀ r, 0 ≤ r → r < k → PF (.rt (.d (.int r))) h) : wp ((mSeq (mSet 4 (m2op opMod (m2op opMul (mCall bInt (mCons (m2op opAdd (m2op opAdd (m2op opMod (mCall bInt (mCons (mV 3) mNil)) (mC (.int 2147483629))) (m2op opMul (m2op opMul (mC (.int 60693)) (mV 2)) (mV 2))) (mC (.int 29))) mNil)) (mC (.int 40692))) (mC (.int 2147483647)))) (mSeq (mSet 4 (m2op opMod (mCall bInt (mCons (m2op opAdd (m2op opAdd (m2op opMul (mV 4) (mV 4)) (m2op opMul (mC (.int 69621)) (mV 2))) (mC (.int 69))) mNil)) (mC (.int 2147483587)))) (mRet (m2op opMod (m2op opFdiv (m2op opMod (mCall bInt (mCons (m2op opMul (mV 4) (mC (.int 39373))) mNil)) (mC (.int 2147483563))) (mC (.int 64))) (mV 1))))) [some (.ref 1), some (.d (.int k)), some (.d (.int t)), some (.d (.int x)), none]) PF h := by
  rw [wp_mSeq]
  simp only [wp_mSet, wp_m2op, wp_mCall, wp_mCons, wp_mNil, wp_mC, wp_mV0, List.getElem?_cons_succ, List.getElem?_cons_zero, Option.join_some, wp_some, List.set_cons_succ, List.set_cons_zero, e_int, e_add, wp_pu]
  rw [w_mod (by decide), w_mul (.inr (by omega)), w_mul (.inr (by omega))]
  simp only [e_int, e_add, wp_pu]
  rw [w_mul (.inr ⟨by omega, by omega⟩), w_mod (by decide)]
  exact draw_2 k1 ⟨Int.emod_nonneg _ (by decide), Int.emod_lt_of_pos _ (by decide)⟩ ht hP
theorem draw_s {k : Int} (hk : 1 ≤ k) (hk2 : k < 1073741824) : Sp2 m__law_draw [.ref 1, .d (.int k)] 1 (fun d => ∃ r, d = .int r ∧ 0 ≤ r ∧ r < k) := by
  refine .mk' rfl fun n dk0 hd hn => ?_
  obtain ⟨c, b, rfl, hb0, hb1, hc⟩ := hd.ex
  rw [← List.append_nil (dk c b n)]
  have fin : ∀ {c : List Int}, c.length ≤ 63 → ∀ r, 0 ≤ r → r < k → ∃ n' dk' L' d, dk c b (n + 1) ++ [] = dk' ++ L' ∧ n' ≤ n + 1 ∧ Dk n' dk' ∧ (∃ r, d = D.int r ∧ 0 ≤ r ∧ r < k) ∧ (W.d (.int r)) = .d d :=
    fun {c} hc r h0 h1 => ⟨n + 1, dk c b (n + 1), [], .int r, rfl, Nat.le_refl _, ⟨c, b, rfl, hb0, hb1, hc⟩, ⟨r, rfl, h0, h1⟩, rfl⟩
  unfold m__law_draw
  rw [wp_mFn2]
  generalize hPF : FnP (fun w h' => ∃ n' dk' L' d, h' = dk' ++ L' ∧ n' ≤ n + 1 ∧ Dk n' dk' ∧ (∃ r, d = D.int r ∧ 0 ≤ r ∧ r < k) ∧ w = .d d) = PF
  have finP : ∀ {c : List Int}, c.length ≤ 63 → ∀ r, 0 ≤ r → r < k → PF (.rt (.d (.int r))) (dk c b (n + 1) ++ []) := fun {c} hc r h0 h1 => by
    subst hPF
    exact fin hc r h0 h1
  simp only [List.replicate, Nat.reduceSub]
  refine seqK fun K nx rt _ _ => ?_
  simp only [wp_mSet, wp_m2op, wp_mCall, wp_mCons, wp_mNil, wp_mC, wp_mV0, wp_mRet, wp_mExpr, wp_mMeth, wp_mT, wp_mIfS, wp_mPar, wp_mDPut, wp_mNext, List.getElem?_cons_succ, List.getElem?_cons_zero, Option.join_some, wp_some, List.set_cons_succ, List.set_cons_zero, e_int, e_add, e_ge, e_asB, wp_pu, get_draws, get_blend, get_cells, put_draws, lsR_cells]
  refine nx _ _ (seqK fun K nx rt _ _ => ?_)
  simp only [wp_mSet, wp_m2op, wp_mCall, wp_mCons, wp_mNil, wp_mC, wp_mV0, wp_mRet, wp_mExpr, wp_mMeth, wp_mT, wp_mIfS, wp_mPar, wp_mDPut, wp_mNext, List.getElem?_cons_succ, List.getElem?_cons_zero, Option.join_some, wp_some, List.set_cons_succ, List.set_cons_zero, e_int, e_add, e_ge, e_asB, wp_pu, get_draws, get_blend, get_cells, put_draws, lsR_cells]
  refine ⟨_, _, rfl, ?_⟩
  refine nx _ _ (seqK fun K nx rt _ _ => ?_)
  have e0 : ∀ (P : W → List O → Prop), P (.d (.lst [])) (dk c b (n + 1) ++ []) → wp (mLst mNil [some (W.ref 1), some (W.d (.int k)), some (W.d (.int ((n : Int) + 1))), some (W.d (.int b)), none]) P (dk c b (n + 1) ++ []) := fun P p => by
    rw [wp_mLst, wp_mNil]
    exact p
  rw [wp_mIfS, wp_mT, wp_m2op]
  simp only [wp_mSet, wp_m2op, wp_mCall, wp_mCons, wp_mNil, wp_mC, wp_mV0, wp_mRet, wp_mExpr, wp_mMeth, wp_mT, wp_mIfS, wp_mPar, wp_mDPut, wp_mNext, List.getElem?_cons_succ, List.getElem?_cons_zero, Option.join_some, wp_some, List.set_cons_succ, List.set_cons_zero, e_int, e_add, e_ge, e_asB, wp_pu, get_draws, get_blend, get_cells, put_draws, lsR_cells]
  refine e0 _ ?_
  rw [cells_ne]
  simp only [e_asB, wp_pu]
  by_cases hce : c = []
  · subst hce
    simp only [List.isEmpty_nil, Bool.not_true, Bool.false_eq_true, if_false, wp_mNext]
    refine nx _ _ ?_
    have hp := finP (c := []) (Nat.zero_le _)
    generalize hT : ((n + 1 : Nat) : Int) = t
    have t1 : 0 ≤ t ∧ t < 1000000000001 := by omega
    have k1 : 0 < k := by omega
    generalize dk [] b (n + 1) ++ [] = hh at hp ⊢
    exact draw_1 k1 t1 hp
  · have hne : c.isEmpty = false := by cases c with | nil => exact (hce rfl).elim | cons _ _ => rfl
    simp only [hne, Bool.not_false, if_true]
    obtain ⟨c', x, rfl⟩ : ∃ c' x, c = c' ++ [x] := ⟨c.dropLast, c.getLast hce, (List.dropLast_concat_getLast hce).symm⟩
    have hc2 : c'.length ≤ 62 := by rw [List.length_append] at hc; simpa using hc
    refine seqK fun K2 nx2 rt2 _ _ => ?_
    simp only [wp_mSet, wp_m2op, wp_mCall, wp_mCons, wp_mNil, wp_mC, wp_mV0, wp_mRet, wp_mExpr, wp_mMeth, wp_mT, wp_mIfS, wp_mPar, wp_mDPut, wp_mNext, List.getElem?_cons_succ, List.getElem?_cons_zero, Option.join_some, wp_some, List.set_cons_succ, List.set_cons_zero, e_int, e_add, e_ge, e_asB, wp_pu, get_draws, get_blend, get_cells, put_draws, lsR_cells]
    rw [pop_cells]
    refine nx2 _ _ (seqK fun K3 nx3 rt3 _ _ => ?_)
    simp only [wp_mSet, wp_m2op, wp_mCall, wp_mCons, wp_mNil, wp_mC, wp_mV0, wp_mRet, wp_mExpr, wp_mMeth, wp_mT, wp_mIfS, wp_mPar, wp_mDPut, wp_mNext, List.getElem?_cons_succ, List.getElem?_cons_zero, Option.join_some, wp_some, List.set_cons_succ, List.set_cons_zero, e_int, e_add, e_ge, e_asB, wp_pu, get_draws, get_blend, get_cells, put_draws, lsR_cells]
    rw [w_pow (by decide) (by decide)]
    simp only [e_ge, e_asB, wp_pu]
    by_cases hx : (10 : Int) ^ (18 : Int).toNat ≤ x
    · rw [if_pos (by simpa using hx)]
      refine seqK fun K4 nx4 rt4 _ _ => ?_
      simp only [wp_mSet, wp_m2op, wp_mCall, wp_mCons, wp_mNil, wp_mC, wp_mV0, wp_mRet, wp_mExpr, wp_mMeth, wp_mT, wp_mIfS, wp_mPar, wp_mDPut, wp_mNext, List.getElem?_cons_succ, List.getElem?_cons_zero, Option.join_some, wp_some, List.set_cons_succ, List.set_cons_zero, e_int, e_add, e_ge, e_asB, wp_pu, get_draws, get_blend, get_cells, put_draws, lsR_cells]
      rw [w_fdiv (by omega) hk2]
      rw [app_cells (by omega)]
      refine nx4 _ _ ?_
      simp only [wp_mSet, wp_m2op, wp_mCall, wp_mCons, wp_mNil, wp_mC, wp_mV0, wp_mRet, wp_mExpr, wp_mMeth, wp_mT, wp_mIfS, wp_mPar, wp_mDPut, wp_mNext, List.getElem?_cons_succ, List.getElem?_cons_zero, Option.join_some, wp_some, List.set_cons_succ, List.set_cons_zero, e_int, e_add, e_ge, e_asB, wp_pu, get_draws, get_blend, get_cells, put_draws, lsR_cells]
      rw [w_mod (by omega)]
      exact rt3 _ _ (rt _ _ (finP (c := c' ++ [x / k]) (by rw [List.length_append, List.length_singleton]; omega) _ (Int.emod_nonneg _ (by omega)) (Int.emod_lt_of_pos _ (by omega))))
    · rw [if_neg (by simpa using hx)]
      refine nx3 _ _ ?_
      simp only [wp_mSet, wp_m2op, wp_mCall, wp_mCons, wp_mNil, wp_mC, wp_mV0, wp_mRet, wp_mExpr, wp_mMeth, wp_mT, wp_mIfS, wp_mPar, wp_mDPut, wp_mNext, List.getElem?_cons_succ, List.getElem?_cons_zero, Option.join_some, wp_some, List.set_cons_succ, List.set_cons_zero, e_int, e_add, e_ge, e_asB, wp_pu, get_draws, get_blend, get_cells, put_draws, lsR_cells]
      refine nx _ _ ?_
      have hp := finP (c := c') (by omega)
      generalize hT : ((n + 1 : Nat) : Int) = t
      have t1 : 0 ≤ t ∧ t < 1000000000001 := by omega
      have k1 : 0 < k := by omega
      generalize dk c' b (n + 1) ++ [] = hh at hp ⊢
      exact draw_1 k1 t1 hp
end Lw

set_option Elab.async false
set_option linter.all false
set_option maxRecDepth 100000
set_option maxHeartbeats 1000000
namespace Lw
open PySem hiding Env
open L2 DD
section
variable {P : W → List O → Prop} {h : List O}
theorem e_len {x : D} {l : List D} (e : items x = some l) : bLen [.d x] = pu (.d (.int (l.length : Nat))) := by
  have q : lenD x = some (.int (l.length : Nat)) := by
    cases x with
    | tup _ => cases e; rfl
    | lst _ => cases e; rfl
    | frz _ => cases e; rfl
    | _ => cases e
  show oM ((lenD x).map W.d) = _
  rw [q]
  rfl
theorem atI_in {α : Type} {l : List α} {i : Int} (h0 : 0 ≤ i) (h1 : i < l.length) : atI l i = l[i.toNat]? := by
  unfold atI ixN
  rw [if_pos h0, if_pos h1]
  rfl
theorem w_ix {x : D} {l : List D} {i : Int} (e : items x = some l) (h0 : 0 ≤ i) (h1 : i < l.length) : ∃ d, d ∈ l ∧ l[i.toNat]? = some d ∧ wp (opIx (.d x) (.d (.int i))) P h = P (.d d) h := by
  have hlt : i.toNat < l.length := by omega
  refine ⟨l[i.toNat], List.getElem_mem hlt, List.getElem?_eq_getElem hlt, ?_⟩
  have q : ((items x).bind fun l => atI l i) = some l[i.toNat] := by
    rw [e]
    show atI l i = _
    rw [atI_in h0 h1, List.getElem?_eq_getElem hlt]
  unfold wp opIx
  cases x with
  | str _ => cases e
  | tup _ => simp only [q]
  | lst _ => simp only [q]
  | frz _ => simp only [q]
  | _ => cases e
theorem Sp2.at0 {m : List W → M W} {ws : List W} {c : Nat} {R : D → Prop} (s : Sp2 m ws c R) {n : Nat} {dk0 : List O} (hd : Dk n dk0) (hn : n + c ≤ 1000000000000) (k : ∀ d n' dk', R d → n' ≤ n + c → Dk n' dk' → P (.d d) dk') : wp (lendC 2 m ws) P dk0 := by
  have q := s n dk0 [] P hd hn fun d n' dk' a b c => by rw [List.append_nil]; exact k d n' dk' a b c
  rw [List.append_nil] at q
  exact q
end
theorem pick_s {x : D} {l : List D} (e : items x = some l) (hl : l ≠ []) (hz : l.length < 1000000) : Sp2 m__law_pick [.ref 1, .d x] 1 (fun d => d ∈ l) := by
  have hp : 1 ≤ l.length := by cases l with | nil => exact (hl rfl).elim | cons _ _ => simp
  refine .mk' rfl fun n dk0 hd hn => ?_
  unfold m__law_pick
  rw [wp_mFn2, wp_mRet, wp_m2op]
  simp only [wp_mV0, List.getElem?_cons_succ, List.getElem?_cons_zero, Option.join_some, wp_some, wp_mLend, wp_mCons, wp_mNil, wp_mCall, e_len e, wp_pu]
  refine (draw_s (k := (l.length : Int)) (by omega) (by omega)).at0 hd hn fun d n' dk' ⟨r, er, h0, h1⟩ hn' hd' => ?_
  subst er
  obtain ⟨d, hm, _, q⟩ := w_ix (P := fun w h1 => FnP (fun w h' => ∃ n' dk' L' d, h' = dk' ++ L' ∧ n' ≤ n + 1 ∧ Dk n' dk' ∧ d ∈ l ∧ w = .d d) (.rt w) h1) (h := dk') e h0 h1
  rw [q]
  exact ⟨n', dk', [], d, (List.append_nil _).symm, hn', hd', hm, rfl⟩
/-! ### some of the hands -/
theorem asc_range (k : Int → Bool) (n : Nat) : ((List.range n).map fun (i : Nat) => (i : Int)).Pairwise (· < ·) := by
  rw [List.pairwise_map]
  exact List.pairwise_lt_range.imp fun h => by omega
structure GroupOk (many : Nat) (g : List Int) : Prop where
  asc : g.Pairwise (· < ·)
  lo : ∀ x ∈ g, 0 ≤ x ∧ x < many
theorem e_mkTup1 (x : D) : mkTup [.d x] = pu (.d (.tup [x])) := rfl
theorem e_tuple (l : List D) : bTuple [.d (.lst l)] = pu (.d (.tup l)) := rfl
theorem e_tuple2 (l : List D) : bTuple [.d (.tup l)] = pu (.d (.tup l)) := rfl
theorem e_rng1 {k : Nat} (h : k ≤ 100000) : rng1 [.d (.int k)] = some (rangeD 0 k) := by
  show (if -100000 ≤ (k : Int) ∧ (k : Int) ≤ 100000 then some (rangeD 0 (k : Int).toNat) else none) = _
  rw [if_pos (by omega)]
  rfl
theorem some_s {many : Nat} (h1 : 1 ≤ many) (h2 : many ≤ 4) : Sp2 m__law_some [.ref 1, .d (.int many)] 6 (fun d => ∃ g, d = eT g ∧ GroupOk many g) := by
  refine .mk' rfl fun n dk0 hd hn => ?_
  unfold m__law_some
  rw [wp_mFn2]
  generalize hPF : FnP (fun w h' => ∃ n' dk' L' d, h' = dk' ++ L' ∧ n' ≤ n + 6 ∧ Dk n' dk' ∧ (∃ g, d = eT g ∧ GroupOk many g) ∧ w = .d d) = PF
  have fin : ∀ {g : List Int} {n' : Nat} {dk' : List O}, GroupOk many g → n' ≤ n + 6 → Dk n' dk' → PF (.rt (.d (eT g))) dk' := fun {g n' dk'} a b c => by
    subst hPF
    exact ⟨n', dk', [], eT g, (List.append_nil _).symm, b, c, ⟨g, rfl, a⟩, rfl⟩
  refine seqK fun K nx rt _ _ => ?_
  rw [wp_mIfS, wp_mT, wp_m2op]
  simp only [wp_mV0, List.getElem?_cons_succ, List.getElem?_cons_zero, Option.join_some, wp_some, wp_mLend, wp_mCons, wp_mNil, wp_mC, e_gt, wp_pu]
  refine (draw_s (k := 3) (by decide) (by decide)).at0 hd (by omega) fun d n1 dk1 ⟨r, er, h0, h1'⟩ hn1 hd1 => ?_
  subst er
  simp only [e_gt, wp_pu, e_asB]
  by_cases hr : 0 < r
  · rw [if_pos (by simpa using hr), wp_mRet, wp_mTup]
    simp only [wp_mV0, List.getElem?_cons_succ, List.getElem?_cons_zero, Option.join_some, wp_some, wp_mLend, wp_mCons, wp_mNil, wp_mC]
    refine (draw_s (k := many) (by omega) (by omega)).at0 hd1 (by omega) fun d n2 dk2 ⟨r2, er, g0, g1⟩ hn2 hd2 => ?_
    subst er
    rw [e_mkTup1, wp_pu]
    exact rt _ _ (fin (g := [r2]) ⟨List.pairwise_singleton _ _, fun x hx => by rw [List.mem_singleton.mp hx]; exact ⟨g0, g1⟩⟩ (by omega) hd2)
  · rw [if_neg (by simpa using hr), wp_mNext]
    refine nx _ _ ?_
    rw [wp_mRet, wp_mCall, wp_mCons, wp_mLc, wp_mRng1]
    simp only [wp_mV0, List.getElem?_cons_succ, List.getElem?_cons_zero, Option.join_some, wp_some, wp_mCons, wp_mNil]
    refine ⟨rangeD 0 many, e_rng1 (by omega), ?_⟩
    refine wp_lcI (I := fun (i : Nat) (l : List D) (h : List O) => ∃ (g : List Int) (n' : Nat), l = g.map D.int ∧ g.Pairwise (· < ·) ∧ (∀ x ∈ g, 0 ≤ x ∧ x < i) ∧ n' ≤ n + 1 + i ∧ Dk n' h) ⟨[], n1, rfl, List.Pairwise.nil, (fun x hx => nomatch hx), by omega, hd1⟩ ?_ ?_
    · rintro i d l h hi ⟨g, n', rfl, ha, hb, hn', hd'⟩
      have hlt := (List.getElem?_eq_some_iff.mp hi).1
      rw [rangeD_len] at hlt
      have ed : d = .int i := by
        unfold rangeD at hi
        rw [List.getElem?_map, List.getElem?_range hlt] at hi
        have := Option.some.inj hi
        rw [← this]
        simp
      subst ed
      refine ⟨_, rfl, ?_⟩
      rw [wp_mT, wp_m2op]
      simp only [wipeE, wp_mV0, wp_mLend, wp_mCons, wp_mNil, wp_mC, List.set_cons_succ, List.set_cons_zero, List.getElem?_cons_succ, List.getElem?_cons_zero, Option.join_some, wp_some]
      refine (draw_s (k := 2) (by decide) (by decide)).at0 hd' (by omega) fun d n2 dk2 ⟨r2, er, g0, g1⟩ hn2 hd2 => ?_
      subst er
      rw [w_eq (okN_int _) (okN_int _), e_asB, wp_pu]
      by_cases hk : eqD (.int r2) (.int 0) = true
      · rw [if_pos hk]
        exact ⟨.int i, rfl, g ++ [(i : Int)], n2, by rw [List.map_append]; rfl, List.pairwise_append.mpr ⟨ha, List.pairwise_singleton _ _, fun a ha' b hb' => by rw [List.mem_singleton.mp hb']; exact (hb a ha').2⟩, fun x hx => by
          rcases List.mem_append.mp hx with hx | hx
          · have := hb x hx; omega
          · rw [List.mem_singleton.mp hx]; omega, by omega, hd2⟩
      · rw [if_neg hk]
        exact ⟨g, n2, rfl, ha, fun x hx => by have := hb x hx; omega, by omega, hd2⟩
    · rintro l h ⟨g, n', rfl, ha, hb, hn', hd'⟩
      rw [rangeD_len] at hn' hb
      rw [e_tuple, wp_pu]
      exact fin ⟨ha, hb⟩ (by omega) hd'
end Lw

set_option Elab.async false
set_option linter.all false
set_option maxRecDepth 100000
set_option maxHeartbeats 1000000
namespace Lw
open PySem hiding Env
open L2 DD
/-- a comprehension that gives an int for each item, with at most one draw each -/
theorem lc_ints {vs : List Nat} {j : Nat} {e : Env → M W} {ρ : Env} {ds : List D} {h : List O} {n : Nat} {PD : List D → List O → Prop} (hd : Dk n h)
    (step : ∀ (d : D) (n' : Nat) (h : List O), d ∈ ds → Dk n' h → n' ≤ n + ds.length → wp (e ((wipeE ρ vs).set j (some (.d d)))) (fun w h' => ∃ v n2, w = .d (.int v) ∧ n2 ≤ n' + 1 ∧ Dk n2 h') h)
    (done : ∀ (g : List Int) (n' : Nat) (h : List O), g.length = ds.length → n' ≤ n + ds.length → Dk n' h → PD (g.map .int) h) : wp (mLcL vs (.nm j) mYes e ρ ds) PD h := by
  refine wp_lcI (I := fun (i : Nat) (l : List D) (h : List O) => ∃ (g : List Int) (n' : Nat), l = g.map D.int ∧ g.length = i ∧ n' ≤ n + i ∧ Dk n' h) ⟨[], n, rfl, rfl, by omega, hd⟩ ?_ ?_
  · rintro i d l h hi ⟨g, n', rfl, ha, hn', hd'⟩
    have hlt := (List.getElem?_eq_some_iff.mp hi).1
    refine ⟨_, rfl, ?_⟩
    show wp (e _) _ h
    refine (step d n' h (List.mem_of_getElem? hi) hd' (by omega)).imp fun w h' ⟨v, n2, ew, hn2, hd2⟩ => ?_
    exact ⟨.int v, ew, g ++ [v], n2, by rw [List.map_append]; rfl, by rw [List.length_append, List.length_singleton, ha], by omega, hd2⟩
  · rintro l h ⟨g, n', rfl, ha, hn', hd'⟩
    exact done g n' h ha hn' hd'
section
variable {P : W → List O → Prop} {h : List O}
theorem e_sum (r : List Int) : bSumA [.d (eT r)] = pu (.d (.int r.sum)) := by
  show oM (Option.map W.d ((intsD (r.map .int)).map fun ns => .int ns.sum)) = _
  rw [intsD_map]
  rfl
theorem e_max {r : List Int} {m : Int} (e : maxI r = some m) : bMax [.d (eL r)] = pu (.d (.int m)) := by
  show oM (Option.map W.d ((intsD (r.map .int)).bind fun ns => (maxI ns).map .int)) = _
  rw [intsD_map]
  show oM (Option.map W.d ((maxI r).map .int)) = _
  rw [e]
  rfl
theorem e_list (l : List D) : bList [.d (.tup l)] = pu (.d (.lst l)) := rfl
end
theorem mkTup2 (x y : D) : mkTup [.d x, .d y] = pu (.d (.tup [x, y])) := rfl
theorem wp_mAsg (g : Tg) (m : Env → M W) {ρ : Env} {PF : Fl → List O → Prop} {h : List O} : wp (mAsg g m ρ) PF h = wp (m ρ) (fun w h1 => wp (asD w) (fun d h2 => ∃ ρ', mG g d ρ = some ρ' ∧ PF (.nx ρ') h2) h1) h := by
  unfold mAsg
  rw [wp_bd]
  congr 1
  funext w h1
  rw [wp_bd]
  congr 1
  funext d h2
  rw [wp_bd, wp_oM]
  rfl
theorem max_some {r : List Int} (h : r ≠ []) : ∃ m, maxI r = some m := by
  cases r with
  | nil => exact (h rfl).elim
  | cons x r => exact ⟨_, rfl⟩
theorem marks_s {rs : List (List Int)} {many : Nat} (hm : 1 ≤ many) (hm4 : many ≤ 4) (hne : rs ≠ []) (hz : rs.length ≤ 1000) (hr : ∀ r ∈ rs, r.length = many) : Sp2 m__law_marks [.ref 1, .d (eLT rs)] (rs.length + 10) (fun d => ∃ ts, d = eT ts ∧ ts.length = rs.length) := by
  have hlen : (rs.map eT).length = rs.length := List.length_map ..
  refine .mk' rfl fun n dk0 hd hn => ?_
  unfold m__law_marks
  rw [wp_mFn2]
  simp only [List.replicate, Nat.reduceSub]
  generalize hPF : FnP (fun w h' => ∃ n' dk' L' d, h' = dk' ++ L' ∧ n' ≤ n + (rs.length + 10) ∧ Dk n' dk' ∧ (∃ ts, d = eT ts ∧ ts.length = rs.length) ∧ w = .d d) = PF
  have fin : ∀ (g : List Int) (n' : Nat) (dk' : List O), g.length = (rs.map eT).length → n' ≤ n + 10 + (rs.map eT).length → Dk n' dk' → PF (.rt (.d (eT g))) dk' := fun g n' dk' a b c => by
    subst hPF
    exact ⟨n', dk', [], eT g, (List.append_nil _).symm, by omega, c, ⟨g, rfl, by omega⟩, rfl⟩
  have row : ∀ d ∈ rs.map eT, ∃ r, r ∈ rs ∧ d = eT r ∧ r.length = many ∧ r ≠ [] := fun d hd => by
    obtain ⟨r, h1, rfl⟩ := List.mem_map.mp hd
    exact ⟨r, h1, rfl, hr r h1, fun z => by have := hr r h1; rw [z] at this; simp at this; omega⟩
  refine seqK fun K nx rt _ _ => ?_
  rw [wp_mAsg, wp_mTup, wp_mCons]
  simp only [wp_mV0, List.getElem?_cons_succ, List.getElem?_cons_zero, Option.join_some, wp_some, wp_mLend, wp_mCons, wp_mNil, wp_mC, wp_m2op]
  refine (draw_s (k := 6) (by decide) (by decide)).at0 hd (by omega) fun d n1 dk1 ⟨way, er, w0, w1⟩ hn1 hd1 => ?_
  subst er
  refine (draw_s (k := 3) (by decide) (by decide)).at0 hd1 (by omega) fun d n2 dk2 ⟨sz, er, s0, s1⟩ hn2 hd2 => ?_
  subst er
  simp only [e_add, wp_pu, mkTup2]
  refine ⟨_, rfl, ?_⟩
  refine nx _ _ (seqK fun K nx rt _ _ => ?_)
  rw [wp_mIfS, wp_mT, wp_m2op]
  simp only [wp_mV0, List.set_cons_succ, List.set_cons_zero, List.getElem?_cons_succ, List.getElem?_cons_zero, Option.join_some, wp_some, wp_mC, e_lt, wp_pu, e_asB]
  by_cases c1 : way < 2
  · rw [if_pos (by simpa using c1), wp_mRet, wp_mCall, wp_mCons, wp_mLc, wp_mItems]
    simp only [wp_mV0, List.getElem?_cons_succ, List.getElem?_cons_zero, Option.join_some, wp_some]
    refine ⟨_, rfl, lc_ints hd2 (fun d n' h hm hd' hn' => ?_) fun g n' h hg hn' hd' => ?_⟩
    · simp only [wipeE, wp_mLend, wp_mCons, wp_mNil, wp_mV0, List.set_cons_succ, List.set_cons_zero, List.getElem?_cons_succ, List.getElem?_cons_zero, Option.join_some, wp_some]
      refine (draw_s (k := 2 + sz) (by omega) (by omega)).at0 hd' (by omega) fun d n3 dk3 ⟨r, er, g0, g1⟩ hn3 hd3 => ?_
      exact ⟨r, n3, by rw [er], hn3, hd3⟩
    · rw [wp_mNil, e_tuple, wp_pu]
      exact rt _ _ (fin g n' h hg (by omega) hd')
  · rw [if_neg (by simpa using c1), wp_mNext]
    refine nx _ _ (seqK fun K nx rt _ _ => ?_)
    rw [wp_mIfS, wp_mT, wp_m2op]
    simp only [wp_mV0, List.getElem?_cons_succ, List.getElem?_cons_zero, Option.join_some, wp_some, wp_mC]
    rw [w_eq (okN_int _) (okN_int _), e_asB, wp_pu, tells_int.eq]
    by_cases c2 : way = 2
    · rw [if_pos (by simpa using c2), wp_mRet, wp_mCall, wp_mCons, wp_mLc, wp_mItems]
      simp only [wp_mV0, List.getElem?_cons_succ, List.getElem?_cons_zero, Option.join_some, wp_some]
      refine ⟨_, rfl, lc_ints hd2 (fun d n' h hm hd' hn' => ?_) fun g n' h hg hn' hd' => ?_⟩
      · obtain ⟨r, _, rfl, _, _⟩ := row d hm
        simp only [wipeE, wp_m2op, wp_mCall, wp_mCons, wp_mNil, wp_mV0, List.set_cons_succ, List.set_cons_zero, List.getElem?_cons_succ, List.getElem?_cons_zero, Option.join_some, wp_some, e_sum, wp_pu, e_int]
        rw [w_mod (by omega)]
        exact ⟨_, n', rfl, by omega, hd'⟩
      · rw [wp_mNil, e_tuple, wp_pu]
        exact rt _ _ (fin g n' h hg (by omega) hd')
    · rw [if_neg (by simpa using c2), wp_mNext]
      refine nx _ _ (seqK fun K nx rt _ _ => ?_)
      rw [wp_mIfS, wp_mT, wp_m2op]
      simp only [wp_mV0, List.getElem?_cons_succ, List.getElem?_cons_zero, Option.join_some, wp_some, wp_mC]
      rw [w_eq (okN_int _) (okN_int _), e_asB, wp_pu, tells_int.eq]
      by_cases c3 : way = 3
      · rw [if_pos (by simpa using c3), wp_mRet, wp_mCall, wp_mCons, wp_mLc, wp_mItems]
        simp only [wp_mV0, List.getElem?_cons_succ, List.getElem?_cons_zero, Option.join_some, wp_some]
        refine ⟨_, rfl, lc_ints hd2 (fun d n' h hm hd' hn' => ?_) fun g n' h hg hn' hd' => ?_⟩
        · obtain ⟨r, _, rfl, _, hr0⟩ := row d hm
          obtain ⟨mx, hmx⟩ := max_some hr0
          simp only [wipeE, wp_mCall, wp_mCons, wp_mNil, wp_mV0, List.set_cons_succ, List.set_cons_zero, List.getElem?_cons_succ, List.getElem?_cons_zero, Option.join_some, wp_some, e_list, wp_pu, e_max hmx]
          exact ⟨_, n', rfl, by omega, hd'⟩
        · rw [wp_mNil, e_tuple, wp_pu]
          exact rt _ _ (fin g n' h hg (by omega) hd')
      · rw [if_neg (by simpa using c3), wp_mNext]
        refine nx _ _ (seqK fun K nx rt _ _ => ?_)
        obtain ⟨r0, rest, rfl⟩ : ∃ r0 rest, rs = r0 :: rest := by
          cases rs with
          | nil => exact (hne rfl).elim
          | cons a b => exact ⟨a, b, rfl⟩
        rw [wp_mSet, wp_mLend]
        simp only [wp_mCons, wp_mNil, wp_mV0, wp_mCall, wp_m2op, wp_mC, List.getElem?_cons_succ, List.getElem?_cons_zero, Option.join_some, wp_some]
        obtain ⟨d0, _, e0, q⟩ := w_ix (P := fun x h1 => wp (bLen [x]) (fun x h1 => wp (lendC 2 m__law_draw [.ref 1, x]) (fun w h1 => K (.nx ([some (W.ref 1), some (.d (eLT (r0 :: rest))), some (.d (.int way)), some (.d (.int (2 + sz))), none, none].set 4 (some w))) h1) h1) h1) (h := dk2) (x := eLT (r0 :: rest)) (l := (r0 :: rest).map eT) (i := 0) rfl (Int.le_refl _) (by simp)
        have ed : d0 = eT r0 := by simpa using e0.symm
        subst ed
        refine q.mpr ?_
        rw [e_len (l := r0.map .int) rfl, wp_pu, List.length_map, hr r0 List.mem_cons_self]
        refine (draw_s (k := many) (by omega) (by omega)).at0 hd2 (by omega) fun d n3 dk3 ⟨sp, er, g0, g1⟩ hn3 hd3 => ?_
        subst er
        refine nx _ _ ?_
        rw [wp_mRet, wp_mCall, wp_mCons, wp_mLc, wp_mItems]
        simp only [wp_mV0, List.set_cons_succ, List.set_cons_zero, List.getElem?_cons_succ, List.getElem?_cons_zero, Option.join_some, wp_some]
        refine ⟨_, rfl, lc_ints hd3 (fun d n' h hm hd' hn' => ?_) fun g n' h hg hn' hd' => ?_⟩
        · obtain ⟨r, _, rfl, hl, _⟩ := row d hm
          rw [wp_mIf, wp_mT]
          simp only [wipeE, wp_m2op, wp_mCall, wp_mCons, wp_mNil, wp_mC, wp_mV0, List.set_cons_succ, List.set_cons_zero, List.getElem?_cons_succ, List.getElem?_cons_zero, Option.join_some, wp_some]
          rw [w_eq (okN_int _) (okN_int _), e_asB, wp_pu]
          by_cases c4 : eqD (.int way) (.int 4) = true
          · rw [if_pos c4]
            obtain ⟨d1, hd1, _, q1⟩ := w_ix (P := fun w h' => ∃ v n2, w = .d (.int v) ∧ n2 ≤ n' + 1 ∧ Dk n2 h') (h := h) (x := eT r) (l := r.map .int) (i := sp) rfl g0 (by rw [List.length_map, hl]; exact g1)
            rw [q1]
            obtain ⟨v, _, rfl⟩ := List.mem_map.mp hd1
            exact ⟨v, n', rfl, by omega, hd'⟩
          · rw [if_neg c4]
            exact ⟨7, n', rfl, by omega, hd'⟩
        · rw [wp_mNil, e_tuple, wp_pu]
          exact fin g n' h hg (by omega) hd'
end Lw

set_option Elab.async false
set_option linter.all false
set_option maxRecDepth 100000
set_option maxHeartbeats 1000000
namespace Lw
open PySem hiding Env
open L2 DD
/-! ### handles at the end of the heap -/
section
variable {P : W → List O → Prop} {PN : Nat → List O → Prop} {PE : Env → List O → Prop} {PF : Fl → List O → Prop} {G L : List O} {ws ws' args : List W} {w : W} {f : List W → List W → Option (W × List W)} {ρ : Env} {n : Nat} {dk1 : List O}
theorem at_last {o : O} (hd : Dk n dk1) : (dk1 ++ (L ++ [o]))[2 + L.length]? = some o := by
  rw [← List.append_assoc, List.getElem?_append_right (by rw [List.length_append, hd.len]; exact Nat.le_refl _), List.length_append, hd.len, Nat.sub_self]
  rfl
theorem set_last {o o' : O} (hd : Dk n dk1) : (dk1 ++ (L ++ [o])).set (2 + L.length) o' = dk1 ++ (L ++ [o']) := by
  rw [← List.append_assoc, List.set_append_right _ _ (by rw [List.length_append, hd.len]; exact Nat.le_refl _), List.length_append, hd.len, Nat.sub_self, ← List.append_assoc]
  rfl
theorem len_last (hd : Dk n dk1) : (dk1 ++ L).length = 2 + L.length := by rw [List.length_append, hd.len]
theorem wp_alc {o : O} : wp (alc o) P G = P (.ref G.length) (G ++ [o]) := rfl
theorem up_last (hd : Dk n dk1) (hf : f ws args = some (w, ws')) : wp (upL f (2 + L.length) args) P (dk1 ++ (L ++ [.lst ws])) = P w (dk1 ++ (L ++ [.lst ws'])) := by
  unfold wp upL
  simp only [at_last hd, hf, set_last hd]
theorem lsR_last (hd : Dk n dk1) : wp (lsR (.ref (2 + L.length))) PN (dk1 ++ (L ++ [.lst ws])) = PN (2 + L.length) (dk1 ++ (L ++ [.lst ws])) := by
  unfold wp lsR
  simp only [at_last hd]
theorem frz_last {i : Nat} {l : List D} (hd : Dk n dk1) (he : (ρ[i]?).join = some (.ref (2 + L.length))) (hl : datas ws = some l) : wp (frz i ρ) PE (dk1 ++ (L ++ [.lst ws])) = PE (ρ.set i (some (.d (.lst l)))) (dk1 ++ (L ++ [.dead])) := by
  unfold wp frz
  have e : objD (.lst ws) = some (.lst l) := by show (datas ws).map D.lst = _; rw [hl]; rfl
  have e2 : (some (O.lst ws)).bind objD = some (.lst l) := e
  simp only [he, at_last hd, e2, set_last hd]
theorem wp_mFrz {i : Nat} {s : Env → M Fl} {h : List O} : wp (mFrz i s ρ) PF h = wp (s ρ) (fun f h1 => match f with
    | .nx ρ' => wp (frz i ρ') (fun ρ2 h2 => PF (.nx ρ2) h2) h1
    | f => PF f h1) h := by
  unfold mFrz
  rw [wp_bd]
  congr 1
  funext f h1
  cases f with
  | nx ρ' => show wp (bd (frz i ρ') fun ρ2 => pu (.nx ρ2)) PF h1 = _; rw [wp_bd]; rfl
  | _ => rfl
theorem wp_mLstR {nn : Env → M (List W)} {h : List O} : wp (mLstR nn ρ) P h = wp (nn ρ) (fun ws h1 => if ws.length ≤ 100000 then P (.ref h1.length) (h1 ++ [.lst ws]) else False) h := by
  unfold mLstR
  rw [wp_bd]
  congr 1
  funext ws h1
  unfold mkLstR
  split <;> rfl
end
theorem rows_inner {n : Nat} {dk1 L : List O} {sz sc lo : Int} {a1 a2 a5 a8 a9 a10 a11 a12 : Option W} {K : Fl → List O → Prop} (hd : Dk n dk1) (hn : n + 8 ≤ 1000000000000) (hz : 1 ≤ sz ∧ sz ≤ 6) (hs : 1 ≤ sc ∧ sc ≤ 1000000) (hlo : -3 ≤ lo ∧ lo ≤ 3)
    (hK : ∀ (xs : List Int) (n' : Nat) (dk' : List O) (lo' : Int) (b8 : Option W), xs ≠ [] → (xs.length : Int) ≤ sz → xs.Pairwise (· < ·) → (∀ x ∈ xs, -100000000 ≤ x ∧ x ≤ 100000000) → n' ≤ n + 8 → Dk n' dk' →
      K (.nx [some (.ref 1), a1, a2, some (.d (.int sz)), some (.d (.int sc)), a5, some (.d (.int lo')), some (.d (.lst (xs.map .int))), b8, a9, a10, a11, a12]) (dk' ++ (L ++ [.dead]))) :
    wp (mFrz 7 (mFor (mRng1 (mCons (m2op opAdd (mC (.int 1)) (mLend 2 m__law_draw (mCons (mV 0) (mCons (mV 3) mNil)))) mNil)) (.nm 8) (mSeq (mExpr (mMeth (upL fAppend) (mV 7) (mCons (m2op opMul (mV 6) (mV 4)) mNil))) (mSet 6 (m2op opAdd (m2op opAdd (mV 6) (mC (.int 1))) (mLend 2 m__law_draw (mCons (mV 0) (mCons (mC (.int 3)) mNil))))))) 
      [some (.ref 1), a1, a2, some (.d (.int sz)), some (.d (.int sc)), a5, some (.d (.int lo)), some (.ref (2 + L.length)), a8, a9, a10, a11, a12]) K (dk1 ++ (L ++ [.lst []])) := by
  rw [wp_mFrz, wp_mFor, wp_mRng1, wp_mCons, wp_m2op]
  simp only [wp_mC, wp_mLend, wp_mCons, wp_mNil, wp_mV0, List.getElem?_cons_succ, List.getElem?_cons_zero, Option.join_some, wp_some]
  refine draw_s (k := sz) hz.1 (by omega) n dk1 (L ++ [.lst []]) _ hd (by omega) fun d n1 dk2 ⟨r, er, h0, h1⟩ hn1 hd1 => ?_
  subst er
  simp only [e_add, wp_pu]
  obtain ⟨t, ht⟩ : ∃ t : Nat, 1 + r = t := ⟨(1 + r).toNat, by omega⟩
  rw [ht]
  refine ⟨rangeD 0 t, e_rng1 (by omega), ?_⟩
  refine wp_loop (I := fun i ρ h => ∃ (xs : List Int) (n' : Nat) (dk' : List O) (low : Int) (b8 : Option W), xs.length = i ∧ xs.Pairwise (· < ·) ∧ (∀ x ∈ xs, x < low * sc) ∧ (∀ x ∈ xs, -100000000 ≤ x ∧ x ≤ 100000000) ∧ lo + i ≤ low ∧ low ≤ lo + 3 * i ∧ n' ≤ n + 1 + i ∧ Dk n' dk' ∧
    ρ = [some (.ref 1), a1, a2, some (.d (.int sz)), some (.d (.int sc)), a5, some (.d (.int low)), some (.ref (2 + L.length)), b8, a9, a10, a11, a12] ∧ h = dk' ++ (L ++ [.lst (xs.map fun x => .d (.int x))])) ⟨[], n1, dk2, lo, a8, rfl, List.Pairwise.nil, (fun x hx => nomatch hx), (fun x hx => nomatch hx), by omega, by omega, by omega, hd1, rfl, rfl⟩ ?_ ?_
  · rintro i d ρ h hi ⟨xs, n', dk', low, b8, hl, ha, hb, hbd, hlo1, hlo2, hn', hd', rfl, rfl⟩
    have hlt := (List.getElem?_eq_some_iff.mp hi).1
    rw [rangeD_len] at hlt
    refine ⟨_, rfl, ?_⟩
    refine seqK fun K2 nx2 _ _ _ => ?_
    rw [wp_mExpr, wp_mMeth]
    simp only [wp_mV0, List.set_cons_succ, List.set_cons_zero, List.getElem?_cons_succ, List.getElem?_cons_zero, Option.join_some, wp_some]
    rw [lsR_last hd', wp_mCons, wp_m2op]
    simp only [wp_mV0, wp_mNil, List.getElem?_cons_succ, List.getElem?_cons_zero, Option.join_some, wp_some]
    rw [w_mul (.inr (by omega))]
    have hf : fAppend (xs.map fun x => W.d (.int x)) [.d (.int (low * sc))] = some (.d .non, (xs ++ [low * sc]).map fun x => W.d (.int x)) := by
      show (if (xs.map fun x => W.d (.int x)).length < 100000 then some (W.d .non, (xs.map fun x => W.d (.int x)) ++ [.d (.int (low * sc))]) else none) = _
      rw [if_pos (by rw [List.length_map]; omega), List.map_append]
      rfl
    rw [up_last hd' hf]
    refine nx2 _ _ ?_
    rw [wp_mSet, wp_m2op, wp_m2op]
    simp only [wp_mV0, wp_mC, wp_mLend, wp_mCons, wp_mNil, List.getElem?_cons_succ, List.getElem?_cons_zero, Option.join_some, wp_some, e_add, wp_pu]
    refine draw_s (k := 3) (by decide) (by decide) n' dk' _ _ hd' (by omega) fun d n2 dk3 ⟨r2, er, g0, g1⟩ hn2 hd2 => ?_
    subst er
    simp only [e_add, wp_pu]
    have hsc : low * sc < (low + 1 + r2) * sc := Int.mul_lt_mul_of_pos_right (by omega) (by omega)
    have hb1 : low * sc ≤ 24 * 1000000 := Int.le_trans (Int.mul_le_mul_of_nonneg_right (show low ≤ 24 by omega) (by omega)) (by omega)
    have hb2 : -3 * 1000000 ≤ low * sc := Int.le_trans (by omega) (Int.mul_le_mul_of_nonneg_right (show -3 ≤ low by omega) (show 0 ≤ sc by omega))
    refine ⟨xs ++ [low * sc], n2, dk3, low + 1 + r2, _, by rw [List.length_append, List.length_singleton, hl], List.pairwise_append.mpr ⟨ha, List.pairwise_singleton _ _, fun a h1 b h2 => by rw [List.mem_singleton.mp h2]; exact hb a h1⟩, fun x hx => ?_, fun x hx => ?_, by omega, by omega, by omega, hd2, rfl, rfl⟩
    · rcases List.mem_append.mp hx with hx | hx
      · exact Int.lt_trans (hb x hx) hsc
      · rw [List.mem_singleton.mp hx]; exact hsc
    · rcases List.mem_append.mp hx with hx | hx
      · exact hbd x hx
      · rw [List.mem_singleton.mp hx]; omega
  · rintro ρ h ⟨xs, n', dk', low, b8, hl, ha, hb, hbd, hlo1, hlo2, hn', hd', rfl, rfl⟩
    rw [rangeD_len] at hl hn'
    have hdat : datas (xs.map fun x => W.d (.int x)) = some (xs.map .int) := by
      rw [show (xs.map fun x => W.d (.int x)) = (xs.map D.int).map W.d from by rw [List.map_map]; rfl, datas_map]
    show wp (frz 7 _) _ _
    rw [frz_last hd' rfl hdat]
    exact hK xs n' dk' low b8 (fun z => by rw [z] at hl; simp at hl; omega) (by omega) ha hbd (by omega) hd'
end Lw

set_option Elab.async false
set_option linter.all false
set_option maxRecDepth 100000
set_option maxHeartbeats 1000000
namespace Lw
open PySem hiding Env
open L2 DD
/-- every row with every input behind it -/
def more (rs : List (List Int)) (xs : List Int) : List (List Int) := rs.flatMap fun r => xs.map fun x => r ++ [x]
theorem more_len (rs : List (List Int)) (xs : List Int) : (more rs xs).length = rs.length * xs.length := by
  unfold more
  induction rs with
  | nil => simp
  | cons r rs ih => rw [List.flatMap_cons, List.length_append, ih, List.length_map, List.length_cons, Nat.succ_mul, Nat.add_comm]
theorem filter_true (l : List D) : (l.filter fun _ => true) = l := List.filter_eq_self.mpr fun _ _ => rfl
theorem e_addT {a b : List D} (h : a.length + b.length ≤ 100000) : opAdd (.d (.tup a)) (.d (.tup b)) = pu (.d (.tup (a ++ b))) := by
  show oM (if a.length + b.length ≤ 100000 then some (W.d (.tup (a ++ b))) else none) = _
  rw [if_pos h]
  rfl
theorem rows_ext {n : Nat} {dk1 L : List O} {rs : List (List Int)} {xs : List Int} {a1 a3 a4 a5 a6 a8 a10 a11 a12 : Option W} {K : Fl → List O → Prop} (hd : Dk n dk1) (hr : ∀ r ∈ rs, r.length ≤ 10) (h1 : rs.length ≤ 1000) (h2 : xs.length ≤ 6)
    (hK : ∀ b10 : Option W, K (.nx [some (.ref 1), a1, some (.d (eLT rs)), a3, a4, a5, a6, some (.d (.lst (xs.map .int))), a8, some (.ref (2 + L.length)), b10, a11, a12]) (dk1 ++ (L ++ [.lst (((more rs xs).map eT).map .d)]))) :
    wp (mFor (mItems (mV 2)) (.nm 10) (mExpr (mMeth (upL fExtend) (mV 9) (mCons (mLc (mItems (mV 7)) [12] (.nm 12) mYes (m2op opAdd (mV 10) (mTup (mCons (mV 12) mNil)))) mNil)))
      [some (.ref 1), a1, some (.d (eLT rs)), a3, a4, a5, a6, some (.d (.lst (xs.map .int))), a8, some (.ref (2 + L.length)), a10, a11, a12]) K (dk1 ++ (L ++ [.lst []])) := by
  rw [wp_mFor, wp_mItems]
  simp only [wp_mV0, List.getElem?_cons_succ, List.getElem?_cons_zero, Option.join_some, wp_some]
  refine ⟨_, rfl, ?_⟩
  refine wp_loop (I := fun i ρ h => ∃ b10 : Option W, ρ = [some (.ref 1), a1, some (.d (eLT rs)), a3, a4, a5, a6, some (.d (.lst (xs.map .int))), a8, some (.ref (2 + L.length)), b10, a11, a12] ∧ h = dk1 ++ (L ++ [.lst (((more (rs.take i) xs).map eT).map .d)])) ⟨a10, rfl, rfl⟩ ?_ ?_
  · rintro i d ρ h hi ⟨b10, rfl, rfl⟩
    have hlt := (List.getElem?_eq_some_iff.mp hi).1
    rw [List.length_map] at hlt
    have ed : d = eT rs[i] := by
      rw [List.getElem?_map, List.getElem?_eq_getElem hlt] at hi
      exact (Option.some.inj hi).symm
    subst ed
    refine ⟨_, rfl, ?_⟩
    rw [wp_mExpr, wp_mMeth]
    simp only [wp_mV0, List.set_cons_succ, List.set_cons_zero, List.getElem?_cons_succ, List.getElem?_cons_zero, Option.join_some, wp_some]
    rw [lsR_last hd, wp_mCons, wp_mLc, wp_mItems]
    simp only [wp_mV0, List.getElem?_cons_succ, List.getElem?_cons_zero, Option.join_some, wp_some]
    refine ⟨_, rfl, ?_⟩
    have hrl : rs[i].length ≤ 10 := hr _ (List.getElem_mem hlt)
    refine wp_lc (fun _ => true) (fun d => .tup (rs[i].map .int ++ [d])) (fun d hd => ⟨_, rfl, fun PB p => p, fun _ P p => ?_⟩) ?_
    · simp only [wipeE, wp_m2op, wp_mTup, wp_mCons, wp_mNil, wp_mV0, List.set_cons_succ, List.set_cons_zero, List.getElem?_cons_succ, List.getElem?_cons_zero, Option.join_some, wp_some]
      rw [e_mkTup1, wp_pu, e_addT (by rw [List.length_map]; simp; omega), wp_pu]
      exact p
    · rw [filter_true, wp_mNil]
      have e1 : (xs.map D.int).map (fun d => D.tup (rs[i].map .int ++ [d])) = (xs.map fun x => rs[i] ++ [x]).map eT := by
        rw [List.map_map, List.map_map]
        congr 1
        funext x
        show D.tup (rs[i].map .int ++ [.int x]) = D.tup ((rs[i] ++ [x]).map .int)
        rw [List.map_append]
        rfl
      rw [e1]
      have e2 : more (rs.take (i + 1)) xs = more (rs.take i) xs ++ xs.map fun x => rs[i] ++ [x] := by
        unfold more
        rw [List.take_add_one, List.getElem?_eq_getElem hlt, List.flatMap_append]
        simp
      have hm : (more (rs.take i) xs).length ≤ 6000 := by
        rw [more_len, List.length_take]
        exact Nat.le_trans (Nat.mul_le_mul (Nat.le_trans (Nat.min_le_right _ _) h1) h2) (by decide)
      have hf : fExtend (((more (rs.take i) xs).map eT).map W.d) [.d (.lst ((xs.map fun x => rs[i] ++ [x]).map eT))] = some (.d .non, ((more (rs.take (i + 1)) xs).map eT).map .d) := by
        show (if (((more (rs.take i) xs).map eT).map W.d).length + ((xs.map fun x => rs[i] ++ [x]).map eT).length ≤ 100000 then some (W.d .non, ((more (rs.take i) xs).map eT).map W.d ++ ((xs.map fun x => rs[i] ++ [x]).map eT).map .d) else none) = _
        rw [if_pos (by simp only [List.length_map]; omega), e2, List.map_append, List.map_append]
      rw [up_last hd hf]
      exact ⟨_, rfl, rfl⟩
  · rintro ρ h ⟨b10, rfl, rfl⟩
    rw [List.length_map, List.take_length]
    exact hK b10
/-! ### what rows are -/
theorem lex_snoc : ∀ {a b : List Int} {x y : Int}, a.length = b.length → HT.lexLt a b = true → HT.lexLt (a ++ [x]) (b ++ [y]) = true
  | [], [], _, _, _, h => by cases h
  | [], _ :: _, _, _, e, _ => by cases e
  | _ :: _, [], _, _, e, _ => by cases e
  | p :: a, q :: b, x, y, e, h => by
    rw [HT.lexLt_cons] at h
    rw [List.cons_append, List.cons_append, HT.lexLt_cons]
    split at h
    · rename_i hpq
      rw [if_pos hpq]
      exact lex_snoc (by simpa using e) h
    · rename_i hpq
      rw [if_neg hpq]
      exact h
theorem lex_last : ∀ {a : List Int} {x y : Int}, x < y → HT.lexLt (a ++ [x]) (a ++ [y]) = true
  | [], x, y, h => by
    show HT.lexLt [x] [y] = true
    rw [HT.lexLt_cons, if_neg (by omega)]
    exact decide_eq_true h
  | p :: a, x, y, h => by
    rw [List.cons_append, List.cons_append, HT.lexLt_cons, if_pos rfl]
    exact lex_last h
structure Rows (m : Nat) (rs : List (List Int)) : Prop where
  ne : rs ≠ []
  len : ∀ r ∈ rs, r.length = m
  asc : rs.Pairwise fun a b => HT.lexLt a b = true
  col : ∃ cs : List (List Int), cs.length = m ∧ (∀ c ∈ cs, c.length ≤ 6) ∧ ∀ r ∈ rs, ∀ (k : Nat) (v : Int), r[k]? = some v → ∃ c, cs[k]? = some c ∧ v ∈ c
  bnd : ∀ r ∈ rs, ∀ v ∈ r, -100000000 ≤ v ∧ v ≤ 100000000
theorem rows_nil : Rows 0 [[]] := by
  refine ⟨by simp, fun r hr => by rw [List.mem_singleton.mp hr]; rfl, List.pairwise_singleton _ _, ⟨[], rfl, (fun c hc => nomatch hc), fun r hr k v e => by rw [List.mem_singleton.mp hr] at e; simp at e⟩, fun r hr v hv => by rw [List.mem_singleton.mp hr] at hv; cases hv⟩
theorem mem_more {rs : List (List Int)} {xs : List Int} {r : List Int} : r ∈ more rs xs ↔ ∃ a ∈ rs, ∃ x ∈ xs, r = a ++ [x] := by
  unfold more
  rw [List.mem_flatMap]
  constructor
  · rintro ⟨a, ha, h⟩
    obtain ⟨x, hx, rfl⟩ := List.mem_map.mp h
    exact ⟨a, ha, x, hx, rfl⟩
  · rintro ⟨a, ha, x, hx, rfl⟩
    exact ⟨a, ha, List.mem_map.mpr ⟨x, hx, rfl⟩⟩
theorem rows_more {m : Nat} {rs : List (List Int)} {xs : List Int} (h : Rows m rs) (hx : xs ≠ []) (hl : xs.length ≤ 6) (ha : xs.Pairwise (· < ·)) (hb : ∀ x ∈ xs, -100000000 ≤ x ∧ x ≤ 100000000) : Rows (m + 1) (more rs xs) := by
  refine ⟨fun z => ?_, fun r hr => ?_, ?_, ?_, fun r hr v hv => ?_⟩
  · have := more_len rs xs
    rw [z] at this
    have h1 : rs.length ≠ 0 := fun q => h.ne (List.eq_nil_of_length_eq_zero q)
    have h2 : xs.length ≠ 0 := fun q => hx (List.eq_nil_of_length_eq_zero q)
    have h3 : 0 < rs.length * xs.length := Nat.mul_pos (by omega) (by omega)
    simp at this
    omega
  · obtain ⟨a, h1, x, _, rfl⟩ := mem_more.mp hr
    rw [List.length_append, h.len a h1]
    rfl
  · unfold more
    rw [List.pairwise_flatMap]
    refine ⟨fun a ha' => ?_, ?_⟩
    · rw [List.pairwise_map]
      exact ha.imp fun h => lex_last h
    · have all : ∀ a ∈ rs, a.length = m := h.len
      have asc := h.asc
      clear h
      induction asc with
      | nil => exact List.Pairwise.nil
      | @cons a l h1 h2 ih =>
        refine List.Pairwise.cons (fun b hb2 p hp q hq => ?_) (ih fun c hc => all c (List.mem_cons_of_mem _ hc))
        obtain ⟨x, _, rfl⟩ := List.mem_map.mp hp
        obtain ⟨y, _, rfl⟩ := List.mem_map.mp hq
        exact lex_snoc (by rw [all a List.mem_cons_self, all b (List.mem_cons_of_mem _ hb2)]) (h1 b hb2)
  · obtain ⟨cs, c1, c2, c3⟩ := h.col
    refine ⟨cs ++ [xs], by rw [List.length_append, c1]; rfl, fun c hc => ?_, fun r hr k v e => ?_⟩
    · rcases List.mem_append.mp hc with hc | hc
      · exact c2 c hc
      · rw [List.mem_singleton.mp hc]; exact hl
    · obtain ⟨a, h1, x, h2, rfl⟩ := mem_more.mp hr
      have la := h.len a h1
      by_cases hk : k < m
      · rw [List.getElem?_append_left (by omega)] at e
        obtain ⟨c, e1, e2⟩ := c3 a h1 k v e
        exact ⟨c, by rw [List.getElem?_append_left (by omega)]; exact e1, e2⟩
      · rw [List.getElem?_append_right (by omega)] at e
        have hk2 : k - a.length = 0 := by
          cases q : k - a.length with
          | zero => rfl
          | succ j => rw [q] at e; simp at e
        rw [hk2] at e
        have ev : x = v := by simpa using e
        refine ⟨xs, ?_, ev ▸ h2⟩
        rw [List.getElem?_append_right (by omega), show k - cs.length = 0 by omega]
        rfl
  · obtain ⟨a, h1, x, h2, rfl⟩ := mem_more.mp hr
    rcases List.mem_append.mp hv with hv | hv
    · exact h.bnd a h1 v hv
    · rw [List.mem_singleton.mp hv]; exact hb x h2
theorem rows_sub {m : Nat} {rs rs' : List (List Int)} (h : Rows m rs) (hs : rs'.Sublist rs) (hn : rs' ≠ []) : Rows m rs' := by
  obtain ⟨cs, c1, c2, c3⟩ := h.col
  exact ⟨hn, fun r hr => h.len r (hs.subset hr), h.asc.sublist hs, ⟨cs, c1, c2, fun r hr => c3 r (hs.subset hr)⟩, fun r hr => h.bnd r (hs.subset hr)⟩
end Lw

set_option Elab.async false
set_option linter.all false
set_option maxRecDepth 100000
set_option maxHeartbeats 1000000
namespace Lw
open PySem hiding Env
open L2 DD
theorem cut_to {l : List D} (k : Nat) : cutD l none (some (k : Int)) = l.take k := by
  unfold cutD
  rw [HT.sIx_none, HT.sIx_nat, List.drop_zero, Nat.sub_zero]
  by_cases h : k ≤ l.length
  · rw [Nat.min_eq_left h]
  · rw [Nat.min_eq_right (by omega), List.take_of_length_le (Nat.le_refl _), List.take_of_length_le (by omega)]
theorem wp_mSl (m : Env → M W) (lo hi : Env → M (Option Int)) {ρ : Env} {P : W → List O → Prop} {h : List O} : wp (mSl m lo hi ρ) P h = wp (m ρ) (fun w h1 => wp (lo ρ) (fun l h2 => wp (hi ρ) (fun u h3 => ∃ v, opSlO w l u = some v ∧ P v h3) h2) h1) h := by
  unfold mSl
  rw [wp_bd]
  congr 1
  funext w h1
  rw [wp_bd]
  congr 1
  funext l h2
  rw [wp_bd]
  congr 1
  funext u h3
  rw [wp_oM]
theorem wp_mSome (m : Env → M W) {ρ : Env} {P : Option Int → List O → Prop} {h : List O} {i : Int} : wp (mSome m ρ) P h = wp (m ρ) (fun w h1 => ∃ i, asIO w = some i ∧ P (some i) h1) h := by
  unfold mSome
  rw [wp_bd]
  congr 1
  funext w h1
  rw [wp_bd, wp_oM]
  rfl
theorem sz_pow {many s : Nat} (h : (many = 1 ∧ s = 6) ∨ (many = 2 ∧ s = 6) ∨ (many = 3 ∧ s = 4) ∨ (many = 4 ∧ s = 3)) {i : Nat} (hi : i ≤ many) : s ^ i ≤ 100 := by
  have : s ^ i ≤ s ^ many := Nat.pow_le_pow_right (by omega) hi
  refine Nat.le_trans this ?_
  rcases h with ⟨rfl, rfl⟩ | ⟨rfl, rfl⟩ | ⟨rfl, rfl⟩ | ⟨rfl, rfl⟩ <;> decide
theorem rows_s {many : Nat} (h1 : 1 ≤ many) (h4 : many ≤ 4) : Sp2 m__law_rows [.ref 1, .d (.int many)] 2000 (fun d => ∃ rs, d = eLT rs ∧ Rows many rs ∧ rs.length ≤ 100) := by
  refine .mk' rfl fun n dk0 hd hn => ?_
  unfold m__law_rows
  rw [wp_mFn2]
  simp only [List.replicate, Nat.reduceSub]
  generalize hPF : FnP (fun w h' => ∃ n' dk' L' d, h' = dk' ++ L' ∧ n' ≤ n + 2000 ∧ Dk n' dk' ∧ (∃ rs, d = eLT rs ∧ Rows many rs ∧ rs.length ≤ 100) ∧ w = .d d) = PF
  have fin : ∀ (rs : List (List Int)) (n' : Nat) (dk' L : List O), Rows many rs → rs.length ≤ 100 → n' ≤ n + 2000 → Dk n' dk' → PF (.rt (.d (eLT rs))) (dk' ++ L) := fun rs n' dk' L a b c e => by
    subst hPF
    exact ⟨n', dk', L, eLT rs, rfl, c, e, ⟨rs, rfl, a, b⟩, rfl⟩
  refine seqK fun K nx rt _ _ => ?_
  rw [wp_mPar3, wp_mCons, wp_mLst, wp_mCons, wp_mTup, wp_mNil]
  have t0 : ∀ (P : W → List O → Prop) (h : List O), P (.d (.tup [])) h → wp (mkTup []) P h := fun P h p => p
  refine t0 _ _ ?_
  rw [wp_mNil]
  have l0 : ∀ (P : W → List O → Prop) (h : List O), P (.d (eLT [[]])) h → wp (mkLst [W.d (.tup [])]) P h := fun P h p => p
  refine l0 _ _ ?_
  rw [wp_mCons, wp_m2op]
  obtain ⟨s, hs, es⟩ : ∃ s : Nat, ((many = 1 ∧ s = 6) ∨ (many = 2 ∧ s = 6) ∨ (many = 3 ∧ s = 4) ∨ (many = 4 ∧ s = 3)) ∧ ∀ (P : W → List O → Prop) (h : List O), P (.d (.int s)) h → wp (opIx (.d (.lst [.int 6, .int 6, .int 4, .int 3])) (.d (.int ((many : Int) - 1)))) P h := by
    obtain rfl | rfl | rfl | rfl : many = 1 ∨ many = 2 ∨ many = 3 ∨ many = 4 := by omega
    · exact ⟨6, by omega, fun P h p => p⟩
    · exact ⟨6, by omega, fun P h p => p⟩
    · exact ⟨4, by omega, fun P h p => p⟩
    · exact ⟨3, by omega, fun P h p => p⟩
  have hs6 : 1 ≤ s ∧ s ≤ 6 := by omega
  have l1 : ∀ (P : W → List O → Prop) (h : List O) (ρ : Env), P (.d (.lst [.int 6, .int 6, .int 4, .int 3])) h → wp (mLst (mCons (mC (.int 6)) (mCons (mC (.int 6)) (mCons (mC (.int 4)) (mCons (mC (.int 3)) mNil)))) ρ) P h := fun P h ρ p => p
  refine l1 _ _ _ ?_
  simp only [wp_m2op, wp_mV0, wp_mC, List.getElem?_cons_succ, List.getElem?_cons_zero, Option.join_some, wp_some, e_sub, wp_pu]
  refine es _ _ ?_
  rw [wp_mCons, wp_mLend, wp_mCons, wp_mV0]
  simp only [List.getElem?_cons_succ, List.getElem?_cons_zero, Option.join_some, wp_some]
  rw [wp_mCons]
  have l2 : ∀ (P : W → List O → Prop) (h : List O) (ρ : Env), P (.d (.lst [.int 1, .int 1, .int 1, .int 1000000])) h → wp (mLst (mCons (mC (.int 1)) (mCons (mC (.int 1)) (mCons (mC (.int 1)) (mCons (m2op opPow (mC (.int 10)) (mC (.int 6))) mNil)))) ρ) P h := fun P h ρ p => by
    rw [wp_mLst]
    simp only [wp_mCons, wp_mC, wp_mNil, wp_m2op]
    rw [w_pow (by decide) (by decide)]
    exact p
  refine l2 _ _ _ ?_
  rw [wp_mNil]
  refine (pick_s (x := .lst [.int 1, .int 1, .int 1, .int 1000000]) (l := [.int 1, .int 1, .int 1, .int 1000000]) rfl (by simp) (by simp)).at0 hd (by omega) fun d n1 dk1 hdm hn1 hd1 => ?_
  obtain ⟨sc, rfl, hsc⟩ : ∃ sc : Int, d = .int sc ∧ 1 ≤ sc ∧ sc ≤ 1000000 := by
    simp only [List.mem_cons, List.not_mem_nil, or_false] at hdm
    rcases hdm with rfl | rfl | rfl | rfl
    · exact ⟨1, rfl, by decide, by decide⟩
    · exact ⟨1, rfl, by decide, by decide⟩
    · exact ⟨1, rfl, by decide, by decide⟩
    · exact ⟨1000000, rfl, by decide, by decide⟩
  rw [wp_mNil]
  refine ⟨_, _, _, rfl, ?_⟩
  refine nx _ _ (seqK fun K nx rt _ _ => ?_)
  rw [wp_mFor, wp_mRng1, wp_mCons]
  simp only [wp_mV0, wp_mNil, List.set_cons_succ, List.set_cons_zero, List.getElem?_cons_succ, List.getElem?_cons_zero, Option.join_some, wp_some]
  refine ⟨rangeD 0 many, e_rng1 (by omega), ?_⟩
  refine wp_loop (I := fun i ρ h => ∃ (rs : List (List Int)) (n' : Nat) (dk' L : List O) (a5 a6 a7 a8 a9 a10 : Option W), ρ = [some (.ref 1), some (.d (.int many)), some (.d (eLT rs)), some (.d (.int s)), some (.d (.int sc)), a5, a6, a7, a8, a9, a10, none, none] ∧ Rows i rs ∧ rs.length ≤ s ^ i ∧ n' ≤ n + 1 + 10 * i ∧ Dk n' dk' ∧ h = dk' ++ L)
    ⟨[[]], n1, dk1, [], _, _, _, _, _, _, rfl, rows_nil, by simp, by omega, hd1, (List.append_nil _).symm⟩ ?_ ?_
  · rintro i d ρ h hi ⟨rs, n', dk', L, a5, a6, a7, a8, a9, a10, rfl, hR, hsz, hn', hd', rfl⟩
    have hlt := (List.getElem?_eq_some_iff.mp hi).1
    rw [rangeD_len] at hlt
    have hsz2 := sz_pow hs (i := i) (by omega)
    refine ⟨_, rfl, ?_⟩
    refine seqK fun K2 nx2 _ _ _ => ?_
    rw [wp_mPar, wp_mCons, wp_m2op, wp_mLend]
    simp only [wp_mCons, wp_mNil, wp_mC, wp_mV0, List.set_cons_succ, List.set_cons_zero, List.getElem?_cons_succ, List.getElem?_cons_zero, Option.join_some, wp_some]
    refine draw_s (k := 7) (by decide) (by decide) n' dk' L _ hd' (by omega) fun d n2 dk2 ⟨r, er, g0, g1⟩ hn2 hd2 => ?_
    subst er
    rw [e_sub, wp_pu, wp_mLstR, wp_mNil, if_pos (by simp), len_last hd2]
    refine ⟨_, _, rfl, ?_⟩
    refine nx2 _ _ (seqK fun K3 nx3 _ _ _ => ?_)
    rw [List.append_assoc]
    refine rows_inner hd2 (by omega) (by omega) hsc (by omega) fun xs n3 dk3 lo' b8 hx1 hx2 hx3 hx4 hn3 hd3 => ?_
    refine nx3 _ _ (seqK fun K4 nx4 _ _ _ => ?_)
    rw [wp_mSet, wp_mLstR, wp_mNil, if_pos (by simp), len_last hd3]
    refine nx4 _ _ (seqK fun K5 nx5 _ _ _ => ?_)
    simp only [List.set_cons_succ, List.set_cons_zero]
    rw [List.append_assoc]
    refine rows_ext hd3 (fun r hr => by rw [hR.len r hr]; omega) (by omega) (by omega) fun b10 => ?_
    refine nx5 _ _ ?_
    rw [wp_mFrz, wp_mSet]
    simp only [wp_mV0, List.getElem?_cons_succ, List.getElem?_cons_zero, Option.join_some, wp_some, List.set_cons_succ, List.set_cons_zero]
    rw [frz_last hd3 rfl (datas_map _)]
    simp only [List.set_cons_succ, List.set_cons_zero]
    refine ⟨more rs xs, n3, dk3, _, _, _, _, _, _, _, rfl, rows_more hR hx1 (by omega) hx3 hx4, ?_, by omega, hd3, rfl⟩
    rw [more_len, Nat.pow_succ]
    exact Nat.mul_le_mul hsz (by omega)
  · rintro ρ h ⟨rs, n', dk', L, a5, a6, a7, a8, a9, a10, rfl, hR, hsz, hn', hd', rfl⟩
    rw [rangeD_len] at hR hsz hn'
    have hsz2 : rs.length ≤ 100 := Nat.le_trans hsz (sz_pow hs (Nat.le_refl _))
    refine nx _ _ (seqK fun K nx rt _ _ => ?_)
    rw [wp_mSet]
    simp only [wp_mV0, List.getElem?_cons_succ, List.getElem?_cons_zero, Option.join_some, wp_some, List.set_cons_succ, List.set_cons_zero]
    refine nx _ _ (seqK fun K nx rt _ _ => ?_)
    rw [wp_mIfS, wp_mT, wp_m2op, wp_mLend]
    simp only [wp_mCons, wp_mNil, wp_mC, wp_mV0, List.getElem?_cons_succ, List.getElem?_cons_zero, Option.join_some, wp_some]
    refine draw_s (k := 3) (by decide) (by decide) n' dk' L _ hd' (by omega) fun d n2 dk2 ⟨r, er, g0, g1⟩ hn2 hd2 => ?_
    subst er
    rw [w_eq (okN_int _) (okN_int _), e_asB, wp_pu]
    have last : ∀ (rs' : List (List Int)) (n3 : Nat) (dk3 L3 : List O) (b10 : Option W), rs'.Sublist rs → n3 ≤ n + 2000 → Dk n3 dk3 → wp (mRet (mIf (mT (m2op (opEq true) (mV 11) (mLst mNil))) (mV 11) (mSl (mV 2) mNo (mSome (mC (.int 1))))) [some (.ref 1), some (.d (.int many)), some (.d (eLT rs)), some (.d (.int s)), some (.d (.int sc)), a5, a6, a7, a8, a9, b10, some (.d (eLT rs')), none]) PF (dk3 ++ L3) := fun rs' n3 dk3 L3 b10 hsub hn3 hd3 => by
      rw [wp_mRet, wp_mIf, wp_mT, wp_m2op]
      simp only [wp_mV0, List.getElem?_cons_succ, List.getElem?_cons_zero, Option.join_some, wp_some]
      have l3 : ∀ (P : W → List O → Prop) (h : List O) (ρ : Env), P (.d (eLT [])) h → wp (mLst mNil ρ) P h := fun P h ρ p => p
      refine l3 _ _ _ ?_
      rw [w_ne (okN_eLT _) (okN_eLT []), e_asB, wp_pu]
      by_cases he : rs' = []
      · subst he
        rw [if_neg (by decide), wp_mSl]
        simp only [wp_mV0, List.getElem?_cons_succ, List.getElem?_cons_zero, Option.join_some, wp_some]
        refine ⟨_, rfl, ?_⟩
        show PF (.rt (.d (.lst (cutD (rs.map eT) none (some ((1 : Nat) : Int)))))) _
        rw [cut_to, ← List.map_take]
        exact fin (rs.take 1) n3 dk3 L3 (rows_sub hR (List.take_sublist _ _) (fun z => by
          have := hR.ne
          cases rs with
          | nil => exact this rfl
          | cons a b => simp at z)) (by rw [List.length_take]; omega) hn3 hd3
      · have hne : (!eqD (eLT rs') (eLT [])) = true := by rw [tells_eLT.eq]; simp [he]
        rw [hne, if_pos rfl]
        exact fin rs' n3 dk3 L3 (rows_sub hR hsub he) (Nat.le_trans hsub.length_le hsz2) hn3 hd3
    by_cases hk : eqD (.int r) (.int 0) = true
    · rw [if_pos hk, wp_mSet, wp_mLc, wp_mItems]
      simp only [wp_mV0, List.getElem?_cons_succ, List.getElem?_cons_zero, Option.join_some, wp_some]
      refine ⟨_, rfl, ?_⟩
      refine wp_lcI (I := fun (i : Nat) (l : List D) (h : List O) => ∃ (rs' : List (List Int)) (n3 : Nat) (dk3 : List O), l = rs'.map eT ∧ rs'.Sublist (rs.take i) ∧ n3 ≤ n' + 1 + i ∧ Dk n3 dk3 ∧ h = dk3 ++ L) ⟨[], n2, dk2, rfl, List.nil_sublist _, by omega, hd2, rfl⟩ ?_ ?_
      · rintro i d l h hi ⟨rs', n3, dk3, rfl, hsub, hn3, hd3, rfl⟩
        have hlt := (List.getElem?_eq_some_iff.mp hi).1
        rw [List.length_map] at hlt
        have ed : d = eT rs[i] := by
          rw [List.getElem?_map, List.getElem?_eq_getElem hlt] at hi
          exact (Option.some.inj hi).symm
        subst ed
        refine ⟨_, rfl, ?_⟩
        rw [wp_mT, wp_m2op, wp_mLend]
        simp only [wipeE, wp_mCons, wp_mNil, wp_mC, wp_mV0, List.set_cons_succ, List.set_cons_zero, List.getElem?_cons_succ, List.getElem?_cons_zero, Option.join_some, wp_some]
        refine draw_s (k := 3) (by decide) (by decide) n3 dk3 L _ hd3 (by omega) fun d n4 dk4 ⟨r2, er, g0, g1⟩ hn4 hd4 => ?_
        subst er
        have et : rs.take (i + 1) = rs.take i ++ [rs[i]] := by
          rw [List.take_add_one, List.getElem?_eq_getElem hlt]
          rfl
        rw [e_gt, wp_pu, e_asB, wp_pu]
        by_cases hg : 0 < r2
        · rw [if_pos (by simpa using hg)]
          exact ⟨eT rs[i], rfl, rs' ++ [rs[i]], n4, dk4, by rw [List.map_append]; rfl, by rw [et]; exact hsub.append (List.Sublist.refl _), by omega, hd4, rfl⟩
        · rw [if_neg (by simpa using hg)]
          exact ⟨rs', n4, dk4, rfl, by rw [et]; exact hsub.trans (List.sublist_append_left _ _), by omega, hd4, rfl⟩
      · rintro l h ⟨rs', n3, dk3, rfl, hsub, hn3, hd3, rfl⟩
        rw [List.length_map] at hn3 hsub
        rw [List.take_length] at hsub
        refine nx _ _ ?_
        simp only [List.set_cons_succ, List.set_cons_zero]
        exact last rs' n3 dk3 L _ hsub (by omega) hd3
    · rw [if_neg hk, wp_mNext]
      exact nx _ _ (last rs n2 dk2 L _ (List.Sublist.refl _) (by omega) hd2)
end Lw

set_option Elab.async false
set_option linter.all false
set_option maxRecDepth 100000
set_option maxHeartbeats 1000000
namespace Lw
open PySem hiding Env
open L2 DD
section
variable {P : W → List O → Prop} {PU : Unit → List O → Prop} {PL : List (Key × W) → List O → Prop} {h : List O} {ρ : Env} {n : Nat} {dk1 : List O} {ws : List (Key × W)} {k : Str} {w v : W}
theorem wp_mPairs_nil : wp (mPairs [] ρ) PL h = PL [] h := rfl
theorem wp_mPairs (a b : Env → M W) (r : List ((Env → M W) × (Env → M W))) : wp (mPairs ((a, b) :: r) ρ) PL h = wp (a ρ) (fun x h1 => ∃ k, keyW x = some k ∧ wp (b ρ) (fun w h2 => wp (mPairs r ρ) (fun l h3 => PL ((k, w) :: l) h3) h2) h1) h := by
  show wp (bd (a ρ) fun x => bd (oM (keyW x)) fun k => bd (b ρ) fun w => bd (mPairs r ρ) fun l => pu ((k, w) :: l)) PL h = _
  rw [wp_bd]
  congr 1
  funext x h1
  rw [wp_bd, wp_oM]
  congr 1
  funext k
  rw [wp_bd]
  congr 1
  congr 1
  funext w h2
  rw [wp_bd]
  rfl
theorem wp_mDisp (ms : List ((Env → M W) × (Env → M W))) : wp (mDisp ms ρ) P h = wp (mPairs ms ρ) (fun l h1 => if l.length ≤ 15 then P (.ref h1.length) (h1 ++ [.dic (mergeG l)]) else False) h := by
  unfold mDisp
  rw [wp_bd]
  congr 1
  funext l h1
  rw [wp_ite]
  rfl
theorem at2 {o : O} (hd : Dk n dk1) : (dk1 ++ [o])[2]? = some o := by
  rw [List.getElem?_append_right (by rw [hd.len]; exact Nat.le_refl _), hd.len]
  rfl
theorem get_w (hd : Dk n dk1) (e : lookG ws (.inr k) = some w) : wp (opDGet (.ref 2) (.d (.str k))) P (dk1 ++ [.dic ws]) = P w (dk1 ++ [.dic ws]) := by
  unfold wp opDGet
  simp only [keyW, at2 hd, e]
theorem put_w (hd : Dk n dk1) (hz : ws.length < 100000) : wp (opDPut (.ref 2) (.d (.str k)) v) PU (dk1 ++ [.dic ws]) = PU () (dk1 ++ [.dic (putG ws (.inr k) v)]) := by
  unfold wp opDPut
  simp only [keyW, at2 hd]
  rw [if_pos hz, List.set_append_right _ _ (by rw [hd.len]; exact Nat.le_refl _), hd.len]
  rfl
end
/-- wants, limits -/
abbrev eP (p : List Int × List Int) : D := .tup [eT p.1, eT p.2]
structure PairOk (many size : Nat) (p : List Int × List Int) : Prop where
  g : GroupOk many p.1
  t : p.2.length = size
def nm4 : List Str := ["ann", "bob", "cy", "d4"]
def planD (many : Nat) (rs : List (List Int)) (as bs : List (List Int × List Int)) : List (Key × D) := [(.inr "called", .tup ((nm4.take many).map .str)), (.inr "rows", eLT rs), (.inr "aims", .lst (as.map eP)), (.inr "bounds", .lst (bs.map eP))]
structure PlanOk (many : Nat) (rs : List (List Int)) (as bs : List (List Int × List Int)) : Prop where
  m1 : 1 ≤ many
  m4 : many ≤ 4
  rows : Rows many rs
  few : rs.length ≤ 100
  aims : ∀ p ∈ as, PairOk many rs.length p
  fewA : as.length ≤ 10
  bounds : ∀ p ∈ bs, PairOk many rs.length p
  fewB : bs.length ≤ 10
theorem pairs_lc {n : Nat} {dk1 : List O} {many far : Nat} {rs : List (List Int)} {ws : List (Key × W)} {K : W → List O → Prop} (m1 : 1 ≤ many) (m4 : many ≤ 4) (hR : Rows many rs) (hl : rs.length ≤ 100) (hf : far ≤ 9) (hd : Dk n dk1) (hn : n + 2000 ≤ 1000000000000) (hw : lookG ws (.inr "rows") = some (.d (eLT rs)))
    (ρ : Env) (i : Nat) (h0 : (ρ[0]?).join = some (.ref 1)) (hi : (ρ[i]?).join = some (.d (.int far))) (h3 : (ρ[3]?).join = some (.d (.int many))) (h4 : (ρ[4]?).join = some (.ref 2)) (hlen : ρ.length = 6)
    (hK : ∀ (ps : List (List Int × List Int)) (n' : Nat) (dk' : List O), (∀ p ∈ ps, PairOk many rs.length p) → ps.length ≤ 10 → n' ≤ n + 2000 → Dk n' dk' → K (.d (.lst (ps.map eP))) (dk' ++ [.dic ws])) :
    wp (mLc (mRng1 (mCons (mLend 2 m__law_draw (mCons (mV 0) (mCons (m2op opAdd (mV i) (mC (.int 1))) mNil))) mNil)) [5] (.nm 5) mYes (mTup (mCons (mLend 2 m__law_some (mCons (mV 0) (mCons (mV 3) mNil))) (mCons (mLend 2 m__law_marks (mCons (mV 0) (mCons (m2op opDGet (mV 4) (mC (.str "rows"))) mNil))) mNil))) ρ) K (dk1 ++ [.dic ws]) := by
  obtain ⟨b0, b1, b2, b3, b4, b5, rfl⟩ : ∃ b0 b1 b2 b3 b4 b5 : Option W, ρ = [b0, b1, b2, b3, b4, b5] := by
    match ρ, hlen with
    | [b0, b1, b2, b3, b4, b5], _ => exact ⟨_, _, _, _, _, _, rfl⟩
  have e0 : b0 = some (.ref 1) := h0
  have e3 : b3 = some (.d (.int many)) := h3
  have e4 : b4 = some (.ref 2) := h4
  subst e0 e3 e4
  rw [wp_mLc, wp_mRng1, wp_mCons, wp_mLend, wp_mCons, wp_mV0, h0, wp_some, wp_mCons, wp_m2op, wp_mV0, hi]
  simp only [wp_some, wp_mC, e_add, wp_pu, wp_mNil]
  refine draw_s (k := (far : Int) + 1) (by omega) (by omega) n dk1 _ _ hd (by omega) fun d n1 dk2 ⟨r, er, g0, g1⟩ hn1 hd1 => ?_
  subst er
  obtain ⟨t, rfl⟩ : ∃ t : Nat, r = t := ⟨r.toNat, by omega⟩
  refine ⟨rangeD 0 t, e_rng1 (by omega), ?_⟩
  refine wp_lcI (I := fun (j : Nat) (l : List D) (h : List O) => ∃ (ps : List (List Int × List Int)) (n' : Nat) (dk' : List O), l = ps.map eP ∧ ps.length = j ∧ (∀ p ∈ ps, PairOk many rs.length p) ∧ n' ≤ n + 1 + 120 * j ∧ Dk n' dk' ∧ h = dk' ++ [.dic ws]) ⟨[], n1, dk2, rfl, rfl, (fun p hp => nomatch hp), by omega, hd1, rfl⟩ ?_ ?_
  · rintro j d l h hj ⟨ps, n', dk', rfl, hpl, hps, hn', hd', rfl⟩
    have hlt := (List.getElem?_eq_some_iff.mp hj).1
    rw [rangeD_len] at hlt
    refine ⟨_, rfl, ?_⟩
    show wp (mTup _ _) _ _
    rw [wp_mTup, wp_mCons, wp_mLend]
    simp only [wipeE, wp_mCons, wp_mNil, wp_mV0, List.set_cons_succ, List.set_cons_zero, List.getElem?_cons_succ, List.getElem?_cons_zero, Option.join_some, wp_some]
    refine some_s m1 m4 n' dk' _ _ hd' (by omega) fun d n2 dk3 ⟨g, eg, hg⟩ hn2 hd2 => ?_
    subst eg
    rw [wp_mLend]
    simp only [wp_mCons, wp_mNil, wp_mV0, wp_m2op, wp_mC, List.getElem?_cons_succ, List.getElem?_cons_zero, Option.join_some, wp_some]
    rw [get_w hd2 hw]
    refine marks_s m1 m4 hR.ne (by omega) hR.len n2 dk3 _ _ hd2 (by omega) fun d n3 dk4 ⟨ts, et, ht⟩ hn3 hd3 => ?_
    subst et
    rw [mkTup2, wp_pu]
    refine ⟨eP (g, ts), rfl, ps ++ [(g, ts)], n3, dk4, by rw [List.map_append]; rfl, by rw [List.length_append, hpl]; rfl, fun p hp => ?_, by omega, hd3, rfl⟩
    rcases List.mem_append.mp hp with hp | hp
    · exact hps p hp
    · rw [List.mem_singleton.mp hp]; exact ⟨hg, ht⟩
  · rintro l h ⟨ps, n', dk', rfl, hpl, hps, hn', hd', rfl⟩
    rw [rangeD_len] at hpl hn'
    exact hK ps n' dk' hps (by omega) (by omega) hd'
end Lw

set_option Elab.async false
set_option linter.all false
set_option maxRecDepth 100000
set_option maxHeartbeats 1000000
namespace Lw
open PySem hiding Env
open L2 DD
theorem kn1 : ((.inr "called" : Key) = .inr "rows") = False := by decide +kernel
theorem kn2 : ((.inr "called" : Key) = .inr "aims") = False := by decide +kernel
theorem kn3 : ((.inr "rows" : Key) = .inr "aims") = False := by decide +kernel
theorem kn4 : ((.inr "called" : Key) = .inr "bounds") = False := by decide +kernel
theorem kn5 : ((.inr "rows" : Key) = .inr "bounds") = False := by decide +kernel
theorem kn6 : ((.inr "aims" : Key) = .inr "bounds") = False := by decide +kernel
section
variable {α : Type} {a b c d : α}
theorem look_rows : lookG [((.inr "called" : Key), a), (.inr "rows", b)] (.inr "rows") = some b := by simp only [lookG_cons, kn1, if_false, if_true]
theorem look_rows3 : lookG [((.inr "called" : Key), a), (.inr "rows", b), (.inr "aims", c)] (.inr "rows") = some b := by simp only [lookG_cons, kn1, if_false, if_true]
theorem put_aims : putG [((.inr "called" : Key), a), (.inr "rows", b)] (.inr "aims") c = [(.inr "called", a), (.inr "rows", b), (.inr "aims", c)] := by
  unfold putG
  simp only [List.any_cons, List.any_nil, kn2, kn3]
  rfl
theorem put_bounds : putG [((.inr "called" : Key), a), (.inr "rows", b), (.inr "aims", c)] (.inr "bounds") d = [(.inr "called", a), (.inr "rows", b), (.inr "aims", c), (.inr "bounds", d)] := by
  unfold putG
  simp only [List.any_cons, List.any_nil, kn4, kn5, kn6]
  rfl
theorem merge2 {x y : W} : mergeG [((.inr "called" : Key), x), (.inr "rows", y)] = [(.inr "called", x), (.inr "rows", y)] := by
  unfold mergeG
  simp only [List.foldl_cons, List.foldl_nil]
  unfold putG
  simp only [List.any_cons, List.any_nil, List.any, kn1, decide_false, Bool.false_or, Bool.or_false, Bool.false_eq_true, if_false, List.nil_append, List.cons_append]
end
theorem plan_s {far near : Nat} (hf : far ≤ 9) (hnr : near ≤ 9) : Sp2 m__law_plan [.ref 1, .d (.int far), .d (.int near)] 6100 (fun d => ∃ many rs as bs, d = .dic (planD many rs as bs) ∧ PlanOk many rs as bs) := by
  refine .mk rfl fun n dk0 hd hn => ?_
  unfold m__law_plan
  rw [wp_mFn3]
  simp only [List.replicate, Nat.reduceSub]
  generalize hPF : FnP (fun w h' => ∃ n' dk' L' d, h' = dk' ++ L' ∧ n' ≤ n + 6100 ∧ Dk n' dk' ∧ (∃ many rs as bs, d = .dic (planD many rs as bs) ∧ PlanOk many rs as bs) ∧ (w = .d d ∨ ∃ k, w = .ref k ∧ 2 ≤ k ∧ view h' w = some d)) = PF
  have fin : ∀ (many : Nat) (rs : List (List Int)) (as bs : List (List Int × List Int)) (n' : Nat) (dk' : List O), PlanOk many rs as bs → n' ≤ n + 6100 → Dk n' dk' → PF (.rt (.ref 2)) (dk' ++ [.dic [(.inr "called", .d (.tup ((nm4.take many).map .str))), (.inr "rows", .d (eLT rs)), (.inr "aims", .d (.lst (as.map eP))), (.inr "bounds", .d (.lst (bs.map eP)))]]) := fun many rs as bs n' dk' a b c => by
    subst hPF
    refine ⟨n', dk', _, .dic (planD many rs as bs), rfl, b, c, ⟨many, rs, as, bs, rfl, a⟩, .inr ⟨2, rfl, Nat.le_refl _, ?_⟩⟩
    show ((dk' ++ _)[2]?).bind objD = _
    rw [at2 c]
    rfl
  refine seqK fun K nx rt _ _ => ?_
  rw [wp_mSet, wp_mLend, wp_mCons, wp_mV0]
  simp only [List.getElem?_cons_succ, List.getElem?_cons_zero, Option.join_some, wp_some]
  rw [wp_mCons]
  have l1 : ∀ (P : W → List O → Prop) (h : List O) (ρ : Env), P (.d (.lst [.int 2, .int 2, .int 3, .int 1, .int 4, .int 3, .int 2])) h → wp (mLst (mCons (mC (.int 2)) (mCons (mC (.int 2)) (mCons (mC (.int 3)) (mCons (mC (.int 1)) (mCons (mC (.int 4)) (mCons (mC (.int 3)) (mCons (mC (.int 2)) mNil))))))) ρ) P h := fun P h ρ p => p
  refine l1 _ _ _ ?_
  rw [wp_mNil]
  refine (pick_s (x := .lst [.int 2, .int 2, .int 3, .int 1, .int 4, .int 3, .int 2]) (l := [.int 2, .int 2, .int 3, .int 1, .int 4, .int 3, .int 2]) rfl (by simp) (by simp)).at0 hd (by omega) fun d n1 dk1 hdm hn1 hd1 => ?_
  obtain ⟨many, rfl, m1, m4⟩ : ∃ many : Nat, d = .int many ∧ 1 ≤ many ∧ many ≤ 4 := by
    simp only [List.mem_cons, List.not_mem_nil, or_false] at hdm
    rcases hdm with rfl | rfl | rfl | rfl | rfl | rfl | rfl
    · exact ⟨2, rfl, by decide, by decide⟩
    · exact ⟨2, rfl, by decide, by decide⟩
    · exact ⟨3, rfl, by decide, by decide⟩
    · exact ⟨1, rfl, by decide, by decide⟩
    · exact ⟨4, rfl, by decide, by decide⟩
    · exact ⟨3, rfl, by decide, by decide⟩
    · exact ⟨2, rfl, by decide, by decide⟩
  refine nx _ _ (seqK fun K nx rt _ _ => ?_)
  rw [wp_mSet, wp_mDisp, wp_mPairs, wp_mC]
  refine ⟨_, rfl, ?_⟩
  rw [wp_mSl]
  have l2 : ∀ (P : W → List O → Prop) (h : List O) (ρ : Env), P (.d (.tup (nm4.map .str))) h → wp (mTup (mCons (mC (.str "ann")) (mCons (mC (.str "bob")) (mCons (mC (.str "cy")) (mCons (mC (.str "d4")) mNil)))) ρ) P h := fun P h ρ p => p
  refine l2 _ _ _ ?_
  have no : ∀ (P : Option Int → List O → Prop) (h : List O) (ρ : Env), P none h → wp (mNo ρ) P h := fun P h ρ p => p
  refine no _ _ _ ?_
  rw [wp_mSome (i := 0), wp_mV0]
  simp only [List.set_cons_succ, List.set_cons_zero, List.getElem?_cons_succ, List.getElem?_cons_zero, Option.join_some, wp_some]
  refine ⟨_, rfl, _, rfl, ?_⟩
  rw [cut_to, ← List.map_take, wp_mPairs, wp_mC]
  refine ⟨_, rfl, ?_⟩
  rw [wp_mLend]
  simp only [wp_mCons, wp_mNil, wp_mV0, List.getElem?_cons_succ, List.getElem?_cons_zero, Option.join_some, wp_some]
  refine (rows_s m1 m4).at0 hd1 (by omega) fun d n2 dk2 ⟨rs, er, hR, hl⟩ hn2 hd2 => ?_
  subst er
  rw [wp_mPairs_nil, if_pos (by simp), merge2, hd2.len]
  refine nx _ _ (seqK fun K nx rt _ _ => ?_)
  rw [wp_mDPut]
  refine pairs_lc m1 m4 hR hl hf hd2 (by omega) look_rows _ 1 rfl rfl rfl rfl rfl fun as n3 dk3 ha hla hn3 hd3 => ?_
  simp only [wp_mV0, wp_mC, List.getElem?_cons_succ, List.getElem?_cons_zero, Option.join_some, wp_some]
  rw [put_w hd3 (by simp), put_aims]
  refine nx _ _ (seqK fun K nx rt _ _ => ?_)
  rw [wp_mDPut]
  refine pairs_lc m1 m4 hR hl hnr hd3 (by omega) look_rows3 _ 2 rfl rfl rfl rfl rfl fun bs n4 dk4 hb hlb hn4 hd4 => ?_
  simp only [wp_mV0, wp_mC, List.getElem?_cons_succ, List.getElem?_cons_zero, Option.join_some, wp_some]
  rw [put_w hd4 (by simp), put_bounds]
  refine nx _ _ ?_
  rw [wp_mRet, wp_mV0]
  simp only [List.getElem?_cons_succ, List.getElem?_cons_zero, Option.join_some, wp_some]
  exact fin many rs as bs n4 dk4 ⟨m1, m4, hR, hl, ha, hla, hb, hlb⟩ (by omega) hd4
end Lw

set_option Elab.async false
set_option linter.all false
set_option maxRecDepth 100000
set_option maxHeartbeats 1000000
namespace Lw
open PySem hiding Env
open L2 DD
/-- called with data, data comes back, whatever the heap -/
def Pf (m : List W → M W) (l : List D) (r : D) : Prop := ∀ (P : W → List O → Prop) (h : List O), P (.d r) h → wp (lendC 0 m (l.map .d)) P h
theorem Pf.mk {m : List W → M W} {l : List D} {r : D} (H : ∀ P : W → List O → Prop, P (.d r) [] → wp (m (l.map .d)) P []) : Pf m l r := fun P h p => wp_lend0 (H _ ⟨r, rfl, p⟩)
theorem Pf.eval {m : List W → M W} {l : List D} {r : D} (e : m (l.map .d) [] = .ok (.d r) []) : Pf m l r := .mk fun P p => by
  unfold wp
  rw [e]
  exact p
section
variable {P : W → List O → Prop} {h : List O} {ρ : Env}
theorem e_isi {x : D} {a t : String} {b : Bool} (hk : kindD x = some a) (hi : isiT a t = some b) : bIsi [.d x, .d (.ty t)] = pu (.d (.bl b)) := by
  funext h
  show (match (kindD x).bind (fun a => isiT a t) with | some b => R.ok (W.d (.bl b)) h | none => R.st) = _
  rw [hk]
  show (match isiT a t with | some b => R.ok (W.d (.bl b)) h | none => R.st) = _
  rw [hi]
  rfl
theorem i_int_int (i : Int) : bIsi [.d (.int i), .d (.ty "int")] = pu (.d (.bl true)) := e_isi rfl (by decide)
theorem i_int_bool (i : Int) : bIsi [.d (.int i), .d (.ty "bool")] = pu (.d (.bl false)) := e_isi rfl (by decide)
theorem i_tup (l : List D) : bIsi [.d (.tup l), .d (.ty "tuple")] = pu (.d (.bl true)) := e_isi rfl (by decide)
theorem e_all_true (n : Nat) (l : List D) (hl : l = List.replicate n (.bl true)) : bAll [.d (.lst l)] = pu (.d (.bl true)) := by
  subst hl
  show oM (Option.map W.d ((boolsD (List.replicate n (.bl true))).map fun bs => .bl (bs.all id))) = _
  have : List.replicate n (D.bl true) = (List.replicate n true).map .bl := by rw [List.map_replicate]
  rw [this, boolsD_map]
  show oM (some (W.d (.bl ((List.replicate n true).all id)))) = _
  rw [show (List.replicate n true).all id = true from List.all_eq_true.mpr fun x hx => by rw [(List.mem_replicate.mp hx).2]; rfl]
  rfl
/-- all([e for x in xs]), each true -/
theorem w_all {vs : List Nat} {j : Nat} {e : Env → M W} {src : Env → M (List D)} {ds : List D} (hs : ∀ PD : List D → List O → Prop, PD ds h → wp (src ρ) PD h) (he : ∀ d ∈ ds, ∀ P : W → List O → Prop, P (.d (.bl true)) h → wp (e ((wipeE ρ vs).set j (some (.d d)))) P h) (p : P (.d (.bl true)) h) :
    wp (mCall bAll (mCons (mLc src vs (.nm j) mYes e) mNil) ρ) P h := by
  rw [wp_mCall, wp_mCons, wp_mLc]
  refine hs _ (wp_lc (fun _ => true) (fun _ => .bl true) (fun d hd => ⟨_, rfl, fun PB q => q, fun _ P q => he d hd P q⟩) ?_)
  rw [filter_true, wp_mNil, e_all_true ds.length _ (by rw [List.map_const'])]
  exact p
end
theorem isint_s (i : Int) : Pf m_is_integer [.int i] (.bl true) := .mk fun P p => by
  show wp (m_is_integer [.d (.int i)]) P []
  unfold m_is_integer
  rw [wp_mFn1, wp_mRet, wp_mAndV, wp_mCall, wp_mCons, wp_mV0]
  simp only [List.getElem?_cons_zero, Option.join_some, wp_some, wp_mCons, wp_mC, wp_mNil, i_int_int, wp_pu, e_asB, if_true, wp_mNotV, wp_mCall, wp_mV0, i_int_bool, Bool.not_false]
  exact p
theorem names_s {many : Nat} (h1 : 1 ≤ many) (h4 : many ≤ 4) : Pf m_are_names [.tup ((nm4.take many).map .str), .int 4] (.bl true) := by
  obtain rfl | rfl | rfl | rfl : many = 1 ∨ many = 2 ∨ many = 3 ∨ many = 4 := by omega
  · exact .eval (by kernel_rfl)
  · exact .eval (by kernel_rfl)
  · exact .eval (by kernel_rfl)
  · exact .eval (by kernel_rfl)
/-! ### ascending -/
/-- < as are_ascending asks -/
theorem e_ltI (i j : Int) : opLtA (.d (.int i)) (.d (.int j)) = pu (.d (.bl (decide (i < j)))) := rfl
theorem e_ltT (a b : List Int) : opLtA (.d (eT a)) (.d (eT b)) = pu (.d (.bl (HT.lexLt a b))) := by
  show oM (Option.map W.d ((intsD (a.map .int)).bind fun ns => (intsD (b.map .int)).map fun ms => .bl (HT.lexLt ns ms))) = _
  rw [intsD_map, intsD_map]
  rfl
theorem cut_from1 (l : List D) : cutD l (some 1) none = l.drop 1 := by
  unfold cutD
  rw [HT.sIx_none, show (1 : Int) = ((1 : Nat) : Int) from rfl, HT.sIx_nat]
  by_cases h : 1 ≤ l.length
  · rw [Nat.min_eq_left h]
    exact List.take_of_length_le (by rw [List.length_drop]; exact Nat.le_refl _)
  · have : l = [] := List.eq_nil_of_length_eq_zero (by omega)
    subst this
    rfl
theorem asc_s {l : List D} (h : ∀ (i : Nat) (a b : D), l[i]? = some a → l[i + 1]? = some b → opLtA (.d a) (.d b) = pu (.d (.bl true))) : Pf m_are_ascending [.tup l] (.bl true) := .mk fun P p => by
  show wp (m_are_ascending [.d (.tup l)]) P []
  unfold m_are_ascending
  rw [wp_mFn1, wp_mRet, wp_mCall, wp_mCons, wp_mLc, wp_mZip, wp_mCons, wp_mV0]
  simp only [List.replicate, Nat.reduceSub, List.getElem?_cons_zero, Option.join_some, wp_some]
  rw [wp_mCons, wp_mSl, wp_mV0]
  simp only [List.getElem?_cons_zero, Option.join_some, wp_some]
  rw [wp_mSome (i := 0), wp_mC]
  have no : ∀ (P : Option Int → List O → Prop) (h : List O) (ρ : Env), P none h → wp (mNo ρ) P h := fun P h ρ p => p
  refine ⟨1, rfl, no _ _ _ ⟨_, rfl, ?_⟩⟩
  rw [cut_from1, wp_mNil]
  refine ⟨zipD l (l.drop 1), rfl, ?_⟩
  refine wp_lc (fun _ => true) (fun _ => .bl true) (fun d hd => ?_) ?_
  · obtain ⟨i, hi⟩ := List.getElem?_of_mem hd
    have hlt := (List.getElem?_eq_some_iff.mp hi).1
    rw [zipD_len, List.length_drop] at hlt
    have h1 : l[i]? = some l[i] := List.getElem?_eq_getElem (by omega)
    have h2 : (l.drop 1)[i]? = some (l[i + 1]'(by omega)) := by
      rw [List.getElem?_drop, Nat.add_comm, List.getElem?_eq_getElem (by omega)]
    have h3 : l[i + 1]? = some (l[i + 1]'(by omega)) := List.getElem?_eq_getElem (by omega)
    rw [zipD_at h1 h2] at hi
    have ed := Option.some.inj hi
    subst ed
    refine ⟨_, rfl, fun PB q => q, fun _ P q => ?_⟩
    simp only [wipeE, wp_m2op, wp_mV0, List.set_cons_succ, List.set_cons_zero, List.getElem?_cons_succ, List.getElem?_cons_zero, Option.join_some, wp_some]
    rw [h i _ _ h1 h3, wp_pu]
    exact q
  · rw [filter_true, wp_mNil, e_all_true (zipD l (l.drop 1)).length _ (by rw [List.map_const']), wp_pu]
    exact p
end Lw

set_option Elab.async false
set_option linter.all false
set_option maxRecDepth 100000
set_option maxHeartbeats 1000000
namespace Lw
open PySem hiding Env
open L2 DD
theorem ints_all {vs : List Nat} {j : Nat} {src : Env → M (List D)} {l : List Int} {h : List O} {ρ : Env} {P : W → List O → Prop} (hs : ∀ PD : List D → List O → Prop, PD (l.map .int) h → wp (src ρ) PD h) (hj : j < (wipeE ρ vs).length) (p : P (.d (.bl true)) h) :
    wp (mCall bAll (mCons (mLc src vs (.nm j) mYes (mLend 0 m_is_integer (mCons (mV j) mNil))) mNil) ρ) P h :=
  w_all hs (fun d hd P q => by
    obtain ⟨i, _, rfl⟩ := List.mem_map.mp hd
    rw [wp_mLend, wp_mCons, wp_mV0, List.getElem?_set_self hj]
    exact isint_s i P h q) p
theorem world_s (r : List Int) : Pf m_is_world [.int r.length, eT r] (.bl true) := .mk fun P p => by
  show wp (m_is_world [.d (.int r.length), .d (eT r)]) P []
  unfold m_is_world
  rw [wp_mFn2, wp_mRet, wp_mAndV, wp_mCall, wp_mCons, wp_mV0]
  simp only [List.replicate, Nat.reduceSub, List.getElem?_cons_succ, List.getElem?_cons_zero, Option.join_some, wp_some, wp_mCons, wp_mC, wp_mNil, i_tup, wp_pu, e_asB, if_true]
  rw [wp_mAndV, wp_m2op, wp_mCall, wp_mCons, wp_mV0]
  simp only [List.getElem?_cons_succ, List.getElem?_cons_zero, Option.join_some, wp_some, wp_mNil, wp_mV0]
  rw [e_len (l := r.map .int) rfl, wp_pu, List.length_map, w_eq (okN_int _) (okN_int _), e_asB, wp_pu, tells_int.eq, if_pos (by simp)]
  refine ints_all (l := r) (fun PD q => ?_) (by simp [wipeE]) p
  rw [wp_mItems, wp_mV0]
  simp only [List.getElem?_cons_succ, List.getElem?_cons_zero, Option.join_some, wp_some]
  exact ⟨_, rfl, q⟩
theorem table_s (r : List Int) : Pf m_is_table [.int r.length, eT r] (.bl true) := .mk fun P p => by
  show wp (m_is_table [.d (.int r.length), .d (eT r)]) P []
  unfold m_is_table
  rw [wp_mFn2, wp_mRet, wp_mAndV, wp_mCall, wp_mCons, wp_mV0]
  simp only [List.replicate, Nat.reduceSub, List.getElem?_cons_succ, List.getElem?_cons_zero, Option.join_some, wp_some, wp_mCons, wp_mC, wp_mNil, i_tup, wp_pu, e_asB, if_true]
  rw [wp_mAndV, wp_m2op, wp_mCall, wp_mCons, wp_mV0]
  simp only [List.getElem?_cons_succ, List.getElem?_cons_zero, Option.join_some, wp_some, wp_mNil, wp_mV0]
  rw [e_len (l := r.map .int) rfl, wp_pu, List.length_map, w_eq (okN_int _) (okN_int _), e_asB, wp_pu, tells_int.eq, if_pos (by simp)]
  refine ints_all (l := r) (fun PD q => ?_) (by simp [wipeE]) p
  rw [wp_mItems, wp_mV0]
  simp only [List.getElem?_cons_succ, List.getElem?_cons_zero, Option.join_some, wp_some]
  exact ⟨_, rfl, q⟩
theorem pair_at {α : Type} {R : α → α → Prop} {l : List α} (h : l.Pairwise R) {i : Nat} {a b : α} (ha : l[i]? = some a) (hb : l[i + 1]? = some b) : R a b := by
  obtain ⟨h1, e1⟩ := List.getElem?_eq_some_iff.mp ha
  obtain ⟨h2, e2⟩ := List.getElem?_eq_some_iff.mp hb
  rw [← e1, ← e2]
  exact List.pairwise_iff_getElem.mp h i (i + 1) h1 h2 (Nat.lt_succ_self i)
theorem mapI_at {α : Type} {f : α → D} {l : List α} {i : Nat} {d : D} (h : (l.map f)[i]? = some d) : ∃ x, l[i]? = some x ∧ d = f x := by
  rw [List.getElem?_map] at h
  cases e : l[i]? with
  | none => rw [e] at h; cases h
  | some x => rw [e] at h; exact ⟨x, rfl, (Option.some.inj h).symm⟩
theorem worlds_s {m : Nat} {rs : List (List Int)} (hR : Rows m rs) : Pf m_are_worlds [.int m, eTT rs] (.bl true) := .mk fun P p => by
  show wp (m_are_worlds [.d (.int m), .d (eTT rs)]) P []
  unfold m_are_worlds
  rw [wp_mFn2]
  simp only [List.replicate, Nat.reduceSub]
  refine seqK fun K nx rt _ _ => ?_
  rw [wp_mIfS, wp_mOr, wp_mNot, wp_mT, wp_mCall, wp_mCons, wp_mV0]
  simp only [List.getElem?_cons_succ, List.getElem?_cons_zero, Option.join_some, wp_some, wp_mCons, wp_mC, wp_mNil, i_tup, wp_pu, e_asB, Bool.not_true, Bool.false_eq_true, if_false]
  rw [wp_mOr, wp_mT, wp_m2op, wp_mV0]
  simp only [List.getElem?_cons_succ, List.getElem?_cons_zero, Option.join_some, wp_some]
  have t0 : ∀ (P : W → List O → Prop) (h : List O) (ρ : Env), P (.d (eTT [])) h → wp (mTup mNil ρ) P h := fun P h ρ p => p
  refine t0 _ _ _ ?_
  rw [w_eq (okN_eTT _) (okN_eTT []), e_asB, wp_pu, tells_eTT.eq, if_neg (by simpa using hR.ne), wp_mNot, wp_mT]
  refine w_all (ds := rs.map eT) (fun PD q => ?_) (fun d hd P q => ?_) ?_
  · rw [wp_mItems, wp_mV0]
    simp only [List.getElem?_cons_succ, List.getElem?_cons_zero, Option.join_some, wp_some]
    exact ⟨_, rfl, q⟩
  · obtain ⟨r, hr, rfl⟩ := List.mem_map.mp hd
    simp only [wipeE, wp_mLend, wp_mCons, wp_mNil, wp_mV0, List.set_cons_succ, List.set_cons_zero, List.getElem?_cons_succ, List.getElem?_cons_zero, Option.join_some, wp_some]
    have := world_s r P [] q
    rw [hR.len r hr] at this
    exact this
  · rw [e_asB, wp_pu, if_neg (by decide), wp_mNext]
    refine nx _ _ ?_
    rw [wp_mRet, wp_mLend, wp_mCons, wp_mV0]
    simp only [List.getElem?_cons_succ, List.getElem?_cons_zero, Option.join_some, wp_some, wp_mNil]
    refine asc_s (l := rs.map eT) (fun i a b ha hb => ?_) _ _ p
    obtain ⟨x, hx, rfl⟩ := mapI_at ha
    obtain ⟨y, hy, rfl⟩ := mapI_at hb
    rw [e_ltT, pair_at hR.asc hx hy]
theorem group_s {many : Nat} {g : List Int} (hg : GroupOk many g) : Pf m_is_group [.int many, eT g] (.bl true) := .mk fun P p => by
  show wp (m_is_group [.d (.int many), .d (eT g)]) P []
  unfold m_is_group
  rw [wp_mFn2]
  simp only [List.replicate, Nat.reduceSub]
  refine seqK fun K nx rt _ _ => ?_
  rw [wp_mIfS, wp_mOr, wp_mNot, wp_mT, wp_mCall, wp_mCons, wp_mV0]
  simp only [List.getElem?_cons_succ, List.getElem?_cons_zero, Option.join_some, wp_some, wp_mCons, wp_mC, wp_mNil, i_tup, wp_pu, e_asB, Bool.not_true, Bool.false_eq_true, if_false]
  rw [wp_mNot, wp_mT]
  refine w_all (ds := g.map .int) (fun PD q => ?_) (fun d hd P q => ?_) ?_
  · rw [wp_mItems, wp_mV0]
    simp only [List.getElem?_cons_succ, List.getElem?_cons_zero, Option.join_some, wp_some]
    exact ⟨_, rfl, q⟩
  · obtain ⟨x, hx, rfl⟩ := List.mem_map.mp hd
    have hb := hg.lo x hx
    rw [wp_mAndV]
    simp only [wipeE, wp_mLend, wp_mCons, wp_mNil, wp_mV0, List.set_cons_succ, List.set_cons_zero, List.getElem?_cons_succ, List.getElem?_cons_zero, Option.join_some, wp_some]
    refine isint_s x _ _ ?_
    rw [e_asB, wp_pu, if_pos rfl, wp_mChain]
    simp only [wp_mC, wp_mV0, List.getElem?_cons_succ, List.getElem?_cons_zero, Option.join_some, wp_some, e_le, e_lt, wp_pu, e_asB]
    rw [if_pos (by simpa using hb.1)]
    rw [decide_eq_true hb.2]
    exact q
  · rw [e_asB, wp_pu, if_neg (by decide), wp_mNext]
    refine nx _ _ ?_
    rw [wp_mRet, wp_mLend, wp_mCons, wp_mV0]
    simp only [List.getElem?_cons_succ, List.getElem?_cons_zero, Option.join_some, wp_some, wp_mNil]
    refine asc_s (l := g.map .int) (fun i a b ha hb => ?_) _ _ p
    obtain ⟨x, hx, rfl⟩ := mapI_at ha
    obtain ⟨y, hy, rfl⟩ := mapI_at hb
    rw [e_ltI, decide_eq_true (pair_at hg.asc hx hy)]
theorem gt_s {many size : Nat} {q : List Int × List Int} (hq : PairOk many size q) : Pf m_is_group_table [.int many, .int size, eP q] (.bl true) := .mk fun P p => by
  show wp (m_is_group_table [.d (.int many), .d (.int size), .d (eP q)]) P []
  unfold m_is_group_table
  rw [wp_mFn3, wp_mRet, wp_mAndV, wp_mCall, wp_mCons, wp_mV0]
  simp only [List.replicate, Nat.reduceSub, List.getElem?_cons_succ, List.getElem?_cons_zero, Option.join_some, wp_some, wp_mCons, wp_mC, wp_mNil, i_tup, wp_pu, e_asB, if_true]
  rw [wp_mAndV, wp_m2op, wp_mCall, wp_mCons, wp_mV0]
  simp only [List.getElem?_cons_succ, List.getElem?_cons_zero, Option.join_some, wp_some, wp_mNil, wp_mC]
  rw [e_len (l := [eT q.1, eT q.2]) rfl, wp_pu, w_eq (okN_int _) (okN_int _), e_asB, wp_pu, if_pos (by rfl), wp_mAndV, wp_mLend]
  simp only [wp_mCons, wp_mNil, wp_mV0, wp_m2op, wp_mC, List.getElem?_cons_succ, List.getElem?_cons_zero, Option.join_some, wp_some]
  have i0 : ∀ (P : W → List O → Prop) (h : List O), P (.d (eT q.1)) h → wp (opIx (.d (eP q)) (.d (.int 0))) P h := fun P h p => p
  have i1 : ∀ (P : W → List O → Prop) (h : List O), P (.d (eT q.2)) h → wp (opIx (.d (eP q)) (.d (.int 1))) P h := fun P h p => p
  refine i0 _ _ (group_s hq.g _ _ ?_)
  rw [e_asB, wp_pu, if_pos rfl, wp_mLend]
  simp only [wp_mCons, wp_mNil, wp_mV0, wp_m2op, wp_mC, List.getElem?_cons_succ, List.getElem?_cons_zero, Option.join_some, wp_some]
  refine i1 _ _ ?_
  have := table_s q.2 (fun w h' => FnP P (.rt w) h') [] p
  rw [hq.t] at this
  exact this
theorem gts_s {many size : Nat} {ps : List (List Int × List Int)} (hps : ∀ p ∈ ps, PairOk many size p) : Pf m_are_group_tables [.int many, .int size, .tup (ps.map eP)] (.bl true) := .mk fun P p => by
  show wp (m_are_group_tables [.d (.int many), .d (.int size), .d (.tup (ps.map eP))]) P []
  unfold m_are_group_tables
  rw [wp_mFn3, wp_mRet, wp_mAndV, wp_mCall, wp_mCons, wp_mV0]
  simp only [List.replicate, Nat.reduceSub, List.getElem?_cons_succ, List.getElem?_cons_zero, Option.join_some, wp_some, wp_mCons, wp_mC, wp_mNil, i_tup, wp_pu, e_asB, if_true]
  refine w_all (ds := ps.map eP) (fun PD q => ?_) (fun d hd P q => ?_) p
  · rw [wp_mItems, wp_mV0]
    simp only [List.getElem?_cons_succ, List.getElem?_cons_zero, Option.join_some, wp_some]
    exact ⟨_, rfl, q⟩
  · obtain ⟨x, hx, rfl⟩ := List.mem_map.mp hd
    simp only [wipeE, wp_mLend, wp_mCons, wp_mNil, wp_mV0, List.set_cons_succ, List.set_cons_zero, List.getElem?_cons_succ, List.getElem?_cons_zero, Option.join_some, wp_some]
    exact gt_s (hps x hx) P [] q
end Lw

set_option Elab.async false
set_option linter.all false
set_option maxRecDepth 100000
set_option maxHeartbeats 1000000
namespace Lw
open PySem hiding Env
open L2 DD
abbrev hD (many : Nat) : D := .tup ((nm4.take many).map .str)
def caseD (many : Nat) (rs : List (List Int)) (as bs : List (List Int × List Int)) : D := .ins "Case" [("hands", hD many), ("worlds", eTT rs), ("wants", .tup (as.map eP)), ("limits", .tup (bs.map eP))]
section
variable {P : W → List O → Prop} {PU : Unit → List O → Prop} {PF : Fl → List O → Prop} {h : List O} {ρ : Env}
theorem wp_mCallK (k j l : Nat) (gW : List W → List W → List W) (m : List W → M W) (n nk : Env → M (List W)) : wp (mCallK k j l gW m n nk ρ) P h = wp (n ρ) (fun ws h1 => wp (nk ρ) (fun zs h2 => if ws.length = j ∧ zs.length = l then wp (lendC k m (gW ws zs)) P h2 else False) h1) h := by
  unfold mCallK
  rw [wp_bd]
  congr 1
  funext ws h1
  rw [wp_bd]
  congr 1
  funext zs h2
  rw [wp_ite]
  rfl
theorem wp_mNew (c : Str) (mi : List W → M W) (ws : List W) : wp (mNew c mi ws) P h = wp (mi (.ref h.length :: ws)) (fun w h' => if isNonW w = true then P (.ref h.length) h' else False) (h ++ [.ins c []]) := by
  unfold wp mNew
  cases mi (.ref h.length :: ws) (h ++ [.ins c []]) with
  | ok w h' =>
    dsimp only
    by_cases hw : isNonW w = true
    · rw [if_pos hw, if_pos hw]
    · rw [if_neg hw, if_neg hw]
  | ex x h' => rfl
  | st => rfl
theorem wp_mFldSet (c f : Str) (m1 m2 : Env → M W) : wp (mFldSet c f m1 m2 ρ) PF h = wp (m2 ρ) (fun v h1 => wp (m1 ρ) (fun a h2 => wp (opFldSet c f a v) (fun _ h3 => PF (.nx ρ) h3) h2) h1) h := by
  unfold mFldSet
  rw [wp_bd]
  congr 1
  funext v h1
  rw [wp_bd]
  congr 1
  funext a h2
  rw [wp_bd]
  rfl
theorem fld_set {c f : Str} {v : W} {fs : List (Str × W)} (hl : fs.length < 900) : wp (opFldSet c f (.ref 0) v) PU [.ins c fs] = PU () [.ins c (putFw f v fs)] := by
  unfold wp opFldSet
  simp only [List.getElem?_cons_zero, hl, and_self, if_true]
  rfl
theorem fields4 {α : Type} (a b c d : α) : putFw ("limits" : Str) d (putFw "wants" c (putFw "worlds" b (putFw "hands" a []))) = [(("hands" : Str), a), ("worlds", b), ("wants", c), ("limits", d)] := by kernel_rfl
theorem e_lenH {many : Nat} (h4 : many ≤ 4) : bLen [.d (hD many)] = pu (.d (.int many)) := by
  rw [e_len (l := (nm4.take many).map .str) rfl, List.length_map, List.length_take, Nat.min_eq_left (by show many ≤ 4; exact h4)]
theorem e_lenT (rs : List (List Int)) : bLen [.d (eTT rs)] = pu (.d (.int rs.length)) := by rw [e_len (l := rs.map eT) rfl, List.length_map]
theorem e_lenr (r : List Int) : bLen [.d (eT r)] = pu (.d (.int r.length)) := by rw [e_len (l := r.map .int) rfl, List.length_map]
end
theorem check_s {many : Nat} {rs : List (List Int)} {as bs : List (List Int × List Int)} (hp : PlanOk many rs as bs) : Pf m_check_parts [hD many, eTT rs, .tup (as.map eP), .tup (bs.map eP)] .non := .mk fun P p => by
  show wp (m_check_parts [.d (hD many), .d (eTT rs), .d (.tup (as.map eP)), .d (.tup (bs.map eP))]) P []
  unfold m_check_parts
  rw [wp_mFn4]
  simp only [List.replicate, Nat.reduceSub]
  refine seqK fun K nx rt _ _ => ?_
  rw [wp_mIfS, wp_mNot, wp_mT, wp_mLend]
  simp only [wp_mCons, wp_mNil, wp_mV0, wp_mC, List.getElem?_cons_succ, List.getElem?_cons_zero, Option.join_some, wp_some]
  refine names_s hp.m1 hp.m4 _ _ ?_
  rw [e_asB, wp_pu, if_neg (by decide), wp_mNext]
  refine nx _ _ (seqK fun K nx rt _ _ => ?_)
  rw [wp_mIfS, wp_mNot, wp_mT, wp_mLend]
  simp only [wp_mCons, wp_mNil, wp_mV0, wp_mC, wp_mCall, List.getElem?_cons_succ, List.getElem?_cons_zero, Option.join_some, wp_some, e_lenH hp.m4, wp_pu]
  refine worlds_s hp.rows _ _ ?_
  rw [e_asB, wp_pu, if_neg (by decide), wp_mNext]
  refine nx _ _ (seqK fun K nx rt _ _ => ?_)
  rw [wp_mIfS, wp_mNot, wp_mT, wp_mLend]
  simp only [wp_mCons, wp_mNil, wp_mV0, wp_mC, wp_mCall, List.getElem?_cons_succ, List.getElem?_cons_zero, Option.join_some, wp_some, e_lenH hp.m4, e_lenT, wp_pu]
  refine gts_s hp.aims _ _ ?_
  rw [e_asB, wp_pu, if_neg (by decide), wp_mNext]
  refine nx _ _ ?_
  rw [wp_mIfS, wp_mNot, wp_mT, wp_mLend]
  simp only [wp_mCons, wp_mNil, wp_mV0, wp_mC, wp_mCall, List.getElem?_cons_succ, List.getElem?_cons_zero, Option.join_some, wp_some, e_lenH hp.m4, e_lenT, wp_pu]
  refine gts_s hp.bounds _ _ ?_
  rw [e_asB, wp_pu, if_neg (by decide), wp_mNext]
  exact p
theorem new_s {many : Nat} {rs : List (List Int)} {as bs : List (List Int × List Int)} (hp : PlanOk many rs as bs) : Pf (mNew "Case" m_Case_init) [hD many, eTT rs, .tup (as.map eP), .tup (bs.map eP)] (caseD many rs as bs) := fun P h p => by
  refine wp_lend0 ?_
  rw [wp_mNew]
  show wp (m_Case_init [.ref 0, .d (hD many), .d (eTT rs), .d (.tup (as.map eP)), .d (.tup (bs.map eP))]) _ [.ins "Case" []]
  unfold m_Case_init
  rw [wp_mFn5]
  simp only [List.replicate, Nat.reduceSub]
  refine seqK fun K nx rt _ _ => ?_
  rw [wp_mExpr, wp_mLend]
  simp only [wp_mCons, wp_mNil, wp_mV0, List.getElem?_cons_succ, List.getElem?_cons_zero, Option.join_some, wp_some]
  refine check_s hp _ _ (nx _ _ (seqK fun K nx rt _ _ => ?_))
  rw [wp_mFldSet]
  simp only [wp_mV0, List.getElem?_cons_succ, List.getElem?_cons_zero, Option.join_some, wp_some]
  rw [fld_set (by decide)]
  refine nx _ _ (seqK fun K nx rt _ _ => ?_)
  rw [wp_mFldSet]
  simp only [wp_mV0, List.getElem?_cons_succ, List.getElem?_cons_zero, Option.join_some, wp_some]
  rw [fld_set (Nat.lt_of_le_of_lt (Nat.le_of_eq (by rfl : _ = 1)) (by decide))]
  refine nx _ _ (seqK fun K nx rt _ _ => ?_)
  rw [wp_mFldSet]
  simp only [wp_mV0, List.getElem?_cons_succ, List.getElem?_cons_zero, Option.join_some, wp_some]
  rw [fld_set (Nat.lt_of_le_of_lt (Nat.le_of_eq (by kernel_rfl : _ = 2)) (by decide))]
  refine nx _ _ ?_
  rw [wp_mFldSet]
  simp only [wp_mV0, List.getElem?_cons_succ, List.getElem?_cons_zero, Option.join_some, wp_some]
  rw [fld_set (Nat.lt_of_le_of_lt (Nat.le_of_eq (by kernel_rfl : _ = 3)) (by decide)), fields4]
  exact ⟨caseD many rs as bs, rfl, p⟩
end Lw

set_option Elab.async false
set_option linter.all false
set_option maxRecDepth 100000
set_option maxHeartbeats 1000000
namespace Lw
open PySem hiding Env
open L2 DD
section
variable {P : W → List O → Prop} {h : List O} {ρ : Env}
theorem w_dget {l : List (Key × D)} {k : Str} {d : D} (e : lookG l (.inr k) = some d) : wp (opDGet (.d (.dic l)) (.d (.str k))) P h = P (.d d) h := by
  unfold wp opDGet
  simp only [keyW, e]
variable {many : Nat} {rs : List (List Int)} {as bs : List (List Int × List Int)}
theorem p_called : lookG (planD many rs as bs) (.inr "called") = some (hD many) := by simp only [planD, lookG_cons, if_true]
theorem p_rows : lookG (planD many rs as bs) (.inr "rows") = some (eLT rs) := by simp only [planD, lookG_cons, kn1, if_false, if_true]
theorem p_aims : lookG (planD many rs as bs) (.inr "aims") = some (.lst (as.map eP)) := by simp only [planD, lookG_cons, kn2, kn3, if_false, if_true]
theorem p_bounds : lookG (planD many rs as bs) (.inr "bounds") = some (.lst (bs.map eP)) := by simp only [planD, lookG_cons, kn4, kn5, kn6, if_false, if_true]
theorem look4 {α : Type} (a b c d : α) : lookF [(("hands" : Str), a), ("worlds", b), ("wants", c), ("limits", d)] "worlds" = some b := by kernel_rfl
theorem f_worlds : wp (opFld "Case" "worlds" (.d (caseD many rs as bs))) P h = P (.d (eTT rs)) h := by
  unfold wp opFld caseD
  simp only [look4, if_true]
theorem look4h {α : Type} (a b c d : α) : lookF [(("hands" : Str), a), ("worlds", b), ("wants", c), ("limits", d)] "hands" = some a := by kernel_rfl
theorem f_hands : wp (opFld "Case" "hands" (.d (caseD many rs as bs))) P h = P (.d (hD many)) h := by
  unfold wp opFld caseD
  simp only [look4h, if_true]
end
theorem code_s {many : Nat} {rs : List (List Int)} {as bs : List (List Int × List Int)} (hp : PlanOk many rs as bs) : Pf m__law_code [.dic (planD many rs as bs)] (caseD many rs as bs) := .mk fun P p => by
  show wp (m__law_code [.d (.dic (planD many rs as bs))]) P []
  unfold m__law_code
  rw [wp_mFn1, wp_mRet, wp_mCallK]
  simp only [wp_mCons, wp_mNil, wp_mV0, wp_m2op, wp_mC, wp_mCall, List.replicate, Nat.reduceSub, List.getElem?_cons_zero, Option.join_some, wp_some, w_dget p_called, w_dget p_rows, w_dget p_aims, w_dget p_bounds, e_tuple, wp_pu]
  rw [if_pos ⟨rfl, rfl⟩]
  exact new_s hp _ _ p
/-! ### columns -/
def col (k : Nat) (ws : List (List Int)) : List Int := ws.map fun r => r.getD k 0
def cols (many : Nat) (ws : List (List Int)) : List (List Int) := (List.range many).map fun k => sdI (col k ws)
theorem nodup_le : ∀ {l c : List Int}, l.Nodup → (∀ x ∈ l, x ∈ c) → l.length ≤ c.length
  | [], _, _, _ => Nat.zero_le _
  | x :: l, c, hn, hs => by
    obtain ⟨h1, h2⟩ := List.nodup_cons.mp hn
    have hx := hs x List.mem_cons_self
    have := nodup_le (c := c.erase x) h2 fun y hy => (List.mem_erase_of_ne (fun z : y = x => h1 (by rw [← z]; exact hy))).mpr (hs y (List.mem_cons_of_mem _ hy))
    rw [List.length_erase_of_mem hx] at this
    have : 0 < c.length := List.length_pos_of_mem hx
    rw [List.length_cons]
    omega
theorem sdI_few {l c : List Int} (h : ∀ x ∈ l, x ∈ c) : (sdI l).length ≤ c.length :=
  nodup_le ((sdI_asc l).imp fun h => Int.ne_of_lt h) fun x hx => h x ((mem_sdI l x).mp hx)
/-- rows like those of a plan, in any order, some twice -/
structure Like (many : Nat) (ws : List (List Int)) : Prop where
  len : ∀ r ∈ ws, r.length = many
  few : ws.length < 1000
  colF : ∀ k, k < many → (sdI (col k ws)).length ≤ 6
theorem Rows.like {m : Nat} {rs ws : List (List Int)} (h : Rows m rs) (hs : ∀ r ∈ ws, r ∈ rs) (hf : ws.length < 1000) : Like m ws := by
  refine ⟨fun r hr => h.len r (hs r hr), hf, fun k hk => ?_⟩
  obtain ⟨cs, c1, c2, c3⟩ := h.col
  have hlt : k < cs.length := by omega
  refine Nat.le_trans (sdI_few (c := cs[k]) fun x hx => ?_) (c2 _ (List.getElem_mem hlt))
  obtain ⟨r, hr, rfl⟩ := List.mem_map.mp hx
  have hl := h.len r (hs r hr)
  have e : r[k]? = some (r.getD k 0) := by
    rw [List.getD_eq_getElem?_getD, List.getElem?_eq_getElem (by omega)]
    rfl
  obtain ⟨c, e1, e2⟩ := c3 r (hs r hr) k _ e
  rw [List.getElem?_eq_getElem hlt] at e1
  rw [Option.some.inj e1]
  exact e2
theorem ix_row {r : List Int} {k : Nat} (hk : k < r.length) (P : W → List O → Prop) (h : List O) (p : P (.d (.int (r.getD k 0))) h) : wp (opIx (.d (eT r)) (.d (.int k))) P h := by
  obtain ⟨d, _, e, q⟩ := w_ix (P := P) (h := h) (x := eT r) (l := r.map .int) (i := (k : Int)) rfl (by omega) (by rw [List.length_map]; omega)
  rw [q]
  rw [Int.toNat_natCast, List.getElem?_map, List.getElem?_eq_getElem hk] at e
  have := Option.some.inj e
  rw [← this]
  rw [List.getD_eq_getElem?_getD, List.getElem?_eq_getElem hk] at p
  exact p
theorem sdD_ok {l : List Int} (h1 : l.length < 4000) (h2 : (sdI l).length < 64) : sdD (l.map .int) = some (eL (sdI l)) := by
  unfold sdD
  rw [intsD_map]
  show (if l.length < 4000 ∧ (sdI l).length < 64 then some (D.lst ((sdI l).map .int)) else none) = _
  rw [if_pos ⟨h1, h2⟩]
theorem e_tupL (l : List Int) : bTuple [.d (eL l)] = pu (.d (eT l)) := rfl
theorem range_int {n i : Nat} {d : D} (h : (rangeD 0 n)[i]? = some d) : i < n ∧ d = .int i := by
  have hlt := (List.getElem?_eq_some_iff.mp h).1
  rw [rangeD_len] at hlt
  refine ⟨hlt, ?_⟩
  unfold rangeD at h
  rw [List.getElem?_map, List.getElem?_range hlt] at h
  rw [← Option.some.inj h]
  simp
theorem range_mem {n : Nat} {d : D} (h : d ∈ rangeD 0 n) : ∃ i : Nat, i < n ∧ d = .int i := by
  obtain ⟨i, hi⟩ := List.getElem?_of_mem h
  exact ⟨i, (range_int hi).1, (range_int hi).2⟩
/-- [g k for k in range(n)] -/
theorem w_range {n : Nat} {vs : List Nat} {j : Nat} {e : Env → M W} {src : Env → M (List D)} {ρ : Env} {P : W → List O → Prop} {h : List O} (g : Nat → D) (hs : ∀ PD : List D → List O → Prop, PD (rangeD 0 n) h → wp (src ρ) PD h) (he : ∀ k, k < n → ∀ P : W → List O → Prop, P (.d (g k)) h → wp (e ((wipeE ρ vs).set j (some (.d (.int (k : Nat)))))) P h) (p : P (.d (.lst ((List.range n).map g))) h) :
    wp (mLc src vs (.nm j) mYes e ρ) P h := by
  rw [wp_mLc]
  refine hs _ (wp_lc (fun _ => true) (fun d => match d with | .int i => g i.toNat | d => d) (fun d hd => ?_) ?_)
  · obtain ⟨i, hi, rfl⟩ := range_mem hd
    refine ⟨_, rfl, fun PB q => q, fun _ P q => he i hi P ?_⟩
    have q : P (.d (g ((i : Int).toNat))) h := q
    rw [Int.toNat_natCast] at q
    exact q
  · rw [filter_true]
    have : (rangeD 0 n).map (fun d => match d with | .int i => g i.toNat | d => d) = (List.range n).map g := by
      unfold rangeD
      rw [List.map_map]
      congr 1
      funext i
      show g ((0 + (i : Int)).toNat) = g i
      rw [Int.zero_add, Int.toNat_natCast]
    rw [this]
    exact p
end Lw

set_option Elab.async false
set_option linter.all false
set_option maxRecDepth 100000
set_option maxHeartbeats 1000000
namespace Lw
open PySem hiding Env
open L2 DD
theorem cols_map (many : Nat) (ws : List (List Int)) : (List.range many).map (fun k => eT (sdI (col k ws))) = (cols many ws).map eT := by
  unfold cols
  rw [List.map_map]
  rfl
theorem tight_s {many : Nat} {rs ws : List (List Int)} {as bs : List (List Int × List Int)} (hp : PlanOk many rs as bs) (hw : Like many ws) : Pf m_tight [caseD many rs as bs, eTT ws] (eTT (cols many ws)) := .mk fun P p => by
  show wp (m_tight [.d (caseD many rs as bs), .d (eTT ws)]) P []
  unfold m_tight
  rw [wp_mFn2, wp_mRet, wp_mCall, wp_mCons]
  simp only [List.replicate, Nat.reduceSub]
  refine w_range (n := many) (fun k => eT (sdI (col k ws))) (fun PD q => ?_) (fun k hk P q => ?_) ?_
  · rw [wp_mRng1, wp_mCons, wp_mCall, wp_mCons, wp_m1op, wp_mV0]
    simp only [List.getElem?_cons_succ, List.getElem?_cons_zero, Option.join_some, wp_some, f_hands, wp_mNil, e_lenH hp.m4, wp_pu]
    exact ⟨_, e_rng1 (by have := hp.m4; omega), q⟩
  · rw [wp_mCall, wp_mCons, wp_mSortSc, wp_mItems]
    simp only [wipeE, wp_mV0, List.set_cons_succ, List.set_cons_zero, List.getElem?_cons_succ, List.getElem?_cons_zero, Option.join_some, wp_some]
    refine ⟨_, rfl, ?_⟩
    rw [if_pos (by rw [List.length_map]; have := hw.few; omega)]
    refine wp_lc (fun _ => true) (fun d => match d with | .tup r => ((r[k]?).getD .non) | d => d) (fun d hd => ⟨_, rfl, fun PB q => q, fun _ P q => ?_⟩) ?_
    · obtain ⟨r, hr, rfl⟩ := List.mem_map.mp hd
      have hl := hw.len r hr
      have e : ((r.map D.int)[k]?).getD .non = .int (r.getD k 0) := by
        rw [List.getElem?_map, List.getElem?_eq_getElem (by omega), List.getD_eq_getElem?_getD, List.getElem?_eq_getElem (by omega)]
        rfl
      have q : P (.d (((r.map D.int)[k]?).getD .non)) [] := q
      rw [e] at q
      unfold mInt
      rw [wp_bd, wp_m2op]
      simp only [wipeE, wp_mV0, List.set_cons_succ, List.set_cons_zero, List.getElem?_cons_succ, List.getElem?_cons_zero, Option.join_some, wp_some]
      refine ix_row (by omega) _ _ ?_
      exact q
    · rw [filter_true]
      have e : (ws.map eT).map (fun d => match d with | .tup r => ((r[k]?).getD .non) | d => d) = (col k ws).map .int := by
        unfold col
        rw [List.map_map, List.map_map]
        refine List.map_congr_left fun r hr => ?_
        have hl := hw.len r hr
        show ((r.map D.int)[k]?).getD .non = .int (r.getD k 0)
        rw [List.getElem?_map, List.getElem?_eq_getElem (by omega), List.getD_eq_getElem?_getD, List.getElem?_eq_getElem (by omega)]
        rfl
      rw [e]
      refine ⟨_, sdD_ok (by unfold col; rw [List.length_map]; have := hw.few; omega) (by have := hw.colF k hk; omega), ?_⟩
      rw [wp_mNil, e_tupL, wp_pu]
      exact q
  · rw [cols_map, wp_mNil, e_tuple, wp_pu]
    exact p
theorem ix_to {x d : D} {l : List D} {i : Int} {P : W → List O → Prop} {h : List O} (e : items x = some l) (h0 : 0 ≤ i) (hd : l[i.toNat]? = some d) (p : P (.d d) h) : wp (opIx (.d x) (.d (.int i))) P h := by
  have hlt := (List.getElem?_eq_some_iff.mp hd).1
  obtain ⟨d', _, e2, q⟩ := w_ix (P := P) (h := h) e h0 (by omega)
  rw [q]
  rw [hd] at e2
  cases e2
  exact p
theorem w_sortset {l : List Int} {P : W → List O → Prop} {h : List O} (h1 : l.length < 4000) (h2 : (sdI l).length < 64) (p : P (.d (eL (sdI l))) h) : wp (opSortSet (.d (eL l))) P h := by
  unfold opSortSet
  rw [its_d rfl, bd_pu, sdD_ok h1 h2]
  exact p
theorem col_map {many k : Nat} {ws : List (List Int)} (hw : Like many ws) (hk : k < many) : (ws.map eT).map (fun d => match d with | .tup r => ((r[k]?).getD .non) | d => d) = (col k ws).map .int := by
  unfold col
  rw [List.map_map, List.map_map]
  refine List.map_congr_left fun r hr => ?_
  have hl := hw.len r hr
  show ((r.map D.int)[k]?).getD .non = .int (r.getD k 0)
  rw [List.getElem?_map, List.getElem?_eq_getElem (by omega), List.getD_eq_getElem?_getD, List.getElem?_eq_getElem (by omega)]
  rfl
theorem linputs_s {many : Nat} {ws : List (List Int)} {x : D} (m4 : many ≤ 4) (hw : Like many ws) (hne : ws ≠ []) (hx : items x = some (ws.map eT)) : Pf m__law_inputs [x] (eTT (cols many ws)) := .mk fun P p => by
  show wp (m__law_inputs [.d x]) P []
  unfold m__law_inputs
  rw [wp_mFn1, wp_mRet, wp_mCall, wp_mCons]
  simp only [List.replicate, Nat.reduceSub]
  refine w_range (n := many) (fun k => eT (sdI (col k ws))) (fun PD q => ?_) (fun k hk P q => ?_) ?_
  · rw [wp_mRng1, wp_mCons, wp_mCall, wp_mCons, wp_m2op, wp_mV0]
    simp only [List.getElem?_cons_succ, List.getElem?_cons_zero, Option.join_some, wp_some, wp_mC]
    obtain ⟨r0, rest, rfl⟩ : ∃ r0 rest, ws = r0 :: rest := by
      cases ws with
      | nil => exact (hne rfl).elim
      | cons a b => exact ⟨a, b, rfl⟩
    refine ix_to (d := eT r0) hx (Int.le_refl _) rfl ?_
    rw [wp_mNil, e_lenr, wp_pu, wp_mNil, hw.len r0 List.mem_cons_self]
    exact ⟨_, e_rng1 (by omega), q⟩
  · rw [wp_mCall, wp_mCons, wp_m1op, wp_mLc, wp_mItems]
    simp only [wipeE, wp_mV0, List.set_cons_succ, List.set_cons_zero, List.getElem?_cons_succ, List.getElem?_cons_zero, Option.join_some, wp_some]
    have hi : itemsW (.d x) = some (ws.map eT) := hx
    refine ⟨_, hi, wp_lc (fun _ => true) (fun d => match d with | .tup r => ((r[k]?).getD .non) | d => d) (fun d hd => ⟨_, rfl, fun PB q => q, fun _ P q => ?_⟩) ?_⟩
    · obtain ⟨r, hr, rfl⟩ := List.mem_map.mp hd
      have hl := hw.len r hr
      have e : ((r.map D.int)[k]?).getD .non = .int (r.getD k 0) := by
        rw [List.getElem?_map, List.getElem?_eq_getElem (by omega), List.getD_eq_getElem?_getD, List.getElem?_eq_getElem (by omega)]
        rfl
      have q : P (.d (((r.map D.int)[k]?).getD .non)) [] := q
      rw [e] at q
      rw [wp_m2op]
      simp only [wipeE, wp_mV0, List.set_cons_succ, List.set_cons_zero, List.getElem?_cons_succ, List.getElem?_cons_zero, Option.join_some, wp_some]
      exact ix_row (by omega) _ _ q
    · rw [filter_true, col_map hw hk]
      refine w_sortset (by unfold col; rw [List.length_map]; have := hw.few; omega) (by have := hw.colF k hk; omega) ?_
      rw [wp_mNil, e_tupL, wp_pu]
      exact q
  · rw [cols_map, wp_mNil, e_tuple, wp_pu]
    exact p
end Lw

set_option Elab.async false
set_option linter.all false
set_option maxRecDepth 100000
set_option maxHeartbeats 1000000
namespace Lw
open PySem hiding Env
open L2 DD
/-- the world r lies in the box bx -/
def inBox (bx : List (List Int)) (r : List Int) : Bool := (List.range r.length).all fun k => decide (r.getD k 0 ∈ bx.getD k [])
theorem ix_box {bx : List (List Int)} {k : Nat} (hk : k < bx.length) (P : W → List O → Prop) (h : List O) (p : P (.d (eT (bx.getD k []))) h) : wp (opIx (.d (eTT bx)) (.d (.int k))) P h := by
  refine ix_to (d := eT (bx.getD k [])) rfl (by omega) ?_ p
  rw [Int.toNat_natCast, List.getElem?_map, List.getElem?_eq_getElem hk, List.getD_eq_getElem?_getD, List.getElem?_eq_getElem hk]
  rfl
theorem nil_isEmpty {α : Type} {β : Type} (l : List α) (p : α → Bool) (f : α → β) : ((l.filter p).map f).isEmpty = l.all fun x => !p x := by
  induction l with
  | nil => rfl
  | cons a l ih =>
    rw [List.filter_cons]
    cases h : p a with
    | true => simp [h]
    | false => simpa [h] using ih
theorem within_s {many : Nat} {rs bx : List (List Int)} {as bs : List (List Int × List Int)} (hp : PlanOk many rs as bs) (hw : ∀ r ∈ rs, r.length = many) (hb : bx.length = many) : Pf m__law_within [.dic (planD many rs as bs), eTT bx] (eLT (rs.filter (inBox bx))) := .mk fun P p => by
  show wp (m__law_within [.d (.dic (planD many rs as bs)), .d (eTT bx)]) P []
  unfold m__law_within
  rw [wp_mFn2, wp_mRet, wp_mLc, wp_mItems, wp_m2op, wp_mV0]
  simp only [List.replicate, Nat.reduceSub, List.getElem?_cons_succ, List.getElem?_cons_zero, Option.join_some, wp_some, wp_mC, w_dget p_rows]
  refine ⟨rs.map eT, rfl, wp_lc (fun d => match d with | .tup r => inBox bx (r.map fun x => match x with | .int i => i | _ => 0) | _ => false) id (fun d hd => ⟨_, rfl, fun PB q => ?_, fun _ P q => ?_⟩) ?_⟩
  · obtain ⟨r, hr, rfl⟩ := List.mem_map.mp hd
    have hl := hw r hr
    have q : PB (inBox bx ((r.map D.int).map fun x => match x with | .int i => i | _ => 0)) [] := q
    rw [List.map_map] at q
    have q : PB (inBox bx (r.map id)) [] := q
    rw [List.map_id] at q
    rw [wp_mT, wp_m2op, wp_mLc, wp_mRng1, wp_mCons, wp_mCall, wp_mCons]
    simp only [wipeE, wp_mV0, List.set_cons_succ, List.set_cons_zero, List.getElem?_cons_succ, List.getElem?_cons_zero, Option.join_some, wp_some, wp_mNil, e_lenr, wp_pu]
    refine ⟨_, e_rng1 (by have := hp.m4; omega), wp_lc (fun d => match d with | .int i => !decide (r.getD i.toNat 0 ∈ bx.getD i.toNat []) | _ => false) id (fun d hd => ⟨_, rfl, fun PB q => ?_, fun _ P q => ?_⟩) ?_⟩
    · obtain ⟨k, hk, rfl⟩ := range_mem hd
      rw [wp_mT, wp_m2op, wp_m2op]
      simp only [wipeE, wp_mV0, List.set_cons_succ, List.set_cons_zero, List.getElem?_cons_succ, List.getElem?_cons_zero, Option.join_some, wp_some]
      refine ix_row hk _ _ ?_
      rw [wp_m2op]
      simp only [wipeE, wp_mV0, List.set_cons_succ, List.set_cons_zero, List.getElem?_cons_succ, List.getElem?_cons_zero, Option.join_some, wp_some]
      refine ix_box (by omega) _ _ ?_
      rw [w_nin (l := (bx.getD k []).map .int) rfl (okN_int _) (okN_eT _), inD_tells tells_int]
      exact q
    · rw [wp_mV0]
      simp only [wipeE, List.set_cons_succ, List.set_cons_zero, List.getElem?_cons_succ, List.getElem?_cons_zero, Option.join_some, wp_some]
      exact q
    · rw [wp_mLst, wp_mNil]
      refine (show wp (opEq false (.d (.lst _)) (.d (.lst []))) _ _ from ?_)
      rw [w_eq (j := 1) (k := 1) (okN_lst fun x hx => ?_) (okN_lst fun x hx => absurd hx List.not_mem_nil), eqD_nil_lst, nil_isEmpty]
      · refine (show PB _ _ from ?_)
        have e : ((rangeD 0 r.length).all fun x => !(match x with | .int i => !decide (r.getD i.toNat 0 ∈ bx.getD i.toNat []) | _ => false)) = inBox bx r := by
          unfold rangeD inBox
          rw [List.all_map]
          congr 1
          funext k
          simp
        rw [e]
        exact q
      · obtain ⟨y, hy, rfl⟩ := List.mem_map.mp hx
        obtain ⟨k, _, e⟩ := range_mem (List.mem_filter.mp hy).1
        rw [e]
        exact okN_int _
  · rw [wp_mV0]
    simp only [wipeE, List.set_cons_succ, List.set_cons_zero, List.getElem?_cons_succ, List.getElem?_cons_zero, Option.join_some, wp_some]
    exact q
  · have e : ((rs.map eT).filter (fun d => match d with | .tup r => inBox bx (r.map fun x => match x with | .int i => i | _ => 0) | _ => false)).map id = (rs.filter (inBox bx)).map eT := by
      rw [List.map_id, List.filter_map]
      congr 1
      refine List.filter_congr fun r _ => ?_
      show inBox bx ((r.map D.int).map fun x => match x with | .int i => i | _ => 0) = inBox bx r
      rw [List.map_map]
      show inBox bx (r.map id) = _
      rw [List.map_id]
    rw [e]
    exact p
end Lw

set_option Elab.async false
set_option linter.all false
set_option maxRecDepth 100000
set_option maxHeartbeats 1000000
namespace Lw
open PySem hiding Env
open L2 DD
theorem bools_map {α : Type} (f : α → Bool) : ∀ l : List α, boolsD (l.map fun x => D.bl (f x)) = some (l.map f)
  | [] => rfl
  | x :: l => by
    show (boolsD (l.map fun x => D.bl (f x))).map (f x :: ·) = _
    rw [bools_map f l]
    rfl
theorem e_all {α : Type} (f : α → Bool) (l : List α) : bAll [.d (.lst (l.map fun x => D.bl (f x)))] = pu (.d (.bl (l.all f))) := by
  show oM (Option.map W.d ((boolsD (l.map fun x => D.bl (f x))).map fun bs => D.bl (bs.all id))) = _
  rw [bools_map]
  show pu (W.d (D.bl ((l.map f).all id))) = _
  rw [List.all_map]
  rfl
theorem zip_range : ∀ (r : List Int) (bx : List (List Int)), r.length = bx.length → (zipD (r.map .int) (bx.map eT)) = (List.range r.length).map fun k => D.tup [.int (r.getD k 0), eT (bx.getD k [])] := by
  intro r bx h
  refine List.ext_getElem? fun i => ?_
  rw [List.getElem?_map]
  by_cases hi : i < r.length
  · rw [List.getElem?_range hi]
    refine zipD_at ?_ ?_
    · rw [List.getElem?_map, List.getElem?_eq_getElem hi, List.getD_eq_getElem?_getD, List.getElem?_eq_getElem hi]
      rfl
    · rw [List.getElem?_map, List.getElem?_eq_getElem (by omega), List.getD_eq_getElem?_getD, List.getElem?_eq_getElem (by omega)]
      rfl
  · rw [List.getElem?_eq_none (by rw [zipD_len, List.length_map, List.length_map]; omega), List.getElem?_eq_none (by rw [List.length_range]; omega)]
    rfl
def intOf : D → Int
  | .int i => i
  | _ => 0
def rowOf : D → List Int
  | .tup r => r.map intOf
  | _ => []
theorem rowOf_eT (r : List Int) : rowOf (eT r) = r := by
  show (r.map D.int).map intOf = r
  rw [List.map_map]
  exact List.map_id r
theorem filter_rows (f : List Int → Bool) (rs : List (List Int)) : ((rs.map eT).filter fun d => f (rowOf d)).map id = (rs.filter f).map eT := by
  rw [List.map_id, List.filter_map]
  congr 1
  refine List.filter_congr fun r _ => ?_
  show f (rowOf (eT r)) = f r
  rw [rowOf_eT]
theorem worlds_in_s {many : Nat} {rs bx : List (List Int)} {as bs : List (List Int × List Int)} (hp : PlanOk many rs as bs) (hw : ∀ r ∈ rs, r.length = many) (hb : bx.length = many) : Pf m_worlds_in [caseD many rs as bs, eTT bx] (eTT (rs.filter (inBox bx))) := .mk fun P p => by
  show wp (m_worlds_in [.d (caseD many rs as bs), .d (eTT bx)]) P []
  unfold m_worlds_in
  rw [wp_mFn2, wp_mRet, wp_mCall, wp_mCons, wp_mLc, wp_mItems, wp_m1op, wp_mV0]
  simp only [List.replicate, Nat.reduceSub, List.getElem?_cons_succ, List.getElem?_cons_zero, Option.join_some, wp_some, f_worlds]
  refine ⟨rs.map eT, rfl, wp_lc (fun d => inBox bx (rowOf d)) id (fun d hd => ⟨_, rfl, fun PB q => ?_, fun _ P q => ?_⟩) ?_⟩
  · obtain ⟨r, hr, rfl⟩ := List.mem_map.mp hd
    have hl := hw r hr
    rw [rowOf_eT] at q
    rw [wp_mT, wp_mCall, wp_mCons, wp_mLc, wp_mZip, wp_mCons, wp_mV0]
    simp only [wipeE, wp_mV0, List.set_cons_succ, List.set_cons_zero, List.getElem?_cons_succ, List.getElem?_cons_zero, Option.join_some, wp_some, wp_mCons, wp_mNil]
    refine ⟨_, rfl, ?_⟩
    rw [zip_range r bx (by omega)]
    refine wp_lc (fun _ => true) (fun d => match d with | .tup [.int i, b] => .bl (decide (i ∈ rowOf b)) | _ => .non) (fun d hd => ?_) ?_
    · obtain ⟨k, hk, rfl⟩ := List.mem_map.mp hd
      refine ⟨_, rfl, fun PB q => q, fun _ P q => ?_⟩
      have q : P (.d (.bl (decide (r.getD k 0 ∈ rowOf (eT (bx.getD k [])))))) [] := q
      rw [rowOf_eT] at q
      rw [wp_m2op]
      simp only [wipeE, wp_mV0, List.set_cons_succ, List.set_cons_zero, List.getElem?_cons_succ, List.getElem?_cons_zero, Option.join_some, wp_some]
      rw [w_in (l := (bx.getD k []).map .int) rfl (okN_int _) (okN_eT _), inD_tells tells_int]
      exact q
    · rw [filter_true, List.map_map]
      have e : (List.range r.length).map ((fun d => match d with | .tup [.int i, b] => D.bl (decide (i ∈ rowOf b)) | _ => .non) ∘ fun k => D.tup [.int (r.getD k 0), eT (bx.getD k [])]) = (List.range r.length).map fun k => D.bl (decide (r.getD k 0 ∈ bx.getD k [])) := by
        refine List.map_congr_left fun k _ => ?_
        show D.bl (decide (r.getD k 0 ∈ rowOf (eT (bx.getD k [])))) = _
        rw [rowOf_eT]
      rw [e, e_all, wp_pu, wp_asB]
      exact q
  · rw [wp_mV0]
    simp only [wipeE, List.set_cons_succ, List.set_cons_zero, List.getElem?_cons_succ, List.getElem?_cons_zero, Option.join_some, wp_some]
    exact q
  · rw [filter_rows, wp_mNil, e_tuple, wp_pu]
    exact p
end Lw

set_option Elab.async false
set_option linter.all false
set_option maxRecDepth 100000
set_option maxHeartbeats 1000000
namespace Lw
open PySem hiding Env
open L2 DD
theorem cols_len (many : Nat) (ws : List (List Int)) : (cols many ws).length = many := by
  unfold cols
  rw [List.length_map, List.length_range]
theorem cols_at {many k : Nat} (hk : k < many) (ws : List (List Int)) : (cols many ws).getD k [] = sdI (col k ws) := by
  unfold cols
  rw [List.getD_eq_getElem?_getD, List.getElem?_map, List.getElem?_range hk]
  rfl
theorem mem_col {k : Nat} {ws : List (List Int)} {z : Int} : z ∈ col k ws ↔ ∃ r ∈ ws, r.getD k 0 = z := by
  unfold col
  rw [List.mem_map]
theorem in_cols {many : Nat} {some : List (List Int)} {r : List Int} (hl : r.length = many) : inBox (cols many some) r = true ↔ ∀ k, k < many → ∃ s ∈ some, s.getD k 0 = r.getD k 0 := by
  unfold inBox
  rw [List.all_eq_true]
  constructor
  · intro h k hk
    have := of_decide_eq_true (h k (List.mem_range.mpr (by omega)))
    rw [cols_at hk, mem_sdI, mem_col] at this
    exact this
  · intro h k hk
    have hk := List.mem_range.mp hk
    refine decide_eq_true ?_
    rw [cols_at (by omega), mem_sdI, mem_col]
    exact h k (by omega)
/-- the box of some worlds holds these worlds -/
theorem some_in {many : Nat} {rs some : List (List Int)} (hw : ∀ r ∈ rs, r.length = many) (hs : ∀ r ∈ some, r ∈ rs) : ∀ r ∈ some, r ∈ rs.filter (inBox (cols many some)) := fun r hr =>
  List.mem_filter.mpr ⟨hs r hr, (in_cols (hw r (hs r hr))).mpr fun _ _ => ⟨r, hr, rfl⟩⟩
/-- and it is the box of the worlds it holds -/
theorem cols_tight {many : Nat} {rs some : List (List Int)} (hw : ∀ r ∈ rs, r.length = many) (hs : ∀ r ∈ some, r ∈ rs) : cols many (rs.filter (inBox (cols many some))) = cols many some := by
  unfold cols
  refine List.map_congr_left fun k hk => ?_
  have hk := List.mem_range.mp hk
  refine asc_eq (sdI_asc _) (sdI_asc _) fun z => ?_
  rw [mem_sdI, mem_sdI, mem_col, mem_col]
  constructor
  · rintro ⟨r, hr, e⟩
    have hr := List.mem_filter.mp hr
    obtain ⟨s, hs1, e1⟩ := (in_cols (some := some) (hw r hr.1)).mp hr.2 k hk
    exact ⟨s, hs1, e1.trans e⟩
  · rintro ⟨r, hr, e⟩
    exact ⟨r, some_in hw hs r hr, e⟩
end Lw

set_option Elab.async false
set_option linter.all false
set_option maxRecDepth 100000
set_option maxHeartbeats 1000000
namespace Lw
open PySem hiding Env
open L2 DD
open PyProof PyProof.Rows
/-- each sign is one of Unicode -/
def Sml (s : Str) : Prop := ∀ c ∈ s.cps.toList, c < 0x110000
theorem sml_of (s : String) : Sml (Str.ofString s) := fun c hc => by
  rw [signs_ofString] at hc
  obtain ⟨ch, _, rfl⟩ := List.mem_map.mp hc
  have h := ch.valid
  simp only [UInt32.isValidChar, Nat.isValidChar] at h
  show ch.val.toNat < _
  omega
theorem sml_app {a b : Str} (ha : Sml a) (hb : Sml b) : Sml (a ++ b) := fun c hc => by
  rcases mem_cps_append.mp hc with h | h
  · exact ha c h
  · exact hb c h
theorem sml_join {ts : List Str} (h : ∀ t ∈ ts, Sml t) : Sml (Str.join ", " ts) := fun c hc => by
  rcases (mem_join _ c ts).mp hc with ⟨t, ht, h1⟩ | ⟨_, h1⟩
  · exact h t ht c h1
  · exact sml_of ", " c h1
theorem sml_all : ∀ {l : List D}, (∀ d ∈ l, Sml (py d).shown) → ∀ t ∈ PyData.shownAll (pyL l), Sml t
  | [], _, t, ht => by
    have ht : t ∈ PyData.shownAll [] := ht
    rw [PyData.shownAll_nil] at ht; exact absurd ht List.not_mem_nil
  | d :: l, h, t, ht => by
    have ht : t ∈ PyData.shownAll (py d :: pyL l) := ht
    rw [PyData.shownAll_cons, List.mem_cons] at ht
    rcases ht with e | ht
    · rw [e]; exact h d List.mem_cons_self
    · exact sml_all (fun y hy => h y (List.mem_cons_of_mem _ hy)) t ht
theorem sml_int (i : Int) : Sml (py (.int i)).shown := by
  show Sml (PyData.int i).shown
  rw [PyData.shown_int]
  exact sml_of _
theorem sml_tup {l : List D} (h : ∀ d ∈ l, Sml (py d).shown) : Sml (py (.tup l)).shown := by
  show Sml (PyData.tuple (pyL l)).shown
  rw [PyData.shown_tuple]
  exact sml_app (sml_app (sml_of _) (sml_join (sml_all h))) (by split <;> exact sml_of _)
theorem sml_lst {l : List D} (h : ∀ d ∈ l, Sml (py d).shown) : Sml (py (.lst l)).shown := by
  show Sml (PyData.list (pyL l)).shown
  rw [PyData.shown_list]
  exact sml_app (sml_app (sml_of _) (sml_join (sml_all h))) (sml_of _)
theorem sml_map {α : Type} {f : α → D} {l : List α} (h : ∀ x, Sml (py (f x)).shown) : ∀ d ∈ l.map f, Sml (py d).shown := fun d hd => by
  obtain ⟨x, _, rfl⟩ := List.mem_map.mp hd
  exact h x
theorem sml_eT (l : List Int) : Sml (py (eT l)).shown := sml_tup (sml_map sml_int)
theorem sml_eTT (l : List (List Int)) : Sml (py (eTT l)).shown := sml_tup (sml_map sml_eT)
theorem okN_str {s : Str} (h : Sml s) : OkN 0 (.str s) := ⟨rfl, by
  show PyData.strOk s = true
  unfold PyData.strOk
  rw [Array.all_eq_true']
  intro c hc
  exact decide_eq_true (h c (Array.mem_toList_iff.mpr hc)), Nat.le_refl _⟩
end Lw

set_option Elab.async false
set_option linter.all false
set_option maxRecDepth 100000
set_option maxHeartbeats 1000000
namespace Lw
open PySem hiding Env
open L2 DD
section
variable {P : W → List O → Prop} {PB : Bool → List O → Prop} {h : List O} {ρ : Env}
theorem ne_str {s : Str} (hs : Sml s) : wp (opEq true (.d (.str s)) (.d (.str s))) P h = P (.d (.bl false)) h := by
  rw [w_ne (okN_str hs) (okN_str hs), eqD_refl (okN_str hs)]
  rfl
theorem eq_str {s : Str} (hs : Sml s) : wp (opEq false (.d (.str s)) (.d (.str s))) P h = P (.d (.bl true)) h := by
  rw [w_eq (okN_str hs) (okN_str hs), eqD_refl (okN_str hs)]
theorem rep2 {x y : D} (hx : ShN 3 140000 x) (hy : ShN 3 140000 y) : shD (.lst [x, y]) = true :=
  (shN_lst (k := 3) (w := 140000) (n := 2) (l := [x, y]) (fun d hd => by
    rcases List.mem_cons.mp hd with rfl | hd
    · exact hx
    · rw [List.mem_singleton.mp hd]; exact hy) (Nat.le_refl _)).ok
theorem lst2 {x y : D} : wp (mkLst [.d x, .d y]) P h = P (.d (.lst [x, y])) h := rfl
theorem sml_pair {x y : D} (hx : Sml (py x).shown) (hy : Sml (py y).shown) : Sml (py (.lst [x, y])).shown := sml_lst fun d hd => by
  rcases List.mem_cons.mp hd with rfl | hd
  · exact hx
  · rw [List.mem_singleton.mp hd]; exact hy
/-- repr([m1, m2]) != repr([n1, n2]), all four alike -/
theorem same4 {m1 m2 n1 n2 : Env → M W} {x : D} (hx : ShN 3 140000 x) (hm : Sml (py x).shown) (h1 : ∀ P : W → List O → Prop, P (.d x) h → wp (m1 ρ) P h) (h2 : ∀ P : W → List O → Prop, P (.d x) h → wp (m2 ρ) P h) (h3 : ∀ P : W → List O → Prop, P (.d x) h → wp (n1 ρ) P h) (h4 : ∀ P : W → List O → Prop, P (.d x) h → wp (n2 ρ) P h) (p : PB false h) :
    wp (mT (m2op (opEq true) (mCall bRepr (mCons (mLst (mCons m1 (mCons m2 mNil))) mNil)) (mCall bRepr (mCons (mLst (mCons n1 (mCons n2 mNil))) mNil))) ρ) PB h := by
  rw [wp_mT, wp_m2op, wp_mCall, wp_mCons, wp_mLst, wp_mCons]
  refine h1 _ ?_
  rw [wp_mCons]
  refine h2 _ ?_
  rw [wp_mNil, lst2, wp_mNil, w_repr rfl (rep2 hx hx), wp_mCall, wp_mCons, wp_mLst, wp_mCons]
  refine h3 _ ?_
  rw [wp_mCons]
  refine h4 _ ?_
  rw [wp_mNil, lst2, wp_mNil, w_repr rfl (rep2 hx hx), ne_str (sml_pair hm hm), wp_asB]
  exact p
end
theorem shN_row {r : List Int} (hl : r.length ≤ 6) (hb : ∀ v ∈ r, -100000000 ≤ v ∧ v ≤ 100000000) : ShN 1 612 (eT r) :=
  shN_tup (k := 0) (w := 101) (n := 6) (shN_map fun v hv => shN_int (by have := hb v hv; omega)) (by rw [List.length_map]; exact hl)
theorem shN_rows {ws : List (List Int)} (hn : ws.length ≤ 100) (hl : ∀ r ∈ ws, r.length ≤ 6) (hb : ∀ r ∈ ws, ∀ v ∈ r, -100000000 ≤ v ∧ v ≤ 100000000) : ShN 3 140000 (eTT ws) :=
  (shN_tup (k := 1) (w := 612) (n := 100) (shN_map fun r hr => shN_row (hl r hr) (hb r hr)) (by rw [List.length_map]; exact hn)).mono (by decide) (by decide)
theorem shN_sub {many : Nat} {rs ws : List (List Int)} (hR : Rows many rs) (h4 : many ≤ 4) (hs : ∀ r ∈ ws, r ∈ rs) (hn : ws.length ≤ 100) : ShN 3 140000 (eTT ws) :=
  shN_rows hn (fun r hr => by have := hR.len r (hs r hr); omega) fun r hr => hR.bnd r (hs r hr)
theorem shN_cols {many : Nat} {rs ws : List (List Int)} (hR : Rows many rs) (h4 : many ≤ 4) (hs : ∀ r ∈ ws, r ∈ rs) (hw : Like many ws) : ShN 3 140000 (eTT (cols many ws)) := by
  refine shN_rows (by rw [cols_len]; omega) (fun g hg => ?_) (fun g hg v hv => ?_)
  · unfold cols at hg
    obtain ⟨k, hk, rfl⟩ := List.mem_map.mp hg
    exact hw.colF k (List.mem_range.mp hk)
  · unfold cols at hg
    obtain ⟨k, hk, rfl⟩ := List.mem_map.mp hg
    have hk := List.mem_range.mp hk
    obtain ⟨r, hr, e⟩ := mem_col.mp ((mem_sdI _ _).mp hv)
    have hl := hw.len r hr
    rw [List.getD_eq_getElem?_getD, List.getElem?_eq_getElem (by omega)] at e
    rw [← e]
    exact hR.bnd r (hs r hr) _ (List.getElem_mem _)
end Lw

set_option Elab.async false
set_option linter.all false
set_option maxRecDepth 100000
set_option maxHeartbeats 1000000
namespace Lw
open PySem hiding Env
open L2 DD
theorem deck_s {ns : List Int} (hl : ns.length ≤ 63) {P : W → List O → Prop} (k : ∀ dk', Dk 0 dk' → P (.ref 1) dk') : wp (m__law_deck [.d (.frz (ns.map .int))]) P [] := by
  unfold m__law_deck
  rw [wp_mFn1]
  simp only [List.replicate, Nat.reduceSub]
  refine seqK fun K nx rt _ _ => ?_
  rw [wp_mPar, wp_mCons, wp_mCall, wp_mCons, wp_mSl, wp_mV0]
  simp only [List.getElem?_cons_succ, List.getElem?_cons_zero, Option.join_some, wp_some]
  refine (show wp (pu none) _ _ from ?_)
  rw [wp_pu, wp_mSome (i := 0), wp_mC]
  refine ⟨63, rfl, .d (.lst (ns.map .int)), ?_, ?_⟩
  · show some (W.d (.lst (cutD (ns.map .int) none (some ((63 : Nat) : Int))))) = _
    rw [cut_to, List.take_of_length_le (by rw [List.length_map]; exact hl)]
  rw [wp_mNil, show bList [.d (.lst (ns.map .int))] = pu (.d (.lst (ns.map .int))) from rfl, wp_pu, wp_mCons, wp_mC, wp_mNil]
  refine ⟨_, _, rfl, ?_⟩
  refine nx _ _ (seqK fun K nx rt _ _ => ?_)
  simp only [List.set_cons_succ, List.set_cons_zero]
  rw [wp_mFor, wp_mItems, wp_mV0]
  simp only [List.getElem?_cons_succ, List.getElem?_cons_zero, Option.join_some, wp_some]
  refine ⟨ns.map .int, rfl, ?_⟩
  refine wp_loop (I := fun i ρ h => ∃ (b : Int) (b3 : Option W), ρ = [some (.d (.frz (ns.map .int))), some (.d (.lst (ns.map .int))), some (.d (.int b)), b3] ∧ 0 ≤ b ∧ b < 2147483587 ∧ h = []) ⟨136901, _, rfl, by decide, by decide, rfl⟩ ?_ ?_
  · rintro i d ρ h hi ⟨b, b3, rfl, h0, h1, rfl⟩
    obtain ⟨v, hv, rfl⟩ := mapI_at hi
    refine ⟨_, rfl, ?_⟩
    simp only [wp_mSet, wp_m2op, wp_mCall, wp_mCons, wp_mNil, wp_mC, wp_mV0, List.set_cons_succ, List.set_cons_zero, List.getElem?_cons_succ, List.getElem?_cons_zero, Option.join_some, wp_some, e_int, wp_pu]
    rw [w_mul (.inr (by omega))]
    simp only [e_int, wp_pu, e_mod (show (0 : Int) < 2147483629 by decide), e_add, e_mod (show (0 : Int) < 2147483587 by decide)]
    exact ⟨_, _, rfl, Int.emod_nonneg _ (by decide), Int.emod_lt_of_pos _ (by decide), trivial⟩
  · rintro ρ h ⟨b, b3, rfl, h0, h1, rfl⟩
    refine nx _ _ ?_
    rw [wp_mRet, wp_mDisp, wp_mPairs, wp_mC]
    refine ⟨.inr "cells", rfl, ?_⟩
    refine (show wp (bd (mV 1 _) revR) _ _ from ?_)
    rw [wp_bd, wp_mV0]
    simp only [List.getElem?_cons_succ, List.getElem?_cons_zero, Option.join_some, wp_some]
    rw [show revR (.d (.lst (ns.map .int))) = alc (.lst ((ns.map D.int).reverse.map .d)) from rfl, wp_alc, wp_mPairs, wp_mC]
    refine ⟨.inr "blend", rfl, ?_⟩
    rw [wp_mV0]
    simp only [List.getElem?_cons_succ, List.getElem?_cons_zero, Option.join_some, wp_some]
    rw [wp_mPairs, wp_mC]
    refine ⟨.inr "draws", rfl, ?_⟩
    rw [wp_mC, wp_mPairs_nil, if_pos (by simp)]
    refine k _ ⟨ns.reverse, b, ?_, h0, by omega, by rw [List.length_reverse]; exact hl⟩
    simp only [dk, mergeG, putG, List.foldl, List.map_reverse, List.map_map]
    rfl
end Lw

set_option Elab.async false
set_option linter.all false
set_option maxRecDepth 100000
set_option maxHeartbeats 1000000
namespace Lw
open PySem hiding Env
open L2 DD
theorem Pf.eq {m : List W → M W} {l : List D} {r : D} (H : Pf m l r) : lendC 0 m (l.map .d) = pu (.d r) := by
  funext h
  have := H (fun w h' => w = .d r ∧ h' = h) h ⟨rfl, rfl⟩
  unfold wp at this
  cases e : lendC 0 m (l.map .d) h with
  | ok a h' => rw [e] at this; obtain ⟨rfl, rfl⟩ := this; rfl
  | ex x h' => rw [e] at this; exact this.elim
  | st => rw [e] at this; exact this.elim
theorem Pf.eq1 {m : List W → M W} {a r : D} (H : Pf m [a] r) : lendC 0 m [.d a] = pu (.d r) := H.eq
theorem Pf.eq2 {m : List W → M W} {a b r : D} (H : Pf m [a, b] r) : lendC 0 m [.d a, .d b] = pu (.d r) := H.eq
theorem Pf.eq3 {m : List W → M W} {a b c r : D} (H : Pf m [a, b, c] r) : lendC 0 m [.d a, .d b, .d c] = pu (.d r) := H.eq
theorem Pf.eq4 {m : List W → M W} {a b c e r : D} (H : Pf m [a, b, c, e] r) : lendC 0 m [.d a, .d b, .d c, .d e] = pu (.d r) := H.eq
theorem v_itemsX {x : D} {l : List D} {PD : List D → List O → Prop} {h : List O} (hx : items x = some l) : itemsF PD (.d x) h = PD l h := propext ⟨fun ⟨_, e, p⟩ => by rw [show itemsW (.d x) = items x from rfl, hx] at e; cases e; exact p, fun p => ⟨_, hx, p⟩⟩
theorem tightX_s {many : Nat} {rs ws : List (List Int)} {as bs : List (List Int × List Int)} {x : D} (hp : PlanOk many rs as bs) (hw : Like many ws) (hx : items x = some (ws.map eT)) : Pf m_tight [caseD many rs as bs, x] (eTT (cols many ws)) := .mk fun P p => by
  show wp (m_tight [.d (caseD many rs as bs), .d x]) P []
  unfold m_tight
  simp only [wp_mFn1, wp_mFn2, wp_mFn3, wp_mFn4, wp_mFn5, v_seq, v_seq_nx, v_seq_rt, v_seq_bk, v_seq_ct, v_ifS, v_ifE, v_ift, v_iff, v_set, v_setF, v_ret, v_retF, v_retN, v_expr, v_exprF, v_next, v_brk, v_cont, v_fnp_rt, v_fnp_nx, v_par, v_parF, v_par3, v_par3F, v_asg, v_asgF2, v_for, v_forF, v_op2, v_op2F, v_op2G, v_op1, v_op1F, v_call, v_callF, v_lend, v_callK, v_kcF, v_cons, v_consF, v_consG, v_nil, v_var, v_cst, v_tst, v_asBF, v_not, v_notF, v_and, v_andt, v_andf, v_or, v_ort, v_orf, v_andV, v_andVt, v_andVf, v_orV, v_orVt, v_orVf, v_notV, v_notVF, v_chain, v_ch1, v_ch2, v_ch3t, v_ch3f, v_yes, v_loop_nx, v_loop_ct, v_loop_bk, v_loop_rt, v_lcTt, v_lcTf, v_lcE, v_tup, v_lst, e_tup0, e_tup1, e_tup2, e_tup3, e_tup4, e_lst0, e_lst1, e_lst2, e_lst3, e_lst4, v_items, v_itemsT, v_itemsL, v_itemsZ, v_rng, v_zip, v_lc, v_lcF, v_lstF, q_add, q_sub, q_ge, q_gt, q_lt, q_le, q_int, q_lenT, q_lenL, q_tupL, q_tupT, q_lstL, q_lstT, q_eqI, q_neI, q_inT, q_ninT, wp_pu, wp_some, List.replicate, Nat.reduceSub, List.getElem?_cons_succ, List.getElem?_cons_zero, List.set_cons_succ, List.set_cons_zero, Option.join_some, wipeE, Bool.not_true, Bool.not_false, f_hands, e_lenH hp.m4, v_rngF (Nat.le_trans hp.m4 (by decide : 4 ≤ 100000)), rangeD_map]
  refine lc_map1 (fun i : Nat => D.int i) (fun k => eT (sdI (col k ws))) (fun k hk => ⟨_, rfl, fun P q => ?_⟩) ?_
  · have hk := List.mem_range.mp hk
    simp only [wp_mFn1, wp_mFn2, wp_mFn3, wp_mFn4, wp_mFn5, v_seq, v_seq_nx, v_seq_rt, v_seq_bk, v_seq_ct, v_ifS, v_ifE, v_ift, v_iff, v_set, v_setF, v_ret, v_retF, v_retN, v_expr, v_exprF, v_next, v_brk, v_cont, v_fnp_rt, v_fnp_nx, v_par, v_parF, v_par3, v_par3F, v_asg, v_asgF2, v_for, v_forF, v_op2, v_op2F, v_op2G, v_op1, v_op1F, v_call, v_callF, v_lend, v_callK, v_kcF, v_cons, v_consF, v_consG, v_nil, v_var, v_cst, v_tst, v_asBF, v_not, v_notF, v_and, v_andt, v_andf, v_or, v_ort, v_orf, v_andV, v_andVt, v_andVf, v_orV, v_orVt, v_orVf, v_notV, v_notVF, v_chain, v_ch1, v_ch2, v_ch3t, v_ch3f, v_yes, v_loop_nx, v_loop_ct, v_loop_bk, v_loop_rt, v_lcTt, v_lcTf, v_lcE, v_tup, v_lst, e_tup0, e_tup1, e_tup2, e_tup3, e_tup4, e_lst0, e_lst1, e_lst2, e_lst3, e_lst4, v_items, v_itemsT, v_itemsL, v_itemsZ, v_rng, v_zip, v_lc, v_lcF, v_lstF, q_add, q_sub, q_ge, q_gt, q_lt, q_le, q_int, q_lenT, q_lenL, q_tupL, q_tupT, q_lstL, q_lstT, q_eqI, q_neI, q_inT, q_ninT, wp_pu, wp_some, List.replicate, Nat.reduceSub, List.getElem?_cons_succ, List.getElem?_cons_zero, List.set_cons_succ, List.set_cons_zero, Option.join_some, wipeE, Bool.not_true, Bool.not_false, wp_mSortSc, v_itemsX hx]
    rw [if_pos (by rw [List.length_map]; have := hw.few; omega)]
    refine lc_map1 eT (fun r => .int (r.getD k 0)) (fun r hr => ⟨_, rfl, fun P q => ?_⟩) ?_
    · have hl := hw.len r hr
      unfold mInt
      rw [wp_bd]
      simp only [wp_mFn1, wp_mFn2, wp_mFn3, wp_mFn4, wp_mFn5, v_seq, v_seq_nx, v_seq_rt, v_seq_bk, v_seq_ct, v_ifS, v_ifE, v_ift, v_iff, v_set, v_setF, v_ret, v_retF, v_retN, v_expr, v_exprF, v_next, v_brk, v_cont, v_fnp_rt, v_fnp_nx, v_par, v_parF, v_par3, v_par3F, v_asg, v_asgF2, v_for, v_forF, v_op2, v_op2F, v_op2G, v_op1, v_op1F, v_call, v_callF, v_lend, v_callK, v_kcF, v_cons, v_consF, v_consG, v_nil, v_var, v_cst, v_tst, v_asBF, v_not, v_notF, v_and, v_andt, v_andf, v_or, v_ort, v_orf, v_andV, v_andVt, v_andVf, v_orV, v_orVt, v_orVf, v_notV, v_notVF, v_chain, v_ch1, v_ch2, v_ch3t, v_ch3f, v_yes, v_loop_nx, v_loop_ct, v_loop_bk, v_loop_rt, v_lcTt, v_lcTf, v_lcE, v_tup, v_lst, e_tup0, e_tup1, e_tup2, e_tup3, e_tup4, e_lst0, e_lst1, e_lst2, e_lst3, e_lst4, v_items, v_itemsT, v_itemsL, v_itemsZ, v_rng, v_zip, v_lc, v_lcF, v_lstF, q_add, q_sub, q_ge, q_gt, q_lt, q_le, q_int, q_lenT, q_lenL, q_tupL, q_tupT, q_lstL, q_lstT, q_eqI, q_neI, q_inT, q_ninT, wp_pu, wp_some, List.replicate, Nat.reduceSub, List.getElem?_cons_succ, List.getElem?_cons_zero, List.set_cons_succ, List.set_cons_zero, Option.join_some, wipeE, Bool.not_true, Bool.not_false, q_ixT (show k < r.length by omega)]
      exact q
    · refine ⟨eL (sdI (col k ws)), ?_, ?_⟩
      · rw [show ws.map (fun r => D.int (r.getD k 0)) = (col k ws).map .int by unfold col; rw [List.map_map]; rfl]
        exact sdD_ok (by unfold col; rw [List.length_map]; have := hw.few; omega) (by have := hw.colF k hk; omega)
      · simp only [wp_mFn1, wp_mFn2, wp_mFn3, wp_mFn4, wp_mFn5, v_seq, v_seq_nx, v_seq_rt, v_seq_bk, v_seq_ct, v_ifS, v_ifE, v_ift, v_iff, v_set, v_setF, v_ret, v_retF, v_retN, v_expr, v_exprF, v_next, v_brk, v_cont, v_fnp_rt, v_fnp_nx, v_par, v_parF, v_par3, v_par3F, v_asg, v_asgF2, v_for, v_forF, v_op2, v_op2F, v_op2G, v_op1, v_op1F, v_call, v_callF, v_lend, v_callK, v_kcF, v_cons, v_consF, v_consG, v_nil, v_var, v_cst, v_tst, v_asBF, v_not, v_notF, v_and, v_andt, v_andf, v_or, v_ort, v_orf, v_andV, v_andVt, v_andVf, v_orV, v_orVt, v_orVf, v_notV, v_notVF, v_chain, v_ch1, v_ch2, v_ch3t, v_ch3f, v_yes, v_loop_nx, v_loop_ct, v_loop_bk, v_loop_rt, v_lcTt, v_lcTf, v_lcE, v_tup, v_lst, e_tup0, e_tup1, e_tup2, e_tup3, e_tup4, e_lst0, e_lst1, e_lst2, e_lst3, e_lst4, v_items, v_itemsT, v_itemsL, v_itemsZ, v_rng, v_zip, v_lc, v_lcF, v_lstF, q_add, q_sub, q_ge, q_gt, q_lt, q_le, q_int, q_lenT, q_lenL, q_tupL, q_tupT, q_lstL, q_lstT, q_eqI, q_neI, q_inT, q_ninT, wp_pu, wp_some, List.replicate, Nat.reduceSub, List.getElem?_cons_succ, List.getElem?_cons_zero, List.set_cons_succ, List.set_cons_zero, Option.join_some, wipeE, Bool.not_true, Bool.not_false]
        exact q
  · simp only [wp_mFn1, wp_mFn2, wp_mFn3, wp_mFn4, wp_mFn5, v_seq, v_seq_nx, v_seq_rt, v_seq_bk, v_seq_ct, v_ifS, v_ifE, v_ift, v_iff, v_set, v_setF, v_ret, v_retF, v_retN, v_expr, v_exprF, v_next, v_brk, v_cont, v_fnp_rt, v_fnp_nx, v_par, v_parF, v_par3, v_par3F, v_asg, v_asgF2, v_for, v_forF, v_op2, v_op2F, v_op2G, v_op1, v_op1F, v_call, v_callF, v_lend, v_callK, v_kcF, v_cons, v_consF, v_consG, v_nil, v_var, v_cst, v_tst, v_asBF, v_not, v_notF, v_and, v_andt, v_andf, v_or, v_ort, v_orf, v_andV, v_andVt, v_andVf, v_orV, v_orVt, v_orVf, v_notV, v_notVF, v_chain, v_ch1, v_ch2, v_ch3t, v_ch3f, v_yes, v_loop_nx, v_loop_ct, v_loop_bk, v_loop_rt, v_lcTt, v_lcTf, v_lcE, v_tup, v_lst, e_tup0, e_tup1, e_tup2, e_tup3, e_tup4, e_lst0, e_lst1, e_lst2, e_lst3, e_lst4, v_items, v_itemsT, v_itemsL, v_itemsZ, v_rng, v_zip, v_lc, v_lcF, v_lstF, q_add, q_sub, q_ge, q_gt, q_lt, q_le, q_int, q_lenT, q_lenL, q_tupL, q_tupT, q_lstL, q_lstT, q_eqI, q_neI, q_inT, q_ninT, wp_pu, wp_some, List.replicate, Nat.reduceSub, List.getElem?_cons_succ, List.getElem?_cons_zero, List.set_cons_succ, List.set_cons_zero, Option.join_some, wipeE, Bool.not_true, Bool.not_false]
    rw [cols_map]
    exact p
theorem cols_mem {many : Nat} {ws : List (List Int)} (hw : Like many ws) (hne : ws ≠ []) {g : List Int} (hg : g ∈ cols many ws) : g.length ≤ 6 ∧ g ≠ [] := by
  unfold cols at hg
  obtain ⟨k, hk, rfl⟩ := List.mem_map.mp hg
  have hk := List.mem_range.mp hk
  refine ⟨hw.colF k hk, ?_⟩
  obtain ⟨r, hr⟩ := List.exists_mem_of_ne_nil ws hne
  exact List.ne_nil_of_mem ((mem_sdI _ _).mpr (mem_col.mpr ⟨r, hr, rfl⟩))
/-- the worlds of a box whose input k is in part -/
def sel (rs bx : List (List Int)) (k : Nat) (part : List Int) : List (List Int) := (rs.filter (inBox bx)).filter fun r => decide (r.getD k 0 ∈ part)
section
variable {many : Nat} {rs bx : List (List Int)} {as bs : List (List Int × List Int)} {k : Nat} {part : List Int}
theorem sel_sub : ∀ r ∈ sel rs bx k part, r ∈ rs := fun r hr => (List.mem_filter.mp (List.mem_filter.mp hr).1).1
theorem sel_len : (sel rs bx k part).length ≤ rs.length := Nat.le_trans (List.length_filter_le _ _) (List.length_filter_le _ _)
theorem sel_like (hp : PlanOk many rs as bs) : Like many (sel rs bx k part) := hp.rows.like sel_sub (Nat.lt_of_le_of_lt sel_len (by have := hp.few; omega))
theorem told_s (hp : PlanOk many rs as bs) (hb : bx.length = many) (hk : k < many) : Pf m_told [caseD many rs as bs, eTT bx, .int k, eT part] (eTT (cols many (sel rs bx k part))) := .mk fun P p => by
  show wp (m_told [.d (caseD many rs as bs), .d (eTT bx), .d (.int k), .d (eT part)]) P []
  unfold m_told
  simp only [wp_mFn1, wp_mFn2, wp_mFn3, wp_mFn4, wp_mFn5, v_seq, v_seq_nx, v_seq_rt, v_seq_bk, v_seq_ct, v_ifS, v_ifE, v_ift, v_iff, v_set, v_setF, v_ret, v_retF, v_retN, v_expr, v_exprF, v_next, v_brk, v_cont, v_fnp_rt, v_fnp_nx, v_par, v_parF, v_par3, v_par3F, v_asg, v_asgF2, v_for, v_forF, v_op2, v_op2F, v_op2G, v_op1, v_op1F, v_call, v_callF, v_lend, v_callK, v_kcF, v_cons, v_consF, v_consG, v_nil, v_var, v_cst, v_tst, v_asBF, v_not, v_notF, v_and, v_andt, v_andf, v_or, v_ort, v_orf, v_andV, v_andVt, v_andVf, v_orV, v_orVt, v_orVf, v_notV, v_notVF, v_chain, v_ch1, v_ch2, v_ch3t, v_ch3f, v_yes, v_loop_nx, v_loop_ct, v_loop_bk, v_loop_rt, v_lcTt, v_lcTf, v_lcE, v_tup, v_lst, e_tup0, e_tup1, e_tup2, e_tup3, e_tup4, e_lst0, e_lst1, e_lst2, e_lst3, e_lst4, v_items, v_itemsT, v_itemsL, v_itemsZ, v_rng, v_zip, v_lc, v_lcF, v_lstF, q_add, q_sub, q_ge, q_gt, q_lt, q_le, q_int, q_lenT, q_lenL, q_tupL, q_tupT, q_lstL, q_lstT, q_eqI, q_neI, q_inT, q_ninT, wp_pu, wp_some, List.replicate, Nat.reduceSub, List.getElem?_cons_succ, List.getElem?_cons_zero, List.set_cons_succ, List.set_cons_zero, Option.join_some, wipeE, Bool.not_true, Bool.not_false, (worlds_in_s hp hp.rows.len hb).eq2]
  refine lc_map eT (fun r => decide (r.getD k 0 ∈ part)) eT (fun r hr => ⟨_, rfl, fun PB q => ?_, fun _ P q => ?_⟩) ?_
  · have hl := hp.rows.len r (List.mem_filter.mp hr).1
    simp only [wp_mFn1, wp_mFn2, wp_mFn3, wp_mFn4, wp_mFn5, v_seq, v_seq_nx, v_seq_rt, v_seq_bk, v_seq_ct, v_ifS, v_ifE, v_ift, v_iff, v_set, v_setF, v_ret, v_retF, v_retN, v_expr, v_exprF, v_next, v_brk, v_cont, v_fnp_rt, v_fnp_nx, v_par, v_parF, v_par3, v_par3F, v_asg, v_asgF2, v_for, v_forF, v_op2, v_op2F, v_op2G, v_op1, v_op1F, v_call, v_callF, v_lend, v_callK, v_kcF, v_cons, v_consF, v_consG, v_nil, v_var, v_cst, v_tst, v_asBF, v_not, v_notF, v_and, v_andt, v_andf, v_or, v_ort, v_orf, v_andV, v_andVt, v_andVf, v_orV, v_orVt, v_orVf, v_notV, v_notVF, v_chain, v_ch1, v_ch2, v_ch3t, v_ch3f, v_yes, v_loop_nx, v_loop_ct, v_loop_bk, v_loop_rt, v_lcTt, v_lcTf, v_lcE, v_tup, v_lst, e_tup0, e_tup1, e_tup2, e_tup3, e_tup4, e_lst0, e_lst1, e_lst2, e_lst3, e_lst4, v_items, v_itemsT, v_itemsL, v_itemsZ, v_rng, v_zip, v_lc, v_lcF, v_lstF, q_add, q_sub, q_ge, q_gt, q_lt, q_le, q_int, q_lenT, q_lenL, q_tupL, q_tupT, q_lstL, q_lstT, q_eqI, q_neI, q_inT, q_ninT, wp_pu, wp_some, List.replicate, Nat.reduceSub, List.getElem?_cons_succ, List.getElem?_cons_zero, List.set_cons_succ, List.set_cons_zero, Option.join_some, wipeE, Bool.not_true, Bool.not_false, q_ixT (show k < r.length by omega)]
    exact q
  · simp only [wp_mFn1, wp_mFn2, wp_mFn3, wp_mFn4, wp_mFn5, v_seq, v_seq_nx, v_seq_rt, v_seq_bk, v_seq_ct, v_ifS, v_ifE, v_ift, v_iff, v_set, v_setF, v_ret, v_retF, v_retN, v_expr, v_exprF, v_next, v_brk, v_cont, v_fnp_rt, v_fnp_nx, v_par, v_parF, v_par3, v_par3F, v_asg, v_asgF2, v_for, v_forF, v_op2, v_op2F, v_op2G, v_op1, v_op1F, v_call, v_callF, v_lend, v_callK, v_kcF, v_cons, v_consF, v_consG, v_nil, v_var, v_cst, v_tst, v_asBF, v_not, v_notF, v_and, v_andt, v_andf, v_or, v_ort, v_orf, v_andV, v_andVt, v_andVf, v_orV, v_orVt, v_orVf, v_notV, v_notVF, v_chain, v_ch1, v_ch2, v_ch3t, v_ch3f, v_yes, v_loop_nx, v_loop_ct, v_loop_bk, v_loop_rt, v_lcTt, v_lcTf, v_lcE, v_tup, v_lst, e_tup0, e_tup1, e_tup2, e_tup3, e_tup4, e_lst0, e_lst1, e_lst2, e_lst3, e_lst4, v_items, v_itemsT, v_itemsL, v_itemsZ, v_rng, v_zip, v_lc, v_lcF, v_lstF, q_add, q_sub, q_ge, q_gt, q_lt, q_le, q_int, q_lenT, q_lenL, q_tupL, q_tupT, q_lstL, q_lstT, q_eqI, q_neI, q_inT, q_ninT, wp_pu, wp_some, List.replicate, Nat.reduceSub, List.getElem?_cons_succ, List.getElem?_cons_zero, List.set_cons_succ, List.set_cons_zero, Option.join_some, wipeE, Bool.not_true, Bool.not_false]
    exact q
  · simp only [wp_mFn1, wp_mFn2, wp_mFn3, wp_mFn4, wp_mFn5, v_seq, v_seq_nx, v_seq_rt, v_seq_bk, v_seq_ct, v_ifS, v_ifE, v_ift, v_iff, v_set, v_setF, v_ret, v_retF, v_retN, v_expr, v_exprF, v_next, v_brk, v_cont, v_fnp_rt, v_fnp_nx, v_par, v_parF, v_par3, v_par3F, v_asg, v_asgF2, v_for, v_forF, v_op2, v_op2F, v_op2G, v_op1, v_op1F, v_call, v_callF, v_lend, v_callK, v_kcF, v_cons, v_consF, v_consG, v_nil, v_var, v_cst, v_tst, v_asBF, v_not, v_notF, v_and, v_andt, v_andf, v_or, v_ort, v_orf, v_andV, v_andVt, v_andVf, v_orV, v_orVt, v_orVf, v_notV, v_notVF, v_chain, v_ch1, v_ch2, v_ch3t, v_ch3f, v_yes, v_loop_nx, v_loop_ct, v_loop_bk, v_loop_rt, v_lcTt, v_lcTf, v_lcE, v_tup, v_lst, e_tup0, e_tup1, e_tup2, e_tup3, e_tup4, e_lst0, e_lst1, e_lst2, e_lst3, e_lst4, v_items, v_itemsT, v_itemsL, v_itemsZ, v_rng, v_zip, v_lc, v_lcF, v_lstF, q_add, q_sub, q_ge, q_gt, q_lt, q_le, q_int, q_lenT, q_lenL, q_tupL, q_tupT, q_lstL, q_lstT, q_eqI, q_neI, q_inT, q_ninT, wp_pu, wp_some, List.replicate, Nat.reduceSub, List.getElem?_cons_succ, List.getElem?_cons_zero, List.set_cons_succ, List.set_cons_zero, Option.join_some, wipeE, Bool.not_true, Bool.not_false]
    exact tightX_s hp (sel_like hp) rfl _ _ p
theorem common_s (a b : List Int) : Pf m__law_common [eT a, eT b] (eT (a.filter fun x => decide (x ∈ b))) := .mk fun P p => by
  show wp (m__law_common [.d (eT a), .d (eT b)]) P []
  unfold m__law_common
  simp only [wp_mFn1, wp_mFn2, wp_mFn3, wp_mFn4, wp_mFn5, v_seq, v_seq_nx, v_seq_rt, v_seq_bk, v_seq_ct, v_ifS, v_ifE, v_ift, v_iff, v_set, v_setF, v_ret, v_retF, v_retN, v_expr, v_exprF, v_next, v_brk, v_cont, v_fnp_rt, v_fnp_nx, v_par, v_parF, v_par3, v_par3F, v_asg, v_asgF2, v_for, v_forF, v_op2, v_op2F, v_op2G, v_op1, v_op1F, v_call, v_callF, v_lend, v_callK, v_kcF, v_cons, v_consF, v_consG, v_nil, v_var, v_cst, v_tst, v_asBF, v_not, v_notF, v_and, v_andt, v_andf, v_or, v_ort, v_orf, v_andV, v_andVt, v_andVf, v_orV, v_orVt, v_orVf, v_notV, v_notVF, v_chain, v_ch1, v_ch2, v_ch3t, v_ch3f, v_yes, v_loop_nx, v_loop_ct, v_loop_bk, v_loop_rt, v_lcTt, v_lcTf, v_lcE, v_tup, v_lst, e_tup0, e_tup1, e_tup2, e_tup3, e_tup4, e_lst0, e_lst1, e_lst2, e_lst3, e_lst4, v_items, v_itemsT, v_itemsL, v_itemsZ, v_rng, v_zip, v_lc, v_lcF, v_lstF, q_add, q_sub, q_ge, q_gt, q_lt, q_le, q_int, q_lenT, q_lenL, q_tupL, q_tupT, q_lstL, q_lstT, q_eqI, q_neI, q_inT, q_ninT, wp_pu, wp_some, List.replicate, Nat.reduceSub, List.getElem?_cons_succ, List.getElem?_cons_zero, List.set_cons_succ, List.set_cons_zero, Option.join_some, wipeE, Bool.not_true, Bool.not_false]
  refine lc_map D.int (fun x => decide (x ∈ b)) D.int (fun r hr => ⟨_, rfl, fun PB q => ?_, fun _ P q => ?_⟩) ?_
  · simp only [wp_mFn1, wp_mFn2, wp_mFn3, wp_mFn4, wp_mFn5, v_seq, v_seq_nx, v_seq_rt, v_seq_bk, v_seq_ct, v_ifS, v_ifE, v_ift, v_iff, v_set, v_setF, v_ret, v_retF, v_retN, v_expr, v_exprF, v_next, v_brk, v_cont, v_fnp_rt, v_fnp_nx, v_par, v_parF, v_par3, v_par3F, v_asg, v_asgF2, v_for, v_forF, v_op2, v_op2F, v_op2G, v_op1, v_op1F, v_call, v_callF, v_lend, v_callK, v_kcF, v_cons, v_consF, v_consG, v_nil, v_var, v_cst, v_tst, v_asBF, v_not, v_notF, v_and, v_andt, v_andf, v_or, v_ort, v_orf, v_andV, v_andVt, v_andVf, v_orV, v_orVt, v_orVf, v_notV, v_notVF, v_chain, v_ch1, v_ch2, v_ch3t, v_ch3f, v_yes, v_loop_nx, v_loop_ct, v_loop_bk, v_loop_rt, v_lcTt, v_lcTf, v_lcE, v_tup, v_lst, e_tup0, e_tup1, e_tup2, e_tup3, e_tup4, e_lst0, e_lst1, e_lst2, e_lst3, e_lst4, v_items, v_itemsT, v_itemsL, v_itemsZ, v_rng, v_zip, v_lc, v_lcF, v_lstF, q_add, q_sub, q_ge, q_gt, q_lt, q_le, q_int, q_lenT, q_lenL, q_tupL, q_tupT, q_lstL, q_lstT, q_eqI, q_neI, q_inT, q_ninT, wp_pu, wp_some, List.replicate, Nat.reduceSub, List.getElem?_cons_succ, List.getElem?_cons_zero, List.set_cons_succ, List.set_cons_zero, Option.join_some, wipeE, Bool.not_true, Bool.not_false]; exact q
  · simp only [wp_mFn1, wp_mFn2, wp_mFn3, wp_mFn4, wp_mFn5, v_seq, v_seq_nx, v_seq_rt, v_seq_bk, v_seq_ct, v_ifS, v_ifE, v_ift, v_iff, v_set, v_setF, v_ret, v_retF, v_retN, v_expr, v_exprF, v_next, v_brk, v_cont, v_fnp_rt, v_fnp_nx, v_par, v_parF, v_par3, v_par3F, v_asg, v_asgF2, v_for, v_forF, v_op2, v_op2F, v_op2G, v_op1, v_op1F, v_call, v_callF, v_lend, v_callK, v_kcF, v_cons, v_consF, v_consG, v_nil, v_var, v_cst, v_tst, v_asBF, v_not, v_notF, v_and, v_andt, v_andf, v_or, v_ort, v_orf, v_andV, v_andVt, v_andVf, v_orV, v_orVt, v_orVf, v_notV, v_notVF, v_chain, v_ch1, v_ch2, v_ch3t, v_ch3f, v_yes, v_loop_nx, v_loop_ct, v_loop_bk, v_loop_rt, v_lcTt, v_lcTf, v_lcE, v_tup, v_lst, e_tup0, e_tup1, e_tup2, e_tup3, e_tup4, e_lst0, e_lst1, e_lst2, e_lst3, e_lst4, v_items, v_itemsT, v_itemsL, v_itemsZ, v_rng, v_zip, v_lc, v_lcF, v_lstF, q_add, q_sub, q_ge, q_gt, q_lt, q_le, q_int, q_lenT, q_lenL, q_tupL, q_tupT, q_lstL, q_lstT, q_eqI, q_neI, q_inT, q_ninT, wp_pu, wp_some, List.replicate, Nat.reduceSub, List.getElem?_cons_succ, List.getElem?_cons_zero, List.set_cons_succ, List.set_cons_zero, Option.join_some, wipeE, Bool.not_true, Bool.not_false]; exact q
  · simp only [wp_mFn1, wp_mFn2, wp_mFn3, wp_mFn4, wp_mFn5, v_seq, v_seq_nx, v_seq_rt, v_seq_bk, v_seq_ct, v_ifS, v_ifE, v_ift, v_iff, v_set, v_setF, v_ret, v_retF, v_retN, v_expr, v_exprF, v_next, v_brk, v_cont, v_fnp_rt, v_fnp_nx, v_par, v_parF, v_par3, v_par3F, v_asg, v_asgF2, v_for, v_forF, v_op2, v_op2F, v_op2G, v_op1, v_op1F, v_call, v_callF, v_lend, v_callK, v_kcF, v_cons, v_consF, v_consG, v_nil, v_var, v_cst, v_tst, v_asBF, v_not, v_notF, v_and, v_andt, v_andf, v_or, v_ort, v_orf, v_andV, v_andVt, v_andVf, v_orV, v_orVt, v_orVf, v_notV, v_notVF, v_chain, v_ch1, v_ch2, v_ch3t, v_ch3f, v_yes, v_loop_nx, v_loop_ct, v_loop_bk, v_loop_rt, v_lcTt, v_lcTf, v_lcE, v_tup, v_lst, e_tup0, e_tup1, e_tup2, e_tup3, e_tup4, e_lst0, e_lst1, e_lst2, e_lst3, e_lst4, v_items, v_itemsT, v_itemsL, v_itemsZ, v_rng, v_zip, v_lc, v_lcF, v_lstF, q_add, q_sub, q_ge, q_gt, q_lt, q_le, q_int, q_lenT, q_lenL, q_tupL, q_tupT, q_lstL, q_lstT, q_eqI, q_neI, q_inT, q_ninT, wp_pu, wp_some, List.replicate, Nat.reduceSub, List.getElem?_cons_succ, List.getElem?_cons_zero, List.set_cons_succ, List.set_cons_zero, Option.join_some, wipeE, Bool.not_true, Bool.not_false]; exact p
/-! ### plain -/
theorem sel_in (hw : ∀ r ∈ rs, r.length = many) (hb : bx.length = many) (hk : k < many) {r : List Int} (hr : r ∈ rs) : inBox (cols many (sel rs bx k part)) r = (inBox bx r && decide (r.getD k 0 ∈ part)) := by
  have hl := hw r hr
  rw [Bool.eq_iff_iff, in_cols hl, Bool.and_eq_true, decide_eq_true_iff]
  constructor
  · intro h
    refine ⟨?_, ?_⟩
    · unfold inBox
      rw [List.all_eq_true]
      intro j hj
      have hj := List.mem_range.mp hj
      obtain ⟨s, hs, e⟩ := h j (by omega)
      have h1 := (List.mem_filter.mp (List.mem_filter.mp hs).1)
      have h2 := h1.2
      unfold inBox at h2
      rw [List.all_eq_true] at h2
      have hls := hw s h1.1
      rw [← e]
      exact h2 j (List.mem_range.mpr (by omega))
    · obtain ⟨s, hs, e⟩ := h k hk
      rw [← e]
      exact of_decide_eq_true (List.mem_filter.mp hs).2
  · rintro ⟨h1, h2⟩ j hj
    exact ⟨r, List.mem_filter.mpr ⟨List.mem_filter.mpr ⟨hr, h1⟩, decide_eq_true h2⟩, rfl⟩
theorem sel_box (hw : ∀ r ∈ rs, r.length = many) (hb : bx.length = many) (hk : k < many) : rs.filter (inBox (cols many (sel rs bx k part))) = sel rs bx k part := by
  conv => rhs; unfold sel; rw [List.filter_filter]
  refine List.filter_congr fun r hr => ?_
  rw [sel_in (part := part) hw hb hk hr, Bool.and_comm]
/-- telling all inputs of a tight box -/
theorem sel_all {ss : List (List Int)} (hw : ∀ r ∈ rs, r.length = many) (hs : ∀ r ∈ ss, r ∈ rs) (hk : k < many) : sel rs (cols many ss) k ((cols many ss).getD k []) = rs.filter (inBox (cols many ss)) := by
  unfold sel
  refine List.filter_eq_self.mpr fun r hr => ?_
  obtain ⟨h1, h2⟩ := List.mem_filter.mp hr
  have := (in_cols (hw r h1)).mp h2 k hk
  rw [cols_at hk]
  exact decide_eq_true ((mem_sdI _ _).mpr (mem_col.mpr this))
theorem sel_ne {ss : List (List Int)} (hw : ∀ r ∈ rs, r.length = many) (hs : ∀ r ∈ ss, r ∈ rs) (hk : k < many) {x : Int} (hx : x ∈ (cols many ss).getD k []) (hxp : x ∈ part) : sel rs (cols many ss) k part ≠ [] := by
  rw [cols_at hk, mem_sdI, mem_col] at hx
  obtain ⟨r, hr, e⟩ := hx
  refine List.ne_nil_of_mem (a := r) (List.mem_filter.mpr ⟨some_in hw hs r hr, ?_⟩)
  rw [e]
  exact decide_eq_true hxp
/-- two parts of two hands, the one first or the other one -/
theorem sel_two (hw : ∀ r ∈ rs, r.length = many) (hb : bx.length = many) {i j : Nat} {p1 p2 : List Int} (hi : i < many) (hj : j < many) :
    sel rs (cols many (sel rs bx i p1)) j p2 = sel rs (cols many (sel rs bx j p2)) i (p1.filter fun x => decide (x ∈ (cols many (sel rs bx j p2)).getD i [])) := by
  have e1 : sel rs (cols many (sel rs bx i p1)) j p2 = (sel rs bx i p1).filter fun r => decide (r.getD j 0 ∈ p2) := by
    show (rs.filter (inBox (cols many (sel rs bx i p1)))).filter _ = _
    rw [sel_box hw hb hi]
  have e2 : ∀ q, sel rs (cols many (sel rs bx j p2)) i q = (sel rs bx j p2).filter fun r => decide (r.getD i 0 ∈ q) := fun q => by
    show (rs.filter (inBox (cols many (sel rs bx j p2)))).filter _ = _
    rw [sel_box hw hb hj]
  rw [e1, e2]
  conv => lhs; unfold sel; rw [List.filter_filter, List.filter_filter]
  conv => rhs; unfold sel; rw [List.filter_filter, List.filter_filter]
  refine List.filter_congr fun r hr => ?_
  rw [Bool.eq_iff_iff]
  simp only [Bool.and_eq_true, decide_eq_true_iff, List.mem_filter]
  constructor
  · rintro ⟨⟨a, b⟩, c⟩
    refine ⟨⟨⟨b, ?_⟩, a⟩, c⟩
    rw [cols_at hi, mem_sdI, mem_col]
    exact ⟨r, List.mem_filter.mpr ⟨List.mem_filter.mpr ⟨hr, c⟩, decide_eq_true a⟩, rfl⟩
  · rintro ⟨⟨⟨b, _⟩, a⟩, c⟩
    exact ⟨⟨a, b⟩, c⟩
end
end Lw

set_option Elab.async false
set_option linter.all false
set_option maxRecDepth 100000
set_option maxHeartbeats 1000000
namespace Lw
open PySem hiding Env
open L2 DD
theorem Sp2.go {m : List W → M W} {ws : List W} {c : Nat} {R : D → Prop} (hw : ws.all (clW 2) = true) (h : ∀ (PF : W → List O → Prop) (n : Nat) (dk0 : List O), Dk n dk0 → n + c ≤ 1000000000000 → (∀ d n' dk' L, R d → n' ≤ n + c → Dk n' dk' → PF (.d d) (dk' ++ L)) → (∀ d n' dk', R d → n' ≤ n + c → Dk n' dk' → PF (.d d) dk') → wp (m ws) PF dk0) : Sp2 m ws c R :=
  .mk' hw fun n dk0 hd hn => h _ n dk0 hd hn (fun d n' dk' L a b c => ⟨n', dk', L, d, rfl, b, c, a, rfl⟩) fun d n' dk' a b c => ⟨n', dk', [], d, (List.append_nil _).symm, b, c, a, rfl⟩
/-- some inputs of a hand in a box -/
theorem lot_s {bx : List (List Int)} {k : Nat} (hk : k < bx.length) (hne : bx.getD k [] ≠ []) (h6 : (bx.getD k []).length ≤ 6) : Sp2 m__law_lot [.ref 1, .d (eTT bx), .d (.int k)] 10 (fun d => ∃ l : List Int, d = eT l ∧ l ≠ [] ∧ ∀ x ∈ l, x ∈ bx.getD k []) := by
  refine .go rfl fun PF n dk0 hd hn _ fin => ?_
  unfold m__law_lot
  generalize hg : bx.getD k [] = g at *
  simp only [wp_mFn1, wp_mFn2, wp_mFn3, wp_mFn4, wp_mFn5, v_seq, v_seq_nx, v_seq_rt, v_seq_bk, v_seq_ct, v_ifS, v_ifE, v_ift, v_iff, v_set, v_setF, v_ret, v_retF, v_retN, v_expr, v_exprF, v_next, v_brk, v_cont, v_fnp_rt, v_fnp_nx, v_par, v_parF, v_par3, v_par3F, v_asg, v_asgF2, v_for, v_forF, v_op2, v_op2F, v_op2G, v_op1, v_op1F, v_call, v_callF, v_lend, v_callK, v_kcF, v_cons, v_consF, v_consG, v_nil, v_var, v_cst, v_tst, v_asBF, v_not, v_notF, v_and, v_andt, v_andf, v_or, v_ort, v_orf, v_andV, v_andVt, v_andVf, v_orV, v_orVt, v_orVf, v_notV, v_notVF, v_chain, v_ch1, v_ch2, v_ch3t, v_ch3f, v_yes, v_loop_nx, v_loop_ct, v_loop_bk, v_loop_rt, v_lcTt, v_lcTf, v_lcE, v_tup, v_lst, e_tup0, e_tup1, e_tup2, e_tup3, e_tup4, e_lst0, e_lst1, e_lst2, e_lst3, e_lst4, v_items, v_itemsT, v_itemsL, v_itemsZ, v_rng, v_zip, v_lc, v_lcF, v_lstF, q_add, q_sub, q_ge, q_gt, q_lt, q_le, q_int, q_lenT, q_lenL, q_tupL, q_tupT, q_lstL, q_lstT, q_eqI, q_neI, q_inT, q_ninT, wp_pu, wp_some, List.replicate, Nat.reduceSub, List.getElem?_cons_succ, List.getElem?_cons_zero, List.set_cons_succ, List.set_cons_zero, Option.join_some, wipeE, Bool.not_true, Bool.not_false, q_ixTT hk, hg]
  refine wp_lcI (fun i l h => ∃ (xs : List Int) (n' : Nat), l = xs.map .int ∧ (∀ x ∈ xs, x ∈ g) ∧ n' ≤ n + i ∧ Dk n' h) ⟨[], n, rfl, fun x hx => absurd hx List.not_mem_nil, by omega, hd⟩ ?_ ?_
  · rintro i d l h hi ⟨xs, n', rfl, hl, hn', hd'⟩
    obtain ⟨v, hv, rfl⟩ := mapI_at hi
    have hlt := (List.getElem?_eq_some_iff.mp hi).1
    rw [List.length_map] at hlt
    refine ⟨_, rfl, ?_⟩
    simp only [wp_mFn1, wp_mFn2, wp_mFn3, wp_mFn4, wp_mFn5, v_seq, v_seq_nx, v_seq_rt, v_seq_bk, v_seq_ct, v_ifS, v_ifE, v_ift, v_iff, v_set, v_setF, v_ret, v_retF, v_retN, v_expr, v_exprF, v_next, v_brk, v_cont, v_fnp_rt, v_fnp_nx, v_par, v_parF, v_par3, v_par3F, v_asg, v_asgF2, v_for, v_forF, v_op2, v_op2F, v_op2G, v_op1, v_op1F, v_call, v_callF, v_lend, v_callK, v_kcF, v_cons, v_consF, v_consG, v_nil, v_var, v_cst, v_tst, v_asBF, v_not, v_notF, v_and, v_andt, v_andf, v_or, v_ort, v_orf, v_andV, v_andVt, v_andVf, v_orV, v_orVt, v_orVf, v_notV, v_notVF, v_chain, v_ch1, v_ch2, v_ch3t, v_ch3f, v_yes, v_loop_nx, v_loop_ct, v_loop_bk, v_loop_rt, v_lcTt, v_lcTf, v_lcE, v_tup, v_lst, e_tup0, e_tup1, e_tup2, e_tup3, e_tup4, e_lst0, e_lst1, e_lst2, e_lst3, e_lst4, v_items, v_itemsT, v_itemsL, v_itemsZ, v_rng, v_zip, v_lc, v_lcF, v_lstF, q_add, q_sub, q_ge, q_gt, q_lt, q_le, q_int, q_lenT, q_lenL, q_tupL, q_tupT, q_lstL, q_lstT, q_eqI, q_neI, q_inT, q_ninT, wp_pu, wp_some, List.replicate, Nat.reduceSub, List.getElem?_cons_succ, List.getElem?_cons_zero, List.set_cons_succ, List.set_cons_zero, Option.join_some, wipeE, Bool.not_true, Bool.not_false]
    refine (draw_s (k := 2) (by decide) (by decide)).at0 hd' (by omega) fun d n2 dk2 ⟨r, er, g0, g1⟩ hn2 hd2 => ?_
    subst er
    simp only [wp_mFn1, wp_mFn2, wp_mFn3, wp_mFn4, wp_mFn5, v_seq, v_seq_nx, v_seq_rt, v_seq_bk, v_seq_ct, v_ifS, v_ifE, v_ift, v_iff, v_set, v_setF, v_ret, v_retF, v_retN, v_expr, v_exprF, v_next, v_brk, v_cont, v_fnp_rt, v_fnp_nx, v_par, v_parF, v_par3, v_par3F, v_asg, v_asgF2, v_for, v_forF, v_op2, v_op2F, v_op2G, v_op1, v_op1F, v_call, v_callF, v_lend, v_callK, v_kcF, v_cons, v_consF, v_consG, v_nil, v_var, v_cst, v_tst, v_asBF, v_not, v_notF, v_and, v_andt, v_andf, v_or, v_ort, v_orf, v_andV, v_andVt, v_andVf, v_orV, v_orVt, v_orVf, v_notV, v_notVF, v_chain, v_ch1, v_ch2, v_ch3t, v_ch3f, v_yes, v_loop_nx, v_loop_ct, v_loop_bk, v_loop_rt, v_lcTt, v_lcTf, v_lcE, v_tup, v_lst, e_tup0, e_tup1, e_tup2, e_tup3, e_tup4, e_lst0, e_lst1, e_lst2, e_lst3, e_lst4, v_items, v_itemsT, v_itemsL, v_itemsZ, v_rng, v_zip, v_lc, v_lcF, v_lstF, q_add, q_sub, q_ge, q_gt, q_lt, q_le, q_int, q_lenT, q_lenL, q_tupL, q_tupT, q_lstL, q_lstT, q_eqI, q_neI, q_inT, q_ninT, wp_pu, wp_some, List.replicate, Nat.reduceSub, List.getElem?_cons_succ, List.getElem?_cons_zero, List.set_cons_succ, List.set_cons_zero, Option.join_some, wipeE, Bool.not_true, Bool.not_false]
    by_cases hr : r = 0
    · rw [if_pos (by simpa using hr)]
      refine ⟨.int v, rfl, xs ++ [v], n2, by rw [List.map_append]; rfl, fun x hx => ?_, by omega, hd2⟩
      rcases List.mem_append.mp hx with hx | hx
      · exact hl x hx
      · rw [List.mem_singleton.mp hx]; exact List.mem_of_getElem? hv
    · rw [if_neg (by simpa using hr)]
      exact ⟨xs, n2, rfl, hl, by omega, hd2⟩
  · rintro l h ⟨xs, n', rfl, hl, hn', hd'⟩
    rw [List.length_map] at hn'
    simp only [wp_mFn1, wp_mFn2, wp_mFn3, wp_mFn4, wp_mFn5, v_seq, v_seq_nx, v_seq_rt, v_seq_bk, v_seq_ct, v_ifS, v_ifE, v_ift, v_iff, v_set, v_setF, v_ret, v_retF, v_retN, v_expr, v_exprF, v_next, v_brk, v_cont, v_fnp_rt, v_fnp_nx, v_par, v_parF, v_par3, v_par3F, v_asg, v_asgF2, v_for, v_forF, v_op2, v_op2F, v_op2G, v_op1, v_op1F, v_call, v_callF, v_lend, v_callK, v_kcF, v_cons, v_consF, v_consG, v_nil, v_var, v_cst, v_tst, v_asBF, v_not, v_notF, v_and, v_andt, v_andf, v_or, v_ort, v_orf, v_andV, v_andVt, v_andVf, v_orV, v_orVt, v_orVf, v_notV, v_notVF, v_chain, v_ch1, v_ch2, v_ch3t, v_ch3f, v_yes, v_loop_nx, v_loop_ct, v_loop_bk, v_loop_rt, v_lcTt, v_lcTf, v_lcE, v_tup, v_lst, e_tup0, e_tup1, e_tup2, e_tup3, e_tup4, e_lst0, e_lst1, e_lst2, e_lst3, e_lst4, v_items, v_itemsT, v_itemsL, v_itemsZ, v_rng, v_zip, v_lc, v_lcF, v_lstF, q_add, q_sub, q_ge, q_gt, q_lt, q_le, q_int, q_lenT, q_lenL, q_tupL, q_tupT, q_lstL, q_lstT, q_eqI, q_neI, q_inT, q_ninT, wp_pu, wp_some, List.replicate, Nat.reduceSub, List.getElem?_cons_succ, List.getElem?_cons_zero, List.set_cons_succ, List.set_cons_zero, Option.join_some, wipeE, Bool.not_true, Bool.not_false]
    rw [show opEq true (.d (.lst (xs.map .int))) (.d (.lst [])) = pu (.d (.bl (!decide (xs = [])))) from q_ne (f := eL) tells_eL (okN_eL xs) (okN_eL [])]
    simp only [wp_mFn1, wp_mFn2, wp_mFn3, wp_mFn4, wp_mFn5, v_seq, v_seq_nx, v_seq_rt, v_seq_bk, v_seq_ct, v_ifS, v_ifE, v_ift, v_iff, v_set, v_setF, v_ret, v_retF, v_retN, v_expr, v_exprF, v_next, v_brk, v_cont, v_fnp_rt, v_fnp_nx, v_par, v_parF, v_par3, v_par3F, v_asg, v_asgF2, v_for, v_forF, v_op2, v_op2F, v_op2G, v_op1, v_op1F, v_call, v_callF, v_lend, v_callK, v_kcF, v_cons, v_consF, v_consG, v_nil, v_var, v_cst, v_tst, v_asBF, v_not, v_notF, v_and, v_andt, v_andf, v_or, v_ort, v_orf, v_andV, v_andVt, v_andVf, v_orV, v_orVt, v_orVf, v_notV, v_notVF, v_chain, v_ch1, v_ch2, v_ch3t, v_ch3f, v_yes, v_loop_nx, v_loop_ct, v_loop_bk, v_loop_rt, v_lcTt, v_lcTf, v_lcE, v_tup, v_lst, e_tup0, e_tup1, e_tup2, e_tup3, e_tup4, e_lst0, e_lst1, e_lst2, e_lst3, e_lst4, v_items, v_itemsT, v_itemsL, v_itemsZ, v_rng, v_zip, v_lc, v_lcF, v_lstF, q_add, q_sub, q_ge, q_gt, q_lt, q_le, q_int, q_lenT, q_lenL, q_tupL, q_tupT, q_lstL, q_lstT, q_eqI, q_neI, q_inT, q_ninT, wp_pu, wp_some, List.replicate, Nat.reduceSub, List.getElem?_cons_succ, List.getElem?_cons_zero, List.set_cons_succ, List.set_cons_zero, Option.join_some, wipeE, Bool.not_true, Bool.not_false]
    by_cases hx : xs = []
    · subst hx
      simp only [decide_true, Bool.not_true]
      simp only [wp_mFn1, wp_mFn2, wp_mFn3, wp_mFn4, wp_mFn5, v_seq, v_seq_nx, v_seq_rt, v_seq_bk, v_seq_ct, v_ifS, v_ifE, v_ift, v_iff, v_set, v_setF, v_ret, v_retF, v_retN, v_expr, v_exprF, v_next, v_brk, v_cont, v_fnp_rt, v_fnp_nx, v_par, v_parF, v_par3, v_par3F, v_asg, v_asgF2, v_for, v_forF, v_op2, v_op2F, v_op2G, v_op1, v_op1F, v_call, v_callF, v_lend, v_callK, v_kcF, v_cons, v_consF, v_consG, v_nil, v_var, v_cst, v_tst, v_asBF, v_not, v_notF, v_and, v_andt, v_andf, v_or, v_ort, v_orf, v_andV, v_andVt, v_andVf, v_orV, v_orVt, v_orVf, v_notV, v_notVF, v_chain, v_ch1, v_ch2, v_ch3t, v_ch3f, v_yes, v_loop_nx, v_loop_ct, v_loop_bk, v_loop_rt, v_lcTt, v_lcTf, v_lcE, v_tup, v_lst, e_tup0, e_tup1, e_tup2, e_tup3, e_tup4, e_lst0, e_lst1, e_lst2, e_lst3, e_lst4, v_items, v_itemsT, v_itemsL, v_itemsZ, v_rng, v_zip, v_lc, v_lcF, v_lstF, q_add, q_sub, q_ge, q_gt, q_lt, q_le, q_int, q_lenT, q_lenL, q_tupL, q_tupT, q_lstL, q_lstT, q_eqI, q_neI, q_inT, q_ninT, wp_pu, wp_some, List.replicate, Nat.reduceSub, List.getElem?_cons_succ, List.getElem?_cons_zero, List.set_cons_succ, List.set_cons_zero, Option.join_some, wipeE, Bool.not_true, Bool.not_false, q_ixTT hk, hg]
      refine (pick_s (x := eT g) (l := g.map .int) rfl (by simpa using hne) (by rw [List.length_map]; omega)).at0 hd' (by omega) fun d n3 dk3 hm hn3 hd3 => ?_
      obtain ⟨v, hv, rfl⟩ := List.mem_map.mp hm
      simp only [wp_mFn1, wp_mFn2, wp_mFn3, wp_mFn4, wp_mFn5, v_seq, v_seq_nx, v_seq_rt, v_seq_bk, v_seq_ct, v_ifS, v_ifE, v_ift, v_iff, v_set, v_setF, v_ret, v_retF, v_retN, v_expr, v_exprF, v_next, v_brk, v_cont, v_fnp_rt, v_fnp_nx, v_par, v_parF, v_par3, v_par3F, v_asg, v_asgF2, v_for, v_forF, v_op2, v_op2F, v_op2G, v_op1, v_op1F, v_call, v_callF, v_lend, v_callK, v_kcF, v_cons, v_consF, v_consG, v_nil, v_var, v_cst, v_tst, v_asBF, v_not, v_notF, v_and, v_andt, v_andf, v_or, v_ort, v_orf, v_andV, v_andVt, v_andVf, v_orV, v_orVt, v_orVf, v_notV, v_notVF, v_chain, v_ch1, v_ch2, v_ch3t, v_ch3f, v_yes, v_loop_nx, v_loop_ct, v_loop_bk, v_loop_rt, v_lcTt, v_lcTf, v_lcE, v_tup, v_lst, e_tup0, e_tup1, e_tup2, e_tup3, e_tup4, e_lst0, e_lst1, e_lst2, e_lst3, e_lst4, v_items, v_itemsT, v_itemsL, v_itemsZ, v_rng, v_zip, v_lc, v_lcF, v_lstF, q_add, q_sub, q_ge, q_gt, q_lt, q_le, q_int, q_lenT, q_lenL, q_tupL, q_tupT, q_lstL, q_lstT, q_eqI, q_neI, q_inT, q_ninT, wp_pu, wp_some, List.replicate, Nat.reduceSub, List.getElem?_cons_succ, List.getElem?_cons_zero, List.set_cons_succ, List.set_cons_zero, Option.join_some, wipeE, Bool.not_true, Bool.not_false]
      exact fin (eT [v]) n3 dk3 ⟨_, rfl, by simp, fun x hx => by rw [List.mem_singleton.mp hx]; exact hv⟩ (by omega) hd3
    · rw [decide_eq_false hx]
      simp only [wp_mFn1, wp_mFn2, wp_mFn3, wp_mFn4, wp_mFn5, v_seq, v_seq_nx, v_seq_rt, v_seq_bk, v_seq_ct, v_ifS, v_ifE, v_ift, v_iff, v_set, v_setF, v_ret, v_retF, v_retN, v_expr, v_exprF, v_next, v_brk, v_cont, v_fnp_rt, v_fnp_nx, v_par, v_parF, v_par3, v_par3F, v_asg, v_asgF2, v_for, v_forF, v_op2, v_op2F, v_op2G, v_op1, v_op1F, v_call, v_callF, v_lend, v_callK, v_kcF, v_cons, v_consF, v_consG, v_nil, v_var, v_cst, v_tst, v_asBF, v_not, v_notF, v_and, v_andt, v_andf, v_or, v_ort, v_orf, v_andV, v_andVt, v_andVf, v_orV, v_orVt, v_orVf, v_notV, v_notVF, v_chain, v_ch1, v_ch2, v_ch3t, v_ch3f, v_yes, v_loop_nx, v_loop_ct, v_loop_bk, v_loop_rt, v_lcTt, v_lcTf, v_lcE, v_tup, v_lst, e_tup0, e_tup1, e_tup2, e_tup3, e_tup4, e_lst0, e_lst1, e_lst2, e_lst3, e_lst4, v_items, v_itemsT, v_itemsL, v_itemsZ, v_rng, v_zip, v_lc, v_lcF, v_lstF, q_add, q_sub, q_ge, q_gt, q_lt, q_le, q_int, q_lenT, q_lenL, q_tupL, q_tupT, q_lstL, q_lstT, q_eqI, q_neI, q_inT, q_ninT, wp_pu, wp_some, List.replicate, Nat.reduceSub, List.getElem?_cons_succ, List.getElem?_cons_zero, List.set_cons_succ, List.set_cons_zero, Option.join_some, wipeE, Bool.not_true, Bool.not_false]
      exact fin _ n' h ⟨xs, rfl, hx, hl⟩ (by omega) hd'
end Lw

set_option Elab.async false
set_option linter.all false
set_option maxRecDepth 100000
set_option maxHeartbeats 1000000
namespace Lw
open PySem hiding Env
open L2 DD
theorem q_same {s : Str} (hs : Sml s) : opEq true (.d (.str s)) (.d (.str s)) = pu (.d (.bl false)) := by
  show oM (Option.map W.d (if okD (.str s) && okD (.str s) then some (.bl (!eqD (.str s) (.str s))) else none)) = _
  rw [(okN_str hs).ok, eqD_refl (okN_str hs)]
  rfl
theorem q_repr {d : D} (hs : isSeqD d = true) (hd : shD d = true) : bRepr [.d d] = pu (.d (.str (py d).shown)) := by
  show oM (Option.map W.d (if (isSeqD d && shD d) = true then some (.str (py d).shown) else none)) = _
  rw [hs, hd]
  rfl
theorem pl_dget {l : List (Key × D)} {k : Str} {d : D} (e : lookG l (.inr k) = some d) : opDGet (.d (.dic l)) (.d (.str k)) = pu (.d d) := by
  funext h
  unfold opDGet
  simp only [keyW, e]
  rfl
/-- some rows that are drawn, as a list -/
theorem drawn_s {n : Nat} {dk1 : List O} {ρ : Env} {many : Nat} {rs : List (List Int)} {as bs : List (List Int × List Int)} {K : W → List O → Prop} (hp : PlanOk many rs as bs) (hd : Dk n dk1) (hn : n + 20 ≤ 1000000000000)
    (hρ : ρ.length = 19) (e0 : ρ[0]? = some (some (.ref 1))) (e1 : ρ[1]? = some (some (.d (.dic (planD many rs as bs)))))
    (hK : ∀ (ss : List (List Int)) (n' : Nat) (dk' : List O), ss ≠ [] → ss.length ≤ 9 → (∀ r ∈ ss, r ∈ rs) → n' ≤ n + 10 → Dk n' dk' → K (.d (eLT ss)) dk') :
    wp (mLc (mRng1 (mCons (m2op opAdd (mC (.int 1)) (mLend 2 m__law_draw (mCons (mV 0) (mCons (mC (.int 9)) mNil)))) mNil)) [17] (.nm 17) mYes (mLend 2 m__law_pick (mCons (mV 0) (mCons (m2op opDGet (mV 1) (mC (.str "rows"))) mNil))) ρ) K dk1 := by
  have j0 : (ρ[0]?).join = some (.ref 1) := by rw [e0]; rfl
  simp only [wp_mFn1, wp_mFn2, wp_mFn3, wp_mFn4, wp_mFn5, v_seq, v_seq_nx, v_seq_rt, v_seq_bk, v_seq_ct, v_ifS, v_ifE, v_ift, v_iff, v_set, v_setF, v_ret, v_retF, v_retN, v_expr, v_exprF, v_next, v_brk, v_cont, v_fnp_rt, v_fnp_nx, v_par, v_parF, v_par3, v_par3F, v_asg, v_asgF2, v_for, v_forF, v_op2, v_op2F, v_op2G, v_op1, v_op1F, v_call, v_callF, v_lend, v_callK, v_kcF, v_cons, v_consF, v_consG, v_nil, v_var, v_cst, v_tst, v_asBF, v_not, v_notF, v_and, v_andt, v_andf, v_or, v_ort, v_orf, v_andV, v_andVt, v_andVf, v_orV, v_orVt, v_orVf, v_notV, v_notVF, v_chain, v_ch1, v_ch2, v_ch3t, v_ch3f, v_yes, v_loop_nx, v_loop_ct, v_loop_bk, v_loop_rt, v_lcTt, v_lcTf, v_lcE, v_tup, v_lst, e_tup0, e_tup1, e_tup2, e_tup3, e_tup4, e_lst0, e_lst1, e_lst2, e_lst3, e_lst4, v_items, v_itemsT, v_itemsL, v_itemsZ, v_rng, v_zip, v_lc, v_lcF, v_lstF, q_add, q_sub, q_ge, q_gt, q_lt, q_le, q_int, q_lenT, q_lenL, q_tupL, q_tupT, q_lstL, q_lstT, q_eqI, q_neI, q_inT, q_ninT, wp_pu, wp_some, List.replicate, Nat.reduceSub, List.getElem?_cons_succ, List.getElem?_cons_zero, List.set_cons_succ, List.set_cons_zero, Option.join_some, wipeE, Bool.not_true, Bool.not_false, j0]
  refine (draw_s (k := 9) (by decide) (by decide)).at0 hd (by omega) fun d n1 dk2 ⟨r, er, h0, h1⟩ hn1 hd1 => ?_
  subst er
  obtain ⟨t, ht⟩ : ∃ t : Nat, 1 + r = t := ⟨(1 + r).toNat, by omega⟩
  simp only [wp_mFn1, wp_mFn2, wp_mFn3, wp_mFn4, wp_mFn5, v_seq, v_seq_nx, v_seq_rt, v_seq_bk, v_seq_ct, v_ifS, v_ifE, v_ift, v_iff, v_set, v_setF, v_ret, v_retF, v_retN, v_expr, v_exprF, v_next, v_brk, v_cont, v_fnp_rt, v_fnp_nx, v_par, v_parF, v_par3, v_par3F, v_asg, v_asgF2, v_for, v_forF, v_op2, v_op2F, v_op2G, v_op1, v_op1F, v_call, v_callF, v_lend, v_callK, v_kcF, v_cons, v_consF, v_consG, v_nil, v_var, v_cst, v_tst, v_asBF, v_not, v_notF, v_and, v_andt, v_andf, v_or, v_ort, v_orf, v_andV, v_andVt, v_andVf, v_orV, v_orVt, v_orVf, v_notV, v_notVF, v_chain, v_ch1, v_ch2, v_ch3t, v_ch3f, v_yes, v_loop_nx, v_loop_ct, v_loop_bk, v_loop_rt, v_lcTt, v_lcTf, v_lcE, v_tup, v_lst, e_tup0, e_tup1, e_tup2, e_tup3, e_tup4, e_lst0, e_lst1, e_lst2, e_lst3, e_lst4, v_items, v_itemsT, v_itemsL, v_itemsZ, v_rng, v_zip, v_lc, v_lcF, v_lstF, q_add, q_sub, q_ge, q_gt, q_lt, q_le, q_int, q_lenT, q_lenL, q_tupL, q_tupT, q_lstL, q_lstT, q_eqI, q_neI, q_inT, q_ninT, wp_pu, wp_some, List.replicate, Nat.reduceSub, List.getElem?_cons_succ, List.getElem?_cons_zero, List.set_cons_succ, List.set_cons_zero, Option.join_some, wipeE, Bool.not_true, Bool.not_false, ht]
  rw [v_rngF (by omega)]
  simp only [wp_mFn1, wp_mFn2, wp_mFn3, wp_mFn4, wp_mFn5, v_seq, v_seq_nx, v_seq_rt, v_seq_bk, v_seq_ct, v_ifS, v_ifE, v_ift, v_iff, v_set, v_setF, v_ret, v_retF, v_retN, v_expr, v_exprF, v_next, v_brk, v_cont, v_fnp_rt, v_fnp_nx, v_par, v_parF, v_par3, v_par3F, v_asg, v_asgF2, v_for, v_forF, v_op2, v_op2F, v_op2G, v_op1, v_op1F, v_call, v_callF, v_lend, v_callK, v_kcF, v_cons, v_consF, v_consG, v_nil, v_var, v_cst, v_tst, v_asBF, v_not, v_notF, v_and, v_andt, v_andf, v_or, v_ort, v_orf, v_andV, v_andVt, v_andVf, v_orV, v_orVt, v_orVf, v_notV, v_notVF, v_chain, v_ch1, v_ch2, v_ch3t, v_ch3f, v_yes, v_loop_nx, v_loop_ct, v_loop_bk, v_loop_rt, v_lcTt, v_lcTf, v_lcE, v_tup, v_lst, e_tup0, e_tup1, e_tup2, e_tup3, e_tup4, e_lst0, e_lst1, e_lst2, e_lst3, e_lst4, v_items, v_itemsT, v_itemsL, v_itemsZ, v_rng, v_zip, v_lc, v_lcF, v_lstF, q_add, q_sub, q_ge, q_gt, q_lt, q_le, q_int, q_lenT, q_lenL, q_tupL, q_tupT, q_lstL, q_lstT, q_eqI, q_neI, q_inT, q_ninT, wp_pu, wp_some, List.replicate, Nat.reduceSub, List.getElem?_cons_succ, List.getElem?_cons_zero, List.set_cons_succ, List.set_cons_zero, Option.join_some, wipeE, Bool.not_true, Bool.not_false]
  refine lc_n t (fun i l h => ∃ (ss : List (List Int)) (n' : Nat), l = ss.map eT ∧ ss.length = i ∧ (∀ r ∈ ss, r ∈ rs) ∧ n' ≤ n + 1 + i ∧ Dk n' h) ⟨[], n1, rfl, rfl, fun r hr => absurd hr List.not_mem_nil, by omega, hd1⟩ ?_ ?_
  · rintro i l h hi ⟨ss, n', rfl, hl, hs, hn', hd'⟩
    refine ⟨_, rfl, ?_⟩
    have k0 : (((wipeE ρ [17]).set 17 (some (.d (.int i))))[0]?).join = some (.ref 1) := by
      match ρ, e0 with
      | a :: ρ', e0 => cases e0; rfl
    have k1 : (((wipeE ρ [17]).set 17 (some (.d (.int i))))[1]?).join = some (.d (.dic (planD many rs as bs))) := by
      match ρ, e1 with
      | a :: b :: ρ', e1 => cases e1; rfl
    generalize (wipeE ρ [17]).set 17 (some (.d (.int i))) = ρ2 at k0 k1
    simp only [wp_mFn1, wp_mFn2, wp_mFn3, wp_mFn4, wp_mFn5, v_seq, v_seq_nx, v_seq_rt, v_seq_bk, v_seq_ct, v_ifS, v_ifE, v_ift, v_iff, v_set, v_setF, v_ret, v_retF, v_retN, v_expr, v_exprF, v_next, v_brk, v_cont, v_fnp_rt, v_fnp_nx, v_par, v_parF, v_par3, v_par3F, v_asg, v_asgF2, v_for, v_forF, v_op2, v_op2F, v_op2G, v_op1, v_op1F, v_call, v_callF, v_lend, v_callK, v_kcF, v_cons, v_consF, v_consG, v_nil, v_var, v_cst, v_tst, v_asBF, v_not, v_notF, v_and, v_andt, v_andf, v_or, v_ort, v_orf, v_andV, v_andVt, v_andVf, v_orV, v_orVt, v_orVf, v_notV, v_notVF, v_chain, v_ch1, v_ch2, v_ch3t, v_ch3f, v_yes, v_loop_nx, v_loop_ct, v_loop_bk, v_loop_rt, v_lcTt, v_lcTf, v_lcE, v_tup, v_lst, e_tup0, e_tup1, e_tup2, e_tup3, e_tup4, e_lst0, e_lst1, e_lst2, e_lst3, e_lst4, v_items, v_itemsT, v_itemsL, v_itemsZ, v_rng, v_zip, v_lc, v_lcF, v_lstF, q_add, q_sub, q_ge, q_gt, q_lt, q_le, q_int, q_lenT, q_lenL, q_tupL, q_tupT, q_lstL, q_lstT, q_eqI, q_neI, q_inT, q_ninT, wp_pu, wp_some, List.replicate, Nat.reduceSub, List.getElem?_cons_succ, List.getElem?_cons_zero, List.set_cons_succ, List.set_cons_zero, Option.join_some, wipeE, Bool.not_true, Bool.not_false, k0, k1, pl_dget p_rows]
    refine (pick_s (x := eLT rs) (l := rs.map eT) rfl (by simpa using hp.rows.ne) (by rw [List.length_map]; have := hp.few; omega)).at0 hd' (by omega) fun d n3 dk4 hm hn3 hd3 => ?_
    obtain ⟨r, hr, rfl⟩ := List.mem_map.mp hm
    simp only [wp_mFn1, wp_mFn2, wp_mFn3, wp_mFn4, wp_mFn5, v_seq, v_seq_nx, v_seq_rt, v_seq_bk, v_seq_ct, v_ifS, v_ifE, v_ift, v_iff, v_set, v_setF, v_ret, v_retF, v_retN, v_expr, v_exprF, v_next, v_brk, v_cont, v_fnp_rt, v_fnp_nx, v_par, v_parF, v_par3, v_par3F, v_asg, v_asgF2, v_for, v_forF, v_op2, v_op2F, v_op2G, v_op1, v_op1F, v_call, v_callF, v_lend, v_callK, v_kcF, v_cons, v_consF, v_consG, v_nil, v_var, v_cst, v_tst, v_asBF, v_not, v_notF, v_and, v_andt, v_andf, v_or, v_ort, v_orf, v_andV, v_andVt, v_andVf, v_orV, v_orVt, v_orVf, v_notV, v_notVF, v_chain, v_ch1, v_ch2, v_ch3t, v_ch3f, v_yes, v_loop_nx, v_loop_ct, v_loop_bk, v_loop_rt, v_lcTt, v_lcTf, v_lcE, v_tup, v_lst, e_tup0, e_tup1, e_tup2, e_tup3, e_tup4, e_lst0, e_lst1, e_lst2, e_lst3, e_lst4, v_items, v_itemsT, v_itemsL, v_itemsZ, v_rng, v_zip, v_lc, v_lcF, v_lstF, q_add, q_sub, q_ge, q_gt, q_lt, q_le, q_int, q_lenT, q_lenL, q_tupL, q_tupT, q_lstL, q_lstT, q_eqI, q_neI, q_inT, q_ninT, wp_pu, wp_some, List.replicate, Nat.reduceSub, List.getElem?_cons_succ, List.getElem?_cons_zero, List.set_cons_succ, List.set_cons_zero, Option.join_some, wipeE, Bool.not_true, Bool.not_false]
    refine ⟨ss ++ [r], n3, by rw [List.map_append]; rfl, by rw [List.length_append, List.length_singleton]; omega, fun x hx => ?_, by omega, hd3⟩
    rcases List.mem_append.mp hx with hx | hx
    · exact hs x hx
    · rw [List.mem_singleton.mp hx]; exact hr
  · rintro l h ⟨ss, n', rfl, hl, hs, hn', hd'⟩
    simp only [wp_mFn1, wp_mFn2, wp_mFn3, wp_mFn4, wp_mFn5, v_seq, v_seq_nx, v_seq_rt, v_seq_bk, v_seq_ct, v_ifS, v_ifE, v_ift, v_iff, v_set, v_setF, v_ret, v_retF, v_retN, v_expr, v_exprF, v_next, v_brk, v_cont, v_fnp_rt, v_fnp_nx, v_par, v_parF, v_par3, v_par3F, v_asg, v_asgF2, v_for, v_forF, v_op2, v_op2F, v_op2G, v_op1, v_op1F, v_call, v_callF, v_lend, v_callK, v_kcF, v_cons, v_consF, v_consG, v_nil, v_var, v_cst, v_tst, v_asBF, v_not, v_notF, v_and, v_andt, v_andf, v_or, v_ort, v_orf, v_andV, v_andVt, v_andVf, v_orV, v_orVt, v_orVf, v_notV, v_notVF, v_chain, v_ch1, v_ch2, v_ch3t, v_ch3f, v_yes, v_loop_nx, v_loop_ct, v_loop_bk, v_loop_rt, v_lcTt, v_lcTf, v_lcE, v_tup, v_lst, e_tup0, e_tup1, e_tup2, e_tup3, e_tup4, e_lst0, e_lst1, e_lst2, e_lst3, e_lst4, v_items, v_itemsT, v_itemsL, v_itemsZ, v_rng, v_zip, v_lc, v_lcF, v_lstF, q_add, q_sub, q_ge, q_gt, q_lt, q_le, q_int, q_lenT, q_lenL, q_tupL, q_tupT, q_lstL, q_lstT, q_eqI, q_neI, q_inT, q_ninT, wp_pu, wp_some, List.replicate, Nat.reduceSub, List.getElem?_cons_succ, List.getElem?_cons_zero, List.set_cons_succ, List.set_cons_zero, Option.join_some, wipeE, Bool.not_true, Bool.not_false]
    exact hK ss n' h (fun z => by rw [z] at hl; simp at hl; omega) (by omega) hs (by omega) hd'
end Lw

set_option Elab.async false
set_option linter.all false
set_option maxRecDepth 100000
set_option maxHeartbeats 4000000
namespace Lw
open PySem hiding Env
open L2 DD
theorem rep1 {x : D} (hx : ShN 3 140000 x) (h : isSeqD x = true) : bRepr [.d x] = pu (.d (.str (py x).shown)) := q_repr h hx.ok
theorem repp {x : D} (hx : ShN 3 140000 x) : bRepr [.d (.lst [x, x])] = pu (.d (.str (py (.lst [x, x])).shown)) := q_repr rfl (rep2 hx hx)
theorem right_s : Sp2 m__law_right [.ref 1] 7000 (fun d => d = .bl true) := by
  refine .go rfl fun PF n dk0 hd hn _ fin => ?_
  unfold m__law_right
  simp only [wp_mFn1, wp_mFn2, wp_mFn3, wp_mFn4, wp_mFn5, v_seq, v_seq_nx, v_seq_rt, v_seq_bk, v_seq_ct, v_ifS, v_ifE, v_ift, v_iff, v_set, v_setF, v_ret, v_retF, v_retN, v_expr, v_exprF, v_next, v_brk, v_cont, v_fnp_rt, v_fnp_nx, v_par, v_parF, v_par3, v_par3F, v_asg, v_asgF2, v_for, v_forF, v_op2, v_op2F, v_op2G, v_op1, v_op1F, v_call, v_callF, v_lend, v_callK, v_kcF, v_cons, v_consF, v_consG, v_nil, v_var, v_cst, v_tst, v_asBF, v_not, v_notF, v_and, v_andt, v_andf, v_or, v_ort, v_orf, v_andV, v_andVt, v_andVf, v_orV, v_orVt, v_orVf, v_notV, v_notVF, v_chain, v_ch1, v_ch2, v_ch3t, v_ch3f, v_yes, v_loop_nx, v_loop_ct, v_loop_bk, v_loop_rt, v_lcTt, v_lcTf, v_lcE, v_tup, v_lst, e_tup0, e_tup1, e_tup2, e_tup3, e_tup4, e_lst0, e_lst1, e_lst2, e_lst3, e_lst4, v_items, v_itemsT, v_itemsL, v_itemsZ, v_rng, v_zip, v_lc, v_lcF, v_lstF, q_add, q_sub, q_ge, q_gt, q_lt, q_le, q_int, q_lenT, q_lenL, q_tupL, q_tupT, q_lstL, q_lstT, q_eqI, q_neI, q_inT, q_ninT, wp_pu, wp_some, List.replicate, Nat.reduceSub, List.getElem?_cons_succ, List.getElem?_cons_zero, List.set_cons_succ, List.set_cons_zero, Option.join_some, wipeE, Bool.not_true, Bool.not_false]
  refine (plan_s (far := 0) (near := 1) (by decide) (by decide)).at0 hd (by omega) fun d n1 dk1 ⟨many, rs, as, bs, ed, hp⟩ hn1 hd1 => ?_
  subst ed
  have hR := hp.rows
  have h1 := hp.m1
  have h4 := hp.m4
  have few := hp.few
  simp only [wp_mFn1, wp_mFn2, wp_mFn3, wp_mFn4, wp_mFn5, v_seq, v_seq_nx, v_seq_rt, v_seq_bk, v_seq_ct, v_ifS, v_ifE, v_ift, v_iff, v_set, v_setF, v_ret, v_retF, v_retN, v_expr, v_exprF, v_next, v_brk, v_cont, v_fnp_rt, v_fnp_nx, v_par, v_parF, v_par3, v_par3F, v_asg, v_asgF2, v_for, v_forF, v_op2, v_op2F, v_op2G, v_op1, v_op1F, v_call, v_callF, v_lend, v_callK, v_kcF, v_cons, v_consF, v_consG, v_nil, v_var, v_cst, v_tst, v_asBF, v_not, v_notF, v_and, v_andt, v_andf, v_or, v_ort, v_orf, v_andV, v_andVt, v_andVf, v_orV, v_orVt, v_orVf, v_notV, v_notVF, v_chain, v_ch1, v_ch2, v_ch3t, v_ch3f, v_yes, v_loop_nx, v_loop_ct, v_loop_bk, v_loop_rt, v_lcTt, v_lcTf, v_lcE, v_tup, v_lst, e_tup0, e_tup1, e_tup2, e_tup3, e_tup4, e_lst0, e_lst1, e_lst2, e_lst3, e_lst4, v_items, v_itemsT, v_itemsL, v_itemsZ, v_rng, v_zip, v_lc, v_lcF, v_lstF, q_add, q_sub, q_ge, q_gt, q_lt, q_le, q_int, q_lenT, q_lenL, q_tupL, q_tupT, q_lstL, q_lstT, q_eqI, q_neI, q_inT, q_ninT, wp_pu, wp_some, List.replicate, Nat.reduceSub, List.getElem?_cons_succ, List.getElem?_cons_zero, List.set_cons_succ, List.set_cons_zero, Option.join_some, wipeE, Bool.not_true, Bool.not_false, (code_s hp).eq1, pl_dget p_called, e_lenH hp.m4, v_rngI (show (0 : Int) ≤ 5 by decide) (show (5 : Int) ≤ 100000 by decide)]
  refine for_n 5 (fun i ρ h => ∃ (n' : Nat) (r : List (Option W)), ρ = some (.ref 1) :: some (.d (.dic (planD many rs as bs))) :: some (.d (caseD many rs as bs)) :: some (.d (.int many)) :: r ∧ r.length = 15 ∧ n' ≤ n + 6100 + 60 * i ∧ Dk n' h) ⟨n1, _, rfl, rfl, by omega, hd1⟩ ?_ ?_
  · rintro i ρ h hi ⟨n', r, rfl, hr, hn', hd'⟩
    obtain ⟨b4, b5, b6, b7, b8, b9, b10, b11, b12, b13, b14, b15, b16, b17, b18, rfl⟩ : ∃ b4 b5 b6 b7 b8 b9 b10 b11 b12 b13 b14 b15 b16 b17 b18 : Option W, r = [b4, b5, b6, b7, b8, b9, b10, b11, b12, b13, b14, b15, b16, b17, b18] := by match r, hr with | [b4, b5, b6, b7, b8, b9, b10, b11, b12, b13, b14, b15, b16, b17, b18], _ => exact ⟨_, _, _, _, _, _, _, _, _, _, _, _, _, _, _, rfl⟩
    refine ⟨_, rfl, ?_⟩
    simp only [wp_mFn1, wp_mFn2, wp_mFn3, wp_mFn4, wp_mFn5, v_seq, v_seq_nx, v_seq_rt, v_seq_bk, v_seq_ct, v_ifS, v_ifE, v_ift, v_iff, v_set, v_setF, v_ret, v_retF, v_retN, v_expr, v_exprF, v_next, v_brk, v_cont, v_fnp_rt, v_fnp_nx, v_par, v_parF, v_par3, v_par3F, v_asg, v_asgF2, v_for, v_forF, v_op2, v_op2F, v_op2G, v_op1, v_op1F, v_call, v_callF, v_lend, v_callK, v_kcF, v_cons, v_consF, v_consG, v_nil, v_var, v_cst, v_tst, v_asBF, v_not, v_notF, v_and, v_andt, v_andf, v_or, v_ort, v_orf, v_andV, v_andVt, v_andVf, v_orV, v_orVt, v_orVf, v_notV, v_notVF, v_chain, v_ch1, v_ch2, v_ch3t, v_ch3f, v_yes, v_loop_nx, v_loop_ct, v_loop_bk, v_loop_rt, v_lcTt, v_lcTf, v_lcE, v_tup, v_lst, e_tup0, e_tup1, e_tup2, e_tup3, e_tup4, e_lst0, e_lst1, e_lst2, e_lst3, e_lst4, v_items, v_itemsT, v_itemsL, v_itemsZ, v_rng, v_zip, v_lcF, v_lstF, q_add, q_sub, q_ge, q_gt, q_lt, q_le, q_int, q_lenT, q_lenL, q_tupL, q_tupT, q_lstL, q_lstT, q_eqI, q_neI, q_inT, q_ninT, wp_pu, wp_some, List.replicate, Nat.reduceSub, List.getElem?_cons_succ, List.getElem?_cons_zero, List.set_cons_succ, List.set_cons_zero, Option.join_some, wipeE, Bool.not_true, Bool.not_false]
    refine drawn_s hp hd' (by omega) (by rfl) (by rfl) (by rfl) fun ss n2 dk2 hne hl hs hn2 hd2 => ?_
    have hL : Like many ss := hR.like hs (by omega)
    have hc := cols_len many ss
    simp only [wp_mFn1, wp_mFn2, wp_mFn3, wp_mFn4, wp_mFn5, v_seq, v_seq_nx, v_seq_rt, v_seq_bk, v_seq_ct, v_ifS, v_ifE, v_ift, v_iff, v_set, v_setF, v_ret, v_retF, v_retN, v_expr, v_exprF, v_next, v_brk, v_cont, v_fnp_rt, v_fnp_nx, v_par, v_parF, v_par3, v_par3F, v_asg, v_asgF2, v_for, v_forF, v_op2, v_op2F, v_op2G, v_op1, v_op1F, v_call, v_callF, v_lend, v_callK, v_kcF, v_cons, v_consF, v_consG, v_nil, v_var, v_cst, v_tst, v_asBF, v_not, v_notF, v_and, v_andt, v_andf, v_or, v_ort, v_orf, v_andV, v_andVt, v_andVf, v_orV, v_orVt, v_orVf, v_notV, v_notVF, v_chain, v_ch1, v_ch2, v_ch3t, v_ch3f, v_yes, v_loop_nx, v_loop_ct, v_loop_bk, v_loop_rt, v_lcTt, v_lcTf, v_lcE, v_tup, v_lst, e_tup0, e_tup1, e_tup2, e_tup3, e_tup4, e_lst0, e_lst1, e_lst2, e_lst3, e_lst4, v_items, v_itemsT, v_itemsL, v_itemsZ, v_rng, v_zip, v_lc, v_lcF, v_lstF, q_add, q_sub, q_ge, q_gt, q_lt, q_le, q_int, q_lenT, q_lenL, q_tupL, q_tupT, q_lstL, q_lstT, q_eqI, q_neI, q_inT, q_ninT, wp_pu, wp_some, List.replicate, Nat.reduceSub, List.getElem?_cons_succ, List.getElem?_cons_zero, List.set_cons_succ, List.set_cons_zero, Option.join_some, wipeE, Bool.not_true, Bool.not_false, (linputs_s (x := eLT ss) h4 hL hne rfl).eq1]
    refine (draw_s (k := many) (by omega) (by omega)).at0 hd2 (by omega) fun d n3 dk3 ⟨q, er, g0, g1⟩ hn3 hd3 => ?_
    subst er
    obtain ⟨k, rfl⟩ : ∃ k : Nat, q = k := ⟨q.toNat, by omega⟩
    have hk : k < many := by omega
    have hg : (cols many ss).getD k [] ∈ cols many ss := by
      rw [List.getD_eq_getElem?_getD, List.getElem?_eq_getElem (by omega)]
      exact List.getElem_mem _
    obtain ⟨g6, gn⟩ := cols_mem hL hne hg
    simp only [wp_mFn1, wp_mFn2, wp_mFn3, wp_mFn4, wp_mFn5, v_seq, v_seq_nx, v_seq_rt, v_seq_bk, v_seq_ct, v_ifS, v_ifE, v_ift, v_iff, v_set, v_setF, v_ret, v_retF, v_retN, v_expr, v_exprF, v_next, v_brk, v_cont, v_fnp_rt, v_fnp_nx, v_par, v_parF, v_par3, v_par3F, v_asg, v_asgF2, v_for, v_forF, v_op2, v_op2F, v_op2G, v_op1, v_op1F, v_call, v_callF, v_lend, v_callK, v_kcF, v_cons, v_consF, v_consG, v_nil, v_var, v_cst, v_tst, v_asBF, v_not, v_notF, v_and, v_andt, v_andf, v_or, v_ort, v_orf, v_andV, v_andVt, v_andVf, v_orV, v_orVt, v_orVf, v_notV, v_notVF, v_chain, v_ch1, v_ch2, v_ch3t, v_ch3f, v_yes, v_loop_nx, v_loop_ct, v_loop_bk, v_loop_rt, v_lcTt, v_lcTf, v_lcE, v_tup, v_lst, e_tup0, e_tup1, e_tup2, e_tup3, e_tup4, e_lst0, e_lst1, e_lst2, e_lst3, e_lst4, v_items, v_itemsT, v_itemsL, v_itemsZ, v_rng, v_zip, v_lc, v_lcF, v_lstF, q_add, q_sub, q_ge, q_gt, q_lt, q_le, q_int, q_lenT, q_lenL, q_tupL, q_tupT, q_lstL, q_lstT, q_eqI, q_neI, q_inT, q_ninT, wp_pu, wp_some, List.replicate, Nat.reduceSub, List.getElem?_cons_succ, List.getElem?_cons_zero, List.set_cons_succ, List.set_cons_zero, Option.join_some, wipeE, Bool.not_true, Bool.not_false]
    refine (lot_s (bx := cols many ss) (by omega) gn g6).at0 hd3 (by omega) fun d n4 dk4 ⟨l1, el, l1n, l1s⟩ hn4 hd4 => ?_
    subst el
    simp only [wp_mFn1, wp_mFn2, wp_mFn3, wp_mFn4, wp_mFn5, v_seq, v_seq_nx, v_seq_rt, v_seq_bk, v_seq_ct, v_ifS, v_ifE, v_ift, v_iff, v_set, v_setF, v_ret, v_retF, v_retN, v_expr, v_exprF, v_next, v_brk, v_cont, v_fnp_rt, v_fnp_nx, v_par, v_parF, v_par3, v_par3F, v_asg, v_asgF2, v_for, v_forF, v_op2, v_op2F, v_op2G, v_op1, v_op1F, v_call, v_callF, v_lend, v_callK, v_kcF, v_cons, v_consF, v_consG, v_nil, v_var, v_cst, v_tst, v_asBF, v_not, v_notF, v_and, v_andt, v_andf, v_or, v_ort, v_orf, v_andV, v_andVt, v_andVf, v_orV, v_orVt, v_orVf, v_notV, v_notVF, v_chain, v_ch1, v_ch2, v_ch3t, v_ch3f, v_yes, v_loop_nx, v_loop_ct, v_loop_bk, v_loop_rt, v_lcTt, v_lcTf, v_lcE, v_tup, v_lst, e_tup0, e_tup1, e_tup2, e_tup3, e_tup4, e_lst0, e_lst1, e_lst2, e_lst3, e_lst4, v_items, v_itemsT, v_itemsL, v_itemsZ, v_rng, v_zip, v_lc, v_lcF, v_lstF, q_add, q_sub, q_ge, q_gt, q_lt, q_le, q_int, q_lenT, q_lenL, q_tupL, q_tupT, q_lstL, q_lstT, q_eqI, q_neI, q_inT, q_ninT, wp_pu, wp_some, List.replicate, Nat.reduceSub, List.getElem?_cons_succ, List.getElem?_cons_zero, List.set_cons_succ, List.set_cons_zero, Option.join_some, wipeE, Bool.not_true, Bool.not_false, (within_s hp hR.len hc).eq2]
    refine lc_map eT (fun r => decide (r.getD k 0 ∈ l1)) eT (fun r hr => ⟨_, rfl, fun PB q => ?_, fun _ P q => ?_⟩) ?_
    · have hl := hR.len r (List.mem_filter.mp hr).1
      simp only [wp_mFn1, wp_mFn2, wp_mFn3, wp_mFn4, wp_mFn5, v_seq, v_seq_nx, v_seq_rt, v_seq_bk, v_seq_ct, v_ifS, v_ifE, v_ift, v_iff, v_set, v_setF, v_ret, v_retF, v_retN, v_expr, v_exprF, v_next, v_brk, v_cont, v_fnp_rt, v_fnp_nx, v_par, v_parF, v_par3, v_par3F, v_asg, v_asgF2, v_for, v_forF, v_op2, v_op2F, v_op2G, v_op1, v_op1F, v_call, v_callF, v_lend, v_callK, v_kcF, v_cons, v_consF, v_consG, v_nil, v_var, v_cst, v_tst, v_asBF, v_not, v_notF, v_and, v_andt, v_andf, v_or, v_ort, v_orf, v_andV, v_andVt, v_andVf, v_orV, v_orVt, v_orVf, v_notV, v_notVF, v_chain, v_ch1, v_ch2, v_ch3t, v_ch3f, v_yes, v_loop_nx, v_loop_ct, v_loop_bk, v_loop_rt, v_lcTt, v_lcTf, v_lcE, v_tup, v_lst, e_tup0, e_tup1, e_tup2, e_tup3, e_tup4, e_lst0, e_lst1, e_lst2, e_lst3, e_lst4, v_items, v_itemsT, v_itemsL, v_itemsZ, v_rng, v_zip, v_lc, v_lcF, v_lstF, q_add, q_sub, q_ge, q_gt, q_lt, q_le, q_int, q_lenT, q_lenL, q_tupL, q_tupT, q_lstL, q_lstT, q_eqI, q_neI, q_inT, q_ninT, wp_pu, wp_some, List.replicate, Nat.reduceSub, List.getElem?_cons_succ, List.getElem?_cons_zero, List.set_cons_succ, List.set_cons_zero, Option.join_some, wipeE, Bool.not_true, Bool.not_false, q_ixT (show k < r.length by omega)]
      exact q
    · simp only [wp_mFn1, wp_mFn2, wp_mFn3, wp_mFn4, wp_mFn5, v_seq, v_seq_nx, v_seq_rt, v_seq_bk, v_seq_ct, v_ifS, v_ifE, v_ift, v_iff, v_set, v_setF, v_ret, v_retF, v_retN, v_expr, v_exprF, v_next, v_brk, v_cont, v_fnp_rt, v_fnp_nx, v_par, v_parF, v_par3, v_par3F, v_asg, v_asgF2, v_for, v_forF, v_op2, v_op2F, v_op2G, v_op1, v_op1F, v_call, v_callF, v_lend, v_callK, v_kcF, v_cons, v_consF, v_consG, v_nil, v_var, v_cst, v_tst, v_asBF, v_not, v_notF, v_and, v_andt, v_andf, v_or, v_ort, v_orf, v_andV, v_andVt, v_andVf, v_orV, v_orVt, v_orVf, v_notV, v_notVF, v_chain, v_ch1, v_ch2, v_ch3t, v_ch3f, v_yes, v_loop_nx, v_loop_ct, v_loop_bk, v_loop_rt, v_lcTt, v_lcTf, v_lcE, v_tup, v_lst, e_tup0, e_tup1, e_tup2, e_tup3, e_tup4, e_lst0, e_lst1, e_lst2, e_lst3, e_lst4, v_items, v_itemsT, v_itemsL, v_itemsZ, v_rng, v_zip, v_lc, v_lcF, v_lstF, q_add, q_sub, q_ge, q_gt, q_lt, q_le, q_int, q_lenT, q_lenL, q_tupL, q_tupT, q_lstL, q_lstT, q_eqI, q_neI, q_inT, q_ninT, wp_pu, wp_some, List.replicate, Nat.reduceSub, List.getElem?_cons_succ, List.getElem?_cons_zero, List.set_cons_succ, List.set_cons_zero, Option.join_some, wipeE, Bool.not_true, Bool.not_false]
      exact q
    have eS : ((rs.filter (inBox (cols many ss))).filter fun r => decide (r.getD k 0 ∈ l1)) = sel rs (cols many ss) k l1 := rfl
    rw [eS]
    have hS := sel_like (bx := cols many ss) (k := k) (part := l1) hp
    have hSn : sel rs (cols many ss) k l1 ≠ [] := by
      obtain ⟨x, hx⟩ := List.exists_mem_of_ne_nil l1 l1n
      exact sel_ne hR.len hs hk (l1s x hx) hx
    have hSc := cols_len many (sel rs (cols many ss) k l1)
    generalize hS0 : sel rs (cols many ss) k l1 = S at *
    have SS : ∀ r ∈ S, r ∈ rs := fun r hr => by rw [← hS0] at hr; exact sel_sub r hr
    have Sl : S.length ≤ 100 := by rw [← hS0]; exact Nat.le_trans sel_len few
    have xS := shN_cols hR h4 SS hS
    have mS := sml_eTT (cols many S)
    have tS := (told_s hp hc hk (part := l1)).eq4
    rw [hS0] at tS
    have iS := (worlds_in_s hp hR.len hSc).eq2
    rw [← hS0, sel_box hR.len hc hk, hS0] at iS
    have xR := shN_sub hR h4 SS Sl
    simp only [wp_mFn1, wp_mFn2, wp_mFn3, wp_mFn4, wp_mFn5, v_seq, v_seq_nx, v_seq_rt, v_seq_bk, v_seq_ct, v_ifS, v_ifE, v_ift, v_iff, v_set, v_setF, v_ret, v_retF, v_retN, v_expr, v_exprF, v_next, v_brk, v_cont, v_fnp_rt, v_fnp_nx, v_par, v_parF, v_par3, v_par3F, v_asg, v_asgF2, v_for, v_forF, v_op2, v_op2F, v_op2G, v_op1, v_op1F, v_call, v_callF, v_lend, v_callK, v_kcF, v_cons, v_consF, v_consG, v_nil, v_var, v_cst, v_tst, v_asBF, v_not, v_notF, v_and, v_andt, v_andf, v_or, v_ort, v_orf, v_andV, v_andVt, v_andVf, v_orV, v_orVt, v_orVf, v_notV, v_notVF, v_chain, v_ch1, v_ch2, v_ch3t, v_ch3f, v_yes, v_loop_nx, v_loop_ct, v_loop_bk, v_loop_rt, v_lcTt, v_lcTf, v_lcE, v_tup, v_lst, e_tup0, e_tup1, e_tup2, e_tup3, e_tup4, e_lst0, e_lst1, e_lst2, e_lst3, e_lst4, v_items, v_itemsT, v_itemsL, v_itemsZ, v_rng, v_zip, v_lc, v_lcF, v_lstF, q_add, q_sub, q_ge, q_gt, q_lt, q_le, q_int, q_lenT, q_lenL, q_tupL, q_tupT, q_lstL, q_lstT, q_eqI, q_neI, q_inT, q_ninT, wp_pu, wp_some, List.replicate, Nat.reduceSub, List.getElem?_cons_succ, List.getElem?_cons_zero, List.set_cons_succ, List.set_cons_zero, Option.join_some, wipeE, Bool.not_true, Bool.not_false, (linputs_s (x := eLT S) h4 hS hSn rfl).eq1, tS]
    refine kc_go rfl rfl ((told_s hp hc hk (part := l1)) _ _ ?_)
    rw [hS0]
    have xc := shN_cols hR h4 hs hL
    have tA := (told_s hp hc hk (part := (cols many ss).getD k [])).eq4
    rw [sel_all hR.len hs hk, cols_tight hR.len hs] at tA
    simp only [wp_mFn1, wp_mFn2, wp_mFn3, wp_mFn4, wp_mFn5, v_seq, v_seq_nx, v_seq_rt, v_seq_bk, v_seq_ct, v_ifS, v_ifE, v_ift, v_iff, v_set, v_setF, v_ret, v_retF, v_retN, v_expr, v_exprF, v_next, v_brk, v_cont, v_fnp_rt, v_fnp_nx, v_par, v_parF, v_par3, v_par3F, v_asg, v_asgF2, v_for, v_forF, v_op2, v_op2F, v_op2G, v_op1, v_op1F, v_call, v_callF, v_lend, v_callK, v_kcF, v_cons, v_consF, v_consG, v_nil, v_var, v_cst, v_tst, v_asBF, v_not, v_notF, v_and, v_andt, v_andf, v_or, v_ort, v_orf, v_andV, v_andVt, v_andVf, v_orV, v_orVt, v_orVf, v_notV, v_notVF, v_chain, v_ch1, v_ch2, v_ch3t, v_ch3f, v_yes, v_loop_nx, v_loop_ct, v_loop_bk, v_loop_rt, v_lcTt, v_lcTf, v_lcE, v_tup, v_lst, e_tup0, e_tup1, e_tup2, e_tup3, e_tup4, e_lst0, e_lst1, e_lst2, e_lst3, e_lst4, v_items, v_itemsT, v_itemsL, v_itemsZ, v_rng, v_zip, v_lc, v_lcF, v_lstF, q_add, q_sub, q_ge, q_gt, q_lt, q_le, q_int, q_lenT, q_lenL, q_tupL, q_tupT, q_lstL, q_lstT, q_eqI, q_neI, q_inT, q_ninT, wp_pu, wp_some, List.replicate, Nat.reduceSub, List.getElem?_cons_succ, List.getElem?_cons_zero, List.set_cons_succ, List.set_cons_zero, Option.join_some, wipeE, Bool.not_true, Bool.not_false, repp xS, q_same (sml_pair mS mS), rep1 xS rfl, iS, rep1 xR rfl, q_same (sml_eTT S), q_ixTT (show k < (cols many ss).length by omega), tA, rep1 xc rfl, q_same (sml_eTT (cols many ss))]
    refine (draw_s (k := many) (by omega) (by omega)).at0 hd4 (by omega) fun d n5 dk5 ⟨q, er, g0, g1⟩ hn5 hd5 => ?_
    subst er
    obtain ⟨j, rfl⟩ : ∃ j : Nat, q = j := ⟨q.toNat, by omega⟩
    have hj : j < many := by omega
    have hgj : (cols many S).getD j [] ∈ cols many S := by
      rw [List.getD_eq_getElem?_getD, List.getElem?_eq_getElem (by omega)]
      exact List.getElem_mem _
    obtain ⟨j6, jn⟩ := cols_mem hS hSn hgj
    simp only [wp_mFn1, wp_mFn2, wp_mFn3, wp_mFn4, wp_mFn5, v_seq, v_seq_nx, v_seq_rt, v_seq_bk, v_seq_ct, v_ifS, v_ifE, v_ift, v_iff, v_set, v_setF, v_ret, v_retF, v_retN, v_expr, v_exprF, v_next, v_brk, v_cont, v_fnp_rt, v_fnp_nx, v_par, v_parF, v_par3, v_par3F, v_asg, v_asgF2, v_for, v_forF, v_op2, v_op2F, v_op2G, v_op1, v_op1F, v_call, v_callF, v_lend, v_callK, v_kcF, v_cons, v_consF, v_consG, v_nil, v_var, v_cst, v_tst, v_asBF, v_not, v_notF, v_and, v_andt, v_andf, v_or, v_ort, v_orf, v_andV, v_andVt, v_andVf, v_orV, v_orVt, v_orVf, v_notV, v_notVF, v_chain, v_ch1, v_ch2, v_ch3t, v_ch3f, v_yes, v_loop_nx, v_loop_ct, v_loop_bk, v_loop_rt, v_lcTt, v_lcTf, v_lcE, v_tup, v_lst, e_tup0, e_tup1, e_tup2, e_tup3, e_tup4, e_lst0, e_lst1, e_lst2, e_lst3, e_lst4, v_items, v_itemsT, v_itemsL, v_itemsZ, v_rng, v_zip, v_lc, v_lcF, v_lstF, q_add, q_sub, q_ge, q_gt, q_lt, q_le, q_int, q_lenT, q_lenL, q_tupL, q_tupT, q_lstL, q_lstT, q_eqI, q_neI, q_inT, q_ninT, wp_pu, wp_some, List.replicate, Nat.reduceSub, List.getElem?_cons_succ, List.getElem?_cons_zero, List.set_cons_succ, List.set_cons_zero, Option.join_some, wipeE, Bool.not_true, Bool.not_false]
    refine (lot_s (bx := cols many S) (by omega) jn j6).at0 hd5 (by omega) fun d n6 dk6 ⟨l2, el, l2n, l2s⟩ hn6 hd6 => ?_
    subst el
    have cF := cols_len many (sel rs (cols many ss) j l2)
    simp only [wp_mFn1, wp_mFn2, wp_mFn3, wp_mFn4, wp_mFn5, v_seq, v_seq_nx, v_seq_rt, v_seq_bk, v_seq_ct, v_ifS, v_ifE, v_ift, v_iff, v_set, v_setF, v_ret, v_retF, v_retN, v_expr, v_exprF, v_next, v_brk, v_cont, v_fnp_rt, v_fnp_nx, v_par, v_parF, v_par3, v_par3F, v_asg, v_asgF2, v_for, v_forF, v_op2, v_op2F, v_op2G, v_op1, v_op1F, v_call, v_callF, v_lend, v_callK, v_kcF, v_cons, v_consF, v_consG, v_nil, v_var, v_cst, v_tst, v_asBF, v_not, v_notF, v_and, v_andt, v_andf, v_or, v_ort, v_orf, v_andV, v_andVt, v_andVf, v_orV, v_orVt, v_orVf, v_notV, v_notVF, v_chain, v_ch1, v_ch2, v_ch3t, v_ch3f, v_yes, v_loop_nx, v_loop_ct, v_loop_bk, v_loop_rt, v_lcTt, v_lcTf, v_lcE, v_tup, v_lst, e_tup0, e_tup1, e_tup2, e_tup3, e_tup4, e_lst0, e_lst1, e_lst2, e_lst3, e_lst4, v_items, v_itemsT, v_itemsL, v_itemsZ, v_rng, v_zip, v_lc, v_lcF, v_lstF, q_add, q_sub, q_ge, q_gt, q_lt, q_le, q_int, q_lenT, q_lenL, q_tupL, q_tupT, q_lstL, q_lstT, q_eqI, q_neI, q_inT, q_ninT, wp_pu, wp_some, List.replicate, Nat.reduceSub, List.getElem?_cons_succ, List.getElem?_cons_zero, List.set_cons_succ, List.set_cons_zero, Option.join_some, wipeE, Bool.not_true, Bool.not_false, (told_s hp hc hj (part := l2)).eq4, (told_s hp hSc hj (part := l2)).eq4]
    by_cases hjk : (j : Int) = k
    · rw [decide_eq_true hjk]
      simp only [wp_mFn1, wp_mFn2, wp_mFn3, wp_mFn4, wp_mFn5, v_seq, v_seq_nx, v_seq_rt, v_seq_bk, v_seq_ct, v_ifS, v_ifE, v_ift, v_iff, v_set, v_setF, v_ret, v_retF, v_retN, v_expr, v_exprF, v_next, v_brk, v_cont, v_fnp_rt, v_fnp_nx, v_par, v_parF, v_par3, v_par3F, v_asg, v_asgF2, v_for, v_forF, v_op2, v_op2F, v_op2G, v_op1, v_op1F, v_call, v_callF, v_lend, v_callK, v_kcF, v_cons, v_consF, v_consG, v_nil, v_var, v_cst, v_tst, v_asBF, v_not, v_notF, v_and, v_andt, v_andf, v_or, v_ort, v_orf, v_andV, v_andVt, v_andVf, v_orV, v_orVt, v_orVf, v_notV, v_notVF, v_chain, v_ch1, v_ch2, v_ch3t, v_ch3f, v_yes, v_loop_nx, v_loop_ct, v_loop_bk, v_loop_rt, v_lcTt, v_lcTf, v_lcE, v_tup, v_lst, e_tup0, e_tup1, e_tup2, e_tup3, e_tup4, e_lst0, e_lst1, e_lst2, e_lst3, e_lst4, v_items, v_itemsT, v_itemsL, v_itemsZ, v_rng, v_zip, v_lc, v_lcF, v_lstF, q_add, q_sub, q_ge, q_gt, q_lt, q_le, q_int, q_lenT, q_lenL, q_tupL, q_tupT, q_lstL, q_lstT, q_eqI, q_neI, q_inT, q_ninT, wp_pu, wp_some, List.replicate, Nat.reduceSub, List.getElem?_cons_succ, List.getElem?_cons_zero, List.set_cons_succ, List.set_cons_zero, Option.join_some, wipeE, Bool.not_true, Bool.not_false]
      exact ⟨n6, _, rfl, rfl, by omega, hd6⟩
    · rw [decide_eq_false hjk]
      have e2 := sel_two (p1 := l1) (p2 := l2) hR.len hc hk hj
      rw [hS0] at e2
      have xL := shN_cols hR h4 (sel_sub (bx := cols many S) (k := j) (part := l2)) (sel_like hp)
      have mL := sml_eTT (cols many (sel rs (cols many S) j l2))
      have tL := (told_s hp cF hk (part := l1.filter fun x => decide (x ∈ (cols many (sel rs (cols many ss) j l2)).getD k []))).eq4
      rw [← e2] at tL
      simp only [wp_mFn1, wp_mFn2, wp_mFn3, wp_mFn4, wp_mFn5, v_seq, v_seq_nx, v_seq_rt, v_seq_bk, v_seq_ct, v_ifS, v_ifE, v_ift, v_iff, v_set, v_setF, v_ret, v_retF, v_retN, v_expr, v_exprF, v_next, v_brk, v_cont, v_fnp_rt, v_fnp_nx, v_par, v_parF, v_par3, v_par3F, v_asg, v_asgF2, v_for, v_forF, v_op2, v_op2F, v_op2G, v_op1, v_op1F, v_call, v_callF, v_lend, v_callK, v_kcF, v_cons, v_consF, v_consG, v_nil, v_var, v_cst, v_tst, v_asBF, v_not, v_notF, v_and, v_andt, v_andf, v_or, v_ort, v_orf, v_andV, v_andVt, v_andVf, v_orV, v_orVt, v_orVf, v_notV, v_notVF, v_chain, v_ch1, v_ch2, v_ch3t, v_ch3f, v_yes, v_loop_nx, v_loop_ct, v_loop_bk, v_loop_rt, v_lcTt, v_lcTf, v_lcE, v_tup, v_lst, e_tup0, e_tup1, e_tup2, e_tup3, e_tup4, e_lst0, e_lst1, e_lst2, e_lst3, e_lst4, v_items, v_itemsT, v_itemsL, v_itemsZ, v_rng, v_zip, v_lc, v_lcF, v_lstF, q_add, q_sub, q_ge, q_gt, q_lt, q_le, q_int, q_lenT, q_lenL, q_tupL, q_tupT, q_lstL, q_lstT, q_eqI, q_neI, q_inT, q_ninT, wp_pu, wp_some, List.replicate, Nat.reduceSub, List.getElem?_cons_succ, List.getElem?_cons_zero, List.set_cons_succ, List.set_cons_zero, Option.join_some, wipeE, Bool.not_true, Bool.not_false, q_ixTT (show k < (cols many (sel rs (cols many ss) j l2)).length by omega), (common_s _ _).eq2, tL, rep1 xL rfl, q_same mL]
      exact ⟨n6, _, rfl, rfl, by omega, hd6⟩
  · rintro ρ h ⟨n', r, rfl, hr, hn', hd'⟩
    simp only [wp_mFn1, wp_mFn2, wp_mFn3, wp_mFn4, wp_mFn5, v_seq, v_seq_nx, v_seq_rt, v_seq_bk, v_seq_ct, v_ifS, v_ifE, v_ift, v_iff, v_set, v_setF, v_ret, v_retF, v_retN, v_expr, v_exprF, v_next, v_brk, v_cont, v_fnp_rt, v_fnp_nx, v_par, v_parF, v_par3, v_par3F, v_asg, v_asgF2, v_for, v_forF, v_op2, v_op2F, v_op2G, v_op1, v_op1F, v_call, v_callF, v_lend, v_callK, v_kcF, v_cons, v_consF, v_consG, v_nil, v_var, v_cst, v_tst, v_asBF, v_not, v_notF, v_and, v_andt, v_andf, v_or, v_ort, v_orf, v_andV, v_andVt, v_andVf, v_orV, v_orVt, v_orVf, v_notV, v_notVF, v_chain, v_ch1, v_ch2, v_ch3t, v_ch3f, v_yes, v_loop_nx, v_loop_ct, v_loop_bk, v_loop_rt, v_lcTt, v_lcTf, v_lcE, v_tup, v_lst, e_tup0, e_tup1, e_tup2, e_tup3, e_tup4, e_lst0, e_lst1, e_lst2, e_lst3, e_lst4, v_items, v_itemsT, v_itemsL, v_itemsZ, v_rng, v_zip, v_lc, v_lcF, v_lstF, q_add, q_sub, q_ge, q_gt, q_lt, q_le, q_int, q_lenT, q_lenL, q_tupL, q_tupT, q_lstL, q_lstT, q_eqI, q_neI, q_inT, q_ninT, wp_pu, wp_some, List.replicate, Nat.reduceSub, List.getElem?_cons_succ, List.getElem?_cons_zero, List.set_cons_succ, List.set_cons_zero, Option.join_some, wipeE, Bool.not_true, Bool.not_false]
    exact fin _ n' h rfl (by omega) hd'
end Lw

set_option Elab.async false
set_option linter.all false
set_option maxRecDepth 100000
set_option maxHeartbeats 1000000
namespace Lw
open PySem hiding Env
open L2 DD
theorem law_s {ns : List Int} (hl : ns.length ≤ 63) : wp (m_law [.d (.frz (ns.map .int))]) (fun w _ => w = .d (.bl true)) [] := by
  unfold m_law
  rw [wp_mFn1]
  simp only [List.replicate, Nat.reduceSub]
  refine seqK fun K nx rt _ _ => ?_
  rw [wp_mSet, wp_mCall, wp_mCons, wp_mV0]
  simp only [List.getElem?_cons_succ, List.getElem?_cons_zero, Option.join_some, wp_some]
  rw [wp_mNil]
  refine deck_s hl fun dk0 hd => ?_
  refine nx _ _ (seqK fun K nx rt _ _ => ?_)
  simp only [List.set_cons_succ, List.set_cons_zero]
  rw [wp_mFor, wp_mRng1, wp_mCons, wp_mC, wp_mNil]
  refine ⟨rangeD 0 4, e_rng1 (k := 4) (by decide), ?_⟩
  refine wp_loop (I := fun i ρ h => ∃ (n' : Nat) (b2 : Option W), ρ = [some (.d (.frz (ns.map .int))), some (.ref 1), b2] ∧ n' ≤ 7000 * i ∧ Dk n' h) ⟨0, _, rfl, by omega, hd⟩ ?_ ?_
  · rintro i d ρ h hi ⟨n', b2, rfl, hn', hd'⟩
    have hlt := (List.getElem?_eq_some_iff.mp hi).1
    rw [rangeD_len] at hlt
    refine ⟨_, rfl, ?_⟩
    rw [wp_mIfS, wp_mNot, wp_mT, wp_mLend]
    simp only [wp_mCons, wp_mNil, wp_mV0, List.set_cons_succ, List.set_cons_zero, List.getElem?_cons_succ, List.getElem?_cons_zero, Option.join_some, wp_some]
    refine right_s.at0 hd' (by omega) fun d n2 dk2 hb hn2 hd2 => ?_
    subst hb
    rw [wp_asB, if_neg (by decide), wp_mNext]
    exact ⟨n2, _, rfl, by omega, hd2⟩
  · rintro ρ h ⟨n', b2, rfl, hn', hd'⟩
    refine nx _ _ ?_
    rw [wp_mRet, wp_mC]
    rfl
theorem plain (ns : List Int) (hl : ns.length ≤ 63) : ∃ h', m_law [.d (.frz (ns.map .int))] [] = .ok (.d (.bl true)) h' := by
  have h := law_s hl
  unfold wp at h
  cases e : m_law [.d (.frz (ns.map .int))] [] with
  | ok w h' => rw [e] at h; have h : w = _ := h; rw [h]; exact ⟨h', rfl⟩
  | _ => rw [e] at h; exact h.elim
end Lw

open PySem PySem.W PyProof.Rows
set_option maxRecDepth 100000 in
set_option maxHeartbeats 0 in
theorem PySem.Challenge.cw_nomoreheard_k13_parts_told_holds : PySem.Challenge.rw_nomoreheard_k13_parts_told.Holds := by
  w_on; o_law; k_head; (case hw => w_witness2)
  k_fill
  refine DD.walk_ofG (l := PySem.Challenge.rw_nomoreheard_k13_parts_told) (k := 10) (x := "_law_script") (m := Lw.m_law) rfl (by decide) rfl ⟨rfl, by decide, by decide⟩ rfl (fun w h Y => PySem.W.kIn_of Y) ?F Lw.plain
  case F =>
    intro w mg fa h KX G hmg
    refine' Lw.tx_end KX G hmg ?n_Case ?n__law_deck ?lk__law_deck ?co__law_deck ?kp__law_deck ?n__law_draw ?lk__law_draw ?co__law_draw ?kp__law_draw ?n__law_pick ?lk__law_pick ?co__law_pick ?kp__law_pick ?n__law_rows ?lk__law_rows ?co__law_rows ?kp__law_rows ?n__law_some ?lk__law_some ?co__law_some ?kp__law_some ?n__law_marks ?lk__law_marks ?co__law_marks ?kp__law_marks ?n__law_plan ?lk__law_plan ?co__law_plan ?kp__law_plan ?n_is_called ?lk_is_called ?co_is_called ?kp_is_called ?n_are_names ?lk_are_names ?co_are_names ?kp_are_names ?n_is_integer ?lk_is_integer ?co_is_integer ?kp_is_integer ?n_is_world ?lk_is_world ?co_is_world ?kp_is_world ?n_are_ascending ?lk_are_ascending ?co_are_ascending ?kp_are_ascending ?n_are_worlds ?lk_are_worlds ?co_are_worlds ?kp_are_worlds ?n_is_group ?lk_is_group ?co_is_group ?kp_is_group ?n_is_table ?lk_is_table ?co_is_table ?kp_is_table ?n_is_group_table ?lk_is_group_table ?co_is_group_table ?kp_is_group_table ?n_are_group_tables ?lk_are_group_tables ?co_are_group_tables ?kp_are_group_tables ?n_check_parts ?lk_check_parts ?co_check_parts ?kp_check_parts ?n_Case_init ?lk_Case_init ?co_Case_init ?kp_Case_init ?n__law_code ?lk__law_code ?co__law_code ?kp__law_code ?n__law_inputs ?lk__law_inputs ?co__law_inputs ?kp__law_inputs ?n__law_lot ?lk__law_lot ?co__law_lot ?kp__law_lot ?n__law_within ?lk__law_within ?co__law_within ?kp__law_within ?n_tight ?lk_tight ?co_tight ?kp_tight ?n_worlds_in ?lk_worlds_in ?co_worlds_in ?kp_worlds_in ?n_told ?lk_told ?co_told ?kp_told ?n__law_common ?lk__law_common ?co__law_common ?kp__law_common ?n__law_right ?lk__law_right ?co__law_right ?kp__law_right ?n_law ?lk_law ?co_law ?kp_law ?pg_Case ?hd_Case ?po_Case ?sa_Case ?mk_Case ?fi_Case ?kc_Case ?na_Case_hands ?na_Case_worlds ?na_Case_wants ?na_Case_limits ?z_list ?z_int ?z_range ?z_len ?z_tuple ?z_sum ?z_max ?z_isinstance ?z_str ?z_all ?z_set ?z_bool ?z_zip ?z_sorted ?z_repr ?c_MOST_SIGNS ?c_BARRED ?cl_BARRED ?c_LETTERS ?c_DIGITS ?c_MOST_HANDS_cases
    (case n_Case => k_is)
    (case n__law_deck => k_is)
    (case lk__law_deck => k_is)
    (case co__law_deck => k_is)
    (case kp__law_deck => k_is)
    (case n__law_draw => k_is)
    (case lk__law_draw => k_is)
    (case co__law_draw => k_is)
    (case kp__law_draw => k_is)
    (case n__law_pick => k_is)
    (case lk__law_pick => k_is)
    (case co__law_pick => k_is)
    (case kp__law_pick => k_is)
    (case n__law_rows => k_is)
    (case lk__law_rows => k_is)
    (case co__law_rows => k_is)
    (case kp__law_rows => k_is)
    (case n__law_some => k_is)
    (case lk__law_some => k_is)
    (case co__law_some => k_is)
    (case kp__law_some => k_is)
    (case n__law_marks => k_is)
    (case lk__law_marks => k_is)
    (case co__law_marks => k_is)
    (case kp__law_marks => k_is)
    (case n__law_plan => k_is)
    (case lk__law_plan => k_is)
    (case co__law_plan => k_is)
    (case kp__law_plan => k_is)
    (case n_is_called => k_is)
    (case lk_is_called => k_is)
    (case co_is_called => k_is)
    (case kp_is_called => k_is)
    (case n_are_names => k_is)
    (case lk_are_names => k_is)
    (case co_are_names => k_is)
    (case kp_are_names => k_is)
    (case n_is_integer => k_is)
    (case lk_is_integer => k_is)
    (case co_is_integer => k_is)
    (case kp_is_integer => k_is)
    (case n_is_world => k_is)
    (case lk_is_world => k_is)
    (case co_is_world => k_is)
    (case kp_is_world => k_is)
    (case n_are_ascending => k_is)
    (case lk_are_ascending => k_is)
    (case co_are_ascending => k_is)
    (case kp_are_ascending => k_is)
    (case n_are_worlds => k_is)
    (case lk_are_worlds => k_is)
    (case co_are_worlds => k_is)
    (case kp_are_worlds => k_is)
    (case n_is_group => k_is)
    (case lk_is_group => k_is)
    (case co_is_group => k_is)
    (case kp_is_group => k_is)
    (case n_is_table => k_is)
    (case lk_is_table => k_is)
    (case co_is_table => k_is)
    (case kp_is_table => k_is)
    (case n_is_group_table => k_is)
    (case lk_is_group_table => k_is)
    (case co_is_group_table => k_is)
    (case kp_is_group_table => k_is)
    (case n_are_group_tables => k_is)
    (case lk_are_group_tables => k_is)
    (case co_are_group_tables => k_is)
    (case kp_are_group_tables => k_is)
    (case n_check_parts => k_is)
    (case lk_check_parts => k_is)
    (case co_check_parts => k_is)
    (case kp_check_parts => k_is)
    (case n_Case_init => k_is)
    (case lk_Case_init => k_is)
    (case co_Case_init => k_is)
    (case kp_Case_init => k_is)
    (case n__law_code => k_is)
    (case lk__law_code => k_is)
    (case co__law_code => k_is)
    (case kp__law_code => k_is)
    (case n__law_inputs => k_is)
    (case lk__law_inputs => k_is)
    (case co__law_inputs => k_is)
    (case kp__law_inputs => k_is)
    (case n__law_lot => k_is)
    (case lk__law_lot => k_is)
    (case co__law_lot => k_is)
    (case kp__law_lot => k_is)
    (case n__law_within => k_is)
    (case lk__law_within => k_is)
    (case co__law_within => k_is)
    (case kp__law_within => k_is)
    (case n_tight => k_is)
    (case lk_tight => k_is)
    (case co_tight => k_is)
    (case kp_tight => k_is)
    (case n_worlds_in => k_is)
    (case lk_worlds_in => k_is)
    (case co_worlds_in => k_is)
    (case kp_worlds_in => k_is)
    (case n_told => k_is)
    (case lk_told => k_is)
    (case co_told => k_is)
    (case kp_told => k_is)
    (case n__law_common => k_is)
    (case lk__law_common => k_is)
    (case co__law_common => k_is)
    (case kp__law_common => k_is)
    (case n__law_right => k_is)
    (case lk__law_right => k_is)
    (case co__law_right => k_is)
    (case kp__law_right => k_is)
    (case n_law => k_is)
    (case lk_law => k_is)
    (case co_law => k_is)
    (case kp_law => k_is)
    (case pg_Case => k_is)
    (case hd_Case => k_is)
    (case po_Case => k_is)
    (case sa_Case => k_is)
    (case mk_Case => k_is)
    (case fi_Case => k_is)
    (case kc_Case => k_is)
    (case na_Case_hands => k_is)
    (case na_Case_worlds => k_is)
    (case na_Case_wants => k_is)
    (case na_Case_limits => k_is)
    (case z_list => k_is)
    (case z_int => k_is)
    (case z_range => k_is)
    (case z_len => k_is)
    (case z_tuple => k_is)
    (case z_sum => k_is)
    (case z_max => k_is)
    (case z_isinstance => k_is)
    (case z_str => k_is)
    (case z_all => k_is)
    (case z_set => k_is)
    (case z_bool => k_is)
    (case z_zip => k_is)
    (case z_sorted => k_is)
    (case z_repr => k_is)
    (case c_MOST_SIGNS => k_is)
    (case c_BARRED => k_is)
    (case cl_BARRED => k_is)
    (case c_LETTERS => k_is)
    (case c_DIGITS => k_is)
    (case c_MOST_HANDS_cases => k_is)

