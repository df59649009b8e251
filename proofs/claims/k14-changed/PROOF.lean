import PyProof.Rows.All
import Wide.All
import OpenK.AllK
import Wide.FinOn
import HandS.ForMost
import HandS.Wide
import HandS.WideBits
import HandS.Gcd
import HandS.IsInst
import HandS.Deep
import HandS.TupAny
import HandS.ForExc
import HandS.CallSlots
import HandS.More
import HandS.MapJoin
import HandS.Zip
import KE.GoesMore
import KE.GoesZip
import KE.GoesEnum
import HandS.Defaults
import HandS.EndBits
import HandS.HeadHook4
import HandS.Head0
import HandS.Head1
import HandS.Head2
import HandS.HeadEnd
import HandS.Head3
import HandS.HeadHook1
import HandS.HeadHook2
import HandS.HeadHook3
import PySem.Challenge.RW_cedewheel_k14_changed_rows_and_reinstate
set_option Elab.async false
set_option linter.all false
set_option maxRecDepth 100000
namespace Dv
open PySem PySem.Spec PyProof.Rows L2

/-- data, by value -/
inductive D where
  | non | bl (b : Bool) | int (i : Int) | str (x : Str) | tup (l : List D) | lst (l : List D) | dic (ks : List Key) (l : List D) | scr (l : List Int)

abbrev AS := Addr → Prop
/-- a list that nobody changes -/
def ScrL (K : PySem.W.Frag) (H : Hp) (W : AS) (a : Addr) (xs : List V) : Prop :=
  (H a = some (.lst xs) ∧ ¬ W a) ∨ (∃ o, H a = some (.frz o (.lst xs))) ∨
    ∃ (o : Obj) (its : Array Value) (n : Nat), K.lookup a = some o ∧ o.cls = .type "list" ∧ o.dict = none ∧ o.data = .seq its n ∧ its.size ≤ sizeLine ∧ Vals xs its.toList
/-- a tuple -/
def TupL (K : PySem.W.Frag) (H : Hp) (a : Addr) (xs : List V) : Prop :=
  H a = some (.tup xs) ∨ ∃ (o : Obj) (its : Array Value) (n : Nat), K.lookup a = some o ∧ o.cls = .type "tuple" ∧ o.data = .seq its n ∧ its.size ≤ sizeLine ∧ Vals xs its.toList
theorem TupL.sq {K : PySem.W.Frag} {H : Hp} {a : Addr} {xs : List V} (h : TupL K H a xs) : SqT K H a xs := by
  rcases h with h | h
  · exact .inl (.inl h)
  · exact .inr h
theorem TupL.of {K : PySem.W.Frag} {H : Hp} {a : Addr} {xs : List V} (h : H a = some (.tup xs)) : TupL K H a xs := .inl h
theorem ScrL.sq {K : PySem.W.Frag} {H : Hp} {W : AS} {a : Addr} {xs : List V} (h : ScrL K H W a xs) : SqL K H a xs := by
  rcases h with h | h | h
  · exact .inl (.inl h.1)
  · exact .inl (.inr h)
  · exact .inr h

mutual
def RepD (K : PySem.W.Frag) (H : Hp) (W : AS) : V → D → Prop
  | v, .non => v = .non
  | v, .bl b => v = .bl b
  | v, .int i => v = .int i
  | v, .str x => v = .str x
  | v, .tup l => ∃ a vs, v = .ref a ∧ TupL K H a vs ∧ RepDs K H W vs l
  | v, .lst l => ∃ a vs, v = .ref a ∧ H a = some (.lst vs) ∧ ¬ W a ∧ RepDs K H W vs l
  | v, .scr l => ∃ a, v = .ref a ∧ ScrL K H W a (l.map V.int)
  | v, .dic ks l => ∃ a kvs, v = .ref a ∧ H a = some (.dK kvs) ∧ ¬ W a ∧ kvs.map (·.1) = ks ∧ RepDs K H W (kvs.map (·.2)) l
def RepDs (K : PySem.W.Frag) (H : Hp) (W : AS) : List V → List D → Prop
  | vs, [] => vs = []
  | vs, d :: ds => ∃ v r, vs = v :: r ∧ RepD K H W v d ∧ RepDs K H W r ds
end

/-- what a mutable object holds -/
def RepO (K : PySem.W.Frag) (H : Hp) (W : AS) (o : HO) : D → Prop
  | .lst l => ∃ vs, o = .lst vs ∧ RepDs K H W vs l
  | .dic ks l => ∃ kvs, o = .dK kvs ∧ kvs.map (·.1) = ks ∧ RepDs K H W (kvs.map (·.2)) l
  | _ => False
/-- a mutable kind -/
def Mk1 : HO → Prop
  | .lst _ => True
  | .dK _ => True
  | _ => False
/-- W: addresses that somebody may change -/
def WL (H : Hp) (W : AS) : Prop := ∀ a, W a → ∃ o, H a = some o ∧ Mk1 o

/-- what is not in W stays, outside W -/
def Adv (H : Hp) (W : AS) (H' : Hp) (W' : AS) : Prop := ∀ b o, H b = some o → ¬ W b → H' b = some o ∧ ¬ W' b

section
variable {K : PySem.W.Frag} {H H' : Hp} {W W' : AS}
theorem RepO.mk1 {o : HO} {d : D} (h : RepO K H W o d) : Mk1 o := by
  cases d with
  | lst l => obtain ⟨vs, rfl, _⟩ := h; trivial
  | dic ks l => obtain ⟨vs, rfl, _⟩ := h; trivial
  | _ => exact h.elim
theorem WL.tup (wl : WL H W) {a : Addr} {vs : List V} (h : H a = some (.tup vs)) : ¬ W a := fun w => by
  obtain ⟨o, e, m⟩ := wl a w
  rw [h] at e; cases e; exact m
theorem WL.frz (wl : WL H W) {a : Addr} {ob : Obj} {u : HO} (h : H a = some (.frz ob u)) : ¬ W a := fun w => by
  obtain ⟨o, e, m⟩ := wl a w
  rw [h] at e; cases e; exact m
theorem TupL.adv (wl : WL H W) (ad : Adv H W H' W') {a : Addr} {vs : List V} (h : TupL K H a vs) : TupL K H' a vs := by
  rcases h with h | h
  · exact .inl (ad _ _ h (wl.tup h)).1
  · exact .inr h
theorem Rd.adv (ad : Adv H W H' W') {a : Addr} {u : HO} (h : Rd H a u) (w : ¬ W a) : Rd H' a u ∧ ¬ W' a := by
  rcases h with h | ⟨o, h⟩
  · exact ⟨.inl (ad _ _ h w).1, (ad _ _ h w).2⟩
  · exact ⟨.inr ⟨o, (ad _ _ h w).1⟩, (ad _ _ h w).2⟩
theorem ScrL.adv (wl : WL H W) (ad : Adv H W H' W') {a : Addr} {xs : List V} (h : ScrL K H W a xs) : ScrL K H' W' a xs := by
  rcases h with ⟨h, w⟩ | ⟨o, h⟩ | h
  · exact .inl (ad _ _ h w)
  · exact .inr (.inl ⟨o, (ad _ _ h (wl.frz h)).1⟩)
  · exact .inr (.inr h)
mutual
theorem RepD.adv (wl : WL H W) (ad : Adv H W H' W') : ∀ {d : D} {v : V}, RepD K H W v d → RepD K H' W' v d
  | .non, _, h => h
  | .bl _, _, h => h
  | .int _, _, h => h
  | .str _, _, h => h
  | .tup _, _, h => by
    obtain ⟨a, vs, e, q, r⟩ := h
    exact ⟨a, vs, e, TupL.adv wl ad q, RepDs.adv wl ad r⟩
  | .lst _, _, h => by
    obtain ⟨a, vs, e, q, w, r⟩ := h
    exact ⟨a, vs, e, (ad _ _ q w).1, (ad _ _ q w).2, RepDs.adv wl ad r⟩
  | .scr _, _, h => by
    obtain ⟨a, e, q⟩ := h
    exact ⟨a, e, q.adv wl ad⟩
  | .dic _ _, _, h => by
    obtain ⟨a, vs, e, q, w, k, r⟩ := h
    exact ⟨a, vs, e, (ad _ _ q w).1, (ad _ _ q w).2, k, RepDs.adv wl ad r⟩
theorem RepDs.adv (wl : WL H W) (ad : Adv H W H' W') : ∀ {ds : List D} {vs : List V}, RepDs K H W vs ds → RepDs K H' W' vs ds
  | [], _, h => h
  | _ :: _, _, h => by
    obtain ⟨v, r, e, q, s⟩ := h
    exact ⟨v, r, e, RepD.adv wl ad q, RepDs.adv wl ad s⟩
end
theorem RepO.adv (wl : WL H W) (ad : Adv H W H' W') {o : HO} {d : D} (h : RepO K H W o d) : RepO K H' W' o d := by
  cases d with
  | lst l => obtain ⟨vs, e, r⟩ := h; exact ⟨vs, e, r.adv wl ad⟩
  | dic ks l => obtain ⟨vs, e, k, r⟩ := h; exact ⟨vs, e, k, r.adv wl ad⟩
  | _ => exact h.elim
theorem RepDs.length : ∀ {ds : List D} {vs : List V}, RepDs K H W vs ds → vs.length = ds.length
  | [], _, h => by rw [show _ = [] from h]; rfl
  | _ :: _, _, h => by
    obtain ⟨v, r, rfl, _, s⟩ := h
    rw [List.length_cons, List.length_cons, RepDs.length s]
theorem RepDs.get : ∀ {ds : List D} {vs : List V} {i : Nat} {d : D}, RepDs K H W vs ds → ds[i]? = some d → ∃ v, vs[i]? = some v ∧ RepD K H W v d
  | [], _, _, _, _, e => by simp at e
  | _ :: _, _, 0, _, h, e => by
    obtain ⟨v, r, rfl, q, _⟩ := h
    simp at e; subst e; exact ⟨v, rfl, q⟩
  | _ :: _, _, i + 1, _, h, e => by
    obtain ⟨v, r, rfl, _, s⟩ := h
    obtain ⟨u, h1, h2⟩ := RepDs.get (i := i) s (by simpa using e)
    exact ⟨u, by simpa using h1, h2⟩
theorem RepDs.append : ∀ {ds es : List D} {vs us : List V}, RepDs K H W vs ds → RepDs K H W us es → RepDs K H W (vs ++ us) (ds ++ es)
  | [], _, _, _, h, q => by rw [show _ = [] from h]; exact q
  | _ :: _, _, _, _, h, q => by
    obtain ⟨v, r, rfl, a, s⟩ := h
    exact ⟨v, _, rfl, a, RepDs.append s q⟩
theorem RepDs.set {d : D} {v : V} (r : RepD K H W v d) : ∀ {ds : List D} {vs : List V} (i : Nat), RepDs K H W vs ds → RepDs K H W (vs.set i v) (ds.set i d)
  | [], _, _, h => by rw [show _ = [] from h]; rfl
  | _ :: _, _, 0, h => by
    obtain ⟨u, q, rfl, _, s⟩ := h
    exact ⟨v, q, rfl, r, s⟩
  | _ :: _, _, i + 1, h => by
    obtain ⟨u, q, rfl, a, s⟩ := h
    exact ⟨u, _, rfl, a, RepDs.set r i s⟩
theorem RepDs.take : ∀ {ds : List D} {vs : List V} (n : Nat), RepDs K H W vs ds → RepDs K H W (vs.take n) (ds.take n)
  | _, _, 0, _ => by simp [RepDs]
  | [], _, _ + 1, h => by rw [show _ = [] from h]; simp [RepDs]
  | _ :: _, _, n + 1, h => by
    obtain ⟨u, q, rfl, a, s⟩ := h
    exact ⟨u, _, rfl, a, RepDs.take n s⟩
theorem RepDs.drop : ∀ {ds : List D} {vs : List V} (n : Nat), RepDs K H W vs ds → RepDs K H W (vs.drop n) (ds.drop n)
  | _, _, 0, h => by simpa using h
  | [], _, _ + 1, h => by rw [show _ = [] from h]; simp [RepDs]
  | _ :: _, _, n + 1, h => by
    obtain ⟨u, q, rfl, a, s⟩ := h
    simpa using RepDs.drop n s
theorem RepDs.one {v : V} {d : D} (h : RepD K H W v d) : RepDs K H W [v] [d] := ⟨v, [], rfl, h, rfl⟩
theorem RepDs.of_get : ∀ {ds : List D} {vs : List V}, vs.length = ds.length → (∀ (i : Nat) (v : V) (d : D), vs[i]? = some v → ds[i]? = some d → RepD K H W v d) → RepDs K H W vs ds
  | [], vs, e, _ => by
    show vs = []
    exact List.length_eq_zero_iff.mp e
  | d :: ds, [], e, _ => by simp at e
  | d :: ds, v :: vs, e, h => ⟨v, vs, rfl, h 0 v d rfl rfl, RepDs.of_get (by simpa using e) fun i u c h1 h2 => h (i + 1) u c (by simpa using h1) (by simpa using h2)⟩
end

/-! ### slots -/
inductive S where
  | val (d : D) | own (b : Bool) (d : D) | lck (b : Bool) (d : D) | brz (d : D)
abbrev Env' := List (Option S)
abbrev Sg := List (Option V)

/-- slot i may change the object at a -/
def OwnU (σ : Sg) (ρ : Env') (i : Nat) (a : Addr) : Prop := (∃ b d, ρ[i]? = some (some (.own b d))) ∧ σ[i]? = some (some (.ref a))
/-- .. or bears it, locked -/
def OwnA (σ : Sg) (ρ : Env') (i : Nat) (a : Addr) : Prop := ((∃ b d, ρ[i]? = some (some (.own b d))) ∨ ∃ b d, ρ[i]? = some (some (.lck b d))) ∧ σ[i]? = some (some (.ref a))

/-- what is fixed through a def's body: the written part, what was free at the entry, the borrowed slots -/
structure Tc where
  K : PySem.W.Frag
  fz : AS
  bm : Nat → Option Addr

def RelS (T : Tc) (H : Hp) (W : AS) (o : Option V) : S → Prop
  | .val d => ∃ v, o = some v ∧ RepD T.K H W v d
  | .brz d => ∃ v, o = some v ∧ RepD T.K H W v d
  | .own _ d => ∃ a ob, o = some (.ref a) ∧ H a = some ob ∧ W a ∧ RepO T.K H W ob d
  | .lck _ d => ∃ a ob, o = some (.ref a) ∧ H a = some ob ∧ W a ∧ RepO T.K H W ob d

def isBor : S → Prop
  | .own true _ => True
  | .lck true _ => True
  | .brz _ => True
  | _ => False

structure Rel (T : Tc) (σ : Sg) (H : Hp) (ρ : Env') (W : AS) : Prop where
  len : ρ.length = σ.length
  at_ : ∀ (i : Nat) (s : S), ρ[i]? = some (some s) → ∃ o, σ[i]? = some o ∧ RelS T H W o s
  sep : ∀ i j a, OwnA σ ρ i a → OwnA σ ρ j a → i = j
  wl : WL H W
  fr : ∀ (i : Nat) (d : D) (a : Addr), (ρ[i]? = some (some (.own false d)) ∨ ρ[i]? = some (some (.lck false d))) → σ[i]? = some (some (.ref a)) → T.fz a
  fzk : ∀ a, H a = none → T.fz a
  bor : ∀ i a, T.bm i = some a → σ[i]? = some (some (.ref a)) ∧ ∃ s, ρ[i]? = some (some s) ∧ isBor s

/-- from one state to the next: what no unlocked slot bears is kept -/
def Step (σ : Sg) (H : Hp) (ρ : Env') (W : AS) (σ' : Sg) (H' : Hp) (ρ' : Env') (W' : AS) : Prop :=
  ∀ b o, H b = some o → (∀ i, ¬ OwnU σ ρ i b) → H' b = some o ∧ (∀ i, ¬ OwnU σ' ρ' i b) ∧ (W' b ↔ W b)

section
variable {T : Tc} {σ σ' σ2 : Sg} {H H' H2 : Hp} {ρ ρ' ρ2 : Env'} {W W' W2 : AS}
theorem Step.refl : Step σ H ρ W σ H ρ W := fun b o h n => ⟨h, n, Iff.rfl⟩
theorem Step.trans (a : Step σ H ρ W σ' H' ρ' W') (b : Step σ' H' ρ' W' σ2 H2 ρ2 W2) : Step σ H ρ W σ2 H2 ρ2 W2 := fun x o h n => by
  obtain ⟨h1, n1, w1⟩ := a x o h n
  obtain ⟨h2, n2, w2⟩ := b x o h1 n1
  exact ⟨h2, n2, w2.trans w1⟩
theorem OwnU.a {i : Nat} {a : Addr} (h : OwnU σ ρ i a) : OwnA σ ρ i a := ⟨.inl h.1, h.2⟩
theorem Rel.ownA (r : Rel T σ H ρ W) {i : Nat} {a : Addr} (h : OwnA σ ρ i a) : W a ∧ ∃ o, H a = some o ∧ Mk1 o := by
  obtain ⟨h1, h2⟩ := h
  rcases h1 with ⟨b, d, e⟩ | ⟨b, d, e⟩
  all_goals
    obtain ⟨o, e2, q⟩ := r.at_ _ _ e
    rw [h2] at e2; cases e2
    obtain ⟨a', ob, e3, e4, w, z⟩ := q
    cases e3
    exact ⟨w, ob, e4, z.mk1⟩
theorem Rel.nown (r : Rel T σ H ρ W) {b : Addr} (w : ¬ W b) (i : Nat) : ¬ OwnU σ ρ i b := fun h => w (r.ownA h.a).1
theorem Step.adv (s : Step σ H ρ W σ' H' ρ' W') (r : Rel T σ H ρ W) : Adv H W H' W' := fun b o h w => by
  obtain ⟨h1, _, w1⟩ := s b o h (r.nown w)
  exact ⟨h1, fun z => w (w1.mp z)⟩
end
end Dv

set_option Elab.async false
set_option linter.all false
set_option maxRecDepth 100000
namespace Dv
open PySem PySem.Spec PyProof.Rows L2

/-- what an expression hands on: data, a new mutable object, a slot's object -/
inductive P where
  | val (d : D) | own (d : D) | at_ (i : Nat)

def RepP (T : Tc) (σ : Sg) (H : Hp) (ρ : Env') (W : AS) (v : V) : P → Prop
  | .val d => RepD T.K H W v d
  | .own d => ∃ a o, v = .ref a ∧ H a = some o ∧ W a ∧ (∀ i, ¬ OwnA σ ρ i a) ∧ T.fz a ∧ RepO T.K H W o d
  | .at_ i => σ[i]? = some (some v)

/-- Step, but for the addresses in A -/
def StepX (A : AS) (σ : Sg) (H : Hp) (ρ : Env') (W : AS) (σ' : Sg) (H' : Hp) (ρ' : Env') (W' : AS) : Prop :=
  ∀ b o, H b = some o → (∀ i, ¬ OwnU σ ρ i b) → ¬ A b → H' b = some o ∧ (∀ i, ¬ OwnU σ' ρ' i b) ∧ (W' b ↔ W b)
/-- locked slots stay -/
def Lk (ρ ρ' : Env') : Prop := ∀ (i : Nat) (b : Bool) (d : D), ρ[i]? = some (some (.lck b d)) → ρ'[i]? = some (some (.lck b d))
def Mon (σ : Sg) (ρ ρ' : Env') : Prop := ∀ i a, OwnA σ ρ' i a → OwnA σ ρ i a

def peek : P → Env' → Option D
  | .val d, _ => some d
  | .own d, _ => some d
  | .at_ i, ρ => match ρ[i]? with
    | some (some (.val d)) => some d
    | some (some (.own _ d)) => some d
    | some (some (.lck _ d)) => some d
    | some (some (.brz d)) => some d
    | _ => none
def thaw (b : Bool) (d : D) : S := match b with | true => .brz d | false => .val d
def toD : P → Env' → Option (D × Env')
  | .val d, ρ => some (d, ρ)
  | .own d, ρ => some (d, ρ)
  | .at_ i, ρ => match ρ[i]? with
    | some (some (.val d)) => some (d, ρ)
    | some (some (.brz d)) => some (d, ρ)
    | some (some (.own b d)) => some (d, ρ.set i (some (thaw b d)))
    | _ => none
def toDs : List P → Env' → Option (List D × Env')
  | [], ρ => some ([], ρ)
  | p :: ps, ρ => (toD p ρ).bind fun r => (toDs ps r.2).bind fun q => some (r.1 :: q.1, q.2)

/-- data as it may be read now -/
def RepK (K : PySem.W.Frag) (H : Hp) (W : AS) (v : V) (d : D) : Prop := (∃ a o, v = .ref a ∧ H a = some o ∧ RepO K H W o d) ∨ RepD K H W v d

section
variable {T : Tc} {σ σ' σ2 : Sg} {H H' H2 : Hp} {ρ ρ' ρ2 : Env'} {W W' W2 : AS} {A : AS}
theorem Step.x (s : Step σ H ρ W σ' H' ρ' W') : StepX A σ H ρ W σ' H' ρ' W' := fun b o h n _ => s b o h n
theorem Step.then (a : Step σ H ρ W σ' H' ρ' W') (b : StepX A σ' H' ρ' W' σ2 H2 ρ2 W2) (n : ∀ x, A x → H x = none) : Step σ H ρ W σ2 H2 ρ2 W2 := fun x o h m => by
  obtain ⟨h1, n1, w1⟩ := a x o h m
  obtain ⟨h2, n2, w2⟩ := b x o h1 n1 fun z => by rw [n x z] at h; cases h
  exact ⟨h2, n2, w2.trans w1⟩
theorem Lk.refl : Lk ρ ρ := fun _ _ _ h => h
theorem Lk.trans (a : Lk ρ ρ') (b : Lk ρ' ρ2) : Lk ρ ρ2 := fun i c d h => b i c d (a i c d h)
theorem Lk.set {i : Nat} {s : Option S} (h : ∀ b d, ρ[i]? ≠ some (some (.lck b d))) : Lk ρ (ρ.set i s) := fun j b d e => by
  have ne : i ≠ j := fun z => h b d (by rw [z]; exact e)
  rw [List.getElem?_set_ne ne]
  exact e
theorem Mon.refl : Mon σ ρ ρ := fun _ _ h => h
theorem Mon.trans (a : Mon σ ρ ρ') (b : Mon σ ρ' ρ2) : Mon σ ρ ρ2 := fun i x h => a i x (b i x h)

theorem RepD.k {K : PySem.W.Frag} {v : V} {d : D} (h : RepD K H W v d) : RepK K H W v d := .inr h
theorem RepK.lst {K : PySem.W.Frag} {v : V} {l : List D} (h : RepK K H W v (.lst l)) : ∃ a vs, v = .ref a ∧ H a = some (.lst vs) ∧ RepDs K H W vs l := by
  rcases h with ⟨a, o, e, r, vs, rfl, q⟩ | ⟨a, vs, e, r, _, q⟩
  · exact ⟨a, vs, e, r, q⟩
  · exact ⟨a, vs, e, r, q⟩
theorem RepK.dic {K : PySem.W.Frag} {v : V} {ks : List Key} {l : List D} (h : RepK K H W v (.dic ks l)) : ∃ a kvs, v = .ref a ∧ H a = some (.dK kvs) ∧ kvs.map (·.1) = ks ∧ RepDs K H W (kvs.map (·.2)) l := by
  rcases h with ⟨a, o, e, r, vs, rfl, q⟩ | ⟨a, vs, e, r, _, q⟩
  · exact ⟨a, vs, e, r, q⟩
  · exact ⟨a, vs, e, r, q⟩
theorem RepK.tup {K : PySem.W.Frag} {v : V} {l : List D} (h : RepK K H W v (.tup l)) : ∃ a vs, v = .ref a ∧ TupL K H a vs ∧ RepDs K H W vs l := by
  rcases h with ⟨a, o, e, r, q⟩ | h
  · exact q.elim
  · exact h
theorem RepK.scr {K : PySem.W.Frag} {v : V} {l : List Int} (h : RepK K H W v (.scr l)) : ∃ a, v = .ref a ∧ SqL K H a (l.map V.int) := by
  rcases h with ⟨a, o, e, r, q⟩ | ⟨a, e, q⟩
  · exact q.elim
  · exact ⟨a, e, q.sq⟩
theorem RepK.int {K : PySem.W.Frag} {v : V} {i : Int} (h : RepK K H W v (.int i)) : v = .int i := by
  rcases h with ⟨a, o, e, r, q⟩ | h
  · exact q.elim
  · exact h
theorem RepK.bl {K : PySem.W.Frag} {v : V} {i : Bool} (h : RepK K H W v (.bl i)) : v = .bl i := by
  rcases h with ⟨a, o, e, r, q⟩ | h
  · exact q.elim
  · exact h
theorem RepK.str {K : PySem.W.Frag} {v : V} {i : Str} (h : RepK K H W v (.str i)) : v = .str i := by
  rcases h with ⟨a, o, e, r, q⟩ | h
  · exact q.elim
  · exact h
theorem RepK.non {K : PySem.W.Frag} {v : V} (h : RepK K H W v .non) : v = .non := by
  rcases h with ⟨a, o, e, r, q⟩ | h
  · exact q.elim
  · exact h

theorem peek_ok (R : Rel T σ H ρ W) {p : P} {v : V} (h : RepP T σ H ρ W v p) {d : D} (e : peek p ρ = some d) : RepK T.K H W v d := by
  cases p with
  | val c => cases e; exact .inr h
  | own c =>
    cases e
    obtain ⟨a, o, e1, e2, _, _, _, q⟩ := h
    exact .inl ⟨a, o, e1, e2, q⟩
  | at_ i =>
    have h : σ[i]? = some (some v) := h
    have key : ∀ s : S, ρ[i]? = some (some s) → RelS T H W (some v) s := fun s es => by
      obtain ⟨o, e1, q⟩ := R.at_ i s es
      rw [h] at e1; cases e1; exact q
    simp only [peek] at e
    split at e
    · rename_i c es; cases e
      obtain ⟨u, z, q⟩ := key _ es
      cases z; exact .inr q
    · rename_i c es; cases e
      obtain ⟨a, ob, z, e2, _, q⟩ := key _ es
      cases z; exact .inl ⟨a, ob, rfl, e2, q⟩
    · rename_i c es; cases e
      obtain ⟨a, ob, z, e2, _, q⟩ := key _ es
      cases z; exact .inl ⟨a, ob, rfl, e2, q⟩
    · rename_i c es; cases e
      obtain ⟨u, z, q⟩ := key _ es
      cases z; exact .inr q
    · cases e

/-- what is held while something else runs -/
theorem RepP.step {v : V} {p : P} (h : RepP T σ H ρ W v p) (R : Rel T σ H ρ W) (s : Step σ H ρ W σ H' ρ' W') (m : Mon σ ρ ρ') : RepP T σ H' ρ' W' v p := by
  cases p with
  | val d => exact RepD.adv R.wl (s.adv R) h
  | own d =>
    obtain ⟨a, o, e, ha, w, n, f, q⟩ := h
    obtain ⟨h1, n1, w1⟩ := s a o ha fun i z => n i z.a
    exact ⟨a, o, e, h1, w1.mpr w, fun i z => n i (m i a z), f, q.adv R.wl (s.adv R)⟩
  | at_ i => exact h

/-- fewer may be changed: W shrinks by one address -/
theorem RepD.drop {K : PySem.W.Frag} {v : V} {d : D} (wl : WL H W) {a : Addr} (h : RepD K H W v d) : RepD K H (fun b => W b ∧ b ≠ a) v d :=
  h.adv wl fun b o e w => ⟨e, fun z => w z.1⟩
theorem RepO.drop {K : PySem.W.Frag} {o : HO} {d : D} (wl : WL H W) {a : Addr} (h : RepO K H W o d) : RepO K H (fun b => W b ∧ b ≠ a) o d :=
  h.adv wl fun b o e w => ⟨e, fun z => w z.1⟩
theorem RepO.d {K : PySem.W.Frag} {a : Addr} {o : HO} {d : D} (h : RepO K H W o d) (e : H a = some o) (w : ¬ W a) : RepD K H W (.ref a) d := by
  cases d with
  | lst l => obtain ⟨vs, rfl, q⟩ := h; exact ⟨a, vs, rfl, e, w, q⟩
  | dic ks l => obtain ⟨vs, rfl, k, q⟩ := h; exact ⟨a, vs, rfl, e, w, k, q⟩
  | _ => exact h.elim
theorem WL.drop (wl : WL H W) {a : Addr} : WL H (fun b => W b ∧ b ≠ a) := fun b w => wl b w.1

theorem getq_set {α : Type} {l : List α} {i j : Nat} {x y : α} (h : (l.set i x)[j]? = some y) : (i = j ∧ x = y ∧ i < l.length) ∨ (i ≠ j ∧ l[j]? = some y) := by
  by_cases e : i = j
  · subst e
    by_cases z : i < l.length
    · rw [List.getElem?_set_self z] at h
      exact .inl ⟨rfl, Option.some.inj h, z⟩
    · rw [List.getElem?_eq_none (by simpa using z)] at h; cases h
  · rw [List.getElem?_set_ne e] at h
    exact .inr ⟨e, h⟩

/-- a slot's object frozen -/
theorem freeze_at (R : Rel T σ H ρ W) {i : Nat} {b : Bool} {d : D} {v : V} (e : ρ[i]? = some (some (.own b d))) (hv : σ[i]? = some (some v)) :
    ∃ W', Rel T σ H (ρ.set i (some (thaw b d))) W' ∧ RepD T.K H W' v d ∧ Step σ H ρ W σ H (ρ.set i (some (thaw b d))) W' ∧ Mon σ ρ (ρ.set i (some (thaw b d))) := by
  obtain ⟨o, e1, a, ob, e2, ha, wa, q⟩ := R.at_ i _ e
  rw [hv] at e1; cases e1; cases e2
  have hi : i < ρ.length := (List.getElem?_eq_some_iff.mp e).1
  have oi : OwnU σ ρ i a := ⟨⟨b, d, e⟩, hv⟩
  have nt : ∀ c x y, thaw c x ≠ .own y d ∧ ∀ z, thaw c x ≠ .own y z ∧ thaw c x ≠ .lck y z := fun c x y => by cases c <;> simp [thaw]
  have mon : Mon σ ρ (ρ.set i (some (thaw b d))) := fun j x h => by
    obtain ⟨h1, h2⟩ := h
    rcases h1 with ⟨c, z, h1⟩ | ⟨c, z, h1⟩
    · rcases getq_set h1 with ⟨rfl, k, _⟩ | ⟨_, k⟩
      · exact absurd (Option.some.inj k) ((nt b d c).2 z).1
      · exact ⟨.inl ⟨c, z, k⟩, h2⟩
    · rcases getq_set h1 with ⟨rfl, k, _⟩ | ⟨_, k⟩
      · exact absurd (Option.some.inj k) ((nt b d c).2 z).2
      · exact ⟨.inr ⟨c, z, k⟩, h2⟩
  have nO : ∀ j, ¬ OwnA σ (ρ.set i (some (thaw b d))) j a := fun j h => by
    have hj := R.sep _ _ _ (mon j a h) oi.a
    subst hj
    obtain ⟨h1, _⟩ := h
    rcases h1 with ⟨c, z, h1⟩ | ⟨c, z, h1⟩ <;> rw [List.getElem?_set_self hi] at h1
    · exact absurd (Option.some.inj (Option.some.inj h1)) ((nt b d c).2 z).1
    · exact absurd (Option.some.inj (Option.some.inj h1)) ((nt b d c).2 z).2
  refine ⟨fun x => W x ∧ x ≠ a, ⟨by simpa using R.len, fun j s h => ?_, fun j k x h1 h2 => R.sep j k x (mon j x h1) (mon k x h2), R.wl.drop, fun j z x h1 h2 => ?_, R.fzk, fun j x h => ?_⟩, ?_, fun x o h n => ?_, mon⟩
  · rcases getq_set h with ⟨rfl, k, _⟩ | ⟨ne, k⟩
    · cases k
      refine ⟨_, hv, ?_⟩
      have fin : RepD T.K H (fun x => W x ∧ x ≠ a) (.ref a) d := (q.drop R.wl).d ha fun z => z.2 rfl
      cases b <;> exact ⟨_, rfl, fin⟩
    · obtain ⟨o, e3, r⟩ := R.at_ j s k
      refine ⟨o, e3, ?_⟩
      cases s with
      | val c => obtain ⟨u, e4, z⟩ := r; exact ⟨u, e4, z.drop R.wl⟩
      | brz c => obtain ⟨u, e4, z⟩ := r; exact ⟨u, e4, z.drop R.wl⟩
      | own c x =>
        obtain ⟨a', ob', e4, e5, e6, z⟩ := r
        subst e4
        exact ⟨a', ob', rfl, e5, ⟨e6, fun z => ne (by subst z; exact R.sep _ _ _ oi.a ⟨.inl ⟨c, x, k⟩, e3⟩)⟩, z.drop R.wl⟩
      | lck c x =>
        obtain ⟨a', ob', e4, e5, e6, z⟩ := r
        subst e4
        exact ⟨a', ob', rfl, e5, ⟨e6, fun z => ne (by subst z; exact R.sep _ _ _ oi.a ⟨.inr ⟨c, x, k⟩, e3⟩)⟩, z.drop R.wl⟩
  · have back : ρ[j]? = some (some (.own false z)) ∨ ρ[j]? = some (some (.lck false z)) := by
      rcases h1 with h1 | h1
      · rcases getq_set h1 with ⟨rfl, k, _⟩ | ⟨_, k⟩
        · exact absurd (Option.some.inj k) ((nt b d false).2 z).1
        · exact .inl k
      · rcases getq_set h1 with ⟨rfl, k, _⟩ | ⟨_, k⟩
        · exact absurd (Option.some.inj k) ((nt b d false).2 z).2
        · exact .inr k
    exact R.fr j z x back h2
  · obtain ⟨h1, s, h2, h3⟩ := R.bor j x h
    refine ⟨h1, ?_⟩
    by_cases ej : i = j
    · subst ej
      refine ⟨thaw b d, by rw [List.getElem?_set_self hi], ?_⟩
      rw [e] at h2; cases h2
      cases b with
      | true => trivial
      | false => exact h3.elim
    · exact ⟨s, by rw [List.getElem?_set_ne ej]; exact h2, h3⟩
  · exact (q.drop R.wl).d ha fun z => z.2 rfl
  · refine ⟨h, fun j z => n j ?_, ?_⟩
    · obtain ⟨⟨c, y, h1⟩, h2⟩ := z
      rcases getq_set h1 with ⟨rfl, k, _⟩ | ⟨_, k⟩
      · exact absurd (Option.some.inj k) ((nt b d c).2 y).1
      · exact ⟨⟨c, y, k⟩, h2⟩
    · exact ⟨fun z => z.1, fun z => ⟨z, fun y => n i (by subst y; exact oi)⟩⟩

/-- a new mutable object that nobody bears, frozen -/
theorem freeze_own (R : Rel T σ H ρ W) {a : Addr} {o : HO} {d : D} (ha : H a = some o) (wa : W a) (no : ∀ i, ¬ OwnA σ ρ i a) (q : RepO T.K H W o d) :
    ∃ W', Rel T σ H ρ W' ∧ RepD T.K H W' (.ref a) d ∧ StepX (fun x => x = a) σ H ρ W σ H ρ W' := by
  refine ⟨fun x => W x ∧ x ≠ a, ⟨R.len, fun j s k => ?_, R.sep, R.wl.drop, R.fr, R.fzk, R.bor⟩, (q.drop R.wl).d ha fun z => z.2 rfl, fun x o h n na => ⟨h, n, fun z => z.1, fun z => ⟨z, na⟩⟩⟩
  obtain ⟨o, e3, r⟩ := R.at_ j s k
  refine ⟨o, e3, ?_⟩
  cases s with
  | val c => obtain ⟨u, e4, z⟩ := r; exact ⟨u, e4, z.drop R.wl⟩
  | brz c => obtain ⟨u, e4, z⟩ := r; exact ⟨u, e4, z.drop R.wl⟩
  | own c x =>
    obtain ⟨a', ob', e4, e5, e6, z⟩ := r
    subst e4
    exact ⟨a', ob', rfl, e5, ⟨e6, fun z => no j (by subst z; exact ⟨.inl ⟨c, x, k⟩, e3⟩)⟩, z.drop R.wl⟩
  | lck c x =>
    obtain ⟨a', ob', e4, e5, e6, z⟩ := r
    subst e4
    exact ⟨a', ob', rfl, e5, ⟨e6, fun z => no j (by subst z; exact ⟨.inr ⟨c, x, k⟩, e3⟩)⟩, z.drop R.wl⟩

/-- the address of a new object handed on -/
def tmp (v : V) : P → AS
  | .own _ => fun a => v = .ref a
  | _ => fun _ => False

theorem toD_ok (R : Rel T σ H ρ W) {p : P} {v : V} (h : RepP T σ H ρ W v p) {d : D} (e : toD p ρ = some (d, ρ')) :
    ∃ W', Rel T σ H ρ' W' ∧ RepD T.K H W' v d ∧ StepX (tmp v p) σ H ρ W σ H ρ' W' ∧ Mon σ ρ ρ' ∧ Lk ρ ρ' := by
  cases p with
  | val c => cases e; exact ⟨W, R, h, Step.refl.x, .refl, .refl⟩
  | own c =>
    cases e
    obtain ⟨a, o, rfl, e2, w, n, _, q⟩ := h
    obtain ⟨W', R', q', s⟩ := freeze_own R e2 w n q
    exact ⟨W', R', q', fun b o h n na => s b o h n fun z => na (by subst z; rfl), .refl, .refl⟩
  | at_ i =>
    have h : σ[i]? = some (some v) := h
    simp only [toD] at e
    split at e
    · rename_i c es; cases e
      obtain ⟨o, e1, u, e2, q⟩ := R.at_ i _ es
      rw [h] at e1; cases e1; cases e2
      exact ⟨W, R, q, Step.refl.x, .refl, .refl⟩
    · rename_i c es; cases e
      obtain ⟨o, e1, u, e2, q⟩ := R.at_ i _ es
      rw [h] at e1; cases e1; cases e2
      exact ⟨W, R, q, Step.refl.x, .refl, .refl⟩
    · rename_i b c es; cases e
      obtain ⟨W', R', q, s, m⟩ := freeze_at R es h
      exact ⟨W', R', q, s.x, m, Lk.set fun b' d' z => by rw [es] at z; cases z⟩
    · cases e
end
end Dv

set_option Elab.async false
set_option linter.all false
set_option maxRecDepth 100000
namespace Dv
open PySem PySem.Spec PyProof.Rows L2

/-- an error: its class's name, its attributes -/
structure Er where
  cls : Str
  val : List (Str × D)
inductive Rs (α : Type) where
  | bad | err (e : Er) | ok (a : α)
def Rs.bind {α β : Type} : Rs α → (α → Rs β) → Rs β
  | .bad, _ => .bad
  | .err e, _ => .err e
  | .ok a, f => f a
def Rs.of {α : Type} : Option α → Rs α
  | none => .bad
  | some a => .ok a
/-- nothing is raised -/
def Rs.quiet {α : Type} : Rs α → Rs α
  | .ok a => .ok a
  | _ => .bad
noncomputable section
/-- a side condition; decided by nobody, so no instance stands in the way -/
def need (p : Prop) {α : Type} (x : Rs α) : Rs α := @ite _ p (Classical.propDecidable p) x .bad

/-- a def's argument, its result -/
inductive A where
  | val (d : D) | own (d : D) | rd (d : D)
inductive Re where
  | val (d : D) | own (d : D)
structure Fn where
  call : Str → List A → Rs (Re × List A)
  glo : Str → Option D
  dfl : Str → Nat → List D

/-! ### data -/
mutual
def toPy : D → PyData
  | .non => .none
  | .bl b => .bool b
  | .int i => .int i
  | .str x => .str x
  | .tup l => .tuple (toPys l)
  | .lst l => .list (toPys l)
  | .dic _ _ => .dict []
  | .scr _ => .dict []
def toPys : List D → List PyData
  | [] => []
  | d :: ds => toPy d :: toPys ds
end
def shp (d : D) : Bool := SeqAt.shaped (toPy d)
def deq (d e : D) : Bool := PyData.eqv (toPy d) (toPy e)
def chr1 (c : Nat) : Str := ⟨#[c]⟩
def strIn (i j : Str) : Bool := !(Builtin.Str.occurrences j i 0 j.length 1).isEmpty

instance {i j : Int} : Decidable (CMulX i j) := by unfold CMulX; infer_instance
instance {i j : Int} : Decidable (CShl i j) := by unfold CShl; infer_instance
instance {i j : Int} : Decidable (CPow i j) := by unfold CPow; infer_instance
def CDvX (i j : Int) : Prop := j ≠ 0 ∧ Builtin.divisionGoesByPylong i j = false
instance {i j : Int} : Decidable (CDvX i j) := by unfold CDvX; infer_instance

instance {x : Str} {n : Int} : Decidable (MulOk x n) := by unfold MulOk; infer_instance
def dBin : Operator → D → D → Rs P
  | .Add, .int i, .int j => .ok (.val (.int (i + j)))
  | .Add, .str x, .str y => need (x.length + y.length ≤ sizeLine) (.ok (.val (.str (x ++ y))))
  | .Add, .lst a, .lst b => need (a.length + b.length ≤ sizeLine) (.ok (.own (.lst (a ++ b))))
  | .Add, .tup a, .tup b => need (a.length + b.length ≤ sizeLine) (.ok (.val (.tup (a ++ b))))
  | .Sub, .int i, .int j => .ok (.val (.int (i - j)))
  | .Mult, .int i, .int j => need (CMulX i j) (.ok (.val (.int (i * j))))
  | .Mult, .lst l, .int k => need (-(2 ^ 63) ≤ k ∧ k < 2 ^ 63 ∧ l.length * k.toNat ≤ sizeLine) (.ok (.own (.lst (List.replicate k.toNat l).flatten)))
  | .Mult, .str x, .int n => need (MulOk x n) (.ok (.val (.str (Txt.mul x n))))
  | .FloorDiv, .int i, .int j => need (CDvX i j) (.ok (.val (.int (i.fdiv j))))
  | .Mod, .int i, .int j => need (j ≠ 0) (.ok (.val (.int (i.fmod j))))
  | .Pow, .int i, .int j => need (CPow i j) (.ok (.val (.int (i ^ j.toNat))))
  | .LShift, .int i, .int j => need (CShl i j) (.ok (.val (.int (i * 2 ^ j.toNat))))
  | _, _, _ => .bad

def dIn (x y : D) : Rs Bool := match y with
  | .str j => match x with
    | .str i => .ok (strIn i j)
    | _ => .bad
  | .lst l => need (shp x = true ∧ shp (.lst l) = true) (.ok (l.any fun z => deq z x))
  | .tup l => need (shp x = true ∧ shp (.tup l) = true) (.ok (l.any fun z => deq z x))
  | _ => .bad
def dCmp : CmpOp → D → D → Rs Bool
  | .Eq, a, b => need (shp a = true ∧ shp b = true) (.ok (deq a b))
  | .NotEq, a, b => need (shp a = true ∧ shp b = true) (.ok (!deq a b))
  | .Lt, .int i, .int j => .ok (decide (i < j))
  | .LtE, .int i, .int j => .ok (decide (i ≤ j))
  | .Gt, .int i, .int j => .ok (decide (j < i))
  | .GtE, .int i, .int j => .ok (decide (j ≤ i))
  | .Is, a, .non => .ok (match a with | .non => true | _ => false)
  | .IsNot, a, .non => .ok (match a with | .non => false | _ => true)
  | .In, a, b => dIn a b
  | .NotIn, a, b => (dIn a b).bind fun c => .ok (!c)
  | _, _, _ => .bad

def truth : D → Rs Bool
  | .non => .ok false
  | .bl b => .ok b
  | .int i => .ok (i != 0)
  | .str x => need (x.length ≤ sizeLine) (.ok ((x.length : Int) != 0))
  | .tup l => .ok (!l.isEmpty)
  | .lst l => .ok (!l.isEmpty)
  | .dic ks _ => .ok (!ks.isEmpty)
  | .scr l => .ok (!l.isEmpty)

def dIdx : D → D → Rs D
  | .tup l, .int i => .of (atI l i)
  | .lst l, .int i => .of (atI l i)
  | .scr l, .int i => (Rs.of (atI l i)).bind fun k => .ok (.int k)
  | .str z, .int i => need (z.length ≤ sizeLine) ((Rs.of (atI z.cps.toList i)).bind fun c => .ok (.str (chr1 c)))
  | _, _ => .bad

/-- what a loop walks -/
def items : D → Rs (List D)
  | .tup l => .ok l
  | .lst l => .ok l
  | .scr l => .ok (l.map .int)
  | .str x => .ok (x.cps.toList.map fun c => .str (chr1 c))
  | _ => .bad

/-- .. of a list -/
def itemsL : D → Rs (List D)
  | .lst l => .ok l
  | .tup l => .ok l
  | _ => .bad
inductive Ty where
  | tup | lst | int | str | bool
  deriving DecidableEq
/-- built-in functions of values -/
inductive Bl where
  | len | abs | int | tuple | list | all | any | sum | gcd | min2 | max2 | str
  deriving DecidableEq
def dLen : D → Rs Nat
  | .tup l => .ok l.length
  | .lst l => .ok l.length
  | .scr l => .ok l.length
  | .str x => need (x.length ≤ sizeLine) (.ok x.length)
  | _ => .bad
def bls : List D → Option (List Bool)
  | [] => some []
  | .bl b :: ds => (bls ds).map (b :: ·)
  | _ :: _ => none
def intsD : List D → Option (List Int)
  | [] => some []
  | .int b :: ds => (intsD ds).map (b :: ·)
  | _ :: _ => none
def strsD : List D → Option (List Str)
  | [] => some []
  | .str b :: ds => (strsD ds).map (b :: ·)
  | _ :: _ => none
def isTy : Ty → D → Rs Bool
  | .tup, .tup _ => .ok true
  | .lst, .lst _ => .ok true
  | .int, .int _ => .ok true
  | .int, .bl _ => .ok true
  | .bool, .bl _ => .ok true
  | .str, .str _ => .ok true
  | _, .dic _ _ => .bad
  | _, .scr _ => .bad
  | _, _ => .ok false
def dBl : Bl → List D → Rs P
  | .len, [d] => (dLen d).bind fun n => .ok (.val (.int n))
  | .abs, [.int i] => .ok (.val (.int (if i < 0 then -i else i)))
  | .int, [.int i] => .ok (.val (.int i))
  | .int, [.bl k] => .ok (.val (.int (if k then 1 else 0)))
  | .tuple, [.tup l] => .ok (.val (.tup l))
  | .tuple, [.lst l] => .ok (.val (.tup l))
  | .tuple, [.scr l] => .ok (.val (.tup (l.map .int)))
  | .list, [.tup l] => .ok (.own (.lst l))
  | .list, [.lst l] => .ok (.own (.lst l))
  | .list, [.scr l] => .ok (.own (.lst (l.map .int)))
  | .all, [.lst l] => (Rs.of (bls l)).bind fun bs => .ok (.val (.bl (bs.all id)))
  | .any, [.lst l] => (Rs.of (bls l)).bind fun bs => .ok (.val (.bl (bs.any id)))
  | .sum, [.lst l] => (Rs.of (intsD l)).bind fun is => .ok (.val (.int is.sum))
  | .gcd, [.int i, .int j] => .ok (.val (.int ((Nat.gcd i.natAbs j.natAbs : Nat) : Int)))
  | .min2, [.int i, .int j] => .ok (.val (.int (if j < i then j else i)))
  | .max2, [.int i, .int j] => .ok (.val (.int (if j > i then j else i)))
  | _, _ => .bad
def optI : Option D → Option (Option Int)
  | none => some none
  | some (.int i) => some (some i)
  | _ => none
def dSlc : D → Option Int → Option Int → Rs P
  | .str z, lo, hi => need (z.length ≤ sizeLine) (.ok (.val (.str (cutS z lo hi))))
  | .lst l, lo, hi => .ok (.own (.lst ((l.drop (HT.sIx l.length 0 lo)).take (HT.sIx l.length l.length hi - HT.sIx l.length 0 lo))))
  | .tup l, lo, hi => .ok (.val (.tup ((l.drop (HT.sIx l.length 0 lo)).take (HT.sIx l.length l.length hi - HT.sIx l.length 0 lo))))
  | _, _, _ => .bad
/-- methods that change nothing -/
inductive Me where
  | join | split | index
def dMe : Me → D → List D → Rs P
  | .join, .str a, [.lst l] => (Rs.of (strsD l)).bind fun ys => need ((ys.map (·.length)).sum + ys.length * a.length ≤ 16777216) (.ok (.val (.str (Txt.join a ys))))
  | .join, .str a, [.tup l] => (Rs.of (strsD l)).bind fun ys => need ((ys.map (·.length)).sum + ys.length * a.length ≤ 16777216) (.ok (.val (.str (Txt.join a ys))))
  | .split, .str a, [.str b] => need ((b.length == 0) = false ∧ a.length + 2 ≤ sizeLine) (.ok (.own (.lst ((Txt.split a b).map .str))))
  | .index, .lst l, [x] => need (shp x = true ∧ shp (.lst l) = true) (match l.findIdx? fun z => deq z x with | some j => .ok (.val (.int (j : Nat))) | none => .bad)
  | _, _, _ => .bad
/-- methods that change their list: the value, the list -/
inductive Mm where
  | append | pop | popAt | insert
def dMm : Mm → D → List D → Rs (D × D)
  | .append, .lst l, [d] => need (l.length < sizeLine) (.ok (.non, .lst (l ++ [d])))
  | .pop, .lst l, [] => (Rs.of (l[l.length - 1]?)).bind fun y => .ok (y, .lst l.dropLast)
  | .insert, .lst l, [.int i, d] => need (l.length < sizeLine ∧ 0 ≤ i ∧ i < 2 ^ 63) (.ok (.non, .lst (l.take i.toNat ++ [d] ++ l.drop i.toNat)))
  | .popAt, .lst l, [.int i] => need (-(2 ^ 63) ≤ i ∧ i < 2 ^ 63) ((Rs.of (seqIndex? i l.length)).bind fun k => (Rs.of l[k]?).bind fun y => .ok (y, .lst (l.eraseIdx k)))
  | _, _, _ => .bad

/-! ### the text, names by slots -/
inductive Tg where
  | nm (i : Nat)
  | tp (l : List Nat)
mutual
inductive Ex where
  | var (i : Nat)
  | cst (d : D)
  | glo (x : Str)
  | bin (op : Operator) (a b : Ex)
  | neg (a : Ex)
  | cmp (op : CmpOp) (a b : Ex)
  | chn (op op' : CmpOp) (a b c : Ex)
  | and_ (l : Exs)
  | or_ (l : Exs)
  | not_ (a : Ex)
  | ite (c : Tx) (a b : Ex)
  | tup (l : Exs)
  | lst (l : Exs)
  | idx (a i : Ex)
  | slc (a : Ex) (lo hi : Eo)
  | call (f : Str) (l : Exs)
  | blt (b : Bl) (l : Exs)
  | isi (t : Ty) (a : Ex)
  | met (m : Me) (o : Ex) (l : Exs)
  | chg (m : Mm) (i : Nat) (l : Exs)
  | comp (elt : Ex) (tg : Tg) (it : Ie) (ifs : To) (own : List Nat)
inductive Exs where
  | nil
  | cons (e : Ex) (l : Exs)
inductive Eo where
  | none
  | some (e : Ex)
inductive Tx where
  | val (e : Ex)
  | cmp (op : CmpOp) (a b : Ex)
  | and_ (l : Txs)
  | or_ (l : Txs)
  | not_ (t : Tx)
inductive Txs where
  | nil
  | cons (t : Tx) (l : Txs)
inductive To where
  | none
  | some (t : Tx)
inductive Ie where
  | seq (e : Ex)
  | rng (a : Ex)
  | rng2 (a b : Ex)
  | enm (e : Ex)
  | zip (l : Exs)
end

def hasTy : Me → D → Bool
  | .join, .str _ => true
  | .split, .str _ => true
  | .index, .lst _ => true
  | _, _ => false
def isLst : D → Bool
  | .lst _ => true
  | _ => false
/-! ### the environment -/
def evVar (i : Nat) (ρ : Env') : Rs (P × Env') := match ρ[i]? with
  | some (some (.val d)) => .ok (.val d, ρ)
  | some (some (.brz d)) => .ok (.val d, ρ)
  | some (some (.own _ _)) => .ok (.at_ i, ρ)
  | some (some (.lck _ _)) => .ok (.at_ i, ρ)
  | _ => .bad
/-- may slot i be stored anew? -/
def freeSlot (i : Nat) (ρ : Env') : Bool := match ρ[i]? with
  | some none => true
  | some (some (.val _)) => true
  | some (some (.own false _)) => true
  | _ => false
def putV (i : Nat) (d : D) (ρ : Env') : Rs Env' := if freeSlot i ρ = true then .ok (ρ.set i (some (.val d))) else .bad
def putVs : List Nat → List D → Env' → Rs Env'
  | [], [], ρ => .ok ρ
  | i :: is, d :: ds, ρ => (putV i d ρ).bind (putVs is ds)
  | _, _, _ => .bad
def asgT : Tg → D → Env' → Rs Env'
  | .nm i, d, ρ => putV i d ρ
  | .tp is, .tup ds, ρ => putVs is ds ρ
  | _, _, _ => .bad
/-- x = p -/
def asgP (i : Nat) (p : P) (ρ : Env') : Rs Env' := match p with
  | .val d => putV i d ρ
  | .own d => if freeSlot i ρ = true then .ok (ρ.set i (some (.own false d))) else .bad
  | .at_ j => (Rs.of (toD (.at_ j) ρ)).bind fun r => putV i r.1 r.2
def lockP (p : P) (ρ : Env') : Option Nat × Env' := match p with
  | .at_ i => match ρ[i]? with
    | some (some (.own b d)) => (some i, ρ.set i (some (.lck b d)))
    | _ => (none, ρ)
  | _ => (none, ρ)
def unlock (o : Option Nat) (ρ : Env') : Rs Env' := match o with
  | none => .ok ρ
  | some i => match ρ[i]? with
    | some (some (.lck b d)) => .ok (ρ.set i (some (.own b d)))
    | _ => .bad
def wipeR (ρ : Env') : List Nat → Env'
  | [] => ρ
  | v :: vs => (wipeR ρ vs).set v none
/-- a comprehension's own slots as they were -/
def backR (ρ0 ρ : Env') : List Nat → Env'
  | [] => ρ
  | v :: vs => (backR ρ0 ρ vs).set v (ρ0.getD v none)
def setMut (i : Nat) (d : D) (ρ : Env') : Rs Env' := match ρ[i]? with
  | some (some (.own b _)) => .ok (ρ.set i (some (.own b d)))
  | _ => .bad

/-! ### calls -/
def toArg (p : P) (ρ : Env') : Rs A := match p with
  | .val d => .ok (.val d)
  | .own d => .ok (.own d)
  | .at_ i => match ρ[i]? with
    | some (some (.val d)) => .ok (.val d)
    | some (some (.brz d)) => .ok (.val d)
    | some (some (.own _ d)) => .ok (.own d)
    | some (some (.lck _ d)) => .ok (.rd d)
    | _ => .bad
def toArgs : List P → Env' → Rs (List A)
  | [], _ => .ok []
  | p :: ps, ρ => (toArg p ρ).bind fun a => (toArgs ps ρ).bind fun as => .ok (a :: as)
def ats : List P → List Nat
  | [] => []
  | .at_ i :: ps => i :: ats ps
  | _ :: ps => ats ps
def backArg (p : P) (a : A) (ρ : Env') : Rs Env' := match p with
  | .at_ i => match ρ[i]? with
    | some (some (.own b _)) => (match a with
      | .own d => .ok (ρ.set i (some (.own b d)))
      | .val d => .ok (ρ.set i (some (thaw b d)))
      | .rd _ => .bad)
    | _ => .ok ρ
  | _ => .ok ρ
def backArgs : List P → List A → Env' → Rs Env'
  | [], _, ρ => .ok ρ
  | p :: ps, a :: as, ρ => (backArg p a ρ).bind (backArgs ps as)
  | _ :: _, [], _ => .bad
def Re.p : Re → P
  | .val d => .val d
  | .own d => .own d
def doCall (F : Fn) (f : Str) (ps : List P) (ρ : Env') : Rs (P × Env') :=
  need ((ats ps).Nodup) ((toArgs ps ρ).bind fun as => (F.call f (as ++ (F.dfl f ps.length).map .val)).bind fun r => (backArgs ps r.2 ρ).bind fun ρ' => .ok (r.1.p, ρ'))

/-! ### loops -/
def rng (lo : Int) (n : Nat) : List D := (List.range n).map fun k => .int (lo + (k : Nat))
def inR (i : Int) : Prop := -(2 ^ 62) ≤ i ∧ i < 2 ^ 62
instance {i : Int} : Decidable (inR i) := by unfold inR; infer_instance
/-- the turns of a comprehension: the made item, if any -/
def mapR (f : D → Env' → Rs (Option D × Env')) : List D → Env' → Rs (List D × Env')
  | [], ρ => .ok ([], ρ)
  | d :: ds, ρ => (f d ρ).bind fun r => (mapR f ds r.2).bind fun q => .ok ((match r.1 with | some y => y :: q.1 | none => q.1), q.2)

def pk (p : P) (ρ : Env') : Rs D := .of (peek p ρ)
def pks : List P → Env' → Rs (List D)
  | [], _ => .ok []
  | p :: ps, ρ => (pk p ρ).bind fun d => (pks ps ρ).bind fun ds => .ok (d :: ds)
def zipD : List (List D) → List D
  | [a, b] => (a.zip b).map fun p => .tup [p.1, p.2]
  | [a, b, c] => (a.zip (b.zip c)).map fun p => .tup [p.1, p.2.1, p.2.2]
  | _ => []
def itemss : List D → Rs (List (List D))
  | [.lst a, .lst b] => .ok [a, b]
  | [.tup a, .tup b] => .ok [a, b]
  | [.lst a, .tup b] => .ok [a, b]
  | [.tup a, .lst b] => .ok [a, b]
  | _ => .bad
def enmD (l : List D) : List D := (List.range l.length).zip l |>.map fun p => .tup [.int (p.1 : Nat), p.2]

def asB (r : P × Env') : Rs (Bool × Env') := match r.1 with
  | .val (.bl b) => .ok (b, r.2)
  | _ => .bad
/-! ### running -/
mutual
def ev (F : Fn) : Ex → Env' → Rs (P × Env')
  | .var i, ρ => evVar i ρ
  | .cst d, ρ => .ok (.val d, ρ)
  | .glo x, ρ => (Rs.of (F.glo x)).bind fun d => .ok (.val d, ρ)
  | .bin op a b, ρ => (ev F a ρ).bind fun r => (ev F b r.2).bind fun q => (pk r.1 q.2).bind fun x => (pk q.1 q.2).bind fun y => (dBin op x y).bind fun p => .ok (p, q.2)
  | .neg a, ρ => (ev F a ρ).bind fun r => (pk r.1 r.2).bind fun x => match x with
    | .int i => .ok (.val (.int (-i)), r.2)
    | _ => .bad
  | .cmp op a b, ρ => (ev F a ρ).bind fun r => (ev F b r.2).bind fun q => (pk r.1 q.2).bind fun x => (pk q.1 q.2).bind fun y => (dCmp op x y).bind fun c => .ok (.val (.bl c), q.2)
  | .chn op op' a b c, ρ => (ev F a ρ).bind fun r => (ev F b r.2).bind fun q => (pk r.1 q.2).bind fun x => (pk q.1 q.2).bind fun y => (dCmp op x y).bind fun k =>
      match k with
      | false => .ok (.val (.bl false), q.2)
      | true => (ev F c q.2).bind fun u => (pk q.1 u.2).bind fun y' => (pk u.1 u.2).bind fun z => (dCmp op' y' z).bind fun k' => .ok (.val (.bl k'), u.2)
  | .and_ l, ρ => (evAnd F l ρ).bind fun r => .ok (.val (.bl r.1), r.2)
  | .or_ l, ρ => (evOr F l ρ).bind fun r => .ok (.val (.bl r.1), r.2)
  | .not_ a, ρ => (ev F a ρ).bind fun r0 => (asB r0).bind fun r => .ok (.val (.bl (!r.1)), r.2)
  | .ite c a b, ρ => (evT F c ρ).bind fun r => match r.1 with
    | true => ev F a r.2
    | false => ev F b r.2
  | .tup l, ρ => (evs F l ρ).bind fun r => (Rs.of (toDs r.1 r.2)).bind fun q => need (q.1.length ≤ sizeLine) (.ok (.val (.tup q.1), q.2))
  | .lst l, ρ => (evs F l ρ).bind fun r => (Rs.of (toDs r.1 r.2)).bind fun q => need (q.1.length ≤ sizeLine) (.ok (.own (.lst q.1), q.2))
  | .idx a i, ρ => (ev F a ρ).bind fun r => (ev F i r.2).bind fun q => (pk r.1 q.2).bind fun x => (pk q.1 q.2).bind fun y => (dIdx x y).bind fun d => .ok (.val d, q.2)
  | .slc a lo hi, ρ => (ev F a ρ).bind fun r => (evo F lo r.2).bind fun u => (evo F hi u.2).bind fun w => (pk r.1 w.2).bind fun x => (dSlc x u.1 w.1).bind fun p => .ok (p, w.2)
  | .call f l, ρ => (evs F l ρ).bind fun r => doCall F f r.1 r.2
  | .blt b l, ρ => (evs F l ρ).bind fun r => (pks r.1 r.2).bind fun ds => (dBl b ds).bind fun p => .ok (p, r.2)
  | .isi t a, ρ => (ev F a ρ).bind fun r => (pk r.1 r.2).bind fun x => (isTy t x).bind fun b => .ok (.val (.bl b), r.2)
  | .met m o l, ρ => (ev F o ρ).bind fun r => (pk r.1 r.2).bind fun d0 => need (hasTy m d0 = true) <| (evs F l r.2).bind fun q => (pk r.1 q.2).bind fun x => (pks q.1 q.2).bind fun ds => (dMe m x ds).bind fun p => .ok (p, q.2)
  | .chg m i l, ρ => (evVar i ρ).bind fun r => (pk r.1 r.2).bind fun d0 => need (isLst d0 = true) <| (evs F l r.2).bind fun q => (Rs.of (toDs q.1 q.2)).bind fun t => match t.2[i]? with
    | some (some (.own b d)) => (dMm m d t.1).bind fun y => .ok (.val y.1, t.2.set i (some (.own b y.2)))
    | _ => .bad
  | .comp elt tg it ifs own, ρ => (evi F it ρ).bind fun r =>
      (mapR (fun d ρ1 => (asgT tg d (wipeR ρ1 own)).bind fun ρ2 => (evc F ifs ρ2).quiet.bind fun c => match c.1 with
        | true => (ev F elt c.2).quiet.bind fun p => (Rs.of (toD p.1 p.2)).bind fun y => .ok (some y.1, y.2)
        | false => .ok (none, c.2)) r.1.1 (wipeR (lockP r.1.2 r.2).2 own)).bind fun q =>
      (unlock (lockP r.1.2 r.2).1 (backR (lockP r.1.2 r.2).2 q.2 own)).bind fun ρ' => need (q.1.length < sizeLine) (.ok (.own (.lst q.1), ρ'))
def evs (F : Fn) : Exs → Env' → Rs (List P × Env')
  | .nil, ρ => .ok ([], ρ)
  | .cons e l, ρ => (ev F e ρ).bind fun r => (evs F l r.2).bind fun q => .ok (r.1 :: q.1, q.2)
/-- a slice's part -/
def evo (F : Fn) : Eo → Env' → Rs (Option Int × Env')
  | .none, ρ => .ok (none, ρ)
  | .some e, ρ => (ev F e ρ).bind fun r => (pk r.1 r.2).bind fun x => match x with
    | .int i => .ok (some i, r.2)
    | _ => .bad
/-- a clause's test -/
def evc (F : Fn) : To → Env' → Rs (Bool × Env')
  | .none, ρ => .ok (true, ρ)
  | .some t, ρ => evT F t ρ
/-- a test -/
def evT (F : Fn) : Tx → Env' → Rs (Bool × Env')
  | .val e, ρ => (ev F e ρ).bind fun r => (pk r.1 r.2).bind fun x => (truth x).bind fun b => .ok (b, r.2)
  | .cmp op a b, ρ => (ev F a ρ).bind fun r => (ev F b r.2).bind fun q => (pk r.1 q.2).bind fun x => (pk q.1 q.2).bind fun y => (dCmp op x y).bind fun c => .ok (c, q.2)
  | .and_ l, ρ => evTAnd F l ρ
  | .or_ l, ρ => evTOr F l ρ
  | .not_ a, ρ => (evT F a ρ).bind fun r => .ok (!r.1, r.2)
/-- bools joined by and, or; l is not empty -/
def evAnd (F : Fn) : Exs → Env' → Rs (Bool × Env')
  | .nil, ρ => .ok (true, ρ)
  | .cons e l, ρ => (ev F e ρ).bind fun r0 => (asB r0).bind fun r => match r.1 with
    | true => evAnd F l r.2
    | false => .ok (false, r.2)
def evOr (F : Fn) : Exs → Env' → Rs (Bool × Env')
  | .nil, ρ => .ok (false, ρ)
  | .cons e l, ρ => (ev F e ρ).bind fun r0 => (asB r0).bind fun r => match r.1 with
    | true => .ok (true, r.2)
    | false => evOr F l r.2
def evTAnd (F : Fn) : Txs → Env' → Rs (Bool × Env')
  | .nil, ρ => .ok (true, ρ)
  | .cons e l, ρ => (evT F e ρ).bind fun r => match r.1 with
    | true => evTAnd F l r.2
    | false => .ok (false, r.2)
def evTOr (F : Fn) : Txs → Env' → Rs (Bool × Env')
  | .nil, ρ => .ok (false, ρ)
  | .cons e l, ρ => (evT F e ρ).bind fun r => match r.1 with
    | true => .ok (true, r.2)
    | false => evTOr F l r.2
/-- what a loop walks: the items, the locked slot -/
def evi (F : Fn) : Ie → Env' → Rs ((List D × P) × Env')
  | .seq e, ρ => (ev F e ρ).bind fun r => (pk r.1 r.2).bind fun x => (items x).bind fun l => .ok ((l, r.1), r.2)
  | .rng a, ρ => (ev F a ρ).bind fun r => match r.1 with
    | .val (.int j) => need (inR j) (.ok ((rng 0 j.toNat, .val .non), r.2))
    | _ => .bad
  | .rng2 a b, ρ => (ev F a ρ).bind fun r => (ev F b r.2).bind fun q => match r.1, q.1 with
    | .val (.int i), .val (.int j) => need (inR i ∧ inR j) (.ok ((rng i (j - i).toNat, .val .non), q.2))
    | _, _ => .bad
  | .enm e, ρ => (ev F e ρ).bind fun r => (pk r.1 r.2).bind fun x => (itemsL x).bind fun l => .ok ((enmD l, r.1), r.2)
  | .zip l, ρ => (evs F l ρ).bind fun r => (Rs.of (toDs r.1 r.2)).bind fun q => (itemss q.1).bind fun t => .ok ((zipD t, .val .non), q.2)
end
end
end Dv

set_option Elab.async false
set_option linter.all false
set_option maxRecDepth 100000
namespace Dv
open PySem PySem.Spec PyProof.Rows L2

noncomputable section
mutual
inductive Sx where
  | set (i : Nat) (e : Ex)
  | setT (l : List Nat) (e : Ex)
  | par (i j : Nat) (a b : Ex)
  | setI (i : Nat) (ix e : Ex)
  | aug (i : Nat) (op : Operator) (e : Ex)
  | augI (i : Nat) (op : Operator) (ix e : Ex)
  | expr (e : Ex)
  | ret (e : Ex)
  | retN
  | ite (c : Tx) (a b : Sxs)
  | whl (c : Tx) (b : Sxs)
  | for_ (tg : Tg) (it : Ie) (b : Sxs)
  | brk
  | cnt
  | pass
  | bad
inductive Sxs where
  | nil
  | cons (s : Sx) (l : Sxs)
end
inductive Fl where
  | nx | bk | ct | rt (p : P)

def whileR (t : Env' → Rs (Bool × Env')) (b : Env' → Rs (Fl × Env')) : Nat → Env' → Rs (Fl × Env')
  | 0, _ => .bad
  | n + 1, ρ => (t ρ).bind fun r => match r.1 with
    | false => .ok (.nx, r.2)
    | true => (b r.2).bind fun q => match q.1 with
      | .nx => whileR t b n q.2
      | .ct => whileR t b n q.2
      | .bk => .ok (.nx, q.2)
      | .rt p => .ok (.rt p, q.2)
def forR (f : D → Env' → Rs (Fl × Env')) : List D → Env' → Rs (Fl × Env')
  | [], ρ => .ok (.nx, ρ)
  | d :: ds, ρ => (f d ρ).bind fun q => match q.1 with
      | .nx => forR f ds q.2
      | .ct => forR f ds q.2
      | .bk => .ok (.nx, q.2)
      | .rt p => .ok (.rt p, q.2)
/-- behind a loop: the walked slot is set free, if the loop was not left by return -/
def endFor (o : Option Nat) (q : Fl × Env') : Rs (Fl × Env') := match q.1 with
  | .rt p => .ok (.rt p, q.2)
  | _ => (unlock o q.2).bind fun ρ => .ok (.nx, ρ)
def dAug : Operator → D → D → Rs D
  | .Add, .int i, .int j => .ok (.int (i + j))
  | .Sub, .int i, .int j => .ok (.int (i - j))
  | .Add, .str x, .str y => need (x.length + y.length ≤ sizeLine) (.ok (.str (x ++ y)))
  | _, _, _ => .bad
def dSet : D → D → D → Rs D
  | .lst l, .int k, d => (Rs.of (ixN l.length k)).bind fun j => .ok (.lst (l.set j d))
  | _, _, _ => .bad
def mutSlot (i : Nat) (ρ : Env') (f : D → Rs D) : Rs Env' := match ρ[i]? with
  | some (some (.own b d)) => (f d).bind fun d' => .ok (ρ.set i (some (.own b d')))
  | _ => .bad

mutual
def ex (F : Fn) (N : Nat) : Sx → Env' → Rs (Fl × Env')
  | .set i e, ρ => (ev F e ρ).bind fun r => (asgP i r.1 r.2).bind fun ρ' => .ok (.nx, ρ')
  | .setT l e, ρ => (ev F e ρ).bind fun r => match r.1 with
    | .val (.tup ds) => (putVs l ds r.2).bind fun ρ' => .ok (.nx, ρ')
    | _ => .bad
  | .par i j a b, ρ => (ev F a ρ).bind fun r => (ev F b r.2).bind fun q => match r.1, q.1 with
    | .val x, .val y => (putVs [i, j] [x, y] q.2).bind fun ρ' => .ok (.nx, ρ')
    | _, _ => .bad
  | .setI i ix e, ρ => (ev F e ρ).bind fun r => (evVar i r.2).bind fun o => (ev F ix o.2).bind fun q => (Rs.of (toD r.1 q.2)).bind fun t => (pk q.1 t.2).bind fun k =>
      (mutSlot i t.2 fun d => dSet d k t.1).bind fun ρ' => .ok (.nx, ρ')
  | .aug i op e, ρ => match ρ[i]? with
    | some (some (.val x)) => (ev F e ρ).bind fun r => (pk r.1 r.2).bind fun y => (dAug op x y).bind fun z => (putV i z r.2).bind fun ρ' => .ok (.nx, ρ')
    | _ => .bad
  | .augI i op ix e, ρ => (evVar i ρ).bind fun o => (ev F ix o.2).bind fun q => (pk o.1 q.2).bind fun x => need (isLst x = true) <| (pk q.1 q.2).bind fun k => (dIdx x k).bind fun u => (ev F e q.2).bind fun r => (pk r.1 r.2).bind fun y =>
      (dAug op u y).bind fun z => (mutSlot i r.2 fun d => dSet d k z).bind fun ρ' => .ok (.nx, ρ')
  | .expr e, ρ => (ev F e ρ).bind fun r => .ok (.nx, r.2)
  | .ret e, ρ => (ev F e ρ).bind fun r => .ok (.rt r.1, r.2)
  | .retN, ρ => .ok (.rt (.val .non), ρ)
  | .ite c a b, ρ => (evT F c ρ).bind fun r => match r.1 with
    | true => exs F N a r.2
    | false => exs F N b r.2
  | .whl c b, ρ => whileR (evT F c) (exs F N b) N ρ
  | .for_ tg it b, ρ => (evi F it ρ).bind fun r => (forR (fun d ρ1 => (asgT tg d ρ1).bind (exs F N b)) r.1.1 (lockP r.1.2 r.2).2).bind (endFor (lockP r.1.2 r.2).1)
  | .brk, ρ => .ok (.bk, ρ)
  | .cnt, ρ => .ok (.ct, ρ)
  | .pass, ρ => .ok (.nx, ρ)
  | .bad, _ => .bad
def exs (F : Fn) (N : Nat) : Sxs → Env' → Rs (Fl × Env')
  | .nil, ρ => .ok (.nx, ρ)
  | .cons s l, ρ => (ex F N s ρ).bind fun q => match q.1 with
    | .nx => exs F N l q.2
    | _ => .ok q
end

/-! ### a def -/
def A.slot : A → S
  | .val d => .val d
  | .own d => .own true d
  | .rd d => .lck true d
def envOf (n : Nat) (as : List A) : Env' := as.map (fun a => some a.slot) ++ List.replicate (n - as.length) none
def retOf (p : P) (ρ : Env') : Rs (Re × Env') := match p with
  | .val d => .ok (.val d, ρ)
  | .own d => .ok (.own d, ρ)
  | .at_ i => match ρ[i]? with
    | some (some (.own false d)) => .ok (.own d, ρ.set i none)
    | some (some (.own true d)) => .ok (.val d, ρ.set i (some (.brz d)))
    | _ => .bad
def outArg (a : A) (o : Option (Option S)) : Rs A := match a with
  | .val d => .ok (.val d)
  | .rd d => .ok (.rd d)
  | .own _ => match o with
    | some (some (.own true d)) => .ok (.own d)
    | some (some (.lck true d)) => .ok (.own d)
    | some (some (.brz d)) => .ok (.val d)
    | _ => .bad
def outArgs : List A → Env' → Rs (List A)
  | [], _ => .ok []
  | a :: as, ρ => (outArg a ρ.head?).bind fun x => (outArgs as ρ.tail).bind fun r => .ok (x :: r)
def finish (as : List A) (q : Fl × Env') : Rs (Re × List A) := match q.1 with
  | .nx => (outArgs as q.2).bind fun r => .ok (.val .non, r)
  | .rt p => (retOf p q.2).bind fun t => (outArgs as t.2).bind fun r => .ok (t.1, r)
  | _ => .bad
/-- n: the number of the def's slots -/
def runDef (F : Fn) (N n : Nat) (body : Sxs) (as : List A) : Rs (Re × List A) := (exs F N body (envOf n as)).bind (finish as)
end
end Dv

set_option Elab.async false
set_option linter.all false
set_option maxRecDepth 100000
namespace Dv
open PySem PySem.Spec PyProof.Rows L2

/-! ### data and the library's data -/
section
variable {K : PySem.W.Frag} {H : Hp} {W : AS}
mutual
theorem RepD.dp : ∀ {d : D} {v : V}, RepD K H W v d → (toPy d).canLay0 = true → Dp K H v (toPy d)
  | .non, _, h, _ => by rw [show _ = V.non from h]; exact .non
  | .bl b, _, h, _ => by rw [show _ = V.bl b from h]; exact .bl b
  | .int b, _, h, _ => by rw [show _ = V.int b from h]; exact .int b
  | .str b, _, h, _ => by rw [show _ = V.str b from h]; exact .str b
  | .tup l, _, h, c => by
    obtain ⟨a, vs, rfl, q, r⟩ := h
    exact .tup q.sq (RepDs.dp r (by simpa [toPy, PyData.canLay0] using c))
  | .lst l, _, h, c => by
    obtain ⟨a, vs, rfl, q, _, r⟩ := h
    exact .lst (.of q) (RepDs.dp r (by simpa [toPy, PyData.canLay0] using c))
  | .dic _ _, _, _, c => by simp [toPy, PyData.canLay0] at c
  | .scr _, _, _, c => by simp [toPy, PyData.canLay0] at c
theorem RepDs.dp : ∀ {ds : List D} {vs : List V}, RepDs K H W vs ds → PyData.canLayAll0 (toPys ds) = true → DpAll K H vs (toPys ds)
  | [], _, h, _ => by rw [show _ = [] from h]; exact .nil
  | d :: ds, _, h, c => by
    obtain ⟨v, r, rfl, a, b⟩ := h
    have c' : (toPy d).canLay0 = true ∧ PyData.canLayAll0 (toPys ds) = true := by simpa [toPys, PyData.canLayAll0] using c
    exact .cons (RepD.dp a c'.1) (RepDs.dp b c'.2)
end
theorem lay_of {d : D} (h : shp d = true) : (toPy d).canLay0 = true := by
  unfold shp SeqAt.shaped at h
  exact (Bool.and_eq_true_iff.mp h).1
theorem RepK.dp {d : D} {v : V} (h : RepK K H W v d) (c : shp d = true) : Dp K H v (toPy d) := by
  rcases h with ⟨a, o, rfl, e, q⟩ | h
  · cases d with
    | lst l =>
      obtain ⟨vs, rfl, r⟩ := q
      exact .lst (.of e) (RepDs.dp r (by simpa [toPy, PyData.canLay0] using lay_of c))
    | dic ks l =>
      have := lay_of c
      simp [toPy, PyData.canLay0] at this
    | _ => exact q.elim
  · exact h.dp (lay_of c)
theorem toPys_map : ∀ l : List D, toPys l = l.map toPy
  | [] => rfl
  | d :: l => by rw [toPys, toPys_map l]; rfl
theorem any_py (l : List D) (x : D) : (toPys l).any (fun z => PyData.eqv z (toPy x)) = l.any fun z => deq z x := by
  rw [toPys_map, List.any_map]
  rfl

/-- what is wanted of a result -/
def ResQ (K : PySem.W.Frag) (H : Hp) (W : AS) (p : P) (Q : VK) : Prop := match p with
  | .val d => ∀ v H', (H' = H ∨ ∃ a vs, H a = none ∧ H' = upd H a (.tup vs)) → RepD K H' W v d → Q v H'
  | .own d => ∀ a o, H a = none → RepO K H W o d → Q (.ref a) (upd H a o)
  | .at_ _ => False
theorem adv_new {H : Hp} {W : AS} {a : Addr} {o : HO} (n : H a = none) : Adv H W (upd H a o) W := fun b u e w => ⟨by rw [upd_ne (ne_of_none e n)]; exact e, w⟩
theorem ResQ.tup {l : List D} {Q : VK} (h : ResQ K H W (.val (.tup l)) Q) (wl : WL H W) {vs : List V} (r : RepDs K H W vs l) {a : Addr} (n : H a = none) : Q (.ref a) (upd H a (.tup vs)) :=
  h _ _ (.inr ⟨a, vs, n, rfl⟩) ⟨a, vs, rfl, .of upd_same, r.adv wl (adv_new n)⟩
theorem ResQ.flat {d : D} {Q : VK} (h : ResQ K H W (.val d) Q) {v : V} (r : RepD K H W v d) : Q v H := h v H (.inl rfl) r
theorem ResQ.lst {l : List D} {Q : VK} (h : ResQ K H W (.own (.lst l)) Q) {vs : List V} (r : RepDs K H W vs l) {a : Addr} (n : H a = none) : Q (.ref a) (upd H a (.lst vs)) := h a _ n ⟨vs, rfl, r⟩
end

/-! ### operators, by values -/
section
variable {X : Cx}
theorem op_fdivX : OpR X (binaryOp .FloorDiv) (rI CDvX fun i j => .int (i.fdiv j)) := opI fun _ _ _ _ _ _ _ hc q => floordiv_int hc.1 q (.inl hc.2)
theorem op_mul_str : OpR X (binaryOp .Mult) (fun x y H Q => ∃ a n, x = .str a ∧ y = .int n ∧ MulOk a n ∧ Q (.str (Txt.mul a n)) H) := by
  intro pins s σ H x y v u Q I rx ry h
  obtain ⟨a, n, rfl, rfl, c, q⟩ := h
  obtain ⟨t, rfl⟩ := rx
  obtain ⟨t', rfl⟩ := ry
  exact SB.mul c fun t' k => ⟨.str _, H, I.tok _, ⟨_, rfl⟩, q⟩
def rB (K : PySem.W.Frag) : Operator → R2
  | .Add => fun x y H Q => rI0 (fun i j => .int (i + j)) x y H Q ∨ (∃ i j, x = .str i ∧ y = .str j ∧ i.length + j.length ≤ sizeLine ∧ Q (.str (i ++ j)) H) ∨ rCat x y H Q ∨ rCatA K x y H Q
  | .Sub => rI0 fun i j => .int (i - j)
  | .Mult => fun x y H Q => rI CMulX (fun i j => .int (i * j)) x y H Q ∨ rRep x y H Q ∨ ∃ a n, x = .str a ∧ y = .int n ∧ MulOk a n ∧ Q (.str (Txt.mul a n)) H
  | .FloorDiv => rI CDvX fun i j => .int (i.fdiv j)
  | .Mod => rI (fun _ j => j ≠ 0) fun i j => .int (i.fmod j)
  | .Pow => rI CPow fun i j => .int (i ^ j.toNat)
  | .LShift => rI CShl fun i j => .int (i * 2 ^ j.toNat)
  | _ => fun _ _ _ _ => False
theorem op_no {f : Value → Value → Sem Value} : OpR X f (fun _ _ _ _ => False) := fun _ _ _ _ _ _ _ _ _ _ _ _ h => h.elim
theorem op_B : ∀ op : Operator, OpR X (binaryOp op) (rB X.K op) := fun op => by
  cases op with
  | Add => exact op_add.or (op_add_str.or (op_cat.or op_catA))
  | Sub => exact op_sub
  | Mult => exact op_mulX.or (op_rep.or op_mul_str)
  | FloorDiv => exact op_fdivX
  | Mod => exact op_modN
  | Pow => exact op_pow
  | LShift => exact op_shlW
  | _ => exact op_no

theorem need_ok {p : Prop} {α : Type} {x : Rs α} {a : α} (h : need p x = .ok a) : p ∧ x = .ok a := by
  unfold need at h
  split at h
  · exact ⟨by assumption, h⟩
  · cases h
theorem need_ne {p : Prop} {α : Type} {x : Rs α} (h : need p x ≠ .bad) : p ∧ need p x = x := by
  unfold need at h ⊢
  split at h
  · rename_i q; exact ⟨q, by rw [if_pos q]⟩
  · exact absurd rfl h
theorem flat_rep {K : PySem.W.Frag} {H : Hp} {W : AS} {vs : List V} {l : List D} (r : RepDs K H W vs l) : ∀ k : Nat, RepDs K H W (List.replicate k vs).flatten (List.replicate k l).flatten
  | 0 => rfl
  | k + 1 => by
    rw [List.replicate_succ, List.replicate_succ, List.flatten_cons, List.flatten_cons]
    exact r.append (flat_rep r k)

theorem bin_ok {K : PySem.W.Frag} {H : Hp} {W : AS} (wl : WL H W) {op : Operator} {x y : V} {d e : D} {p : P} {Q : VK} (hd : RepK K H W x d) (he : RepK K H W y e) (h : dBin op d e = .ok p) (q : ResQ K H W p Q) : rB K op x y H Q := by
  unfold dBin at h
  split at h
  · cases h
    exact .inl ⟨_, _, hd.int, he.int, q.flat rfl⟩
  · obtain ⟨c, h⟩ := need_ok h
    cases h
    exact .inr (.inl ⟨_, _, hd.str, he.str, c, q.flat rfl⟩)
  · obtain ⟨c, h⟩ := need_ok h
    cases h
    obtain ⟨a, vs, rfl, e1, r1⟩ := hd.lst
    obtain ⟨b, us, rfl, e2, r2⟩ := he.lst
    exact .inr (.inr (.inl ⟨a, b, vs, us, rfl, rfl, e1, e2, by rw [r1.length, r2.length]; exact c, fun p n => q.lst (r1.append r2) n⟩))
  · obtain ⟨c, h⟩ := need_ok h
    cases h
    obtain ⟨a, vs, rfl, e1, r1⟩ := hd.tup
    obtain ⟨b, us, rfl, e2, r2⟩ := he.tup
    refine .inr (.inr (.inr ⟨a, b, vs, us, rfl, rfl, e1.sq, e2.sq, by rw [r1.length, r2.length]; exact c, fun z => ?_, fun _ z => ?_, fun _ _ p n => q.tup wl (r1.append r2) n⟩))
    · have e0 := r1.length
      rw [z] at e0
      have e3 := List.length_eq_zero_iff.mp e0.symm
      subst e3
      rw [List.nil_append] at q
      exact q.flat ⟨b, us, rfl, e2, r2⟩
    · have e0 := r2.length
      rw [z] at e0
      have e3 := List.length_eq_zero_iff.mp e0.symm
      subst e3
      rw [List.append_nil] at q
      exact q.flat ⟨a, vs, rfl, e1, r1⟩
  · cases h
    exact ⟨_, _, hd.int, he.int, q.flat rfl⟩
  · obtain ⟨c, h⟩ := need_ok h
    cases h
    exact .inl ⟨_, _, hd.int, he.int, c, q.flat rfl⟩
  · obtain ⟨⟨c1, c2, c3⟩, h⟩ := need_ok h
    cases h
    obtain ⟨a, vs, rfl, e1, r1⟩ := hd.lst
    exact .inr (.inl ⟨a, _, vs, rfl, he.int, e1, c1, c2, by rw [r1.length]; exact c3, fun p n => q.lst (flat_rep r1 _) n⟩)
  · obtain ⟨c, h⟩ := need_ok h
    cases h
    exact .inr (.inr ⟨_, _, hd.str, he.int, c, q.flat rfl⟩)
  · obtain ⟨c, h⟩ := need_ok h
    cases h
    exact ⟨_, _, hd.int, he.int, c, q.flat rfl⟩
  · obtain ⟨c, h⟩ := need_ok h
    cases h
    exact ⟨_, _, hd.int, he.int, c, q.flat rfl⟩
  · obtain ⟨c, h⟩ := need_ok h
    cases h
    exact ⟨_, _, hd.int, he.int, c, q.flat rfl⟩
  · obtain ⟨c, h⟩ := need_ok h
    cases h
    exact ⟨_, _, hd.int, he.int, c, q.flat rfl⟩
  · cases h

/-! ### comparisons, by values -/
def rInT (K : PySem.W.Frag) : R2 := fun x y H Q => ∃ d ds, Dp K H x d ∧ Dp K H y (.tuple ds) ∧ SeqAt.shaped d = true ∧ SeqAt.shaped (.tuple ds) = true ∧ Q (.bl (ds.any fun z => PyData.eqv z d)) H
def rNotInT (K : PySem.W.Frag) : R2 := fun x y H Q => ∃ d ds, Dp K H x d ∧ Dp K H y (.tuple ds) ∧ SeqAt.shaped d = true ∧ SeqAt.shaped (.tuple ds) = true ∧ Q (.bl (!ds.any fun z => PyData.eqv z d)) H
theorem op_inT (hu : X.A.units + 65 < cLine) : OpR X (compareOp .In) (rInT X.K) := by
  intro pins s σ H x y v u Q I rx ry h
  obtain ⟨d, ds, hd, he, sd, se, q⟩ := h
  obtain ⟨as, r1⟩ := Dp.reads I d x v hd rx
  obtain ⟨bs, r2⟩ := Dp.reads I (.tuple ds) y u he ry
  exact SeqAt.in_tuple_reads r2 r1 (SeqAt.canLay_of_shaped (d := .tuple ds) se) (SeqAt.canLay_of_shaped sd) (room_in_shaped sd hu) ⟨.bl _, H, I, rfl, q⟩
theorem op_notInT (hu : X.A.units + 65 < cLine) : OpR X (compareOp .NotIn) (rNotInT X.K) := by
  intro pins s σ H x y v u Q I rx ry h
  obtain ⟨d, ds, hd, he, sd, se, q⟩ := h
  obtain ⟨as, r1⟩ := Dp.reads I d x v hd rx
  obtain ⟨bs, r2⟩ := Dp.reads I (.tuple ds) y u he ry
  exact SeqAt.notIn_tuple_reads r2 r1 (SeqAt.canLay_of_shaped (d := .tuple ds) se) (SeqAt.canLay_of_shaped sd) (room_in_shaped sd hu) ⟨.bl _, H, I, rfl, q⟩
def rInStr : R2 := fun x y H Q => ∃ i j, x = .str i ∧ y = .str j ∧ Q (.bl (!(Builtin.Str.occurrences j i 0 j.length 1).isEmpty)) H
def rNotInStr : R2 := fun x y H Q => ∃ i j, x = .str i ∧ y = .str j ∧ Q (.bl (!(!(Builtin.Str.occurrences j i 0 j.length 1).isEmpty))) H
def rC (K : PySem.W.Frag) : CmpOp → R2
  | .Eq => rEqD K
  | .NotEq => rNeD K
  | .Lt => rI0 fun i j => .bl (decide (i < j))
  | .LtE => rI0 fun i j => .bl (decide (i ≤ j))
  | .Gt => rI0 fun i j => .bl (decide (j < i))
  | .GtE => rI0 fun i j => .bl (decide (j ≤ i))
  | .Is => fun x y H Q => y = .non ∧ Q (.bl (decide (x = .non))) H
  | .IsNot => fun x y H Q => y = .non ∧ Q (.bl (!decide (x = .non))) H
  | .In => fun x y H Q => rInStr x y H Q ∨ rInD K x y H Q ∨ rInT K x y H Q
  | .NotIn => fun x y H Q => rNotInStr x y H Q ∨ rNotInD K x y H Q ∨ rNotInT K x y H Q
theorem op_C (hu : X.A.units + 65 < cLine) : ∀ op : CmpOp, OpR X (compareOp op) (rC X.K op) := fun op => by
  cases op with
  | Eq => exact op_eqD (by omega)
  | NotEq => exact op_neD (by omega)
  | Lt => exact op_lt
  | LtE => exact op_le
  | Gt => exact op_gt
  | GtE => exact op_ge
  | Is => exact op_isN
  | IsNot => exact op_notN
  | In => exact op_in_str.or ((op_inD hu).or (op_inT hu))
  | NotIn => exact op_notin_str.or ((op_notInD hu).or (op_notInT hu))
def isNon : D → Bool
  | .non => true
  | _ => false
theorem non_dec {K : PySem.W.Frag} {H : Hp} {W : AS} {x : V} {d : D} (h : RepK K H W x d) : decide (x = .non) = isNon d := by
  cases d with
  | non => rw [h.non]; rfl
  | bl b => rw [h.bl]; rfl
  | int b => rw [h.int]; rfl
  | str b => rw [h.str]; rfl
  | tup l => obtain ⟨a, vs, rfl, _⟩ := h.tup; rfl
  | lst l => obtain ⟨a, vs, rfl, _⟩ := h.lst; rfl
  | dic ks l => obtain ⟨a, vs, rfl, _⟩ := h.dic; rfl
  | scr l => obtain ⟨a, rfl, _⟩ := h.scr; rfl
theorem in_ok {K : PySem.W.Frag} {H : Hp} {W : AS} {x y : V} {d e : D} {b : Bool} (hd : RepK K H W x d) (he : RepK K H W y e) (h : dIn d e = .ok b) :
    (∀ Q : VK, Q (.bl b) H → rC K .In x y H Q) ∧ ∀ Q : VK, Q (.bl (!b)) H → rC K .NotIn x y H Q := by
  unfold dIn at h
  split at h
  · split at h
    · cases h
      exact ⟨fun Q q => .inl ⟨_, _, hd.str, he.str, q⟩, fun Q q => .inl ⟨_, _, hd.str, he.str, q⟩⟩
    · cases h
  · obtain ⟨⟨c1, c2⟩, h⟩ := need_ok h
    cases h
    have k1 := hd.dp c1
    have k2 := he.dp c2
    rw [← any_py]
    exact ⟨fun Q q => .inr (.inl ⟨_, _, k1, k2, c1, c2, q⟩), fun Q q => .inr (.inl ⟨_, _, k1, k2, c1, c2, q⟩)⟩
  · obtain ⟨⟨c1, c2⟩, h⟩ := need_ok h
    cases h
    have k1 := hd.dp c1
    have k2 := he.dp c2
    rw [← any_py]
    exact ⟨fun Q q => .inr (.inr ⟨_, _, k1, k2, c1, c2, q⟩), fun Q q => .inr (.inr ⟨_, _, k1, k2, c1, c2, q⟩)⟩
  · cases h
theorem cmp_ok {K : PySem.W.Frag} {H : Hp} {W : AS} {op : CmpOp} {x y : V} {d e : D} {b : Bool} {Q : VK} (hd : RepK K H W x d) (he : RepK K H W y e) (h : dCmp op d e = .ok b) (q : Q (.bl b) H) : rC K op x y H Q := by
  unfold dCmp at h
  split at h
  · obtain ⟨⟨c1, c2⟩, h⟩ := need_ok h
    cases h
    exact ⟨_, _, hd.dp c1, he.dp c2, c1, c2, q⟩
  · obtain ⟨⟨c1, c2⟩, h⟩ := need_ok h
    cases h
    exact ⟨_, _, hd.dp c1, he.dp c2, c1, c2, q⟩
  · cases h; exact ⟨_, _, hd.int, he.int, q⟩
  · cases h; exact ⟨_, _, hd.int, he.int, q⟩
  · cases h; exact ⟨_, _, hd.int, he.int, q⟩
  · cases h; exact ⟨_, _, hd.int, he.int, q⟩
  · cases h
    refine ⟨he.non, ?_⟩
    rw [non_dec hd]
    cases d <;> exact q
  · cases h
    refine ⟨he.non, ?_⟩
    rw [non_dec hd]
    cases d <;> exact q
  · exact (in_ok hd he h).1 Q q
  · cases z : dIn d e with
    | bad => rw [z] at h; cases h
    | err e => rw [z] at h; cases h
    | ok c =>
      rw [z] at h; cases h
      exact (in_ok hd he z).2 Q q
  · cases h
end
end Dv

set_option Elab.async false
set_option linter.all false
set_option maxRecDepth 100000
namespace Dv
open PySem PySem.Spec PyProof.Rows L2

/-! ### from one state to the next, within an expression -/
structure Go (T : Tc) (σ : Sg) (H : Hp) (ρ : Env') (W : AS) (H' : Hp) (ρ' : Env') (W' : AS) : Prop where
  rel : Rel T σ H' ρ' W'
  step : Step σ H ρ W σ H' ρ' W'
  mon : Mon σ ρ ρ'
  dom : ∀ a, H' a = none → H a = none
  lk : Lk ρ ρ'
structure Out (T : Tc) (σ : Sg) (H : Hp) (ρ : Env') (W : AS) (p : P) (ρ' : Env') (v : V) (H' : Hp) (W' : AS) : Prop where
  go : Go T σ H ρ W H' ρ' W'
  rep : RepP T σ H' ρ' W' v p
  new : ∀ d, p = .own d → ∀ a, v = .ref a → H a = none

/-- an error's exception -/
def ErrR (mg : Str → Option Value) (K : PySem.W.Frag) (er : Er) (cls : Value) (d : Option Addr) (H' : Hp) : Prop :=
  mg er.cls = some cls ∧ (er.val = [] ∨ ∃ a vs, d = some a ∧ H' a = some (.xd ((er.val.map (·.1)).zip vs)) ∧ RepDs K H' (fun _ => True) vs (er.val.map (·.2)))
/-- the error is welcome here -/
def ErrOk (X : Cx) (Z : WX) (er : Er) (σ : Sg) (H : Hp) (ρ : Env') : Prop :=
  ∀ cls d H', ErrR X.mg X.K er cls d H' → (∀ b o, H b = some o → (∀ i, ¬ OwnU σ ρ i b) → H' b = some o) → Z cls d σ H'
def Post (X : Cx) (Z : WX) {α : Type} (r : Rs (α × Env')) (σ : Sg) (H : Hp) (ρ : Env') (k : α → Env' → Prop) : Prop := match r with
  | .ok a => k a.1 a.2
  | .err er => ErrOk X Z er σ H ρ
  | .bad => False

section
variable {X : Cx} {Z : WX} {T : Tc} {F : Fn} {σ : Sg} {H H1 H2 : Hp} {ρ ρ1 ρ2 : Env'} {W W1 W2 : AS}
theorem Go.refl (R : Rel T σ H ρ W) : Go T σ H ρ W H ρ W := ⟨R, Step.refl, .refl, fun _ h => h, .refl⟩
theorem Go.trans (a : Go T σ H ρ W H1 ρ1 W1) (b : Go T σ H1 ρ1 W1 H2 ρ2 W2) : Go T σ H ρ W H2 ρ2 W2 := ⟨b.rel, a.step.trans b.step, a.mon.trans b.mon, fun x h => a.dom x (b.dom x h), a.lk.trans b.lk⟩
theorem Out.after {p : P} {v : V} (a : Go T σ H ρ W H1 ρ1 W1) (b : Out T σ H1 ρ1 W1 p ρ2 v H2 W2) : Out T σ H ρ W p ρ2 v H2 W2 := ⟨a.trans b.go, b.rep, fun d e x h => a.dom x (b.new d e x h)⟩
theorem ErrOk.move {er : Er} (h : ErrOk X Z er σ H ρ) (s : Step σ H ρ W σ H1 ρ1 W1) : ErrOk X Z er σ H1 ρ1 := fun cls d H' e k => h cls d H' e fun b o hb n => by
  obtain ⟨h1, n1, _⟩ := s b o hb n
  exact k b o h1 n1
theorem Post.move {α : Type} {r : Rs (α × Env')} {k : α → Env' → Prop} (h : Post X Z r σ H ρ k) (s : Step σ H ρ W σ H1 ρ1 W1) : Post X Z r σ H1 ρ1 k := by
  cases r with
  | ok a => exact h
  | err er => exact ErrOk.move h s
  | bad => exact h
theorem Post.bind {α β : Type} {r : Rs (α × Env')} {f : α × Env' → Rs (β × Env')} {k : β → Env' → Prop} (h : Post X Z (r.bind f) σ H ρ k) : Post X Z r σ H ρ fun a ρ' => Post X Z (f (a, ρ')) σ H ρ k := by
  cases r with
  | ok a => exact h
  | err er => exact h
  | bad => exact h
theorem Post.imp {α : Type} {r : Rs (α × Env')} {k k' : α → Env' → Prop} (h : Post X Z r σ H ρ k) (g : ∀ a ρ', k a ρ' → k' a ρ') : Post X Z r σ H ρ k' := by
  cases r with
  | ok a => exact g _ _ h
  | err er => exact h
  | bad => exact h
/-- a step that raises nothing -/
def NoErr {α : Type} (r : Rs α) : Prop := ∀ e, r ≠ .err e
theorem Post.val {α β : Type} {r : Rs α} {f : α → Rs (β × Env')} {k : β → Env' → Prop} (n : NoErr r) (h : Post X Z (r.bind f) σ H ρ k) : ∃ a, r = .ok a ∧ Post X Z (f a) σ H ρ k := by
  cases r with
  | ok a => exact ⟨a, rfl, h⟩
  | err er => exact absurd rfl (n er)
  | bad => exact h.elim
theorem Post.need {p : Prop} {β : Type} {r : Rs (β × Env')} {k : β → Env' → Prop} (h : Post X Z (need p r) σ H ρ k) : p ∧ Post X Z r σ H ρ k := by
  unfold Dv.need at h
  split at h
  · exact ⟨by assumption, h⟩
  · exact h.elim
theorem NoErr.of {α : Type} {o : Option α} : NoErr (Rs.of o) := fun e h => by cases o <;> cases h
theorem NoErr.pk {p : P} {ρ : Env'} : NoErr (Dv.pk p ρ) := NoErr.of
theorem NoErr.need {p : Prop} {α : Type} {r : Rs α} (h : NoErr r) : NoErr (Dv.need p r) := fun e q => by
  unfold Dv.need at q
  split at q
  · exact h e q
  · cases q
theorem NoErr.ok {α : Type} {a : α} : NoErr (Rs.ok a) := fun e h => by cases h
theorem NoErr.bad {α : Type} : NoErr (Rs.bad : Rs α) := fun e h => by cases h
theorem NoErr.bind {α β : Type} {r : Rs α} {f : α → Rs β} (h : NoErr r) (g : ∀ a, NoErr (f a)) : NoErr (r.bind f) := fun e q => by
  cases r with
  | ok a => exact g a e q
  | err x => exact h x rfl
  | bad => cases q
theorem NoErr.dBin {op : Operator} {x y : D} : NoErr (Dv.dBin op x y) := by
  unfold Dv.dBin
  split <;> first | exact .ok | exact .bad | exact .need .ok
theorem NoErr.dIn {x y : D} : NoErr (Dv.dIn x y) := by
  unfold Dv.dIn
  split
  · split <;> first | exact .ok | exact .bad
  · exact .need .ok
  · exact .need .ok
  · exact .bad
theorem NoErr.dCmp {op : CmpOp} {x y : D} : NoErr (Dv.dCmp op x y) := by
  unfold Dv.dCmp
  split <;> first | exact .ok | exact .bad | exact .need .ok | exact .dIn | exact .bind .dIn fun _ => .ok
theorem NoErr.truth {x : D} : NoErr (Dv.truth x) := by
  unfold Dv.truth
  split <;> first | exact .ok | exact .bad | exact .need .ok
theorem NoErr.dIdx {x y : D} : NoErr (Dv.dIdx x y) := by
  unfold Dv.dIdx
  split <;> first | exact .of | exact .bad | exact .bind .of fun _ => .ok | exact .need (.bind .of fun _ => .ok)
theorem NoErr.items {x : D} : NoErr (Dv.items x) := by
  unfold Dv.items
  split <;> first | exact .ok | exact .bad
theorem NoErr.itemsL {x : D} : NoErr (Dv.itemsL x) := by
  unfold Dv.itemsL
  split <;> first | exact .ok | exact .bad
theorem NoErr.itemss {x : List D} : NoErr (Dv.itemss x) := by
  unfold Dv.itemss
  split <;> first | exact .ok | exact .bad
theorem NoErr.dLen {x : D} : NoErr (Dv.dLen x) := by
  unfold Dv.dLen
  split <;> first | exact .ok | exact .bad | exact .need .ok
theorem NoErr.isTy {t : Ty} {x : D} : NoErr (Dv.isTy t x) := by
  unfold Dv.isTy
  split <;> first | exact .ok | exact .bad
theorem NoErr.dBl {b : Bl} {l : List D} : NoErr (Dv.dBl b l) := by
  unfold Dv.dBl
  split <;> first | exact .ok | exact .bad | exact .bind .of fun _ => .ok | exact .bind .dLen fun _ => .ok
theorem NoErr.dSlc {x : D} {a b : Option Int} : NoErr (Dv.dSlc x a b) := by
  unfold Dv.dSlc
  split <;> first | exact .ok | exact .bad | exact .need .ok
theorem NoErr.dMe {m : Me} {x : D} {l : List D} : NoErr (Dv.dMe m x l) := by
  unfold Dv.dMe
  split
  · exact .bind .of fun _ => .need .ok
  · exact .bind .of fun _ => .need .ok
  · exact .need .ok
  · refine .need ?_
    split <;> first | exact .ok | exact .bad
  · exact .bad
theorem NoErr.dMm {m : Mm} {x : D} {l : List D} : NoErr (Dv.dMm m x l) := by
  unfold Dv.dMm
  split <;> first | exact .bad | exact .need .ok | exact .bind .of fun _ => .ok | exact .need (.bind .of fun _ => .bind .of fun _ => .ok)
theorem NoErr.evVar {i : Nat} {ρ : Env'} : NoErr (Dv.evVar i ρ) := by
  unfold Dv.evVar
  split <;> first | exact .ok | exact .bad
theorem NoErr.asB {r : P × Env'} : NoErr (Dv.asB r) := by
  unfold Dv.asB
  split <;> first | exact .ok | exact .bad
theorem NoErr.quiet {α : Type} {r : Rs α} : NoErr r.quiet := fun e h => by cases r <;> cases h
theorem NoErr.pks : ∀ {ps : List P} {ρ : Env'}, NoErr (Dv.pks ps ρ)
  | [], _ => .ok
  | _ :: _, _ => .bind .pk fun _ => .bind NoErr.pks fun _ => .ok
theorem NoErr.putV {i : Nat} {d : D} {ρ : Env'} : NoErr (Dv.putV i d ρ) := by
  unfold Dv.putV
  split <;> first | exact .ok | exact .bad
theorem NoErr.putVs : ∀ {is : List Nat} {ds : List D} {ρ : Env'}, NoErr (Dv.putVs is ds ρ)
  | [], [], _ => .ok
  | _ :: _, _ :: _, _ => .bind .putV fun _ => NoErr.putVs
  | [], _ :: _, _ => .bad
  | _ :: _, [], _ => .bad
theorem NoErr.asgT {t : Tg} {d : D} {ρ : Env'} : NoErr (Dv.asgT t d ρ) := by
  unfold Dv.asgT
  split <;> first | exact .putV | exact .putVs | exact .bad
theorem NoErr.unlock {o : Option Nat} {ρ : Env'} : NoErr (Dv.unlock o ρ) := by
  unfold Dv.unlock
  split
  · exact .ok
  · split <;> first | exact .ok | exact .bad

/-! ### readings -/
def tE (X : Cx) (T : Tc) (F : Fn) (Z : WX) (e : Ex) : TE := fun σ H Q => ∃ ρ W, Rel T σ H ρ W ∧ Post X Z (ev F e ρ) σ H ρ fun p ρ' => ∀ v H' W', Out T σ H ρ W p ρ' v H' W' → Q v H'
def tT (X : Cx) (T : Tc) (F : Fn) (Z : WX) (t : Tx) : TT := fun σ H Q => ∃ ρ W, Rel T σ H ρ W ∧ Post X Z (evT F t ρ) σ H ρ fun b ρ' => ∀ H' W', Go T σ H ρ W H' ρ' W' → Q b H'

theorem wkE {e : Expr} {t t' : TE} (h : PE X e t) (w : ∀ σ H Q, t' σ H Q → t σ H Q) : PE X e t' := ⟨fun pins s σ H Q I q => h.run pins s σ H Q I (w σ H Q q)⟩
theorem wkT {e : Expr} {t t' : TT} (h : PT X e t) (w : ∀ σ H Q, t' σ H Q → t σ H Q) : PT X e t' := ⟨fun pins s σ H Q I q => h.run pins s σ H Q I (w σ H Q q)⟩
theorem wkA {e : List Expr} {t t' : TA} (h : PA X e t) (w : ∀ σ H Q, t' σ H Q → t σ H Q) : PA X e t' := ⟨fun pos pins s σ H Q I q => h.run pos pins s σ H Q I (w σ H Q q)⟩

/-- a tuple laid -/
theorem Go.tup (R : Rel T σ H ρ W) {a : Addr} {vs : List V} (n : H a = none) : Go T σ H ρ W (upd H a (.tup vs)) ρ W := by
  have ad : Adv H W (upd H a (.tup vs)) W := adv_new n
  refine ⟨⟨R.len, fun i s e => ?_, R.sep, fun x w => ?_, R.fr, fun x h => R.fzk x ?_, R.bor⟩, fun b o h k => ⟨by rw [upd_ne (ne_of_none h n)]; exact h, k, Iff.rfl⟩, .refl, fun x h => ?_, .refl⟩
  · obtain ⟨o, e1, q⟩ := R.at_ i s e
    refine ⟨o, e1, ?_⟩
    cases s with
    | val d => obtain ⟨v, e2, r⟩ := q; exact ⟨v, e2, r.adv R.wl ad⟩
    | brz d => obtain ⟨v, e2, r⟩ := q; exact ⟨v, e2, r.adv R.wl ad⟩
    | own b d => obtain ⟨c, ob, e2, e3, w, r⟩ := q; exact ⟨c, ob, e2, by rw [upd_ne (ne_of_none e3 n)]; exact e3, w, r.adv R.wl ad⟩
    | lck b d => obtain ⟨c, ob, e2, e3, w, r⟩ := q; exact ⟨c, ob, e2, by rw [upd_ne (ne_of_none e3 n)]; exact e3, w, r.adv R.wl ad⟩
  · obtain ⟨o, e, m⟩ := R.wl x w
    exact ⟨o, by rw [upd_ne (ne_of_none e n)]; exact e, m⟩
  · by_cases e : x = a
    · subst e; exact n
    · rw [upd_ne e] at h; exact h
  · by_cases e : x = a
    · subst e; exact n
    · rw [upd_ne e] at h; exact h
/-- a new mutable object laid -/
theorem Out.own (R : Rel T σ H ρ W) {a : Addr} {o : HO} {d : D} (n : H a = none) (q : RepO T.K H W o d) : Out T σ H ρ W (.own d) ρ (.ref a) (upd H a o) (fun x => W x ∨ x = a) := by
  have ad : Adv H W (upd H a o) (fun x => W x ∨ x = a) := fun b u e w => ⟨by rw [upd_ne (ne_of_none e n)]; exact e, fun z => z.elim w (ne_of_none e n)⟩
  have nO : ∀ i, ¬ OwnA σ ρ i a := fun i z => by
    obtain ⟨_, u, e, _⟩ := R.ownA z
    rw [n] at e; cases e
  refine ⟨⟨⟨R.len, fun i s e => ?_, R.sep, fun x w => ?_, R.fr, fun x h => R.fzk x ?_, R.bor⟩, fun b u h k => ⟨by rw [upd_ne (ne_of_none h n)]; exact h, k, ⟨fun z => z.elim id fun e => absurd e (ne_of_none h n), .inl⟩⟩, .refl, fun x h => ?_, .refl⟩, ⟨a, o, rfl, upd_same, .inr rfl, nO, R.fzk a n, q.adv R.wl ad⟩, fun _ _ b e => by cases e; exact n⟩
  · obtain ⟨v, e1, z⟩ := R.at_ i s e
    refine ⟨v, e1, ?_⟩
    cases s with
    | val d => obtain ⟨v, e2, r⟩ := z; exact ⟨v, e2, r.adv R.wl ad⟩
    | brz d => obtain ⟨v, e2, r⟩ := z; exact ⟨v, e2, r.adv R.wl ad⟩
    | own b d => obtain ⟨c, ob, e2, e3, w, r⟩ := z; exact ⟨c, ob, e2, by rw [upd_ne (ne_of_none e3 n)]; exact e3, .inl w, r.adv R.wl ad⟩
    | lck b d => obtain ⟨c, ob, e2, e3, w, r⟩ := z; exact ⟨c, ob, e2, by rw [upd_ne (ne_of_none e3 n)]; exact e3, .inl w, r.adv R.wl ad⟩
  · rcases w with w | rfl
    · obtain ⟨u, e, m⟩ := R.wl x w
      exact ⟨u, by rw [upd_ne (ne_of_none e n)]; exact e, m⟩
    · exact ⟨o, upd_same, q.mk1⟩
  · by_cases e : x = a
    · subst e; exact n
    · rw [upd_ne e] at h; exact h
  · by_cases e : x = a
    · subst e; exact n
    · rw [upd_ne e] at h; exact h
theorem Out.val (g : Go T σ H ρ W H1 ρ1 W1) {v : V} {d : D} (r : RepD T.K H1 W1 v d) : Out T σ H ρ W (.val d) ρ1 v H1 W1 := ⟨g, r, fun _ e => by cases e⟩
/-- a result that an operation makes -/
theorem Go.res (g : Go T σ H ρ W H1 ρ1 W1) {p : P} {Q : VK} (h : ∀ v H' W', Out T σ H ρ W p ρ1 v H' W' → Q v H') (np : ∀ i, p ≠ .at_ i) : ResQ T.K H1 W1 p Q := by
  cases p with
  | val d =>
    rintro v H' (rfl | ⟨a, vs, n, rfl⟩) r
    · exact h _ _ _ (.val g r)
    · exact h _ _ _ (.val (g.trans (Go.tup g.rel n)) r)
  | own d => exact fun a o n q => h _ _ _ (Out.after g (Out.own g.rel n q))
  | at_ i => exact absurd rfl (np i)
theorem dBin_np {op : Operator} {x y : D} {p : P} (h : dBin op x y = .ok p) (i : Nat) : p ≠ .at_ i := by
  unfold dBin at h
  split at h <;> first | (cases h; done) | (cases h; simp; done) | (obtain ⟨_, h⟩ := need_ok h; cases h; simp)

theorem pk_of {p : P} {ρ : Env'} {d : D} (h : pk p ρ = .ok d) : peek p ρ = some d := by
  unfold pk Rs.of at h
  split at h
  · cases h
  · rename_i e; cases h; exact e
/-! ### the simple expressions -/
theorem s_bin (tk : T.K = X.K) {a b : Ex} {a' b' : Expr} {op : Operator} {pos : Pos} (ha : PE X a' (tE X T F Z a)) (hb : PE X b' (tE X T F Z b)) : PE X (.BinOp a' op b' pos) (tE X T F Z (.bin op a b)) := by
  refine wkE (pe_op (op_B op) ha hb) ?_
  rintro σ H Q ⟨ρ, W, R, h⟩
  refine ⟨ρ, W, R, (Post.bind h).imp fun p1 ρ1 h1 v1 H1 W1 o1 => ⟨ρ1, W1, o1.go.rel, ((Post.bind h1).move o1.go.step).imp fun p2 ρ2 h2 v2 H2 W2 o2 => ?_⟩⟩
  obtain ⟨x, ex, h3⟩ := Post.val .pk h2
  obtain ⟨y, ey, h4⟩ := Post.val .pk h3
  obtain ⟨p, ep, h5⟩ := Post.val .dBin h4
  have h5 : ∀ v H' W', Out T σ H ρ W p ρ2 v H' W' → Q v H' := h5
  have kx := peek_ok o2.go.rel (o1.rep.step o1.go.rel o2.go.step o2.go.mon) (pk_of ex)
  have ky := peek_ok o2.go.rel o2.rep (pk_of ey)
  rw [← tk]
  exact bin_ok o2.go.rel.wl kx ky ep ((o1.go.trans o2.go).res h5 (dBin_np ep))
end
end Dv

set_option Elab.async false
set_option linter.all false
set_option maxRecDepth 100000
namespace Dv
open PySem PySem.Spec PyProof.Rows L2

def RepPs (T : Tc) (σ : Sg) (H0 H : Hp) (ρ : Env') (W : AS) : List V → List P → Prop
  | vs, [] => vs = []
  | vs, p :: ps => ∃ v r, vs = v :: r ∧ RepP T σ H ρ W v p ∧ (∀ d a, p = .own d → v = .ref a → H0 a = none ∧ ∀ (j : Nat) (c : D), ps[j]? = some (P.own c) → r[j]? ≠ some (V.ref a)) ∧ RepPs T σ H0 H ρ W r ps
structure Outs (T : Tc) (σ : Sg) (H : Hp) (ρ : Env') (W : AS) (ps : List P) (ρ' : Env') (vs : List V) (H' : Hp) (W' : AS) : Prop where
  go : Go T σ H ρ W H' ρ' W'
  rep : RepPs T σ H H' ρ' W' vs ps
/-- the new objects among the arguments -/
def tmps (vs : List V) (ps : List P) : AS := fun a => ∃ (j : Nat) (d : D), ps[j]? = some (P.own d) ∧ vs[j]? = some (V.ref a)

section
variable {X : Cx} {Z : WX} {T : Tc} {F : Fn} {σ : Sg} {H H0 H1 H2 : Hp} {ρ ρ1 ρ2 ρ' : Env'} {W W1 W2 : AS} {A : AS}
theorem StepX.adv (s : StepX A σ H ρ W σ H1 ρ1 W1) (R : Rel T σ H ρ W) (hA : ∀ a, A a → W a) : Adv H W H1 W1 := fun b o h w => by
  obtain ⟨h1, _, w1⟩ := s b o h (R.nown w) fun z => w (hA b z)
  exact ⟨h1, fun z => w (w1.mp z)⟩
theorem RepP.stepX {v : V} {p : P} (h : RepP T σ H ρ W v p) (R : Rel T σ H ρ W) (s : StepX A σ H ρ W σ H1 ρ1 W1) (m : Mon σ ρ ρ1) (hA : ∀ a, A a → W a) (n : ∀ d a, p = .own d → v = .ref a → ¬ A a) : RepP T σ H1 ρ1 W1 v p := by
  cases p with
  | val d => exact RepD.adv R.wl (s.adv R hA) h
  | own d =>
    obtain ⟨a, o, e, ha, w, no, f, q⟩ := h
    obtain ⟨h1, n1, w1⟩ := s a o ha (fun i z => no i z.a) (n d a rfl e)
    exact ⟨a, o, e, h1, w1.mpr w, fun i z => no i (m i a z), f, q.adv R.wl (s.adv R hA)⟩
  | at_ i => exact h
theorem RepPs.step : ∀ {ps : List P} {vs : List V}, RepPs T σ H0 H ρ W vs ps → Rel T σ H ρ W → Step σ H ρ W σ H1 ρ1 W1 → Mon σ ρ ρ1 → RepPs T σ H0 H1 ρ1 W1 vs ps
  | [], _, h, _, _, _ => h
  | _ :: _, _, h, R, s, m => by
    obtain ⟨v, r, e, q, n, t⟩ := h
    exact ⟨v, r, e, q.step R s m, n, t.step R s m⟩
theorem RepPs.stepX : ∀ {ps : List P} {vs : List V}, RepPs T σ H0 H ρ W vs ps → Rel T σ H ρ W → StepX A σ H ρ W σ H1 ρ1 W1 → Mon σ ρ ρ1 → (∀ a, A a → W a) → (∀ (j : Nat) (d : D) (a : Addr), ps[j]? = some (P.own d) → vs[j]? = some (V.ref a) → ¬ A a) → RepPs T σ H0 H1 ρ1 W1 vs ps
  | [], _, h, _, _, _, _, _ => h
  | p :: _, _, h, R, s, m, hA, n => by
    obtain ⟨v, r, rfl, q, n1, t⟩ := h
    exact ⟨v, r, rfl, q.stepX R s m hA fun d a e1 e2 => n 0 d a (by rw [e1]; rfl) (by rw [e2]; rfl), n1, t.stepX R s m hA fun j d a e1 e2 => n (j + 1) d a (by simpa using e1) (by simpa using e2)⟩
theorem RepPs.base : ∀ {ps : List P} {vs : List V}, RepPs T σ H0 H ρ W vs ps → (∀ a, H0 a = none → H2 a = none) → RepPs T σ H2 H ρ W vs ps
  | [], _, h, _ => h
  | _ :: _, _, h, d => by
    obtain ⟨v, r, e, q, n, t⟩ := h
    exact ⟨v, r, e, q, fun c a e1 e2 => ⟨d a (n c a e1 e2).1, (n c a e1 e2).2⟩, t.base d⟩
theorem RepPs.length : ∀ {ps : List P} {vs : List V}, RepPs T σ H0 H ρ W vs ps → vs.length = ps.length
  | [], _, h => by rw [show _ = [] from h]; rfl
  | _ :: _, _, h => by
    obtain ⟨v, r, rfl, _, _, t⟩ := h
    rw [List.length_cons, List.length_cons, t.length]
theorem RepPs.get : ∀ {ps : List P} {vs : List V} {j : Nat} {p : P}, RepPs T σ H0 H ρ W vs ps → ps[j]? = some p → ∃ v, vs[j]? = some v ∧ RepP T σ H ρ W v p
  | [], _, _, _, _, e => by simp at e
  | _ :: _, _, 0, _, h, e => by
    obtain ⟨v, r, rfl, q, _, _⟩ := h
    simp at e; subst e; exact ⟨v, rfl, q⟩
  | _ :: _, _, j + 1, _, h, e => by
    obtain ⟨v, r, rfl, _, _, t⟩ := h
    obtain ⟨u, h1, h2⟩ := t.get (j := j) (by simpa using e)
    exact ⟨u, by simpa using h1, h2⟩
theorem RepPs.new : ∀ {ps : List P} {vs : List V} {j : Nat} {d : D} {a : Addr}, RepPs T σ H0 H ρ W vs ps → ps[j]? = some (.own d) → vs[j]? = some (.ref a) → H0 a = none
  | [], _, _, _, _, _, e, _ => by simp at e
  | _ :: _, _, 0, _, _, h, e, e2 => by
    obtain ⟨v, r, rfl, _, n, _⟩ := h
    simp at e e2
    exact (n _ _ e e2).1
  | _ :: _, _, j + 1, _, _, h, e, e2 => by
    obtain ⟨v, r, rfl, _, _, t⟩ := h
    exact t.new (j := j) (by simpa using e) (by simpa using e2)
theorem RepPs.dst : ∀ {ps : List P} {vs : List V} {i j : Nat} {c d : D} {a : Addr}, RepPs T σ H0 H ρ W vs ps → ps[i]? = some (.own c) → ps[j]? = some (.own d) → vs[i]? = some (.ref a) → vs[j]? = some (.ref a) → i = j
  | [], _, _, _, _, _, _, _, e, _, _, _ => by simp at e
  | _ :: _, _, 0, 0, _, _, _, _, _, _, _, _ => rfl
  | _ :: _, _, 0, j + 1, _, _, _, h, e1, e2, e3, e4 => by
    obtain ⟨v, r, rfl, _, n, _⟩ := h
    simp at e1 e3
    exact absurd (by simpa using e4) ((n _ _ e1 e3).2 j _ (by simpa using e2))
  | _ :: _, _, i + 1, 0, _, _, _, h, e1, e2, e3, e4 => by
    obtain ⟨v, r, rfl, _, n, _⟩ := h
    simp at e2 e4
    exact absurd (by simpa using e3) ((n _ _ e2 e4).2 i _ (by simpa using e1))
  | _ :: _, _, i + 1, j + 1, _, _, _, h, e1, e2, e3, e4 => by
    obtain ⟨v, r, rfl, _, _, t⟩ := h
    rw [t.dst (i := i) (j := j) (by simpa using e1) (by simpa using e2) (by simpa using e3) (by simpa using e4)]
theorem tmps_w {ps : List P} {vs : List V} (h : RepPs T σ H0 H ρ W vs ps) : ∀ a, tmps vs ps a → W a ∧ H0 a = none := fun a ⟨j, d, e1, e2⟩ => by
  obtain ⟨v, e3, a', o, e4, _, w, _⟩ := h.get e1
  rw [e2] at e3; cases e3; cases e4
  exact ⟨w, h.new e1 e2⟩
theorem tmp_w {p : P} {v : V} (h : RepP T σ H ρ W v p) : ∀ a, tmp v p a → W a := fun a z => by
  cases p with
  | val d => exact z.elim
  | at_ i => exact z.elim
  | own d =>
    obtain ⟨a', o, e4, _, w, _⟩ := h
    rw [show v = .ref a from z] at e4
    cases e4
    exact w

theorem toDs_ok : ∀ {ps : List P} {vs : List V} {ρ ρ' : Env'} {W : AS} {ds : List D}, Rel T σ H ρ W → RepPs T σ H0 H ρ W vs ps → toDs ps ρ = some (ds, ρ') →
    ∃ W', Rel T σ H ρ' W' ∧ RepDs T.K H W' vs ds ∧ StepX (tmps vs ps) σ H ρ W σ H ρ' W' ∧ Mon σ ρ ρ' ∧ Lk ρ ρ'
  | [], _, _, _, W, _, R, h, e => by
    cases e
    exact ⟨W, R, h, Step.refl.x, .refl, .refl⟩
  | p :: ps, _, ρ, ρ', W, ds, R, h, e => by
    obtain ⟨v, r, rfl, q, n, t⟩ := h
    have e : ((toD p ρ).bind fun r => (toDs ps r.2).bind fun q => some (r.1 :: q.1, q.2)) = some (ds, ρ') := e
    cases e1 : toD p ρ with
    | none => rw [e1] at e; cases e
    | some x =>
      rw [e1] at e
      have e : ((toDs ps x.2).bind fun q => some (x.1 :: q.1, q.2)) = some (ds, ρ') := e
      cases e2 : toDs ps x.2 with
      | none => rw [e2] at e; cases e
      | some y =>
        rw [e2] at e
        cases e
        obtain ⟨W1, R1, q1, s1, m1, l1⟩ := toD_ok R q (d := x.1) (ρ' := x.2) e1
        have t1 : RepPs T σ H0 H x.2 W1 r ps := t.stepX R s1 m1 (tmp_w q) fun j c a h1 h2 z => by
          cases p with
          | val d => exact z
          | at_ i => exact z
          | own d => exact (n d a rfl z).2 j c h1 h2
        obtain ⟨W2, R2, q2, s2, m2, l2⟩ := toDs_ok R1 t1 (ds := y.1) (ρ' := y.2) e2
        refine ⟨W2, R2, ⟨v, r, rfl, RepD.adv R1.wl (s2.adv R1 fun a z => (tmps_w t1 a z).1) q1, q2⟩, fun b o hb no na => ?_, m1.trans m2, l1.trans l2⟩
        obtain ⟨_, n1, w1⟩ := s1 b o hb no fun z => na (by
          cases p with
          | val d => exact z.elim
          | at_ i => exact z.elim
          | own d => exact ⟨0, d, rfl, by rw [show v = .ref b from z]; rfl⟩)
        obtain ⟨h2, n2, w2⟩ := s2 b o hb n1 fun ⟨j, d, z1, z2⟩ => na ⟨j + 1, d, by simpa using z1, by simpa using z2⟩
        exact ⟨h2, n2, w2.trans w1⟩
theorem Outs.data {ps : List P} {vs : List V} {ds : List D} (o : Outs T σ H ρ W ps ρ1 vs H1 W1) (e : toDs ps ρ1 = some (ds, ρ2)) : ∃ W2, Go T σ H ρ W H1 ρ2 W2 ∧ RepDs T.K H1 W2 vs ds := by
  obtain ⟨W2, R2, q, s, m, l⟩ := toDs_ok o.go.rel o.rep e
  exact ⟨W2, ⟨R2, o.go.step.then s fun a z => (tmps_w o.rep a z).2, o.go.mon.trans m, o.go.dom, o.go.lk.trans l⟩, q⟩
theorem Out.data {p : P} {v : V} {d : D} (o : Out T σ H ρ W p ρ1 v H1 W1) (e : toD p ρ1 = some (d, ρ2)) : ∃ W2, Go T σ H ρ W H1 ρ2 W2 ∧ RepD T.K H1 W2 v d := by
  obtain ⟨W2, R2, q, s, m, l⟩ := toD_ok o.go.rel o.rep e
  refine ⟨W2, ⟨R2, o.go.step.then s fun a z => ?_, o.go.mon.trans m, o.go.dom, o.go.lk.trans l⟩, q⟩
  cases p with
  | val d => exact z.elim
  | at_ i => exact z.elim
  | own d => exact o.new d rfl a z
theorem of_ok {α : Type} {o : Option α} {a : α} (h : Rs.of o = .ok a) : o = some a := by
  cases o with
  | none => cases h
  | some x => cases h; rfl

/-! ### the simple expressions -/
def tA (X : Cx) (T : Tc) (F : Fn) (Z : WX) (l : Exs) : TA := fun σ H Q => ∃ ρ W, Rel T σ H ρ W ∧ Post X Z (evs F l ρ) σ H ρ fun ps ρ' => ∀ vs H' W', Outs T σ H ρ W ps ρ' vs H' W' → Q vs H'
variable {a b c : Ex} {a' b' c' : Expr} {pos : Pos}
theorem s_cst (d : D) (v : V) (e : Expr) (he : PE X e (tC v)) (hv : ∀ H W, RepD T.K H W v d) : PE X e (tE X T F Z (.cst d)) := by
  refine wkE he ?_
  rintro σ H Q ⟨ρ, W, R, h⟩
  exact h v H W (.val (Go.refl R) (hv H W))
theorem s_var {i : Nat} (he : PE X a' (tVar i)) : PE X a' (tE X T F Z (.var i)) := by
  refine wkE he ?_
  rintro σ H Q ⟨ρ, W, R, h⟩
  have h : Post X Z (evVar i ρ) σ H ρ _ := h
  unfold evVar at h
  split at h
  · rename_i d e
    obtain ⟨o, e1, v, rfl, q⟩ := R.at_ i _ e
    exact ⟨v, e1, h v H W (.val (Go.refl R) q)⟩
  · rename_i d e
    obtain ⟨o, e1, v, rfl, q⟩ := R.at_ i _ e
    exact ⟨v, e1, h v H W (.val (Go.refl R) q)⟩
  · rename_i b d e
    obtain ⟨o, e1, x, ob, rfl, q⟩ := R.at_ i _ e
    exact ⟨_, e1, h _ H W ⟨Go.refl R, e1, fun _ z => by cases z⟩⟩
  · rename_i b d e
    obtain ⟨o, e1, x, ob, rfl, q⟩ := R.at_ i _ e
    exact ⟨_, e1, h _ H W ⟨Go.refl R, e1, fun _ z => by cases z⟩⟩
  · exact h.elim
theorem s_glo {x : Str} (h : ∀ d, F.glo x = some d → ∃ v, PE X a' (tC v) ∧ ∀ H W, RepD T.K H W v d) : PE X a' (tE X T F Z (.glo x)) := by
  refine ⟨fun pins s σ H Q I q => ?_⟩
  obtain ⟨ρ, W, R, p⟩ := q
  obtain ⟨d, e, p⟩ := Post.val (r := Rs.of (F.glo x)) .of p
  obtain ⟨v, pe, hv⟩ := h d (of_ok e)
  exact pe.run pins s σ H Q I (p v H W (.val (Go.refl R) (hv H W)))
/-- two operands have come -/
theorem two (o1 : ∀ (_ : Unit), True) : True := trivial
theorem s_cmp (tk : T.K = X.K) (hu : X.A.units + 65 < cLine) {op : CmpOp} (hm : behindInMarks op b' = false) (ha : PE X a' (tE X T F Z a)) (hb : PE X b' (tE X T F Z b)) : PE X (.Compare a' [op] [b'] pos) (tE X T F Z (.cmp op a b)) := by
  refine wkE (pe_cmpR (op_C hu op) ha hb hm) ?_
  rintro σ H Q ⟨ρ, W, R, h⟩
  refine ⟨ρ, W, R, (Post.bind h).imp fun p1 ρ1 h1 v1 H1 W1 o1 => ⟨ρ1, W1, o1.go.rel, ((Post.bind h1).move o1.go.step).imp fun p2 ρ2 h2 v2 H2 W2 o2 => ?_⟩⟩
  obtain ⟨x, ex, h3⟩ := Post.val .pk h2
  obtain ⟨y, ey, h4⟩ := Post.val .pk h3
  obtain ⟨p, ep, h5⟩ := Post.val .dCmp h4
  have kx := peek_ok o2.go.rel (o1.rep.step o1.go.rel o2.go.step o2.go.mon) (pk_of ex)
  have ky := peek_ok o2.go.rel o2.rep (pk_of ey)
  rw [← tk]
  exact cmp_ok kx ky ep (h5 _ _ _ (.val (o1.go.trans o2.go) rfl))
theorem s_tcmp (tk : T.K = X.K) (hu : X.A.units + 65 < cLine) {op : CmpOp} (hm : behindInMarks op b' = false) (ha : PE X a' (tE X T F Z a)) (hb : PE X b' (tE X T F Z b)) : PT X (.Compare a' [op] [b'] pos) (tT X T F Z (.cmp op a b)) := by
  refine wkT (pt_cmpR (op_C hu op) ha hb hm) ?_
  rintro σ H Q ⟨ρ, W, R, h⟩
  refine ⟨ρ, W, R, (Post.bind h).imp fun p1 ρ1 h1 v1 H1 W1 o1 => ⟨ρ1, W1, o1.go.rel, ((Post.bind h1).move o1.go.step).imp fun p2 ρ2 h2 v2 H2 W2 o2 => ?_⟩⟩
  obtain ⟨x, ex, h3⟩ := Post.val .pk h2
  obtain ⟨y, ey, h4⟩ := Post.val .pk h3
  obtain ⟨p, ep, h5⟩ := Post.val .dCmp h4
  have kx := peek_ok o2.go.rel (o1.rep.step o1.go.rel o2.go.step o2.go.mon) (pk_of ex)
  have ky := peek_ok o2.go.rel o2.rep (pk_of ey)
  rw [← tk]
  exact cmp_ok kx ky ep ⟨_, rfl, h5 _ _ (o1.go.trans o2.go)⟩
theorem s_chn (tk : T.K = X.K) (hu : X.A.units + 65 < cLine) {op op' : CmpOp} (hm : lastMarks [op, op'] [b', c'] = false) (ha : PE X a' (tE X T F Z a)) (hb : PE X b' (tE X T F Z b)) (hc : PE X c' (tE X T F Z c)) :
    PE X (.Compare a' [op, op'] [b', c'] pos) (tE X T F Z (.chn op op' a b c)) := by
  refine wkE (pe_chain (op_C hu op) (op_C hu op') ha hb hc hm) ?_
  rintro σ H Q ⟨ρ, W, R, h⟩
  refine ⟨ρ, W, R, (Post.bind h).imp fun p1 ρ1 h1 v1 H1 W1 o1 => ⟨ρ1, W1, o1.go.rel, ((Post.bind h1).move o1.go.step).imp fun p2 ρ2 h2 v2 H2 W2 o2 => ?_⟩⟩
  obtain ⟨x, ex, h3⟩ := Post.val .pk h2
  obtain ⟨y, ey, h4⟩ := Post.val .pk h3
  obtain ⟨k, ek, h5⟩ := Post.val .dCmp h4
  have kx := peek_ok o2.go.rel (o1.rep.step o1.go.rel o2.go.step o2.go.mon) (pk_of ex)
  have ky := peek_ok o2.go.rel o2.rep (pk_of ey)
  have go2 := o1.go.trans o2.go
  rw [← tk]
  refine cmp_ok kx ky ek ⟨k, rfl, ?_⟩
  cases k with
  | false => exact h5 _ _ _ (.val go2 rfl)
  | true =>
    refine ⟨ρ2, W2, go2.rel, ((Post.bind h5).move go2.step).imp fun p3 ρ3 h6 v3 H3 W3 o3 => ?_⟩
    obtain ⟨y', ey', h7⟩ := Post.val .pk h6
    obtain ⟨z, ez, h8⟩ := Post.val .pk h7
    obtain ⟨k', ek', h9⟩ := Post.val .dCmp h8
    exact cmp_ok (peek_ok o3.go.rel (o2.rep.step o2.go.rel o3.go.step o3.go.mon) (pk_of ey')) (peek_ok o3.go.rel o3.rep (pk_of ez)) ek' (h9 _ _ _ (.val (go2.trans o3.go) rfl))
theorem s_neg (ha : PE X a' (tE X T F Z a)) : PE X (.UnaryOp .USub a' pos) (tE X T F Z (.neg a)) := by
  refine wkE (pe_un un_neg ha) ?_
  rintro σ H Q ⟨ρ, W, R, h⟩
  refine ⟨ρ, W, R, (Post.bind h).imp fun p1 ρ1 h1 v1 H1 W1 o1 => ?_⟩
  obtain ⟨x, ex, h3⟩ := Post.val .pk h1
  have kx := peek_ok o1.go.rel o1.rep (pk_of ex)
  cases x with
  | int i => exact ⟨i, kx.int, h3 _ _ _ (.val o1.go rfl)⟩
  | _ => exact h3.elim
theorem asB_ok {p : P} {ρ : Env'} {k : Bool} {ρ' : Env'} (h : asB (p, ρ) = .ok (k, ρ')) : p = .val (.bl k) ∧ ρ' = ρ := by
  unfold asB at h
  split at h
  · rename_i b e
    have e : p = .val (.bl b) := e
    cases h
    exact ⟨e, rfl⟩
  · cases h
theorem s_not (ha : PE X a' (tE X T F Z a)) : PE X (.UnaryOp .Not a' pos) (tE X T F Z (.not_ a)) := by
  refine wkE (pe_not ha) ?_
  rintro σ H Q ⟨ρ, W, R, h⟩
  refine ⟨ρ, W, R, (Post.bind h).imp fun p1 ρ1 h1 v1 H1 W1 o1 => ?_⟩
  obtain ⟨⟨k, ρ2⟩, ex, h3⟩ := Post.val .asB h1
  obtain ⟨rfl, rfl⟩ := asB_ok ex
  have e : v1 = .bl k := o1.rep
  exact ⟨k, e, h3 _ _ _ (.val o1.go rfl)⟩
theorem s_tnot {t : Tx} (ha : PT X a' (tT X T F Z t)) : PT X (.UnaryOp .Not a' pos) (tT X T F Z (.not_ t)) := by
  refine wkT (pt_not ha) ?_
  rintro σ H Q ⟨ρ, W, R, h⟩
  exact ⟨ρ, W, R, (Post.bind h).imp fun p1 ρ1 h1 H1 W1 o1 => h1 _ _ o1⟩
theorem s_ite {t : Tx} (hc : PT X c' (tT X T F Z t)) (ha : PE X a' (tE X T F Z a)) (hb : PE X b' (tE X T F Z b)) : PE X (.IfExp c' a' b' pos) (tE X T F Z (.ite t a b)) := by
  refine wkE (pe_ifExp hc ha hb) ?_
  rintro σ H Q ⟨ρ, W, R, h⟩
  refine ⟨ρ, W, R, (Post.bind h).imp fun k ρ1 h1 H1 W1 g1 => ?_⟩
  cases k with
  | true => exact ⟨ρ1, W1, g1.rel, (Post.move h1 g1.step).imp fun p ρ2 h2 v H2 W2 o => h2 v H2 W2 (o.after g1)⟩
  | false => exact ⟨ρ1, W1, g1.rel, (Post.move h1 g1.step).imp fun p ρ2 h2 v H2 W2 o => h2 v H2 W2 (o.after g1)⟩
theorem s_nil : PA X [] (tA X T F Z .nil) := by
  refine wkA pa_nil ?_
  rintro σ H Q ⟨ρ, W, R, h⟩
  exact h [] H W ⟨Go.refl R, rfl⟩
theorem s_cons {e : Ex} {l : Exs} {e' : Expr} {l' : List Expr} (he : PE X e' (tE X T F Z e)) (hl : PA X l' (tA X T F Z l)) (hs : starEach (e' :: l') X.env = (false, eval e' X.env) :: starEach l' X.env) : PA X (e' :: l') (tA X T F Z (.cons e l)) := by
  refine wkA (pa_cons he hl hs) ?_
  rintro σ H Q ⟨ρ, W, R, h⟩
  refine ⟨ρ, W, R, (Post.bind h).imp fun p1 ρ1 h1 v1 H1 W1 o1 => ⟨ρ1, W1, o1.go.rel, ((Post.bind h1).move o1.go.step).imp fun p2 ρ2 h2 v2 H2 W2 o2 => ?_⟩⟩
  refine h2 (v1 :: v2) H2 W2 ⟨o1.go.trans o2.go, v1, v2, rfl, o1.rep.step o1.go.rel o2.go.step o2.go.mon, fun d x e1 e2 => ⟨o1.new d e1 x e2, fun j c e3 e4 => ?_⟩, o2.rep.base o1.go.dom⟩
  subst e1
  obtain ⟨x', ob, e5, e6, _⟩ := o1.rep
  rw [e2] at e5; cases e5
  rw [o2.rep.new e3 e4] at e6; cases e6
theorem s_tup {l : Exs} {l' : List Expr} {k : Nat} (hl : PA X l' (tA X T F Z l)) : PE X (.Tuple l' k pos) (tE X T F Z (.tup l)) := by
  refine wkE (pe_tup hl) ?_
  rintro σ H Q ⟨ρ, W, R, h⟩
  refine ⟨ρ, W, R, (Post.bind h).imp fun ps ρ1 h1 vs H1 W1 o1 => ?_⟩
  obtain ⟨⟨ds, ρ2⟩, ex, h3⟩ := Post.val .of h1
  obtain ⟨c, h3⟩ := Post.need h3
  obtain ⟨W2, g, q⟩ := o1.data (of_ok ex)
  refine ⟨by rw [q.length]; exact c, fun p n => ?_⟩
  exact (g.res h3 (fun _ z => by cases z)).tup g.rel.wl q n
theorem s_lst {l : Exs} {l' : List Expr} (hl : PA X l' (tA X T F Z l)) : PE X (.List l' pos) (tE X T F Z (.lst l)) := by
  refine wkE (pe_lst hl) ?_
  rintro σ H Q ⟨ρ, W, R, h⟩
  refine ⟨ρ, W, R, (Post.bind h).imp fun ps ρ1 h1 vs H1 W1 o1 => ?_⟩
  obtain ⟨⟨ds, ρ2⟩, ex, h3⟩ := Post.val .of h1
  obtain ⟨c, h3⟩ := Post.need h3
  obtain ⟨W2, g, q⟩ := o1.data (of_ok ex)
  refine ⟨by rw [q.length]; exact c, fun p n => ?_⟩
  exact (g.res h3 (fun _ z => by cases z)).lst q n
end
end Dv

set_option Elab.async false
set_option linter.all false
set_option maxRecDepth 100000
namespace Dv
open PySem PySem.Spec PyProof.Rows L2

section
variable {X : Cx} {Z : WX} {T : Tc} {F : Fn} {σ : Sg} {H H0 H1 H2 : Hp} {ρ ρ1 ρ2 ρ' : Env'} {W W1 W2 : AS} {K : PySem.W.Frag}

/-! ### subscripts -/
theorem atI_rep {l : List D} {vs : List V} {i : Int} {d : D} (r : RepDs K H W vs l) (h : atI l i = some d) : ∃ v, atI vs i = some v ∧ RepD K H W v d := by
  unfold atI at h ⊢
  rw [r.length]
  cases e : ixN l.length i with
  | none => rw [e] at h; cases h
  | some j =>
    rw [e] at h
    exact r.get h
theorem atI_map {α β : Type} {l : List α} {f : α → β} {i : Int} {d : α} (h : atI l i = some d) : atI (l.map f) i = some (f d) := by
  unfold atI at h ⊢
  rw [List.length_map]
  cases e : ixN l.length i with
  | none => rw [e] at h; cases h
  | some j =>
    rw [e] at h
    have h : l[j]? = some d := h
    show (l.map f)[j]? = some (f d)
    rw [List.getElem?_map, h]
    rfl
theorem idx_ok {x y : V} {d e r : D} {Q : VK} (hd : RepK K H W x d) (he : RepK K H W y e) (h : dIdx d e = .ok r) (q : ∀ v, RepD K H W v r → Q v H) : rIx K x y H Q := by
  unfold dIdx at h
  split at h
  · obtain ⟨a, vs, rfl, e1, r1⟩ := hd.tup
    obtain ⟨v, e2, r2⟩ := atI_rep r1 (of_ok h)
    exact .inr (.inl ⟨a, vs, _, v, rfl, he.int, e1.sq, e2, q v r2⟩)
  · obtain ⟨a, vs, rfl, e1, r1⟩ := hd.lst
    obtain ⟨v, e2, r2⟩ := atI_rep r1 (of_ok h)
    exact .inl ⟨a, vs, _, v, rfl, he.int, .of e1, e2, q v r2⟩
  · rename_i l i
    obtain ⟨a, rfl, e1⟩ := hd.scr
    cases z : atI l i with
    | none => rw [z] at h; cases h
    | some k =>
      rw [z] at h
      cases h
      exact .inl ⟨a, _, _, .int k, rfl, he.int, e1, atI_map z, q _ rfl⟩
  · rename_i z i
    obtain ⟨c, h⟩ := need_ok h
    cases e : atI z.cps.toList i with
    | none => rw [e] at h; cases h
    | some k =>
      rw [e] at h
      cases h
      exact .inr (.inr ⟨z, i, k, hd.str, he.int, c, e, q _ rfl⟩)
  · cases h
theorem s_idx (tk : T.K = X.K) {a b : Ex} {a' b' : Expr} {pos : Pos} (hp : PlainIx b') (ha : PE X a' (tE X T F Z a)) (hb : PE X b' (tE X T F Z b)) : PE X (.Subscript a' b' pos) (tE X T F Z (.idx a b)) := by
  refine wkE (pe_ix ix_seq ha hb hp) ?_
  rintro σ H Q ⟨ρ, W, R, h⟩
  refine ⟨ρ, W, R, (Post.bind h).imp fun p1 ρ1 h1 v1 H1 W1 o1 => ⟨ρ1, W1, o1.go.rel, ((Post.bind h1).move o1.go.step).imp fun p2 ρ2 h2 v2 H2 W2 o2 => ?_⟩⟩
  obtain ⟨x, ex, h3⟩ := Post.val .pk h2
  obtain ⟨y, ey, h4⟩ := Post.val .pk h3
  obtain ⟨d, ed, h5⟩ := Post.val .dIdx h4
  have kx := peek_ok o2.go.rel (o1.rep.step o1.go.rel o2.go.step o2.go.mon) (pk_of ex)
  have ky := peek_ok o2.go.rel o2.rep (pk_of ey)
  rw [← tk]
  exact idx_ok kx ky ed fun v r => h5 _ _ _ (.val (o1.go.trans o2.go) r)

/-! ### slices -/
def tO (X : Cx) (T : Tc) (F : Fn) (Z : WX) (o : Eo) : TO := fun σ H Q => ∃ ρ W, Rel T σ H ρ W ∧ Post X Z (evo F o ρ) σ H ρ fun i ρ' => ∀ H' W', Go T σ H ρ W H' ρ' W' → Q i H'
theorem wkO {e : Option Expr} {t t' : TO} (h : PO X e t) (w : ∀ σ H Q, t' σ H Q → t σ H Q) : PO X e t' := ⟨fun pins s σ H Q I q => h.run pins s σ H Q I (w σ H Q q)⟩
theorem s_onone : PO X none (tO X T F Z .none) := by
  refine wkO po_none ?_
  rintro σ H Q ⟨ρ, W, R, h⟩
  exact h H W (Go.refl R)
theorem s_osome {e : Ex} {e' : Expr} (he : PE X e' (tE X T F Z e)) : PO X (some e') (tO X T F Z (.some e)) := by
  refine wkO (po_some he) ?_
  rintro σ H Q ⟨ρ, W, R, h⟩
  refine ⟨ρ, W, R, (Post.bind h).imp fun p1 ρ1 h1 v1 H1 W1 o1 => ?_⟩
  obtain ⟨x, ex, h3⟩ := Post.val .pk h1
  have kx := peek_ok o1.go.rel o1.rep (pk_of ex)
  cases x with
  | int i => exact ⟨i, kx.int, h3 _ _ o1.go⟩
  | _ => exact h3.elim
def rSl (K : PySem.W.Frag) : V → Option Int → Option Int → Hp → VK → Prop := fun x lo hi H Q => rSlL K x lo hi H Q ∨ rSlA K x lo hi H Q ∨ rSlS x lo hi H Q
theorem sl_any : SlR X (rSl X.K) := sl_list.or (sl_tupA.or sl_str)
theorem slc_ok (wl : WL H W) {x : V} {d : D} {lo hi : Option Int} {p : P} {Q : VK} (hd : RepK K H W x d) (h : dSlc d lo hi = .ok p) (q : ResQ K H W p Q) : rSl K x lo hi H Q := by
  unfold dSlc at h
  split at h
  · obtain ⟨c, h⟩ := need_ok h
    cases h
    exact .inr (.inr ⟨_, hd.str, c, q.flat rfl⟩)
  · cases h
    obtain ⟨a, vs, rfl, e1, r1⟩ := hd.lst
    refine .inl ⟨a, vs, rfl, .of e1, fun p n => ?_⟩
    have r2 := (r1.drop (HT.sIx vs.length 0 lo)).take (HT.sIx vs.length vs.length hi - HT.sIx vs.length 0 lo)
    rw [← r1.length] at q
    exact q.lst r2 n
  · cases h
    obtain ⟨a, vs, rfl, e1, r1⟩ := hd.tup
    rw [← r1.length] at q
    refine .inr (.inl ⟨a, vs, rfl, e1.sq, fun ⟨z1, z2⟩ => ?_, fun _ p n => ?_⟩)
    · rw [z1, z2, List.drop_zero, List.take_of_length_le (by rw [r1.length]; omega)] at q
      exact q.flat ⟨a, vs, rfl, e1, r1⟩
    · exact q.tup wl ((r1.drop (HT.sIx vs.length 0 lo)).take (HT.sIx vs.length vs.length hi - HT.sIx vs.length 0 lo)) n
  · cases h
theorem dSlc_np {x : D} {lo hi : Option Int} {p : P} (h : dSlc x lo hi = .ok p) (i : Nat) : p ≠ .at_ i := by
  unfold dSlc at h
  split at h <;> first | (cases h; done) | (cases h; simp; done) | (obtain ⟨_, h⟩ := need_ok h; cases h; simp)
theorem s_slc (tk : T.K = X.K) {a : Ex} {lo hi : Eo} {a' : Expr} {lo' hi' : Option Expr} {pos p2 : Pos} (ha : PE X a' (tE X T F Z a)) (hl : PO X lo' (tO X T F Z lo)) (hh : PO X hi' (tO X T F Z hi)) :
    PE X (.Subscript a' (.Slice lo' hi' none p2) pos) (tE X T F Z (.slc a lo hi)) := by
  refine wkE (pe_slice sl_any ha hl hh) ?_
  rintro σ H Q ⟨ρ, W, R, h⟩
  refine ⟨ρ, W, R, (Post.bind h).imp fun p1 ρ1 h1 v1 H1 W1 o1 => ⟨ρ1, W1, o1.go.rel, ((Post.bind h1).move o1.go.step).imp fun l ρ2 h2 H2 W2 g2 => ⟨ρ2, W2, g2.rel, ((Post.bind h2).move (o1.go.trans g2).step).imp fun u ρ3 h3 H3 W3 g3 => ?_⟩⟩⟩
  obtain ⟨x, ex, h4⟩ := Post.val .pk h3
  obtain ⟨p, ep, h5⟩ := Post.val .dSlc h4
  have kx := peek_ok g3.rel ((o1.rep.step o1.go.rel g2.step g2.mon).step g2.rel g3.step g3.mon) (pk_of ex)
  rw [← tk]
  exact slc_ok g3.rel.wl kx ep (((o1.go.trans g2).trans g3).res (p := p) h5 (dSlc_np ep))

/-! ### truth, and, or -/
theorem nil_iff {vs : List V} {l : List D} (r : RepDs K H W vs l) : vs.isEmpty = l.isEmpty := by
  have e := r.length
  cases vs <;> cases l <;> simp_all
theorem truth_ok {v : V} {d : D} {b : Bool} (h : RepK K H W v d) (e : truth d = .ok b) : TruV K v H b := by
  unfold truth at e
  split at e
  · cases e; rw [h.non]; rfl
  · cases e; rw [h.bl]; rfl
  · cases e; rw [h.int]; rfl
  · obtain ⟨c, e⟩ := need_ok e
    cases e; rw [h.str]; exact ⟨c, rfl⟩
  · cases e
    obtain ⟨a, vs, rfl, e1, r⟩ := h.tup
    exact .inr (.inl ⟨vs, e1.sq, by rw [nil_iff r]⟩)
  · cases e
    obtain ⟨a, vs, rfl, e1, r⟩ := h.lst
    exact .inl ⟨vs, .of e1, by rw [nil_iff r]⟩
  · cases e
    obtain ⟨a, kvs, rfl, e1, k, r⟩ := h.dic
    refine .inr (.inr ⟨kvs, e1, ?_⟩)
    rw [← k]
    cases kvs <;> rfl
  · cases e
    obtain ⟨a, rfl, e1⟩ := h.scr
    refine .inl ⟨_, e1, ?_⟩
    rename_i l
    cases l <;> rfl
theorem s_tval (tk : T.K = X.K) {a : Ex} {a' : Expr} (he : ∀ whole, isTrue a' X.env whole = (do let v ← whole; standAt a'.pos; holding [v] (truthy v))) (ha : PE X a' (tE X T F Z a)) : PT X a' (tT X T F Z (.val a)) := by
  refine wkT (pt_truth ha he) ?_
  rintro σ H Q ⟨ρ, W, R, h⟩
  refine ⟨ρ, W, R, (Post.bind h).imp fun p1 ρ1 h1 v1 H1 W1 o1 => ?_⟩
  obtain ⟨x, ex, h3⟩ := Post.val .pk h1
  obtain ⟨b, eb, h4⟩ := Post.val .truth h3
  rw [← tk]
  exact ⟨b, truth_ok (peek_ok o1.go.rel o1.rep (pk_of ex)) eb, h4 _ _ o1.go⟩
def tTAnd (X : Cx) (T : Tc) (F : Fn) (Z : WX) (t : Txs) : TT := fun σ H Q => ∃ ρ W, Rel T σ H ρ W ∧ Post X Z (evTAnd F t ρ) σ H ρ fun b ρ' => ∀ H' W', Go T σ H ρ W H' ρ' W' → Q b H'
def tTOr (X : Cx) (T : Tc) (F : Fn) (Z : WX) (t : Txs) : TT := fun σ H Q => ∃ ρ W, Rel T σ H ρ W ∧ Post X Z (evTOr F t ρ) σ H ρ fun b ρ' => ∀ H' W', Go T σ H ρ W H' ρ' W' → Q b H'
theorem wkW {e : Expr} {t t' : TT} (h : PW X e t) (w : ∀ σ H Q, t' σ H Q → t σ H Q) : PW X e t' := ⟨fun wh pins s σ H Q I q => h.run wh pins s σ H Q I (w σ H Q q)⟩
variable {t : Tx} {l : Txs} {a' b' : Expr} {r' : List Expr} {pos : Pos}
theorem s_tand1 (ha : PT X a' (tT X T F Z t)) : PW X (.BoolOp .And [a'] pos) (tTAnd X T F Z (.cons t .nil)) := by
  refine wkW (pw_and1 ha) ?_
  rintro σ H Q ⟨ρ, W, R, h⟩
  refine ⟨ρ, W, R, (Post.bind h).imp fun k ρ1 h1 H1 W1 g1 => ?_⟩
  cases k with
  | true => exact h1 _ _ g1
  | false => exact h1 _ _ g1
theorem s_tor1 (ha : PT X a' (tT X T F Z t)) : PW X (.BoolOp .Or [a'] pos) (tTOr X T F Z (.cons t .nil)) := by
  refine wkW (pw_or1 ha) ?_
  rintro σ H Q ⟨ρ, W, R, h⟩
  refine ⟨ρ, W, R, (Post.bind h).imp fun k ρ1 h1 H1 W1 g1 => ?_⟩
  cases k with
  | true => exact h1 _ _ g1
  | false => exact h1 _ _ g1
theorem s_tand (ha : PT X a' (tT X T F Z t)) (hb : PW X (.BoolOp .And (b' :: r') pos) (tTAnd X T F Z l)) : PW X (.BoolOp .And (a' :: b' :: r') pos) (tTAnd X T F Z (.cons t l)) := by
  refine wkW (pw_and ha hb) ?_
  rintro σ H Q ⟨ρ, W, R, h⟩
  refine ⟨ρ, W, R, (Post.bind h).imp fun k ρ1 h1 H1 W1 g1 => ?_⟩
  cases k with
  | true =>
    rw [if_pos rfl]
    exact ⟨ρ1, W1, g1.rel, (Post.move h1 g1.step).imp fun k2 ρ2 h2 H2 W2 g2 => h2 _ _ (g1.trans g2)⟩
  | false =>
    rw [if_neg (by simp)]
    exact h1 _ _ g1
theorem s_tor (ha : PT X a' (tT X T F Z t)) (hb : PW X (.BoolOp .Or (b' :: r') pos) (tTOr X T F Z l)) : PW X (.BoolOp .Or (a' :: b' :: r') pos) (tTOr X T F Z (.cons t l)) := by
  refine wkW (pw_or ha hb) ?_
  rintro σ H Q ⟨ρ, W, R, h⟩
  refine ⟨ρ, W, R, (Post.bind h).imp fun k ρ1 h1 H1 W1 g1 => ?_⟩
  cases k with
  | false =>
    rw [if_neg (by simp)]
    exact ⟨ρ1, W1, g1.rel, (Post.move h1 g1.step).imp fun k2 ρ2 h2 H2 W2 g2 => h2 _ _ (g1.trans g2)⟩
  | true =>
    rw [if_pos rfl]
    exact h1 _ _ g1
/-! .. as values -/
def tVAnd (X : Cx) (T : Tc) (F : Fn) (Z : WX) (t : Exs) : TE := fun σ H Q => ∃ ρ W, Rel T σ H ρ W ∧ Post X Z (evAnd F t ρ) σ H ρ fun b ρ' => ∀ H' W', Go T σ H ρ W H' ρ' W' → Q (.bl b) H'
def tVOr (X : Cx) (T : Tc) (F : Fn) (Z : WX) (t : Exs) : TE := fun σ H Q => ∃ ρ W, Rel T σ H ρ W ∧ Post X Z (evOr F t ρ) σ H ρ fun b ρ' => ∀ H' W', Go T σ H ρ W H' ρ' W' → Q (.bl b) H'
variable {a : Ex} {m : Exs}
theorem s_vand1 (ha : PE X a' (tE X T F Z a)) : PE X (.BoolOp .And [a'] pos) (tVAnd X T F Z (.cons a .nil)) := by
  refine wkE (pe_one ha) ?_
  rintro σ H Q ⟨ρ, W, R, h⟩
  refine ⟨ρ, W, R, (Post.bind h).imp fun p1 ρ1 h1 v1 H1 W1 o1 => ?_⟩
  obtain ⟨⟨k, ρ2⟩, ex, h3⟩ := Post.val .asB h1
  obtain ⟨rfl, rfl⟩ := asB_ok ex
  rw [show v1 = .bl k from o1.rep]
  cases k with
  | true => exact h3 _ _ o1.go
  | false => exact h3 _ _ o1.go
theorem s_vor1 (ha : PE X a' (tE X T F Z a)) : PE X (.BoolOp .Or [a'] pos) (tVOr X T F Z (.cons a .nil)) := by
  refine wkE (pe_one ha) ?_
  rintro σ H Q ⟨ρ, W, R, h⟩
  refine ⟨ρ, W, R, (Post.bind h).imp fun p1 ρ1 h1 v1 H1 W1 o1 => ?_⟩
  obtain ⟨⟨k, ρ2⟩, ex, h3⟩ := Post.val .asB h1
  obtain ⟨rfl, rfl⟩ := asB_ok ex
  rw [show v1 = .bl k from o1.rep]
  cases k with
  | true => exact h3 _ _ o1.go
  | false => exact h3 _ _ o1.go
theorem s_vand (ha : PE X a' (tE X T F Z a)) (hb : PE X (.BoolOp .And (b' :: r') pos) (tVAnd X T F Z m)) : PE X (.BoolOp .And (a' :: b' :: r') pos) (tVAnd X T F Z (.cons a m)) := by
  refine wkE (pe_and ha hb) ?_
  rintro σ H Q ⟨ρ, W, R, h⟩
  refine ⟨ρ, W, R, (Post.bind h).imp fun p1 ρ1 h1 v1 H1 W1 o1 => ?_⟩
  obtain ⟨⟨k, ρ2⟩, ex, h3⟩ := Post.val .asB h1
  obtain ⟨rfl, rfl⟩ := asB_ok ex
  refine ⟨k, o1.rep, ?_⟩
  cases k with
  | true =>
    rw [if_pos rfl]
    exact ⟨ρ2, W1, o1.go.rel, (Post.move h3 o1.go.step).imp fun k2 ρ2 h2 H2 W2 g2 => h2 _ _ (o1.go.trans g2)⟩
  | false =>
    rw [if_neg (by simp)]
    exact h3 _ _ o1.go
theorem s_vor (ha : PE X a' (tE X T F Z a)) (hb : PE X (.BoolOp .Or (b' :: r') pos) (tVOr X T F Z m)) : PE X (.BoolOp .Or (a' :: b' :: r') pos) (tVOr X T F Z (.cons a m)) := by
  refine wkE (pe_or ha hb) ?_
  rintro σ H Q ⟨ρ, W, R, h⟩
  refine ⟨ρ, W, R, (Post.bind h).imp fun p1 ρ1 h1 v1 H1 W1 o1 => ?_⟩
  obtain ⟨⟨k, ρ2⟩, ex, h3⟩ := Post.val .asB h1
  obtain ⟨rfl, rfl⟩ := asB_ok ex
  refine ⟨k, o1.rep, ?_⟩
  cases k with
  | false =>
    rw [if_neg (by simp)]
    exact ⟨ρ2, W1, o1.go.rel, (Post.move h3 o1.go.step).imp fun k2 ρ2 h2 H2 W2 g2 => h2 _ _ (o1.go.trans g2)⟩
  | true =>
    rw [if_pos rfl]
    exact h3 _ _ o1.go
theorem s_and (h : PE X a' (tVAnd X T F Z m)) : PE X a' (tE X T F Z (.and_ m)) := by
  refine wkE h ?_
  rintro σ H Q ⟨ρ, W, R, h⟩
  exact ⟨ρ, W, R, (Post.bind h).imp fun k ρ1 h1 H1 W1 g1 => h1 _ _ _ (.val g1 rfl)⟩
theorem s_or (h : PE X a' (tVOr X T F Z m)) : PE X a' (tE X T F Z (.or_ m)) := by
  refine wkE h ?_
  rintro σ H Q ⟨ρ, W, R, h⟩
  exact ⟨ρ, W, R, (Post.bind h).imp fun k ρ1 h1 H1 W1 g1 => h1 _ _ _ (.val g1 rfl)⟩
end
end Dv

set_option Elab.async false
set_option linter.all false
set_option maxRecDepth 100000
namespace Dv
open PySem PySem.Spec PyProof.Rows L2

def RepKs (K : PySem.W.Frag) (H : Hp) (W : AS) : List V → List D → Prop
  | vs, [] => vs = []
  | vs, d :: ds => ∃ v r, vs = v :: r ∧ RepK K H W v d ∧ RepKs K H W r ds
section
variable {X : Cx} {Z : WX} {T : Tc} {F : Fn} {σ : Sg} {H H0 H1 H2 : Hp} {ρ ρ1 ρ2 ρ' : Env'} {W W1 W2 : AS} {K : PySem.W.Frag}
theorem pks_ok (R : Rel T σ H ρ W) : ∀ {ps : List P} {vs : List V} {ds : List D}, RepPs T σ H0 H ρ W vs ps → pks ps ρ = .ok ds → RepKs T.K H W vs ds
  | [], _, _, h, e => by cases e; exact h
  | p :: ps, _, ds, h, e => by
    obtain ⟨v, r, rfl, q, _, t⟩ := h
    have e : ((pk p ρ).bind fun d => (pks ps ρ).bind fun ds => .ok (d :: ds)) = .ok ds := e
    cases e1 : pk p ρ with
    | bad => rw [e1] at e; cases e
    | err x => rw [e1] at e; cases e
    | ok d =>
      rw [e1] at e
      have e : ((pks ps ρ).bind fun ds => .ok (d :: ds)) = .ok ds := e
      cases e2 : pks ps ρ with
      | bad => rw [e2] at e; cases e
      | err x => rw [e2] at e; cases e
      | ok ds' =>
        rw [e2] at e
        cases e
        exact ⟨v, r, rfl, peek_ok R q (pk_of e1), pks_ok R t e2⟩
theorem RepKs.one {vs : List V} {d : D} (h : RepKs K H W vs [d]) : ∃ v, vs = [v] ∧ RepK K H W v d := by
  obtain ⟨v, r, rfl, q, t⟩ := h
  rw [show r = [] from t]
  exact ⟨v, rfl, q⟩
theorem RepKs.two {vs : List V} {d e : D} (h : RepKs K H W vs [d, e]) : ∃ v u, vs = [v, u] ∧ RepK K H W v d ∧ RepK K H W u e := by
  obtain ⟨v, r, rfl, q, t⟩ := h
  obtain ⟨u, rfl, q2⟩ := t.one
  exact ⟨v, u, rfl, q, q2⟩

/-! ### built-in functions -/
def Ty.nm : Ty → String
  | .tup => "tuple" | .lst => "list" | .int => "int" | .str => "str" | .bool => "bool"
def Bl.f : Bl → Value
  | .len => .builtin "len" | .abs => .builtin "abs" | .int => .type "int" | .tuple => .type "tuple" | .list => .type "list" | .all => .builtin "all" | .any => .builtin "any" | .sum => .builtin "sum"
  | .gcd => .builtin "math.gcd" | .min2 => .builtin "min" | .max2 => .builtin "max" | .str => .type "str"
def rBl (K : PySem.W.Frag) : Bl → List V → Hp → VK → Prop
  | .len => fun xs H Q => ∃ x n, xs = [x] ∧ LenV K x H n ∧ Q (.int n) H
  | .abs => fun xs H Q => ∃ i, xs = [.int i] ∧ Q (.int (if i < 0 then -i else i)) H
  | .int => fun xs H Q => (∃ i, xs = [.int i] ∧ Q (.int i) H) ∨ ∃ k, xs = [.bl k] ∧ Q (.int (if k then 1 else 0)) H
  | .tuple => fun xs H Q => ∃ p ys, xs = [.ref p] ∧ ((SqL K H p ys ∧ ∀ l, H l = none → Q (.ref l) (upd H l (.tup ys))) ∨ (SqT K H p ys ∧ Q (.ref p) H))
  | .list => fun xs H Q => ∃ p ys, xs = [.ref p] ∧ (SqL K H p ys ∨ SqT K H p ys) ∧ ∀ l, H l = none → Q (.ref l) (upd H l (.lst ys))
  | .all => rAll K
  | .any => rAny K
  | .sum => rSum K
  | .gcd => rGcd
  | .min2 => fun xs H Q => ∃ i j, xs = [.int i, .int j] ∧ Q (.int (if j < i then j else i)) H
  | .max2 => fun xs H Q => ∃ i j, xs = [.int i, .int j] ∧ Q (.int (if j > i then j else i)) H
  | .str => fun xs H Q => ∃ i, xs = [.int i] ∧ i.natAbs.log2 < 1920 ∧ Q (.str (toString i)) H
theorem cr_bl (hc : X.calm = true) : ∀ b : Bl, CallR X b.f (rBl X.K b) := fun b => by
  cases b with
  | len => exact call_len
  | abs => exact call_abs
  | int => exact call_int1
  | tuple => exact call_tuple_of
  | list => exact call_list_of
  | all => exact cr_all hc
  | any => exact cr_any hc
  | sum => exact cr_sum hc
  | gcd => exact cr_gcd
  | min2 => exact call_min2 hc
  | max2 => exact call_max2 hc
  | str => exact call_str_int
theorem bls_rep : ∀ {l : List D} {bs : List Bool} {vs : List V}, RepDs K H W vs l → bls l = some bs → vs = bs.map V.bl
  | [], _, _, h, e => by cases e; exact h
  | .bl b :: l, bs, _, h, e => by
    obtain ⟨v, r, rfl, q, t⟩ := h
    have e : (bls l).map (b :: ·) = some bs := e
    cases e1 : bls l with
    | none => rw [e1] at e; cases e
    | some x =>
      rw [e1] at e; cases e
      rw [show v = .bl b from q, bls_rep t e1]; rfl
  | .non :: _, _, _, _, e => by cases e
  | .int _ :: _, _, _, _, e => by cases e
  | .str _ :: _, _, _, _, e => by cases e
  | .tup _ :: _, _, _, _, e => by cases e
  | .lst _ :: _, _, _, _, e => by cases e
  | .dic _ _ :: _, _, _, _, e => by cases e
  | .scr _ :: _, _, _, _, e => by cases e
theorem ints_rep : ∀ {l : List D} {bs : List Int} {vs : List V}, RepDs K H W vs l → intsD l = some bs → vs = bs.map V.int
  | [], _, _, h, e => by cases e; exact h
  | .int b :: l, bs, _, h, e => by
    obtain ⟨v, r, rfl, q, t⟩ := h
    have e : (intsD l).map (b :: ·) = some bs := e
    cases e1 : intsD l with
    | none => rw [e1] at e; cases e
    | some x =>
      rw [e1] at e; cases e
      rw [show v = .int b from q, ints_rep t e1]; rfl
  | .non :: _, _, _, _, e => by cases e
  | .bl _ :: _, _, _, _, e => by cases e
  | .str _ :: _, _, _, _, e => by cases e
  | .tup _ :: _, _, _, _, e => by cases e
  | .lst _ :: _, _, _, _, e => by cases e
  | .dic _ _ :: _, _, _, _, e => by cases e
  | .scr _ :: _, _, _, _, e => by cases e
theorem strs_rep : ∀ {l : List D} {bs : List Str} {vs : List V}, RepDs K H W vs l → strsD l = some bs → vs = bs.map V.str
  | [], _, _, h, e => by cases e; exact h
  | .str b :: l, bs, _, h, e => by
    obtain ⟨v, r, rfl, q, t⟩ := h
    have e : (strsD l).map (b :: ·) = some bs := e
    cases e1 : strsD l with
    | none => rw [e1] at e; cases e
    | some x =>
      rw [e1] at e; cases e
      rw [show v = .str b from q, strs_rep t e1]; rfl
  | .non :: _, _, _, _, e => by cases e
  | .bl _ :: _, _, _, _, e => by cases e
  | .int _ :: _, _, _, _, e => by cases e
  | .tup _ :: _, _, _, _, e => by cases e
  | .lst _ :: _, _, _, _, e => by cases e
  | .dic _ _ :: _, _, _, _, e => by cases e
  | .scr _ :: _, _, _, _, e => by cases e
theorem strs_of (ys : List Str) : RepDs K H W (ys.map V.str) (ys.map D.str) := by
  induction ys with
  | nil => rfl
  | cons y ys ih => exact ⟨.str y, _, rfl, rfl, ih⟩
theorem ints_of (ys : List Int) : RepDs K H W (ys.map V.int) (ys.map D.int) := by
  induction ys with
  | nil => rfl
  | cons y ys ih => exact ⟨.int y, _, rfl, rfl, ih⟩
/-- the type's name of data -/
def tyOf : D → String
  | .non => "NoneType" | .bl _ => "bool" | .int _ => "int" | .str _ => "str" | .tup _ => "tuple" | .lst _ => "list" | .dic _ _ => "dict" | .scr _ => "list"
theorem tyx_of {v : V} {d : D} (h : RepK K H W v d) (ns : ∀ l, d ≠ .scr l) : TyX K H v (.type (tyOf d)) := by
  cases d with
  | non => rw [h.non]; exact .base .non
  | bl b => rw [h.bl]; exact .base (.bl b)
  | int b => rw [h.int]; exact .base (.int b)
  | str b => rw [h.str]; exact .base (.str b)
  | tup l =>
    obtain ⟨a, vs, rfl, e, _⟩ := h.tup
    rcases e with e | ⟨o, its, n, e1, e2, _⟩
    · exact .base (.tup e)
    · exact .kTuple e1 e2
  | lst l => obtain ⟨a, vs, rfl, e, _⟩ := h.lst; exact .base (.lst e)
  | dic ks l => obtain ⟨a, kvs, rfl, e, _⟩ := h.dic; exact .base (.dK e)
  | scr l => exact absurd rfl (ns l)
theorem kit_tab (t : Ty) (d : D) (b : Bool) (h : isTy t d = .ok b) : kitB (tyOf d) t.nm = some b := by
  cases t <;> cases d <;> cases h <;> (dsimp only [tyOf, Ty.nm]; decide +kernel)
theorem isTy_ns {t : Ty} {d : D} {b : Bool} (h : isTy t d = .ok b) (l : List Int) : d ≠ .scr l := fun e => by
  subst e
  cases t <;> cases h
theorem len_ok {v : V} {d : D} {n : Nat} (h : RepK K H W v d) (e : dLen d = .ok n) : LenV K v H n := by
  unfold dLen at e
  split at e
  · cases e
    obtain ⟨a, vs, rfl, e1, r⟩ := h.tup
    exact .inr ⟨vs, e1.sq, r.length.symm⟩
  · cases e
    obtain ⟨a, vs, rfl, e1, r⟩ := h.lst
    exact .inl ⟨vs, .of e1, r.length.symm⟩
  · cases e
    obtain ⟨a, rfl, e1⟩ := h.scr
    exact .inl ⟨_, e1, by rw [List.length_map]⟩
  · obtain ⟨c, e⟩ := need_ok e
    cases e
    rw [h.str]
    exact ⟨c, rfl⟩
  · cases e
/-- all but isinstance -/
theorem bl_ok (wl : WL H W) {b : Bl} {vs : List V} {ds : List D} {p : P} {Q : VK} (h : RepKs K H W vs ds) (e : dBl b ds = .ok p) (q : ResQ K H W p Q) : rBl K b vs H Q := by
  unfold dBl at e
  split at e
  · obtain ⟨v, rfl, k⟩ := h.one
    rename_i d
    cases e1 : dLen d with
    | bad => rw [e1] at e; cases e
    | err x => rw [e1] at e; cases e
    | ok n =>
      rw [e1] at e; cases e
      exact ⟨v, n, rfl, len_ok k e1, q.flat rfl⟩
  · cases e
    obtain ⟨v, rfl, k⟩ := h.one
    exact ⟨_, by rw [k.int], q.flat rfl⟩
  · cases e
    obtain ⟨v, rfl, k⟩ := h.one
    exact .inl ⟨_, by rw [k.int], q.flat rfl⟩
  · cases e
    obtain ⟨v, rfl, k⟩ := h.one
    exact .inr ⟨_, by rw [k.bl], q.flat rfl⟩
  · cases e
    obtain ⟨v, rfl, k⟩ := h.one
    obtain ⟨a, us, rfl, e1, r⟩ := k.tup
    exact ⟨a, us, rfl, .inr ⟨e1.sq, q.flat ⟨a, us, rfl, e1, r⟩⟩⟩
  · cases e
    obtain ⟨v, rfl, k⟩ := h.one
    obtain ⟨a, us, rfl, e1, r⟩ := k.lst
    exact ⟨a, us, rfl, .inl ⟨.of e1, fun l n => q.tup wl r n⟩⟩
  · cases e
    obtain ⟨v, rfl, k⟩ := h.one
    obtain ⟨a, rfl, e1⟩ := k.scr
    exact ⟨a, _, rfl, .inl ⟨e1, fun l n => q.tup wl (ints_of _) n⟩⟩
  · cases e
    obtain ⟨v, rfl, k⟩ := h.one
    obtain ⟨a, us, rfl, e1, r⟩ := k.tup
    exact ⟨a, us, rfl, .inr e1.sq, fun l n => q.lst r n⟩
  · cases e
    obtain ⟨v, rfl, k⟩ := h.one
    obtain ⟨a, us, rfl, e1, r⟩ := k.lst
    exact ⟨a, us, rfl, .inl (.of e1), fun l n => q.lst r n⟩
  · cases e
    obtain ⟨v, rfl, k⟩ := h.one
    obtain ⟨a, rfl, e1⟩ := k.scr
    exact ⟨a, _, rfl, .inl e1, fun l n => q.lst (ints_of _) n⟩
  · rename_i l
    obtain ⟨v, rfl, k⟩ := h.one
    obtain ⟨a, us, rfl, e1, r⟩ := k.lst
    cases e2 : bls l with
    | none => rw [e2] at e; cases e
    | some bs =>
      rw [e2] at e; cases e
      exact ⟨a, bs, rfl, by rw [← bls_rep r e2]; exact .of e1, q.flat rfl⟩
  · rename_i l
    obtain ⟨v, rfl, k⟩ := h.one
    obtain ⟨a, us, rfl, e1, r⟩ := k.lst
    cases e2 : bls l with
    | none => rw [e2] at e; cases e
    | some bs =>
      rw [e2] at e; cases e
      exact ⟨a, bs, rfl, by rw [← bls_rep r e2]; exact .of e1, q.flat rfl⟩
  · rename_i l
    obtain ⟨v, rfl, k⟩ := h.one
    obtain ⟨a, us, rfl, e1, r⟩ := k.lst
    cases e2 : intsD l with
    | none => rw [e2] at e; cases e
    | some bs =>
      rw [e2] at e; cases e
      exact ⟨a, bs, rfl, by rw [← ints_rep r e2]; exact .of e1, q.flat rfl⟩
  · cases e
    obtain ⟨v, u, rfl, k1, k2⟩ := h.two
    exact ⟨_, _, by rw [k1.int, k2.int], q.flat rfl⟩
  · cases e
    obtain ⟨v, u, rfl, k1, k2⟩ := h.two
    exact ⟨_, _, by rw [k1.int, k2.int], q.flat rfl⟩
  · cases e
    obtain ⟨v, u, rfl, k1, k2⟩ := h.two
    exact ⟨_, _, by rw [k1.int, k2.int], q.flat rfl⟩
  · cases e
theorem dBl_np {b : Bl} {ds : List D} {p : P} (h : dBl b ds = .ok p) (i : Nat) : p ≠ .at_ i := by
  have key : ∀ {α : Type} {r : Rs α} {f : α → P}, (r.bind fun x => .ok (f x)) = .ok p → (∀ x, f x ≠ .at_ i) → p ≠ .at_ i := fun {α r f} e n => by
    cases r with
    | ok x => cases e; exact n x
    | err x => cases e
    | bad => cases e
  unfold dBl at h
  split at h <;> first | (cases h; done) | (cases h; simp; done) | exact key h (fun _ z => by cases z)
/-- the text of a call of a built-in function -/
theorem s_blt (hc : X.calm = true) (tk : T.K = X.K) {b : Bl} {l : Exs} {e' : Expr} (h : ∀ t : TA, t = tA X T F Z l → PE X e' (tCB (rBl X.K b) t)) : PE X e' (tE X T F Z (.blt b l)) := by
  refine wkE (h _ rfl) ?_
  rintro σ H Q ⟨ρ, W, R, h⟩
  refine ⟨ρ, W, R, (Post.bind h).imp fun ps ρ1 h1 vs H1 W1 o1 => ?_⟩
  obtain ⟨ds, ex, h3⟩ := Post.val .pks h1
  obtain ⟨p, ep, h4⟩ := Post.val .dBl h3
  rw [← tk]
  exact bl_ok o1.go.rel.wl (pks_ok o1.go.rel o1.rep ex) ep (o1.go.res (p := p) h4 (dBl_np ep))
/-- isinstance(x, T) -/
theorem s_isi (tk : T.K = X.K) {t : Ty} {a : Ex} {e' : Expr} (h : ∀ u : TE, u = tE X T F Z a → PE X e' (tCB (rIsi X.K) (tCons u (tCons (tC (.ty t.nm)) tNil)))) : PE X e' (tE X T F Z (.isi t a)) := by
  refine wkE (h _ rfl) ?_
  rintro σ H Q ⟨ρ, W, R, h⟩
  refine ⟨ρ, W, R, (Post.bind h).imp fun p1 ρ1 h1 v1 H1 W1 o1 => ?_⟩
  obtain ⟨d, ex, h3⟩ := Post.val .pk h1
  obtain ⟨b, e2, h4⟩ := Post.val .isTy h3
  have kd := peek_ok o1.go.rel o1.rep (pk_of ex)
  rw [← tk]
  exact ⟨v1, .ty t.nm, _, _, b, rfl, .ty _, tyx_of kd (isTy_ns e2), kit_ty (kit_tab t d b e2), h4 _ _ _ (.val o1.go rfl)⟩
end
end Dv

set_option Elab.async false
set_option linter.all false
set_option maxRecDepth 100000
namespace Dv
open PySem PySem.Spec PyProof.Rows L2

section
variable {X : Cx} {Z : WX} {T : Tc} {F : Fn} {σ : Sg} {H H0 H1 H2 : Hp} {ρ ρ1 ρ2 ρ' : Env'} {W W1 W2 : AS} {K : PySem.W.Frag}
/-- a slot's object changed -/
theorem mut_at (R : Rel T σ H ρ W) {i : Nat} {b : Bool} {d d' : D} {a : Addr} {o : HO} (e : ρ[i]? = some (some (.own b d))) (hv : σ[i]? = some (some (.ref a))) (q : RepO T.K H W o d') :
    Go T σ H ρ W (upd H a o) (ρ.set i (some (.own b d'))) W := by
  have oi : OwnU σ ρ i a := ⟨⟨b, d, e⟩, hv⟩
  obtain ⟨wa, ob0, ha, _⟩ := R.ownA oi.a
  have hi : i < ρ.length := (List.getElem?_eq_some_iff.mp e).1
  have ad : Adv H W (upd H a o) W := fun x u h w => ⟨by rw [upd_ne (fun z => w (by rw [z]; exact wa))]; exact h, w⟩
  have mon : Mon σ ρ (ρ.set i (some (.own b d'))) := fun j x h => by
    obtain ⟨h1, h2⟩ := h
    rcases h1 with ⟨c, z, h1⟩ | ⟨c, z, h1⟩
    · rcases getq_set h1 with ⟨rfl, k, _⟩ | ⟨_, k⟩
      · rw [hv] at h2; cases h2; exact oi.a
      · exact ⟨.inl ⟨c, z, k⟩, h2⟩
    · rcases getq_set h1 with ⟨rfl, k, _⟩ | ⟨_, k⟩
      · cases k
      · exact ⟨.inr ⟨c, z, k⟩, h2⟩
  refine ⟨⟨by simpa using R.len, fun j s h => ?_, fun j k x h1 h2 => R.sep j k x (mon j x h1) (mon k x h2), fun x w => ?_, fun j z x h1 h2 => ?_, fun x h => R.fzk x ?_, fun j x h => ?_⟩, fun x u h n => ?_, mon, fun x h => ?_, Lk.set fun b' d' z => by rw [e] at z; cases z⟩
  · rcases getq_set h with ⟨rfl, k, _⟩ | ⟨ne, k⟩
    · cases k
      exact ⟨_, hv, a, o, rfl, upd_same, wa, q.adv R.wl ad⟩
    · obtain ⟨v, e3, r⟩ := R.at_ j s k
      refine ⟨v, e3, ?_⟩
      cases s with
      | val c => obtain ⟨u, e4, z⟩ := r; exact ⟨u, e4, z.adv R.wl ad⟩
      | brz c => obtain ⟨u, e4, z⟩ := r; exact ⟨u, e4, z.adv R.wl ad⟩
      | own c x =>
        obtain ⟨a', ob', e4, e5, e6, z⟩ := r
        subst e4
        have na : a' ≠ a := fun z => ne (by subst z; exact R.sep _ _ _ oi.a ⟨.inl ⟨c, x, k⟩, e3⟩)
        exact ⟨a', ob', rfl, by rw [upd_ne na]; exact e5, e6, z.adv R.wl ad⟩
      | lck c x =>
        obtain ⟨a', ob', e4, e5, e6, z⟩ := r
        subst e4
        have na : a' ≠ a := fun z => ne (by subst z; exact R.sep _ _ _ oi.a ⟨.inr ⟨c, x, k⟩, e3⟩)
        exact ⟨a', ob', rfl, by rw [upd_ne na]; exact e5, e6, z.adv R.wl ad⟩
  · by_cases ex : x = a
    · subst ex; exact ⟨o, upd_same, q.mk1⟩
    · obtain ⟨u, hu, m⟩ := R.wl x w
      exact ⟨u, by rw [upd_ne ex]; exact hu, m⟩
  · rcases h1 with h1 | h1
    · rcases getq_set h1 with ⟨rfl, k, _⟩ | ⟨_, k⟩
      · cases k; exact R.fr i d x (.inl e) h2
      · exact R.fr j z x (.inl k) h2
    · rcases getq_set h1 with ⟨rfl, k, _⟩ | ⟨_, k⟩
      · cases k
      · exact R.fr j z x (.inr k) h2
  · by_cases ex : x = a
    · subst ex; rw [upd_same] at h; cases h
    · rw [upd_ne ex] at h; exact h
  · obtain ⟨h1, s, h2, h3⟩ := R.bor j x h
    refine ⟨h1, ?_⟩
    by_cases ej : i = j
    · subst ej
      refine ⟨.own b d', by rw [List.getElem?_set_self hi], ?_⟩
      rw [e] at h2; cases h2
      cases b with
      | true => trivial
      | false => exact h3.elim
    · exact ⟨s, by rw [List.getElem?_set_ne ej]; exact h2, h3⟩
  · have na : x ≠ a := fun z => n i (by rw [z]; exact oi)
    refine ⟨by rw [upd_ne na]; exact h, fun j z => ?_, Iff.rfl⟩
    obtain ⟨⟨c, y, h1⟩, h2⟩ := z
    rcases getq_set h1 with ⟨rfl, k, _⟩ | ⟨_, k⟩
    · rw [hv] at h2; cases h2; exact na rfl
    · exact n j ⟨⟨c, y, k⟩, h2⟩
  · by_cases ex : x = a
    · subst ex; rw [upd_same] at h; cases h
    · rw [upd_ne ex] at h; exact h

/-! ### methods that change their list -/
theorem RepDs.erase : ∀ {ds : List D} {vs : List V} (i : Nat), RepDs K H W vs ds → RepDs K H W (vs.eraseIdx i) (ds.eraseIdx i)
  | [], _, _, h => by rw [show _ = [] from h]; simp [RepDs]
  | _ :: _, _, 0, h => by
    obtain ⟨u, q, rfl, _, s⟩ := h
    exact s
  | _ :: _, _, i + 1, h => by
    obtain ⟨u, q, rfl, a, s⟩ := h
    exact ⟨u, _, rfl, a, RepDs.erase i s⟩
theorem RepDs.dropL {ds : List D} {vs : List V} (h : RepDs K H W vs ds) : RepDs K H W vs.dropLast ds.dropLast := by
  rw [List.dropLast_eq_take, List.dropLast_eq_take, h.length]
  exact h.take _
def Mm.nm : Mm → Str
  | .append => "append" | .pop => "pop" | .popAt => "pop" | .insert => "insert"
def Mm.id : Mm → String
  | .append => "list.append" | .pop => "list.pop" | .popAt => "list.pop" | .insert => "list.insert"
def rMm : Mm → V → List V → Hp → VK → Prop
  | .append => rAppend
  | .pop => rPop
  | .popAt => rPopAt
  | .insert => fun x vs H Q => ∃ (l : Addr) (xs : List V) (i : Int) (y : V), x = .ref l ∧ vs = [.int i, y] ∧ H l = some (.lst xs) ∧ xs.length < sizeLine ∧ 0 ≤ i ∧ i < 2 ^ 63 ∧
    Q .non (upd H l (.lst (xs.take i.toNat ++ [y] ++ xs.drop i.toNat)))
theorem mt_Mm : ∀ m : Mm, MtR X m.id (rMm m) := fun m => by
  cases m with
  | append => exact mt_append
  | pop => exact mt_pop
  | popAt => exact mt_popAt
  | insert => exact mt_insert
theorem mm_ok {m : Mm} {l : List D} {ds : List D} {a : Addr} {us vs : List V} {y d' : D} {Q : VK} (ha : H a = some (.lst us)) (r : RepDs K H W us l) (h : RepDs K H W vs ds) (e : dMm m (.lst l) ds = .ok (y, d'))
    (q : ∀ v o, RepD K H W v y → RepO K H W o d' → Q v (upd H a o)) : rMm m (.ref a) vs H Q := by
  unfold dMm at e
  split at e
  · rename_i l1 d e1
    cases e1
    obtain ⟨c, e⟩ := need_ok e
    cases e
    obtain ⟨v, r0, rfl, k, t⟩ := h
    rw [show r0 = [] from t]
    exact ⟨a, us, v, rfl, rfl, ha, by rw [r.length]; exact c, q _ _ rfl ⟨_, rfl, r.append (RepDs.one k)⟩⟩
  · rename_i l1 e1
    cases e1
    rw [show vs = [] from h]
    cases e2 : l[l.length - 1]? with
    | none => rw [e2] at e; cases e
    | some z =>
      rw [e2] at e; cases e
      obtain ⟨v, e3, k⟩ := r.get e2
      exact ⟨a, us, v, rfl, rfl, ha, by rw [r.length]; exact e3, q _ _ k ⟨_, rfl, r.dropL⟩⟩
  · rename_i l1 i d e1
    cases e1
    obtain ⟨⟨c1, c2, c3⟩, e⟩ := need_ok e
    cases e
    obtain ⟨v, r0, rfl, k, t⟩ := h
    rw [show v = .int i from k]
    obtain ⟨v2, r2, rfl, k2, t2⟩ := t
    rw [show r2 = [] from t2]
    exact ⟨a, us, i, v2, rfl, rfl, ha, by rw [r.length]; exact c1, c2, c3, q _ _ rfl ⟨_, rfl, ((r.take _).append (RepDs.one k2)).append (r.drop _)⟩⟩
  · rename_i l1 i e1
    cases e1
    obtain ⟨⟨c1, c2⟩, e⟩ := need_ok e
    obtain ⟨v, r0, rfl, k, t⟩ := h
    rw [show v = .int i from k, show r0 = [] from t]
    cases e2 : seqIndex? i l.length with
    | none => rw [e2] at e; cases e
    | some j =>
      rw [e2] at e
      have e : ((Rs.of l[j]?).bind fun y => .ok (y, D.lst (l.eraseIdx j))) = .ok (y, d') := e
      cases e3 : l[j]? with
      | none => rw [e3] at e; cases e
      | some z =>
        rw [e3] at e; cases e
        obtain ⟨v, e4, k⟩ := r.get e3
        exact ⟨a, us, i, j, v, rfl, rfl, ha, c1, c2, by rw [r.length]; exact e2, e4, q _ _ k ⟨_, rfl, r.erase j⟩⟩
  · cases e
theorem dMm_lst {m : Mm} {d : D} {ds : List D} {r : D × D} (e : dMm m d ds = .ok r) : ∃ l, d = .lst l := by
  unfold dMm at e
  split at e <;> first | exact ⟨_, rfl⟩ | cases e
theorem slot_peek {i : Nat} {p : P} {ρ1 : Env'} (e : evVar i ρ = .ok (p, ρ1)) (R : Rel T σ H ρ W) : ρ1 = ρ ∧ ∃ v, σ[i]? = some (some v) ∧ RepP T σ H ρ W v p := by
  unfold evVar at e
  split at e
  · rename_i d e1
    cases e
    obtain ⟨o, e1, v, rfl, q⟩ := R.at_ i _ e1
    exact ⟨rfl, v, e1, q⟩
  · rename_i d e1
    cases e
    obtain ⟨o, e1, v, rfl, q⟩ := R.at_ i _ e1
    exact ⟨rfl, v, e1, q⟩
  · rename_i b d e1
    cases e
    obtain ⟨o, e1, x, ob, rfl, q⟩ := R.at_ i _ e1
    exact ⟨rfl, _, e1, e1⟩
  · rename_i b d e1
    cases e
    obtain ⟨o, e1, x, ob, rfl, q⟩ := R.at_ i _ e1
    exact ⟨rfl, _, e1, e1⟩
  · cases e
/-- x.m(..) at a slot; r: how the method is called with its arguments -/
theorem s_chg (tk : T.K = X.K) {m : Mm} {i : Nat} {l : Exs} {e' : Expr} (h : ∀ t : TA, t = tA X T F Z l → PE X e' (tBM X.K "list" (rMm m) (tVar i) t)) : PE X e' (tE X T F Z (.chg m i l)) := by
  refine wkE (h _ rfl) ?_
  rintro σ H Q ⟨ρ, W, R, h⟩
  obtain ⟨⟨p0, ρ0⟩, e0, h⟩ := Post.val (r := evVar i ρ) .evVar h
  obtain ⟨rfl, v0, s0, q0⟩ := slot_peek e0 R
  obtain ⟨d0, f0, h⟩ := Post.val .pk h
  obtain ⟨c0, h⟩ := Post.need h
  have k0 := peek_ok R q0 (pk_of f0)
  have ty : tyV X.K "list" v0 H := by
    cases d0 with
    | lst l0 => obtain ⟨a, vs, rfl, e1, _⟩ := k0.lst; exact .inl ⟨rfl, vs, .of e1⟩
    | _ => cases c0
  refine ⟨v0, s0, ty, ρ0, W, R, (Post.bind h).imp fun ps ρ1 h1 vs H1 W1 o1 => ?_⟩
  obtain ⟨⟨ds, ρ2⟩, ex, h3⟩ := Post.val .of h1
  obtain ⟨W2, g, q⟩ := o1.data (of_ok ex)
  dsimp only at h3
  split at h3
  · rename_i b d e2
    obtain ⟨⟨y, d'⟩, ey, h4⟩ := Post.val .dMm h3
    obtain ⟨l0, rfl⟩ := dMm_lst ey
    obtain ⟨o, e3, a, ob, rfl, e5, wa, us, rfl, r⟩ := g.rel.at_ i _ e2
    rw [s0] at e3; cases e3
    refine mm_ok e5 r q ey fun v o' kv ko => ?_
    have g2 := mut_at g.rel e2 s0 ko
    exact h4 _ _ _ (.val (g.trans g2) (kv.adv g.rel.wl (g2.step.adv g.rel)))
  · exact h3.elim

/-! ### methods that change nothing -/
def Me.nm : Me → Str
  | .join => "join" | .split => "split" | .index => "index"
def Me.ty : Me → String
  | .join => "str" | .split => "str" | .index => "list"
def Me.id : Me → String
  | .join => "str.join" | .split => "str.split" | .index => "list.index"
def rMe (K : PySem.W.Frag) : Me → V → List V → Hp → VK → Prop
  | .join => fun x xs H Q => ∃ a p, ∃ ys : List Str, x = .str a ∧ xs = [.ref p] ∧ (SqL K H p (ys.map V.str) ∨ SqT K H p (ys.map V.str)) ∧ (ys.map (·.length)).sum + ys.length * a.length ≤ 16777216 ∧ Q (.str (Txt.join a ys)) H
  | .split => fun x xs H Q => ∃ a b, x = .str a ∧ xs = [.str b] ∧ (b.length == 0) = false ∧ a.length + 2 ≤ sizeLine ∧ rNewStrs (Txt.split a b) H Q
  | .index => rIndexD K
theorem mt_Me (hu : X.A.units + 65 < cLine) : ∀ m : Me, MtR X m.id (rMe X.K m) := fun m => by
  cases m with
  | join => exact mt_join
  | split => exact mt_split
  | index => exact mt_indexD hu
theorem findIdx_spec (l : List D) (x : D) {j : Nat} (h : (l.findIdx? fun z => deq z x) = some j) : ∃ z, (toPys l)[j]? = some z ∧ PyData.eqv z (toPy x) = true ∧ ∀ (m : Nat) (z' : PyData), m < j → (toPys l)[m]? = some z' → PyData.eqv z' (toPy x) = false := by
  rw [List.findIdx?_eq_some_iff_getElem] at h
  obtain ⟨hj, h1, h2⟩ := h
  refine ⟨toPy l[j], by rw [toPys_map, List.getElem?_map, List.getElem?_eq_getElem hj]; rfl, h1, fun m z' hm e => ?_⟩
  rw [toPys_map, List.getElem?_map, List.getElem?_eq_getElem (Nat.lt_trans hm hj)] at e
  cases e
  have := h2 m hm
  exact Bool.eq_false_iff.mpr this
theorem me_ok {m : Me} {x : V} {vs : List V} {d : D} {ds : List D} {p : P} {Q : VK} (hd : RepK K H W x d) (h : RepKs K H W vs ds) (e : dMe m d ds = .ok p) (q : ResQ K H W p Q) : rMe K m x vs H Q := by
  unfold dMe at e
  split at e
  · rename_i a l
    obtain ⟨v, rfl, k⟩ := h.one
    obtain ⟨b, us, rfl, e1, r⟩ := k.lst
    cases e2 : strsD l with
    | none => rw [e2] at e; cases e
    | some ys =>
      rw [e2] at e
      obtain ⟨c, e⟩ := need_ok e
      cases e
      exact ⟨a, b, ys, hd.str, rfl, .inl (by rw [← strs_rep r e2]; exact .of e1), c, q.flat rfl⟩
  · rename_i a l
    obtain ⟨v, rfl, k⟩ := h.one
    obtain ⟨b, us, rfl, e1, r⟩ := k.tup
    cases e2 : strsD l with
    | none => rw [e2] at e; cases e
    | some ys =>
      rw [e2] at e
      obtain ⟨c, e⟩ := need_ok e
      cases e
      exact ⟨a, b, ys, hd.str, rfl, .inr (by rw [← strs_rep r e2]; exact e1.sq), c, q.flat rfl⟩
  · rename_i a b
    obtain ⟨v, rfl, k⟩ := h.one
    obtain ⟨⟨c1, c2⟩, e⟩ := need_ok e
    cases e
    exact ⟨a, b, hd.str, by rw [k.str], c1, c2, fun l n => q.lst (strs_of _) n⟩
  · rename_i l x'
    obtain ⟨v, rfl, k⟩ := h.one
    obtain ⟨⟨c1, c2⟩, e⟩ := need_ok e
    split at e
    · rename_i j e2
      cases e
      obtain ⟨b, us, rfl, e1, r⟩ := hd.lst
      obtain ⟨z, z1, z2, z3⟩ := findIdx_spec l x' e2
      exact ⟨b, v, _, _, j, z, rfl, rfl, hd.dp c2, k.dp c1, c2, c1, z1, z2, z3, q.flat rfl⟩
    · cases e
  · cases e
theorem dMe_np {m : Me} {d : D} {ds : List D} {p : P} (h : dMe m d ds = .ok p) (i : Nat) : p ≠ .at_ i := by
  have key : ∀ {α : Type} {r : Rs α} {f : α → Rs P}, (r.bind f) = .ok p → (∀ x, f x = .ok p → p ≠ .at_ i) → p ≠ .at_ i := fun {α r f} e n => by
    cases r with
    | ok x => exact n x e
    | err x => cases e
    | bad => cases e
  unfold dMe at h
  split at h
  · refine key h fun x e => ?_
    obtain ⟨_, e⟩ := need_ok e
    cases e
    simp
  · refine key h fun x e => ?_
    obtain ⟨_, e⟩ := need_ok e
    cases e
    simp
  · obtain ⟨_, h⟩ := need_ok h
    cases h; simp
  · obtain ⟨_, h⟩ := need_ok h
    split at h
    · cases h; simp
    · cases h
  · cases h
theorem s_met (tk : T.K = X.K) {m : Me} {o : Ex} {l : Exs} {e' : Expr} (h : ∀ (u : TE) (t : TA), u = tE X T F Z o → t = tA X T F Z l → PE X e' (tBM X.K m.ty (rMe X.K m) u t)) : PE X e' (tE X T F Z (.met m o l)) := by
  refine wkE (h _ _ rfl rfl) ?_
  rintro σ H Q ⟨ρ, W, R, h⟩
  refine ⟨ρ, W, R, (Post.bind h).imp fun p0 ρ0 h0 v0 H0 W0 o0 => ?_⟩
  obtain ⟨d0, f0, h0⟩ := Post.val .pk h0
  obtain ⟨c0, h0⟩ := Post.need h0
  have k0 := peek_ok o0.go.rel o0.rep (pk_of f0)
  have ty : tyV X.K m.ty v0 H0 := by
    cases m with
    | join =>
      cases d0 with
      | str x => rw [k0.str]; rfl
      | _ => cases c0
    | split =>
      cases d0 with
      | str x => rw [k0.str]; rfl
      | _ => cases c0
    | index =>
      cases d0 with
      | lst x => obtain ⟨a, vs, rfl, e1, _⟩ := k0.lst; exact .inl ⟨rfl, vs, .of e1⟩
      | _ => cases c0
  refine ⟨ty, ρ0, W0, o0.go.rel, ((Post.bind h0).move o0.go.step).imp fun ps ρ1 h1 vs H1 W1 o1 => ?_⟩
  obtain ⟨d, ex, h3⟩ := Post.val .pk h1
  obtain ⟨ds, es, h4⟩ := Post.val .pks h3
  obtain ⟨p, ep, h5⟩ := Post.val .dMe h4
  rw [← tk]
  exact me_ok (peek_ok o1.go.rel (o0.rep.step o0.go.rel o1.go.step o1.go.mon) (pk_of ex)) (pks_ok o1.go.rel o1.rep es) ep ((o0.go.trans o1.go).res (p := p) h5 (dMe_np ep))
end
end Dv

set_option Elab.async false
set_option linter.all false
set_option maxRecDepth 100000
namespace Dv
open PySem PySem.Spec PyProof.Rows L2

/-! ### a def's arguments, its end -/
def ArgR1 (K : PySem.W.Frag) (H : Hp) (W : AS) (v : V) : A → Prop
  | .val d => RepD K H W v d
  | .own d => ∃ a o, v = .ref a ∧ H a = some o ∧ W a ∧ RepO K H W o d
  | .rd d => ∃ a o, v = .ref a ∧ H a = some o ∧ W a ∧ RepO K H W o d
def isMut : A → Prop
  | .val _ => False
  | _ => True
def ArgR (K : PySem.W.Frag) (H : Hp) (W : AS) : List V → List A → Prop
  | vs, [] => vs = []
  | vs, a :: as => ∃ v r, vs = v :: r ∧ ArgR1 K H W v a ∧ (isMut a → ∀ (j : Nat) (x : A), as[j]? = some x → isMut x → r[j]? ≠ some v) ∧ ArgR K H W r as
/-- the objects that a call may change -/
def lent (vs : List V) (as : List A) : AS := fun b => ∃ (j : Nat) (d : D), as[j]? = some (A.own d) ∧ vs[j]? = some (V.ref b)
def OutR1 (K : PySem.W.Frag) (H : Hp) (W : AS) (v : V) : A → A → Prop
  | .own _, .own d => ∃ a o, v = .ref a ∧ H a = some o ∧ W a ∧ RepO K H W o d
  | .own _, .val d => RepD K H W v d
  | _, _ => True
def ResR (K : PySem.W.Frag) (H0 H : Hp) (W : AS) (v : V) : Re → Prop
  | .val d => RepD K H W v d
  | .own d => ∃ a o, v = .ref a ∧ H0 a = none ∧ H a = some o ∧ W a ∧ RepO K H W o d
structure CallEnd (K : PySem.W.Frag) (H : Hp) (W : AS) (vs : List V) (as : List A) (r : Re) (as' : List A) (v : V) (H' : Hp) (W' : AS) : Prop where
  step : ∀ b o, H b = some o → ¬ lent vs as b → H' b = some o ∧ (W' b ↔ W b)
  dom : ∀ a, H' a = none → H a = none
  wl : WL H' W'
  out : ∀ (j : Nat) (v : V) (a x : A), vs[j]? = some v → as[j]? = some a → as'[j]? = some x → OutR1 K H' W' v a x
  res : ResR K H H' W' v r
/-- a def's promise: it does what F says -/
def spOf (F : Fn) (mg : Str → Option Value) (K : PySem.W.Frag) (n : Nat) (f : Str) : Sp := fun vs H Q E => vs.length = n ∧ ∃ W as, WL H W ∧ ArgR K H W vs as ∧ match F.call f as with
  | .ok (r, as') => ∀ v H' W', CallEnd K H W vs as r as' v H' W' → Q v H'
  | .err er => ∀ cls d H', ErrR mg K er cls d H' → (∀ b o, H b = some o → ¬ lent vs as b → H' b = some o) → E cls d H'
  | .bad => False
/-- what is known of a def that is called -/
structure Callee (X : Cx) (F : Fn) (f : Str) (np mn : Nat) : Prop where
  ex : ∃ (k : Nat) (fa : Addr) (fd : FuncData) (ps : List Str), FnOk X.prog X.w X.K X.mg X.base (L2.CX X.prog X.w) k fa fd ps (spOf F X.mg X.K ps.length f) ∧ Room k X.A ∧ X.mg f = some (.ref fa) ∧ PySem.W.keepIn X.K (.ref fa) = true ∧
    ps.length = np ∧ (∀ as, F.call f as ≠ .bad → as.length = np) ∧
    ∀ n, mn ≤ n → n ≤ np → ∃ (ds : List Value) (dvs : List V), Binds X.K fd ps ds ∧ Vals dvs ds ∧ ∀ H W, RepDs X.K H W dvs (F.dfl f n)

section
variable {X : Cx} {Z : WX} {T : Tc} {F : Fn} {σ : Sg} {H H0 H1 H2 H' : Hp} {ρ ρ1 ρ2 ρ' : Env'} {W W1 W2 W' : AS} {K : PySem.W.Frag} {ds : List D}
theorem ArgR.length : ∀ {as : List A} {vs : List V}, ArgR K H W vs as → vs.length = as.length
  | [], _, h => by rw [show _ = [] from h]; rfl
  | _ :: _, _, h => by
    obtain ⟨v, r, rfl, _, _, t⟩ := h
    rw [List.length_cons, List.length_cons, t.length]
theorem ArgR.get : ∀ {as : List A} {vs : List V} {j : Nat} {a : A}, ArgR K H W vs as → as[j]? = some a → ∃ v, vs[j]? = some v ∧ ArgR1 K H W v a
  | [], _, _, _, _, e => by simp at e
  | _ :: _, _, 0, _, h, e => by
    obtain ⟨v, r, rfl, q, _, _⟩ := h
    simp at e; subst e; exact ⟨v, rfl, q⟩
  | _ :: _, _, j + 1, _, h, e => by
    obtain ⟨v, r, rfl, _, _, t⟩ := h
    obtain ⟨u, h1, h2⟩ := t.get (j := j) (by simpa using e)
    exact ⟨u, by simpa using h1, h2⟩
theorem ArgR.dst : ∀ {as : List A} {vs : List V} {i j : Nat} {a b : A} {v : V}, ArgR K H W vs as → as[i]? = some a → as[j]? = some b → isMut a → isMut b → vs[i]? = some v → vs[j]? = some v → i = j
  | [], _, _, _, _, _, _, _, e, _, _, _, _, _ => by simp at e
  | _ :: _, _, 0, 0, _, _, _, _, _, _, _, _, _, _ => rfl
  | _ :: _, _, 0, j + 1, _, _, _, h, e1, e2, m1, m2, e3, e4 => by
    obtain ⟨v, r, rfl, _, n, _⟩ := h
    simp at e1 e3
    subst e1 e3
    exact absurd (by simpa using e4) (n m1 j _ (by simpa using e2) m2)
  | _ :: _, _, i + 1, 0, _, _, _, h, e1, e2, m1, m2, e3, e4 => by
    obtain ⟨v, r, rfl, _, n, _⟩ := h
    simp at e2 e4
    subst e2 e4
    exact absurd (by simpa using e3) (n m2 i _ (by simpa using e1) m1)
  | _ :: _, _, i + 1, j + 1, _, _, _, h, e1, e2, m1, m2, e3, e4 => by
    obtain ⟨v, r, rfl, _, _, t⟩ := h
    rw [t.dst (i := i) (j := j) (by simpa using e1) (by simpa using e2) m1 m2 (by simpa using e3) (by simpa using e4)]
theorem ArgR.w (wl : WL H W) {as : List A} {vs : List V} (h : ArgR K H W vs as) {b : Addr} (l : lent vs as b) : W b := by
  obtain ⟨j, d, e1, e2⟩ := l
  obtain ⟨v, e3, a, o, e4, _, w, _⟩ := h.get e1
  rw [e2] at e3; cases e3; cases e4
  exact w
/-- arguments that are data behind the others -/
theorem ArgR.app : ∀ {as : List A} {vs us : List V} {ds : List D}, ArgR K H W vs as → RepDs K H W us ds → ArgR K H W (vs ++ us) (as ++ ds.map .val)
  | [], _, us, ds, h, q => by
    rw [show _ = [] from h, List.nil_append, List.nil_append]
    clear h
    induction ds generalizing us with
    | nil => exact q
    | cons d ds ih =>
      obtain ⟨v, r, rfl, a, b⟩ := q
      exact ⟨v, r, rfl, a, fun m => m.elim, ih _ b⟩
  | a :: as, _, us, ds, h, q => by
    obtain ⟨v, r, rfl, k, n, t⟩ := h
    refine ⟨v, _, rfl, k, fun m j x e1 m2 e2 => ?_, t.app q⟩
    have e1 : (as ++ ds.map A.val)[j]? = some x := e1
    have e2 : (r ++ us)[j]? = some v := e2
    by_cases hj : j < as.length
    · rw [List.getElem?_append_left hj] at e1
      rw [List.getElem?_append_left (by rw [t.length]; exact hj)] at e2
      exact n m j x e1 m2 e2
    · rw [List.getElem?_append_right (by omega), List.getElem?_map] at e1
      cases z : ds[j - as.length]? with
      | none => rw [z] at e1; cases e1
      | some d => rw [z] at e1; cases e1; exact m2

theorem ats_mem : ∀ {ps : List P} {j i : Nat}, ps[j]? = some (.at_ i) → i ∈ ats ps
  | [], _, _, e => by simp at e
  | p :: ps, 0, i, e => by
    simp at e; subst e
    exact List.mem_cons_self
  | p :: ps, j + 1, i, e => by
    have := ats_mem (ps := ps) (j := j) (i := i) (by simpa using e)
    cases p with
    | at_ k => exact List.mem_cons_of_mem _ this
    | _ => exact this
theorem ats_tail {p : P} {ps : List P} (h : (ats (p :: ps)).Nodup) : (ats ps).Nodup := by
  cases p with
  | at_ k => exact (List.nodup_cons.mp h).2
  | _ => exact h
/-- the arguments stand -/
theorem args_ok (R : Rel T σ H ρ W) : ∀ {ps : List P} {vs : List V} {as : List A}, RepPs T σ H0 H ρ W vs ps → (ats ps).Nodup → toArgs ps ρ = .ok as →
    ArgR T.K H W vs as ∧ ∀ (j : Nat) (x : A) (v : V), as[j]? = some x → isMut x → vs[j]? = some v → (∃ d, ps[j]? = some (.own d)) ∨ ∃ i, ps[j]? = some (.at_ i) ∧ ∃ a, v = .ref a ∧ OwnA σ ρ i a
  | [], _, _, h, _, e => by
    cases e
    exact ⟨h, fun j x v e => by simp at e⟩
  | p :: ps, _, as, h, nd, e => by
    obtain ⟨v, r, rfl, q, n, t⟩ := h
    have e : ((toArg p ρ).bind fun a => (toArgs ps ρ).bind fun as => .ok (a :: as)) = .ok as := e
    cases e1 : toArg p ρ with
    | bad => rw [e1] at e; cases e
    | err x => rw [e1] at e; cases e
    | ok a =>
      rw [e1] at e
      have e : ((toArgs ps ρ).bind fun as => .ok (a :: as)) = .ok as := e
      cases e2 : toArgs ps ρ with
      | bad => rw [e2] at e; cases e
      | err x => rw [e2] at e; cases e
      | ok as2 =>
        rw [e2] at e
        cases e
        obtain ⟨ih, back⟩ := args_ok R t (ats_tail nd) e2
        -- the head
        have hd : ArgR1 T.K H W v a ∧ (isMut a → (∃ d, p = .own d) ∨ ∃ i, p = .at_ i ∧ ∃ x, v = .ref x ∧ OwnA σ ρ i x) := by
          cases p with
          | val d => cases e1; exact ⟨q, fun m => m.elim⟩
          | own d =>
            cases e1
            obtain ⟨x, o, ev, ex, w, _, _, k⟩ := q
            exact ⟨⟨x, o, ev, ex, w, k⟩, fun _ => .inl ⟨d, rfl⟩⟩
          | at_ i =>
            have q : σ[i]? = some (some v) := q
            simp only [toArg] at e1
            split at e1
            · rename_i d es; cases e1
              obtain ⟨o, z, u, z2, k⟩ := R.at_ i _ es
              rw [q] at z; cases z; cases z2
              exact ⟨k, fun m => m.elim⟩
            · rename_i d es; cases e1
              obtain ⟨o, z, u, z2, k⟩ := R.at_ i _ es
              rw [q] at z; cases z; cases z2
              exact ⟨k, fun m => m.elim⟩
            · rename_i b d es; cases e1
              obtain ⟨o, z, x, ob, z2, ex, w, k⟩ := R.at_ i _ es
              rw [q] at z; cases z; cases z2
              exact ⟨⟨x, ob, rfl, ex, w, k⟩, fun _ => .inr ⟨i, rfl, x, rfl, .inl ⟨b, d, es⟩, q⟩⟩
            · rename_i b d es; cases e1
              obtain ⟨o, z, x, ob, z2, ex, w, k⟩ := R.at_ i _ es
              rw [q] at z; cases z; cases z2
              exact ⟨⟨x, ob, rfl, ex, w, k⟩, fun _ => .inr ⟨i, rfl, x, rfl, .inr ⟨b, d, es⟩, q⟩⟩
            · cases e1
        refine ⟨⟨v, r, rfl, hd.1, fun m j x ej mx ev => ?_, ih⟩, fun j x u ej mx eu => ?_⟩
        · rcases hd.2 m with ⟨d, rfl⟩ | ⟨i, rfl, c, rfl, oc⟩
          · obtain ⟨a', o, ea, ex, w, no, _⟩ := q
            subst ea
            rcases back j x _ ej mx ev with ⟨d2, e3⟩ | ⟨i2, e3, a2, e4, oa⟩
            · exact (n d a' rfl rfl).2 j d2 e3 ev
            · cases e4; exact no i2 oa
          · rcases back j x _ ej mx ev with ⟨d2, e3⟩ | ⟨i2, e3, a2, e4, oa⟩
            · obtain ⟨u, eu, a', o, ea, ex, w, no, _⟩ := t.get e3
              rw [ev] at eu; cases eu; cases ea
              exact no i oc
            · cases e4
              have := R.sep _ _ _ oc oa
              subst this
              exact (List.nodup_cons.mp nd).1 (ats_mem e3)
        · cases j with
          | zero =>
            simp at ej eu
            subst ej eu
            rcases hd.2 mx with ⟨d, rfl⟩ | ⟨i, rfl, c, e5, oc⟩
            · exact .inl ⟨d, rfl⟩
            · exact .inr ⟨i, rfl, c, e5, oc⟩
          | succ j => exact back j x u (by simpa using ej) mx (by simpa using eu)

/-- the environment behind a call, slot by slot -/
theorem back_out : ∀ {ps : List P} {as : List A} {ρ ρ' : Env'} {i : Nat}, backArgs ps as ρ = .ok ρ' → i ∉ ats ps → ρ'[i]? = ρ[i]?
  | [], _, _, _, _, e, _ => by cases e; rfl
  | _ :: _, [], _, _, _, e, _ => by cases e
  | p :: ps, a :: as, ρ, ρ', i, e, n => by
    have e : ((backArg p a ρ).bind (backArgs ps as)) = .ok ρ' := e
    cases e1 : backArg p a ρ with
    | bad => rw [e1] at e; cases e
    | err x => rw [e1] at e; cases e
    | ok ρ1 =>
      rw [e1] at e
      have e2 : backArgs ps as ρ1 = .ok ρ' := e
      cases p with
      | val d => cases e1; exact back_out e2 n
      | own d => cases e1; exact back_out e2 n
      | at_ k =>
        have ne : k ≠ i := fun z => n (by rw [z]; exact List.mem_cons_self)
        rw [back_out (ps := ps) (as := as) e2 fun z => n (List.mem_cons_of_mem _ z)]
        simp only [backArg] at e1
        split at e1
        · split at e1
          · cases e1; rw [List.getElem?_set_ne ne]
          · cases e1; rw [List.getElem?_set_ne ne]
          · cases e1
        · cases e1; rfl
theorem back_at : ∀ {ps : List P} {as : List A} {ρ ρ' : Env'} {i j : Nat}, backArgs ps as ρ = .ok ρ' → (ats ps).Nodup → ps[j]? = some (.at_ i) →
    (∃ b d, ρ[i]? = some (some (.own b d)) ∧ ((∃ d', as[j]? = some (.own d') ∧ ρ'[i]? = some (some (.own b d'))) ∨ ∃ d', as[j]? = some (.val d') ∧ ρ'[i]? = some (some (thaw b d')))) ∨
    ((∀ b d, ρ[i]? ≠ some (some (.own b d))) ∧ ρ'[i]? = ρ[i]?)
  | [], _, _, _, _, _, _, _, z => by simp at z
  | _ :: _, [], _, _, _, _, e, _, _ => by cases e
  | p :: ps, a :: as, ρ, ρ', i, j, e, nd, hj => by
    have e : ((backArg p a ρ).bind (backArgs ps as)) = .ok ρ' := e
    cases e1 : backArg p a ρ with
    | bad => rw [e1] at e; cases e
    | err x => rw [e1] at e; cases e
    | ok ρ1 =>
      rw [e1] at e
      have e2 : backArgs ps as ρ1 = .ok ρ' := e
      cases j with
      | zero =>
        simp at hj
        subst hj
        have ni : i ∉ ats ps := (List.nodup_cons.mp nd).1
        rw [back_out (ps := ps) (as := as) e2 ni]
        simp only [backArg] at e1
        split at e1
        · rename_i b d es
          have hi : i < ρ.length := (List.getElem?_eq_some_iff.mp es).1
          split at e1
          · cases e1
            exact .inl ⟨b, d, es, .inl ⟨_, rfl, by rw [List.getElem?_set_self hi]⟩⟩
          · cases e1
            exact .inl ⟨b, d, es, .inr ⟨_, rfl, by rw [List.getElem?_set_self hi]⟩⟩
          · cases e1
        · rename_i h
          cases e1
          exact .inr ⟨fun b d z => h b d z, rfl⟩
      | succ j =>
        have hj : ps[j]? = some (.at_ i) := by simpa using hj
        have same : ρ1[i]? = ρ[i]? := by
          cases p with
          | val d => cases e1; rfl
          | own d => cases e1; rfl
          | at_ k =>
            have ne : k ≠ i := fun z => (List.nodup_cons.mp nd).1 (by rw [z]; exact ats_mem hj)
            simp only [backArg] at e1
            split at e1
            · split at e1
              · cases e1; rw [List.getElem?_set_ne ne]
              · cases e1; rw [List.getElem?_set_ne ne]
              · cases e1
            · cases e1; rfl
        have := back_at e2 (ats_tail nd) hj
        rw [same] at this
        simpa using this
theorem back_len : ∀ {ps : List P} {as : List A} {ρ ρ' : Env'}, backArgs ps as ρ = .ok ρ' → ρ'.length = ρ.length
  | [], _, _, _, e => by cases e; rfl
  | _ :: _, [], _, _, e => by cases e
  | p :: ps, a :: as, ρ, ρ', e => by
    have e : ((backArg p a ρ).bind (backArgs ps as)) = .ok ρ' := e
    cases e1 : backArg p a ρ with
    | bad => rw [e1] at e; cases e
    | err x => rw [e1] at e; cases e
    | ok ρ1 =>
      rw [e1] at e
      rw [back_len (show backArgs ps as ρ1 = .ok ρ' from e)]
      cases p with
      | val d => cases e1; rfl
      | own d => cases e1; rfl
      | at_ k =>
        simp only [backArg] at e1
        split at e1
        · split at e1
          · cases e1; simp
          · cases e1; simp
          · cases e1
        · cases e1; rfl
theorem toArgs_get : ∀ {ps : List P} {ρ : Env'} {as : List A} {j : Nat} {p : P}, toArgs ps ρ = .ok as → ps[j]? = some p → ∃ a, as[j]? = some a ∧ toArg p ρ = .ok a
  | [], _, _, _, _, _, z => by simp at z
  | p :: ps, ρ, as, j, q, e, hj => by
    have e : ((toArg p ρ).bind fun a => (toArgs ps ρ).bind fun as => .ok (a :: as)) = .ok as := e
    cases e1 : toArg p ρ with
    | bad => rw [e1] at e; cases e
    | err x => rw [e1] at e; cases e
    | ok a =>
      rw [e1] at e
      have e : ((toArgs ps ρ).bind fun as => .ok (a :: as)) = .ok as := e
      cases e2 : toArgs ps ρ with
      | bad => rw [e2] at e; cases e
      | err x => rw [e2] at e; cases e
      | ok as2 =>
        rw [e2] at e
        cases e
        cases j with
        | zero => simp at hj; subst hj; exact ⟨a, rfl, e1⟩
        | succ j =>
          obtain ⟨x, h1, h2⟩ := toArgs_get (j := j) e2 (by simpa using hj)
          exact ⟨x, by simpa using h1, h2⟩
theorem toArgs_len : ∀ {ps : List P} {ρ : Env'} {as : List A}, toArgs ps ρ = .ok as → as.length = ps.length
  | [], _, _, e => by cases e; rfl
  | p :: ps, ρ, as, e => by
    have e : ((toArg p ρ).bind fun a => (toArgs ps ρ).bind fun as => .ok (a :: as)) = .ok as := e
    cases e1 : toArg p ρ with
    | bad => rw [e1] at e; cases e
    | err x => rw [e1] at e; cases e
    | ok a =>
      rw [e1] at e
      have e : ((toArgs ps ρ).bind fun as => .ok (a :: as)) = .ok as := e
      cases e2 : toArgs ps ρ with
      | bad => rw [e2] at e; cases e
      | err x => rw [e2] at e; cases e
      | ok as2 =>
        rw [e2] at e
        cases e
        rw [List.length_cons, List.length_cons, toArgs_len e2]
theorem ats_mem_iff : ∀ {ps : List P} {i : Nat}, i ∈ ats ps → ∃ j : Nat, ps[j]? = some (.at_ i)
  | [], _, h => by cases h
  | p :: ps, i, h => by
    cases p with
    | at_ k =>
      rcases List.mem_cons.mp h with e | h
      · exact ⟨0, by rw [e]; rfl⟩
      · obtain ⟨j, hj⟩ := ats_mem_iff (ps := ps) h
        exact ⟨j + 1, by simpa using hj⟩
    | val d =>
      obtain ⟨j, hj⟩ := ats_mem_iff (ps := ps) h
      exact ⟨j + 1, by simpa using hj⟩
    | own d =>
      obtain ⟨j, hj⟩ := ats_mem_iff (ps := ps) h
      exact ⟨j + 1, by simpa using hj⟩

/-- behind a call: the caller's state -/
theorem call_back {ps : List P} {vs vs2 : List V} {as as' : List A} {r : Re} {v : V} (R : Rel T σ H ρ W) (rp : RepPs T σ H0 H ρ W vs ps) (nd : (ats ps).Nodup) (ea : toArgs ps ρ = .ok as)
    (dv : RepDs T.K H W vs2 ds) (ce : CallEnd T.K H W (vs ++ vs2) (as ++ ds.map .val) r as' v H' W') (eb : backArgs ps as' ρ = .ok ρ') :
    Rel T σ H' ρ' W' ∧ StepX (tmps vs ps) σ H ρ W σ H' ρ' W' ∧ Mon σ ρ ρ' ∧ Lk ρ ρ' ∧ RepP T σ H' ρ' W' v r.p ∧ ∀ d, r.p = .own d → ∀ a, v = .ref a → H a = none := by
  obtain ⟨ar, back⟩ := args_ok R rp nd ea
  have ar2 := ar.app dv
  -- what is lent is in W
  have lentW : ∀ b, lent (vs ++ vs2) (as ++ ds.map .val) b → W b := fun b l => ar2.w R.wl l
  have ad : Adv H W H' W' := fun b o h w => by
    obtain ⟨h1, w1⟩ := ce.step b o h fun l => w (lentW b l)
    exact ⟨h1, fun z => w (w1.mp z)⟩
  have lentB : ∀ b, lent (vs ++ vs2) (as ++ ds.map .val) b → tmps vs ps b ∨ ∃ (i j : Nat), ps[j]? = some (P.at_ i) ∧ OwnU σ ρ i b := fun b ⟨j, d, e1, e2⟩ => by
    have hj : j < as.length := by
      by_cases hj : j < as.length
      · exact hj
      · rw [List.getElem?_append_right (by omega), List.getElem?_map] at e1
        cases z : ds[j - as.length]? with
        | none => rw [z] at e1; cases e1
        | some d => rw [z] at e1; cases e1
    rw [List.getElem?_append_left hj] at e1
    rw [List.getElem?_append_left (by rw [ar.length]; exact hj)] at e2
    rcases back j _ _ e1 trivial e2 with ⟨d2, e3⟩ | ⟨i, e3, a, e4, oa⟩
    · exact .inl ⟨j, d2, e3, e2⟩
    · cases e4
      refine .inr ⟨i, j, e3, ?_⟩
      obtain ⟨x, e5, e6⟩ := toArgs_get ea e3
      rw [e1] at e5; cases e5
      obtain ⟨h1, h2⟩ := oa
      refine ⟨?_, h2⟩
      rcases h1 with h1 | ⟨b, d, h1⟩
      · exact h1
      · simp only [toArg, h1] at e6; cases e6
  have unl : ∀ i b, OwnA σ ρ i b → i ∉ ats ps → ¬ lent (vs ++ vs2) (as ++ ds.map .val) b := fun i b o n l => by
    rcases lentB b l with ⟨j, d, e1, e2⟩ | ⟨i2, j, e1, o2⟩
    · obtain ⟨u, eu, a', ob, ea', ex, w, no, _⟩ := rp.get e1
      rw [e2] at eu; cases eu; cases ea'
      exact no i o
    · have := R.sep _ _ _ o o2.a
      subst this
      exact n (ats_mem e1)
  have hv : ∀ {j i : Nat} {u : V}, ps[j]? = some (.at_ i) → σ[i]? = some (some u) → (vs ++ vs2)[j]? = some u := fun {j i u} e1 e2 => by
    obtain ⟨u', e3, e4⟩ := rp.get e1
    have e4 : σ[i]? = some (some u') := e4
    rw [e2] at e4; cases e4
    rw [List.getElem?_append_left ((List.getElem?_eq_some_iff.mp e3).1)]
    exact e3
  have ha : ∀ {j : Nat} {a : A}, as[j]? = some a → (as ++ ds.map A.val)[j]? = some a := fun {j a} e => by
    rw [List.getElem?_append_left ((List.getElem?_eq_some_iff.mp e).1)]; exact e
  -- a slot that bears no lent object
  have keepS : ∀ (i : Nat) (s : S), ρ[i]? = some (some s) → (∀ a, OwnA σ ρ i a → ¬ lent (vs ++ vs2) (as ++ ds.map .val) a) → ∃ o, σ[i]? = some o ∧ RelS T H' W' o s := fun i s e n => by
    obtain ⟨o, e1, q⟩ := R.at_ i s e
    refine ⟨o, e1, ?_⟩
    cases s with
    | val c => obtain ⟨u, e4, z⟩ := q; exact ⟨u, e4, z.adv R.wl ad⟩
    | brz c => obtain ⟨u, e4, z⟩ := q; exact ⟨u, e4, z.adv R.wl ad⟩
    | own c x =>
      obtain ⟨a', ob', e4, e5, e6, z⟩ := q
      subst e4
      obtain ⟨h1, w1⟩ := ce.step a' _ e5 (n a' ⟨.inl ⟨c, x, e⟩, e1⟩)
      exact ⟨a', ob', rfl, h1, w1.mpr e6, z.adv R.wl ad⟩
    | lck c x =>
      obtain ⟨a', ob', e4, e5, e6, z⟩ := q
      subst e4
      obtain ⟨h1, w1⟩ := ce.step a' _ e5 (n a' ⟨.inr ⟨c, x, e⟩, e1⟩)
      exact ⟨a', ob', rfl, h1, w1.mpr e6, z.adv R.wl ad⟩
  have lckN : ∀ (i : Nat) (b : Bool) (d : D), ρ[i]? = some (some (.lck b d)) → ∀ a, OwnA σ ρ i a → ¬ lent (vs ++ vs2) (as ++ ds.map .val) a := fun i b d e a o l => by
    rcases lentB a l with ⟨j, d, e1, e2⟩ | ⟨i2, j, e1, o2⟩
    · obtain ⟨u, eu, a', ob, ea', ex, w, no, _⟩ := rp.get e1
      rw [e2] at eu; cases eu; cases ea'
      exact no i o
    · have := R.sep _ _ _ o o2.a
      subst this
      obtain ⟨⟨b2, d2, e3⟩, _⟩ := o2
      rw [e] at e3; cases e3
  have nt : ∀ c x y z, thaw c x ≠ .own y z ∧ thaw c x ≠ .lck y z := fun c x y z => by cases c <;> simp [thaw]
  -- each slot of the new environment
  have slot : ∀ (i : Nat) (s : S), ρ'[i]? = some (some s) → (∃ o, σ[i]? = some o ∧ RelS T H' W' o s) ∧
      ((∃ b d, s = .own b d) → ∃ b d d2, s = .own b d2 ∧ ρ[i]? = some (some (.own b d))) ∧ ((∃ b d, s = .lck b d) → ρ[i]? = some (some s)) := fun i s e => by
    by_cases hm : i ∈ ats ps
    · obtain ⟨j, hj⟩ := ats_mem_iff hm
      rcases back_at eb nd hj with ⟨b, d, e1, ⟨d', e2, e3⟩ | ⟨d', e2, e3⟩⟩ | ⟨n, e3⟩
      · rw [e] at e3; cases e3
        obtain ⟨a, e4, e5⟩ := toArgs_get ea hj
        simp only [toArg, e1] at e5
        cases e5
        obtain ⟨o, e6, x, ob, rfl, _⟩ := R.at_ i _ e1
        have q := ce.out j _ _ _ (hv hj e6) (ha e4) e2
        obtain ⟨a2, o2, e7, e8, e9, e10⟩ := q
        cases e7
        exact ⟨⟨_, e6, x, o2, rfl, e8, e9, e10⟩, fun _ => ⟨b, d, d', rfl, e1⟩, fun ⟨_, _, z⟩ => by cases z⟩
      · rw [e] at e3; cases e3
        obtain ⟨a, e4, e5⟩ := toArgs_get ea hj
        simp only [toArg, e1] at e5
        cases e5
        obtain ⟨o, e6, x, ob, rfl, _⟩ := R.at_ i _ e1
        have q : RepD T.K H' W' (.ref x) d' := ce.out j _ _ _ (hv hj e6) (ha e4) e2
        refine ⟨⟨_, e6, ?_⟩, fun ⟨y, z, h⟩ => absurd h (nt b d' y z).1, fun ⟨y, z, h⟩ => absurd h (nt b d' y z).2⟩
        cases b <;> exact ⟨_, rfl, q⟩
      · rw [e] at e3
        refine ⟨keepS i s e3.symm fun a o l => ?_, fun ⟨b, d, h⟩ => ⟨b, d, d, h, by rw [← e3, h]⟩, fun _ => e3.symm⟩
        rcases lentB a l with ⟨j2, d2, e4, e5⟩ | ⟨i2, j2, e4, o2⟩
        · obtain ⟨u, eu, a', ob, ea', ex, w, no, _⟩ := rp.get e4
          rw [e5] at eu; cases eu; cases ea'
          exact no i o
        · have := R.sep _ _ _ o o2.a
          subst this
          obtain ⟨⟨b2, d2, e6⟩, _⟩ := o2
          exact n b2 d2 e6
    · have e3 := back_out eb hm
      rw [e] at e3
      exact ⟨keepS i s e3.symm fun a o => unl i a o hm, fun ⟨b, d, h⟩ => ⟨b, d, d, h, by rw [← e3, h]⟩, fun _ => e3.symm⟩
  have mon : Mon σ ρ ρ' := fun i a ⟨h1, h2⟩ => by
    rcases h1 with ⟨b, d, h1⟩ | ⟨b, d, h1⟩
    · obtain ⟨_, k, _⟩ := slot i _ h1
      obtain ⟨b2, d2, d3, e1, e2⟩ := k ⟨b, d, rfl⟩
      exact ⟨.inl ⟨_, _, e2⟩, h2⟩
    · obtain ⟨_, _, k⟩ := slot i _ h1
      exact ⟨.inr ⟨_, _, k ⟨b, d, rfl⟩⟩, h2⟩
  have rel : Rel T σ H' ρ' W' := by
    refine ⟨by rw [back_len eb]; exact R.len, fun i s e => (slot i s e).1, fun i j a h1 h2 => R.sep i j a (mon i a h1) (mon j a h2), ce.wl, fun i d a h1 h2 => ?_, fun a h => R.fzk a (ce.dom a h), fun i a h => ?_⟩
    · rcases h1 with h1 | h1
      · obtain ⟨_, k, _⟩ := slot i _ h1
        obtain ⟨b2, d2, d3, e1, e2⟩ := k ⟨_, _, rfl⟩
        cases e1
        exact R.fr i d2 a (.inl e2) h2
      · obtain ⟨_, _, k⟩ := slot i _ h1
        exact R.fr i d a (.inr (k ⟨_, _, rfl⟩)) h2
    · obtain ⟨h1, s, h2, h3⟩ := R.bor i a h
      refine ⟨h1, ?_⟩
      by_cases hm : i ∈ ats ps
      · obtain ⟨j, hj⟩ := ats_mem_iff hm
        rcases back_at eb nd hj with ⟨b, d, e1, ⟨d', e2, e3⟩ | ⟨d', e2, e3⟩⟩ | ⟨n, e3⟩
        · rw [e1] at h2; cases h2
          refine ⟨_, e3, ?_⟩
          cases b with
          | true => trivial
          | false => exact h3.elim
        · rw [e1] at h2; cases h2
          refine ⟨_, e3, ?_⟩
          cases b with
          | true => trivial
          | false => exact h3.elim
        · exact ⟨s, by rw [e3]; exact h2, h3⟩
      · exact ⟨s, by rw [back_out eb hm]; exact h2, h3⟩
  refine ⟨rel, fun b o h n na => ?_, mon, fun i b d e => ?_, ?_, fun d e a ev => ?_⟩
  · have nl : ¬ lent (vs ++ vs2) (as ++ ds.map .val) b := fun l => by
      rcases lentB b l with t | ⟨i, j, e1, o2⟩
      · exact na t
      · exact n i o2
    obtain ⟨h1, w1⟩ := ce.step b o h nl
    refine ⟨h1, fun i z => n i ?_, w1⟩
    obtain ⟨⟨c, d, e1⟩, e2⟩ := z
    obtain ⟨_, k, _⟩ := slot i _ e1
    obtain ⟨b2, d2, d3, e3, e4⟩ := k ⟨c, d, rfl⟩
    exact ⟨⟨_, _, e4⟩, e2⟩
  · by_cases hm : i ∈ ats ps
    · obtain ⟨j, hj⟩ := ats_mem_iff hm
      rcases back_at eb nd hj with ⟨b2, d2, e1, _⟩ | ⟨_, e3⟩
      · rw [e] at e1; cases e1
      · rw [e3]; exact e
    · rw [back_out eb hm]; exact e
  · cases r with
    | val d => exact ce.res
    | own d =>
      obtain ⟨a, o, rfl, n0, e1, w, q⟩ := ce.res
      refine ⟨a, o, rfl, e1, w, fun i z => ?_, R.fzk a n0, q⟩
      obtain ⟨_, u, e2, _⟩ := R.ownA (mon i a z)
      rw [n0] at e2; cases e2
  · cases r with
    | val d => cases e
    | own d =>
      obtain ⟨a2, o, e2, n0, _⟩ := ce.res
      rw [ev] at e2; cases e2
      exact n0
end
end Dv

set_option Elab.async false
set_option linter.all false
set_option maxRecDepth 100000
namespace Dv
open PySem PySem.Spec PyProof.Rows L2

section
variable {X : Cx} {Z : WX} {T : Tc} {F : Fn} {σ : Sg} {H H0 H1 H2 H' : Hp} {ρ ρ1 ρ2 ρ' : Env'} {W W1 W2 W' : AS} {K : PySem.W.Frag} {ds : List D}
/-- f(..), behind the arguments -/
theorem call_run (tk : T.K = X.K) {f : Str} {n : Nat} {ps : List P} {vs vs2 : List V} {Q : VK} (o : Outs T σ H ρ W ps ρ1 vs H1 W1) (hn : ∀ as, F.call f as ≠ .bad → as.length = n)
    (dv : ∀ H W, RepDs X.K H W vs2 (F.dfl f ps.length)) (h : Post X Z (doCall F f ps ρ1) σ H ρ fun p ρ' => ∀ v H' W', Out T σ H ρ W p ρ' v H' W' → Q v H') :
    spOf F X.mg X.K n f (vs ++ vs2) H1 Q (WE Z σ) := by
  unfold doCall at h
  obtain ⟨nd, h⟩ := Post.need h
  cases ea : toArgs ps ρ1 with
  | bad => rw [ea] at h; exact h.elim
  | err x =>
    exfalso
    have : ∀ {ps : List P} {ρ : Env'}, NoErr (toArgs ps ρ) := by
      intro ps
      induction ps with
      | nil => intro ρ; exact .ok
      | cons p ps ih =>
        intro ρ
        refine .bind ?_ fun _ => .bind ih fun _ => .ok
        unfold toArg
        split
        · exact .ok
        · exact .ok
        · split <;> first | exact .ok | exact .bad
    exact this x ea
  | ok as =>
    rw [ea] at h
    have h : Post X Z ((F.call f (as ++ (F.dfl f ps.length).map .val)).bind fun r => (backArgs ps r.2 ρ1).bind fun ρ' => .ok (r.1.p, ρ')) σ H ρ fun p ρ' => ∀ v H' W', Out T σ H ρ W p ρ' v H' W' → Q v H' := h
    obtain ⟨ar, back⟩ := args_ok o.go.rel o.rep nd ea
    have dv1 := dv H1 W1
    rw [← tk] at dv1
    have ar2 := ar.app dv1
    refine ⟨?_, W1, _, o.go.rel.wl, by rw [← tk]; exact ar2, ?_⟩
    · rw [ar2.length]
      refine hn _ fun z => ?_
      rw [z] at h; exact h.elim
    · cases ec : F.call f (as ++ (F.dfl f ps.length).map .val) with
      | bad => rw [ec] at h; exact h.elim
      | err er =>
        rw [ec] at h
        have h : ErrOk X Z er σ H ρ := h
        intro cls d H' e k
        refine h cls d H' e fun b ob hb nb => ?_
        obtain ⟨h1, n1, w1⟩ := o.go.step b ob hb nb
        refine k b ob h1 fun l => ?_
        obtain ⟨j, dd, e1, e2⟩ := l
        have hj : j < as.length := by
          by_cases hj : j < as.length
          · exact hj
          · rw [List.getElem?_append_right (by omega), List.getElem?_map] at e1
            cases z : (F.dfl f ps.length)[j - as.length]? with
            | none => rw [z] at e1; cases e1
            | some d => rw [z] at e1; cases e1
        rw [List.getElem?_append_left hj] at e1
        rw [List.getElem?_append_left (by rw [ar.length]; exact hj)] at e2
        rcases back j _ _ e1 trivial e2 with ⟨d2, e3⟩ | ⟨i, e3, a, e4, oa⟩
        · rw [o.rep.new e3 e2] at hb; cases hb
        · cases e4
          obtain ⟨x, e5, e6⟩ := toArgs_get ea e3
          rw [e1] at e5; cases e5
          obtain ⟨z1, z2⟩ := oa
          rcases z1 with z1 | ⟨b, d, z1⟩
          · exact n1 i ⟨z1, z2⟩
          · simp only [toArg, z1] at e6; cases e6
      | ok r =>
        obtain ⟨r, as'⟩ := r
        rw [ec] at h
        have h : Post X Z ((backArgs ps as' ρ1).bind fun ρ' => .ok (r.p, ρ')) σ H ρ fun p ρ' => ∀ v H' W', Out T σ H ρ W p ρ' v H' W' → Q v H' := h
        intro v H' W' ce
        rw [← tk] at ce
        cases eb : backArgs ps as' ρ1 with
        | bad => rw [eb] at h; exact h.elim
        | err x =>
          exfalso
          have : ∀ {ps : List P} {as : List A} {ρ : Env'}, NoErr (backArgs ps as ρ) := by
            intro ps
            induction ps with
            | nil => intro as ρ; exact .ok
            | cons p ps ih =>
              intro as ρ
              cases as with
              | nil => exact .bad
              | cons a as =>
                refine .bind ?_ fun _ => ih
                unfold backArg
                split
                · split
                  · split <;> first | exact .ok | exact .bad
                  · exact .ok
                · exact .ok
          exact this x eb
        | ok ρ2 =>
          rw [eb] at h
          obtain ⟨rel, st, mon, lk, rp, nw⟩ := call_back o.go.rel o.rep nd ea dv1 ce eb
          exact h v H' W' ⟨⟨rel, o.go.step.then st fun a z => (tmps_w o.rep a z).2, o.go.mon.trans mon, fun a z => o.go.dom a (ce.dom a z), o.go.lk.trans lk⟩, rp, fun d e a ev => o.go.dom a (nw d e a ev)⟩
theorem evs_len : ∀ {l : Exs} {ρ : Env'} {ps : List P} {ρ' : Env'}, evs F l ρ = .ok (ps, ρ') → ∀ {l' : List Expr}, True := fun _ => trivial
/-- f(e, ..) -/
theorem s_call (tk : T.K = X.K) (tz : Takes X Z) {f : Str} {np mn : Nat} (c : Callee X F f np mn) {e : Ex} {l : Exs} {e' : Expr} {l' : List Expr} {p pos : Pos} (hg : Gl X f) (hp : PA X (e' :: l') (tA X T F Z (.cons e l)))
    (h1 : mn ≤ (e' :: l').length) (h2 : (e' :: l').length ≤ np) (hlen : ∀ {ρ : Env'} {ps : List P} {ρ' : Env'}, evs F (.cons e l) ρ = .ok (ps, ρ') → ps.length = (e' :: l').length) (hdb : (f == ("__debug__" : Str)) = false)
    (he : starEach (e' :: l') X.env = (false, eval e' X.env) :: starEach l' X.env) (hpl : (backTo pos (starEach l' X.env)).any (·.1) = false) : PE X (.Call (.Name f p) (e' :: l') [] pos) (tE X T F Z (.call f (.cons e l))) := by
  obtain ⟨k, fa, fd, pn, G, hr, hm, hk, rfl, hn, hb⟩ := c.ex
  obtain ⟨dvl, dvs, bd, hd, dv⟩ := hb _ h1 h2
  refine wkE (pe_callSD (E := WE Z) G hr hg hm hk bd hd (fun σ => passAt tz σ) hp hdb he hpl) ?_
  rintro σ H Q ⟨ρ, W, R, h⟩
  have h := Post.bind h
  refine ⟨ρ, W, R, ?_⟩
  cases ee : evs F (.cons e l) ρ with
  | bad => rw [ee] at h; exact h
  | err x => rw [ee] at h; exact h
  | ok r =>
    obtain ⟨ps, ρ1⟩ := r
    rw [ee] at h
    intro vs H1 W1 o
    exact call_run tk o hn (by rw [hlen ee]; exact dv) h
/-- f() -/
theorem s_call0 (tk : T.K = X.K) (tz : Takes X Z) {f : Str} {np mn : Nat} (c : Callee X F f np mn) {p pos : Pos} (hg : Gl X f) (h1 : mn ≤ 0) (hdb : (f == ("__debug__" : Str)) = false) : PE X (.Call (.Name f p) [] [] pos) (tE X T F Z (.call f .nil)) := by
  obtain ⟨k, fa, fd, pn, G, hr, hm, hk, rfl, hn, hb⟩ := c.ex
  obtain ⟨dvl, dvs, bd, hd, dv⟩ := hb 0 h1 (Nat.zero_le _)
  refine ⟨fun pins s σ H Q I q => ?_⟩
  refine wpAny_Call_Name_kw (ld_glob I hg hm ?_ hdb)
  refine PySem.W.callWith_K0 I.kIn hk (run_fnSD (us := []) (E := WE Z) G hr bd hd (passAt tz σ) I .nil ?_)
  obtain ⟨ρ, W, R, h⟩ := q
  have h := Post.bind h
  exact call_run (vs := []) tk (ps := []) (ρ := ρ) (ρ1 := ρ) ⟨Go.refl R, rfl⟩ hn dv h
end
end Dv

set_option Elab.async false
set_option linter.all false
set_option maxRecDepth 100000
namespace Dv
open PySem PySem.Spec PyProof.Rows L2

/-! ### enumerate over a tuple -/
abbrev tuO (a : Addr) : Obj := { cls := .type "tuple_iterator", data := .fields #[.ref a, .int 0 0] }
abbrev enO (it : Addr) : Obj := { cls := .type "enumerate", data := .fields #[.none, .bool false, .ref it, rawInt 0, .none, .none] }
set_option maxHeartbeats 2000000 in
theorem meets_enumT (a : Addr) (items : Array Value) : Meets (Builtin.«enumerate.__new__» ⟨[.type "enumerate", .ref a], []⟩) (fun _ R s => s.heap.IsTuple a items ∧
      R (.ok (.ret (.ref (s.heap.push (tuO a)).objs.size))) { s with heap := (s.heap.push (tuO a)).push (enO s.heap.objs.size) }) :=
  .of_wp fun q w A R s hh => by
    obtain ⟨hp, gs, ds, tk, os⟩ := s; obtain ⟨ht, hR⟩ := hh
    have sub := sub_enumerate
    have it : ∀ {B : Around} {E : Value → Shared → Prop} {Q : Value → Shared → Prop}, Q (.ref hp.objs.size) ⟨hp.push (tuO a), gs, ds, tk, os⟩ → wpAny (model q w) B (pyIter (.ref a)) Q E ⟨hp, gs, ds, tk, os⟩ :=
      fun z => wpAny_pyIter_tuple (s := ⟨hp, gs, ds, tk, os⟩) ht z
    wp_walk using it
    refine wpAny_stack_any fun st => wpAny_pure ?_
    split
    · rename_i c1 _ _ _ _ _
      cases (c1 == Value.type "enumerate")
      all_goals
        wp_walk using it
        exact ⟨_, rfl, hR⟩
    · wp_walk using it
      exact ⟨_, rfl, hR⟩
theorem call_enumT {q : Program} {w : World} {A : Around} {E : Value → Shared → Prop} {s : Shared} {a : Addr} {items : Array Value} {Q : Value → Shared → Prop} (ht : s.heap.IsTuple a items)
    (h : ∀ h', IsEnum h' (s.heap.objs.size + 1) s.heap.objs.size 0 .none → h'.IsTupleIter s.heap.objs.size a 0 → (∀ b o, s.heap.get? b = some o → h'.get? b = some o) → Q (.ref (s.heap.objs.size + 1)) { s with heap := h' }) :
    wpAny (model q w) A (call (.type "enumerate") [.ref a]) Q E s := by
  refine callType_new F.called_enumerate (by decide) (F.typeCall_enumerate_1 _) (F.newCall_enumerate_1 _) (fun ob => F.args_object_init_2 ob _) F.entry_enumerate_new (meets_enumT a items) ⟨ht, ?_⟩
  have sz : (s.heap.push (tuO a)).objs.size = s.heap.objs.size + 1 := Heap.size_push ..
  show _ ∧ _
  rw [sz]
  have he : IsEnum ((s.heap.push (tuO a)).push (enO s.heap.objs.size)) (s.heap.objs.size + 1) s.heap.objs.size 0 .none := by
    have z := Heap.get?_push_size (s.heap.push (tuO a)) (o := enO s.heap.objs.size) rfl
    rw [sz] at z
    exact z
  exact ⟨⟨_, he, rfl⟩, h _ he ⟨_, Heap.get?_push_of_some _ (Heap.get?_push_size _ rfl), rfl, rfl⟩ fun b o x => Heap.get?_push_of_some _ (Heap.get?_push_of_some _ x)⟩
theorem next_enumT_end {q : Program} {w : World} {A : Around} {E : Value → Shared → Prop} {s : Shared} {e it a : Addr} {i : Nat} {items : Array Value} {old : Value} {Q : Option Value → Shared → Prop} (hn : A.handled = none) (he : IsEnum s.heap e it i old) (hi : s.heap.IsTupleIter it a i) (ht : s.heap.IsTuple a items) (hx : items[i]? = none)
    (h : ∀ h', Heap.ExtBut it s.heap h' → Q none { s with heap := h' }) : wpAny (model q w) A (pyNext (.ref e)) Q E s := by
  have ty : s.TypeIs (.ref e) "enumerate" := ⟨_, he, rfl⟩
  unfold pyNext
  refine wpAny_bind <| wpAny_attempt <| wpAny_callSpecial?_slot (name := Str.ofString "__next__") ty F.slot_enumerate_next <| wpAny_call_entry F.slot_enumerate_next ty F.entry_enumerate_next ?_ <| F.args_enumerate_next_1 _
  show wpAny _ _ (field (.ref e) 2 >>= _) _ _ s
  refine wpAny_bind (wpAny_field he rfl (x := .ref it) rfl (wpAny_bind ?_))
  refine wpAny_nextOf_tuple_end hn hi ht hx fun h2 x hb hs => ?_
  obtain ⟨o, ho, hc⟩ := hs
  exact wpAny_bind (wpAny_isInstance (T := "StopIteration") (b := true) ⟨o, ho, hc⟩ isSubtype_stop (wpAny_pure (h _ hb)))
/-- the tuple at a as it stands at each turn, the items in new pairs -/
def IteT (K : PySem.W.Frag) (a : Addr) : It where
  go := fun i H => ∃ (l : List V) (x : V), SqT K H a l ∧ l[i]? = some x
  yld := fun i H v H' => ∃ T x, v = .ref T ∧ H T = none ∧ H' = upd H T (.tup [.int (i : Nat), x]) ∧ ∀ l, SqT K H a l → l[i]? = some x
  stop := fun i H => ∃ l : List V, SqT K H a l ∧ l.length ≤ i
theorem turn_enumT {P : Program} {w : World} {K : PySem.W.Frag} {elts : List Expr} {kk : Nat} {tpos : Pos} (a e it : Addr) :
    Turn P w K (.Tuple elts kk tpos) (IteT K a) [e, it] e (fun i h => (∃ old, IsEnum h e it ((i : Nat) : Int) old) ∧ h.IsTupleIter it a i ∧ e ≠ it ∧ e ≠ a ∧ a ≠ it) where
  mem := by simp
  obj := fun i h st c hc => by
    obtain ⟨⟨old, he⟩, ⟨o, ho, _, hd⟩, _⟩ := st
    have z : c = e ∨ c = it := by simpa using hc
    rcases z with z | z
    · subst z; exact ⟨_, he, fun v y => nomatch y⟩
    · subst z; exact ⟨o, ho, fun v y => by rw [hd] at y; cases y⟩
  keep := fun i h h' st k => by
    obtain ⟨⟨old, he⟩, hi, hr⟩ := st
    exact ⟨⟨old, k e (by simp) _ he⟩, hi.at fun o y => k it (by simp) o y, hr⟩
  item := by
    intro X hP hw hK hc i pins s σ H E I hf st hg
    subst hP hw hK
    obtain ⟨⟨old, he⟩, hit, n1, n2, n3⟩ := st
    obtain ⟨l, x, hq, hx⟩ := hg
    obtain ⟨its, rv, p, _⟩ := I.tuple hq
    obtain ⟨u, hu, ru⟩ := rv.get hx
    have el : e < s.heap.objs.size := Heap.lt_size he
    have il : it < s.heap.objs.size := by obtain ⟨_, y, _⟩ := hit; exact Heap.lt_size y
    have lt : i < its.toArray.size := by
      have := (List.getElem?_eq_some_iff.mp hu).1
      simpa using this
    refine wpAny_pyNext_enum_itemD (Draws.tuple (prog := X.prog) (w := X.w) (A := X.A.in1) (show X.A.in1.handled = none from I.ok.hd hc) it a n3 its.toArray) he ⟨hit, p⟩ lt n1 (by simp [n1, n2]) fun x' h' tk hx' ho st' hT _ hk => ?_
    obtain rfl : x' = u := by
      have : its[i]? = some x' := by simpa using hx'
      rw [hu] at this
      exact (Option.some.inj this).symm
    refine ⟨_, rfl, wpAny_letOwnedTupleGo_enum (s := { s with heap := h', toks := tk + 1 }) ho fun h2 he2 sb => ?_⟩
    have hT2 := (sb.2 _ (Nat.ne_of_gt el)).trans hT
    have new : ObjOk X.prog X.w (upd H s.heap.objs.size (.tup [.int (i : Nat), x])) h2 s.heap.objs.size (.tup [.int (i : Nat), x]) :=
      ⟨by show 2 ≤ sizeLine; decide, [.int i tk, x'], .cons ⟨_, rfl⟩ (.cons ru .nil), ⟨_, hT2, rfl, _, rfl⟩⟩
    have I1 : Inv X pins σ (upd H s.heap.objs.size (.tup [.int (i : Nat), x])) { s with heap := h2, toks := tk + 1 } :=
      I.turnedNew (ch := [e, it]) (fun c o hb y => (sb.2 c (fun z => hb (by simp [z]))).trans (hk c o (fun z => hb (by simp [z])) (fun z => hb (by simp [z])) y)) hf (Nat.le_refl _) new
    refine ⟨.ref s.heap.objs.size, _, I1, rfl, ⟨_, x, rfl, I.hok.fresh (Nat.le_refl _), rfl, fun l' hl' => by rw [I.tuple_inj hl' hq]; exact hx⟩, ⟨⟨x', ?_⟩, st'.1.at fun o y => (sb.2 it (Ne.symm n1)).trans y, n1, n2, n3⟩, fun c hcm => ?_⟩
    · rw [show ((i + 1 : Nat) : Int) = (i : Int) + 1 by omega]
      exact he2
    · have lc : c < s.heap.objs.size := by
        have z : c = e ∨ c = it := by simpa using hcm
        rcases z with z | z
        · subst z; exact el
        · subst z; exact il
      rw [upd_ne (Nat.ne_of_lt lc)]
      exact (hf c hcm).1
  done := by
    intro X hP hw hK hc i pins s σ H E I hf st hg
    subst hP hw hK
    obtain ⟨⟨old, he⟩, hit, n1, n2, n3⟩ := st
    obtain ⟨l, hq, hx⟩ := hg
    obtain ⟨its, rv, p, _⟩ := I.tuple hq
    obtain ⟨f0, f1, f2, f3, f4, f5⟩ := hf it (by simp)
    have hl := rv.length
    exact next_enumT_end (I.ok.hd hc) he hit p (by simp; omega) fun h' eb => ⟨rfl, I.turned (t' := s.toks) (fun b o hb y => eb b o hb y) f0 f1 f3 f4 f5⟩
  self := fun A i s Q E st h => let ⟨⟨_, he⟩, _⟩ := st; wpAny_pyIter_enum he h
def iEnumA (K : PySem.W.Frag) (ta : TA) : TI := fun σ H R => ta σ H fun vs H1 => ∃ a l, vs = [.ref a] ∧ ((SqL K H1 a l ∧ R (Ite K a) H1) ∨ (SqT K H1 a l ∧ R (IteT K a) H1))
theorem pi_enumA {X : Cx} {e : Expr} {ta : TA} {p pos tpos : Pos} {elts : List Expr} {kk : Nat} (hg : Gl X "enumerate") (hm : X.mg "enumerate" = none) (ha : PA X [e] ta) (hs : starEach [e] X.env = [(false, eval e X.env)]) :
    PI X (.Tuple elts kk tpos) (.Call (.Name "enumerate" p) [e] [] pos) (iEnumA X.K ta) := by
  refine ⟨fun pins s σ H R I h => Call_ (ld_blt I hg hm boot_enumerate (PyProof.Rows.callWith_type1 (thn (ha.run pos pins s σ H _ I h) fun us s1 ⟨vs, H1, I1, r1, q1⟩ => ?_) hs rfl))⟩
  obtain ⟨a, l, ex, q1⟩ := q1
  subst ex
  cases r1 with
  | cons r rr =>
    cases rr
    cases r
    have fresh : ∀ b, b ∈ [s1.heap.objs.size + 1, s1.heap.objs.size] → FpOk X pins H1 b := fun b hb => by
      have z : b = s1.heap.objs.size + 1 ∨ b = s1.heap.objs.size := by simpa using hb
      have le : s1.heap.objs.size ≤ b := by omega
      exact I1.fpOk le (I1.hok.fresh le)
    rcases q1 with ⟨hq, q⟩ | ⟨hq, q⟩
    · obtain ⟨its, rv, p', _⟩ := I1.list hq
      exact call_enumerate_list p'.isList fun h' he hi _ hk => wpAny_pyIter_enum he ⟨s1.heap.objs.size + 1, [s1.heap.objs.size + 1, s1.heap.objs.size], _, _, H1, rfl, I1.kept (t' := s1.toks) hk, turn_enum a (s1.heap.objs.size + 1) s1.heap.objs.size, ⟨⟨.none, he⟩, hi, Nat.succ_ne_self _⟩, fresh, q⟩
    · obtain ⟨its, rv, p', _⟩ := I1.tuple hq
      have la : a < s1.heap.objs.size := by obtain ⟨o, ho, _⟩ := id p'; exact Heap.lt_size ho
      exact call_enumT p' fun h' he hi hk => wpAny_pyIter_enum he ⟨s1.heap.objs.size + 1, [s1.heap.objs.size + 1, s1.heap.objs.size], _, _, H1, rfl, I1.kept (t' := s1.toks) hk, turn_enumT a (s1.heap.objs.size + 1) s1.heap.objs.size, ⟨⟨.none, he⟩, hi, Nat.succ_ne_self _, Nat.ne_of_gt (Nat.lt_succ_of_lt la), Nat.ne_of_lt la⟩, fresh, q⟩

/-! ### zip over two lists, tuples, or one of each -/
def SqX (K : PySem.W.Frag) (H : Hp) (a : Addr) (l : List V) : Bool → Prop
  | true => SqL K H a l
  | false => SqT K H a l
def IterX (h : Heap) (it a : Addr) (i : Nat) : Bool → Prop
  | true => h.IsListIter it a i
  | false => h.IsTupleIter it a i
def SeqX (h : Heap) (a : Addr) (items : Array Value) : Bool → Prop
  | true => h.IsList a items
  | false => h.IsTuple a items
def obX (a : Addr) : Bool → Obj
  | true => { cls := .type "list_iterator", data := .fields #[.ref a, .int 0 0] }
  | false => tuO a
theorem drawsX {q : Program} {w : World} {A : Around} (hn : A.handled = none) (it a : Addr) (ne : a ≠ it) (items : Array Value) : ∀ k : Bool, Draws q w A it [it, a] items.size (fun i v => items[i]? = some v) fun i h => IterX h it a i k ∧ SeqX h a items k
  | true => Draws.list hn it a ne items
  | false => Draws.tuple hn it a ne items
theorem beginsX (a : Addr) (items : Array Value) : ∀ k : Bool, Begins (.ref a) (obX a k) fun h => SeqX h a items k
  | true => begins_list a items
  | false => begins_tuple a items
theorem IterX.at_ {h h' : Heap} {it a : Addr} {i : Nat} : ∀ {k : Bool}, IterX h it a i k → (∀ o, h.get? it = some o → h'.get? it = some o) → IterX h' it a i k
  | true, x, y => Heap.IsListIter.at x y
  | false, x, y => Heap.IsTupleIter.at x y
theorem IterX.ob {h : Heap} {it a : Addr} {i : Nat} {k : Bool} (x : IterX h it a i k) : ∃ o, h.get? it = some o ∧ ∀ v, o.data ≠ .cell v := by
  cases k with
  | true => obtain ⟨o, e, _, d⟩ := x; exact ⟨o, e, fun v y => by rw [d] at y; cases y⟩
  | false => obtain ⟨o, e, _, d⟩ := x; exact ⟨o, e, fun v y => by rw [d] at y; cases y⟩
theorem iterX0 {h : Heap} {it a : Addr} : ∀ {k : Bool}, h.get? it = some (obX a k) → IterX h it a 0 k
  | true, e => ⟨_, e, rfl, rfl⟩
  | false, e => ⟨_, e, rfl, rfl⟩
def ItzM (K : PySem.W.Frag) (k1 k2 : Bool) (a b : Addr) : It where
  go := fun i H => ∃ (l m : List V) (x y : V), SqX K H a l k1 ∧ SqX K H b m k2 ∧ l[i]? = some x ∧ m[i]? = some y
  yld := fun i H v H' => ∃ T x y, v = .ref T ∧ H T = none ∧ H' = upd H T (.tup [x, y]) ∧ (∀ l, SqX K H a l k1 → l[i]? = some x) ∧ ∀ m, SqX K H b m k2 → m[i]? = some y
  stop := fun i H => ∃ l m : List V, SqX K H a l k1 ∧ SqX K H b m k2 ∧ i ≤ l.length ∧ i ≤ m.length ∧ (i = l.length ∨ i = m.length)
theorem inv_seqX {X : Cx} {pins : List (Addr × Obj)} {σ : L2.St} {H : Hp} {s : Shared} (I : Inv X pins σ H s) {a : Addr} {l : List V} : ∀ {k : Bool}, SqX X.K H a l k → ∃ its, Vals l its ∧ SeqX s.heap a its.toArray k ∧ a < s.heap.objs.size
  | true, h => by
    obtain ⟨its, rv, p, _⟩ := I.list h
    exact ⟨its, rv, p.isList, p.lt⟩
  | false, h => by
    obtain ⟨its, rv, p, _⟩ := I.tuple h
    obtain ⟨o, ho, _⟩ := id p
    exact ⟨its, rv, p, Heap.lt_size ho⟩
theorem inv_injX {X : Cx} {pins : List (Addr × Obj)} {σ : L2.St} {H : Hp} {s : Shared} (I : Inv X pins σ H s) {a : Addr} {l m : List V} : ∀ {k : Bool}, SqX X.K H a l k → SqX X.K H a m k → l = m
  | true, h, h2 => I.list_inj h h2
  | false, h, h2 => I.tuple_inj h h2
theorem turn_zipM {P : Program} {w : World} {K : PySem.W.Frag} {k1 k2 : Bool} {elts : List Expr} {kk : Nat} {tpos : Pos} {a b z TI TO i1 i2 : Addr} (S : ZipSep2 z TI TO i1 i2 [i1, a] [i2, b]) (n1 : a ≠ i1) (n2 : b ≠ i2) :
    Turn P w K (.Tuple elts kk tpos) (ItzM K k1 k2 a b) [z, TI, TO, i1, i2] z (fun i h => IsZip h z TI TO .none ∧ IsTupOf2 h TI (.ref i1) (.ref i2) ∧ (∃ x y, IsTupOf2 h TO x y) ∧ IterX h i1 a i k1 ∧ IterX h i2 b i k2) where
  mem := by simp
  obj := fun i h st c hc => by
    obtain ⟨hz, hI, ⟨x, y, hO⟩, h1, h2⟩ := st
    have e' : c = z ∨ c = TI ∨ c = TO ∨ c = i1 ∨ c = i2 := by simpa using hc
    rcases e' with q | q | q | q | q
    · subst q; exact ⟨_, hz, fun v y => nomatch y⟩
    · subst q; exact ⟨_, hI, fun v y => nomatch y⟩
    · subst q; exact ⟨_, hO, fun v y => nomatch y⟩
    · subst q; exact h1.ob
    · subst q; exact h2.ob
  keep := fun i h h' st k => by
    obtain ⟨hz, hI, ⟨x, y, hO⟩, h1, h2⟩ := st
    exact ⟨k z (by simp) _ hz, k TI (by simp) _ hI, ⟨x, y, k TO (by simp) _ hO⟩, h1.at_ fun o e => k i1 (by simp) o e, h2.at_ fun o e => k i2 (by simp) o e⟩
  item := by
    intro X hP hw hK hc i pins s σ H E I hf st hg
    subst hP hw hK
    obtain ⟨hz, hI, ⟨x0, y0, hO⟩, h1, h2⟩ := st
    obtain ⟨l, m, x, y, hq1, hq2, hx, hy⟩ := hg
    obtain ⟨its1, rv1, p1, _⟩ := inv_seqX I hq1
    obtain ⟨its2, rv2, p2, _⟩ := inv_seqX I hq2
    obtain ⟨u1, hu1, ru1⟩ := rv1.get hx
    obtain ⟨u2, hu2, ru2⟩ := rv2.get hy
    have zl : z < s.heap.objs.size := Heap.lt_size hz
    have lt1 : i < its1.toArray.size := by have := (List.getElem?_eq_some_iff.mp hu1).1; simpa using this
    have lt2 : i < its2.toArray.size := by have := (List.getElem?_eq_some_iff.mp hu2).1; simpa using this
    have hn : X.A.in1.handled = none := I.ok.hd hc
    refine wpAny_pyNext_zipD2_item S (drawsX (q := X.prog) (w := X.w) hn i1 a n1 its1.toArray k1) (drawsX (q := X.prog) (w := X.w) hn i2 b n2 its2.toArray k2) hz hI hO ⟨h1, p1⟩ ⟨h2, p2⟩ lt1 lt2 fun v1 v2 h' tk e1 e2 z' O' s1' s2' hT _ hk => ?_
    obtain rfl : v1 = u1 := by
      have e1 : its1[i]? = some v1 := by simpa using e1
      rw [hu1] at e1
      exact (Option.some.inj e1).symm
    obtain rfl : v2 = u2 := by
      have e2 : its2[i]? = some v2 := by simpa using e2
      rw [hu2] at e2
      exact (Option.some.inj e2).symm
    refine ⟨_, rfl, wpAny_letOwnedTupleGo_zip (s := { s with heap := h', toks := tk }) z' fun g z2 sb => ?_⟩
    have hT2 := (sb.2 _ (Nat.ne_of_gt zl)).trans hT
    have new : ObjOk X.prog X.w (upd H s.heap.objs.size (.tup [x, y])) g s.heap.objs.size (.tup [x, y]) := ⟨by show 2 ≤ sizeLine; decide, [v1, v2], .cons ru1 (.cons ru2 .nil), ⟨_, hT2, rfl, _, rfl⟩⟩
    have I1 : Inv X pins σ (upd H s.heap.objs.size (.tup [x, y])) { s with heap := g, toks := tk } :=
      I.turnedNew (ch := [z, TI, TO, i1, i2]) (fun c o nb e => (sb.2 c (fun q => nb (by simp [q]))).trans (hk c o (fun q => nb (by simp [q])) (fun q => nb (by simp [q])) (fun q => nb (by simp [q])) (fun q => nb (by simp [q])) e)) hf (Nat.le_refl _) new
    have z1 : i1 ≠ z := fun q => S.zf1 (by rw [← q]; simp)
    have z3 : i2 ≠ z := fun q => S.zf2 (by rw [← q]; simp)
    refine ⟨.ref s.heap.objs.size, _, I1, rfl, ⟨_, x, y, rfl, I.hok.fresh (Nat.le_refl _), rfl, fun l' hl => by rw [inv_injX I hl hq1]; exact hx, fun l' hl => by rw [inv_injX I hl hq2]; exact hy⟩,
      ⟨z2, (sb.2 _ S.TIz).trans (hk _ _ S.TIz S.TITO S.TIi1 S.TIi2 hI), ⟨v1, v2, (sb.2 _ S.TOz).trans O'⟩, s1'.1.at_ fun o e => (sb.2 _ z1).trans e, s2'.1.at_ fun o e => (sb.2 _ z3).trans e⟩, fun c hcm => ?_⟩
    have lc : c < s.heap.objs.size := by
      have e' : c = z ∨ c = TI ∨ c = TO ∨ c = i1 ∨ c = i2 := by simpa using hcm
      rcases e' with q | q | q | q | q
      · subst q; exact zl
      · subst q; exact Heap.lt_size hI
      · subst q; exact Heap.lt_size hO
      · subst q; obtain ⟨_, e, _⟩ := h1.ob; exact Heap.lt_size e
      · subst q; obtain ⟨_, e, _⟩ := h2.ob; exact Heap.lt_size e
    rw [upd_ne (Nat.ne_of_lt lc)]
    exact (hf c hcm).1
  done := by
    intro X hP hw hK hc i pins s σ H E I hf st hg
    subst hP hw hK
    obtain ⟨hz, hI, ⟨x0, y0, hO⟩, h1, h2⟩ := st
    obtain ⟨l, m, hq1, hq2, le1, le2, hend⟩ := hg
    obtain ⟨its1, rv1, p1, _⟩ := inv_seqX I hq1
    obtain ⟨its2, rv2, p2, _⟩ := inv_seqX I hq2
    have l1 := rv1.length
    have l2 := rv2.length
    have hn : X.A.in1.handled = none := I.ok.hd hc
    exact wpAny_pyNext_zipD2_end S (drawsX (q := X.prog) (w := X.w) hn i1 a n1 its1.toArray k1) (drawsX (q := X.prog) (w := X.w) hn i2 b n2 its2.toArray k2) hz hI hO ⟨h1, p1⟩ ⟨h2, p2⟩ (by simp; omega) (by simp; omega) (by simp; omega) fun h' tk hk =>
      ⟨rfl, I.turnedL (t' := tk) (ch := [z, TI, TO, i1, i2]) (fun c o nb e => hk c o (fun q => nb (by simp [q])) (fun q => nb (by simp [q])) (fun q => nb (by simp [q])) (fun q => nb (by simp [q])) e) hf⟩
  self := fun A i s Q E st h => wpAny_pyIter_zip st.1 h
def iZipM (K : PySem.W.Frag) (ta : TA) : TI := fun σ H R => ta σ H fun vs H1 => ∃ (k1 k2 : Bool) (a b : Addr) (l m : List V), vs = [.ref a, .ref b] ∧ SqX K H1 a l k1 ∧ SqX K H1 b m k2 ∧ R (ItzM K k1 k2 a b) H1
theorem sepM {N a b : Nat} (ha : a < N) (hb : b < N) : ZipSep2 (N + 4) (N + 2) (N + 3) N (N + 1) [N, a] [N + 1, b] := zip_sep2 (fp1 := [a]) (fp2 := [b]) (fun c h => by rw [List.mem_singleton.mp h]; exact ha) (fun c h => by rw [List.mem_singleton.mp h]; exact hb)
theorem pi_zipM {X : Cx} {e e2 : Expr} {ta : TA} {p pos tpos : Pos} {elts : List Expr} {kk : Nat} (hg : Gl X "zip") (hm : X.mg "zip" = none) (ha : PA X [e, e2] ta)
    (hs : starEach [e, e2] X.env = (false, eval e X.env) :: starEach [e2] X.env) (hpl : (backTo pos (starEach [e2] X.env)).any (·.1) = false) : PI X (.Tuple elts kk tpos) (.Call (.Name "zip" p) [e, e2] [] pos) (iZipM X.K ta) := by
  refine ⟨fun pins s σ H R I h => Call_ (ld_blt I hg hm PyProof.Rows.boot_zip (PyProof.Rows.callWith_type1 (thn (ha.run pos pins s σ H _ I h) fun us s1 ⟨vs, H1, I1, r1, q1⟩ => ?_) hs hpl))⟩
  obtain ⟨k1, k2, a, b, l, m, ex, hq1, hq2, q⟩ := q1
  subst ex
  cases r1 with
  | cons r rr =>
    cases rr with
    | cons r' rr =>
      cases rr
      cases r
      cases r'
      obtain ⟨its1, rv1, p1, la⟩ := inv_seqX I1 hq1
      obtain ⟨its2, rv2, p2, lb⟩ := inv_seqX I1 hq2
      refine zip_begins2 (beginsX a its1.toArray k1) (beginsX b its2.toArray k2) p1 p2 fun h' hz hI hO o1 o2 _ hk => wpAny_pyIter_zip hz ?_
      refine ⟨s1.heap.objs.size + 4, [s1.heap.objs.size + 4, s1.heap.objs.size + 2, s1.heap.objs.size + 3, s1.heap.objs.size, s1.heap.objs.size + 1], _, _, H1, rfl, I1.kept (t' := s1.toks) hk, turn_zipM (sepM la lb) (Nat.ne_of_lt la) (Nat.ne_of_lt (Nat.lt_succ_of_lt lb)), ⟨hz, hI, ⟨_, _, hO⟩, iterX0 o1, iterX0 o2⟩, fun c hcm => ?_, q⟩
      have z : c = s1.heap.objs.size + 4 ∨ c = s1.heap.objs.size + 2 ∨ c = s1.heap.objs.size + 3 ∨ c = s1.heap.objs.size ∨ c = s1.heap.objs.size + 1 := by simpa using hcm
      have le : s1.heap.objs.size ≤ c := by
        rcases z with z | z | z | z | z <;> rw [z] <;> first | exact Nat.le_add_right _ _ | exact Nat.le_refl _
      exact I1.fpOk le (I1.hok.fresh le)

/-! ### what a loop walks -/
def Lay (H H' : Hp) : Prop := H' = H ∨ ∃ a vs, H a = none ∧ H' = upd H a (.tup vs)
/-- at every later state the iterator yields the items in their order -/
def Feed (T : Tc) (J : It) (l : List D) (σ : Sg) (H : Hp) (ρ : Env') (W : AS) : Prop :=
  ∀ σ2 H2 ρ2 W2, Rel T σ2 H2 ρ2 W2 → Step σ H ρ W σ2 H2 ρ2 W2 →
    (∀ (i : Nat) (d : D), l[i]? = some d → J.go i H2 ∧ ∀ x H3, J.yld i H2 x H3 → Lay H2 H3 ∧ RepD T.K H3 W2 x d) ∧ J.stop l.length H2
def tI (X : Cx) (T : Tc) (F : Fn) (Z : WX) (it : Ie) : TI := fun σ H R => ∃ ρ W, Rel T σ H ρ W ∧ Post X Z (evi F it ρ) σ H ρ fun lp ρ' => ∀ J H' W', Go T σ H ρ W H' ρ' W' → Feed T J lp.1 σ H' (lockP lp.2 ρ').2 W' → R J H'

section
variable {X : Cx} {Z : WX} {T : Tc} {F : Fn} {σ : Sg} {H H0 H1 H2 H' : Hp} {ρ ρ1 ρ2 ρ' : Env'} {W W1 W2 W' : AS} {K : PySem.W.Frag} {ds : List D}
theorem lock_own {p : P} {i : Nat} {a : Addr} (h : OwnU σ (lockP p ρ).2 i a) : OwnU σ ρ i a ∧ ∀ j b d, p = .at_ j → ρ[j]? = some (some (.own b d)) → i ≠ j := by
  unfold lockP at h
  split at h
  · rename_i k
    split at h
    · rename_i b d e
      obtain ⟨⟨c, x, h1⟩, h2⟩ := h
      rcases getq_set h1 with ⟨rfl, z, _⟩ | ⟨ne, z⟩
      · cases z
      · exact ⟨⟨⟨c, x, z⟩, h2⟩, fun j b d e1 _ e2 => by cases e1; exact ne e2.symm⟩
    · rename_i n
      exact ⟨h, fun j b d e1 e2 _ => by cases e1; exact n b d e2⟩
  · rename_i n
    exact ⟨h, fun j b d e1 e2 _ => n j e1⟩
theorem lock_go (R : Rel T σ H ρ W) (p : P) : Go T σ H ρ W H (lockP p ρ).2 W := by
  unfold lockP
  split
  · rename_i i
    split
    · rename_i b d e
      have hi : i < ρ.length := (List.getElem?_eq_some_iff.mp e).1
      have mon : Mon σ ρ (ρ.set i (some (.lck b d))) := fun j x ⟨h1, h2⟩ => by
        rcases h1 with ⟨c, z, h1⟩ | ⟨c, z, h1⟩
        · rcases getq_set h1 with ⟨rfl, k, _⟩ | ⟨_, k⟩
          · cases k
          · exact ⟨.inl ⟨c, z, k⟩, h2⟩
        · rcases getq_set h1 with ⟨rfl, k, _⟩ | ⟨_, k⟩
          · exact ⟨.inl ⟨b, d, e⟩, h2⟩
          · exact ⟨.inr ⟨c, z, k⟩, h2⟩
      refine ⟨⟨by simpa using R.len, fun j s h => ?_, fun j k x h1 h2 => R.sep j k x (mon j x h1) (mon k x h2), R.wl, fun j z x h1 h2 => ?_, R.fzk, fun j x h => ?_⟩, fun x o h n => ⟨h, fun j z => n j ?_, Iff.rfl⟩, mon, fun _ h => h, Lk.set fun b' d' z => by rw [e] at z; cases z⟩
      · rcases getq_set h with ⟨rfl, k, _⟩ | ⟨ne, k⟩
        · cases k
          obtain ⟨o, e1, q⟩ := R.at_ i _ e
          exact ⟨o, e1, q⟩
        · exact R.at_ j s k
      · rcases h1 with h1 | h1
        · rcases getq_set h1 with ⟨rfl, k, _⟩ | ⟨_, k⟩
          · cases k
          · exact R.fr j z x (.inl k) h2
        · rcases getq_set h1 with ⟨rfl, k, _⟩ | ⟨_, k⟩
          · cases k; exact R.fr i d x (.inl e) h2
          · exact R.fr j z x (.inr k) h2
      · obtain ⟨h1, s, h2, h3⟩ := R.bor j x h
        refine ⟨h1, ?_⟩
        by_cases ej : i = j
        · subst ej
          refine ⟨.lck b d, by rw [List.getElem?_set_self hi], ?_⟩
          rw [e] at h2; cases h2
          cases b with
          | true => trivial
          | false => exact h3.elim
        · exact ⟨s, by rw [List.getElem?_set_ne ej]; exact h2, h3⟩
      · obtain ⟨⟨c, y, h1⟩, h2⟩ := z
        rcases getq_set h1 with ⟨rfl, k, _⟩ | ⟨_, k⟩
        · cases k
        · exact ⟨⟨c, y, k⟩, h2⟩
    · exact Go.refl R
  · exact Go.refl R
/-- an object that nobody may change now -/
theorem still_list {a : Addr} {o : HO} (hx : H a = some o) (n : ∀ i, ¬ OwnU σ ρ i a) (s : Step σ H ρ W σ' H2 ρ2 W2) : H2 a = some o := (s a o hx n).1
theorem feed_list (R : Rel T σ H ρ W) {a : Addr} {vs : List V} {l : List D} (hx : H a = some (.lst vs)) (n : ∀ i, ¬ OwnU σ ρ i a) (r : RepDs T.K H W vs l) : Feed T (Itl T.K a) l σ H ρ W := fun σ2 H2 ρ2 W2 R2 s => by
  have e := still_list hx n s
  have r2 := r.adv R.wl (s.adv R)
  refine ⟨fun i d h => ?_, ⟨vs, .of e, by rw [r.length]; exact Nat.le_refl _⟩⟩
  obtain ⟨v, hv, q⟩ := r2.get h
  refine ⟨⟨vs, v, .of e, hv⟩, fun x H3 y => ?_⟩
  obtain ⟨rfl, y⟩ := y
  have := y vs (.of e)
  rw [hv] at this; cases this
  exact ⟨.inl rfl, q⟩
theorem feed_tup (R : Rel T σ H ρ W) {a : Addr} {vs : List V} {l : List D} (hx : TupL T.K H a vs) (r : RepDs T.K H W vs l) : Feed T (Itt T.K a) l σ H ρ W := fun σ2 H2 ρ2 W2 R2 s => by
  have e := (hx.adv R.wl (s.adv R)).sq
  have r2 := r.adv R.wl (s.adv R)
  refine ⟨fun i d h => ?_, ⟨vs, e, by rw [r.length]; exact Nat.le_refl _⟩⟩
  obtain ⟨v, hv, q⟩ := r2.get h
  refine ⟨⟨vs, v, e, hv⟩, fun x H3 y => ?_⟩
  obtain ⟨rfl, y⟩ := y
  have := y vs e
  rw [hv] at this; cases this
  exact ⟨.inl rfl, q⟩
theorem feed_scr (R : Rel T σ H ρ W) {a : Addr} {l : List Int} (hx : ScrL T.K H W a (l.map V.int)) : Feed T (Itl T.K a) (l.map .int) σ H ρ W := fun σ2 H2 ρ2 W2 R2 s => by
  have e := (hx.adv R.wl (s.adv R)).sq
  refine ⟨fun i d h => ?_, ⟨_, e, by simp⟩⟩
  rw [List.getElem?_map] at h
  cases z : l[i]? with
  | none => rw [z] at h; cases h
  | some k =>
    rw [z] at h; cases h
    refine ⟨⟨_, .int k, e, by rw [List.getElem?_map, z]; rfl⟩, fun x H3 y => ?_⟩
    obtain ⟨rfl, y⟩ := y
    have := y _ e
    rw [List.getElem?_map, z] at this; cases this
    exact ⟨.inl rfl, rfl⟩
theorem feed_str {x : Str} : Feed T (Its x) (x.cps.toList.map fun c => .str (chr1 c)) σ H ρ W := fun σ2 H2 ρ2 W2 R2 s => by
  refine ⟨fun i d h => ?_, ?_⟩
  · rw [List.getElem?_map] at h
    cases z : x.cps.toList[i]? with
    | none => rw [z] at h; cases h
    | some c =>
      rw [z] at h; cases h
      rw [Array.getElem?_toList] at z
      refine ⟨(Array.getElem?_eq_some_iff.mp z).1, fun v H3 y => ?_⟩
      obtain ⟨rfl, c2, e, rfl⟩ := y
      rw [z] at e; cases e
      exact ⟨.inl rfl, rfl⟩
  · show x.cps.size ≤ _
    simp
theorem feed_rng {lo : Int} {n : Nat} : Feed T (Itr lo n) (rng lo n) σ H ρ W := fun σ2 H2 ρ2 W2 R2 s => by
  refine ⟨fun i d h => ?_, ?_⟩
  · unfold rng at h
    rw [List.getElem?_map] at h
    by_cases hi : i < n
    · rw [List.getElem?_range hi] at h
      cases h
      refine ⟨hi, fun v H3 y => ?_⟩
      obtain ⟨rfl, rfl⟩ := y
      exact ⟨.inl rfl, rfl⟩
    · rw [List.getElem?_eq_none (by simpa using hi)] at h
      cases h
  · show n ≤ (rng lo n).length
    simp [rng]
/-- the object of a handed list is changed by nobody, once it is locked -/
theorem locked {p : P} {v : V} {l : List D} (R : Rel T σ H ρ W) (h : RepP T σ H ρ W v p) (e : peek p ρ = some (.lst l)) : ∃ a vs, v = .ref a ∧ H a = some (.lst vs) ∧ RepDs T.K H W vs l ∧ ∀ i, ¬ OwnU σ (lockP p ρ).2 i a := by
  obtain ⟨a, vs, rfl, ha, r⟩ := (peek_ok R h e).lst
  refine ⟨a, vs, rfl, ha, r, fun i z => ?_⟩
  obtain ⟨z1, z2⟩ := lock_own z
  cases p with
  | val d =>
    cases e
    obtain ⟨b, us, eb, _, nw, _⟩ := h
    cases eb
    exact nw (R.ownA z1.a).1
  | own d =>
    obtain ⟨b, o, eb, _, _, no, _⟩ := h
    cases eb
    exact no i z1.a
  | at_ j =>
    have h : σ[j]? = some (some (.ref a)) := h
    have nw : ∀ d : D, d = .lst l → (∃ o, σ[j]? = some o ∧ ∃ v, o = some v ∧ RepD T.K H W v d) → False := fun d ed ⟨o, e1, v, e2, q⟩ => by
      subst ed
      rw [h] at e1; cases e1; cases e2
      obtain ⟨b, us, eb, _, nw, _⟩ := q
      cases eb
      exact nw (R.ownA z1.a).1
    simp only [peek] at e
    split at e
    · rename_i d es; cases e
      exact nw _ rfl (R.at_ j _ es)
    · rename_i b d es; cases e
      exact z2 j b _ rfl es (R.sep _ _ _ z1.a ⟨.inl ⟨b, _, es⟩, h⟩)
    · rename_i b d es; cases e
      have := R.sep _ _ _ z1.a ⟨.inr ⟨b, _, es⟩, h⟩
      subst this
      obtain ⟨⟨c, d, z3⟩, _⟩ := z1
      rw [es] at z3; cases z3
    · rename_i d es; cases e
      exact nw _ rfl (R.at_ j _ es)
    · cases e
theorem peek_val {p : P} {v : V} {d : D} (R : Rel T σ H ρ W) (h : RepP T σ H ρ W v p) (e : peek p ρ = some d) (n : ∀ o, ¬ RepO T.K H W o d) : RepD T.K H W v d := by
  rcases peek_ok R h e with ⟨a, o, _, _, q⟩ | q
  · exact (n o q).elim
  · exact q
/-- for .. in e -/
theorem s_seq (tk : T.K = X.K) {e : Ex} {e' tg : Expr} (he : PE X e' (tE X T F Z e)) : PI X tg e' (tI X T F Z (.seq e)) := by
  refine ⟨fun pins s σ H R I q => ?_⟩
  obtain ⟨ρ, W, Rl, h⟩ := q
  have h := Post.bind h
  cases e0 : ev F e ρ with
  | bad => rw [e0] at h; exact h.elim
  | err x => exact (pi_list (tg := tg) he).run pins s σ H R I ⟨ρ, W, Rl, by rw [e0] at h ⊢; exact h⟩
  | ok r =>
    obtain ⟨p, ρ1⟩ := r
    rw [e0] at h
    have h : Post X Z ((pk p ρ1).bind fun x => (items x).bind fun l => .ok ((l, p), ρ1)) σ H ρ fun lp ρ' => ∀ J H' W', Go T σ H ρ W H' ρ' W' → Feed T J lp.1 σ H' (lockP lp.2 ρ').2 W' → R J H' := h
    obtain ⟨d, e1, h⟩ := Post.val .pk h
    obtain ⟨l, e2, h⟩ := Post.val .items h
    have e1 := pk_of e1
    cases d with
    | tup l =>
      cases e2
      refine (pi_tup (tg := tg) he).run pins s σ H R I ⟨ρ, W, Rl, ?_⟩
      rw [e0]
      intro v H1 W1 o
      obtain ⟨a, vs, rfl, t, r⟩ := peek_val o.go.rel o.rep e1 fun _ z => z
      refine ⟨a, rfl, ⟨vs, by rw [← tk]; exact t.sq⟩, ?_⟩
      have g := lock_go o.go.rel p
      rw [← tk]
      exact h _ _ _ o.go (feed_tup g.rel (t.adv o.go.rel.wl (g.step.adv o.go.rel)) (RepDs.adv o.go.rel.wl (g.step.adv o.go.rel) r))
    | str x =>
      cases e2
      refine (pi_str (tg := tg) he).run pins s σ H R I ⟨ρ, W, Rl, ?_⟩
      rw [e0]
      intro v H1 W1 o
      have ev1 : v = .str x := peek_val o.go.rel o.rep e1 fun _ z => z
      exact ⟨x, ev1, h _ _ _ o.go feed_str⟩
    | lst l =>
      cases e2
      refine (pi_list (tg := tg) he).run pins s σ H R I ⟨ρ, W, Rl, ?_⟩
      rw [e0]
      intro v H1 W1 o
      obtain ⟨a, vs, rfl, ha, r, n⟩ := locked o.go.rel o.rep e1
      have g := lock_go o.go.rel p
      refine ⟨a, rfl, ⟨vs, .of ha⟩, ?_⟩
      rw [← tk]
      exact h _ _ _ o.go (feed_list g.rel ha n (r.adv o.go.rel.wl (g.step.adv o.go.rel)))
    | scr l =>
      cases e2
      refine (pi_list (tg := tg) he).run pins s σ H R I ⟨ρ, W, Rl, ?_⟩
      rw [e0]
      intro v H1 W1 o
      obtain ⟨a, rfl, t⟩ := peek_val o.go.rel o.rep e1 fun _ z => z
      have g := lock_go o.go.rel p
      refine ⟨a, rfl, ⟨_, by rw [← tk]; exact t.sq⟩, ?_⟩
      rw [← tk]
      exact h _ _ _ o.go (feed_scr g.rel (t.adv o.go.rel.wl (g.step.adv o.go.rel)))
    | _ => cases e2
/-- for .. in range(a) -/
theorem s_rng {a : Ex} {a' tg : Expr} {p pos : Pos} (hg : Gl X "range") (hm : X.mg "range" = none) (hs : starEach [a'] X.env = [(false, eval a' X.env)]) (ha : PE X a' (tE X T F Z a)) : PI X tg (.Call (.Name "range" p) [a'] [] pos) (tI X T F Z (.rng a)) := by
  refine ⟨fun pins s σ H R I q => ?_⟩
  refine (pi_range1 (tg := tg) hg hm (pa_cons ha pa_nil hs) hs).run pins s σ H R I ?_
  obtain ⟨ρ, W, Rl, h⟩ := q
  refine ⟨ρ, W, Rl, (Post.bind h).imp fun p ρ1 h v H1 W1 o => ?_⟩
  dsimp only at h
  split at h
  · rename_i j
    obtain ⟨⟨c1, c2⟩, h⟩ := Post.need h
    have e : v = .int j := o.rep
    exact ⟨j, by rw [e], c1, c2, h _ _ _ o.go feed_rng⟩
  · exact h.elim
theorem s_rng2 {a b : Ex} {a' b' tg : Expr} {p pos : Pos} (hg : Gl X "range") (hm : X.mg "range" = none) (hs : starEach [a', b'] X.env = [(false, eval a' X.env), (false, eval b' X.env)]) (hs2 : starEach [b'] X.env = [(false, eval b' X.env)])
    (ha : PE X a' (tE X T F Z a)) (hb : PE X b' (tE X T F Z b)) : PI X tg (.Call (.Name "range" p) [a', b'] [] pos) (tI X T F Z (.rng2 a b)) := by
  refine ⟨fun pins s σ H R I q => ?_⟩
  refine (pi_range2 (tg := tg) hg hm (pa_cons ha (pa_cons hb pa_nil hs2) (by rw [hs, hs2])) hs hs2).run pins s σ H R I ?_
  obtain ⟨ρ, W, Rl, h⟩ := q
  refine ⟨ρ, W, Rl, (Post.bind h).imp fun p ρ1 h v H1 W1 o => ⟨ρ1, W1, o.go.rel, ((Post.bind h).move o.go.step).imp fun p2 ρ2 h v2 H2 W2 o2 => ?_⟩⟩
  cases p with
  | val d =>
    cases d with
    | int i =>
      cases p2 with
      | val d2 =>
        cases d2 with
        | int j =>
          obtain ⟨⟨⟨c1, c2⟩, c3, c4⟩, h⟩ := Post.need h
          have e : v = .int i := o.rep
          have e2 : v2 = .int j := o2.rep
          exact ⟨i, j, by rw [e, e2], ⟨c1, c2, c3, c4⟩, h _ _ _ (o.go.trans o2.go) feed_rng⟩
        | _ => exact h.elim
      | _ => exact h.elim
    | _ => exact h.elim
  | _ => exact h.elim
theorem lay_rep (wl : WL H W) {a : Addr} {vs : List V} {l : List D} (n : H a = none) (r : RepDs K H W vs l) : RepD K (upd H a (.tup vs)) W (.ref a) (.tup l) := ⟨a, vs, rfl, .of upd_same, r.adv wl (adv_new n)⟩
theorem enmD_get {l : List D} {i : Nat} {d : D} (h : (enmD l)[i]? = some d) : ∃ c, l[i]? = some c ∧ d = .tup [.int (i : Nat), c] := by
  unfold enmD at h
  rw [List.getElem?_map] at h
  cases z : ((List.range l.length).zip l)[i]? with
  | none => rw [z] at h; cases h
  | some q =>
    rw [z] at h; cases h
    rw [List.getElem?_zip_eq_some] at z
    obtain ⟨z1, z2⟩ := z
    have hi := (List.getElem?_eq_some_iff.mp z2).1
    rw [List.getElem?_range hi] at z1
    exact ⟨q.2, z2, by show D.tup [.int ((q.1 : Nat) : Int), q.2] = _; rw [← Option.some.inj z1]⟩
theorem enmD_len (l : List D) : (enmD l).length = l.length := by simp [enmD]
theorem feed_enum (R : Rel T σ H ρ W) {a : Addr} {vs : List V} {l : List D} (hx : H a = some (.lst vs)) (n : ∀ i, ¬ OwnU σ ρ i a) (r : RepDs T.K H W vs l) : Feed T (Ite T.K a) (enmD l) σ H ρ W := fun σ2 H2 ρ2 W2 R2 s => by
  have e := still_list hx n s
  have r2 := r.adv R.wl (s.adv R)
  refine ⟨fun i d h => ?_, ⟨vs, .of e, by rw [r.length, enmD_len]; exact Nat.le_refl _⟩⟩
  obtain ⟨c, hc, rfl⟩ := enmD_get h
  obtain ⟨v, hv, q⟩ := r2.get hc
  refine ⟨⟨vs, v, .of e, hv⟩, fun x H3 y => ?_⟩
  obtain ⟨A, z, rfl, nA, rfl, y⟩ := y
  have := y vs (.of e)
  rw [hv] at this; cases this
  exact ⟨.inr ⟨A, _, nA, rfl⟩, lay_rep R2.wl nA ⟨_, _, rfl, rfl, _, _, rfl, q, rfl⟩⟩
theorem feed_enumT (R : Rel T σ H ρ W) {a : Addr} {vs : List V} {l : List D} (hx : TupL T.K H a vs) (r : RepDs T.K H W vs l) : Feed T (IteT T.K a) (enmD l) σ H ρ W := fun σ2 H2 ρ2 W2 R2 s => by
  have e := (hx.adv R.wl (s.adv R)).sq
  have r2 := r.adv R.wl (s.adv R)
  refine ⟨fun i d h => ?_, ⟨vs, e, by rw [r.length, enmD_len]; exact Nat.le_refl _⟩⟩
  obtain ⟨c, hc, rfl⟩ := enmD_get h
  obtain ⟨v, hv, q⟩ := r2.get hc
  refine ⟨⟨vs, v, e, hv⟩, fun x H3 y => ?_⟩
  obtain ⟨A, z, rfl, nA, rfl, y⟩ := y
  have := y vs e
  rw [hv] at this; cases this
  exact ⟨.inr ⟨A, _, nA, rfl⟩, lay_rep R2.wl nA ⟨_, _, rfl, rfl, _, _, rfl, q, rfl⟩⟩
theorem s_enm (tk : T.K = X.K) {e : Ex} {e' : Expr} {elts : List Expr} {kk : Nat} {p pos tpos : Pos} (hg : Gl X "enumerate") (hm : X.mg "enumerate" = none) (hs : starEach [e'] X.env = [(false, eval e' X.env)]) (he : PE X e' (tE X T F Z e)) :
    PI X (.Tuple elts kk tpos) (.Call (.Name "enumerate" p) [e'] [] pos) (tI X T F Z (.enm e)) := by
  refine ⟨fun pins s σ H R I q => ?_⟩
  refine (pi_enumA hg hm (pa_cons he pa_nil hs) hs).run pins s σ H R I ?_
  obtain ⟨ρ, W, Rl, h⟩ := q
  refine ⟨ρ, W, Rl, (Post.bind h).imp fun p ρ1 h v H1 W1 o => ?_⟩
  obtain ⟨d, e1, h⟩ := Post.val .pk h
  obtain ⟨l, e2, h⟩ := Post.val .itemsL h
  cases d with
  | lst l =>
    cases e2
    obtain ⟨a, vs, rfl, ha, r, n⟩ := locked o.go.rel o.rep (pk_of e1)
    have g := lock_go o.go.rel p
    refine ⟨a, vs, rfl, .inl ⟨.of ha, ?_⟩⟩
    rw [← tk]
    exact h _ _ _ o.go (feed_enum g.rel ha n (r.adv o.go.rel.wl (g.step.adv o.go.rel)))
  | tup l =>
    cases e2
    obtain ⟨a, vs, rfl, ha, r⟩ := (peek_ok o.go.rel o.rep (pk_of e1)).tup
    have g := lock_go o.go.rel p
    refine ⟨a, vs, rfl, .inr ⟨by rw [← tk]; exact ha.sq, ?_⟩⟩
    rw [← tk]
    exact h _ _ _ o.go (feed_enumT g.rel (ha.adv o.go.rel.wl (g.step.adv o.go.rel)) (r.adv o.go.rel.wl (g.step.adv o.go.rel)))
  | _ => cases e2
theorem zip2_get {a b : List D} {i : Nat} {d : D} (h : (zipD [a, b])[i]? = some d) : ∃ x y, a[i]? = some x ∧ b[i]? = some y ∧ d = .tup [x, y] := by
  unfold zipD at h
  rw [List.getElem?_map] at h
  cases z : (a.zip b)[i]? with
  | none => rw [z] at h; cases h
  | some q =>
    rw [z] at h; cases h
    rw [List.getElem?_zip_eq_some] at z
    exact ⟨_, _, z.1, z.2, rfl⟩
/-- a list or a tuple that nobody changes -/
def SqW (K : PySem.W.Frag) (H : Hp) (W : AS) (a : Addr) (vs : List V) : Bool → Prop
  | true => H a = some (.lst vs) ∧ ¬ W a
  | false => TupL K H a vs
theorem SqW.x {a : Addr} {vs : List V} : ∀ {k : Bool}, SqW K H W a vs k → SqX K H a vs k
  | true, h => .of h.1
  | false, h => h.sq
theorem SqW.adv (wl : WL H W) (ad : Adv H W H' W2) {a : Addr} {vs : List V} : ∀ {k : Bool}, SqW K H W a vs k → SqW K H' W2 a vs k
  | true, h => ad _ _ h.1 h.2
  | false, h => TupL.adv wl ad h
theorem feed_zipM (R : Rel T σ H ρ W) {a b : Addr} {vs us : List V} {l m : List D} {k1 k2 : Bool} (hx : SqW T.K H W a vs k1) (r : RepDs T.K H W vs l) (hy : SqW T.K H W b us k2) (q : RepDs T.K H W us m) :
    Feed T (ItzM T.K k1 k2 a b) (zipD [l, m]) σ H ρ W := fun σ2 H2 ρ2 W2 R2 s => by
  have e1 := (hx.adv R.wl (s.adv R)).x
  have e2 := (hy.adv R.wl (s.adv R)).x
  have r2 := r.adv R.wl (s.adv R)
  have q2 := q.adv R.wl (s.adv R)
  refine ⟨fun i d h => ?_, ⟨vs, us, e1, e2, ?_⟩⟩
  · obtain ⟨x, y, hx, hy, rfl⟩ := zip2_get h
    obtain ⟨v, hv, qv⟩ := r2.get hx
    obtain ⟨u, hu, qu⟩ := q2.get hy
    refine ⟨⟨vs, us, v, u, e1, e2, hv, hu⟩, fun z H3 yl => ?_⟩
    obtain ⟨A, z1, z2, rfl, nA, rfl, y1, y2⟩ := yl
    have := y1 vs e1
    rw [hv] at this; cases this
    have := y2 us e2
    rw [hu] at this; cases this
    exact ⟨.inr ⟨A, _, nA, rfl⟩, lay_rep R2.wl nA ⟨_, _, rfl, qv, _, _, rfl, qu, rfl⟩⟩
  · rw [r.length, q.length]
    simp [zipD]
    omega
theorem s_zip2 (tk : T.K = X.K) {a b : Ex} {a' b' : Expr} {elts : List Expr} {kk : Nat} {p pos tpos : Pos} (hg : Gl X "zip") (hm : X.mg "zip" = none) (hs : starEach [a', b'] X.env = (false, eval a' X.env) :: starEach [b'] X.env)
    (hpl : (backTo pos (starEach [b'] X.env)).any (·.1) = false) (hp : PA X [a', b'] (tA X T F Z (.cons a (.cons b .nil)))) :
    PI X (.Tuple elts kk tpos) (.Call (.Name "zip" p) [a', b'] [] pos) (tI X T F Z (.zip (.cons a (.cons b .nil)))) := by
  refine ⟨fun pins s σ H R I q => ?_⟩
  refine (pi_zipM hg hm hp hs hpl).run pins s σ H R I ?_
  obtain ⟨ρ, W, Rl, h⟩ := q
  refine ⟨ρ, W, Rl, (Post.bind h).imp fun ps ρ1 h vs H1 W1 o => ?_⟩
  obtain ⟨⟨ds, ρ2⟩, ex, h⟩ := Post.val .of h
  obtain ⟨W2, g, q⟩ := o.data (of_ok ex)
  obtain ⟨t, et, h⟩ := Post.val .itemss h
  have et : itemss ds = .ok t := et
  unfold itemss at et
  rw [← tk]
  split at et
  · cases et
    obtain ⟨v, r, rfl, ⟨a, us, rfl, ea, na, ra⟩, v2, r2, rfl, ⟨b, ws, rfl, eb, nb, rb⟩, rfl⟩ := q
    exact ⟨true, true, a, b, us, ws, rfl, .of ea, .of eb, h _ _ _ g (feed_zipM g.rel (k1 := true) (k2 := true) ⟨ea, na⟩ ra ⟨eb, nb⟩ rb)⟩
  · cases et
    obtain ⟨v, r, rfl, ⟨a, us, rfl, ea, ra⟩, v2, r2, rfl, ⟨b, ws, rfl, eb, rb⟩, rfl⟩ := q
    exact ⟨false, false, a, b, us, ws, rfl, ea.sq, eb.sq, h _ _ _ g (feed_zipM g.rel (k1 := false) (k2 := false) ea ra eb rb)⟩
  · cases et
    obtain ⟨v, r, rfl, ⟨a, us, rfl, ea, na, ra⟩, v2, r2, rfl, ⟨b, ws, rfl, eb, rb⟩, rfl⟩ := q
    exact ⟨true, false, a, b, us, ws, rfl, .of ea, eb.sq, h _ _ _ g (feed_zipM g.rel (k1 := true) (k2 := false) ⟨ea, na⟩ ra eb rb)⟩
  · cases et
    obtain ⟨v, r, rfl, ⟨a, us, rfl, ea, ra⟩, v2, r2, rfl, ⟨b, ws, rfl, eb, nb, rb⟩, rfl⟩ := q
    exact ⟨false, true, a, b, us, ws, rfl, ea.sq, .of eb, h _ _ _ g (feed_zipM g.rel (k1 := false) (k2 := true) ea ra ⟨eb, nb⟩ rb)⟩
  · cases et
end
end Dv

set_option Elab.async false
set_option linter.all false
set_option maxRecDepth 100000
namespace Dv
open PySem PySem.Spec PyProof.Rows L2

section
variable {X : Cx} {Z : WX} {T : Tc} {F : Fn} {σ σ' : Sg} {H H0 H1 H2 H' : Hp} {ρ ρ1 ρ2 ρ' : Env'} {W W1 W2 W' : AS} {K : PySem.W.Frag} {ds : List D}

/-! ### slots stored -/
theorem free_bor {i : Nat} (h : freeSlot i ρ = true) : (∀ s, ρ[i]? = some (some s) → ¬ isBor s) ∧ (∀ b d, ρ[i]? ≠ some (some (.lck b d))) ∧ i < ρ.length := by
  unfold freeSlot at h
  split at h
  · rename_i e; exact ⟨fun s z => (by rw [e] at z; cases z), fun b d z => (by rw [e] at z; cases z), (List.getElem?_eq_some_iff.mp e).1⟩
  · rename_i d e; exact ⟨fun s z => (by rw [e] at z; cases z; exact fun k => k), fun b d z => (by rw [e] at z; cases z), (List.getElem?_eq_some_iff.mp e).1⟩
  · rename_i d e; exact ⟨fun s z => (by rw [e] at z; cases z; exact fun k => k), fun b d z => (by rw [e] at z; cases z), (List.getElem?_eq_some_iff.mp e).1⟩
  · cases h
def MonS (σ : Sg) (ρ : Env') (σ' : Sg) (ρ' : Env') : Prop := ∀ i a, OwnA σ' ρ' i a → OwnA σ ρ i a
theorem MonS.trans {σ1 : Sg} {σ2 : Sg} (a : MonS σ ρ σ1 ρ1) (b : MonS σ1 ρ1 σ2 ρ2) : MonS σ ρ σ2 ρ2 := fun i x h => a i x (b i x h)
/-- a slot stored with data, or emptied -/
theorem put_rel (R : Rel T σ H ρ W) {i : Nat} {v : V} {d : D} (hf : freeSlot i ρ = true) (r : RepD T.K H W v d) : Rel T (σ.set i (some v)) H (ρ.set i (some (.val d))) W ∧ Step σ H ρ W (σ.set i (some v)) H (ρ.set i (some (.val d))) W ∧ MonS σ ρ (σ.set i (some v)) (ρ.set i (some (.val d))) := by
  obtain ⟨nb, nl, hi⟩ := free_bor hf
  have hi2 : i < σ.length := by rw [← R.len]; exact hi
  have own : ∀ j a, OwnA (σ.set i (some v)) (ρ.set i (some (.val d))) j a → OwnA σ ρ j a ∧ j ≠ i := fun j a ⟨h1, h2⟩ => by
    have ne : j ≠ i := fun z => by
      subst z
      rcases h1 with ⟨b, x, h1⟩ | ⟨b, x, h1⟩ <;> (rw [List.getElem?_set_self hi] at h1; cases h1)
    rw [List.getElem?_set_ne (Ne.symm ne)] at h2
    refine ⟨⟨?_, h2⟩, ne⟩
    rcases h1 with ⟨b, x, h1⟩ | ⟨b, x, h1⟩
    · rw [List.getElem?_set_ne (Ne.symm ne)] at h1; exact .inl ⟨b, x, h1⟩
    · rw [List.getElem?_set_ne (Ne.symm ne)] at h1; exact .inr ⟨b, x, h1⟩
  refine ⟨⟨by simp [R.len], fun j s h => ?_, fun j k a h1 h2 => R.sep j k a (own j a h1).1 (own k a h2).1, R.wl, fun j x a h1 h2 => ?_, R.fzk, fun j a h => ?_⟩, fun b o h n => ⟨h, fun j z => ?_, Iff.rfl⟩, fun j a h => (own j a h).1⟩
  · rcases getq_set h with ⟨rfl, k, _⟩ | ⟨ne, k⟩
    · cases k
      exact ⟨some v, by rw [List.getElem?_set_self hi2], v, rfl, r⟩
    · obtain ⟨o, e, q⟩ := R.at_ j s k
      exact ⟨o, by rw [List.getElem?_set_ne ne]; exact e, q⟩
  · have ne : i ≠ j := fun z => by
      subst z
      rcases h1 with h1 | h1 <;> (rw [List.getElem?_set_self hi] at h1; cases h1)
    rw [List.getElem?_set_ne ne] at h2
    rw [List.getElem?_set_ne ne] at h1
    exact R.fr j x a h1 h2
  · obtain ⟨h1, s, h2, h3⟩ := R.bor j a h
    have ne : i ≠ j := fun z => by subst z; exact nb s h2 h3
    exact ⟨by rw [List.getElem?_set_ne ne]; exact h1, s, by rw [List.getElem?_set_ne ne]; exact h2, h3⟩
  · obtain ⟨⟨c, x, h1⟩, h2⟩ := z
    exact n j ⟨⟨c, x, by
      rcases getq_set h1 with ⟨rfl, k, _⟩ | ⟨ne, k⟩
      · cases k
      · exact k⟩, by
      rcases getq_set h1 with ⟨rfl, k, _⟩ | ⟨ne, k⟩
      · cases k
      · rw [List.getElem?_set_ne ne] at h2; exact h2⟩
theorem put_lk {i : Nat} {s : Option S} (hf : freeSlot i ρ = true) : Lk ρ (ρ.set i s) := Lk.set (free_bor hf).2.1

/-! ### from one statement to the next -/
structure GoS (T : Tc) (σ : Sg) (H : Hp) (ρ : Env') (W : AS) (σ' : Sg) (H' : Hp) (ρ' : Env') (W' : AS) : Prop where
  rel : Rel T σ' H' ρ' W'
  step : Step σ H ρ W σ' H' ρ' W'
  dom : ∀ a, H' a = none → H a = none
  own : ∀ i a, OwnA σ' ρ' i a → (∃ j, OwnA σ ρ j a) ∨ H a = none
  lk : ∀ (i : Nat) (b : Bool) (d : D), ρ[i]? = some (some (.lck b d)) → ρ'[i]? = some (some (.lck b d)) ∧ σ'[i]? = σ[i]?
theorem Go.s (g : Go T σ H ρ W H' ρ' W') : GoS T σ H ρ W σ H' ρ' W' := ⟨g.rel, g.step, g.dom, fun i a h => .inl ⟨i, g.mon i a h⟩, fun i b d h => ⟨g.lk i b d h, rfl⟩⟩
theorem GoS.refl (R : Rel T σ H ρ W) : GoS T σ H ρ W σ H ρ W := (Go.refl R).s
theorem GoS.trans {σ1 σ2 : Sg} (a : GoS T σ H ρ W σ1 H1 ρ1 W1) (b : GoS T σ1 H1 ρ1 W1 σ2 H2 ρ2 W2) : GoS T σ H ρ W σ2 H2 ρ2 W2 :=
  ⟨b.rel, a.step.trans b.step, fun x h => a.dom x (b.dom x h), fun i x h => by
    rcases b.own i x h with ⟨j, h⟩ | h
    · exact a.own j x h
    · exact .inr (a.dom x h), fun i c d h => by
    obtain ⟨h1, h2⟩ := a.lk i c d h
    obtain ⟨h3, h4⟩ := b.lk i c d h1
    exact ⟨h3, h4.trans h2⟩⟩
theorem put_go (R : Rel T σ H ρ W) {i : Nat} {v : V} {d : D} (e : putV i d ρ = .ok ρ') (r : RepD T.K H W v d) : GoS T σ H ρ W (σ.set i (some v)) H ρ' W ∧ MonS σ ρ (σ.set i (some v)) ρ' := by
  unfold putV at e
  split at e
  · rename_i hf
    cases e
    obtain ⟨a, b, m⟩ := put_rel R hf r
    refine ⟨⟨a, b, fun _ h => h, fun i a h => .inl ⟨i, m i a h⟩, fun j c x h => ⟨put_lk hf j c x h, ?_⟩⟩, m⟩
    have ne : i ≠ j := fun z => by subst z; exact (free_bor hf).2.1 c x h
    rw [List.getElem?_set_ne ne]
  · cases e
def sets (σ : Sg) : List Nat → List V → Sg
  | i :: is, v :: vs => sets (σ.set i (some v)) is vs
  | _, _ => σ
theorem puts_go : ∀ {is : List Nat} {ds : List D} {σ : Sg} {ρ ρ' : Env'} {vs : List V}, Rel T σ H ρ W → putVs is ds ρ = .ok ρ' → RepDs T.K H W vs ds → GoS T σ H ρ W (sets σ is vs) H ρ' W ∧ MonS σ ρ (sets σ is vs) ρ'
  | [], [], σ, ρ, ρ', vs, R, e, r => by
    cases e
    rw [show vs = [] from r]
    exact ⟨GoS.refl R, fun _ _ h => h⟩
  | i :: is, d :: ds, σ, ρ, ρ', vs, R, e, r => by
    obtain ⟨v, us, rfl, q, t⟩ := r
    have e : (putV i d ρ).bind (putVs is ds) = .ok ρ' := e
    cases e1 : putV i d ρ with
    | bad => rw [e1] at e; cases e
    | err x => rw [e1] at e; cases e
    | ok ρ1 =>
      rw [e1] at e
      obtain ⟨g, m⟩ := put_go R e1 q
      obtain ⟨g2, m2⟩ := puts_go g.rel e t
      exact ⟨g.trans g2, m.trans m2⟩
  | [], _ :: _, _, _, _, _, _, e, _ => by cases e
  | _ :: _, [], _, _, _, _, _, e, _ => by cases e
theorem putVs_len : ∀ {is : List Nat} {ds : List D} {ρ ρ' : Env'}, putVs is ds ρ = .ok ρ' → is.length = ds.length
  | [], [], _, _, _ => rfl
  | i :: is, d :: ds, ρ, ρ', e => by
    have e : (putV i d ρ).bind (putVs is ds) = .ok ρ' := e
    cases e1 : putV i d ρ with
    | bad => rw [e1] at e; cases e
    | err x => rw [e1] at e; cases e
    | ok ρ1 =>
      rw [e1] at e
      rw [List.length_cons, List.length_cons, putVs_len e]
  | [], _ :: _, _, _, e => by cases e
  | _ :: _, [], _, _, e => by cases e

/-! ### targets -/
def gNames : List Nat → TGs
  | [] => gNil
  | i :: is => gCons (gName i) (gNames is)
theorem gNames_ok : ∀ {is : List Nat} {vs : List V} {σ : Sg} {H : Hp} {Q : Sg → Hp → Prop}, is.length = vs.length → Q (sets σ is vs) H → gNames is vs σ H Q
  | [], [], _, _, _, _, h => ⟨rfl, h⟩
  | i :: is, v :: vs, σ, H, Q, e, h => ⟨v, vs, rfl, gNames_ok (is := is) (by simpa using e) h⟩
  | [], _ :: _, _, _, _, e, _ => by simp at e
  | _ :: _, [], _, _, _, e, _ => by simp at e
def gT (K : PySem.W.Frag) : Tg → TG
  | .nm i => gName i
  | .tp l => gTup K l.length (gNames l)
theorem gT_ok (R : Rel T σ H ρ W) {tg : Tg} {v : V} {d : D} {Q : Sg → Hp → Prop} (e : asgT tg d ρ = .ok ρ') (r : RepD T.K H W v d) (q : ∀ σ', GoS T σ H ρ W σ' H ρ' W → MonS σ ρ σ' ρ' → (∀ i, (match tg with | .nm j => i ≠ j | .tp l => i ∉ l) → σ'[i]? = σ[i]?) → Q σ' H) : gT T.K tg v σ H Q := by
  unfold asgT at e
  split at e
  · rename_i i d ρ
    refine q _ (put_go R e r).1 (put_go R e r).2 fun j hj => ?_
    rw [List.getElem?_set_ne (Ne.symm hj)]
  · rename_i is ds ρ
    obtain ⟨a, vs, rfl, t, r⟩ := r
    have el := putVs_len e
    refine ⟨a, vs, rfl, t.sq, by rw [r.length]; exact el.symm, gNames_ok (by rw [r.length]; exact el) (q _ (puts_go R e r).1 (puts_go R e r).2 fun j hj => ?_)⟩
    have : ∀ {is : List Nat} {vs : List V} {σ : Sg}, j ∉ is → (sets σ is vs)[j]? = σ[j]? := by
      intro is
      induction is with
      | nil => intro vs σ _; rfl
      | cons i is ih =>
        intro vs σ hn
        cases vs with
        | nil => rfl
        | cons v vs =>
          show (sets (σ.set i (some v)) is vs)[j]? = _
          rw [ih fun z => hn (List.mem_cons_of_mem _ z), List.getElem?_set_ne fun z => hn (by rw [z]; exact List.mem_cons_self)]
    exact this hj
  · cases e
end
end Dv

set_option Elab.async false
set_option linter.all false
set_option maxRecDepth 100000
namespace Dv
open PySem PySem.Spec PyProof.Rows L2

section
variable {X : Cx} {Z : WX} {T : Tc} {F : Fn} {σ σ' : Sg} {H H0 H1 H2 H' : Hp} {ρ ρ1 ρ2 ρ' ρf ρb ρq : Env'} {W W1 W2 W' : AS} {K : PySem.W.Frag} {ds : List D}

/-! ### a lock opened -/
theorem unlock_own {o : Option Nat} (e : unlock o ρf = .ok ρ') : (∀ i a, OwnA σ ρ' i a ↔ OwnA σ ρf i a) ∧ (o = none → ρ' = ρf) ∧ ∀ k, o = some k → ∃ b d, ρf[k]? = some (some (.lck b d)) ∧ ρ' = ρf.set k (some (.own b d)) := by
  unfold unlock at e
  split at e
  · cases e; exact ⟨fun _ _ => Iff.rfl, fun _ => rfl, fun k h => by cases h⟩
  · rename_i k
    split at e
    · rename_i b d es
      cases e
      have hi : k < ρf.length := (List.getElem?_eq_some_iff.mp es).1
      refine ⟨fun i a => ⟨fun ⟨h1, h2⟩ => ⟨?_, h2⟩, fun ⟨h1, h2⟩ => ⟨?_, h2⟩⟩, fun h => (by cases h), fun j h => (by cases h; exact ⟨b, d, es, rfl⟩)⟩
      · rcases h1 with ⟨c, z, h1⟩ | ⟨c, z, h1⟩
        · rcases getq_set h1 with ⟨rfl, _, _⟩ | ⟨_, q⟩
          · exact .inr ⟨b, d, es⟩
          · exact .inl ⟨c, z, q⟩
        · rcases getq_set h1 with ⟨rfl, q, _⟩ | ⟨_, q⟩
          · cases q
          · exact .inr ⟨c, z, q⟩
      · by_cases ei : k = i
        · subst ei
          exact .inl ⟨b, d, by rw [List.getElem?_set_self hi]⟩
        · rw [List.getElem?_set_ne ei]; exact h1
    · cases e
theorem unlock_rel {o : Option Nat} (R : Rel T σ H ρf W) (e : unlock o ρf = .ok ρ') : Rel T σ H ρ' W := by
  obtain ⟨ow, h0, h1⟩ := unlock_own (σ := σ) e
  cases o with
  | none => rw [h0 rfl]; exact R
  | some k =>
    obtain ⟨b, d, es, rfl⟩ := h1 k rfl
    have hi : k < ρf.length := (List.getElem?_eq_some_iff.mp es).1
    refine ⟨by simpa using R.len, fun j s h => ?_, fun i j a h1 h2 => R.sep i j a ((ow i a).mp h1) ((ow j a).mp h2), R.wl, fun j x a h1 h2 => ?_, R.fzk, fun j a h => ?_⟩
    · rcases getq_set h with ⟨rfl, q, _⟩ | ⟨_, q⟩
      · cases q
        obtain ⟨o, e1, q⟩ := R.at_ k _ es
        exact ⟨o, e1, q⟩
      · exact R.at_ j s q
    · rcases h1 with h1 | h1
      · rcases getq_set h1 with ⟨rfl, q, _⟩ | ⟨_, q⟩
        · cases q; exact R.fr k d a (.inr es) h2
        · exact R.fr j x a (.inl q) h2
      · rcases getq_set h1 with ⟨rfl, q, _⟩ | ⟨_, q⟩
        · cases q
        · exact R.fr j x a (.inr q) h2
    · obtain ⟨z1, s, z2, z3⟩ := R.bor j a h
      refine ⟨z1, ?_⟩
      by_cases ej : k = j
      · subst ej
        refine ⟨.own b d, by rw [List.getElem?_set_self hi], ?_⟩
        rw [es] at z2; cases z2
        cases b with
        | true => trivial
        | false => exact z3.elim
      · exact ⟨s, by rw [List.getElem?_set_ne ej]; exact z2, z3⟩
theorem lock_none {p : P} (h : (lockP p ρ).1 = none) : (lockP p ρ).2 = ρ := by
  unfold lockP at h ⊢
  split
  · rename_i i
    split
    · rename_i b d e
      simp only [e] at h
      cases h
    · rfl
  · rfl
theorem lock_some {p : P} {k : Nat} (h : (lockP p ρ).1 = some k) : ∃ b d, ρ[k]? = some (some (.own b d)) ∧ (lockP p ρ).2 = ρ.set k (some (.lck b d)) := by
  cases p with
  | val d => cases h
  | own d => cases h
  | at_ i =>
    simp only [lockP] at h ⊢
    split at h
    · rename_i b d e
      cases h
      exact ⟨b, d, e, rfl⟩
    · cases h
/-- from ahead of the lock to behind the opening -/
theorem unlock_step {p : P} (R : Rel T σ H1 ρ1 W1) (s : Step σ H1 (lockP p ρ1).2 W1 σ' H ρf W) (e : unlock (lockP p ρ1).1 ρf = .ok ρ')
    (hk : ∀ (k : Nat) (b : Bool) (d : D), (lockP p ρ1).2[k]? = some (some (S.lck b d)) → σ'[k]? = σ[k]?) : Step σ H1 ρ1 W1 σ' H ρ' W := fun x o h n => by
  have n1 : ∀ i, ¬ OwnU σ (lockP p ρ1).2 i x := fun i z => n i (lock_own z).1
  obtain ⟨h1, n2, w⟩ := s x o h n1
  refine ⟨h1, fun i z => ?_, w⟩
  obtain ⟨ow, h0, hs⟩ := unlock_own (σ := σ') e
  cases el : (lockP p ρ1).1 with
  | none => rw [h0 el] at z; exact n2 i z
  | some k =>
    obtain ⟨b, d, e1, rfl⟩ := hs k el
    obtain ⟨b2, d2, e2, e3⟩ := lock_some el
    obtain ⟨⟨c, y, z1⟩, z2⟩ := z
    rcases getq_set z1 with ⟨rfl, _, _⟩ | ⟨_, q⟩
    · have hi : k < ρ1.length := (List.getElem?_eq_some_iff.mp e2).1
      have := hk k b2 d2 (by rw [e3, List.getElem?_set_self hi])
      rw [this] at z2
      exact n k ⟨⟨b2, d2, e2⟩, z2⟩
    · exact n2 i ⟨⟨c, y, q⟩, z2⟩
theorem unlock_lk {p : P} {ρ3 : Env'} (l : Lk (lockP p ρ1).2 ρ3) (e : unlock (lockP p ρ1).1 ρ3 = .ok ρ') : Lk ρ1 ρ' := fun i b d h => by
  obtain ⟨_, h0, hs⟩ := unlock_own (σ := []) e
  cases el : (lockP p ρ1).1 with
  | none =>
    rw [h0 el]
    exact l i b d (by rw [lock_none el]; exact h)
  | some k =>
    obtain ⟨b1, d1, e1, rfl⟩ := hs k el
    obtain ⟨b2, d2, e2, e3⟩ := lock_some el
    have ne : k ≠ i := fun z => by subst z; rw [e2] at h; cases h
    rw [List.getElem?_set_ne ne]
    exact l i b d (by rw [e3, List.getElem?_set_ne ne]; exact h)

/-! ### a comprehension's own slots -/
theorem wipe_get : ∀ {vs : List Nat} {i : Nat}, i ∉ vs → (wipe σ vs)[i]? = σ[i]?
  | [], _, _ => rfl
  | v :: vs, i, h => by
    show ((wipe σ vs).set v none)[i]? = _
    rw [List.getElem?_set_ne fun z => h (by rw [z]; exact List.mem_cons_self), wipe_get fun z => h (List.mem_cons_of_mem _ z)]
theorem wipeR_get : ∀ {vs : List Nat} {i : Nat}, i ∉ vs → (wipeR ρ vs)[i]? = ρ[i]?
  | [], _, _ => rfl
  | v :: vs, i, h => by
    show ((wipeR ρ vs).set v none)[i]? = _
    rw [List.getElem?_set_ne fun z => h (by rw [z]; exact List.mem_cons_self), wipeR_get fun z => h (List.mem_cons_of_mem _ z)]
theorem wipeR_len : ∀ vs : List Nat, (wipeR ρ vs).length = ρ.length
  | [] => rfl
  | v :: vs => by
    show ((wipeR ρ vs).set v none).length = _
    rw [List.length_set, wipeR_len vs]
theorem wipeR_in : ∀ {vs : List Nat} {i : Nat} {s : S}, i ∈ vs → (wipeR ρ vs)[i]? ≠ some (some s)
  | v :: vs, i, s, h, e => by
    have e : ((wipeR ρ vs).set v none)[i]? = some (some s) := e
    rcases getq_set e with ⟨_, q, _⟩ | ⟨ne, q⟩
    · cases q
    · rcases List.mem_cons.mp h with z | z
      · exact ne z.symm
      · exact wipeR_in z q
theorem wipe_in : ∀ {vs : List Nat} {i : Nat}, i ∈ vs → (wipe σ vs)[i]? = if i < σ.length then some none else none
  | v :: vs, i, h => by
    show ((wipe σ vs).set v none)[i]? = _
    by_cases e : v = i
    · subst e
      by_cases z : v < σ.length
      · rw [List.getElem?_set_self (by rw [wipe_length]; exact z), if_pos z]
      · rw [if_neg z, List.getElem?_eq_none (by rw [List.length_set, wipe_length]; omega)]
    · rw [List.getElem?_set_ne e]
      rcases List.mem_cons.mp h with z | z
      · exact absurd z.symm e
      · exact wipe_in z
theorem wipe_eq {vs : List Nat} (hl : σ'.length = σ.length) (h : ∀ i, i ∉ vs → σ'[i]? = σ[i]?) : wipe σ' vs = wipe σ vs := by
  apply List.ext_getElem?
  intro i
  by_cases hm : i ∈ vs
  · rw [wipe_in hm, wipe_in hm, hl]
  · rw [wipe_get hm, wipe_get hm, h i hm]
theorem wipe_own {vs : List Nat} {i : Nat} {a : Addr} : OwnA (wipe σ vs) (wipeR ρ vs) i a ↔ OwnA σ ρ i a ∧ i ∉ vs := by
  constructor
  · rintro ⟨h1, h2⟩
    have hn : i ∉ vs := fun hm => by
      rcases h1 with ⟨b, d, h1⟩ | ⟨b, d, h1⟩ <;> exact wipeR_in hm h1
    rw [wipe_get hn] at h2
    rw [wipeR_get hn] at h1
    exact ⟨⟨h1, h2⟩, hn⟩
  · rintro ⟨⟨h1, h2⟩, hn⟩
    exact ⟨by rw [wipeR_get hn]; exact h1, by rw [wipe_get hn]; exact h2⟩
theorem wipe_ownU {vs : List Nat} {i : Nat} {a : Addr} : OwnU (wipe σ vs) (wipeR ρ vs) i a ↔ OwnU σ ρ i a ∧ i ∉ vs := by
  constructor
  · rintro ⟨⟨b, d, h1⟩, h2⟩
    have hn : i ∉ vs := fun hm => wipeR_in hm h1
    rw [wipe_get hn] at h2
    rw [wipeR_get hn] at h1
    exact ⟨⟨⟨b, d, h1⟩, h2⟩, hn⟩
  · rintro ⟨⟨⟨b, d, h1⟩, h2⟩, hn⟩
    exact ⟨⟨b, d, by rw [wipeR_get hn]; exact h1⟩, by rw [wipe_get hn]; exact h2⟩
theorem wipe_rel (R : Rel T σ H ρ W) {vs : List Nat} (hb : ∀ i ∈ vs, T.bm i = none) : Rel T (wipe σ vs) H (wipeR ρ vs) W := by
  refine ⟨by rw [wipeR_len, wipe_length, R.len], fun i s h => ?_, fun i j a h1 h2 => R.sep i j a (wipe_own.mp h1).1 (wipe_own.mp h2).1, R.wl, fun i d a h1 h2 => ?_, R.fzk, fun i a h => ?_⟩
  · have hn : i ∉ vs := fun hm => wipeR_in hm h
    rw [wipeR_get hn] at h
    rw [wipe_get hn]
    exact R.at_ i s h
  · have hn : i ∉ vs := fun hm => by
      rcases h1 with h1 | h1 <;> exact wipeR_in hm h1
    rw [wipe_get hn] at h2
    rw [wipeR_get hn] at h1
    exact R.fr i d a h1 h2
  · have hn : i ∉ vs := fun hm => by rw [hb i hm] at h; cases h
    rw [wipe_get hn, wipeR_get hn]
    exact R.bor i a h
theorem wipe_step {vs : List Nat} : Step σ H ρ W (wipe σ vs) H (wipeR ρ vs) W := fun b o h n => ⟨h, fun i z => n i (wipe_ownU.mp z).1, Iff.rfl⟩
theorem wipe_mon {vs : List Nat} : MonS σ ρ (wipe σ vs) (wipeR ρ vs) := fun i a h => (wipe_own.mp h).1
theorem wipe_wipe {vs : List Nat} : wipe (wipe σ vs) vs = wipe σ vs := wipe_eq (wipe_length _ _) fun i hi => wipe_get hi
/-! .. back -/
theorem backR_out : ∀ {vs : List Nat} {i : Nat}, i ∉ vs → (backR ρb ρ vs)[i]? = ρ[i]?
  | [], _, _ => rfl
  | v :: vs, i, h => by
    show ((backR ρb ρ vs).set v _)[i]? = _
    rw [List.getElem?_set_ne fun z => h (by rw [z]; exact List.mem_cons_self), backR_out fun z => h (List.mem_cons_of_mem _ z)]
theorem backR_len : ∀ vs : List Nat, (backR ρb ρ vs).length = ρ.length
  | [] => rfl
  | v :: vs => by
    show ((backR ρb ρ vs).set v _).length = _
    rw [List.length_set, backR_len vs]
theorem backR_in (hl : ρ.length = ρb.length) : ∀ {vs : List Nat} {i : Nat}, i ∈ vs → (backR ρb ρ vs)[i]? = ρb[i]?
  | v :: vs, i, h => by
    show ((backR ρb ρ vs).set v (ρb.getD v none))[i]? = _
    by_cases e : v = i
    · subst e
      by_cases z : v < ρb.length
      · rw [List.getElem?_set_self (by rw [backR_len, hl]; exact z), List.getD_eq_getElem?_getD, List.getElem?_eq_getElem z]; rfl
      · rw [List.getElem?_eq_none (by rw [List.length_set, backR_len, hl]; omega), List.getElem?_eq_none (by omega)]
    · rw [List.getElem?_set_ne e]
      rcases List.mem_cons.mp h with z | z
      · exact absurd z.symm e
      · exact backR_in hl z
theorem back_rel {vs : List Nat} (Rb : Rel T σ H1 ρb W1) (hb : ∀ i ∈ vs, T.bm i = none) (R : Rel T (wipe σ vs) H (wipeR ρq vs) W) (s : Step (wipe σ vs) H1 (wipeR ρb vs) W1 (wipe σ vs) H (wipeR ρq vs) W) (m : MonS (wipe σ vs) (wipeR ρb vs) (wipe σ vs) (wipeR ρq vs))
    (dom : ∀ a, H a = none → H1 a = none) (lk : Lk (wipeR ρb vs) (wipeR ρq vs)) : Rel T σ H (backR ρb ρq vs) W ∧ Step σ H1 ρb W1 σ H (backR ρb ρq vs) W ∧ Mon σ ρb (backR ρb ρq vs) ∧ Lk ρb (backR ρb ρq vs) := by
  have hl : ρq.length = ρb.length := by
    have h1 := R.len
    rw [wipeR_len, wipe_length] at h1
    rw [h1, Rb.len]
  have st : Step σ H1 ρb W1 (wipe σ vs) H (wipeR ρq vs) W := (wipe_step (vs := vs)).trans s
  have own : ∀ i a, OwnA σ (backR ρb ρq vs) i a → OwnA σ ρb i a ∧ (i ∉ vs → OwnA (wipe σ vs) (wipeR ρq vs) i a) := fun i a ⟨h1, h2⟩ => by
    by_cases hm : i ∈ vs
    · rw [backR_in hl hm] at h1
      exact ⟨⟨h1, h2⟩, fun z => absurd hm z⟩
    · rw [backR_out hm] at h1
      have : OwnA (wipe σ vs) (wipeR ρq vs) i a := wipe_own.mpr ⟨⟨h1, h2⟩, hm⟩
      exact ⟨(wipe_own.mp (m i a this)).1, fun _ => this⟩
  -- an own slot's old content still stands
  have old : ∀ (i : Nat) (s : S), i ∈ vs → ρb[i]? = some (some s) → ∃ o, σ[i]? = some o ∧ RelS T H W o s := fun i s hm e => by
    obtain ⟨o, e1, q⟩ := Rb.at_ i s e
    refine ⟨o, e1, ?_⟩
    have ad : Adv H1 W1 H W := st.adv Rb
    have nU : ∀ a, OwnA σ ρb i a → ∀ j, ¬ OwnU (wipe σ vs) (wipeR ρb vs) j a := fun a oa j z => by
      obtain ⟨z1, z2⟩ := wipe_ownU.mp z
      have := Rb.sep _ _ _ oa z1.a
      subst this
      exact z2 hm
    cases s with
    | val d => obtain ⟨v, e2, r⟩ := q; exact ⟨v, e2, r.adv Rb.wl ad⟩
    | brz d => obtain ⟨v, e2, r⟩ := q; exact ⟨v, e2, r.adv Rb.wl ad⟩
    | own b d =>
      obtain ⟨a, ob, rfl, e3, w, r⟩ := q
      obtain ⟨h1, _, h3⟩ := s a ob e3 (nU a ⟨.inl ⟨b, d, e⟩, e1⟩)
      exact ⟨a, ob, rfl, h1, h3.mpr w, r.adv Rb.wl ad⟩
    | lck b d =>
      obtain ⟨a, ob, rfl, e3, w, r⟩ := q
      obtain ⟨h1, _, h3⟩ := s a ob e3 (nU a ⟨.inr ⟨b, d, e⟩, e1⟩)
      exact ⟨a, ob, rfl, h1, h3.mpr w, r.adv Rb.wl ad⟩
  refine ⟨⟨by rw [backR_len, hl, Rb.len], fun i s h => ?_, fun i j a h1 h2 => Rb.sep i j a (own i a h1).1 (own j a h2).1, R.wl, fun i d a h1 h2 => ?_, R.fzk, fun i a h => ?_⟩, fun b o h n => ?_, fun i a h => (own i a h).1, fun i b d h => ?_⟩
  · by_cases hm : i ∈ vs
    · rw [backR_in hl hm] at h
      exact old i s hm h
    · rw [backR_out hm] at h
      have := R.at_ i s (by rw [wipeR_get hm]; exact h)
      rw [wipe_get hm] at this
      exact this
  · by_cases hm : i ∈ vs
    · rw [backR_in hl hm] at h1
      exact Rb.fr i d a h1 h2
    · rw [backR_out hm] at h1
      exact R.fr i d a (by rw [wipeR_get hm]; exact h1) (by rw [wipe_get hm]; exact h2)
  · have hm : i ∉ vs := fun hm => by rw [hb i hm] at h; cases h
    rw [backR_out hm]
    have := R.bor i a h
    rw [wipe_get hm, wipeR_get hm] at this
    exact this
  · obtain ⟨h1, n1, w⟩ := st b o h n
    refine ⟨h1, fun i z => ?_, w⟩
    by_cases hm : i ∈ vs
    · obtain ⟨⟨c, d, z1⟩, z2⟩ := z
      rw [backR_in hl hm] at z1
      exact n i ⟨⟨c, d, z1⟩, z2⟩
    · obtain ⟨⟨c, d, z1⟩, z2⟩ := z
      rw [backR_out hm] at z1
      exact n1 i (wipe_ownU.mpr ⟨⟨⟨c, d, z1⟩, z2⟩, hm⟩)
  · by_cases hm : i ∈ vs
    · rw [backR_in hl hm]; exact h
    · rw [backR_out hm]
      have := lk i b d (by rw [wipeR_get hm]; exact h)
      rw [wipeR_get hm] at this
      exact this
/-- an object that no slot bears, changed -/
theorem mut_tmp (R : Rel T σ H ρ W) {a : Addr} {o o' : HO} {d : D} (ha : H a = some o) (wa : W a) (no : ∀ i, ¬ OwnA σ ρ i a) (q : RepO T.K H W o' d) : Rel T σ (upd H a o') ρ W := by
  have ad : Adv H W (upd H a o') W := fun b u e w => ⟨by rw [upd_ne (fun z => w (by rw [z]; exact wa))]; exact e, w⟩
  refine ⟨R.len, fun i s e => ?_, R.sep, fun x w => ?_, R.fr, fun x h => R.fzk x ?_, R.bor⟩
  · obtain ⟨v, e1, z⟩ := R.at_ i s e
    refine ⟨v, e1, ?_⟩
    cases s with
    | val d => obtain ⟨v, e2, r⟩ := z; exact ⟨v, e2, r.adv R.wl ad⟩
    | brz d => obtain ⟨v, e2, r⟩ := z; exact ⟨v, e2, r.adv R.wl ad⟩
    | own b d =>
      obtain ⟨c, ob, rfl, e3, w, r⟩ := z
      have ne : c ≠ a := fun z => no i (by rw [← z]; exact ⟨.inl ⟨b, d, e⟩, e1⟩)
      exact ⟨c, ob, rfl, by rw [upd_ne ne]; exact e3, w, r.adv R.wl ad⟩
    | lck b d =>
      obtain ⟨c, ob, rfl, e3, w, r⟩ := z
      have ne : c ≠ a := fun z => no i (by rw [← z]; exact ⟨.inr ⟨b, d, e⟩, e1⟩)
      exact ⟨c, ob, rfl, by rw [upd_ne ne]; exact e3, w, r.adv R.wl ad⟩
  · by_cases e : x = a
    · subst e; exact ⟨o', upd_same, q.mk1⟩
    · obtain ⟨u, hu, m⟩ := R.wl x w
      exact ⟨u, by rw [upd_ne e]; exact hu, m⟩
  · by_cases e : x = a
    · subst e; rw [upd_same] at h; cases h
    · rw [upd_ne e] at h; exact h
end
end Dv

set_option Elab.async false
set_option linter.all false
set_option maxRecDepth 100000
namespace Dv
open PySem PySem.Spec PyProof.Rows L2

abbrev Z0 : WX := fun _ _ _ _ => False
def tCl (X : Cx) (T : Tc) (F : Fn) (Z : WX) (o : To) : TT := fun σ H Q => ∃ ρ W, Rel T σ H ρ W ∧ Post X Z (evc F o ρ) σ H ρ fun b ρ' => ∀ H' W', Go T σ H ρ W H' ρ' W' → Q b H'
/-- a comprehension's turn -/
noncomputable def turnF (F : Fn) (elt : Ex) (tg : Tg) (ifs : To) (own : List Nat) : D → Env' → Rs (Option D × Env') := fun d ρ1 => (asgT tg d (wipeR ρ1 own)).bind fun ρ2 => (evc F ifs ρ2).quiet.bind fun c => match c.1 with
  | true => (ev F elt c.2).quiet.bind fun p => (Rs.of (toD p.1 p.2)).bind fun y => .ok (some y.1, y.2)
  | false => .ok (none, c.2)
def tgs : Tg → List Nat
  | .nm i => [i]
  | .tp l => l
section
variable {X : Cx} {Z : WX} {T : Tc} {F : Fn} {σ σ' : Sg} {H H0 H1 H2 H' : Hp} {ρ ρ1 ρ2 ρ' ρf ρb ρq : Env'} {W W1 W2 W' : AS} {K : PySem.W.Frag} {ds : List D}
theorem s_cnone : PTs X [] (tCl X T F Z .none) := by
  refine ⟨fun pins s σ H Q I q => pts_nil.run pins s σ H Q I ?_⟩
  obtain ⟨ρ, W, R, h⟩ := q
  exact h H W (Go.refl R)
theorem s_csome {t : Tx} {c : Expr} (h : PT X c (tT X T F Z t)) : PTs X [c] (tCl X T F Z (.some t)) := pts_one h
theorem bind_ok {α β : Type} {r : Rs α} {f : α → Rs β} {b : β} (h : r.bind f = .ok b) : ∃ a, r = .ok a ∧ f a = .ok b := by
  cases r with
  | ok a => exact ⟨a, rfl, h⟩
  | err e => cases h
  | bad => cases h
theorem quiet_ok {α : Type} {r : Rs α} {a : α} (h : r.quiet = .ok a) : r = .ok a := by
  cases r with
  | ok b => exact h
  | err e => cases h
  | bad => cases h
/-- the heap of a step's items -/
theorem Lay.go (R : Rel T σ H ρ W) (l : Lay H H') : Go T σ H ρ W H' ρ W := by
  rcases l with rfl | ⟨a, vs, n, rfl⟩
  · exact Go.refl R
  · exact Go.tup R n
theorem drop_cons {α : Type} {l : List α} {i : Nat} {d : α} (h : l[i]? = some d) : l.drop i = d :: l.drop (i + 1) := by
  obtain ⟨hi, e⟩ := List.getElem?_eq_some_iff.mp h
  rw [List.drop_eq_getElem_cons hi, e]

structure CInv (T : Tc) (F : Fn) (elt : Ex) (tg : Tg) (ifs : To) (own : List Nat) (l fin : List D) (ρe : Env') (σ : Sg) (H1 : Hp) (ρb : Env') (W1 : AS) (Dl : Addr) (i : Nat) (H : Hp) : Prop where
  ex : ∃ (ρi : Env') (Wi : AS) (acc rest : List D) (va : List V), Rel T (wipe σ own) H (wipeR ρi own) Wi ∧ Step (wipe σ own) H1 (wipeR ρb own) W1 (wipe σ own) H (wipeR ρi own) Wi ∧ MonS (wipe σ own) (wipeR ρb own) (wipe σ own) (wipeR ρi own) ∧
    (∀ a, H a = none → H1 a = none) ∧ Lk (wipeR ρb own) (wipeR ρi own) ∧ H Dl = some (.lst va) ∧ Wi Dl ∧ (∀ j, ¬ OwnA (wipe σ own) (wipeR ρi own) j Dl) ∧ RepDs T.K H Wi va acc ∧
    mapR (turnF F elt tg ifs own) (l.drop i) ρi = .ok (rest, ρe) ∧ acc ++ rest = fin

theorem GoS.keepD {σ1 σ2 : Sg} (g : GoS T σ1 H1 ρ1 W1 σ2 H2 ρ2 W2) (m : MonS σ1 ρ1 σ2 ρ2) {a : Addr} {o : HO} (e : H1 a = some o) (w : W1 a) (n : ∀ j, ¬ OwnA σ1 ρ1 j a) : H2 a = some o ∧ W2 a ∧ ∀ j, ¬ OwnA σ2 ρ2 j a := by
  obtain ⟨h1, _, h3⟩ := g.step a o e fun i z => n i z.a
  exact ⟨h1, h3.mpr w, fun j z => n j (m j a z)⟩

/-- one turn -/
theorem comp_turn {elt : Ex} {tg : Tg} {ifs : To} {own : List Nat} {l fin : List D} {ρe : Env'} {Dl : Addr} {i : Nat} {d : D} (hb : ∀ i ∈ own, T.bm i = none) (htg : ∀ i ∈ tgs tg, i ∈ own) (hz : fin.length < sizeLine)
    (C : CInv T F elt tg ifs own l fin ρe σ H1 ρb W1 Dl i H) (hd : l[i]? = some d) {x : V} (ly : Lay H H') (rx : ∀ Wi ρi, Rel T (wipe σ own) H (wipeR ρi own) Wi → Step (wipe σ own) H1 (wipeR ρb own) W1 (wipe σ own) H (wipeR ρi own) Wi → RepD T.K H' Wi x d) {Nx : Hp → Prop}
    (hN : ∀ H, CInv T F elt tg ifs own l fin ρe σ H1 ρb W1 Dl (i + 1) H → Nx H) (nD : H1 Dl = none) :
    gT T.K tg x (wipe σ own) H' fun σ2 H2 => wipe σ2 own = wipe σ own ∧ tCl X T F Z0 ifs σ2 H2 fun b H3 =>
      if b = true then tE X T F Z0 elt σ2 H3 fun y H4 => ∃ acc, H4 Dl = some (.lst acc) ∧ acc.length < sizeLine ∧ Nx (upd H4 Dl (.lst (acc ++ [y]))) else Nx H3 := by
  obtain ⟨ρi, Wi, acc, rest, va, R, S, M, dom, lk, hD, wD, noD, ra, em, ef⟩ := C.ex
  have rd := rx Wi ρi R S
  rw [drop_cons hd] at em
  obtain ⟨⟨o, ρ3⟩, e1, em⟩ := bind_ok em
  obtain ⟨⟨rs, ρ4⟩, e2, em⟩ := bind_ok em
  cases em
  obtain ⟨ρ2, e3, e1⟩ := bind_ok e1
  obtain ⟨⟨c, ρ5⟩, e4, e1⟩ := bind_ok e1
  have e4 := quiet_ok e4
  have g0 := Lay.go R ly
  refine gT_ok g0.rel e3 rd fun σ2 g1 m1 same => ⟨?_, ?_⟩
  · have hl : σ2.length = σ.length := by
      have h1 := g1.rel.len
      have h2 := g0.rel.len
      rw [wipe_length] at h2
      have : ρ2.length = (wipeR ρi own).length := by
        have : ∀ {t : Tg} {d : D} {ρ ρ' : Env'}, asgT t d ρ = .ok ρ' → ρ'.length = ρ.length := by
          have p1 : ∀ {i : Nat} {d : D} {ρ ρ' : Env'}, putV i d ρ = .ok ρ' → ρ'.length = ρ.length := fun {i d ρ ρ'} e => by
            unfold putV at e
            split at e
            · cases e; simp
            · cases e
          have p2 : ∀ {is : List Nat} {ds : List D} {ρ ρ' : Env'}, putVs is ds ρ = .ok ρ' → ρ'.length = ρ.length := by
            intro is
            induction is with
            | nil => intro ds ρ ρ' e; cases ds <;> cases e; rfl
            | cons i is ih =>
              intro ds ρ ρ' e
              cases ds with
              | nil => cases e
              | cons d ds =>
                obtain ⟨ρ1, e1, e2⟩ := bind_ok (show (putV i d ρ).bind (putVs is ds) = .ok ρ' from e)
                rw [ih e2, p1 e1]
          intro t d ρ ρ' e
          unfold asgT at e
          split at e
          · exact p1 e
          · exact p2 e
          · cases e
        exact this e3
      rw [← h1, this, h2]
    rw [← wipe_wipe (σ := σ)]
    refine wipe_eq (by rw [wipe_length, hl]) fun j hj => same j ?_
    cases tg with
    | nm k => exact fun z => hj (by rw [z]; exact htg k (by simp [tgs]))
    | tp l => exact fun z => hj (htg j z)
  · have hlw : wipe σ2 own = wipe σ own → True := fun _ => trivial
    refine ⟨ρ2, Wi, g1.rel, ?_⟩
    rw [e4]
    intro H3 W3 g2
    have gS := (g0.s.trans g1).trans g2.s
    have mS : MonS (wipe σ own) (wipeR ρi own) σ2 ρ5 := fun j a h => m1 j a (g2.mon j a h)
    obtain ⟨hD3, wD3, noD3⟩ := gS.keepD mS hD wD noD
    have weq : wipe σ2 own = wipe σ own := by
      rw [← wipe_wipe (σ := σ)]
      have hl : σ2.length = (wipe σ own).length := by
        have h1 := g1.rel.len
        have h2 := g0.rel.len
        have : ρ2.length = (wipeR ρi own).length := by
          have p1 : ∀ {i : Nat} {d : D} {ρ ρ' : Env'}, putV i d ρ = .ok ρ' → ρ'.length = ρ.length := fun {i d ρ ρ'} e => by
            unfold putV at e
            split at e
            · cases e; simp
            · cases e
          have p2 : ∀ {is : List Nat} {ds : List D} {ρ ρ' : Env'}, putVs is ds ρ = .ok ρ' → ρ'.length = ρ.length := by
            intro is
            induction is with
            | nil => intro ds ρ ρ' e; cases ds <;> cases e; rfl
            | cons i is ih =>
              intro ds ρ ρ' e
              cases ds with
              | nil => cases e
              | cons d ds =>
                obtain ⟨ρ1, e1, e2⟩ := bind_ok (show (putV i d ρ).bind (putVs is ds) = .ok ρ' from e)
                rw [ih e2, p1 e1]
          unfold asgT at e3
          split at e3
          · exact p1 e3
          · exact p2 e3
          · cases e3
        omega
      refine wipe_eq hl fun j hj => same j ?_
      cases tg with
      | nm k => exact fun z => hj (by rw [z]; exact htg k (by simp [tgs]))
      | tp l => exact fun z => hj (htg j z)
    cases c with
    | false =>
      rw [if_neg (by simp)]
      cases e1
      refine hN H3 ⟨ρ5, W3, acc, rs, va, ?_, ?_, ?_, fun a h => dom a (gS.dom a h), ?_, hD3, wD3, ?_, ra.adv R.wl (gS.step.adv R), e2, ef⟩
      · rw [← weq]; exact wipe_rel gS.rel hb
      · rw [← weq]; rw [weq] ; exact S.trans (gS.step.trans (by rw [← weq]; exact wipe_step))
      · have := M.trans (mS.trans (wipe_mon (vs := own)))
        rw [weq] at this; exact this
      · intro j b x h
        have hn : j ∉ own := fun z => wipeR_in z h
        have h1 := (gS.lk j b x (lk j b x h)).1
        rw [wipeR_get hn]; exact h1
      · intro j z
        rw [← weq] at z
        exact noD3 j (wipe_own.mp z).1
    | true =>
      rw [if_pos rfl]
      obtain ⟨⟨p, ρ6⟩, e5, e1⟩ := bind_ok e1
      have e5 := quiet_ok e5
      obtain ⟨⟨y, ρ7⟩, e6, e1⟩ := bind_ok e1
      cases e1
      refine ⟨ρ5, W3, g2.rel, ?_⟩
      rw [e5]
      intro v H4 W4 o4
      obtain ⟨W5, g5, r5⟩ := o4.data (of_ok e6)
      have gS5 := gS.trans g5.s
      have mS5 : MonS (wipe σ own) (wipeR ρi own) σ2 ρ7 := fun j a h => mS j a (g5.mon j a h)
      obtain ⟨hD5, wD5, noD5⟩ := gS5.keepD mS5 hD wD noD
      have ra5 : RepDs T.K H4 W5 va acc := ra.adv R.wl (gS5.step.adv R)
      have lenv : va.length < sizeLine := by
        rw [ra.length]
        have := congrArg List.length ef
        rw [List.length_append] at this
        omega
      refine ⟨va, hD5, lenv, hN _ ?_⟩
      have q5 : RepO T.K H4 W5 (.lst (va ++ [v])) (.lst (acc ++ [y])) := ⟨_, rfl, ra5.append (RepDs.one r5)⟩
      have R6 := mut_tmp gS5.rel hD5 wD5 noD5 q5
      have ad6 : Adv H4 W5 (upd H4 Dl (.lst (va ++ [v]))) W5 := fun b u e w => ⟨by rw [upd_ne (fun z => w (by rw [z]; exact wD5))]; exact e, w⟩
      refine ⟨ρ7, W5, acc ++ [y], rs, va ++ [v], ?_, ?_, ?_, fun a h => ?_, ?_, upd_same, wD5, ?_, (ra5.append (RepDs.one r5)).adv gS5.rel.wl ad6, e2, by rw [List.append_assoc]; exact ef⟩
      · rw [← weq]; exact wipe_rel R6 hb
      · intro b u hbu nb
        have ne : b ≠ Dl := fun z => by rw [z, nD] at hbu; cases hbu
        obtain ⟨h1, n1, w1⟩ := S b u hbu nb
        obtain ⟨h2, n2, w2⟩ := gS5.step b u h1 n1
        refine ⟨by rw [upd_ne ne]; exact h2, fun j z => ?_, w2.trans w1⟩
        rw [← weq] at z
        exact n2 j (wipe_ownU.mp z).1
      · have := M.trans (mS5.trans (wipe_mon (vs := own)))
        rw [weq] at this; exact this
      · by_cases ea : a = Dl
        · subst ea; rw [upd_same] at h; cases h
        · rw [upd_ne ea] at h; exact dom a (gS5.dom a h)
      · intro j b x h
        have hn : j ∉ own := fun z => wipeR_in z h
        have h1 := (gS5.lk j b x (lk j b x h)).1
        rw [wipeR_get hn]; exact h1
      · intro j z
        rw [← weq] at z
        exact noD5 j (wipe_own.mp z).1
/-- a comprehension's reading -/
theorem comp_tLc (tk : T.K = X.K) {elt : Ex} {tg : Tg} {it : Ie} {ifs : To} {own : List Nat} (hb : ∀ i ∈ own, T.bm i = none) (htg : ∀ i ∈ tgs tg, i ∈ own) {Q : VK} (h : tE X T F Z (.comp elt tg it ifs own) σ H Q) :
    tLc (tI X T F Z it) (gT X.K tg) (tCl X T F Z0 ifs) (tE X T F Z0 elt) own σ H Q := by
  obtain ⟨ρ, W, R, h⟩ := h
  refine ⟨ρ, W, R, (Post.bind h).imp fun lp ρ1 h J H1 W1 g1 feed Dl nD => ?_⟩
  obtain ⟨l, p⟩ := lp
  dsimp only at h feed
  -- the turns
  have noerr : ∀ {ds : List D} {ρ : Env'}, NoErr (mapR (turnF F elt tg ifs own) ds ρ) := by
    intro ds
    induction ds with
    | nil => intro ρ; exact .ok
    | cons d ds ih =>
      intro ρ
      refine .bind ?_ fun _ => .bind ih fun _ => .ok
      refine .bind .asgT fun _ => .bind .quiet fun c => ?_
      split
      · exact .bind .quiet fun _ => .bind .of fun _ => .ok
      · exact .ok
  obtain ⟨⟨fin, ρe⟩, em, h⟩ := Post.val noerr h
  obtain ⟨ρ', eu, h⟩ := Post.val .unlock h
  obtain ⟨hz, h⟩ := Post.need h
  have gl := lock_go g1.rel p
  have Rb := gl.rel
  -- the new list is laid
  have o1 := Out.own Rb nD (d := .lst []) (o := .lst []) ⟨[], rfl, rfl⟩
  have nO : ∀ j, ¬ OwnA (wipe σ own) (wipeR (lockP p ρ1).2 own) j Dl := fun j z => by
    obtain ⟨_, u, e, _⟩ := Rb.ownA (wipe_own.mp z).1
    rw [nD] at e; cases e
  have idem : ∀ {ρ : Env'}, wipeR (wipeR ρ own) own = wipeR ρ own := fun {ρ} => by
    apply List.ext_getElem?
    intro i
    by_cases hm : i ∈ own
    · have h1 : ∀ ρ : Env', ρ.length = (wipeR ρ own).length := fun ρ => (wipeR_len own).symm
      have key : ∀ (ρ : Env') (s : S), (wipeR ρ own)[i]? ≠ some (some s) := fun ρ s => wipeR_in hm
      have a1 : (wipeR (wipeR ρ own) own)[i]? = if i < ρ.length then some none else none := by
        by_cases z : i < ρ.length
        · rw [if_pos z]
          have hl : i < (wipeR (wipeR ρ own) own).length := by rw [wipeR_len, wipeR_len]; exact z
          rw [List.getElem?_eq_getElem hl]
          cases q : (wipeR (wipeR ρ own) own)[i] with
          | none => rfl
          | some s => exact absurd (by rw [List.getElem?_eq_getElem hl, q]) (key (wipeR ρ own) s)
        · rw [if_neg z, List.getElem?_eq_none (by rw [wipeR_len, wipeR_len]; omega)]
      have a2 : (wipeR ρ own)[i]? = if i < ρ.length then some none else none := by
        by_cases z : i < ρ.length
        · rw [if_pos z]
          have hl : i < (wipeR ρ own).length := by rw [wipeR_len]; exact z
          rw [List.getElem?_eq_getElem hl]
          cases q : (wipeR ρ own)[i] with
          | none => rfl
          | some s => exact absurd (by rw [List.getElem?_eq_getElem hl, q]) (key ρ s)
        · rw [if_neg z, List.getElem?_eq_none (by rw [wipeR_len]; omega)]
      rw [a1, a2]
    · rw [wipeR_get hm]
  have start : CInv T F elt tg ifs own l fin ρe σ H1 (lockP p ρ1).2 W1 Dl 0 (upd H1 Dl (.lst [])) := by
    refine ⟨wipeR (lockP p ρ1).2 own, (fun x => W1 x ∨ x = Dl), [], fin, [], ?_, ?_, fun _ _ z => (by rw [idem] at z; exact z), o1.go.dom, by rw [idem]; exact .refl, upd_same, .inr rfl, by rw [idem]; exact nO, rfl, em, rfl⟩
    · rw [idem]; exact wipe_rel o1.go.rel hb
    · rw [idem]
      intro b u hbu nb
      have ne : b ≠ Dl := fun z => by rw [z, nD] at hbu; cases hbu
      exact ⟨by rw [upd_ne ne]; exact hbu, nb, ⟨fun z => z.elim id fun e => absurd e ne, .inl⟩⟩
  have tkk : gT X.K tg = gT T.K tg := by rw [tk]
  refine ⟨fun i m H => m = l.length - i ∧ i ≤ l.length ∧ CInv T F elt tg ifs own l fin ρe σ H1 (lockP p ρ1).2 W1 Dl i H, ⟨_, rfl, Nat.zero_le _, start⟩, ?_⟩
  rintro i m H2 ⟨rfl, hi, C⟩
  have feedAt : ∀ Wi ρi, Rel T (wipe σ own) H2 (wipeR ρi own) Wi → Step (wipe σ own) H1 (wipeR (lockP p ρ1).2 own) W1 (wipe σ own) H2 (wipeR ρi own) Wi →
      (∀ (i : Nat) (d : D), l[i]? = some d → J.go i H2 ∧ ∀ x H3, J.yld i H2 x H3 → Lay H2 H3 ∧ RepD T.K H3 Wi x d) ∧ J.stop l.length H2 := fun Wi ρi Ri Si =>
    feed _ _ _ _ Ri (Step.trans (σ := σ) (ρ := (lockP p ρ1).2) (wipe_step (vs := own)) Si)
  obtain ⟨ρi, Wi, acc, rest, va, Ri, Si, Mi, domi, lki, hD, wD, noD, ra, emi, ef⟩ := id C.ex
  by_cases hlt : i < l.length
  · have hd : l[i]? = some l[i] := List.getElem?_eq_getElem hlt
    refine .inr ⟨((feedAt Wi ρi Ri Si).1 i _ hd).1, CInv T F elt tg ifs own l fin ρe σ H1 (lockP p ρ1).2 W1 Dl (i + 1), fun H' c => ⟨l.length - (i + 1), by omega, rfl, hlt, c⟩, fun x H' y => ?_⟩
    rw [tkk]
    exact comp_turn hb htg hz C hd (((feedAt Wi ρi Ri Si).1 i _ hd).2 x H' y).1 (fun W' ρ' R' S' => (((feedAt W' ρ' R' S').1 i _ hd).2 x H' y).2) (fun _ c => c) nD
  · have e : i = l.length := by omega
    subst e
    refine .inl ⟨(feedAt Wi ρi Ri Si).2, ?_⟩
    rw [List.drop_length] at emi
    cases emi
    rw [List.append_nil] at ef
    subst ef
    obtain ⟨Rf, Sf, Mf, Lf⟩ := back_rel Rb hb Ri Si Mi domi lki
    have Ru := unlock_rel Rf eu
    obtain ⟨ow, _, _⟩ := unlock_own (σ := σ) eu
    have Su := unlock_step g1.rel Sf eu fun _ _ _ _ => rfl
    have Lu := unlock_lk Lf eu
    have noD2 : ∀ j, ¬ OwnA σ ρ' j Dl := fun j z => by
      have z1 := Mf j Dl ((ow j Dl).mp z)
      obtain ⟨_, u, e, _⟩ := Rb.ownA z1
      rw [nD] at e; cases e
    refine h _ _ Wi ⟨⟨Ru, g1.step.trans Su, fun j a z => g1.mon j a (gl.mon j a (Mf j a ((ow j a).mp z))), fun a z => g1.dom a (domi a z), g1.lk.trans Lu⟩, ⟨Dl, _, rfl, hD, wD, noD2, Rb.fzk Dl nD, _, rfl, ra⟩, fun _ _ a e => by cases e; exact g1.dom _ nD⟩
end
end Dv

set_option Elab.async false
set_option linter.all false
set_option maxRecDepth 100000
namespace Dv
open PySem PySem.Spec PyProof.Rows L2

/-! ### the text is what the tree says -/
/-- what is known of a module: free names, names of built-in functions, defs (parameters, least arguments); the number of parameters of the def at hand -/
structure Gn where
  free : List Str
  bt : List (Str × String)
  fs : List (Str × Nat × Nat)
structure Env1 (X : Cx) (T : Tc) (F : Fn) (Z : WX) (G : Gn) (np : Nat) : Prop where
  tk : T.K = X.K
  calm : X.calm = true
  nd : X.N.Nodup
  hu : X.A.units + 65 < cLine
  glo : ∀ x d, F.glo x = some d → ∃ u v, X.mg x = some u ∧ RelV v u ∧ ∀ H W, RepD X.K H W v d
  free : ∀ x ∈ G.free, X.mg x = none
  bt : ∀ p ∈ G.bt, X.mg p.1 = some (.builtin p.2)
  fs : ∀ p ∈ G.fs, Callee X F p.1 p.2.1 p.2.2
  tz : Takes X Z
  bm : ∀ i a, T.bm i = some a → i < np
def isVis (sc : Scope) (x : Str) : Bool := match sc.names.lookup x with
  | some .local => true
  | some .cell => true
  | some .free => true
  | _ => false
def isLoc (sc : Scope) (x : Str) : Bool := match sc.names.lookup x with
  | some .local => true
  | some .cell => true
  | _ => false
def isGl (sc : Scope) (x : Str) : Bool := match sc.names.lookup x with
  | some .globalImplicit => true
  | _ => false
def okName (x : Str) : Bool := !(x == ("__debug__" : Str)) && !(x == ("__classdict__" : Str)) && !(x == ("__name__" : Str))
def notStar : Expr → Bool
  | .Starred _ _ => false
  | _ => true
def notSlice : Expr → Bool
  | .Slice _ _ _ _ => false
  | _ => true
def notSet : Expr → Bool
  | .Set _ _ _ => false
  | _ => true
/-- an expression whose test is its value's truth -/
def plainTest : Expr → Bool
  | .UnaryOp .Not _ _ => false
  | .BoolOp _ _ _ => false
  | .IfExp _ _ _ _ => false
  | .Compare _ _ _ _ => false
  | _ => true
def notSuper : Expr → Bool
  | .Call _ _ _ _ => false
  | _ => true
def isName (x : Str) : Expr → Bool
  | .Name y _ => decide (x = y)
  | _ => false
def cstOk : D → Const → Bool
  | .int i, .int j => decide (i = j)
  | .bl b, .bool c => b == c
  | .non, .none => true
  | .str x, .str y => decide (x = y)
  | _, _ => false
def opEq : Operator → Operator → Bool
  | .Add, .Add => true | .Sub, .Sub => true | .Mult, .Mult => true | .FloorDiv, .FloorDiv => true | .Mod, .Mod => true | .Pow, .Pow => true | .LShift, .LShift => true
  | _, _ => false
def cmEq : CmpOp → CmpOp → Bool
  | .Eq, .Eq => true | .NotEq, .NotEq => true | .Lt, .Lt => true | .LtE, .LtE => true | .Gt, .Gt => true | .GtE, .GtE => true | .Is, .Is => true | .IsNot, .IsNot => true | .In, .In => true | .NotIn, .NotIn => true
  | _, _ => false
def Bl.nm : Bl → Str
  | .len => "len" | .abs => "abs" | .int => "int" | .tuple => "tuple" | .list => "list" | .all => "all" | .any => "any" | .sum => "sum" | .gcd => "gcd" | .min2 => "min" | .max2 => "max" | .str => "str"
def Ty.sn : Ty → Str
  | .tup => "tuple" | .lst => "list" | .int => "int" | .str => "str" | .bool => "bool"
def ckTg (N : List Str) (sc : Scope) : Tg → Expr → Bool
  | .nm i, .Name x _ => decide (N[i]? = some x) && isLoc sc x
  | .tp l, .Tuple es _ _ => l.length == es.length && (l.zip es).all fun p => match p.2 with
    | .Name x _ => decide (N[p.1]? = some x) && isLoc sc x
    | _ => false
  | _, _ => false

def asCall : Expr → Option (Str × List Expr)
  | .Call (.Name x _) l [] _ => some (x, l)
  | _ => none
def isTup : Expr → Bool
  | .Tuple _ _ _ => true
  | _ => false
def ckB (G : Gn) (b : Bl) (x : Str) : Bool := match b with
  | .gcd => decide ((x, "math.gcd") ∈ G.bt)
  | _ => decide (x ∈ G.free)
mutual
def ckE (G : Gn) (N : List Str) (np : Nat) (sc : Scope) : Ex → Expr → Bool
  | .var i, .Name x _ => decide (N[i]? = some x) && isVis sc x && okName x
  | .cst d, .Constant c _ _ => cstOk d c
  | .glo x, .Name y _ => decide (x = y) && isGl sc x && okName x
  | .bin op a b, .BinOp a' op' b' _ => opEq op op' && ckE G N np sc a a' && ckE G N np sc b b'
  | .neg a, .UnaryOp .USub a' _ => ckE G N np sc a a'
  | .cmp op a b, .Compare a' [op'] [b'] _ => cmEq op op' && notSet b' && ckE G N np sc a a' && ckE G N np sc b b'
  | .chn op o2 a b c, .Compare a' [op', o2'] [b', c'] _ => cmEq op op' && cmEq o2 o2' && notSet c' && ckE G N np sc a a' && ckE G N np sc b b' && ckE G N np sc c c'
  | .and_ l, .BoolOp .And l' _ => !l'.isEmpty && ckEs G N np sc l l'
  | .or_ l, .BoolOp .Or l' _ => !l'.isEmpty && ckEs G N np sc l l'
  | .not_ a, .UnaryOp .Not a' _ => ckE G N np sc a a'
  | .ite c a b, .IfExp c' a' b' _ => ckT G N np sc c c' && ckE G N np sc a a' && ckE G N np sc b b'
  | .tup l, .Tuple l' _ _ => ckEs G N np sc l l'
  | .lst l, .List l' _ => ckEs G N np sc l l'
  | .idx a b, .Subscript a' b' _ => notSlice b' && ckE G N np sc a a' && ckE G N np sc b b'
  | .slc a lo hi, .Subscript a' (.Slice lo' hi' none _) _ => ckE G N np sc a a' && ckO G N np sc lo lo' && ckO G N np sc hi hi'
  | .call f l, .Call (.Name x _) l' [] _ => decide (f = x) && isGl sc x && okName x && (G.fs.any fun p => decide (p.1 = f) && decide (p.2.2 ≤ l'.length) && decide (l'.length ≤ p.2.1)) && ckEs G N np sc l l'
  | .blt b l, .Call (.Name x _) l' [] _ => decide (x = b.nm) && isGl sc x && ckB G b x && !l'.isEmpty && ckEs G N np sc l l'
  | .isi t a, e' => (match asCall e' with
    | some (x, [a', .Name y _]) => decide (x = "isinstance") && isGl sc x && decide (y = t.sn) && isGl sc y && decide (x ∈ G.free) && decide (y ∈ G.free) && notStar a' && ckE G N np sc a a'
    | _ => false)
  | .met m o l, .Call (.Attribute o' x apos) l' [] pos => decide (x = m.nm) && notSuper o' && apos.endLine == pos.line && !l'.isEmpty && decide (l'.length < 28) && ckE G N np sc o o' && ckEs G N np sc l l'
  | .chg m i l, .Call (.Attribute (.Name y _) x apos) l' [] pos => decide (x = m.nm) && decide (N[i]? = some y) && isVis sc y && okName y && apos.endLine == pos.line && decide (l'.length < 28) && (match m, l' with
    | .pop, [] => true
    | .pop, _ => false
    | _, [] => false
    | _, _ => true) && ckEs G N np sc l l'
  | .comp elt tg it ifs own, .ListComp elt' [⟨tg', it', ifs', as⟩] scope _ => decide (as = 0) && ckI G N np sc it it' tg' && notSet it' && blkC N sc scope (own.map fun i => (N.getD i ⟨#[]⟩, i)) && (own.all fun i => decide (np ≤ i)) && ((tgs tg).all fun i => decide (i ∈ own)) &&
      ckTg N scope tg tg' && ckC G N np (relS scope sc) ifs ifs' && ckE G N np (relS scope sc) elt elt'
  | _, _ => false
def ckEs (G : Gn) (N : List Str) (np : Nat) (sc : Scope) : Exs → List Expr → Bool
  | .nil, [] => true
  | .cons e l, e' :: l' => notStar e' && ckE G N np sc e e' && ckEs G N np sc l l'
  | _, _ => false
def ckO (G : Gn) (N : List Str) (np : Nat) (sc : Scope) : Eo → Option Expr → Bool
  | .none, none => true
  | .some e, some e' => ckE G N np sc e e'
  | _, _ => false
def ckT (G : Gn) (N : List Str) (np : Nat) (sc : Scope) : Tx → Expr → Bool
  | .val e, e' => plainTest e' && ckE G N np sc e e'
  | .cmp op a b, .Compare a' [op'] [b'] _ => cmEq op op' && notSet b' && ckE G N np sc a a' && ckE G N np sc b b'
  | .and_ l, .BoolOp .And l' _ => !l'.isEmpty && ckTs G N np sc l l'
  | .or_ l, .BoolOp .Or l' _ => !l'.isEmpty && ckTs G N np sc l l'
  | .not_ t, .UnaryOp .Not t' _ => ckT G N np sc t t'
  | _, _ => false
def ckTs (G : Gn) (N : List Str) (np : Nat) (sc : Scope) : Txs → List Expr → Bool
  | .nil, [] => true
  | .cons e l, e' :: l' => ckT G N np sc e e' && ckTs G N np sc l l'
  | _, _ => false
def ckC (G : Gn) (N : List Str) (np : Nat) (sc : Scope) : To → List Expr → Bool
  | .none, [] => true
  | .some t, [t'] => ckT G N np sc t t'
  | _, _ => false
def ckI (G : Gn) (N : List Str) (np : Nat) (sc : Scope) : Ie → Expr → Expr → Bool
  | .seq e, e', _ => ckE G N np sc e e'
  | .rng a, e', _ => (match asCall e' with
    | some (x, [a']) => decide (x = "range") && isGl sc x && decide (x ∈ G.free) && notStar a' && ckE G N np sc a a'
    | _ => false)
  | .rng2 a b, e', _ => (match asCall e' with
    | some (x, [a', b']) => decide (x = "range") && isGl sc x && decide (x ∈ G.free) && notStar a' && notStar b' && ckE G N np sc a a' && ckE G N np sc b b'
    | _ => false)
  | .enm e, e', tg' => isTup tg' && (match asCall e' with
    | some (x, [a']) => decide (x = "enumerate") && isGl sc x && decide (x ∈ G.free) && notStar a' && ckE G N np sc e a'
    | _ => false)
  | .zip l, e', tg' => isTup tg' && (match asCall e' with
    | some (x, l') => decide (x = "zip") && isGl sc x && decide (x ∈ G.free) && l'.length == 2 && ckEs G N np sc l l'
    | _ => false)
end
end Dv

set_option Elab.async false
set_option linter.all false
set_option maxRecDepth 100000
namespace Dv
open PySem PySem.Spec PyProof.Rows L2

section
variable {X : Cx} {Z : WX} {T : Tc} {F : Fn} {G : Gn} {np : Nat} {σ σ' : Sg} {H H0 H1 H2 H' : Hp} {ρ ρ1 ρ2 ρ' ρf ρb ρq : Env'} {W W1 W2 W' : AS} {K : PySem.W.Frag} {ds : List D} {sc : Scope} {N : List Str}
theorem and2 {a b : Bool} (h : (a && b) = true) : a = true ∧ b = true := Bool.and_eq_true_iff.mp h
theorem not_f {a : Bool} (h : (!a) = true) : a = false := by cases a <;> simp_all
theorem vis_of {x : Str} (h : isVis sc x = true) : Vis sc x := by
  unfold isVis at h
  split at h <;> first | (rename_i e; exact .inl e) | (rename_i e; exact .inr (.inl e)) | (rename_i e; exact .inr (.inr e)) | cases h
theorem gl_of {x : Str} (h : isGl X.env.scope x = true) : Gl X x := by
  unfold isGl at h
  split at h
  · rename_i e; exact e
  · cases h
theorem name_of {x : Str} (h : okName x = true) : (x == ("__debug__" : Str)) = false ∧ (x == ("__classdict__" : Str)) = false ∧ x ≠ "__name__" := by
  obtain ⟨h1, h2⟩ := and2 h
  obtain ⟨h3, h4⟩ := and2 h1
  exact ⟨not_f h3, not_f h4, fun e => by rw [e] at h2; exact absurd (not_f h2) (by decide +kernel)⟩
theorem star_of {a : Expr} {l : List Expr} {env : Env} (h : notStar a = true) : starEach (a :: l) env = (false, eval a env) :: starEach l env := by
  cases a <;> first | rfl | cases h
theorem stars_of : ∀ {l : List Expr} {env : Env}, (∀ a ∈ l, notStar a = true) → starEach l env = l.map fun a => (false, eval a env)
  | [], _, _ => rfl
  | a :: l, env, h => by rw [star_of (h a List.mem_cons_self), stars_of fun b hb => h b (List.mem_cons_of_mem _ hb)]; rfl
theorem plain_of {l : List Expr} {env : Env} {pos : Pos} (h : ∀ a ∈ l, notStar a = true) : (backTo pos (starEach l env)).any (·.1) = false := by
  rw [stars_of h]
  unfold backTo
  induction l with
  | nil => rfl
  | cons a l ih =>
    rw [List.map_cons, List.map_cons, List.any_cons, ih fun b hb => h b (List.mem_cons_of_mem _ hb)]
    rfl
theorem few_of {l : List Expr} {env : Env} {pos : Pos} (h : ∀ a ∈ l, notStar a = true) (hl : l.length < 28) :
    ((backTo pos (starEach l env)).all (fun x => !x.1) && (backToKw pos (keywordEach [] env)).all (fun x => x.1.isSome) && decide (l.length + ([] : List Keyword).length + (if ([] : List Keyword).isEmpty then 0 else 1) < 30)) = true := by
  have h1 : (backTo pos (starEach l env)).all (fun x => !x.1) = true := by
    have := plain_of (env := env) (pos := pos) h
    rw [List.all_eq_not_any_not]
    simp only [Bool.not_not]
    rw [this]; rfl
  rw [h1]
  have h2 : (backToKw pos (keywordEach [] env)).all (fun x => x.1.isSome) = true := rfl
  rw [h2]
  simp
  omega
theorem ckEs_star : ∀ {l : Exs} {l' : List Expr}, ckEs G N np sc l l' = true → ∀ a ∈ l', notStar a = true
  | .nil, [], _, _, h => by cases h
  | .cons e l, e' :: l', h, a, ha => by
    obtain ⟨h1, h2⟩ := and2 h
    obtain ⟨h3, h4⟩ := and2 h1
    rcases List.mem_cons.mp ha with rfl | ha
    · exact h3
    · exact ckEs_star h2 a ha
  | .nil, _ :: _, h, _, _ => by cases h
  | .cons _ _, [], h, _, _ => by cases h
theorem evs_length : ∀ {l : Exs} {l' : List Expr} {ρ : Env'} {ps : List P} {ρ' : Env'}, ckEs G N np sc l l' = true → evs F l ρ = .ok (ps, ρ') → ps.length = l'.length
  | .nil, [], _, _, _, _, e => by cases e; rfl
  | .cons e l, e' :: l', ρ, ps, ρ', h, q => by
    obtain ⟨h1, h2⟩ := and2 h
    obtain ⟨⟨p, ρ1⟩, e1, q⟩ := bind_ok (show (ev F e ρ).bind (fun r => (evs F l r.2).bind fun q => .ok (r.1 :: q.1, q.2)) = .ok (ps, ρ') from q)
    obtain ⟨⟨ps2, ρ2⟩, e2, q⟩ := bind_ok q
    cases q
    rw [List.length_cons, List.length_cons, evs_length h2 e2]
  | .nil, _ :: _, _, _, _, h, _ => by cases h
  | .cons _ _, [], _, _, _, h, _ => by cases h
theorem true_of {a : Expr} {env : Env} (h : plainTest a = true) : ∀ whole, isTrue a env whole = (do let v ← whole; standAt a.pos; holding [v] (truthy v)) := by
  cases a with
  | UnaryOp op x p => cases op <;> first | (intro _; rfl) | cases h
  | _ => first | (intro _; rfl) | cases h
theorem base_of {a : Expr} {n : Str} {env : Env} (h : notSuper a = true) : attributeBase a n env (eval a env) = eval a env := by
  cases a <;> first | rfl | cases h
theorem marks_of {b : Expr} {op : CmpOp} (h : notSet b = true) : behindInMarks op b = false := by
  cases b <;> first | rfl | cases h
theorem fold_of {a : Expr} {env : Env} (h : notSet a = true) : ∀ x, foldedSetIterable a env x = pure x := by
  cases a <;> first | (intro _; rfl) | cases h
theorem ix_of {b : Expr} (h : notSlice b = true) : PlainIx b := by
  cases b <;> first | (intro _ _; rfl) | cases h
theorem cm_of {a b : CmpOp} (h : cmEq a b = true) : a = b := by cases a <;> cases b <;> first | rfl | cases h
theorem op_of {a b : Operator} (h : opEq a b = true) : a = b := by cases a <;> cases b <;> first | rfl | cases h

/-- a comprehension's block -/
theorem Env1.blk (E : Env1 X T F Z G np) (s : Shared) (H : Hp) (scope : Scope) (cenv : Env) (fp : List Addr) : Env1 (X.blk s H scope cenv fp) T F Z0 G np :=
  ⟨E.tk, E.calm, E.nd, E.hu, E.glo, E.free, E.bt, fun p hp => ⟨(E.fs p hp).ex⟩, takes0, E.bm⟩
/-- the targets -/
theorem tg_ok (hc : X.calm = true) (hN : X.N.Nodup) {tg : Tg} {tg' : Expr} (hl : ∀ x, isLoc sc x = true → Loc X.env.scope x ∧ (X.fn x = true ∨ X.env.scope.names.lookup x = some .local)) (h : ckTg X.N sc tg tg' = true) : PG X tg' (gT X.K tg) := by
  cases tg with
  | nm i =>
    cases tg' with
    | Name x pos =>
      obtain ⟨h1, h2⟩ := and2 h
      obtain ⟨a, b⟩ := hl x h2
      exact pg_name hN (of_decide_eq_true h1) a b
    | _ => cases h
  | tp l =>
    cases tg' with
    | Tuple es k pos =>
      obtain ⟨h1, h2⟩ := and2 h
      have key : ∀ {l : List Nat} {es : List Expr}, l.length = es.length → ((l.zip es).all fun p => match p.2 with
          | .Name x _ => decide (X.N[p.1]? = some x) && isLoc sc x
          | _ => false) = true → PGs X es (gNames l) ∧ (assignEach es X.env).length = l.length ∧ (assignEach es X.env).findIdx? (·.1) = none := by
        intro l
        induction l with
        | nil =>
          intro es e _
          cases es with
          | nil => exact ⟨pgs_nil, rfl, rfl⟩
          | cons _ _ => cases e
        | cons i l ih =>
          intro es e h
          cases es with
          | nil => cases e
          | cons a es =>
            rw [List.zip_cons_cons, List.all_cons] at h
            obtain ⟨h1, h2⟩ := and2 h
            obtain ⟨q1, q2, q3⟩ := ih (by simpa using e) h2
            cases a with
            | Name x p =>
              obtain ⟨h3, h4⟩ := and2 h1
              obtain ⟨a, b⟩ := hl x h4
              refine ⟨pgs_cons (pg_name hN (of_decide_eq_true h3) a b) q1, ?_, ?_⟩
              · show (assignEach es X.env).length + 1 = l.length + 1
                rw [q2]
              · show ((false, _) :: assignEach es X.env).findIdx? (·.1) = none
                rw [List.findIdx?_cons, q3]
                rfl
            | _ => cases h1
      obtain ⟨q1, q2, q3⟩ := key (by simpa using h1) h2
      exact pg_tup hc q1 q2 q3
    | _ => cases h
theorem bl_name (b : Bl) (ng : b ≠ .gcd) : (∃ id, b.f = .builtin id ∧ bootBuiltins b.nm = some (.builtin id)) ∨ ∃ t, b.f = .type t ∧ bootBuiltins b.nm = some (.type t) := by
  cases b with
  | gcd => exact absurd rfl ng
  | int => exact .inr ⟨_, rfl, by decide +kernel⟩
  | tuple => exact .inr ⟨_, rfl, by decide +kernel⟩
  | list => exact .inr ⟨_, rfl, by decide +kernel⟩
  | str => exact .inr ⟨_, rfl, by decide +kernel⟩
  | _ => exact .inl ⟨_, rfl, by decide +kernel⟩
theorem bl_ok_name (b : Bl) : okName b.nm = true := by
  cases b <;> decide +kernel
theorem ty_ok_name (b : Ty) : okName b.sn = true := by cases b <;> decide +kernel
theorem ty_boot (b : Ty) : bootBuiltins b.sn = some (.type b.nm) := by cases b <;> decide +kernel
theorem Mm.facts : ∀ m : Mm, Slot "list" m.nm m.id ∧ typeOf (.builtin m.id) = pure (.type "method_descriptor") := fun m => by
  cases m with
  | append => exact ⟨PySem.F.slot_list_append, PySem.F.type_list_append⟩
  | pop => exact ⟨PySem.F.slot_list_pop, PySem.F.type_list_pop⟩
  | popAt => exact ⟨PySem.F.slot_list_pop, PySem.F.type_list_pop⟩
  | insert => exact ⟨PySem.F.slot_list_insert, PySem.F.type_list_insert⟩
theorem Me.facts : ∀ m : Me, PlainAttrs m.ty ∧ Slot m.ty m.nm m.id ∧ typeOf (.builtin m.id) = pure (.type "method_descriptor") := fun m => by
  cases m with
  | join => exact ⟨PySem.F.plainAttrs_str, PySem.F.slot_str_join, PySem.F.type_str_join⟩
  | split => exact ⟨PySem.F.plainAttrs_str, PySem.F.slot_str_split, PySem.F.type_str_split⟩
  | index => exact ⟨PySem.F.plainAttrs_list, PySem.F.slot_list_index, PySem.F.type_list_index⟩
theorem asCall_of {e : Expr} {x : Str} {l : List Expr} (h : asCall e = some (x, l)) : ∃ p pos, e = .Call (.Name x p) l [] pos := by
  unfold asCall at h
  split at h
  · cases h; exact ⟨_, _, rfl⟩
  · cases h
/-- a call of a built-in by its name -/
theorem call_bl {E : Env1 X T F Z G np} {b : Bl} {x : Str} {p pos : Pos} {e' : Expr} {l' : List Expr} {t : TA} (hx : x = b.nm) (hg : isGl X.env.scope x = true) (hb : ckB G b x = true) (ha : PA X (e' :: l') t) (st : ∀ a ∈ e' :: l', notStar a = true) :
    PE X (.Call (.Name x p) (e' :: l') [] pos) (tCB (rBl X.K b) t) := by
  subst hx
  obtain ⟨n1, n2, n3⟩ := name_of (bl_ok_name b)
  have he : starEach (e' :: l') X.env = (false, eval e' X.env) :: starEach l' X.env := star_of (st e' List.mem_cons_self)
  have hpl : (backTo pos (starEach l' X.env)).any (·.1) = false := plain_of fun a h => st a (List.mem_cons_of_mem _ h)
  have cr := cr_bl (X := X) E.calm b
  have hm : if b = .gcd then (b.nm, "math.gcd") ∈ G.bt else b.nm ∈ G.free := by
    cases b with
    | gcd => rw [if_pos rfl]; exact of_decide_eq_true hb
    | _ => rw [if_neg (by intro z; cases z)]; exact of_decide_eq_true hb
  by_cases eg : b = .gcd
  · subst eg
    rw [if_pos rfl] at hm
    exact pe_callBfun cr (gl_of hg) (E.bt _ hm) ha n1 he hpl
  · rw [if_neg eg] at hm
    rcases bl_name b eg with ⟨id, h1, h2⟩ | ⟨id, h1, h2⟩
    · rw [h1] at cr
      exact pe_callB cr (gl_of hg) (E.free _ hm) h2 ha n3 n1 he hpl
    · rw [h1] at cr
      exact pe_callTy cr (gl_of hg) (E.free _ hm) h2 ha n3 n1 he hpl
end
end Dv

set_option Elab.async false
set_option linter.all false
set_option maxRecDepth 100000
set_option maxHeartbeats 4000000
namespace Dv
open PySem PySem.Spec PyProof.Rows L2

section
variable {T : Tc} {F : Fn} {G : Gn} {np : Nat}
theorem cst_ok {X : Cx} {d : D} {c : Const} {k : Nat} {pos : Pos} (h : cstOk d c = true) : ∃ v, PE X (.Constant c k pos) (tC v) ∧ ∀ H W, RepD X.K H W v d := by
  cases d with
  | int i =>
    cases c with
    | int j => rw [of_decide_eq_true h]; exact ⟨_, pe_int, fun _ _ => rfl⟩
    | _ => first | cases h | simp [ckE, ckI, ckT, ckC] at h
  | bl b =>
    cases c with
    | bool j => rw [eq_of_beq h]; exact ⟨_, pe_bl, fun _ _ => rfl⟩
    | _ => first | cases h | simp [ckE, ckI, ckT, ckC] at h
  | non =>
    cases c with
    | none => exact ⟨_, pe_non, fun _ _ => rfl⟩
    | _ => first | cases h | simp [ckE, ckI, ckT, ckC] at h
  | str x =>
    cases c with
    | str y => rw [of_decide_eq_true h]; exact ⟨_, pe_str, fun _ _ => rfl⟩
    | _ => first | cases h | simp [ckE, ckI, ckT, ckC] at h
  | _ => cases c <;> cases h

mutual
theorem snd_E : ∀ (e : Ex) {X : Cx} {Z : WX} (E : Env1 X T F Z G np) {e' : Expr}, ckE G X.N np X.env.scope e e' = true → PE X e' (tE X T F Z e)
  | .var i, X, Z, E, e', h => by
    cases e' with
    | Name x p =>
      obtain ⟨h1, h2⟩ := and2 h
      obtain ⟨h3, h4⟩ := and2 h1
      obtain ⟨n1, n2, n3⟩ := name_of h2
      exact s_var (pe_var (of_decide_eq_true h3) (vis_of h4) n1 n2)
    | _ => first | cases h | simp [ckE, ckI, ckT, ckC] at h
  | .cst d, X, Z, E, e', h => by
    cases e' with
    | Constant c k p =>
      obtain ⟨v, p, q⟩ := cst_ok (X := X) (k := k) (pos := p) h
      exact s_cst d v _ p (by rw [E.tk]; exact q)
    | _ => first | cases h | simp [ckE, ckI, ckT, ckC] at h
  | .glo x, X, Z, E, e', h => by
    cases e' with
    | Name y p =>
      obtain ⟨h1, h2⟩ := and2 h
      obtain ⟨h3, h4⟩ := and2 h1
      obtain ⟨n1, n2, n3⟩ := name_of h2
      have hx : x = y := of_decide_eq_true h3
      subst hx
      refine s_glo fun d hd => ?_
      obtain ⟨u, v, m, r, q⟩ := E.glo x d hd
      exact ⟨v, pe_glob (gl_of h4) m r n1, by rw [E.tk]; exact q⟩
    | _ => first | cases h | simp [ckE, ckI, ckT, ckC] at h
  | .bin op a b, X, Z, E, e', h => by
    cases e' with
    | BinOp a' op' b' p =>
      obtain ⟨h1, h2⟩ := and2 h
      obtain ⟨h3, h4⟩ := and2 h1
      have ho : op = op' := op_of h3
      subst ho
      exact s_bin E.tk (snd_E a E h4) (snd_E b E h2)
    | _ => first | cases h | simp [ckE, ckI, ckT, ckC] at h
  | .neg a, X, Z, E, e', h => by
    cases e' with
    | UnaryOp op a' p =>
      cases op with
      | USub => exact s_neg (snd_E a E h)
      | _ => first | cases h | simp [ckE, ckI, ckT, ckC] at h
    | _ => first | cases h | simp [ckE, ckI, ckT, ckC] at h
  | .cmp op a b, X, Z, E, e', h => by
    cases e' with
    | Compare a' ops bs p =>
      rcases ops with _ | ⟨op', _ | ⟨o2, r⟩⟩
      · first | cases h | simp [ckE, ckI, ckT, ckC] at h
      · rcases bs with _ | ⟨b', _ | ⟨c', r⟩⟩
        · first | cases h | simp [ckE, ckI, ckT, ckC] at h
        · obtain ⟨h1, h2⟩ := and2 h
          obtain ⟨h3, h4⟩ := and2 h1
          obtain ⟨h5, h6⟩ := and2 h3
          have ho : op = op' := cm_of h5
          subst ho
          exact s_cmp E.tk E.hu (marks_of h6) (snd_E a E h4) (snd_E b E h2)
        · first | cases h | simp [ckE, ckI, ckT, ckC] at h
      · first | cases h | simp [ckE, ckI, ckT, ckC] at h
    | _ => first | cases h | simp [ckE, ckI, ckT, ckC] at h
  | .chn op o2 a b c, X, Z, E, e', h => by
    cases e' with
    | Compare a' ops bs p =>
      rcases ops with _ | ⟨op', _ | ⟨o2', _ | ⟨_, _⟩⟩⟩
      · first | cases h | simp [ckE, ckI, ckT, ckC] at h
      · first | cases h | simp [ckE, ckI, ckT, ckC] at h
      · rcases bs with _ | ⟨b', _ | ⟨c', _ | ⟨_, _⟩⟩⟩
        · first | cases h | simp [ckE, ckI, ckT, ckC] at h
        · first | cases h | simp [ckE, ckI, ckT, ckC] at h
        · obtain ⟨h1, h2⟩ := and2 h
          obtain ⟨h3, h4⟩ := and2 h1
          obtain ⟨h5, h6⟩ := and2 h3
          obtain ⟨h7, h8⟩ := and2 h5
          obtain ⟨h9, h10⟩ := and2 h7
          have ho : op = op' := cm_of h9
          have ho2 : o2 = o2' := cm_of h10
          subst ho ho2
          exact s_chn E.tk E.hu (marks_of h8) (snd_E a E h6) (snd_E b E h4) (snd_E c E h2)
        · first | cases h | simp [ckE, ckI, ckT, ckC] at h
      · first | cases h | simp [ckE, ckI, ckT, ckC] at h
    | _ => first | cases h | simp [ckE, ckI, ckT, ckC] at h
  | .and_ l, X, Z, E, e', h => by
    cases e' with
    | BoolOp op l' p =>
      cases op with
      | And =>
        obtain ⟨h1, h2⟩ := and2 h
        cases l' with
        | nil => cases h1
        | cons a' r => exact s_and ((snd_Bs l E h2).1 p)
      | Or => cases h
    | _ => first | cases h | simp [ckE, ckI, ckT, ckC] at h
  | .or_ l, X, Z, E, e', h => by
    cases e' with
    | BoolOp op l' p =>
      cases op with
      | Or =>
        obtain ⟨h1, h2⟩ := and2 h
        cases l' with
        | nil => cases h1
        | cons a' r => exact s_or ((snd_Bs l E h2).2 p)
      | And => cases h
    | _ => first | cases h | simp [ckE, ckI, ckT, ckC] at h
  | .not_ a, X, Z, E, e', h => by
    cases e' with
    | UnaryOp op a' p =>
      cases op with
      | Not => exact s_not (snd_E a E h)
      | _ => first | cases h | simp [ckE, ckI, ckT, ckC] at h
    | _ => first | cases h | simp [ckE, ckI, ckT, ckC] at h
  | .ite c a b, X, Z, E, e', h => by
    cases e' with
    | IfExp c' a' b' p =>
      obtain ⟨h1, h2⟩ := and2 h
      obtain ⟨h3, h4⟩ := and2 h1
      exact s_ite (snd_T c E h3) (snd_E a E h4) (snd_E b E h2)
    | _ => first | cases h | simp [ckE, ckI, ckT, ckC] at h
  | .tup l, X, Z, E, e', h => by
    cases e' with
    | Tuple l' k p => exact s_tup (snd_Es l E h)
    | _ => first | cases h | simp [ckE, ckI, ckT, ckC] at h
  | .lst l, X, Z, E, e', h => by
    cases e' with
    | List l' p => exact s_lst (snd_Es l E h)
    | _ => first | cases h | simp [ckE, ckI, ckT, ckC] at h
  | .idx a b, X, Z, E, e', h => by
    cases e' with
    | Subscript a' b' p =>
      obtain ⟨h1, h2⟩ := and2 (show (notSlice b' && ckE G X.N np X.env.scope a a' && ckE G X.N np X.env.scope b b') = true from h)
      obtain ⟨h3, h4⟩ := and2 h1
      exact s_idx E.tk (ix_of h3) (snd_E a E h4) (snd_E b E h2)
    | _ => first | cases h | simp [ckE, ckI, ckT, ckC] at h
  | .slc a lo hi, X, Z, E, e', h => by
    cases e' with
    | Subscript a' s p =>
      cases s with
      | Slice lo' hi' st p2 =>
        cases st with
        | none =>
          obtain ⟨h1, h2⟩ := and2 h
          obtain ⟨h3, h4⟩ := and2 h1
          exact s_slc E.tk (snd_E a E h3) (snd_O lo E h4) (snd_O hi E h2)
        | some _ => cases h
      | _ => first | cases h | simp [ckE, ckI, ckT, ckC] at h
    | _ => first | cases h | simp [ckE, ckI, ckT, ckC] at h
  | .call f l, X, Z, E, e', h => by
    cases e' with
    | Call g l' kw pos =>
      cases g with
      | Name x p =>
        cases kw with
        | nil =>
          obtain ⟨h1, h2⟩ := and2 h
          obtain ⟨h3, h4⟩ := and2 h1
          obtain ⟨h5, h6⟩ := and2 h3
          obtain ⟨h7, h8⟩ := and2 h5
          have hx : f = x := of_decide_eq_true h7
          subst hx
          obtain ⟨n1, _, _⟩ := name_of h6
          rw [List.any_eq_true] at h4
          obtain ⟨⟨q, qn, qm⟩, qi, qh⟩ := h4
          obtain ⟨q1, q2⟩ := and2 qh
          obtain ⟨q3, q4⟩ := and2 q1
          have hq : q = f := of_decide_eq_true q3
          subst hq
          have cal := E.fs _ qi
          have ha := snd_Es l E h2
          have st := ckEs_star h2
          cases l with
          | nil =>
            cases l' with
            | nil => exact s_call0 E.tk E.tz cal (gl_of h8) (of_decide_eq_true q4) n1
            | cons _ _ => cases h2
          | cons e l =>
            cases l' with
            | nil => cases h2
            | cons e2 l' =>
              exact s_call E.tk E.tz cal (gl_of h8) ha (of_decide_eq_true q4) (of_decide_eq_true q2) (fun {ρ ps ρ'} z => evs_length h2 z) n1 (star_of (st e2 List.mem_cons_self)) (plain_of fun a z => st a (List.mem_cons_of_mem _ z))
        | cons _ _ => first | cases h | simp [ckE, ckI, ckT, ckC, ckEs, ckTs] at h
      | _ => first | cases h | simp [ckE, ckI, ckT, ckC] at h
    | _ => first | cases h | simp [ckE, ckI, ckT, ckC] at h
  | .blt b l, X, Z, E, e', h => by
    cases e' with
    | Call g l' kw pos =>
      cases g with
      | Name x p =>
        cases kw with
        | nil =>
          obtain ⟨h1, h2⟩ := and2 h
          obtain ⟨h3, h4⟩ := and2 h1
          obtain ⟨h5, h6⟩ := and2 h3
          obtain ⟨h7, h8⟩ := and2 h5
          have ha := snd_Es l E h2
          have st := ckEs_star h2
          cases l' with
          | nil => cases h4
          | cons e2 l' =>
            refine s_blt E.calm E.tk fun t ht => ?_
            subst ht
            exact call_bl (E := E) (of_decide_eq_true h7) h8 h6 ha st
        | cons _ _ => first | cases h | simp [ckE, ckI, ckT, ckC, ckEs, ckTs] at h
      | _ => first | cases h | simp [ckE, ckI, ckT, ckC] at h
    | _ => first | cases h | simp [ckE, ckI, ckT, ckC] at h
  | .isi t a, X, Z, E, e', h => by
    simp only [ckE] at h
    split at h
    · rename_i x a' y py hc
      obtain ⟨p, pos, rfl⟩ := asCall_of hc
      obtain ⟨g1, g2⟩ := and2 h
      obtain ⟨g3, g4⟩ := and2 g1
      obtain ⟨g5, g6⟩ := and2 g3
      obtain ⟨g7, g8⟩ := and2 g5
      obtain ⟨g9, g10⟩ := and2 g7
      obtain ⟨g11, g12⟩ := and2 g9
      obtain ⟨g13, g14⟩ := and2 g11
      have hy : y = t.sn := of_decide_eq_true g12
      have hx : x = "isinstance" := of_decide_eq_true g13
      subst hy
      subst hx
      obtain ⟨n1, n2, n3⟩ := name_of (ty_ok_name t)
      have pa := snd_E a E g2
      have py : PE X (.Name t.sn py) (tC (.ty t.nm)) := pe_bltn (gl_of g10) (E.free _ (of_decide_eq_true g6)) (ty_boot t) rfl n3 n1
      refine s_isi E.tk fun u hu => ?_
      subst hu
      exact pe_callB call_isi (gl_of g14) (E.free _ (of_decide_eq_true g8)) PyProof.Rows.boot_isinstance (pa_cons pa (pa_cons py pa_nil (star_of rfl)) (star_of g4)) (by decide +kernel) (by decide +kernel) (star_of g4) (plain_of fun c hc => by
        rcases List.mem_cons.mp hc with rfl | hc
        · rfl
        · cases hc)
    · cases h
  | .met m o l, X, Z, E, e', h => by
    cases e' with
    | Call g l' kw pos =>
      cases g with
      | Attribute o' x apos =>
        cases kw with
        | nil =>
          obtain ⟨h1, h2⟩ := and2 h
          obtain ⟨h3, h4⟩ := and2 h1
          obtain ⟨h5, h6⟩ := and2 h3
          obtain ⟨h7, h8⟩ := and2 h5
          obtain ⟨h9, h10⟩ := and2 h7
          obtain ⟨h11, h12⟩ := and2 h9
          have hx : x = m.nm := of_decide_eq_true h11
          subst hx
          have ho := snd_E o E h4
          have ha := snd_Es l E h2
          have st := ckEs_star h2
          obtain ⟨f1, f2, f3⟩ := Me.facts m
          cases l' with
          | nil => cases h8
          | cons e2 l' =>
            refine s_met E.tk fun u t hu ht => ?_
            subst hu ht
            exact pe_bm f1 f2 f3 (mt_Me E.hu m) ho ha (base_of h12) (few_of st (of_decide_eq_true h6)) h10 (star_of (st e2 List.mem_cons_self)) (plain_of fun a z => st a (List.mem_cons_of_mem _ z))
        | cons _ _ => first | cases h | simp [ckE, ckI, ckT, ckC, ckEs, ckTs] at h
      | _ => first | cases h | simp [ckE, ckI, ckT, ckC] at h
    | _ => first | cases h | simp [ckE, ckI, ckT, ckC] at h
  | .chg m i l, X, Z, E, e', h => by
    cases e' with
    | Call g l' kw pos =>
      cases g with
      | Attribute o' x apos =>
        cases o' with
        | Name y py =>
          cases kw with
          | nil =>
            obtain ⟨h1, h2⟩ := and2 h
            obtain ⟨h3, h4⟩ := and2 h1
            obtain ⟨h5, h6⟩ := and2 h3
            obtain ⟨h7, h8⟩ := and2 h5
            obtain ⟨h9, h10⟩ := and2 h7
            obtain ⟨h11, h12⟩ := and2 h9
            obtain ⟨h13, h14⟩ := and2 h11
            have hx : x = m.nm := of_decide_eq_true h13
            subst hx
            have ha := snd_Es l E h2
            have st := ckEs_star h2
            obtain ⟨n1, n2, n3⟩ := name_of h10
            have pv : PE X (.Name y py) (tVar i) := pe_var (of_decide_eq_true h14) (vis_of h12) n1 n2
            obtain ⟨f2, f3⟩ := Mm.facts m
            cases l' with
            | nil =>
              cases m with
              | pop =>
                cases l with
                | nil =>
                  refine s_chg E.tk fun t ht => ?_
                  subst ht
                  refine wkE (pe_bm0 PySem.F.plainAttrs_list f2 f3 (mt_Mm .pop) pv rfl h8) ?_
                  rintro σ H Q ⟨v, e1, ty, ρ, W, R, q⟩
                  exact ⟨v, e1, ty, q [] H W ⟨Go.refl R, rfl⟩⟩
                | cons _ _ => cases h2
              | _ => cases h4
            | cons e2 l' =>
              refine s_chg E.tk fun t ht => ?_
              subst ht
              exact pe_bm PySem.F.plainAttrs_list f2 f3 (mt_Mm m) pv ha rfl (few_of st (of_decide_eq_true h6)) h8 (star_of (st e2 List.mem_cons_self)) (plain_of fun a z => st a (List.mem_cons_of_mem _ z))
          | cons _ _ => first | cases h | simp [ckE, ckI, ckT, ckC, ckEs, ckTs] at h
        | _ => first | cases h | simp [ckE, ckI, ckT, ckC] at h
      | _ => first | cases h | simp [ckE, ckI, ckT, ckC] at h
    | _ => first | cases h | simp [ckE, ckI, ckT, ckC] at h
  | .comp elt tg it ifs own, X, Z, E, e', h => by
    cases e' with
    | ListComp elt' gs scope pos =>
      rcases gs with _ | ⟨⟨tg', it', ifs', as⟩, _ | ⟨_, _⟩⟩
      · first | cases h | simp [ckE, ckI, ckT, ckC] at h
      · skip
        · obtain ⟨h1, h2⟩ := and2 h
          obtain ⟨h3, h4⟩ := and2 h1
          obtain ⟨h5, h6⟩ := and2 h3
          obtain ⟨h7, h8⟩ := and2 h5
          obtain ⟨h9, h10⟩ := and2 h7
          obtain ⟨h11, h12⟩ := and2 h9
          obtain ⟨h13, h14⟩ := and2 h11
          obtain ⟨h15, h16⟩ := and2 h13
          have h0 : as = 0 := of_decide_eq_true h15
          subst h0
          have ok := blkOk_by h12
          have ow : (own.map fun i => (X.N.getD i ⟨#[]⟩, i)).map (·.2) = own := by rw [List.map_map]; exact List.map_id' own
          have pc := pe_lc (pos := pos) (g := gT X.K tg) (wi := tI X T F Z it) (tt := tCl X T F Z0 ifs) (te := tE X T F Z0 elt) E.calm E.nd (snd_I it E h16) ok
            (fun s H C cl fp => tg_ok (X := X.blk s H scope (compEnvC scope cl C X.env) fp) (sc := scope) E.calm E.nd (fun x hx => by
              unfold isLoc at hx
              split at hx
              · rename_i e
                have : (relS scope X.env.scope).names.lookup x = some .local := lookup_relS_keep (by decide) e
                exact ⟨.inl this, .inr this⟩
              · rename_i e
                have : (relS scope X.env.scope).names.lookup x = some .cell := lookup_relS_keep (by decide) e
                exact ⟨.inr this, .inl (by show (scope.names.lookup x == some .cell) = true; rw [e]; rfl)⟩
              · cases hx) h6)
            (fun s H C cl fp => snd_C ifs (E.blk s H scope (compEnvC scope cl C X.env) fp) h4)
            (fun s H C cl fp => snd_E elt (E.blk s H scope (compEnvC scope cl C X.env) fp) h2) (fold_of h14)
          rw [ow] at pc
          refine wkE pc fun σ H Q q => ?_
          refine comp_tLc E.tk (fun i hi => ?_) (fun i hi => ?_) q
          · cases hb : T.bm i with
            | none => rfl
            | some a =>
              have := E.bm i a hb
              rw [List.all_eq_true] at h10
              have h3 := of_decide_eq_true (h10 i hi)
              omega
          · rw [List.all_eq_true] at h8
            exact of_decide_eq_true (h8 i hi)
      · simp [ckE] at h
    | _ => first | cases h | simp [ckE, ckI, ckT, ckC] at h
theorem snd_Es : ∀ (l : Exs) {X : Cx} {Z : WX} (E : Env1 X T F Z G np) {l' : List Expr}, ckEs G X.N np X.env.scope l l' = true → PA X l' (tA X T F Z l)
  | .nil, X, Z, E, l', h => by
    cases l' with
    | nil => exact s_nil
    | cons _ _ => first | cases h | simp [ckE, ckI, ckT, ckC, ckEs, ckTs] at h
  | .cons e l, X, Z, E, l', h => by
    cases l' with
    | nil => cases h
    | cons e' l' =>
      obtain ⟨h1, h2⟩ := and2 h
      obtain ⟨h3, h4⟩ := and2 h1
      exact s_cons (snd_E e E h4) (snd_Es l E h2) (star_of h3)
/-- and, or of values -/
theorem snd_Bs : ∀ (l : Exs) {X : Cx} {Z : WX} (E : Env1 X T F Z G np) {a' : Expr} {r' : List Expr}, ckEs G X.N np X.env.scope l (a' :: r') = true →
    (∀ pos, PE X (.BoolOp .And (a' :: r') pos) (tVAnd X T F Z l)) ∧ ∀ pos, PE X (.BoolOp .Or (a' :: r') pos) (tVOr X T F Z l)
  | .nil, X, Z, E, _, _, h => by cases h
  | .cons e l, X, Z, E, a', r', h => by
    obtain ⟨h1, h2⟩ := and2 h
    obtain ⟨h3, h4⟩ := and2 h1
    have pe := snd_E e E h4
    cases r' with
    | nil =>
      cases l with
      | nil => exact ⟨fun pos => s_vand1 pe, fun pos => s_vor1 pe⟩
      | cons _ _ => cases h2
    | cons b' r' =>
      obtain ⟨q1, q2⟩ := snd_Bs l E h2
      exact ⟨fun pos => s_vand pe (q1 pos), fun pos => s_vor pe (q2 pos)⟩
theorem snd_O : ∀ (o : Eo) {X : Cx} {Z : WX} (E : Env1 X T F Z G np) {o' : Option Expr}, ckO G X.N np X.env.scope o o' = true → PO X o' (tO X T F Z o)
  | .none, X, Z, E, o', h => by
    cases o' with
    | none => exact s_onone
    | some _ => cases h
  | .some e, X, Z, E, o', h => by
    cases o' with
    | none => cases h
    | some e' => exact s_osome (snd_E e E h)
theorem snd_T : ∀ (t : Tx) {X : Cx} {Z : WX} (E : Env1 X T F Z G np) {e' : Expr}, ckT G X.N np X.env.scope t e' = true → PT X e' (tT X T F Z t)
  | .val e, X, Z, E, e', h => by
    obtain ⟨h1, h2⟩ := and2 h
    exact s_tval E.tk (true_of h1) (snd_E e E h2)
  | .cmp op a b, X, Z, E, e', h => by
    cases e' with
    | Compare a' ops bs p =>
      rcases ops with _ | ⟨op', _ | ⟨o2, r⟩⟩
      · first | cases h | simp [ckE, ckI, ckT, ckC] at h
      · rcases bs with _ | ⟨b', _ | ⟨c', r⟩⟩
        · first | cases h | simp [ckE, ckI, ckT, ckC] at h
        · obtain ⟨h1, h2⟩ := and2 h
          obtain ⟨h3, h4⟩ := and2 h1
          obtain ⟨h5, h6⟩ := and2 h3
          have ho : op = op' := cm_of h5
          subst ho
          exact s_tcmp E.tk E.hu (marks_of h6) (snd_E a E h4) (snd_E b E h2)
        · first | cases h | simp [ckE, ckI, ckT, ckC] at h
      · first | cases h | simp [ckE, ckI, ckT, ckC] at h
    | _ => first | cases h | simp [ckE, ckI, ckT, ckC] at h
  | .and_ l, X, Z, E, e', h => by
    cases e' with
    | BoolOp op l' p =>
      cases op with
      | And =>
        obtain ⟨h1, h2⟩ := and2 h
        cases l' with
        | nil => cases h1
        | cons a' r => exact wkT ((snd_Ts l E h2).1 p).pt fun σ H Q q => q
      | Or => cases h
    | _ => first | cases h | simp [ckE, ckI, ckT, ckC] at h
  | .or_ l, X, Z, E, e', h => by
    cases e' with
    | BoolOp op l' p =>
      cases op with
      | Or =>
        obtain ⟨h1, h2⟩ := and2 h
        cases l' with
        | nil => cases h1
        | cons a' r => exact wkT ((snd_Ts l E h2).2 p).pt fun σ H Q q => q
      | And => cases h
    | _ => first | cases h | simp [ckE, ckI, ckT, ckC] at h
  | .not_ t, X, Z, E, e', h => by
    cases e' with
    | UnaryOp op a' p =>
      cases op with
      | Not => exact s_tnot (snd_T t E h)
      | _ => first | cases h | simp [ckE, ckI, ckT, ckC] at h
    | _ => first | cases h | simp [ckE, ckI, ckT, ckC] at h
theorem snd_Ts : ∀ (l : Txs) {X : Cx} {Z : WX} (E : Env1 X T F Z G np) {a' : Expr} {r' : List Expr}, ckTs G X.N np X.env.scope l (a' :: r') = true →
    (∀ pos, PW X (.BoolOp .And (a' :: r') pos) (tTAnd X T F Z l)) ∧ ∀ pos, PW X (.BoolOp .Or (a' :: r') pos) (tTOr X T F Z l)
  | .nil, X, Z, E, _, _, h => by cases h
  | .cons t l, X, Z, E, a', r', h => by
    obtain ⟨h1, h2⟩ := and2 h
    have pt := snd_T t E h1
    cases r' with
    | nil =>
      cases l with
      | nil => exact ⟨fun pos => s_tand1 pt, fun pos => s_tor1 pt⟩
      | cons _ _ => cases h2
    | cons b' r' =>
      obtain ⟨q1, q2⟩ := snd_Ts l E h2
      exact ⟨fun pos => s_tand pt (q1 pos), fun pos => s_tor pt (q2 pos)⟩
theorem snd_C : ∀ (o : To) {X : Cx} {Z : WX} (E : Env1 X T F Z G np) {l' : List Expr}, ckC G X.N np X.env.scope o l' = true → PTs X l' (tCl X T F Z o)
  | .none, X, Z, E, l', h => by
    cases l' with
    | nil => exact s_cnone
    | cons _ _ => first | cases h | simp [ckE, ckI, ckT, ckC, ckEs, ckTs] at h
  | .some t, X, Z, E, l', h => by
    rcases l' with _ | ⟨t', _ | ⟨_, _⟩⟩
    · first | cases h | simp [ckE, ckI, ckT, ckC] at h
    · exact s_csome (snd_T t E h)
    · first | cases h | simp [ckE, ckI, ckT, ckC] at h
theorem snd_I : ∀ (it : Ie) {X : Cx} {Z : WX} (E : Env1 X T F Z G np) {e' tg' : Expr}, ckI G X.N np X.env.scope it e' tg' = true → PI X tg' e' (tI X T F Z it)
  | .seq e, X, Z, E, e', tg', h => s_seq E.tk (snd_E e E h)
  | .rng a, X, Z, E, e', tg', h => by
    simp only [ckI] at h
    split at h
    · rename_i x a' hc
      obtain ⟨p, pos, rfl⟩ := asCall_of hc
      obtain ⟨h1, h2⟩ := and2 h
      obtain ⟨h3, h4⟩ := and2 h1
      obtain ⟨h5, h6⟩ := and2 h3
      obtain ⟨h7, h8⟩ := and2 h5
      have hx : x = "range" := of_decide_eq_true h7
      subst hx
      exact s_rng (gl_of h8) (E.free _ (of_decide_eq_true h6)) (star_of h4) (snd_E a E h2)
    · cases h
  | .rng2 a b, X, Z, E, e', tg', h => by
    simp only [ckI] at h
    split at h
    · rename_i x a' b' hc
      obtain ⟨p, pos, rfl⟩ := asCall_of hc
      obtain ⟨h1, h2⟩ := and2 h
      obtain ⟨h3, h4⟩ := and2 h1
      obtain ⟨h5, h6⟩ := and2 h3
      obtain ⟨h7, h8⟩ := and2 h5
      obtain ⟨h9, h10⟩ := and2 h7
      obtain ⟨h11, h12⟩ := and2 h9
      have hx : x = "range" := of_decide_eq_true h11
      subst hx
      exact s_rng2 (gl_of h12) (E.free _ (of_decide_eq_true h10)) (by rw [star_of h8, star_of h6]; rfl) (star_of h6) (snd_E a E h4) (snd_E b E h2)
    · cases h
  | .enm e, X, Z, E, e', tg', h => by
    simp only [ckI] at h
    obtain ⟨ht, h⟩ := and2 h
    cases tg' with
    | Tuple es k tp =>
      split at h
      · rename_i x a' hc
        obtain ⟨p, pos, rfl⟩ := asCall_of hc
        obtain ⟨h1, h2⟩ := and2 h
        obtain ⟨h3, h4⟩ := and2 h1
        obtain ⟨h5, h6⟩ := and2 h3
        obtain ⟨h7, h8⟩ := and2 h5
        have hx : x = "enumerate" := of_decide_eq_true h7
        subst hx
        exact s_enm E.tk (gl_of h8) (E.free _ (of_decide_eq_true h6)) (star_of h4) (snd_E e E h2)
      · cases h
    | _ => cases ht
  | .zip l, X, Z, E, e', tg', h => by
    simp only [ckI] at h
    obtain ⟨ht, h⟩ := and2 h
    cases tg' with
    | Tuple es k tp =>
      split at h
      · rename_i x l' hc
        obtain ⟨p, pos, rfl⟩ := asCall_of hc
        obtain ⟨h1, h2⟩ := and2 h
        obtain ⟨h3, h4⟩ := and2 h1
        obtain ⟨h5, h6⟩ := and2 h3
        obtain ⟨h7, h8⟩ := and2 h5
        have hx : x = "zip" := of_decide_eq_true h7
        subst hx
        have ha := snd_Es l E h2
        have st := ckEs_star h2
        rcases l' with _ | ⟨a', _ | ⟨b', _ | ⟨_, _⟩⟩⟩
        · simp at h4
        · simp at h4
        · cases l with
          | nil => cases h2
          | cons a l =>
            cases l with
            | nil => obtain ⟨_, z⟩ := and2 h2; cases z
            | cons b l =>
              cases l with
              | nil => exact s_zip2 E.tk (gl_of h8) (E.free _ (of_decide_eq_true h6)) (star_of (st a' (by simp))) (plain_of fun c z => st c (List.mem_cons_of_mem _ z)) ha
              | cons _ _ =>
                obtain ⟨_, z⟩ := and2 h2
                obtain ⟨_, z⟩ := and2 z
                cases z
        · simp at h4
      · cases h
    | _ => cases ht
end
end
end Dv

set_option Elab.async false
set_option linter.all false
set_option maxRecDepth 100000
set_option maxHeartbeats 1000000
namespace Dv
open PySem PySem.Spec PyProof.Rows L2

structure OutS (T : Tc) (σ : Sg) (H : Hp) (ρ : Env') (W : AS) (p : P) (σ' : Sg) (ρ' : Env') (v : V) (H' : Hp) (W' : AS) : Prop where
  go : GoS T σ H ρ W σ' H' ρ' W'
  rep : RepP T σ' H' ρ' W' v p
  new : ∀ d, p = .own d → ∀ a, v = .ref a → H a = none
def EndS (T : Tc) (σ : Sg) (H : Hp) (ρ : Env') (W : AS) (D : Ends) (f : Fl) (ρ' : Env') : Prop := match f with
  | .nx => ∀ σ' H' W', GoS T σ H ρ W σ' H' ρ' W' → D.nx σ' H'
  | .bk => ∀ σ' H' W', GoS T σ H ρ W σ' H' ρ' W' → D.bk σ' H'
  | .ct => ∀ σ' H' W', GoS T σ H ρ W σ' H' ρ' W' → D.ct σ' H'
  | .rt p => ∀ v σ' H' W', OutS T σ H ρ W p σ' ρ' v H' W' → D.rt v H'
/-- the error is welcome, wherever it is raised from here on -/
def ErrS (X : Cx) (Z : WX) (T : Tc) (er : Er) (σ : Sg) (H : Hp) (ρ : Env') (W : AS) : Prop := ∀ σ1 H1 ρ1 W1, GoS T σ H ρ W σ1 H1 ρ1 W1 → ErrOk X Z er σ1 H1 ρ1
def PostS (X : Cx) (Z : WX) (T : Tc) (r : Rs (Fl × Env')) (σ : Sg) (H : Hp) (ρ : Env') (W : AS) (D : Ends) : Prop := match r with
  | .ok q => EndS T σ H ρ W D q.1 q.2
  | .err er => ErrS X Z T er σ H ρ W
  | .bad => False
/-- a step's error, seen as a statement's -/
def PostE (X : Cx) (Z : WX) (T : Tc) {α : Type} (r : Rs (α × Env')) (σ : Sg) (H : Hp) (ρ : Env') (W : AS) (k : α → Env' → Prop) : Prop := match r with
  | .ok a => k a.1 a.2
  | .err er => ErrS X Z T er σ H ρ W
  | .bad => False
def tS (X : Cx) (T : Tc) (Z : WX) (f : Env' → Rs (Fl × Env')) : TS := fun D σ H => ∃ ρ W, Rel T σ H ρ W ∧ PostS X Z T (f ρ) σ H ρ W D

section
variable {X : Cx} {Z : WX} {T : Tc} {F : Fn} {G : Gn} {np : Nat} {σ σ' σ1 : Sg} {H H0 H1 H2 H' : Hp} {ρ ρ1 ρ2 ρ' ρf ρb ρq : Env'} {W W1 W2 W' : AS} {K : PySem.W.Frag} {ds : List D} {sc : Scope} {N : List Str} {En : Ends}
theorem PostE.bind {α : Type} {r : Rs (α × Env')} {f : α × Env' → Rs (Fl × Env')} (h : PostS X Z T (r.bind f) σ H ρ W En) : PostE X Z T r σ H ρ W fun a ρ' => PostS X Z T (f (a, ρ')) σ H ρ W En := by
  cases r <;> exact h
/-- to an expression's reading -/
theorem PostE.post {α : Type} {r : Rs (α × Env')} {k k' : α → Env' → Prop} (h : PostE X Z T r σ H ρ W k) (R : Rel T σ H ρ W) (g : ∀ a ρ', k a ρ' → k' a ρ') : Post X Z r σ H ρ k' := by
  cases r with
  | ok a => exact g _ _ h
  | err er => exact h σ H ρ W (GoS.refl R)
  | bad => exact h
theorem PostE.move {α : Type} {r : Rs (α × Env')} {k : α → Env' → Prop} (h : PostE X Z T r σ H ρ W k) (g : GoS T σ H ρ W σ1 H1 ρ1 W1) : PostE X Z T r σ1 H1 ρ1 W1 k := by
  cases r with
  | ok a => exact h
  | err er => exact fun σ2 H2 ρ2 W2 g2 => h _ _ _ _ (g.trans g2)
  | bad => exact h
theorem PostS.val {α : Type} {r : Rs α} {f : α → Rs (Fl × Env')} (n : NoErr r) (h : PostS X Z T (r.bind f) σ H ρ W En) : ∃ a, r = .ok a ∧ PostS X Z T (f a) σ H ρ W En := by
  cases r with
  | ok a => exact ⟨a, rfl, h⟩
  | err er => exact absurd rfl (n er)
  | bad => exact h.elim
theorem GoS.out {σ2 : Sg} {p : P} {v : V} (a : GoS T σ H ρ W σ1 H1 ρ1 W1) (b : OutS T σ1 H1 ρ1 W1 p σ2 ρ2 v H2 W2) : OutS T σ H ρ W p σ2 ρ2 v H2 W2 := ⟨a.trans b.go, b.rep, fun d e x h => a.dom x (b.new d e x h)⟩
theorem EndS.move {f : Fl} (h : EndS T σ H ρ W En f ρ') (g : GoS T σ H ρ W σ1 H1 ρ1 W1) : EndS T σ1 H1 ρ1 W1 En f ρ' := by
  cases f with
  | nx => exact fun σ2 H2 W2 g2 => h _ _ _ (g.trans g2)
  | bk => exact fun σ2 H2 W2 g2 => h _ _ _ (g.trans g2)
  | ct => exact fun σ2 H2 W2 g2 => h _ _ _ (g.trans g2)
  | rt p => exact fun v σ2 H2 W2 g2 => h _ _ _ _ (g.out g2)
theorem PostS.move {r : Rs (Fl × Env')} (h : PostS X Z T r σ H ρ W En) (g : GoS T σ H ρ W σ1 H1 ρ1 W1) : PostS X Z T r σ1 H1 ρ1 W1 En := by
  cases r with
  | ok a => exact EndS.move h g
  | err er => exact fun σ2 H2 ρ2 W2 g2 => h _ _ _ _ (g.trans g2)
  | bad => exact h
theorem wkS {st : Stmt} {t t' : TS} (h : PS X st t) (w : ∀ D σ H, t' D σ H → t D σ H) : PS X st t' := ⟨fun pins s σ H D I q => h.run pins s σ H D I (w D σ H q)⟩
theorem wkSs {st : List Stmt} {t t' : TS} (h : PSs X st t) (w : ∀ D σ H, t' D σ H → t D σ H) : PSs X st t' := ⟨fun pins s σ H D I q => h.run pins s σ H D I (w D σ H q)⟩

/-! ### a name stored -/
theorem own_go {i : Nat} {v : V} {d : D} (o : Out T σ H ρ W (.own d) ρ1 v H1 W1) (hf : freeSlot i ρ1 = true) : GoS T σ H ρ W (σ.set i (some v)) H1 (ρ1.set i (some (.own false d))) W1 := by
  obtain ⟨nb, nl, hi⟩ := free_bor hf
  have R := o.go.rel
  have hi2 : i < σ.length := by rw [← R.len]; exact hi
  obtain ⟨a, ob, rfl, ha, wa, no, fz, q⟩ := o.rep
  have n0 : H a = none := o.new d rfl a rfl
  have own : ∀ j b, OwnA (σ.set i (some (.ref a))) (ρ1.set i (some (.own false d))) j b → (j = i ∧ b = a) ∨ (j ≠ i ∧ OwnA σ ρ1 j b) := fun j b ⟨h1, h2⟩ => by
    by_cases e : i = j
    · subst e
      rw [List.getElem?_set_self hi2] at h2
      cases h2
      exact .inl ⟨rfl, rfl⟩
    · rw [List.getElem?_set_ne e] at h2
      refine .inr ⟨Ne.symm e, ?_, h2⟩
      rcases h1 with ⟨c, x, h1⟩ | ⟨c, x, h1⟩
      · rw [List.getElem?_set_ne e] at h1; exact .inl ⟨c, x, h1⟩
      · rw [List.getElem?_set_ne e] at h1; exact .inr ⟨c, x, h1⟩
  refine ⟨⟨by simp [R.len], fun j s h => ?_, fun j k b h1 h2 => ?_, R.wl, fun j x b h1 h2 => ?_, R.fzk, fun j b h => ?_⟩, fun b u h n => ?_, o.go.dom, fun j b h => ?_, fun j c x h => ?_⟩
  · rcases getq_set h with ⟨rfl, k, _⟩ | ⟨ne, k⟩
    · cases k
      exact ⟨_, by rw [List.getElem?_set_self hi2], a, ob, rfl, ha, wa, q⟩
    · obtain ⟨o, e, q⟩ := R.at_ j s k
      exact ⟨o, by rw [List.getElem?_set_ne ne]; exact e, q⟩
  · rcases own j b h1 with ⟨e1, e2⟩ | ⟨_, q1⟩
    · rcases own k b h2 with ⟨e3, _⟩ | ⟨_, q2⟩
      · rw [e1, e3]
      · rw [e2] at q2
        exact absurd q2 (no k)
    · rcases own k b h2 with ⟨e3, e4⟩ | ⟨_, q2⟩
      · rw [e4] at q1
        exact absurd q1 (no j)
      · exact R.sep j k b q1 q2
  · by_cases e : i = j
    · subst e
      rw [List.getElem?_set_self hi2] at h2
      cases h2
      exact fz
    · rw [List.getElem?_set_ne e] at h2
      rw [List.getElem?_set_ne e] at h1
      exact R.fr j x b h1 h2
  · obtain ⟨h1, s, h2, h3⟩ := R.bor j b h
    have ne : i ≠ j := fun z => by subst z; exact nb s h2 h3
    exact ⟨by rw [List.getElem?_set_ne ne]; exact h1, s, by rw [List.getElem?_set_ne ne]; exact h2, h3⟩
  · obtain ⟨h1, n1, w⟩ := o.go.step b u h n
    refine ⟨h1, fun j z => ?_, w⟩
    have hba : b ≠ a := fun e => by rw [e, n0] at h; cases h
    obtain ⟨⟨c, x, z1⟩, z2⟩ := z
    rcases getq_set z1 with ⟨rfl, k, _⟩ | ⟨ne, k⟩
    · rw [List.getElem?_set_self hi2] at z2; cases z2; exact hba rfl
    · rw [List.getElem?_set_ne ne] at z2
      exact n1 j ⟨⟨c, x, k⟩, z2⟩
  · rcases own j b h with ⟨_, rfl⟩ | ⟨_, h⟩
    · exact .inr n0
    · exact .inl ⟨j, o.go.mon j b h⟩
  · have h1 := o.go.lk j c x h
    have ne : i ≠ j := fun z => by subst z; exact nl c x h1
    exact ⟨by rw [List.getElem?_set_ne ne]; exact h1, by rw [List.getElem?_set_ne ne]⟩
theorem asgP_ok {i : Nat} {p : P} {v : V} (o : Out T σ H ρ W p ρ1 v H1 W1) (e : asgP i p ρ1 = .ok ρ') : ∃ W', GoS T σ H ρ W (σ.set i (some v)) H1 ρ' W' := by
  cases p with
  | val d =>
    obtain ⟨g, _⟩ := put_go o.go.rel e o.rep
    exact ⟨W1, o.go.s.trans g⟩
  | own d =>
    simp only [asgP] at e
    split at e
    · rename_i hf
      cases e
      exact ⟨W1, own_go o hf⟩
    · cases e
  | at_ j =>
    simp only [asgP] at e
    obtain ⟨⟨d, ρ2⟩, e1, e⟩ := bind_ok e
    obtain ⟨W2, g, r⟩ := o.data (of_ok e1)
    obtain ⟨g2, _⟩ := put_go g.rel e r
    exact ⟨W2, g.s.trans g2⟩
theorem NoErr.asgP {i : Nat} {p : P} {ρ : Env'} : NoErr (Dv.asgP i p ρ) := by
  unfold Dv.asgP
  split
  · exact .putV
  · split <;> first | exact .ok | exact .bad
  · exact .bind .of fun _ => .putV
/-- x = e, by the reading of e -/
theorem set_read {i : Nat} {e : Ex} (h : tS X T Z (ex F 0 (.set i e)) En σ H) : tE X T F Z e σ H fun x H1 => gName i x σ H1 En.nx := by
  obtain ⟨ρ, W, R, h⟩ := h
  refine ⟨ρ, W, R, (PostE.bind h).post R fun p ρ1 h1 v H1 W1 o => ?_⟩
  obtain ⟨ρ', e1, h2⟩ := PostS.val .asgP h1
  obtain ⟨W', g⟩ := asgP_ok o e1
  exact h2 _ _ _ g
end
end Dv

set_option Elab.async false
set_option linter.all false
set_option maxRecDepth 100000
set_option maxHeartbeats 1000000
namespace Dv
open PySem PySem.Spec PyProof.Rows L2

/-! ### the text of statements -/
def notComp : Expr → Bool
  | .ListComp _ _ _ _ => false
  | .SetComp _ _ _ _ => false
  | .DictComp _ _ _ _ _ => false
  | _ => true
def notTuple : Expr → Bool
  | .Tuple _ _ _ => false
  | _ => true
/-- name = value: the plain way, or a comprehension at a local name on its line -/
def setOk (sc : Scope) (y : Str) (py : Pos) (v : Expr) : Bool := notComp v || (match v with
  | .ListComp _ _ scope pos => (match sc.names.lookup y with
    | some .local => (py.line == pos.line) && !(scope.names.any fun p => p.1 == y && (p.2 == .local || p.2 == .cell))
    | some .cell => true
    | _ => false)
  | _ => false)
def isLocal (sc : Scope) (x : Str) : Bool := match sc.names.lookup x with
  | some .local => true
  | _ => false
def parOk (sc : Scope) (x y : Str) (px py : Pos) (a b : Expr) : Bool :=
  isLocal sc x && isLocal sc y && py.line == px.line && decide (x ≠ y) && notStar a && notStar b && !([a, b].all (foldedForSure 8)) && !([a, b].all (constantsAlone 8))
def augEq : Operator → Operator → Bool
  | .Add, .Add => true
  | .Sub, .Sub => true
  | _, _ => false
mutual
def ckS (G : Gn) (N : List Str) (np : Nat) (sc : Scope) : Sx → Stmt → Bool
  | .set i e, .Assign [.Name y py] v _ => decide (N[i]? = some y) && isLoc sc y && setOk sc y py v && ckE G N np sc e v
  | .setT l e, .Assign [.Tuple es k tp] v _ => notTuple v && notComp v && ckTg N sc (.tp l) (.Tuple es k tp) && ckE G N np sc e v
  | .par i j a b, .Assign [.Tuple [.Name x px, .Name y py] _ _] (.Tuple [a', b'] _ _) _ => decide (N[i]? = some x) && decide (N[j]? = some y) && decide (i ≠ j) && parOk sc x y px py a' b' && ckE G N np sc a a' && ckE G N np sc b b'
  | .setI i ix e, .Assign [.Subscript (.Name y _) ix' _] v _ => decide (N[i]? = some y) && isVis sc y && okName y && notSlice ix' && ckE G N np sc ix ix' && ckE G N np sc e v
  | .aug i op e, .AugAssign (.Name y _) op' v _ => augEq op op' && decide (N[i]? = some y) && isLoc sc y && ckE G N np sc e v
  | .augI i op ix e, .AugAssign (.Subscript (.Name y _) ix' _) op' v _ => augEq op op' && decide (N[i]? = some y) && isVis sc y && okName y && notSlice ix' && ckE G N np sc ix ix' && ckE G N np sc e v
  | .expr e, .Expr v _ => notComp v && ckE G N np sc e v
  | .ret e, .Return (some v) _ => ckE G N np sc e v
  | .retN, .Return none _ => true
  | .ite c a b, .If c' a' b' _ => ckT G N np sc c c' && ckSs G N np sc a a' && ckSs G N np sc b b'
  | .whl c b, .While c' b' [] _ => ckT G N np sc c c' && ckSs G N np sc b b'
  | .for_ tg it b, .For tg' it' b' [] _ => ckI G N np sc it it' tg' && notSet it' && ckTg N sc tg tg' && ckSs G N np sc b b'
  | .brk, .Break _ => true
  | .cnt, .Continue _ => true
  | .pass, .Pass _ => true
  | .bad, _ => true
  | _, _ => false
def ckSs (G : Gn) (N : List Str) (np : Nat) (sc : Scope) : Sxs → List Stmt → Bool
  | .nil, [] => true
  | .cons s l, s' :: l' => ckS G N np sc s s' && ckSs G N np sc l l'
  | _, _ => false
end

section
variable {X : Cx} {Z : WX} {T : Tc} {F : Fn} {G : Gn} {np : Nat} {σ σ' σ1 : Sg} {H H0 H1 H2 H' : Hp} {ρ ρ1 ρ2 ρ' ρf ρb ρq : Env'} {W W1 W2 W' : AS} {K : PySem.W.Frag} {ds : List D} {sc : Scope} {N : List Str} {En : Ends} {M : Nat}
theorem Out.later {p : P} {v : V} (o : Out T σ H ρ W p ρ1 v H1 W1) (g : Go T σ H1 ρ1 W1 H2 ρ2 W2) : Out T σ H ρ W p ρ2 v H2 W2 := ⟨o.go.trans g, o.rep.step o.go.rel g.step g.mon, o.new⟩
theorem OutS.of {p : P} {v : V} (o : Out T σ H ρ W p ρ1 v H1 W1) : OutS T σ H ρ W p σ ρ1 v H1 W1 := ⟨o.go.s, o.rep, o.new⟩
theorem swap_no {v : Expr} {t : Option Expr} {n : Nat} {env : Env} (h : notComp v = true) : swapsWith v t n env = pure false := by
  cases v <;> first | rfl | cases h
theorem set_ok {i : Nat} {e : Ex} {y : Str} {py pos : Pos} {v : Expr} (hN : X.N.Nodup) (hi : X.N[i]? = some y) (hl : Loc X.env.scope y) (hf : X.fn y = true) (hk : X.env.scope.kind = .function) (hs : setOk X.env.scope y py v = true) (pe : PE X v (tE X T F Z e))
    (pc : notComp v = false → isLocal X.env.scope y = true → ∀ (hsw : swapsWith v (some (.Name y py)) pos.line X.env = pure true), PS X (.Assign [.Name y py] v pos) (tAsg (tE X T F Z e) (gName i))) : PS X (.Assign [.Name y py] v pos) (tAsg (tE X T F Z e) (gName i)) := by
  unfold setOk at hs
  rcases Bool.or_eq_true_iff.mp hs with h | h
  · exact ps_set hN hi hl pe (swap_no h) (.inl hf)
  · split at h
    · rename_i scope cpos
      split at h
      · rename_i e1
        obtain ⟨h1, h2⟩ := and2 h
        exact pc rfl (by unfold isLocal; rw [e1]) (sw_true hk e1 h1 (not_f h2))
      · rename_i e1
        refine ps_set hN hi hl pe ?_ (.inl hf)
        have e2 : (X.env.kindOf y == some NameKind.local) = false := by
          rw [show X.env.kindOf y = X.env.scope.names.lookup y from rfl, e1]
          rfl
        unfold swapsWith
        simp only [e2, Bool.and_false, Bool.false_and]
      · cases h
    · cases h
theorem par_swap {x y : Str} {px py pt pt2 : Pos} {kt k2 : Nat} {a b : Expr} (hk : X.env.scope.kind = .function) (h : parOk X.env.scope x y px py a b = true) : swappedStores [.Tuple [.Name x px, .Name y py] kt pt] (.Tuple [a, b] k2 pt2) X.env = pure (some [x, y]) := by
  obtain ⟨h1, h2⟩ := and2 h
  obtain ⟨h3, h4⟩ := and2 h1
  obtain ⟨h5, h6⟩ := and2 h3
  obtain ⟨h7, h8⟩ := and2 h5
  obtain ⟨h9, h10⟩ := and2 h7
  obtain ⟨h11, h12⟩ := and2 h9
  obtain ⟨h13, h14⟩ := and2 h11
  have hb : X.env.blockKind = .function := by unfold Env.blockKind; rw [hk]; rfl
  have kx : X.env.kindOf x = some .local := by
    unfold isLocal at h13
    split at h13
    · rename_i e; exact e
    · cases h13
  have ky : X.env.kindOf y = some .local := by
    unfold isLocal at h14
    split at h14
    · rename_i e; exact e
    · cases h14
  have hne : x ≠ y := of_decide_eq_true h10
  have sa : (match a with | .Starred .. => true | _ => false) = false := by cases a <;> first | rfl | cases h8
  have sb : (match b with | .Starred .. => true | _ => false) = false := by cases b <;> first | rfl | cases h6
  have el : py.line = px.line := by simpa using h12
  have hyx : (y == x) = false := by simpa using fun z => hne z.symm
  have hxy : (x == y) = false := by simpa using hne
  have f1 := not_f h4
  have f2 := not_f h2
  simp only [List.all_cons, List.all_nil, Bool.and_true] at f1 f2
  unfold swappedStores
  simp [hb, kx, ky, el, f1, f2, Expr.pos, List.eraseDups, List.eraseDupsBy, List.eraseDupsBy.loop, hyx, hxy]
  cases a <;> cases b <;> first | (simp at sa; done) | (simp at sb; done) | simp_all
end
end Dv

set_option Elab.async false
set_option linter.all false
set_option maxRecDepth 100000
set_option maxHeartbeats 2000000
namespace Dv
open PySem PySem.Spec PyProof.Rows L2

section
variable {X : Cx} {Z : WX} {T : Tc} {F : Fn} {G : Gn} {np : Nat} {σ σ' σ1 : Sg} {H H0 H1 H2 H' : Hp} {ρ ρ1 ρ2 ρ' ρf ρb ρq : Env'} {W W1 W2 W' : AS} {K : PySem.W.Frag} {ds : List D} {sc : Scope} {N : List Str} {En : Ends} {M : Nat}
/-- from ahead of a lock to behind its opening -/
theorem unlock_go {p : P} (R : Rel T σ H1 ρ1 W1) (g : GoS T σ H1 (lockP p ρ1).2 W1 σ' H' ρf W') (e : unlock (lockP p ρ1).1 ρf = .ok ρ') : GoS T σ H1 ρ1 W1 σ' H' ρ' W' := by
  obtain ⟨ow, h0, hs⟩ := unlock_own (σ := σ') e
  refine ⟨unlock_rel g.rel e, unlock_step R g.step e fun k b d z => (g.lk k b d z).2, g.dom, fun i a z => ?_, fun i b d h => ?_⟩
  · rcases g.own i a ((ow i a).mp z) with ⟨j, q⟩ | q
    · exact .inl ⟨j, (lock_go R p).mon j a q⟩
    · exact .inr q
  · have hl := (lock_go R p).lk i b d h
    obtain ⟨q1, q2⟩ := g.lk i b d hl
    refine ⟨?_, q2⟩
    cases el : (lockP p ρ1).1 with
    | none => rw [h0 el]; exact q1
    | some k =>
      obtain ⟨b1, d1, e1, rfl⟩ := hs k el
      obtain ⟨b2, d2, e2, e3⟩ := lock_some el
      have ne : k ≠ i := fun z => by subst z; rw [e2] at h; cases h
      rw [List.getElem?_set_ne ne]
      exact q1
/-- a slot's list changed -/
theorem mut_slot {i : Nat} {f : D → Rs D} {v : V} (R : Rel T σ H ρ W) (hv : σ[i]? = some (some v)) (nf : ∀ d, NoErr (f d)) (e : mutSlot i ρ f = .ok ρ') : ∃ b d d' a o, ρ[i]? = some (some (.own b d)) ∧ v = .ref a ∧ H a = some o ∧ RepO T.K H W o d ∧ f d = .ok d' ∧ ρ' = ρ.set i (some (.own b d')) := by
  unfold mutSlot at e
  split at e
  · rename_i b d es
    obtain ⟨d', e1, e⟩ := bind_ok e
    cases e
    obtain ⟨o, z, a, ob, rfl, ha, _, q⟩ := R.at_ i _ es
    rw [hv] at z; cases z
    exact ⟨b, d, d', a, ob, es, rfl, ha, q, e1, rfl⟩
  · cases e
theorem NoErr.mutSlot {i : Nat} {ρ : Env'} {f : D → Rs D} (nf : ∀ d, NoErr (f d)) : NoErr (Dv.mutSlot i ρ f) := by
  unfold Dv.mutSlot
  split
  · exact .bind (nf _) fun _ => .ok
  · exact .bad
theorem NoErr.dSet {d k x : D} : NoErr (Dv.dSet d k x) := by
  unfold Dv.dSet
  split
  · exact .bind .of fun _ => .ok
  · exact .bad
theorem NoErr.dAug {op : Operator} {x y : D} : NoErr (Dv.dAug op x y) := by
  unfold Dv.dAug
  split <;> first | exact .ok | exact .bad | exact .need .ok
/-- o[k] = x of a slot's list -/
theorem set_slot {i : Nat} {v kv xv : V} {k x : D} {Q : Hp → Prop} (R : Rel T σ H ρ W) (hv : σ[i]? = some (some v)) (hk : RepK T.K H W kv k) (hx : RepD T.K H W xv x) (e : mutSlot i ρ (fun d => dSet d k x) = .ok ρ')
    (q : ∀ H', Go T σ H ρ W H' ρ' W → Q H') : rSetL v kv xv H Q := by
  obtain ⟨b, d, d', a, o, es, rfl, ha, r, e1, rfl⟩ := mut_slot R hv (fun _ => .dSet) e
  unfold dSet at e1
  split at e1
  · rename_i l n
    obtain ⟨j, e2, e1⟩ := bind_ok e1
    cases e1
    obtain ⟨us, rfl, r⟩ := r
    refine ⟨a, us, n, j, rfl, hk.int, ha, by rw [r.length]; exact of_ok e2, q _ (mut_at R es hv ⟨_, rfl, r.set hx j⟩)⟩
  · cases e1
theorem get_listP : PGet X (rIxL X.K) := by
  intro pins s σ H o i ov iv Q I ro ri h
  obtain ⟨p, xs, n, z, rfl, rfl, hq, he, q⟩ := h
  cases ro
  obtain ⟨t, rfl⟩ := ri
  obtain ⟨its, r, pl, hz⟩ := I.list hq
  obtain ⟨j, h1, h2, h3, h4, h5⟩ := atI_get he
  obtain ⟨w, ew, rw'⟩ := r.get h2
  have hl := r.length
  have hn := line63
  have fin : EP X pins σ Q w s := ⟨z, H, I, rw', q⟩
  by_cases h0 : 0 ≤ n
  · have hj : n.toNat = j := by
      rw [seqIndex_of h0 h5] at h1
      exact Option.some.inj h1
    exact wpAny_getItem_list pl.isList h0 (by omega) (by rw [hj]; simpa using ew) fin
  · have hj : (n + (its.toArray.size : Int)).toNat = j := by
      rw [seqIndex_neg (by omega) h4] at h1
      rw [List.size_toArray, ← hl]
      exact Option.some.inj h1
    exact wpAny_getItem_list_neg pl.isList (by omega) (by rw [List.size_toArray] <;> omega) (by omega) (by rw [hj]; simpa using ew) fin
def rAug : Operator → TIp
  | .Add => fun x y H Q => rI0 (fun i j => .int (i + j)) x y H Q ∨ ∃ i j, x = .str i ∧ y = .str j ∧ i.length + j.length ≤ sizeLine ∧ Q (.str (i ++ j)) H
  | .Sub => rI0 fun i j => .int (i - j)
  | _ => fun _ _ _ _ => False
theorem ip_aug : ∀ op, PIp X op (rAug op) := fun op => by
  cases op with
  | Add => exact iop_add.or iop_add_str
  | Sub => exact iop_sub
  | _ => exact fun _ _ _ _ _ _ _ _ _ _ _ _ h => h.elim
theorem aug_ok {op : Operator} {x y : V} {d e z : D} {Q : VK} (hd : RepK K H W x d) (he : RepK K H W y e) (h : dAug op d e = .ok z) (q : ∀ v, RepD K H W v z → Q v H) : rAug op x y H Q := by
  unfold dAug at h
  split at h
  · cases h; exact .inl ⟨_, _, hd.int, he.int, q _ rfl⟩
  · cases h; exact ⟨_, _, hd.int, he.int, q _ rfl⟩
  · obtain ⟨c, h⟩ := need_ok h
    cases h; exact .inr ⟨_, _, hd.str, he.str, c, q _ rfl⟩
  · cases h

/-! ### statements -/
theorem st_setT {l : List Nat} {e : Ex} {tg v : Expr} {pos : Pos} (tk : T.K = X.K) (he : PE X v (tE X T F Z e)) (hg : PG X tg (gT X.K (.tp l))) (hs : swapsWithSole [tg] v pos.line X.env = pure false) (hw : swappedStores [tg] v X.env = pure none)
    (h1 : (assignEach [tg] X.env).map (·.2) = [assign tg X.env]) : PS X (.Assign [tg] v pos) (tS X T Z (ex F M (.setT l e))) := by
  refine wkS (ps_asg he hg hs hw h1) ?_
  rintro En σ H ⟨ρ, W, R, h⟩
  refine ⟨ρ, W, R, (PostE.bind h).post R fun p ρ1 h1 v H1 W1 o => ?_⟩
  dsimp only at h1
  split at h1
  · rename_i ds
    obtain ⟨ρ', e1, h2⟩ := PostS.val .putVs h1
    have r : RepD T.K H1 W1 v (.tup ds) := o.rep
    rw [← tk]
    exact gT_ok (tg := .tp l) o.go.rel (show asgT (.tp l) (.tup ds) ρ1 = .ok ρ' from e1) r fun σ' g _ _ => h2 _ _ _ (o.go.s.trans g)
  · exact h1.elim
theorem st_par {i j : Nat} {a b : Ex} {a' b' : Expr} {x y : Str} {px py pt pt2 pos : Pos} {kt k2 : Nat} (hc : X.calm = true) (hN : X.N.Nodup) (hi : X.N[i]? = some x) (hj : X.N[j]? = some y) (hij : i ≠ j)
    (hx : X.env.scope.names.lookup x = some .local) (hy : X.env.scope.names.lookup y = some .local) (ha : PE X a' (tE X T F Z a)) (hb : PE X b' (tE X T F Z b)) (sa : notStar a' = true) (sb : notStar b' = true)
    (hw : swappedStores [.Tuple [.Name x px, .Name y py] kt pt] (.Tuple [a', b'] k2 pt2) X.env = pure (some [x, y])) :
    PS X (.Assign [.Tuple [.Name x px, .Name y py] kt pt] (.Tuple [a', b'] k2 pt2) pos) (tS X T Z (ex F M (.par i j a b))) := by
  refine wkS (ps_par hc hN hi hj hij hx hy (pa_cons ha (pa_cons hb pa_nil (star_of sb)) (star_of sa)) hw) ?_
  rintro En σ H ⟨ρ, W, R, h⟩
  refine ⟨ρ, W, R, (PostE.bind h).post R fun p1 ρ1 h1 v H1 W1 o1 => ⟨ρ1, W1, o1.go.rel, (((PostE.bind h1).move o1.go.s).post o1.go.rel fun p2 ρ2 h2 u H2 W2 o2 => ?_)⟩⟩
  dsimp only at h2
  split at h2
  · rename_i x y
    obtain ⟨ρ', e1, h3⟩ := PostS.val .putVs h2
    refine ⟨v, u, rfl, ?_⟩
    have rx : RepD T.K H2 W2 v x := RepD.adv o1.go.rel.wl (o2.go.step.adv o1.go.rel) (show RepD T.K H1 W1 v x from o1.rep)
    have ry : RepD T.K H2 W2 u y := o2.rep
    obtain ⟨g, _⟩ := puts_go (vs := [v, u]) o2.go.rel e1 ⟨v, [u], rfl, rx, u, [], rfl, ry, rfl⟩
    exact h3 _ _ _ ((o1.go.trans o2.go).s.trans g)
  · exact h2.elim
theorem st_setI {i : Nat} {ix e : Ex} {y : Str} {yp ip pos : Pos} {ix' v : Expr} (hsl : notSlice ix' = true) (hv : PE X (.Name y yp) (tVar i)) (hi : PE X ix' (tE X T F Z ix)) (he : PE X v (tE X T F Z e)) : PS X (.Assign [.Subscript (.Name y yp) ix' ip] v pos) (tS X T Z (ex F M (.setI i ix e))) := by
  have hs : swapsWithSole [.Subscript (.Name y yp) ix' ip] v pos.line X.env = pure false := by
    show swapsWith v (some (.Subscript (.Name y yp) ix' ip)) pos.line X.env = pure false
    cases v <;> rfl
  refine wkS (ps_asg he (pg_sub hv hi set_list (by cases ix' <;> first | (intro _; rfl) | cases hsl)) hs rfl rfl) ?_
  rintro En σ H ⟨ρ, W, R, h⟩
  refine ⟨ρ, W, R, (PostE.bind h).post R fun p1 ρ1 h1 v H1 W1 o1 => ?_⟩
  obtain ⟨⟨p0, ρ0⟩, e0, h1⟩ := PostS.val .evVar h1
  obtain ⟨e00, v0, s0, q0⟩ := slot_peek e0 o1.go.rel
  subst e00
  refine ⟨v0, s0, ρ0, W1, o1.go.rel, ((PostE.bind h1).move o1.go.s).post o1.go.rel fun p2 ρ2 h2 u H2 W2 o2 => ?_⟩
  have o1' := o1.later o2.go
  obtain ⟨⟨d, ρ3⟩, e3, h2⟩ := PostS.val .of h2
  obtain ⟨W3, g3, r3⟩ := o1'.data (of_ok e3)
  obtain ⟨k, e4, h2⟩ := PostS.val .pk h2
  obtain ⟨ρ', e5, h2⟩ := PostS.val (.mutSlot fun _ => .dSet) h2
  -- the index stands behind the freezing
  obtain ⟨W3', R3', r3', s3', m3', l3'⟩ := toD_ok o1'.go.rel o1'.rep (of_ok e3)
  have rp2 : RepP T σ H2 ρ3 W3' u p2 := o2.rep.stepX o2.go.rel s3' m3' (tmp_w o1'.rep) fun d a e1 e2 z => by
    subst e1
    cases p1 with
    | val d => exact z
    | at_ j => exact z
    | own d1 =>
      have n2 := o2.new d rfl a e2
      obtain ⟨a', o', ea, ha, _⟩ := o1.rep
      rw [show v = .ref a from z] at ea
      cases ea
      rw [n2] at ha; cases ha
  have kk := peek_ok R3' rp2 (pk_of e4)
  have rel3 : Go T σ H ρ W H2 ρ3 W3' := ⟨R3', o1'.go.step.then s3' fun a z => by
    cases p1 with
    | val d => exact z.elim
    | at_ j => exact z.elim
    | own d1 => exact o1.new d1 rfl a z, o1'.go.mon.trans m3', o1'.go.dom, o1'.go.lk.trans l3'⟩
  exact set_slot R3' s0 kk r3' e5 fun H' g => h2 _ _ _ (rel3.trans g).s
theorem st_aug {i : Nat} {op : Operator} {e : Ex} {y : Str} {yp pos : Pos} {v : Expr} (hN : X.N.Nodup) (hi : X.N[i]? = some y) (hl : Loc X.env.scope y) (hf : X.fn y = true) (he : PE X v (tE X T F Z e)) : PS X (.AugAssign (.Name y yp) op v pos) (tS X T Z (ex F M (.aug i op e))) := by
  refine wkS (ps_aug hN hi hl he (ip_aug op) (.inl hf)) ?_
  rintro En σ H ⟨ρ, W, R, h⟩
  simp only [ex] at h
  split at h
  · rename_i x es
    obtain ⟨o, e1, v0, rfl, r0⟩ := R.at_ i _ es
    refine ⟨v0, e1, ρ, W, R, (PostE.bind h).post R fun p1 ρ1 h1 u H1 W1 o1 => ?_⟩
    obtain ⟨y, ey, h1⟩ := PostS.val .pk h1
    obtain ⟨z, ez, h1⟩ := PostS.val .dAug h1
    obtain ⟨ρ', e5, h1⟩ := PostS.val .putV h1
    refine aug_ok (K := T.K) (W := W1) (RepD.k (r0.adv R.wl (o1.go.step.adv R))) (peek_ok o1.go.rel o1.rep (pk_of ey)) ez fun w rw' => ?_
    obtain ⟨g, _⟩ := put_go o1.go.rel e5 rw'
    exact h1 _ _ _ (o1.go.s.trans g)
  · exact h.elim
theorem st_augI {i : Nat} {op : Operator} {ix e : Ex} {y : Str} {yp ip pos : Pos} {ix' v : Expr} (hsl : notSlice ix' = true) (tk : T.K = X.K) (hv : PE X (.Name y yp) (tVar i)) (hi : PE X ix' (tE X T F Z ix)) (he : PE X v (tE X T F Z e)) : PS X (.AugAssign (.Subscript (.Name y yp) ix' ip) op v pos) (tS X T Z (ex F M (.augI i op ix e))) := by
  refine wkS (ps_augS hv hi get_listP he (ip_aug op) set_list (by cases ix' <;> first | (intros; rfl) | cases hsl)) ?_
  rintro En σ H ⟨ρ, W, R, h⟩
  obtain ⟨⟨p0, ρ0⟩, e0, h⟩ := PostS.val (r := evVar i ρ) .evVar h
  obtain ⟨e00, v0, s0, q0⟩ := slot_peek e0 R
  subst e00
  refine ⟨v0, s0, ρ0, W, R, (PostE.bind h).post R fun p1 ρ1 h1 u H1 W1 o1 => ?_⟩
  obtain ⟨x, ex0, h1⟩ := PostS.val .pk h1
  have h1' : isLst x = true ∧ PostS X Z T ((pk p1 ρ1).bind fun k => (dIdx x k).bind fun u => (ev F e ρ1).bind fun r => (pk r.1 r.2).bind fun y => (dAug op u y).bind fun z => (mutSlot i r.2 fun d => dSet d k z).bind fun ρ' => .ok (.nx, ρ')) σ H ρ0 W En := by
    dsimp only at h1
    unfold need at h1
    split at h1
    · exact ⟨by assumption, h1⟩
    · exact h1.elim
  obtain ⟨lx, h1⟩ := h1'
  obtain ⟨k, ek, h1⟩ := PostS.val .pk h1
  obtain ⟨w, ew, h1w⟩ := PostS.val .dIdx h1
  clear h1
  have kx := peek_ok o1.go.rel (q0.step R o1.go.step o1.go.mon) (pk_of ex0)
  have kk := peek_ok o1.go.rel o1.rep (pk_of ek)
  cases x with
  | lst l =>
    obtain ⟨a, us, ea, ha, r⟩ := kx.lst
    cases k with
    | int n =>
      obtain ⟨vw, e2, rw2⟩ := atI_rep r (of_ok (show Rs.of (atI l n) = .ok w from ew))
      refine ⟨a, us, n, vw, ea, kk.int, by rw [← tk]; exact .of ha, e2, ρ1, W1, o1.go.rel, ((PostE.bind h1w).move o1.go.s).post o1.go.rel fun p2 ρ2 h2 u2 H2 W2 o2 => ?_⟩
      obtain ⟨y, ey, h2⟩ := PostS.val .pk h2
      obtain ⟨z, ez, h2⟩ := PostS.val .dAug h2
      obtain ⟨ρ', e5, h2⟩ := PostS.val (.mutSlot fun _ => .dSet) h2
      refine aug_ok (K := T.K) (W := W2) (RepD.k (rw2.adv o1.go.rel.wl (o2.go.step.adv o1.go.rel))) (peek_ok o2.go.rel o2.rep (pk_of ey)) ez fun w' rw' => ?_
      refine set_slot o2.go.rel s0 (k := .int n) (.inr kk.int) rw' e5 fun H' g => h2 _ _ _ ((o1.go.trans o2.go).trans g).s
    | _ => cases ew
  | _ => cases lx
theorem st_expr {e : Ex} {v : Expr} {pos : Pos} (hn : notComp v = true) (he : PE X v (tE X T F Z e)) : PS X (.Expr v pos) (tS X T Z (ex F M (.expr e))) := by
  refine wkS (ps_expr he (swap_no hn)) ?_
  rintro En σ H ⟨ρ, W, R, h⟩
  exact ⟨ρ, W, R, (PostE.bind h).post R fun p1 ρ1 h1 v H1 W1 o1 => h1 _ _ _ o1.go.s⟩
theorem st_ret {e : Ex} {v : Expr} {pos : Pos} (he : PE X v (tE X T F Z e)) : PS X (.Return (some v) pos) (tS X T Z (ex F M (.ret e))) := by
  refine wkS (ps_ret he) ?_
  rintro En σ H ⟨ρ, W, R, h⟩
  exact ⟨ρ, W, R, (PostE.bind h).post R fun p1 ρ1 h1 v H1 W1 o1 => h1 _ _ _ _ (OutS.of o1)⟩
theorem st_retN {pos : Pos} : PS X (.Return none pos) (tS X T Z (ex F M .retN)) := by
  refine wkS ps_retN ?_
  rintro En σ H ⟨ρ, W, R, h⟩
  exact h .non σ H W ⟨GoS.refl R, rfl, fun _ e => by cases e⟩
theorem st_ite {c : Tx} {a b : Sxs} {c' : Expr} {a' b' : List Stmt} {pos : Pos} (hc : PT X c' (tT X T F Z c)) (ha : PSs X a' (tS X T Z (exs F M a))) (hb : PSs X b' (tS X T Z (exs F M b))) : PS X (.If c' a' b' pos) (tS X T Z (ex F M (.ite c a b))) := by
  refine wkS (ps_if hc ha hb) ?_
  rintro En σ H ⟨ρ, W, R, h⟩
  refine ⟨ρ, W, R, (PostE.bind h).post R fun k ρ1 h1 H1 W1 g1 => ?_⟩
  cases k with
  | true => rw [if_pos rfl]; exact ⟨ρ1, W1, g1.rel, PostS.move h1 g1.s⟩
  | false => rw [if_neg (by simp)]; exact ⟨ρ1, W1, g1.rel, PostS.move h1 g1.s⟩
theorem st_whl {c : Tx} {b : Sxs} {c' : Expr} {b' : List Stmt} {pos : Pos} (hp : PassesOwn (model X.prog X.w) X.A X.env X.xe) (hc : PT X c' (tT X T F Z c)) (hb : PSs X b' (tS X T Z (exs F M b))) : PS X (.While c' b' [] pos) (tS X T Z (ex F M (.whl c b))) := by
  refine wkS (ps_while hp hc hb) ?_
  rintro En σ H ⟨ρ, W, R, h⟩
  refine ⟨fun m σ H => ∃ ρ W, Rel T σ H ρ W ∧ PostS X Z T (whileR (evT F c) (exs F M b) m ρ) σ H ρ W En, ⟨M, ρ, W, R, h⟩, ?_⟩
  rintro m σ H ⟨ρ, W, R, h⟩
  cases m with
  | zero => exact h.elim
  | succ m =>
    refine ⟨ρ, W, R, (PostE.bind (r := evT F c ρ) h).post R fun k ρ1 h1 H1 W1 g1 => ?_⟩
    cases k with
    | false => rw [if_neg (by simp)]; exact h1 _ _ _ g1.s
    | true =>
      rw [if_pos rfl]
      refine ⟨fun σ H => ∃ ρ W, Rel T σ H ρ W ∧ PostS X Z T (whileR (evT F c) (exs F M b) m ρ) σ H ρ W En, fun σ' H' q => ⟨m, Nat.lt_succ_self m, q⟩, ρ1, W1, g1.rel, ?_⟩
      have h2 : PostS X Z T ((exs F M b ρ1).bind fun q => match q.1 with
        | .nx => whileR (evT F c) (exs F M b) m q.2
        | .ct => whileR (evT F c) (exs F M b) m q.2
        | .bk => .ok (.nx, q.2)
        | .rt p => .ok (.rt p, q.2)) σ H1 ρ1 W1 En := PostS.move h1 g1.s
      cases e : exs F M b ρ1 with
      | bad => rw [e] at h2; exact h2
      | err er => rw [e] at h2; exact h2
      | ok q =>
        obtain ⟨f, ρ2⟩ := q
        rw [e] at h2
        cases f with
        | nx => exact fun σ' H' W' g => ⟨ρ2, W', g.rel, PostS.move h2 g⟩
        | ct => exact fun σ' H' W' g => ⟨ρ2, W', g.rel, PostS.move h2 g⟩
        | bk => exact h2
        | rt p => exact h2
theorem st_for {tg : Tg} {it : Ie} {b : Sxs} {tg' it' : Expr} {b' : List Stmt} {pos : Pos} (tk : T.K = X.K) (hp : PassesOwn (model X.prog X.w) X.A X.env X.xe) (hc : X.calm = true) (hi : PI X tg' it' (tI X T F Z it)) (hg : PG X tg' (gT X.K tg)) (hb : PSs X b' (tS X T Z (exs F M b)))
    (hs : ∀ x, foldedSetIterable it' X.env x = pure x) : PS X (.For tg' it' b' [] pos) (tS X T Z (ex F M (.for_ tg it b))) := by
  refine wkS (ps_for hp hc hi hg hb hs) ?_
  rintro En σ H ⟨ρ, W, R, h⟩
  refine ⟨ρ, W, R, (PostE.bind h).post R fun lp ρ1 h1 J H1 W1 g1 feed => ?_⟩
  obtain ⟨l, p⟩ := lp
  dsimp only at h1 feed
  generalize hbody : (fun (d : D) (ρ1 : Env') => (asgT tg d ρ1).bind (exs F M b)) = body at h1
  have h1 : PostS X Z T ((forR body l (lockP p ρ1).2).bind (endFor (lockP p ρ1).1)) σ H1 ρ1 W1 En := PostS.move h1 g1.s
  have gl := lock_go g1.rel p
  refine ⟨fun i m σ' H' => m = l.length - i ∧ i ≤ l.length ∧ ∃ ρi Wi, Rel T σ' H' ρi Wi ∧ GoS T σ H1 (lockP p ρ1).2 W1 σ' H' ρi Wi ∧ forR body l (lockP p ρ1).2 = forR body (l.drop i) ρi,
    ⟨_, rfl, Nat.zero_le _, _, _, gl.rel, GoS.refl gl.rel, rfl⟩, ?_⟩
  rintro i m σ' H' ⟨rfl, hil, ρi, Wi, Ri, gi, ei⟩
  obtain ⟨fd, fs⟩ := feed _ _ _ _ Ri gi.step
  by_cases hlt : i < l.length
  · have hd : l[i]? = some l[i] := List.getElem?_eq_getElem hlt
    refine .inr ⟨(fd i _ hd).1, fun σ' H' => ∃ ρi Wi, Rel T σ' H' ρi Wi ∧ GoS T σ H1 (lockP p ρ1).2 W1 σ' H' ρi Wi ∧ forR body l (lockP p ρ1).2 = forR body (l.drop (i + 1)) ρi, fun σ2 H2 q => ⟨_, by omega, rfl, hlt, q⟩, fun x H2 y => ?_⟩
    obtain ⟨ly, rx⟩ := (fd i _ hd).2 x H2 y
    rw [drop_cons hd] at ei
    have ei : forR body l (lockP p ρ1).2 = (body l[i] ρi).bind fun q => match q.1 with
      | .nx => forR body (l.drop (i + 1)) q.2
      | .ct => forR body (l.drop (i + 1)) q.2
      | .bk => .ok (.nx, q.2)
      | .rt p => .ok (.rt p, q.2) := ei
    rw [ei] at h1
    have hbi : body l[i] ρi = (asgT tg l[i] ρi).bind (exs F M b) := by rw [← hbody]
    rw [hbi] at h1 ei
    have gy := Lay.go Ri ly
    cases ea : asgT tg l[i] ρi with
    | bad => rw [ea] at h1; exact h1.elim
    | err x => exact absurd ea (NoErr.asgT x)
    | ok ρ2 =>
      rw [ea] at h1 ei
      rw [← tk]
      refine gT_ok gy.rel ea rx fun σ3 g3 _ _ => ?_
      have gg := (gi.trans gy.s).trans g3
      refine ⟨ρ2, Wi, g3.rel, ?_⟩
      cases e : exs F M b ρ2 with
      | bad =>
        rw [show (Rs.ok ρ2).bind (exs F M b) = exs F M b ρ2 from rfl, e] at h1
        exact h1.elim
      | err er =>
        rw [show (Rs.ok ρ2).bind (exs F M b) = exs F M b ρ2 from rfl, e] at h1
        have h1 : ErrS X Z T er σ H1 ρ1 W1 := h1
        exact fun σ4 H4 ρ4 W4 g4 => h1 _ _ _ _ (gl.s.trans (gg.trans g4))
      | ok q =>
        obtain ⟨f, ρ4⟩ := q
        rw [show (Rs.ok ρ2).bind (exs F M b) = exs F M b ρ2 from rfl, e] at h1 ei
        cases f with
        | nx => exact fun σ4 H4 W4 g4 => ⟨ρ4, W4, g4.rel, gg.trans g4, ei⟩
        | ct => exact fun σ4 H4 W4 g4 => ⟨ρ4, W4, g4.rel, gg.trans g4, ei⟩
        | bk =>
          intro σ4 H4 W4 g4
          have h1 : PostS X Z T ((unlock (lockP p ρ1).1 ρ4).bind fun ρ => .ok (.nx, ρ)) σ H1 ρ1 W1 En := h1
          obtain ⟨ρ5, e5, h1⟩ := PostS.val .unlock h1
          exact h1 _ _ _ (unlock_go g1.rel (gg.trans g4) e5)
        | rt p2 =>
          intro v σ4 H4 W4 o4
          have h1 : EndS T σ H1 ρ1 W1 En (.rt p2) ρ4 := h1
          exact h1 v _ _ _ ((gl.s.trans gg).out o4)
  · have e : i = l.length := by omega
    subst e
    refine .inl ⟨fs, ?_⟩
    rw [List.drop_length] at ei
    rw [ei] at h1
    have h1 : PostS X Z T ((unlock (lockP p ρ1).1 ρi).bind fun ρ => .ok (.nx, ρ)) σ H1 ρ1 W1 En := h1
    obtain ⟨ρ5, e5, h1⟩ := PostS.val .unlock h1
    exact h1 _ _ _ (unlock_go g1.rel gi e5)
end
end Dv

set_option Elab.async false
set_option linter.all false
set_option maxRecDepth 100000
set_option maxHeartbeats 2000000
namespace Dv
open PySem PySem.Spec PyProof.Rows L2

section
variable {T : Tc} {F : Fn} {G : Gn} {np : Nat} {M : Nat}
theorem loc_of {sc : Scope} {x : Str} (h : isLoc sc x = true) : Loc sc x := by
  unfold isLoc at h
  split at h
  · rename_i e; exact .inl e
  · rename_i e; exact .inr e
  · cases h
theorem local_of {sc : Scope} {x : Str} (h : isLocal sc x = true) : sc.names.lookup x = some .local := by
  unfold isLocal at h
  split at h
  · rename_i e; exact e
  · cases h
theorem aug_of {a b : Operator} (h : augEq a b = true) : a = b := by cases a <;> cases b <;> first | rfl | cases h
/-- what a def's body runs in -/
structure Env2 (X : Cx) (T : Tc) (F : Fn) (Z : WX) (G : Gn) (np : Nat) : Prop extends Env1 X T F Z G np where
  fnT : ∀ x, X.fn x = true
  kind : X.env.scope.kind = .function
  po : PassesOwn (model X.prog X.w) X.A X.env X.xe
/-- a comprehension stored at once -/
theorem comp_set {X : Cx} {Z : WX} (E : Env1 X T F Z G np) {e : Ex} {v : Expr} {i : Nat} {y : Str} {py pos : Pos} (hy : X.N[i]? = some y) (h : ckE G X.N np X.env.scope e v = true) (hn : notComp v = false) (hl : isLocal X.env.scope y = true) (hsw : swapsWith v (some (.Name y py)) pos.line X.env = pure true) :
    PS X (.Assign [.Name y py] v pos) (tAsg (tE X T F Z e) (gName i)) := by
  cases v with
  | ListComp elt' gs scope cpos =>
    cases e with
    | comp elt tg it ifs own =>
      rcases gs with _ | ⟨⟨tg', it', ifs', as⟩, _ | ⟨_, _⟩⟩
      · cases h
      · obtain ⟨h1, h2⟩ := and2 h
        obtain ⟨h3, h4⟩ := and2 h1
        obtain ⟨h5, h6⟩ := and2 h3
        obtain ⟨h7, h8⟩ := and2 h5
        obtain ⟨h9, h10⟩ := and2 h7
        obtain ⟨h11, h12⟩ := and2 h9
        obtain ⟨h13, h14⟩ := and2 h11
        obtain ⟨h15, h16⟩ := and2 h13
        have h0 : as = 0 := of_decide_eq_true h15
        subst h0
        have ok := blkOk_by h12
        have ow : (own.map fun i => (X.N.getD i ⟨#[]⟩, i)).map (·.2) = own := by rw [List.map_map]; exact List.map_id' own
        have pc := ps_setLc (py := py) (spos := pos) (g := gT X.K tg) (wi := tI X T F Z it) (tt := tCl X T F Z0 ifs) (te := tE X T F Z0 elt) E.calm E.nd hy (local_of hl) hsw (snd_I it E h16) ok
          (fun s H C cl fp => tg_ok (X := X.blk s H scope (compEnvC scope cl C X.env) fp) (sc := scope) E.calm E.nd (fun x hx => by
            unfold isLoc at hx
            split at hx
            · rename_i e
              have : (relS scope X.env.scope).names.lookup x = some .local := lookup_relS_keep (by decide) e
              exact ⟨.inl this, .inr this⟩
            · rename_i e
              have : (relS scope X.env.scope).names.lookup x = some .cell := lookup_relS_keep (by decide) e
              exact ⟨.inr this, .inl (by show (scope.names.lookup x == some .cell) = true; rw [e]; rfl)⟩
            · cases hx) h6)
          (fun s H C cl fp => snd_C ifs (E.blk s H scope (compEnvC scope cl C X.env) fp) h4)
          (fun s H C cl fp => snd_E elt (E.blk s H scope (compEnvC scope cl C X.env) fp) h2) (fold_of h14)
        rw [ow] at pc
        refine wkS pc fun D σ H q => ?_
        refine comp_tLc E.tk (fun i hi => ?_) (fun i hi => ?_) q
        · cases hb : T.bm i with
          | none => rfl
          | some a =>
            have := E.bm i a hb
            rw [List.all_eq_true] at h10
            have h3 := of_decide_eq_true (h10 i hi)
            omega
        · rw [List.all_eq_true] at h8
          exact of_decide_eq_true (h8 i hi)
      · simp [ckE] at h
    | _ => simp [ckE, asCall] at h
  | SetComp _ _ _ _ => cases e <;> simp [ckE, asCall] at h
  | DictComp _ _ _ _ _ => cases e <;> simp [ckE, asCall] at h
  | _ => cases hn

theorem sole_no {v t : Expr} {n : Nat} {env : Env} (h : notComp v = true) : swapsWithSole [t] v n env = pure false := by
  unfold swapsWithSole
  exact swap_no h
theorem ck_two {s : Sx} {t u : Expr} {r : List Expr} {v : Expr} {pos : Pos} {N : List Str} {sc : Scope} (nb : s ≠ .bad) (h : ckS G N np sc s (.Assign (t :: u :: r) v pos) = true) : False := by
  cases s <;> cases t <;> first | exact absurd rfl nb | (cases h; done) | (rename_i es _ _; rcases es with _ | ⟨x, _ | ⟨y, _ | ⟨_, _⟩⟩⟩ <;> first | (cases h; done) | (cases x <;> first | (cases h; done) | (cases y <;> cases h))) | (rename_i o _ _; cases o <;> cases h)
theorem par_of {i j : Nat} {a b : Ex} {s' : Stmt} {N : List Str} {sc : Scope} (h : ckS G N np sc (.par i j a b) s' = true) : ∃ x px y py kt pt a' b' k2 pt2 pos, s' = .Assign [.Tuple [.Name x px, .Name y py] kt pt] (.Tuple [a', b'] k2 pt2) pos := by
  unfold ckS at h
  split at h
  all_goals first | (rename_i e _; cases e; done) | (cases h; done) | skip
  all_goals first | (simp_all; done) | skip
mutual
theorem snd_S : ∀ (s : Sx) {X : Cx} {Z : WX} (E : Env2 X T F Z G np) {s' : Stmt}, ckS G X.N np X.env.scope s s' = true → PS X s' (tS X T Z (ex F M s))
  | .set i e, X, Z, E, s', h => by
    cases s' with
    | Assign ts v pos =>
      rcases ts with _ | ⟨t, _ | ⟨_, _⟩⟩
      · cases h
      · cases t with
        | Name y py =>
          obtain ⟨h1, h2⟩ := and2 h
          obtain ⟨h3, h4⟩ := and2 h1
          obtain ⟨h5, h6⟩ := and2 h3
          have hy := of_decide_eq_true h5
          exact wkS (set_ok E.nd hy (loc_of h6) (E.fnT _) E.kind h4 (snd_E e E.toEnv1 h2) fun hn hl hsw => comp_set E.toEnv1 hy h2 hn hl hsw) fun D σ H q => set_read (F := F) q
        | _ => cases h
      · exact (ck_two (h := h) (by intro z; cases z)).elim
    | _ => cases h
  | .setT l e, X, Z, E, s', h => by
    cases s' with
    | Assign ts v pos =>
      rcases ts with _ | ⟨t, _ | ⟨_, _⟩⟩
      · cases h
      · cases t with
        | Tuple es k tp =>
          obtain ⟨h1, h2⟩ := and2 h
          obtain ⟨h3, h4⟩ := and2 h1
          obtain ⟨h5, h6⟩ := and2 h3
          have hg := tg_ok (X := X) (sc := X.env.scope) E.calm E.nd (fun x hx => ⟨loc_of hx, .inl (E.fnT x)⟩) h4
          exact st_setT E.tk (snd_E e E.toEnv1 h2) hg (sole_no h6) (by cases v <;> first | rfl | cases h5) rfl
        | _ => cases h
      · exact (ck_two (h := h) (by intro z; cases z)).elim
    | _ => cases h
  | .par i j a b, X, Z, E, s', h => by
    obtain ⟨x, px, y, py, kt, pt, a', b', k2, pt2, pos, rfl⟩ := par_of h
    obtain ⟨h1, h2⟩ := and2 h
    obtain ⟨h3, h4⟩ := and2 h1
    obtain ⟨h5, h6⟩ := and2 h3
    obtain ⟨h7, h8⟩ := and2 h5
    obtain ⟨h9, h10⟩ := and2 h7
    have hw := par_swap (pt := pt) (pt2 := pt2) (kt := kt) (k2 := k2) E.kind h6
    obtain ⟨g1, g2⟩ := and2 h6
    obtain ⟨g3, g4⟩ := and2 g1
    obtain ⟨g5, g6⟩ := and2 g3
    obtain ⟨g7, g8⟩ := and2 g5
    obtain ⟨g9, g10⟩ := and2 g7
    obtain ⟨g11, g12⟩ := and2 g9
    obtain ⟨g13, g14⟩ := and2 g11
    exact st_par E.calm E.nd (of_decide_eq_true h9) (of_decide_eq_true h10) (of_decide_eq_true h8) (local_of g13) (local_of g14) (snd_E a E.toEnv1 h4) (snd_E b E.toEnv1 h2) g8 g6 hw
  | .setI i ix e, X, Z, E, s', h => by
    cases s' with
    | Assign ts v pos =>
      rcases ts with _ | ⟨t, _ | ⟨_, _⟩⟩
      · cases h
      · cases t with
        | Subscript o ix' ip =>
          cases o with
          | Name y yp =>
            obtain ⟨h1, h2⟩ := and2 h
            obtain ⟨h3, h4⟩ := and2 h1
            obtain ⟨h5, h6⟩ := and2 h3
            obtain ⟨h7, h8⟩ := and2 h5
            obtain ⟨h9, h10⟩ := and2 h7
            obtain ⟨n1, n2, n3⟩ := name_of h8
            exact st_setI h6 (pe_var (of_decide_eq_true h9) (vis_of h10) n1 n2) (snd_E ix E.toEnv1 h4) (snd_E e E.toEnv1 h2)
          | _ => cases h
        | _ => cases h
      · exact (ck_two (h := h) (by intro z; cases z)).elim
    | _ => cases h
  | .aug i op e, X, Z, E, s', h => by
    cases s' with
    | AugAssign t op' v pos =>
      cases t with
      | Name y yp =>
        obtain ⟨h1, h2⟩ := and2 h
        obtain ⟨h3, h4⟩ := and2 h1
        obtain ⟨h5, h6⟩ := and2 h3
        have ho : op = op' := aug_of h5
        subst ho
        exact st_aug E.nd (of_decide_eq_true h6) (loc_of h4) (E.fnT _) (snd_E e E.toEnv1 h2)
      | _ => cases h
    | _ => cases h
  | .augI i op ix e, X, Z, E, s', h => by
    cases s' with
    | AugAssign t op' v pos =>
      cases t with
      | Subscript o ix' ip =>
        cases o with
        | Name y yp =>
          obtain ⟨h1, h2⟩ := and2 h
          obtain ⟨h3, h4⟩ := and2 h1
          obtain ⟨h5, h6⟩ := and2 h3
          obtain ⟨h7, h8⟩ := and2 h5
          obtain ⟨h9, h10⟩ := and2 h7
          obtain ⟨h11, h12⟩ := and2 h9
          have ho : op = op' := aug_of h11
          subst ho
          obtain ⟨n1, n2, n3⟩ := name_of h8
          exact st_augI h6 E.tk (pe_var (of_decide_eq_true h12) (vis_of h10) n1 n2) (snd_E ix E.toEnv1 h4) (snd_E e E.toEnv1 h2)
        | _ => cases h
      | _ => cases h
    | _ => cases h
  | .expr e, X, Z, E, s', h => by
    cases s' with
    | Expr v pos =>
      obtain ⟨h1, h2⟩ := and2 h
      exact st_expr h1 (snd_E e E.toEnv1 h2)
    | _ => cases h
  | .ret e, X, Z, E, s', h => by
    cases s' with
    | Return v pos =>
      cases v with
      | some v => exact st_ret (snd_E e E.toEnv1 h)
      | none => cases h
    | _ => cases h
  | .retN, X, Z, E, s', h => by
    cases s' with
    | Return v pos =>
      cases v with
      | some v => cases h
      | none => exact st_retN
    | _ => cases h
  | .ite c a b, X, Z, E, s', h => by
    cases s' with
    | If c' a' b' pos =>
      obtain ⟨h1, h2⟩ := and2 h
      obtain ⟨h3, h4⟩ := and2 h1
      exact st_ite (snd_T c E.toEnv1 h3) (snd_Ss a E h4) (snd_Ss b E h2)
    | _ => cases h
  | .whl c b, X, Z, E, s', h => by
    cases s' with
    | While c' b' el pos =>
      cases el with
      | nil =>
        obtain ⟨h1, h2⟩ := and2 h
        exact st_whl E.po (snd_T c E.toEnv1 h1) (snd_Ss b E h2)
      | cons _ _ => cases h
    | _ => cases h
  | .for_ tg it b, X, Z, E, s', h => by
    cases s' with
    | For tg' it' b' el pos =>
      cases el with
      | nil =>
        obtain ⟨h1, h2⟩ := and2 h
        obtain ⟨h3, h4⟩ := and2 h1
        obtain ⟨h5, h6⟩ := and2 h3
        have hg := tg_ok (X := X) (sc := X.env.scope) E.calm E.nd (fun x hx => ⟨loc_of hx, .inl (E.fnT x)⟩) h4
        exact st_for E.tk E.po E.calm (snd_I it E.toEnv1 h5) hg (snd_Ss b E h2) (fold_of h6)
      | cons _ _ => cases h
    | _ => cases h
  | .brk, X, Z, E, s', h => by
    cases s' with
    | Break pos =>
      refine wkS ps_break ?_
      rintro En σ H ⟨ρ, W, R, h⟩
      exact h _ _ _ (GoS.refl R)
    | _ => cases h
  | .cnt, X, Z, E, s', h => by
    cases s' with
    | Continue pos =>
      refine wkS ps_continue ?_
      rintro En σ H ⟨ρ, W, R, h⟩
      exact h _ _ _ (GoS.refl R)
    | _ => cases h
  | .pass, X, Z, E, s', h => by
    cases s' with
    | Pass pos =>
      refine wkS ps_pass ?_
      rintro En σ H ⟨ρ, W, R, h⟩
      exact h _ _ _ (GoS.refl R)
    | _ => cases h
  | .bad, X, Z, E, s', h => ⟨fun pins s σ H D I q => by
    obtain ⟨ρ, W, R, q⟩ := q
    exact q.elim⟩
theorem snd_Ss : ∀ (l : Sxs) {X : Cx} {Z : WX} (E : Env2 X T F Z G np) {l' : List Stmt}, ckSs G X.N np X.env.scope l l' = true → PSs X l' (tS X T Z (exs F M l))
  | .nil, X, Z, E, l', h => by
    cases l' with
    | nil =>
      refine wkSs pss_nil ?_
      rintro En σ H ⟨ρ, W, R, h⟩
      exact h _ _ _ (GoS.refl R)
    | cons _ _ => cases h
  | .cons s l, X, Z, E, l', h => by
    cases l' with
    | nil => cases h
    | cons s' l' =>
      obtain ⟨h1, h2⟩ := and2 h
      refine wkSs (pss_cons (snd_S s E h1) (snd_Ss l E h2)) ?_
      rintro En σ H ⟨ρ, W, R, h⟩
      refine ⟨ρ, W, R, ?_⟩
      have h : PostS X Z T ((ex F M s ρ).bind fun q => match q.1 with
        | .nx => exs F M l q.2
        | _ => .ok q) σ H ρ W En := h
      cases e : ex F M s ρ with
      | bad => rw [e] at h; exact h
      | err er => rw [e] at h; exact h
      | ok q =>
        obtain ⟨f, ρ1⟩ := q
        rw [e] at h
        cases f with
        | nx => exact fun σ' H' W' g => ⟨ρ1, W', g.rel, PostS.move h g⟩
        | bk => exact h
        | ct => exact h
        | rt p => exact h
end
end
end Dv

set_option Elab.async false
set_option linter.all false
set_option maxRecDepth 100000
set_option maxHeartbeats 1000000
namespace Dv
open PySem PySem.Spec PyProof.Rows L2

/-! ### a def keeps its promise -/
/-- what is known of a def, wherever it is called from -/
structure DefK (P : Program) (w : World) (K : PySem.W.Frag) (mg : Str → Option Value) (base : Heap) (F : Fn) (k : Nat) (f : Str) (np mn : Nat) : Prop where
  ex : ∃ (fa : Addr) (fd : FuncData) (ps : List Str), FnOk P w K mg base (L2.CX P w) k fa fd ps (spOf F mg K ps.length f) ∧ mg f = some (.ref fa) ∧ PySem.W.keepIn K (.ref fa) = true ∧
    ps.length = np ∧ (∀ as, F.call f as ≠ .bad → as.length = np) ∧
    ∀ n, mn ≤ n → n ≤ np → ∃ (ds : List Value) (dvs : List V), Binds K fd ps ds ∧ Vals dvs ds ∧ ∀ H W, RepDs K H W dvs (F.dfl f n)
theorem DefK.mono {P : Program} {w : World} {K : PySem.W.Frag} {mg : Str → Option Value} {base : Heap} {F : Fn} {j k : Nat} {f : Str} {np mn : Nat} (h : DefK P w K mg base F j f np mn) (le : j ≤ k) : DefK P w K mg base F k f np mn := by
  obtain ⟨fa, fd, ps, h1, h2⟩ := h.ex
  exact ⟨fa, fd, ps, h1.mono le, h2⟩
/-- what is known of the module's names -/
structure GloK (K : PySem.W.Frag) (mg : Str → Option Value) (F : Fn) (G : Gn) : Prop where
  glo : ∀ x d, F.glo x = some d → ∃ u v, mg x = some u ∧ RelV v u ∧ ∀ H W, RepD K H W v d
  free : ∀ x ∈ G.free, mg x = none
  bt : ∀ p ∈ G.bt, mg p.1 = some (.builtin p.2)

theorem rs_bind {α β : Type} {r : Rs α} {f : α → Rs β} {y : β} (h : r.bind f = .ok y) : ∃ x, r = .ok x ∧ f x = .ok y := by
  cases r with
  | ok a => exact ⟨a, rfl, h⟩
  | err _ => cases h
  | bad => cases h

def bmOf (vs : List V) (as : List A) (i : Nat) : Option Addr := match as[i]?, vs[i]? with
  | some (.own _), some (.ref a) => some a
  | some (.rd _), some (.ref a) => some a
  | _, _ => none

section
variable {K : PySem.W.Frag} {H : Hp} {W : AS} {vs : List V} {as : List A} {N : List Str}
theorem env_get {i n : Nat} {s : S} (h : (envOf n as)[i]? = some (some s)) : ∃ a, as[i]? = some a ∧ s = a.slot := by
  unfold envOf at h
  by_cases hi : i < as.length
  · rw [List.getElem?_append_left (by simpa using hi), List.getElem?_map] at h
    cases e : as[i]? with
    | none => rw [e] at h; cases h
    | some a => rw [e] at h; cases h; exact ⟨a, rfl, rfl⟩
  · rw [List.getElem?_append_right (by simpa using hi), List.getElem?_replicate] at h
    split at h <;> cases h
theorem env_at {i n : Nat} {a : A} (h : as[i]? = some a) : (envOf n as)[i]? = some (some a.slot) := by
  have hi := (List.getElem?_eq_some_iff.mp h).1
  unfold envOf
  rw [List.getElem?_append_left (by simpa using hi), List.getElem?_map, h]
  rfl
theorem start_at {i : Nat} {v : V} (h : vs[i]? = some v) : (L2.start N vs)[i]? = some (some v) := by
  have hi := (List.getElem?_eq_some_iff.mp h).1
  unfold L2.start
  rw [List.getElem?_append_left (by simpa using hi), List.getElem?_map, h]
  rfl
theorem start_get {i : Nat} {v : V} (h : (L2.start N vs)[i]? = some (some v)) : vs[i]? = some v := by
  unfold L2.start at h
  by_cases hi : i < vs.length
  · rw [List.getElem?_append_left (by simpa using hi), List.getElem?_map] at h
    cases e : vs[i]? with
    | none => rw [e] at h; cases h
    | some a => rw [e] at h; cases h; rfl
  · rw [List.getElem?_append_right (by simpa using hi), List.getElem?_replicate] at h
    split at h <;> cases h
theorem bm_mut {i : Nat} {b : Addr} (h : bmOf vs as i = some b) : vs[i]? = some (.ref b) ∧ ∃ a, as[i]? = some a ∧ isMut a ∧ isBor a.slot := by
  unfold bmOf at h
  split at h
  · rename_i e1 e2; cases h; exact ⟨e2, _, e1, trivial, trivial⟩
  · rename_i e1 e2; cases h; exact ⟨e2, _, e1, trivial, trivial⟩
  · cases h
theorem own_arg {i n : Nat} {b : Addr} (h : OwnA (L2.start N vs) (envOf n as) i b) : vs[i]? = some (.ref b) ∧ ∃ a, as[i]? = some a ∧ isMut a := by
  obtain ⟨h1, h2⟩ := h
  refine ⟨start_get h2, ?_⟩
  rcases h1 with ⟨c, d, e⟩ | ⟨c, d, e⟩
  all_goals
    obtain ⟨a, e1, e2⟩ := env_get e
    refine ⟨a, e1, ?_⟩
    cases a <;> first | trivial | cases e2
theorem rel_start (wl : WL H W) (ar : ArgR K H W vs as) : Rel ⟨K, fun a => H a = none, bmOf vs as⟩ (L2.start N vs) H (envOf N.length as) W := by
  have hl := ar.length
  refine ⟨?_, fun i s h => ?_, fun i j b h1 h2 => ?_, wl, fun i d a h _ => ?_, fun _ h => h, fun i b h => ?_⟩
  · unfold envOf L2.start
    simp [hl]
  · obtain ⟨a, e1, rfl⟩ := env_get h
    obtain ⟨v, e2, q⟩ := ar.get e1
    refine ⟨_, start_at e2, ?_⟩
    cases a with
    | val d => exact ⟨v, rfl, q⟩
    | own d => obtain ⟨b, o, rfl, x, y, z⟩ := q; exact ⟨b, o, rfl, x, y, z⟩
    | rd d => obtain ⟨b, o, rfl, x, y, z⟩ := q; exact ⟨b, o, rfl, x, y, z⟩
  · obtain ⟨v1, a1, x1, m1⟩ := own_arg h1
    obtain ⟨v2, a2, x2, m2⟩ := own_arg h2
    exact ar.dst x1 x2 m1 m2 v1 v2
  · rcases h with h | h
    all_goals
      obtain ⟨x, _, e⟩ := env_get h
      cases x <;> cases e
  · obtain ⟨e, a, e1, _, e2⟩ := bm_mut h
    exact ⟨start_at e, a.slot, env_at e1, e2⟩

theorem outs_get : ∀ {as r : List A} {ρ : Env'}, outArgs as ρ = .ok r → ∀ (j : Nat) (a x : A), as[j]? = some a → r[j]? = some x → outArg a ρ[j]? = .ok x
  | [], _, _, _, _, _, _, e, _ => by simp at e
  | b :: as, r, ρ, h, j, a, x, e1, e2 => by
    unfold outArgs at h
    cases h1 : outArg b ρ.head? with
    | bad => rw [h1] at h; cases h
    | err _ => rw [h1] at h; cases h
    | ok y =>
      rw [h1] at h
      change (outArgs as ρ.tail).bind _ = _ at h
      cases h2 : outArgs as ρ.tail with
      | bad => rw [h2] at h; cases h
      | err _ => rw [h2] at h; cases h
      | ok t =>
        rw [h2] at h
        cases h
        cases j with
        | zero =>
          cases e1; cases e2
          rw [← List.head?_eq_getElem?]
          exact h1
        | succ j =>
          have := outs_get h2 j a x (by simpa using e1) (by simpa using e2)
          cases ρ <;> simpa using this

theorem outs_same : ∀ {as r : List A} {ρ ρ2 : Env'}, outArgs as ρ2 = .ok r → (∀ (j : Nat) (x : A), as[j]? = some x → (∃ d, x = .val d) ∨ ρ2[j]? = ρ[j]?) → outArgs as ρ = .ok r
  | [], _, _, _, h, _ => h
  | b :: as, r, ρ, ρ2, h, w => by
    unfold outArgs at h ⊢
    obtain ⟨y, h1, h2⟩ := rs_bind h
    obtain ⟨t, h3, h4⟩ := rs_bind h2
    have e1 : outArg b ρ.head? = .ok y := by
      rcases w 0 b rfl with ⟨d, rfl⟩ | e
      · exact h1
      · rw [List.head?_eq_getElem?, ← e, ← List.head?_eq_getElem?]; exact h1
    have e2 : outArgs as ρ.tail = .ok t := outs_same h3 fun j x hj => by
      have := w (j + 1) x (by simpa using hj)
      rw [List.getElem?_tail, List.getElem?_tail]
      exact this
    rw [e1]
    show (outArgs as ρ.tail).bind _ = _
    rw [e2]
    exact h4

theorem end_ok {T : Tc} {H' : Hp} {W' : AS} {σ' : Sg} {ρ' : Env'} {r : Re} {as' : List A} {v : V} (hT : T = ⟨K, fun a => H a = none, bmOf vs as⟩) (ar : ArgR K H W vs as) (g : GoS T (L2.start N vs) H (envOf N.length as) W σ' H' ρ' W') (ho : outArgs as ρ' = .ok as')
    (hr : ResR K H H' W' v r) : CallEnd K H W vs as r as' v H' W' := by
  subst hT
  refine ⟨fun b o h n => ?_, g.dom, g.rel.wl, fun j v a x e1 e2 e3 => ?_, hr⟩
  · obtain ⟨h1, _, h2⟩ := g.step b o h fun i ⟨⟨c, d, e⟩, q⟩ => by
      obtain ⟨a, e1, e2⟩ := env_get e
      cases a with
      | own d => exact n ⟨i, d, e1, start_get q⟩
      | _ => cases e2
    exact ⟨h1, h2⟩
  · have ho := outs_get ho j a x e2 e3
    cases a with
    | val d => cases x <;> trivial
    | rd d => cases x <;> trivial
    | own d =>
      obtain ⟨v', e4, b, o, rfl, _⟩ := ar.get e2
      rw [e1] at e4; cases e4
      have hb : bmOf vs as j = some b := by unfold bmOf; rw [e2, e1]
      obtain ⟨hs, s, hs2, _⟩ := g.rel.bor j b hb
      rw [hs2] at ho
      obtain ⟨o', e5, q⟩ := g.rel.at_ j s hs2
      rw [hs] at e5; cases e5
      cases s with
      | val d => cases ho
      | own c d => cases c with
        | true => cases ho; obtain ⟨b', o', z, q⟩ := q; cases z; exact ⟨b, o', rfl, q⟩
        | false => cases ho
      | lck c d => cases c with
        | true => cases ho; obtain ⟨b', o', z, q⟩ := q; cases z; exact ⟨b, o', rfl, q⟩
        | false => cases ho
      | brz d => cases ho; obtain ⟨v', z, q⟩ := q; cases z; exact q
end

theorem NoErr.outArgs : ∀ {as : List A} {ρ : Env'} {e : Er}, outArgs as ρ ≠ .err e
  | [], _, _, h => by cases h
  | a :: as, ρ, e, h => by
    unfold Dv.outArgs at h
    cases h1 : outArg a ρ.head? with
    | bad => rw [h1] at h; cases h
    | err _ =>
      unfold outArg at h1
      split at h1 <;> first | cases h1 | (split at h1 <;> cases h1)
    | ok y =>
      rw [h1] at h
      change (Dv.outArgs as ρ.tail).bind _ = _ at h
      cases h2 : Dv.outArgs as ρ.tail with
      | bad => rw [h2] at h; cases h
      | err _ => exact NoErr.outArgs h2
      | ok t => rw [h2] at h; cases h
theorem fin_noerr {as : List A} {q : Fl × Env'} {e : Er} : finish as q ≠ .err e := fun h => by
  obtain ⟨f, ρ⟩ := q
  cases f with
  | nx =>
    change (outArgs as ρ).bind _ = _ at h
    cases h2 : outArgs as ρ with
    | bad => rw [h2] at h; cases h
    | err _ => exact NoErr.outArgs h2
    | ok t => rw [h2] at h; cases h
  | rt p =>
    change (retOf p ρ).bind _ = _ at h
    cases h1 : retOf p ρ with
    | bad => rw [h1] at h; cases h
    | err _ =>
      unfold retOf at h1
      split at h1 <;> first | cases h1 | (split at h1 <;> cases h1)
    | ok t =>
      rw [h1] at h
      change (outArgs as t.2).bind _ = _ at h
      cases h2 : outArgs as t.2 with
      | bad => rw [h2] at h; cases h
      | err _ => exact NoErr.outArgs h2
      | ok t => rw [h2] at h; cases h
  | bk => cases h
  | ct => cases h

/-- THE RULE: a def, by its body's value -/
theorem def_ok {P : Program} {w : World} {K : PySem.W.Frag} {mg : Str → Option Value} {base : Heap} {k : Nat} {fa : Addr} {name qual : Str} {params : Arguments} {body : List Stmt} {scope : Scope} {dV kV doc pm cdv ct oc : Value} {an od : Option Addr}
    {osl : Array (Option Value)} {N ps : List Str} {F F2 : Fn} {G : Gn} {f : Str} {b : Sxs} (lk : K.lookup fa = some ⟨oc, od, .func (PySem.W.fnOf name qual params body scope dV kV doc pm an cdv ct), osl⟩) (hcd : PySem.W.codeIn K cdv qual = true) (S : FnScope N ps scope)
    (gk : GloK K mg F G) (hfs : ∀ p ∈ G.fs, DefK P w K mg base F k p.1 p.2.1 p.2.2) (hc : ckSs G N ps.length scope b body = true)
    (hF : ∀ as, F2.call f as ≠ .bad → as.length = ps.length ∧ ∃ M, runDef F M N.length b as = F2.call f as) :
    FnOk P w K mg base (L2.CX P w) (k + 1) fa (PySem.W.fnOf name qual params body scope dV kV doc pm an cdv ct) ps (spOf F2 mg K ps.length f) := by
  refine fn_of lk hcd S (fun vs H Q E h => h.1) fun A outer s H vs Q E hr ⟨hl, W, as, wl, ar, q⟩ => ?_
  have nb : F2.call f as ≠ .bad := fun e => by rw [e] at q; exact q
  obtain ⟨_, M, hM⟩ := hF as nb
  have E2 : Env2 (cxOf (L2.CX P w) P w K mg base N qual scope fa cdv A outer s H E) ⟨K, fun a => H a = none, bmOf vs as⟩ F (fun cls d _ H => E cls d H) G ps.length := by
    refine ⟨⟨rfl, rfl, S.nd, ?_, gk.glo, gk.free, gk.bt, fun p hp => ?_, takes_of rfl rfl rfl rfl, fun i a h => ?_⟩, fun _ => rfl, S.kind, passes_of rfl⟩
    · have := hr.un
      show (A.deeper (envOfC qual scope s.heap.objs.size fa cdv)).units + 65 < cLine
      omega
    · obtain ⟨fa', fd', ps', h1, h2, h3, h4, h5, h6⟩ := (hfs p hp).ex
      exact ⟨k, fa', fd', ps', h1, hr, h2, h3, h4, h5, h6⟩
    · obtain ⟨h1, _⟩ := bm_mut h
      have := (List.getElem?_eq_some_iff.mp h1).1
      omega
  have R := rel_start (N := N) wl ar
  refine ⟨_, snd_Ss (M := M) b E2 hc, envOf N.length as, W, R, ?_⟩
  unfold runDef at hM
  cases hx : exs F M b (envOf N.length as) with
  | bad =>
    rw [hx] at hM
    exact nb hM.symm
  | err er =>
    rw [hx] at hM
    rw [← hM] at q
    intro σ1 H1 ρ1 W1 g cls d H' e kp
    refine q cls d H' e fun x o h n => ?_
    obtain ⟨h1, n1, _⟩ := g.step x o h fun i ⟨⟨c, d, e⟩, z⟩ => by
      obtain ⟨a, e1, e2⟩ := env_get e
      cases a with
      | own d => exact n ⟨i, d, e1, start_get z⟩
      | _ => cases e2
    exact kp x o h1 n1
  | ok y =>
    obtain ⟨fl, ρ'⟩ := y
    rw [hx] at hM
    change finish as (fl, ρ') = F2.call f as at hM
    cases hcall : F2.call f as with
    | bad => exact absurd hcall nb
    | err er => rw [hcall] at hM; exact absurd hM fin_noerr
    | ok ra =>
      obtain ⟨r, as'⟩ := ra
      rw [hcall] at q hM
      change ∀ v H' W', CallEnd K H W vs as r as' v H' W' → Q v H' at q
      cases fl with
      | bk => cases hM
      | ct => cases hM
      | nx =>
        obtain ⟨t, h1, h2⟩ := rs_bind (show (outArgs as ρ').bind _ = _ from hM)
        cases h2
        intro σ' H' W' g
        exact q _ _ _ (end_ok rfl ar g h1 rfl)
      | rt p =>
        obtain ⟨⟨r', ρ2⟩, h1, h2⟩ := rs_bind (show (retOf p ρ').bind _ = _ from hM)
        obtain ⟨t, h3, h4⟩ := rs_bind (show (outArgs as ρ2).bind _ = _ from h2)
        cases h4
        intro v σ' H' W' o
        cases p with
        | val d =>
          cases h1
          exact q _ _ _ (end_ok rfl ar o.go h3 o.rep)
        | own d =>
          cases h1
          obtain ⟨a, ob, rfl, h5, h6, _, h7, h8⟩ := o.rep
          exact q _ _ _ (end_ok rfl ar o.go h3 ⟨a, ob, rfl, h7, h5, h6, h8⟩)
        | at_ i =>
          have hv : σ'[i]? = some (some v) := o.rep
          unfold retOf at h1
          dsimp only at h1
          split at h1
          · rename_i d e
            cases h1
            obtain ⟨ov, e1, a, ob, e2, h5, h6, h8⟩ := o.go.rel.at_ i _ e
            rw [hv] at e1; cases e1; cases e2
            have h7 := o.go.rel.fr i d a (.inl e) hv
            have hn : ∀ j x, as[j]? = some x → isMut x → j ≠ i := fun j x hj hm e5 => by
              subst e5
              cases x with
              | val d => exact hm
              | rd d =>
                obtain ⟨v', e6, b', _, rfl, _⟩ := ar.get hj
                have hb : bmOf vs as j = some b' := by unfold bmOf; rw [hj, e6]
                obtain ⟨_, s, e7, e8⟩ := o.go.rel.bor j b' hb
                rw [e] at e7; cases e7; exact e8
              | own d =>
                obtain ⟨v', e6, b', _, rfl, _⟩ := ar.get hj
                have hb : bmOf vs as j = some b' := by unfold bmOf; rw [hj, e6]
                obtain ⟨_, s, e7, e8⟩ := o.go.rel.bor j b' hb
                rw [e] at e7; cases e7; exact e8
            have h9 : outArgs as ρ' = .ok as' := outs_same h3 fun j x hj => by
              by_cases hm : isMut x
              · exact .inr (by rw [List.getElem?_set_ne (Ne.symm (hn j x hj hm))])
              · cases x with
                | val d => exact .inl ⟨d, rfl⟩
                | _ => exact absurd trivial hm
            exact q _ _ _ (end_ok rfl ar o.go h9 ⟨a, ob, rfl, h7, h5, h6, h8⟩)
          · rename_i d e
            cases h1
            obtain ⟨W2, R2, rd, st, mo⟩ := freeze_at o.go.rel e hv
            have g2 : GoS ⟨K, fun a => H a = none, bmOf vs as⟩ σ' H' ρ' W' σ' H' (ρ'.set i (some (thaw true d))) W2 := ⟨R2, st, fun _ h => h, fun j b hb => .inl ⟨j, mo j b hb⟩, fun j b d hj => ⟨by
              have ne : i ≠ j := fun z => by subst z; rw [e] at hj; cases hj
              rw [List.getElem?_set_ne ne]; exact hj, rfl⟩⟩
            exact q _ _ _ (end_ok rfl ar (o.go.trans g2) h3 rd)
          · cases h1
end Dv

set_option Elab.async false
set_option linter.all false
set_option maxRecDepth 100000
set_option maxHeartbeats 1000000
namespace Dv
open PySem PySem.Spec PyProof.Rows L2

/-! ### a module's defs, one behind another -/
/-- a def: its name, how many parameters, how few arguments, how many slots, its text, what fills up a call with n arguments -/
structure Dm where
  f : Str
  np : Nat
  mn : Nat
  n : Nat
  body : Sxs
  dfl : Nat → List D := fun _ => []
/-- what the defs compute; each one calls only those behind it -/
noncomputable def mkF (glo : Str → Option D) (M : Nat) : List Dm → Fn
  | [] => ⟨fun _ _ => .bad, glo, fun _ _ => []⟩
  | d :: ds => ⟨fun f as => if f = d.f then (if as.length = d.np then runDef (mkF glo M ds) M d.n d.body as else .bad) else (mkF glo M ds).call f as, glo, fun f n => if f = d.f then d.dfl n else (mkF glo M ds).dfl f n⟩
def gnOf (free : List Str) (bt : List (Str × String)) (ds : List Dm) : Gn := ⟨free, bt, ds.map fun e => (e.f, e.np, e.mn)⟩
structure GloF (K : PySem.W.Frag) (mg : Str → Option Value) (glo : Str → Option D) (free : List Str) (bt : List (Str × String)) : Prop where
  glo : ∀ x d, glo x = some d → ∃ u v, mg x = some u ∧ RelV v u ∧ ∀ H W, RepD K H W v d
  free : ∀ x ∈ free, mg x = none
  bt : ∀ p ∈ bt, mg p.1 = some (.builtin p.2)
section
variable {P : Program} {w : World} {K : PySem.W.Frag} {mg : Str → Option Value} {base : Heap} {glo : Str → Option D} {M : Nat} {ds : List Dm} {k : Nat} {free : List Str} {bt : List (Str × String)}
theorem mkF_glo : (mkF glo M ds).glo = glo := by cases ds <;> rfl
theorem GloF.gk (g : GloF K mg glo free bt) : GloK K mg (mkF glo M ds) (gnOf free bt ds) := ⟨by rw [mkF_glo]; exact g.glo, g.free, g.bt⟩
def AllK (P : Program) (w : World) (K : PySem.W.Frag) (mg : Str → Option Value) (base : Heap) (glo : Str → Option D) (M : Nat) (ds : List Dm) (k : Nat) : Prop := ∀ d ∈ ds, DefK P w K mg base (mkF glo M ds) k d.f d.np d.mn
theorem all_nil : AllK P w K mg base glo M [] k := fun d h => by cases h
theorem spOf_congr {F F' : Fn} {n : Nat} {f : Str} (h : F'.call f = F.call f) : spOf F' mg K n f = spOf F mg K n f := by
  funext vs H Q E
  unfold spOf
  rw [h]
/-- what a def needs to be called with fewer arguments -/
def BindsD (K : PySem.W.Frag) (fd : FuncData) (ps : List Str) (d : Dm) : Prop := ∀ n, d.mn ≤ n → n ≤ d.np → ∃ (ds' : List Value) (dvs' : List V), Binds K fd ps ds' ∧ Vals dvs' ds' ∧ ∀ H W, RepDs K H W dvs' (d.dfl n)
theorem mkF_self {d : Dm} (as : List A) : (mkF glo M (d :: ds)).call d.f as = if as.length = d.np then runDef (mkF glo M ds) M d.n d.body as else .bad := if_pos rfl
theorem law_fn {d : Dm} {x qual : Str} {params : Arguments} {body : List Stmt} {scope : Scope} {dvs : List V} {kws : List (Str × V)} {fa : Addr} {fd : FuncData} {N ps : List Str} (A : AllK P w K mg base glo M ds k) (g : GloF K mg glo free bt)
    (FD : FunD K x qual params body scope dvs kws fa fd) (S : FnScope N ps scope) (hN : N.length = d.n) (hp : ps.length = d.np) (hc : ckSs (gnOf free bt ds) N d.np scope d.body body = true) :
    FnOk P w K mg base (L2.CX P w) (k + 1) fa fd ps (spOf (mkF glo M (d :: ds)) mg K ps.length d.f) := by
  obtain ⟨oc, od, dV, kV, doc, pm, an, cdv, ct, osl, rfl, lk, hcd, _, _⟩ := FD.ex
  refine def_ok (F := mkF glo M ds) (b := d.body) lk hcd S g.gk (fun p hp => ?_) (by rw [hp]; exact hc) fun as h => ?_
  · obtain ⟨e, he, rfl⟩ := List.mem_map.mp hp
    exact A e he
  · rw [mkF_self] at h ⊢
    split at h
    · rename_i hl
      rw [if_pos hl, hp, hN]
      exact ⟨hl, M, rfl⟩
    · exact absurd rfl h
theorem all_cons {d : Dm} {x qual : Str} {params : Arguments} {body : List Stmt} {scope : Scope} {dvs : List V} {kws : List (Str × V)} {fa : Addr} {fd : FuncData} {N ps : List Str} (A : AllK P w K mg base glo M ds k) (g : GloF K mg glo free bt)
    (FD : FunD K x qual params body scope dvs kws fa fd) (S : FnScope N ps scope) (hn : (ds.all fun e => decide (e.f ≠ d.f)) = true) (hN : N.length = d.n) (hp : ps.length = d.np) (hc : ckSs (gnOf free bt ds) N d.np scope d.body body = true) (hm : mg d.f = some (.ref fa))
    (hb : BindsD K fd ps d) : AllK P w K mg base glo M (d :: ds) (k + 1) := by
  have hself := mkF_self (glo := glo) (M := M) (ds := ds) (d := d)
  have fn : FnOk P w K mg base (L2.CX P w) (k + 1) fa fd ps (spOf (mkF glo M (d :: ds)) mg K ps.length d.f) := law_fn A g FD S hN hp hc
  have one : DefK P w K mg base (mkF glo M (d :: ds)) (k + 1) d.f d.np d.mn := by
    refine ⟨fa, fd, ps, fn, hm, FD.kp, hp, fun as h => ?_, fun n h1 h2 => ?_⟩
    · rw [hself] at h
      split at h
      · assumption
      · exact absurd rfl h
    · obtain ⟨ds', dvs', b1, b2, b3⟩ := hb n h1 h2
      refine ⟨ds', dvs', b1, b2, fun H W => ?_⟩
      have : (mkF glo M (d :: ds)).dfl d.f n = d.dfl n := if_pos rfl
      rw [this]
      exact b3 H W
  intro e he
  rcases List.mem_cons.mp he with rfl | he
  · exact one
  · have ne : e.f ≠ d.f := of_decide_eq_true (List.all_eq_true.mp hn e he)
    have c1 : (mkF glo M (d :: ds)).call e.f = (mkF glo M ds).call e.f := funext fun as => if_neg ne
    have c2 : (mkF glo M (d :: ds)).dfl e.f = (mkF glo M ds).dfl e.f := funext fun n => if_neg ne
    obtain ⟨fa', fd', ps', h1, h2, h3, h4, h5, h6⟩ := (A e he).ex
    refine ⟨fa', fd', ps', ?_, h2, h3, h4, fun as h => h5 as (by rw [← c1]; exact h), fun n h7 h8 => ?_⟩
    · rw [spOf_congr c1]
      exact h1.mono (Nat.le_succ k)
    · rw [c2]
      exact h6 n h7 h8
/-- no defaults -/
theorem binds_all {d : Dm} {x qual : Str} {params : Arguments} {body : List Stmt} {scope : Scope} {kws : List (Str × V)} {fa : Addr} {fd : FuncData} {ps : List Str} (FD : FunD K x qual params body scope [] kws fa fd) (h1 : d.mn = d.np) (h2 : d.dfl d.np = [])
    (h : ∀ (kV doc pm : Value) (an : Option Addr) (cdv ct : Value) (us : List Value), us.length = ps.length → bindArgs (PySem.W.fnOf x qual params body scope .none kV doc pm an cdv ct) ⟨us, []⟩ = pure (ps.zip us)) : BindsD K fd ps d := fun n a b => by
  obtain rfl : n = d.np := Nat.le_antisymm b (h1 ▸ a)
  exact ⟨[], [], FD.bindsN h, .nil, fun H W => by rw [h2]; rfl⟩

/-! ### the law's end -/
theorem FnOk.ex {ι : Type} {CX : CXT} {f : Addr} {fd : FuncData} {ps : List Str} {sp : ι → Sp} (h : ∀ i, FnOk P w K mg base CX k f fd ps (sp i)) : FnOk P w K mg base CX k f fd ps fun vs H Q E => ∃ i, sp i vs H Q E :=
  ⟨fun vs H Q E ⟨i, z⟩ => (h i).len vs H Q E z, fun A outer s H args us vs Q E hr he hb hv ⟨i, z⟩ => (h i).run A outer s H args us vs Q E hr he hb hv z⟩
theorem walk_ofEB {l : PySem.W.OpenLaw} {n k : Nat} {q : Program} {loose : List Str} {XP : (Str → Option Value) → Heap → Prop} {YP : World → Heap → Prop} {d : DefRec} {CX : World → CXT} {x : Str}
    (hn : l.most = some n) (hn2 : n ≤ sizeLine) (hdf : d.params.defaults = []) (hr : Room k callerA)
    (F : ∀ (w : World) (mg : Str → Option Value) (fa : Addr) (h : Heap), YP w h → h.Ns mainGlobals mg → mg d.name = some (.ref fa) →
      ∃ (K : PySem.W.Frag) (fd : FuncData) (sp : Sp), K.In h ∧ (∀ (s : Shared) (u : Value), BindsTo s fd ⟨[u], []⟩ [(x, u)]) ∧
        (∀ (H : Hp) (a : Addr) (ns : List Int), ns.length ≤ n → (∀ z ∈ ns, Builtin.Int.intBits z ≤ 1048576) → SqL K H a (ns.map V.int) → sp [.ref a] H (fun v _ => v = .bl true) fun _ _ _ => False) ∧
        ∀ base : Heap, K.In base → base.Ns mainGlobals mg → FnOk l.prog w K mg base (CX w) k fa fd [x] sp)
    (hCX : ∀ (w : World) (H : Hp) (s : Shared) (e : Value) (s' : Shared), CX w [] H s (fun _ _ _ => False) e s' → False) :
    PySem.W.WalkO q loose XP YP l.row.toRowW d [] (fun f vs => PySem.call f vs) := by
  refine Att.attach_callB hn hdf fun w s₀ s₁ mg mb fa o pm cd doc a vs ns G Y ho hd hcd hmg hobj hints hlen hbits hg => ?_
  obtain ⟨K, fd, sp, KX, hb, hsp, hF⟩ := F w mg fa _ Y G.T.g hmg
  exact law_call KX G.T.g G.T.b G.T.builtins G.T.nolimit hg hobj hints (Nat.le_trans hlen hn2) hr hF hb (fun H hO hS => hsp H a ns hlen hbits hS) fun H e s' => hCX w H s₁ e s'
theorem cx_none (P : Program) (w : World) (H : Hp) (s : Shared) (e : Value) (s' : Shared) (h : L2.CX P w [] H s (fun _ _ _ => False) e s') : False := by
  obtain ⟨_, _, _, _, _, _, _, _, _, _, _, _, z⟩ := h
  exact z
theorem sp_law {F : Fn} {f : Str} {H : Hp} {a : Addr} {ns : List Int} {as' : List A} (hS : SqL K H a (ns.map V.int)) (h : F.call f [.val (.scr ns)] = .ok (.val (.bl true), as')) :
    spOf F mg K 1 f [.ref a] H (fun v _ => v = .bl true) fun _ _ _ => False := by
  refine ⟨rfl, fun _ => False, [.val (.scr ns)], fun _ z => z.elim, ⟨.ref a, [], rfl, ⟨a, rfl, ?_⟩, fun z => z.elim, rfl⟩, ?_⟩
  · rcases hS with (h | h) | h
    · exact .inl ⟨h, fun z => z⟩
    · exact .inr (.inl h)
    · exact .inr (.inr h)
  · rw [h]
    exact fun v H' W' ce => ce.res
end
end Dv

set_option Elab.async false
set_option linter.all false
set_option maxRecDepth 100000
set_option maxHeartbeats 1000000
namespace Dv
open PySem PySem.Spec PyProof.Rows L2


/-- an equation that is not looked through -/
theorem nd {α : Sort _} {a b : α} (h : a = b) : a = b := h
noncomputable def nxt (F : Fn) (N : Nat) (l : Sxs) (q : Fl × Env') : Rs (Fl × Env') := match q.1 with
    | .nx => exs F N l q.2
    | _ => .ok q
noncomputable def brn (F : Fn) (N : Nat) (a b : Sxs) (r : Bool × Env') : Rs (Fl × Env') := match r.1 with
    | true => exs F N a r.2
    | false => exs F N b r.2
noncomputable def brE (F : Fn) (a b : Ex) (r : Bool × Env') : Rs (P × Env') := match r.1 with
    | true => ev F a r.2
    | false => ev F b r.2
noncomputable def nAnd (F : Fn) (l : Exs) (r : Bool × Env') : Rs (Bool × Env') := match r.1 with
    | true => evAnd F l r.2
    | false => .ok (false, r.2)
noncomputable def nOr (F : Fn) (l : Exs) (r : Bool × Env') : Rs (Bool × Env') := match r.1 with
    | true => .ok (true, r.2)
    | false => evOr F l r.2
noncomputable def nTAnd (F : Fn) (l : Txs) (r : Bool × Env') : Rs (Bool × Env') := match r.1 with
    | true => evTAnd F l r.2
    | false => .ok (false, r.2)
noncomputable def nTOr (F : Fn) (l : Txs) (r : Bool × Env') : Rs (Bool × Env') := match r.1 with
    | true => .ok (true, r.2)
    | false => evTOr F l r.2
section
variable {F : Fn} {N : Nat} {ρ : Env'}
@[simp] theorem nxt_nx {l : Sxs} : nxt F N l (.nx, ρ) = exs F N l ρ := nd rfl
@[simp] theorem nxt_rt {l : Sxs} {p : P} : nxt F N l (.rt p, ρ) = .ok (.rt p, ρ) := nd rfl
@[simp] theorem nxt_bk {l : Sxs} : nxt F N l (.bk, ρ) = .ok (.bk, ρ) := nd rfl
@[simp] theorem nxt_ct {l : Sxs} : nxt F N l (.ct, ρ) = .ok (.ct, ρ) := nd rfl
@[simp] theorem brn_t {a b : Sxs} : brn F N a b (true, ρ) = exs F N a ρ := nd rfl
@[simp] theorem brn_f {a b : Sxs} : brn F N a b (false, ρ) = exs F N b ρ := nd rfl
@[simp] theorem brE_t {a b : Ex} : brE F a b (true, ρ) = ev F a ρ := nd rfl
@[simp] theorem brE_f {a b : Ex} : brE F a b (false, ρ) = ev F b ρ := nd rfl
@[simp] theorem nAnd_t {l : Exs} : nAnd F l (true, ρ) = evAnd F l ρ := nd rfl
@[simp] theorem nAnd_f {l : Exs} : nAnd F l (false, ρ) = .ok (false, ρ) := nd rfl
@[simp] theorem nOr_t {l : Exs} : nOr F l (true, ρ) = .ok (true, ρ) := nd rfl
@[simp] theorem nOr_f {l : Exs} : nOr F l (false, ρ) = evOr F l ρ := nd rfl
@[simp] theorem nTAnd_t {l : Txs} : nTAnd F l (true, ρ) = evTAnd F l ρ := nd rfl
@[simp] theorem nTAnd_f {l : Txs} : nTAnd F l (false, ρ) = .ok (false, ρ) := nd rfl
@[simp] theorem nTOr_t {l : Txs} : nTOr F l (true, ρ) = .ok (true, ρ) := nd rfl
@[simp] theorem nAnd_nil {b : Bool} : nAnd F .nil (b, ρ) = .ok (b, ρ) := by cases b <;> rfl
@[simp] theorem nOr_nil {b : Bool} : nOr F .nil (b, ρ) = .ok (b, ρ) := by cases b <;> rfl
@[simp] theorem nTAnd_nil {b : Bool} : nTAnd F .nil (b, ρ) = .ok (b, ρ) := by cases b <;> rfl
@[simp] theorem nTOr_nil {b : Bool} : nTOr F .nil (b, ρ) = .ok (b, ρ) := by cases b <;> rfl
@[simp] theorem nTOr_f {l : Txs} : nTOr F l (false, ρ) = evTOr F l ρ := nd rfl
end
/-- what follows is looked at only when its turn comes -/
theorem rs_bind_congr {α β : Type} {x y : Rs α} {f : α → Rs β} (h : x = y) : x.bind f = y.bind f := by rw [h]

/-! ### running by simp -/
section
variable {F : Fn} {N : Nat} {ρ : Env'} {α β : Type}
@[simp] theorem r_bind_ok {a : α} {f : α → Rs β} : (Rs.ok a).bind f = f a := nd rfl
@[simp] theorem bind_err {e : Er} {f : α → Rs β} : (Rs.err e : Rs α).bind f = .err e := nd rfl
@[simp] theorem bind_bad {f : α → Rs β} : (Rs.bad : Rs α).bind f = .bad := nd rfl
@[simp] theorem of_some {a : α} : Rs.of (some a) = .ok a := nd rfl
@[simp] theorem r_quiet_ok {a : α} : (Rs.ok a).quiet = .ok a := nd rfl
@[simp] theorem need_true {p : Prop} {x : Rs α} (h : p) : need p x = x := if_pos h

@[simp] theorem r_ev_var {i : Nat} : ev F (.var i) ρ = evVar i ρ := nd rfl
@[simp] theorem r_ev_cst {d : D} : ev F (.cst d) ρ = .ok (.val d, ρ) := nd rfl
@[simp] theorem r_ev_glo {x : Str} : ev F (.glo x) ρ = (Rs.of (F.glo x)).bind fun d => .ok (.val d, ρ) := nd rfl
@[simp] theorem r_ev_bin {op : Operator} {a b : Ex} : ev F (.bin op a b) ρ = (ev F a ρ).bind fun r => (ev F b r.2).bind fun q => (pk r.1 q.2).bind fun x => (pk q.1 q.2).bind fun y => (dBin op x y).bind fun p => .ok (p, q.2) := nd rfl
@[simp] theorem r_ev_neg {a : Ex} : ev F (.neg a) ρ = (ev F a ρ).bind fun r => (pk r.1 r.2).bind fun x => match x with
    | .int i => .ok (.val (.int (-i)), r.2)
    | _ => .bad := nd rfl
@[simp] theorem r_ev_cmp {op : CmpOp} {a b : Ex} : ev F (.cmp op a b) ρ = (ev F a ρ).bind fun r => (ev F b r.2).bind fun q => (pk r.1 q.2).bind fun x => (pk q.1 q.2).bind fun y => (dCmp op x y).bind fun c => .ok (.val (.bl c), q.2) := nd rfl
@[simp] theorem r_ev_chn {op op' : CmpOp} {a b c : Ex} : ev F (.chn op op' a b c) ρ = (ev F a ρ).bind fun r => (ev F b r.2).bind fun q => (pk r.1 q.2).bind fun x => (pk q.1 q.2).bind fun y => (dCmp op x y).bind fun k =>
      match k with
      | false => .ok (.val (.bl false), q.2)
      | true => (ev F c q.2).bind fun u => (pk q.1 u.2).bind fun y' => (pk u.1 u.2).bind fun z => (dCmp op' y' z).bind fun k' => .ok (.val (.bl k'), u.2) := nd rfl
@[simp] theorem r_ev_and_ {l : Exs} : ev F (.and_ l) ρ = (evAnd F l ρ).bind fun r => .ok (.val (.bl r.1), r.2) := nd rfl
@[simp] theorem r_ev_or_ {l : Exs} : ev F (.or_ l) ρ = (evOr F l ρ).bind fun r => .ok (.val (.bl r.1), r.2) := nd rfl
@[simp] theorem r_ev_not_ {a : Ex} : ev F (.not_ a) ρ = (ev F a ρ).bind fun r0 => (asB r0).bind fun r => .ok (.val (.bl (!r.1)), r.2) := nd rfl
@[simp] theorem r_ev_ite {c : Tx} {a b : Ex} : ev F (.ite c a b) ρ = (evT F c ρ).bind (brE F a b) := nd rfl
@[simp] theorem r_ev_tup {l : Exs} : ev F (.tup l) ρ = (evs F l ρ).bind fun r => (Rs.of (toDs r.1 r.2)).bind fun q => need (q.1.length ≤ sizeLine) (.ok (.val (.tup q.1), q.2)) := nd rfl
@[simp] theorem r_ev_lst {l : Exs} : ev F (.lst l) ρ = (evs F l ρ).bind fun r => (Rs.of (toDs r.1 r.2)).bind fun q => need (q.1.length ≤ sizeLine) (.ok (.own (.lst q.1), q.2)) := nd rfl
@[simp] theorem r_ev_idx {a i : Ex} : ev F (.idx a i) ρ = (ev F a ρ).bind fun r => (ev F i r.2).bind fun q => (pk r.1 q.2).bind fun x => (pk q.1 q.2).bind fun y => (dIdx x y).bind fun d => .ok (.val d, q.2) := nd rfl
@[simp] theorem r_ev_slc {a : Ex} {lo hi : Eo} : ev F (.slc a lo hi) ρ = (ev F a ρ).bind fun r => (evo F lo r.2).bind fun u => (evo F hi u.2).bind fun w => (pk r.1 w.2).bind fun x => (dSlc x u.1 w.1).bind fun p => .ok (p, w.2) := nd rfl
@[simp] theorem r_ev_call {f : Str} {l : Exs} : ev F (.call f l) ρ = (evs F l ρ).bind fun r => doCall F f r.1 r.2 := nd rfl
@[simp] theorem r_ev_blt {b : Bl} {l : Exs} : ev F (.blt b l) ρ = (evs F l ρ).bind fun r => (pks r.1 r.2).bind fun ds => (dBl b ds).bind fun p => .ok (p, r.2) := nd rfl
@[simp] theorem r_ev_isi {t : Ty} {a : Ex} : ev F (.isi t a) ρ = (ev F a ρ).bind fun r => (pk r.1 r.2).bind fun x => (isTy t x).bind fun b => .ok (.val (.bl b), r.2) := nd rfl
@[simp] theorem r_ev_met {m : Me} {o : Ex} {l : Exs} : ev F (.met m o l) ρ = (ev F o ρ).bind fun r => (pk r.1 r.2).bind fun d0 => need (hasTy m d0 = true) <| (evs F l r.2).bind fun q => (pk r.1 q.2).bind fun x => (pks q.1 q.2).bind fun ds => (dMe m x ds).bind fun p => .ok (p, q.2) := nd rfl
theorem r_ev_chg {m : Mm} {i : Nat} {l : Exs} : ev F (.chg m i l) ρ = (evVar i ρ).bind fun r => (pk r.1 r.2).bind fun d0 => need (isLst d0 = true) <| (evs F l r.2).bind fun q => (Rs.of (toDs q.1 q.2)).bind fun t => match t.2[i]? with
    | some (some (.own b d)) => (dMm m d t.1).bind fun y => .ok (.val y.1, t.2.set i (some (.own b y.2)))
    | _ => .bad := rfl
@[simp] theorem r_ev_comp {elt : Ex} {tg : Tg} {it : Ie} {ifs : To} {own : List Nat} : ev F (.comp elt tg it ifs own) ρ = (evi F it ρ).bind fun r =>
      (mapR (fun d ρ1 => (asgT tg d (wipeR ρ1 own)).bind fun ρ2 => (evc F ifs ρ2).quiet.bind fun c => match c.1 with
        | true => (ev F elt c.2).quiet.bind fun p => (Rs.of (toD p.1 p.2)).bind fun y => .ok (some y.1, y.2)
        | false => .ok (none, c.2)) r.1.1 (wipeR (lockP r.1.2 r.2).2 own)).bind fun q =>
      (unlock (lockP r.1.2 r.2).1 (backR (lockP r.1.2 r.2).2 q.2 own)).bind fun ρ' => need (q.1.length < sizeLine) (.ok (.own (.lst q.1), ρ')) := nd rfl
@[simp] theorem r_evs_nil  : evs F (.nil) ρ = .ok ([], ρ) := nd rfl
@[simp] theorem r_evs_cons {e : Ex} {l : Exs} : evs F (.cons e l) ρ = (ev F e ρ).bind fun r => (evs F l r.2).bind fun q => .ok (r.1 :: q.1, q.2) := nd rfl
@[simp] theorem r_evo_none  : evo F (.none) ρ = .ok (none, ρ) := nd rfl
@[simp] theorem r_evo_some {e : Ex} : evo F (.some e) ρ = (ev F e ρ).bind fun r => (pk r.1 r.2).bind fun x => match x with
    | .int i => .ok (some i, r.2)
    | _ => .bad := nd rfl
@[simp] theorem r_evc_none  : evc F (.none) ρ = .ok (true, ρ) := nd rfl
@[simp] theorem r_evc_some {t : Tx} : evc F (.some t) ρ = evT F t ρ := nd rfl
@[simp] theorem r_evT_val {e : Ex} : evT F (.val e) ρ = (ev F e ρ).bind fun r => (pk r.1 r.2).bind fun x => (truth x).bind fun b => .ok (b, r.2) := nd rfl
@[simp] theorem r_evT_cmp {op : CmpOp} {a b : Ex} : evT F (.cmp op a b) ρ = (ev F a ρ).bind fun r => (ev F b r.2).bind fun q => (pk r.1 q.2).bind fun x => (pk q.1 q.2).bind fun y => (dCmp op x y).bind fun c => .ok (c, q.2) := nd rfl
@[simp] theorem r_evT_and_ {l : Txs} : evT F (.and_ l) ρ = evTAnd F l ρ := nd rfl
@[simp] theorem r_evT_or_ {l : Txs} : evT F (.or_ l) ρ = evTOr F l ρ := nd rfl
@[simp] theorem r_evT_not_ {a : Tx} : evT F (.not_ a) ρ = (evT F a ρ).bind fun r => .ok (!r.1, r.2) := nd rfl
@[simp] theorem r_evAnd_nil  : evAnd F (.nil) ρ = .ok (true, ρ) := nd rfl
@[simp] theorem r_evAnd_cons {e : Ex} {l : Exs} : evAnd F (.cons e l) ρ = (ev F e ρ).bind fun r0 => (asB r0).bind (nAnd F l) := nd rfl
@[simp] theorem r_evOr_nil  : evOr F (.nil) ρ = .ok (false, ρ) := nd rfl
@[simp] theorem r_evOr_cons {e : Ex} {l : Exs} : evOr F (.cons e l) ρ = (ev F e ρ).bind fun r0 => (asB r0).bind (nOr F l) := nd rfl
@[simp] theorem r_evTAnd_nil  : evTAnd F (.nil) ρ = .ok (true, ρ) := nd rfl
@[simp] theorem r_evTAnd_cons {e : Tx} {l : Txs} : evTAnd F (.cons e l) ρ = (evT F e ρ).bind (nTAnd F l) := nd rfl
@[simp] theorem r_evTOr_nil  : evTOr F (.nil) ρ = .ok (false, ρ) := nd rfl
@[simp] theorem r_evTOr_cons {e : Tx} {l : Txs} : evTOr F (.cons e l) ρ = (evT F e ρ).bind (nTOr F l) := nd rfl
@[simp] theorem r_evi_seq {e : Ex} : evi F (.seq e) ρ = (ev F e ρ).bind fun r => (pk r.1 r.2).bind fun x => (items x).bind fun l => .ok ((l, r.1), r.2) := nd rfl
@[simp] theorem r_evi_rng {a : Ex} : evi F (.rng a) ρ = (ev F a ρ).bind fun r => match r.1 with
    | .val (.int j) => need (inR j) (.ok ((rng 0 j.toNat, .val .non), r.2))
    | _ => .bad := nd rfl
@[simp] theorem r_evi_rng2 {a b : Ex} : evi F (.rng2 a b) ρ = (ev F a ρ).bind fun r => (ev F b r.2).bind fun q => match r.1, q.1 with
    | .val (.int i), .val (.int j) => need (inR i ∧ inR j) (.ok ((rng i (j - i).toNat, .val .non), q.2))
    | _, _ => .bad := nd rfl
@[simp] theorem r_evi_enm {e : Ex} : evi F (.enm e) ρ = (ev F e ρ).bind fun r => (pk r.1 r.2).bind fun x => (itemsL x).bind fun l => .ok ((enmD l, r.1), r.2) := nd rfl
@[simp] theorem r_evi_zip {l : Exs} : evi F (.zip l) ρ = (evs F l ρ).bind fun r => (Rs.of (toDs r.1 r.2)).bind fun q => (itemss q.1).bind fun t => .ok ((zipD t, .val .non), q.2) := nd rfl
@[simp] theorem r_ex_set {i : Nat} {e : Ex} : ex F N (.set i e) ρ = (ev F e ρ).bind fun r => (asgP i r.1 r.2).bind fun ρ' => .ok (.nx, ρ') := nd rfl
@[simp] theorem r_ex_setT {l : List Nat} {e : Ex} : ex F N (.setT l e) ρ = (ev F e ρ).bind fun r => match r.1 with
    | .val (.tup ds) => (putVs l ds r.2).bind fun ρ' => .ok (.nx, ρ')
    | _ => .bad := nd rfl
@[simp] theorem r_ex_par {i j : Nat} {a b : Ex} : ex F N (.par i j a b) ρ = (ev F a ρ).bind fun r => (ev F b r.2).bind fun q => match r.1, q.1 with
    | .val x, .val y => (putVs [i, j] [x, y] q.2).bind fun ρ' => .ok (.nx, ρ')
    | _, _ => .bad := nd rfl
@[simp] theorem r_ex_setI {i : Nat} {ix e : Ex} : ex F N (.setI i ix e) ρ = (ev F e ρ).bind fun r => (evVar i r.2).bind fun o => (ev F ix o.2).bind fun q => (Rs.of (toD r.1 q.2)).bind fun t => (pk q.1 t.2).bind fun k =>
      (mutSlot i t.2 fun d => dSet d k t.1).bind fun ρ' => .ok (.nx, ρ') := nd rfl
theorem r_ex_aug {i : Nat} {op : Operator} {e : Ex} : ex F N (.aug i op e) ρ = match ρ[i]? with
    | some (some (.val x)) => (ev F e ρ).bind fun r => (pk r.1 r.2).bind fun y => (dAug op x y).bind fun z => (putV i z r.2).bind fun ρ' => .ok (.nx, ρ')
    | _ => .bad := rfl
@[simp] theorem r_ex_augI {i : Nat} {op : Operator} {ix e : Ex} : ex F N (.augI i op ix e) ρ = (evVar i ρ).bind fun o => (ev F ix o.2).bind fun q => (pk o.1 q.2).bind fun x => need (isLst x = true) <| (pk q.1 q.2).bind fun k => (dIdx x k).bind fun u => (ev F e q.2).bind fun r => (pk r.1 r.2).bind fun y =>
      (dAug op u y).bind fun z => (mutSlot i r.2 fun d => dSet d k z).bind fun ρ' => .ok (.nx, ρ') := nd rfl
@[simp] theorem r_ex_expr {e : Ex} : ex F N (.expr e) ρ = (ev F e ρ).bind fun r => .ok (.nx, r.2) := nd rfl
@[simp] theorem r_ex_ret {e : Ex} : ex F N (.ret e) ρ = (ev F e ρ).bind fun r => .ok (.rt r.1, r.2) := nd rfl
@[simp] theorem r_ex_retN  : ex F N (.retN) ρ = .ok (.rt (.val .non), ρ) := nd rfl
@[simp] theorem r_ex_ite {c : Tx} {a b : Sxs} : ex F N (.ite c a b) ρ = (evT F c ρ).bind (brn F N a b) := nd rfl
@[simp] theorem r_ex_whl {c : Tx} {b : Sxs} : ex F N (.whl c b) ρ = whileR (evT F c) (exs F N b) N ρ := nd rfl
@[simp] theorem r_ex_for_ {tg : Tg} {it : Ie} {b : Sxs} : ex F N (.for_ tg it b) ρ = (evi F it ρ).bind fun r => (forR (fun d ρ1 => (asgT tg d ρ1).bind (exs F N b)) r.1.1 (lockP r.1.2 r.2).2).bind (endFor (lockP r.1.2 r.2).1) := nd rfl
@[simp] theorem r_ex_brk  : ex F N (.brk) ρ = .ok (.bk, ρ) := nd rfl
@[simp] theorem r_ex_cnt  : ex F N (.cnt) ρ = .ok (.ct, ρ) := nd rfl
@[simp] theorem r_ex_pass  : ex F N (.pass) ρ = .ok (.nx, ρ) := nd rfl
@[simp] theorem r_ex_bad  : ex F N (.bad) ρ = .bad := nd rfl
@[simp] theorem r_exs_nil  : exs F N (.nil) ρ = .ok (.nx, ρ) := nd rfl
@[simp] theorem r_exs_cons {s : Sx} {l : Sxs} : exs F N (.cons s l) ρ = (ex F N s ρ).bind (nxt F N l) := nd rfl

@[simp] theorem pk_val {d : D} : pk (.val d) ρ = .ok d := nd rfl
@[simp] theorem pk_own {d : D} : pk (.own d) ρ = .ok d := nd rfl
@[simp] theorem pks_nil : pks [] ρ = .ok [] := nd rfl
@[simp] theorem pks_cons {p : P} {ps : List P} : pks (p :: ps) ρ = (pk p ρ).bind fun d => (pks ps ρ).bind fun ds => .ok (d :: ds) := nd rfl
@[simp] theorem toD_val {d : D} : toD (.val d) ρ = some (d, ρ) := nd rfl
@[simp] theorem toD_own {d : D} : toD (.own d) ρ = some (d, ρ) := nd rfl
@[simp] theorem thaw_t {d : D} : thaw true d = .brz d := nd rfl
@[simp] theorem thaw_f {d : D} : thaw false d = .val d := nd rfl
@[simp] theorem toDs_nil : toDs [] ρ = some ([], ρ) := nd rfl
@[simp] theorem toDs_cons {p : P} {ps : List P} : toDs (p :: ps) ρ = (toD p ρ).bind fun r => (toDs ps r.2).bind fun q => some (r.1 :: q.1, q.2) := nd rfl
@[simp] theorem asgP_val {i : Nat} {d : D} : asgP i (.val d) ρ = putV i d ρ := nd rfl
@[simp] theorem asgP_own {i : Nat} {d : D} : asgP i (.own d) ρ = if freeSlot i ρ = true then .ok (ρ.set i (some (.own false d))) else .bad := nd rfl
@[simp] theorem asgP_at {i j : Nat} : asgP i (.at_ j) ρ = (Rs.of (toD (.at_ j) ρ)).bind fun r => putV i r.1 r.2 := nd rfl
@[simp] theorem putV_d {i : Nat} {d : D} : putV i d ρ = if freeSlot i ρ = true then .ok (ρ.set i (some (.val d))) else .bad := nd rfl
@[simp] theorem putVs_nil : putVs [] [] ρ = .ok ρ := nd rfl
@[simp] theorem putVs_cons {i : Nat} {is : List Nat} {d : D} {ds : List D} : putVs (i :: is) (d :: ds) ρ = (putV i d ρ).bind (putVs is ds) := nd rfl
@[simp] theorem asgT_nm {i : Nat} {d : D} : asgT (.nm i) d ρ = putV i d ρ := nd rfl
@[simp] theorem asgT_tp {is : List Nat} {ds : List D} : asgT (.tp is) (.tup ds) ρ = putVs is ds ρ := nd rfl
@[simp] theorem lockP_val {d : D} : lockP (.val d) ρ = (none, ρ) := nd rfl
@[simp] theorem lockP_owned {d : D} : lockP (.own d) ρ = (none, ρ) := nd rfl
@[simp] theorem unlock_none : unlock none ρ = .ok ρ := nd rfl
@[simp] theorem wipe_nil : wipeR ρ [] = ρ := nd rfl
@[simp] theorem wipe_cons {v : Nat} {vs : List Nat} : wipeR ρ (v :: vs) = (wipeR ρ vs).set v none := nd rfl
@[simp] theorem back_nil {ρ0 : Env'} : backR ρ0 ρ [] = ρ := nd rfl
@[simp] theorem back_cons {ρ0 : Env'} {v : Nat} {vs : List Nat} : backR ρ0 ρ (v :: vs) = (backR ρ0 ρ vs).set v (ρ0.getD v none) := nd rfl
@[simp] theorem toArgs_nil : toArgs [] ρ = .ok [] := nd rfl
@[simp] theorem toArgs_cons {p : P} {ps : List P} : toArgs (p :: ps) ρ = (toArg p ρ).bind fun a => (toArgs ps ρ).bind fun as => .ok (a :: as) := nd rfl
@[simp] theorem toArg_val {d : D} : toArg (.val d) ρ = .ok (.val d) := nd rfl
@[simp] theorem toArg_owned {d : D} : toArg (.own d) ρ = .ok (.own d) := nd rfl
@[simp] theorem ats_nil : ats [] = [] := nd rfl
@[simp] theorem ats_at {i : Nat} {ps : List P} : ats (.at_ i :: ps) = i :: ats ps := nd rfl
@[simp] theorem ats_val {d : D} {ps : List P} : ats (.val d :: ps) = ats ps := nd rfl
@[simp] theorem ats_own {d : D} {ps : List P} : ats (.own d :: ps) = ats ps := nd rfl
@[simp] theorem backArgs_nil {as : List A} : backArgs [] as ρ = .ok ρ := nd rfl
@[simp] theorem backArgs_cons {p : P} {ps : List P} {a : A} {as : List A} : backArgs (p :: ps) (a :: as) ρ = (backArg p a ρ).bind (backArgs ps as) := nd rfl
@[simp] theorem backArg_val {d : D} {a : A} : backArg (.val d) a ρ = .ok ρ := nd rfl
@[simp] theorem backArg_owned {d : D} {a : A} : backArg (.own d) a ρ = .ok ρ := nd rfl
@[simp] theorem re_val {d : D} : (Re.val d).p = .val d := nd rfl
@[simp] theorem re_own {d : D} : (Re.own d).p = .own d := nd rfl
@[simp] theorem doCall_d {f : Str} {ps : List P} : doCall F f ps ρ = need ((ats ps).Nodup) ((toArgs ps ρ).bind fun as => (F.call f (as ++ (F.dfl f ps.length).map .val)).bind fun r => (backArgs ps r.2 ρ).bind fun ρ' => .ok (r.1.p, ρ')) := nd rfl
@[simp] theorem mapR_nil {f : D → Env' → Rs (Option D × Env')} : mapR f [] ρ = .ok ([], ρ) := nd rfl
@[simp] theorem forR_nil {f : D → Env' → Rs (Fl × Env')} : forR f [] ρ = .ok (.nx, ρ) := nd rfl
@[simp] theorem asB_bl {b : Bool} {ρ : Env'} : asB (.val (.bl b), ρ) = .ok (b, ρ) := nd rfl
@[simp] theorem endFor_nx {o : Option Nat} : endFor o (.nx, ρ) = (unlock o ρ).bind fun ρ => .ok (.nx, ρ) := nd rfl
@[simp] theorem endFor_rt {o : Option Nat} {p : P} : endFor o (.rt p, ρ) = .ok (.rt p, ρ) := nd rfl
@[simp] theorem isLst_l {l : List D} : isLst (.lst l) = true := nd rfl
@[simp] theorem slot_val {d : D} : (A.val d).slot = .val d := nd rfl
@[simp] theorem slot_own {d : D} : (A.own d).slot = .own true d := nd rfl
@[simp] theorem slot_rd {d : D} : (A.rd d).slot = .lck true d := nd rfl
@[simp] theorem runDef_d {n : Nat} {b : Sxs} {as : List A} : runDef F N n b as = (exs F N b (envOf n as)).bind (finish as) := nd rfl
@[simp] theorem finish_nx {as : List A} : finish as (.nx, ρ) = (outArgs as ρ).bind fun r => .ok (.val .non, r) := nd rfl
@[simp] theorem finish_rt {as : List A} {p : P} : finish as (.rt p, ρ) = (retOf p ρ).bind fun t => (outArgs as t.2).bind fun r => .ok (t.1, r) := nd rfl
@[simp] theorem retOf_val {d : D} : retOf (.val d) ρ = .ok (.val d, ρ) := nd rfl
@[simp] theorem retOf_own {d : D} : retOf (.own d) ρ = .ok (.own d, ρ) := nd rfl
@[simp] theorem outArgs_nil : outArgs [] ρ = .ok [] := nd rfl
@[simp] theorem outArgs_cons {a : A} {as : List A} : outArgs (a :: as) ρ = (outArg a ρ.head?).bind fun x => (outArgs as ρ.tail).bind fun r => .ok (x :: r) := nd rfl
@[simp] theorem outArg_val {d : D} {o : Option (Option S)} : outArg (.val d) o = .ok (.val d) := nd rfl
@[simp] theorem outArg_rd {d : D} {o : Option (Option S)} : outArg (.rd d) o = .ok (.rd d) := nd rfl
@[simp] theorem outArg_own {d d' : D} : outArg (.own d) (some (some (.own true d'))) = .ok (.own d') := nd rfl
@[simp] theorem outArg_lck {d d' : D} : outArg (.own d) (some (some (.lck true d'))) = .ok (.own d') := nd rfl
@[simp] theorem outArg_brz {d d' : D} : outArg (.own d) (some (some (.brz d'))) = .ok (.val d') := nd rfl
/-! a slot looked at -/
noncomputable def gVar (i : Nat) (ρ : Env') : Option (Option S) → Rs (P × Env')
  | some (some (.val d)) => .ok (.val d, ρ)
  | some (some (.brz d)) => .ok (.val d, ρ)
  | some (some (.own b d)) => .ok (.at_ i, ρ)
  | some (some (.lck b d)) => .ok (.at_ i, ρ)
  | _ => .bad
def gPk  : Option (Option S) → Rs D
  | some (some (.val d)) => .ok d
  | some (some (.own b d)) => .ok d
  | some (some (.lck b d)) => .ok d
  | some (some (.brz d)) => .ok d
  | _ => .bad
def gD (i : Nat) (ρ : Env') : Option (Option S) → Option (D × Env')
  | some (some (.val d)) => some (d, ρ)
  | some (some (.brz d)) => some (d, ρ)
  | some (some (.own b d)) => some (d, ρ.set i (some (thaw b d)))
  | _ => none
def gLock (i : Nat) (ρ : Env') : Option (Option S) → Option Nat × Env'
  | some (some (.own b d)) => (some i, ρ.set i (some (.lck b d)))
  | _ => (none, ρ)
def gUn (i : Nat) (ρ : Env') : Option (Option S) → Rs Env'
  | some (some (.lck b d)) => .ok (ρ.set i (some (.own b d)))
  | _ => .bad
def gArg  : Option (Option S) → Rs A
  | some (some (.val d)) => .ok (.val d)
  | some (some (.brz d)) => .ok (.val d)
  | some (some (.own b d)) => .ok (.own d)
  | some (some (.lck b d)) => .ok (.rd d)
  | _ => .bad
noncomputable def gMut (i : Nat) (ρ : Env') (f : D → Rs D) : Option (Option S) → Rs Env'
  | some (some (.own b d)) => (f d).bind fun d' => .ok (ρ.set i (some (.own b d')))
  | _ => .bad
def gRet (i : Nat) (ρ : Env') : Option (Option S) → Rs (Re × Env')
  | some (some (.own false d)) => .ok (.own d, ρ.set i none)
  | some (some (.own true d)) => .ok (.val d, ρ.set i (some (.brz d)))
  | _ => .bad
noncomputable def gAug (F : Fn) (i : Nat) (op : Operator) (e : Ex) (ρ : Env') : Option (Option S) → Rs (Fl × Env')
  | some (some (.val d)) => (ev F e ρ).bind fun r => (pk r.1 r.2).bind fun y => (dAug op d y).bind fun z => (putV i z r.2).bind fun ρ' => .ok (.nx, ρ')
  | _ => .bad
noncomputable def gChg (m : Mm) (i : Nat) (t : List D × Env') : Option (Option S) → Rs (P × Env')
  | some (some (.own b d)) => (dMm m d t.1).bind fun y => .ok (.val y.1, t.2.set i (some (.own b y.2)))
  | _ => .bad
def gFree : Option (Option S) → Bool
  | some none => true
  | some (some (.val _)) => true
  | some (some (.own false _)) => true
  | _ => false
def gBack (i : Nat) (ρ : Env') : Option (Option S) → A → Rs Env'
  | some (some (.own b _)), .own d => .ok (ρ.set i (some (.own b d)))
  | some (some (.own b _)), .val d => .ok (ρ.set i (some (thaw b d)))
  | some (some (.own _ _)), .rd _ => .bad
  | _, _ => .ok ρ
@[simp] theorem c1_gVar {i : Nat} {d : D} : gVar i ρ (some (some (.val d))) = .ok (.val d, ρ) := nd rfl
@[simp] theorem c2_gVar {i : Nat} {d : D} : gVar i ρ (some (some (.brz d))) = .ok (.val d, ρ) := nd rfl
@[simp] theorem c3_gVar {i : Nat} {b : Bool} {d : D} : gVar i ρ (some (some (.own b d))) = .ok (.at_ i, ρ) := nd rfl
@[simp] theorem c4_gVar {i : Nat} {b : Bool} {d : D} : gVar i ρ (some (some (.lck b d))) = .ok (.at_ i, ρ) := nd rfl
@[simp] theorem c5_gPk  {d : D} : gPk  (some (some (.val d))) = .ok d := nd rfl
@[simp] theorem c6_gPk  {b : Bool} {d : D} : gPk  (some (some (.own b d))) = .ok d := nd rfl
@[simp] theorem c7_gPk  {b : Bool} {d : D} : gPk  (some (some (.lck b d))) = .ok d := nd rfl
@[simp] theorem c8_gPk  {d : D} : gPk  (some (some (.brz d))) = .ok d := nd rfl
@[simp] theorem c9_gD {i : Nat} {d : D} : gD i ρ (some (some (.val d))) = some (d, ρ) := nd rfl
@[simp] theorem c10_gD {i : Nat} {d : D} : gD i ρ (some (some (.brz d))) = some (d, ρ) := nd rfl
@[simp] theorem c11_gD {i : Nat} {b : Bool} {d : D} : gD i ρ (some (some (.own b d))) = some (d, ρ.set i (some (thaw b d))) := nd rfl
@[simp] theorem c12_gLock {i : Nat} {b : Bool} {d : D} : gLock i ρ (some (some (.own b d))) = (some i, ρ.set i (some (.lck b d))) := nd rfl
@[simp] theorem c13_gUn {i : Nat} {b : Bool} {d : D} : gUn i ρ (some (some (.lck b d))) = .ok (ρ.set i (some (.own b d))) := nd rfl
@[simp] theorem c14_gArg  {d : D} : gArg  (some (some (.val d))) = .ok (.val d) := nd rfl
@[simp] theorem c15_gArg  {d : D} : gArg  (some (some (.brz d))) = .ok (.val d) := nd rfl
@[simp] theorem c16_gArg  {b : Bool} {d : D} : gArg  (some (some (.own b d))) = .ok (.own d) := nd rfl
@[simp] theorem c17_gArg  {b : Bool} {d : D} : gArg  (some (some (.lck b d))) = .ok (.rd d) := nd rfl
@[simp] theorem c18_gMut {i : Nat} {f : D → Rs D} {b : Bool} {d : D} : gMut i ρ f (some (some (.own b d))) = (f d).bind fun d' => .ok (ρ.set i (some (.own b d'))) := nd rfl
@[simp] theorem c19_gRet {i : Nat} {d : D} : gRet i ρ (some (some (.own false d))) = .ok (.own d, ρ.set i none) := nd rfl
@[simp] theorem c20_gRet {i : Nat} {d : D} : gRet i ρ (some (some (.own true d))) = .ok (.val d, ρ.set i (some (.brz d))) := nd rfl
@[simp] theorem c21_gAug {i : Nat} {op : Operator} {e : Ex} {d : D} : gAug F i op e ρ (some (some (.val d))) = (ev F e ρ).bind fun r => (pk r.1 r.2).bind fun y => (dAug op d y).bind fun z => (putV i z r.2).bind fun ρ' => .ok (.nx, ρ') := nd rfl
@[simp] theorem c22_gChg {m : Mm} {i : Nat} {t : List D × Env'} {b : Bool} {d : D} : gChg m i t (some (some (.own b d))) = (dMm m d t.1).bind fun y => .ok (.val y.1, t.2.set i (some (.own b y.2))) := nd rfl
@[simp] theorem c_lck {i : Nat} {b : Bool} {d : D} : gLock i ρ (some (some (.lck b d))) = (none, ρ) := nd rfl
@[simp] theorem f1 : gFree (some none) = true := nd rfl
@[simp] theorem f2 {d : D} : gFree (some (some (.val d))) = true := nd rfl
@[simp] theorem f3 {d : D} : gFree (some (some (.own false d))) = true := nd rfl
@[simp] theorem b1 {i : Nat} {b : Bool} {d d2 : D} : gBack i ρ (some (some (.own b d))) (.own d2) = .ok (ρ.set i (some (.own b d2))) := nd rfl
@[simp] theorem b2 {i : Nat} {b : Bool} {d d2 : D} : gBack i ρ (some (some (.own b d))) (.val d2) = .ok (ρ.set i (some (thaw b d2))) := nd rfl
@[simp] theorem b3 {i : Nat} {b : Bool} {d : D} {a : A} : gBack i ρ (some (some (.lck b d))) a = .ok ρ := by cases a <;> rfl
@[simp] theorem evVar_d {i : Nat} : evVar i ρ = gVar i ρ ρ[i]? := by
  unfold evVar gVar
  rcases ρ[i]? with _ | _ | s
  all_goals first | rfl | (cases s <;> first | rfl | (rename_i b _; cases b <;> rfl))
@[simp] theorem pk_at {i : Nat} : pk (.at_ i) ρ = gPk ρ[i]? := by
  unfold pk peek gPk
  dsimp only <;> rcases ρ[i]? with _ | _ | s
  all_goals first | rfl | (cases s <;> first | rfl | (rename_i b _; cases b <;> rfl))
@[simp] theorem toD_at {i : Nat} : toD (.at_ i) ρ = gD i ρ ρ[i]? := by
  unfold toD gD
  dsimp only <;> rcases ρ[i]? with _ | _ | s
  all_goals first | rfl | (cases s <;> first | rfl | (rename_i b _; cases b <;> rfl))
@[simp] theorem free_d {i : Nat} : freeSlot i ρ = gFree ρ[i]? := by
  unfold freeSlot gFree
  rcases ρ[i]? with _ | _ | s
  all_goals first | rfl | (cases s <;> first | rfl | (rename_i b _; cases b <;> rfl))
@[simp] theorem lock_at {i : Nat} : lockP (.at_ i) ρ = gLock i ρ ρ[i]? := by
  unfold lockP gLock
  dsimp only <;> rcases ρ[i]? with _ | _ | s
  all_goals first | rfl | (cases s <;> first | rfl | (rename_i b _; cases b <;> rfl))
@[simp] theorem unlock_at {i : Nat} : unlock (some i) ρ = gUn i ρ ρ[i]? := by
  unfold unlock gUn
  dsimp only <;> rcases ρ[i]? with _ | _ | s
  all_goals first | rfl | (cases s <;> first | rfl | (rename_i b _; cases b <;> rfl))
@[simp] theorem toArg_at {i : Nat} : toArg (.at_ i) ρ = gArg ρ[i]? := by
  unfold toArg gArg
  dsimp only <;> rcases ρ[i]? with _ | _ | s
  all_goals first | rfl | (cases s <;> first | rfl | (rename_i b _; cases b <;> rfl))
@[simp] theorem backArg_at {i : Nat} {a : A} : backArg (.at_ i) a ρ = gBack i ρ ρ[i]? a := by
  unfold backArg gBack
  dsimp only <;> rcases ρ[i]? with _ | _ | s
  all_goals first | rfl | (cases s <;> first | rfl | (rename_i b _; cases b <;> rfl) | (cases a <;> rfl))
@[simp] theorem mutSlot_d {i : Nat} {f : D → Rs D} : mutSlot i ρ f = gMut i ρ f ρ[i]? := by
  unfold mutSlot gMut
  rcases ρ[i]? with _ | _ | s
  all_goals first | rfl | (cases s <;> first | rfl | (rename_i b _; cases b <;> rfl))
@[simp] theorem retOf_at {i : Nat} : retOf (.at_ i) ρ = gRet i ρ ρ[i]? := by
  unfold retOf gRet
  dsimp only <;> rcases ρ[i]? with _ | _ | s
  all_goals first | rfl | (cases s <;> first | rfl | (rename_i b _; cases b <;> rfl))
@[simp] theorem g_aug {i : Nat} {op : Operator} {e : Ex} : ex F N (.aug i op e) ρ = gAug F i op e ρ ρ[i]? := by
  rw [r_ex_aug]
  unfold gAug
  rcases ρ[i]? with _ | _ | s
  all_goals first | rfl | (cases s <;> rfl)
@[simp] theorem g_chg {m : Mm} {i : Nat} {l : Exs} : ev F (.chg m i l) ρ = (evVar i ρ).bind fun r => (pk r.1 r.2).bind fun d0 => need (isLst d0 = true) <| (evs F l r.2).bind fun q => (Rs.of (toDs q.1 q.2)).bind fun t => gChg m i t t.2[i]? := by
  rw [r_ev_chg]
  refine congrArg _ (funext fun r => congrArg _ (funext fun d0 => congrArg _ (congrArg _ (funext fun q => congrArg _ (funext fun t => ?_)))))
  unfold gChg
  rcases t.2[i]? with _ | _ | s
  all_goals first | rfl | (cases s <;> rfl)
@[simp] theorem c24_dBin {i : Int} {j : Int} : dBin (.Add) (.int i) (.int j) = .ok (.val (.int (i + j))) := nd rfl
@[simp] theorem c25_dBin {x : Str} {y : Str} : dBin (.Add) (.str x) (.str y) = need (x.length + y.length ≤ sizeLine) (.ok (.val (.str (x ++ y)))) := nd rfl
@[simp] theorem c26_dBin {a : List D} {b : List D} : dBin (.Add) (.lst a) (.lst b) = need (a.length + b.length ≤ sizeLine) (.ok (.own (.lst (a ++ b)))) := nd rfl
@[simp] theorem c27_dBin {a : List D} {b : List D} : dBin (.Add) (.tup a) (.tup b) = need (a.length + b.length ≤ sizeLine) (.ok (.val (.tup (a ++ b)))) := nd rfl
@[simp] theorem c28_dBin {i : Int} {j : Int} : dBin (.Sub) (.int i) (.int j) = .ok (.val (.int (i - j))) := nd rfl
@[simp] theorem c29_dBin {i : Int} {j : Int} : dBin (.Mult) (.int i) (.int j) = need (CMulX i j) (.ok (.val (.int (i * j)))) := nd rfl
@[simp] theorem c30_dBin {k : Int} {l : List D} : dBin (.Mult) (.lst l) (.int k) = need (-(2 ^ 63) ≤ k ∧ k < 2 ^ 63 ∧ l.length * k.toNat ≤ sizeLine) (.ok (.own (.lst (List.replicate k.toNat l).flatten))) := nd rfl
@[simp] theorem c31_dBin {n : Int} {x : Str} : dBin (.Mult) (.str x) (.int n) = need (MulOk x n) (.ok (.val (.str (Txt.mul x n)))) := nd rfl
@[simp] theorem c32_dBin {i : Int} {j : Int} : dBin (.FloorDiv) (.int i) (.int j) = need (CDvX i j) (.ok (.val (.int (i.fdiv j)))) := nd rfl
@[simp] theorem c33_dBin {i : Int} {j : Int} : dBin (.Mod) (.int i) (.int j) = need (j ≠ 0) (.ok (.val (.int (i.fmod j)))) := nd rfl
@[simp] theorem c34_dBin {i : Int} {j : Int} : dBin (.Pow) (.int i) (.int j) = need (CPow i j) (.ok (.val (.int (i ^ j.toNat)))) := nd rfl
@[simp] theorem c35_dBin {i : Int} {j : Int} : dBin (.LShift) (.int i) (.int j) = need (CShl i j) (.ok (.val (.int (i * 2 ^ j.toNat)))) := nd rfl
@[simp] theorem c36_dCmp {a : D} {b : D} : dCmp (.Eq) (a) (b) = need (shp a = true ∧ shp b = true) (.ok (deq a b)) := nd rfl
@[simp] theorem c37_dCmp {a : D} {b : D} : dCmp (.NotEq) (a) (b) = need (shp a = true ∧ shp b = true) (.ok (!deq a b)) := nd rfl
@[simp] theorem c38_dCmp {i : Int} {j : Int} : dCmp (.Lt) (.int i) (.int j) = .ok (decide (i < j)) := nd rfl
@[simp] theorem c39_dCmp {i : Int} {j : Int} : dCmp (.LtE) (.int i) (.int j) = .ok (decide (i ≤ j)) := nd rfl
@[simp] theorem c40_dCmp {i : Int} {j : Int} : dCmp (.Gt) (.int i) (.int j) = .ok (decide (j < i)) := nd rfl
@[simp] theorem c41_dCmp {i : Int} {j : Int} : dCmp (.GtE) (.int i) (.int j) = .ok (decide (j ≤ i)) := nd rfl
@[simp] theorem c42_dCmp {a : D} : dCmp (.Is) (a) (.non) = .ok (match a with | .non => true | _ => false) := nd rfl
@[simp] theorem c43_dCmp {a : D} : dCmp (.IsNot) (a) (.non) = .ok (match a with | .non => false | _ => true) := nd rfl
@[simp] theorem c44_dCmp {a : D} {b : D} : dCmp (.In) (a) (b) = dIn a b := nd rfl
@[simp] theorem c45_dCmp {a : D} {b : D} : dCmp (.NotIn) (a) (b) = (dIn a b).bind fun c => .ok (!c) := nd rfl
@[simp] theorem c46_dIdx {i : Int} {l : List D} : dIdx (.tup l) (.int i) = .of (atI l i) := nd rfl
@[simp] theorem c47_dIdx {i : Int} {l : List D} : dIdx (.lst l) (.int i) = .of (atI l i) := nd rfl
@[simp] theorem c48_dIdx {i : Int} {l : List Int} : dIdx (.scr l) (.int i) = (Rs.of (atI l i)).bind fun k => .ok (.int k) := nd rfl
@[simp] theorem c49_dIdx {i : Int} {z : Str} : dIdx (.str z) (.int i) = need (z.length ≤ sizeLine) ((Rs.of (atI z.cps.toList i)).bind fun c => .ok (.str (chr1 c))) := nd rfl
@[simp] theorem c50_items {l : List D} : items (.tup l) = .ok l := nd rfl
@[simp] theorem c51_items {l : List D} : items (.lst l) = .ok l := nd rfl
@[simp] theorem c52_items {l : List Int} : items (.scr l) = .ok (l.map .int) := nd rfl
@[simp] theorem c53_items {x : Str} : items (.str x) = .ok (x.cps.toList.map fun c => .str (chr1 c)) := nd rfl
@[simp] theorem c54_itemsL {l : List D} : itemsL (.lst l) = .ok l := nd rfl
@[simp] theorem c54b_itemsL {l : List D} : itemsL (.tup l) = .ok l := nd rfl
@[simp] theorem c55_dLen {l : List D} : dLen (.tup l) = .ok l.length := nd rfl
@[simp] theorem c56_dLen {l : List D} : dLen (.lst l) = .ok l.length := nd rfl
@[simp] theorem c57_dLen {l : List Int} : dLen (.scr l) = .ok l.length := nd rfl
@[simp] theorem c58_dLen {x : Str} : dLen (.str x) = need (x.length ≤ sizeLine) (.ok x.length) := nd rfl
@[simp] theorem c59_dBl {d : D} : dBl (.len) ([d]) = (dLen d).bind fun n => .ok (.val (.int n)) := nd rfl
@[simp] theorem c60_dBl {i : Int} : dBl (.abs) ([.int i]) = .ok (.val (.int (if i < 0 then -i else i))) := nd rfl
@[simp] theorem c61_dBl {i : Int} : dBl (.int) ([.int i]) = .ok (.val (.int i)) := nd rfl
@[simp] theorem c62_dBl {k : Bool} : dBl (.int) ([.bl k]) = .ok (.val (.int (if k then 1 else 0))) := nd rfl
@[simp] theorem c63_dBl {l : List D} : dBl (.tuple) ([.tup l]) = .ok (.val (.tup l)) := nd rfl
@[simp] theorem c64_dBl {l : List D} : dBl (.tuple) ([.lst l]) = .ok (.val (.tup l)) := nd rfl
@[simp] theorem c65_dBl {l : List Int} : dBl (.tuple) ([.scr l]) = .ok (.val (.tup (l.map .int))) := nd rfl
@[simp] theorem c66_dBl {l : List D} : dBl (.list) ([.tup l]) = .ok (.own (.lst l)) := nd rfl
@[simp] theorem c67_dBl {l : List D} : dBl (.list) ([.lst l]) = .ok (.own (.lst l)) := nd rfl
@[simp] theorem c68_dBl {l : List Int} : dBl (.list) ([.scr l]) = .ok (.own (.lst (l.map .int))) := nd rfl
@[simp] theorem c69_dBl {l : List D} : dBl (.all) ([.lst l]) = (Rs.of (bls l)).bind fun bs => .ok (.val (.bl (bs.all id))) := nd rfl
@[simp] theorem c70_dBl {l : List D} : dBl (.any) ([.lst l]) = (Rs.of (bls l)).bind fun bs => .ok (.val (.bl (bs.any id))) := nd rfl
@[simp] theorem c71_dBl {l : List D} : dBl (.sum) ([.lst l]) = (Rs.of (intsD l)).bind fun is => .ok (.val (.int is.sum)) := nd rfl
@[simp] theorem c72_dBl {i : Int} {j : Int} : dBl (.gcd) ([.int i, .int j]) = .ok (.val (.int ((Nat.gcd i.natAbs j.natAbs : Nat) : Int))) := nd rfl
@[simp] theorem c73_dBl {i : Int} {j : Int} : dBl (.min2) ([.int i, .int j]) = .ok (.val (.int (if j < i then j else i))) := nd rfl
@[simp] theorem c74_dBl {i : Int} {j : Int} : dBl (.max2) ([.int i, .int j]) = .ok (.val (.int (if j > i then j else i))) := nd rfl
@[simp] theorem c75_truth  : truth (.non) = .ok false := nd rfl
@[simp] theorem c76_truth {b : Bool} : truth (.bl b) = .ok b := nd rfl
@[simp] theorem c77_truth {i : Int} : truth (.int i) = .ok (i != 0) := nd rfl
@[simp] theorem c78_truth {x : Str} : truth (.str x) = need (x.length ≤ sizeLine) (.ok ((x.length : Int) != 0)) := nd rfl
@[simp] theorem c79_truth {l : List D} : truth (.tup l) = .ok (!l.isEmpty) := nd rfl
@[simp] theorem c80_truth {l : List D} : truth (.lst l) = .ok (!l.isEmpty) := nd rfl
@[simp] theorem c81_truth {l : List Int} : truth (.scr l) = .ok (!l.isEmpty) := nd rfl
@[simp] theorem c82_dMe {a : Str} {l : List D} : dMe (.join) (.str a) ([.lst l]) = (Rs.of (strsD l)).bind fun ys => need ((ys.map (·.length)).sum + ys.length * a.length ≤ 16777216) (.ok (.val (.str (Txt.join a ys)))) := nd rfl
@[simp] theorem c83_dMe {a : Str} {l : List D} : dMe (.join) (.str a) ([.tup l]) = (Rs.of (strsD l)).bind fun ys => need ((ys.map (·.length)).sum + ys.length * a.length ≤ 16777216) (.ok (.val (.str (Txt.join a ys)))) := nd rfl
@[simp] theorem c84_dMe {a : Str} {b : Str} : dMe (.split) (.str a) ([.str b]) = need ((b.length == 0) = false ∧ a.length + 2 ≤ sizeLine) (.ok (.own (.lst ((Txt.split a b).map .str)))) := nd rfl
@[simp] theorem c85_dMe {l : List D} {x : D} : dMe (.index) (.lst l) ([x]) = need (shp x = true ∧ shp (.lst l) = true) (match l.findIdx? fun z => deq z x with | some j => .ok (.val (.int (j : Nat))) | none => .bad) := nd rfl
@[simp] theorem c86_dMm {l : List D} {d : D} : dMm (.append) (.lst l) ([d]) = need (l.length < sizeLine) (.ok (.non, .lst (l ++ [d]))) := nd rfl
@[simp] theorem c87_dMm {l : List D} : dMm (.pop) (.lst l) ([]) = (Rs.of (l[l.length - 1]?)).bind fun y => .ok (y, .lst l.dropLast) := nd rfl
@[simp] theorem c88_dMm {i : Int} {l : List D} {d : D} : dMm (.insert) (.lst l) ([.int i, d]) = need (l.length < sizeLine ∧ 0 ≤ i ∧ i < 2 ^ 63) (.ok (.non, .lst (l.take i.toNat ++ [d] ++ l.drop i.toNat))) := nd rfl
@[simp] theorem c89_dMm {i : Int} {l : List D} : dMm (.popAt) (.lst l) ([.int i]) = need (-(2 ^ 63) ≤ i ∧ i < 2 ^ 63) ((Rs.of (seqIndex? i l.length)).bind fun k => (Rs.of l[k]?).bind fun y => .ok (y, .lst (l.eraseIdx k))) := nd rfl
@[simp] theorem c90_dAug {i : Int} {j : Int} : dAug (.Add) (.int i) (.int j) = .ok (.int (i + j)) := nd rfl
@[simp] theorem c91_dAug {i : Int} {j : Int} : dAug (.Sub) (.int i) (.int j) = .ok (.int (i - j)) := nd rfl
@[simp] theorem c92_dAug {x : Str} {y : Str} : dAug (.Add) (.str x) (.str y) = need (x.length + y.length ≤ sizeLine) (.ok (.str (x ++ y))) := nd rfl
@[simp] theorem c93_dSet {k : Int} {l : List D} {d : D} : dSet (.lst l) (.int k) (d) = (Rs.of (ixN l.length k)).bind fun j => .ok (.lst (l.set j d)) := nd rfl
@[simp] theorem c94_itemss {a : List D} {b : List D} : itemss ([.lst a, .lst b]) = .ok [a, b] := nd rfl
@[simp] theorem c95_itemss {a : List D} {b : List D} : itemss ([.tup a, .tup b]) = .ok [a, b] := nd rfl
@[simp] theorem c95b_itemss {a b : List D} : itemss ([.lst a, .tup b]) = .ok [a, b] := nd rfl
@[simp] theorem c95c_itemss {a b : List D} : itemss ([.tup a, .lst b]) = .ok [a, b] := nd rfl
@[simp] theorem c96_dSlc {z : Str} {lo : Option Int} {hi : Option Int} : dSlc (.str z) (lo) (hi) = need (z.length ≤ sizeLine) (.ok (.val (.str (cutS z lo hi)))) := nd rfl
@[simp] theorem c97_dSlc {l : List D} {lo : Option Int} {hi : Option Int} : dSlc (.lst l) (lo) (hi) = .ok (.own (.lst ((l.drop (HT.sIx l.length 0 lo)).take (HT.sIx l.length l.length hi - HT.sIx l.length 0 lo)))) := nd rfl
@[simp] theorem c98_dSlc {l : List D} {lo : Option Int} {hi : Option Int} : dSlc (.tup l) (lo) (hi) = .ok (.val (.tup ((l.drop (HT.sIx l.length 0 lo)).take (HT.sIx l.length l.length hi - HT.sIx l.length 0 lo)))) := nd rfl
@[simp] theorem c99_bls : bls ([]) = some [] := nd rfl
@[simp] theorem c100_bls {b : Bool} {ds : List D} : bls (.bl b :: ds) = (bls ds).map (b :: ·) := nd rfl
@[simp] theorem c101_intsD : intsD ([]) = some [] := nd rfl
@[simp] theorem c102_intsD {b : Int} {ds : List D} : intsD (.int b :: ds) = (intsD ds).map (b :: ·) := nd rfl
@[simp] theorem c103_strsD : strsD ([]) = some [] := nd rfl
@[simp] theorem c104_strsD {b : Str} {ds : List D} : strsD (.str b :: ds) = (strsD ds).map (b :: ·) := nd rfl
@[simp] theorem dIn_str {i j : Str} : dIn (.str i) (.str j) = .ok (strIn i j) := nd rfl
@[simp] theorem dIn_lst {x : D} {l : List D} : dIn x (.lst l) = need (shp x = true ∧ shp (.lst l) = true) (.ok (l.any fun z => deq z x)) := nd rfl
@[simp] theorem dIn_tup {x : D} {l : List D} : dIn x (.tup l) = need (shp x = true ∧ shp (.tup l) = true) (.ok (l.any fun z => deq z x)) := nd rfl
@[simp] theorem isTy_tt {l : List D} : isTy .tup (.tup l) = .ok true := nd rfl
@[simp] theorem isTy_tl {l : List D} : isTy .tup (.lst l) = .ok false := nd rfl
@[simp] theorem isTy_ll {l : List D} : isTy .lst (.lst l) = .ok true := nd rfl
@[simp] theorem isTy_ss {x : Str} : isTy .str (.str x) = .ok true := nd rfl
@[simp] theorem isTy_ii {x : Int} : isTy .int (.int x) = .ok true := nd rfl
@[simp] theorem isTy_ib {x : Bool} : isTy .int (.bl x) = .ok true := nd rfl
@[simp] theorem isTy_bb {x : Bool} : isTy .bool (.bl x) = .ok true := nd rfl
@[simp] theorem isTy_bi {x : Int} : isTy .bool (.int x) = .ok false := nd rfl
@[simp] theorem isLst_i {l : List D} : isLst (.lst l) = true := nd rfl
@[simp] theorem hasTy_j {x : Str} : hasTy .join (.str x) = true := nd rfl
@[simp] theorem hasTy_s {x : Str} : hasTy .split (.str x) = true := nd rfl
@[simp] theorem atI_0 {α : Type} {x : α} {l : List α} : atI (x :: l) 0 = some x := by simp [atI, ixN]
@[simp] theorem atI_1 {α : Type} {x y : α} {l : List α} : atI (x :: y :: l) 1 = some y := by
  unfold atI ixN
  rw [if_pos (by decide), if_pos (by simp; omega)]
  rfl
@[simp] theorem atI_2 {α : Type} {x y z : α} {l : List α} : atI (x :: y :: z :: l) 2 = some z := by
  unfold atI ixN
  rw [if_pos (by decide), if_pos (by simp; omega)]
  rfl
@[simp] theorem atI_3 {α : Type} {x y z w : α} {l : List α} : atI (x :: y :: z :: w :: l) 3 = some w := by
  unfold atI ixN
  rw [if_pos (by decide), if_pos (by simp; omega)]
  rfl
@[simp] theorem mkF_glo2 {glo : Str → Option D} {M : Nat} {ds : List Dm} : (mkF glo M ds).glo = glo := mkF_glo
theorem dfl_cons {glo : Str → Option D} {M : Nat} {d : Dm} {ds : List Dm} (h1 : d.dfl = fun _ => []) (h2 : ∀ f n, (mkF glo M ds).dfl f n = []) (f : Str) (n : Nat) : (mkF glo M (d :: ds)).dfl f n = [] := by
  show (if f = d.f then d.dfl n else (mkF glo M ds).dfl f n) = []
  split
  · rw [h1]
  · exact h2 f n
/-- a table's def, seen from a larger one -/
theorem lift {glo : Str → Option D} {M : Nat} {f : Str} {ds : List Dm} : ∀ (l : List Dm), (l.all fun e => decide (f ≠ e.f)) = true → (mkF glo M (l ++ ds)).call f = (mkF glo M ds).call f
  | [], _ => rfl
  | d :: l, h => by
    rw [List.all_cons, Bool.and_eq_true] at h
    exact (show (mkF glo M (d :: (l ++ ds))).call f = _ from funext fun as => if_neg (of_decide_eq_true h.1)).trans (lift l h.2)
theorem nodfl {glo : Str → Option D} {M : Nat} {f : Str} {n : Nat} : ∀ {ds : List Dm}, (∀ d ∈ ds, d.dfl = fun _ => []) → (mkF glo M ds).dfl f n = []
  | [], _ => rfl
  | d :: l, h => by
    show (if f = d.f then d.dfl n else (mkF glo M l).dfl f n) = []
    split
    · rw [h d List.mem_cons_self]
    · exact nodfl fun e he => h e (List.mem_cons_of_mem _ he)
end
end Dv

set_option Elab.async false
set_option linter.all false
set_option maxRecDepth 100000
set_option maxHeartbeats 1000000
namespace Dv
open PySem PySem.Spec PyProof.Rows L2

/-! ### loops by what holds -/
theorem mapR_gen {f : D → Env' → Rs (Option D × Env')} : ∀ {l : List D} {I : Nat → List D → Env' → Prop} {ρ : Env'} {k : Nat} {out : List D},
    (∀ (i : Nat) (d : D) (out : List D) (ρ : Env'), l[i]? = some d → I (k + i) out ρ → ∃ y ρ', f d ρ = .ok (y, ρ') ∧ I (k + i + 1) (out ++ y.toList) ρ') → I k out ρ →
    ∃ o ρ', mapR f l ρ = .ok (o, ρ') ∧ I (k + l.length) (out ++ o) ρ'
  | [], I, ρ, k, out, _, h => ⟨[], ρ, rfl, by simpa using h⟩
  | d :: l, I, ρ, k, out, step, h => by
    obtain ⟨y, ρ1, e1, h1⟩ := step 0 d out ρ rfl h
    obtain ⟨o, ρ2, e2, h2⟩ := mapR_gen (l := l) (I := I) (ρ := ρ1) (k := k + 1) (out := out ++ y.toList) (fun i d out ρ e hi => by
      have := step (i + 1) d out ρ (by simpa using e) (by rw [show k + (i + 1) = k + 1 + i by omega]; exact hi)
      rw [show k + (i + 1) = k + 1 + i by omega] at this
      exact this) h1
    rw [List.length_cons, show k + (l.length + 1) = k + 1 + l.length by omega]
    cases y with
    | none =>
      refine ⟨o, ρ2, ?_, by simpa using h2⟩
      show (f d ρ).bind _ = _
      rw [e1]
      show (mapR f l ρ1).bind _ = _
      rw [e2]
      rfl
    | some y =>
      refine ⟨y :: o, ρ2, ?_, by simpa using h2⟩
      show (f d ρ).bind _ = _
      rw [e1]
      show (mapR f l ρ1).bind _ = _
      rw [e2]
      rfl
theorem forR_gen {f : D → Env' → Rs (Fl × Env')} : ∀ {l : List D} {I : Nat → Env' → Prop} {ρ : Env'} {k : Nat},
    (∀ (i : Nat) (d : D) (ρ : Env'), l[i]? = some d → I (k + i) ρ → ∃ ρ', f d ρ = .ok (.nx, ρ') ∧ I (k + i + 1) ρ') → I k ρ → ∃ ρ', forR f l ρ = .ok (.nx, ρ') ∧ I (k + l.length) ρ'
  | [], I, ρ, k, _, h => ⟨ρ, rfl, h⟩
  | d :: l, I, ρ, k, step, h => by
    obtain ⟨ρ1, e1, h1⟩ := step 0 d ρ rfl h
    obtain ⟨ρ2, e2, h2⟩ := forR_gen (l := l) (I := I) (ρ := ρ1) (k := k + 1) (fun i d ρ e hi => by
      have := step (i + 1) d ρ (by simpa using e) (by rw [show k + (i + 1) = k + 1 + i by omega]; exact hi)
      rw [show k + (i + 1) = k + 1 + i by omega] at this
      exact this) h1
    refine ⟨ρ2, ?_, ?_⟩
    · show (f d ρ).bind _ = _
      rw [e1]
      exact e2
    · rw [List.length_cons, show k + (l.length + 1) = k + 1 + l.length by omega]
      exact h2
theorem whileR_gen {t : Env' → Rs (Bool × Env')} {b : Env' → Rs (Fl × Env')} {I : Env' → Prop} {Q : Env' → Prop} (μ : Env' → Nat)
    (step : ∀ ρ, I ρ → (∃ ρ', t ρ = .ok (false, ρ') ∧ Q ρ') ∨ ∃ ρ1 ρ2, t ρ = .ok (true, ρ1) ∧ b ρ1 = .ok (.nx, ρ2) ∧ I ρ2 ∧ μ ρ2 < μ ρ) :
    ∀ {N : Nat} {ρ : Env'}, μ ρ < N → I ρ → ∃ ρ', whileR t b N ρ = .ok (.nx, ρ') ∧ Q ρ'
  | 0, ρ, h, _ => by omega
  | N + 1, ρ, h, hi => by
    rcases step ρ hi with ⟨ρ', e, q⟩ | ⟨ρ1, ρ2, e1, e2, h2, lt⟩
    · refine ⟨ρ', ?_, q⟩
      show (t ρ).bind _ = _
      rw [e]
      rfl
    · obtain ⟨ρ', e3, q⟩ := whileR_gen μ step (N := N) (ρ := ρ2) (by omega) h2
      refine ⟨ρ', ?_, q⟩
      show (t ρ).bind _ = _
      rw [e1]
      show (b ρ1).bind _ = _
      rw [e2]
      exact e3
theorem wR_len : ∀ (own : List Nat) (ρ : Env'), (wipeR ρ own).length = ρ.length
  | [], _ => rfl
  | v :: vs, ρ => by rw [wipe_cons, List.length_set, wR_len vs ρ]
theorem bR_len {ρ0 : Env'} : ∀ (own : List Nat) (ρ : Env'), (backR ρ0 ρ own).length = ρ.length
  | [], _ => rfl
  | v :: vs, ρ => by rw [back_cons, List.length_set, bR_len vs ρ]
theorem wR_get : ∀ (own : List Nat) (ρ : Env') (j : Nat), (wipeR ρ own)[j]? = if j ∈ own then (if j < ρ.length then some none else none) else ρ[j]?
  | [], _, _ => rfl
  | v :: vs, ρ, j => by
    rw [wipe_cons]
    by_cases e : v = j
    · subst e
      rw [if_pos List.mem_cons_self]
      by_cases lt : v < ρ.length
      · rw [if_pos lt, List.getElem?_set_self (by rw [wR_len]; exact lt)]
      · rw [if_neg lt, List.getElem?_eq_none (by rw [List.length_set, wR_len]; omega)]
    · rw [List.getElem?_set_ne e, wR_get vs ρ j]
      by_cases h : j ∈ vs
      · rw [if_pos h, if_pos (List.mem_cons_of_mem _ h)]
      · rw [if_neg h, if_neg (by simp [h, Ne.symm e])]
theorem bR_get {ρ0 : Env'} : ∀ (own : List Nat) (ρ : Env') (j : Nat), (backR ρ0 ρ own)[j]? = if j ∈ own then (if j < ρ.length then some (ρ0.getD j none) else none) else ρ[j]?
  | [], _, _ => rfl
  | v :: vs, ρ, j => by
    rw [back_cons]
    by_cases e : v = j
    · subst e
      rw [if_pos List.mem_cons_self]
      by_cases lt : v < ρ.length
      · rw [if_pos lt, List.getElem?_set_self (by rw [bR_len]; exact lt)]
      · rw [if_neg lt, List.getElem?_eq_none (by rw [List.length_set, bR_len]; omega)]
    · rw [List.getElem?_set_ne e, bR_get vs ρ j]
      by_cases h : j ∈ vs
      · rw [if_pos h, if_pos (List.mem_cons_of_mem _ h)]
      · rw [if_neg h, if_neg (by simp [h, Ne.symm e])]
theorem wipe_idem {own : List Nat} {ρ : Env'} : wipeR (wipeR ρ own) own = wipeR ρ own := List.ext_getElem? fun j => by
  rw [wR_get, wR_get, wR_len]
  by_cases h : j ∈ own
  · rw [if_pos h, if_pos h]
  · rw [if_neg h, if_neg h]
theorem back_wipe {ρ0 : Env'} {own : List Nat} {ρ : Env'} : backR ρ0 (wipeR ρ own) own = backR ρ0 ρ own := List.ext_getElem? fun j => by
  rw [bR_get, bR_get, wR_get, wR_len]
  by_cases h : j ∈ own
  · rw [if_pos h, if_pos h]
  · rw [if_neg h, if_neg h, if_neg h]
/-- a turn of a comprehension -/
noncomputable def turnR (F : Fn) (elt : Ex) (tg : Tg) (ifs : To) (d : D) (ρ : Env') : Rs (Option D × Env') := (asgT tg d ρ).bind fun ρ2 => (evc F ifs ρ2).quiet.bind fun c => match c.1 with
        | true => (ev F elt c.2).quiet.bind fun p => (Rs.of (toD p.1 p.2)).bind fun y => .ok (some y.1, y.2)
        | false => .ok (none, c.2)
/-- a comprehension, by what holds of the made items and of the other slots -/
theorem comp_gen {F : Fn} {elt : Ex} {tg : Tg} {it : Ie} {ifs : To} {own : List Nat} {ρ ρ1 : Env'} {l : List D} {p : P} (hi : evi F it ρ = .ok ((l, p), ρ1)) (I : Nat → List D → Env' → Prop)
    (step : ∀ (i : Nat) (d : D) (out : List D) (ρ : Env'), l[i]? = some d → wipeR ρ own = ρ → I i out ρ → ∃ y ρ', turnR F elt tg ifs d ρ = .ok (y, ρ') ∧ I (i + 1) (out ++ y.toList) (wipeR ρ' own)) (h0 : I 0 [] (wipeR (lockP p ρ1).2 own)) :
    ∃ out ρ2, I l.length out ρ2 ∧ ev F (.comp elt tg it ifs own) ρ = (unlock (lockP p ρ1).1 (backR (lockP p ρ1).2 ρ2 own)).bind fun ρ' => need (out.length < sizeLine) (.ok (.own (.lst out), ρ')) := by
  obtain ⟨o, ρ', e, h⟩ := mapR_gen (f := fun d ρ => turnR F elt tg ifs d (wipeR ρ own)) (l := l) (I := fun i out ρ => I i out (wipeR ρ own)) (k := 0) (out := []) (ρ := wipeR (lockP p ρ1).2 own) (fun i d out ρ e h => by
    rw [Nat.zero_add] at h ⊢
    exact step i d out (wipeR ρ own) e wipe_idem h) (by rw [wipe_idem]; exact h0)
  rw [Nat.zero_add, List.nil_append] at h
  refine ⟨o, wipeR ρ' own, h, ?_⟩
  rw [r_ev_comp, hi]
  show (mapR (fun d ρ => turnR F elt tg ifs d (wipeR ρ own)) l (wipeR (lockP p ρ1).2 own)).bind _ = _
  rw [e, back_wipe]
  rfl
end Dv

set_option Elab.async false
set_option linter.all false
set_option maxRecDepth 100000
set_option maxHeartbeats 1000000
namespace Dv
open PySem PySem.Spec PyProof.Rows L2

/-! ### the draws that all laws share -/
def bBegin : Sxs := (.cons 
    (.ret (.lst (.cons (.comp (.blt .int (.cons (.var 1) .nil)) (.nm 1) (.seq (.var 0)) .none [1]) (.cons (.cst (.int 0)) (.cons (.cst (.int 0)) (.cons (.cst (.int 7)) (.cons (.cst (.int 3)) .nil))))))) .nil)
def bDraw : Sxs := (.cons 
    (.ite (.cmp .Gt (.idx (.var 0) (.cst (.int 2))) (.cst (.int 0))) (.cons 
    (.set 3 (.idx (.var 0) (.cst (.int 2)))) (.cons 
    (.setI 0 (.cst (.int 2)) (.bin .FloorDiv (.var 3) (.var 1))) (.cons 
    (.ret (.bin .Mod (.blt .int (.cons (.var 3) .nil)) (.var 1))) .nil))) .nil) (.cons 
    (.set 2 (.cst (.int 0))) (.cons 
    (.ite (.cmp .Lt (.idx (.var 0) (.cst (.int 1))) (.blt .len (.cons (.idx (.var 0) (.cst (.int 0))) .nil))) (.cons 
    (.set 4 (.idx (.idx (.var 0) (.cst (.int 0))) (.idx (.var 0) (.cst (.int 1))))) (.cons 
    (.set 2 (.bin .Add (.bin .Mult (.cst (.int 2)) (.blt .abs (.cons (.var 4) .nil))) (.blt .int (.cons (.cmp .Lt (.var 4) (.cst (.int 0))) .nil)))) .nil)) .nil) (.cons 
    (.augI 0 .Add (.cst (.int 1)) (.cst (.int 1))) (.cons 
    (.ite (.cmp .GtE (.var 2) (.bin .Mult (.cst (.int 2)) (.bin .Pow (.cst (.int 10)) (.cst (.int 18))))) (.cons 
    (.set 3 (.bin .Mod (.blt .int (.cons (.bin .FloorDiv (.var 2) (.cst (.int 2))) .nil)) (.bin .LShift (.cst (.int 1)) (.cst (.int 6000))))) (.cons 
    (.setI 0 (.cst (.int 2)) (.bin .FloorDiv (.var 3) (.var 1))) (.cons 
    (.ret (.bin .Mod (.blt .int (.cons (.var 3) .nil)) (.var 1))) .nil))) .nil) (.cons 
    (.setI 0 (.cst (.int 3)) (.bin .Mod (.blt .int (.cons (.bin .Add (.bin .Add (.bin .Add (.bin .Mult (.idx (.var 0) (.cst (.int 3))) (.cst (.int 48271))) (.bin .Mult (.bin .Mod (.blt .int (.cons (.var 2) .nil)) (.cst (.int 2147483629))) (.cst (.int 16807)))) (.bin .Mult (.idx (.var 0) (.cst (.int 1))) (.cst (.int 69621)))) (.cst (.int 11))) .nil)) (.cst (.int 2147483647)))) (.cons 
    (.ret (.bin .Mod (.blt .int (.cons (.bin .FloorDiv (.idx (.var 0) (.cst (.int 3))) (.cst (.int 16))) .nil)) (.var 1))) .nil)))))))
def dS1 : Sx := (.ite (.cmp .Gt (.idx (.var 0) (.cst (.int 2))) (.cst (.int 0))) (.cons 
    (.set 3 (.idx (.var 0) (.cst (.int 2)))) (.cons 
    (.setI 0 (.cst (.int 2)) (.bin .FloorDiv (.var 3) (.var 1))) (.cons 
    (.ret (.bin .Mod (.blt .int (.cons (.var 3) .nil)) (.var 1))) .nil))) .nil)
def dS3 : Sx := (.ite (.cmp .Lt (.idx (.var 0) (.cst (.int 1))) (.blt .len (.cons (.idx (.var 0) (.cst (.int 0))) .nil))) (.cons 
    (.set 4 (.idx (.idx (.var 0) (.cst (.int 0))) (.idx (.var 0) (.cst (.int 1))))) (.cons 
    (.set 2 (.bin .Add (.bin .Mult (.cst (.int 2)) (.blt .abs (.cons (.var 4) .nil))) (.blt .int (.cons (.cmp .Lt (.var 4) (.cst (.int 0))) .nil)))) .nil)) .nil)
def bDraw2 : Sxs := (.cons 
    (.augI 0 .Add (.cst (.int 1)) (.cst (.int 1))) (.cons 
    (.ite (.cmp .GtE (.var 2) (.bin .Mult (.cst (.int 2)) (.bin .Pow (.cst (.int 10)) (.cst (.int 18))))) (.cons 
    (.set 3 (.bin .Mod (.blt .int (.cons (.bin .FloorDiv (.var 2) (.cst (.int 2))) .nil)) (.bin .LShift (.cst (.int 1)) (.cst (.int 6000))))) (.cons 
    (.setI 0 (.cst (.int 2)) (.bin .FloorDiv (.var 3) (.var 1))) (.cons 
    (.ret (.bin .Mod (.blt .int (.cons (.var 3) .nil)) (.var 1))) .nil))) .nil) (.cons 
    (.setI 0 (.cst (.int 3)) (.bin .Mod (.blt .int (.cons (.bin .Add (.bin .Add (.bin .Add (.bin .Mult (.idx (.var 0) (.cst (.int 3))) (.cst (.int 48271))) (.bin .Mult (.bin .Mod (.blt .int (.cons (.var 2) .nil)) (.cst (.int 2147483629))) (.cst (.int 16807)))) (.bin .Mult (.idx (.var 0) (.cst (.int 1))) (.cst (.int 69621)))) (.cst (.int 11))) .nil)) (.cst (.int 2147483647)))) (.cons 
    (.ret (.bin .Mod (.blt .int (.cons (.bin .FloorDiv (.idx (.var 0) (.cst (.int 3))) (.cst (.int 16))) .nil)) (.var 1))) .nil))))
def dS4 : Sx := (.augI 0 .Add (.cst (.int 1)) (.cst (.int 1)))
def dS5 : Sx := (.ite (.cmp .GtE (.var 2) (.bin .Mult (.cst (.int 2)) (.bin .Pow (.cst (.int 10)) (.cst (.int 18))))) (.cons 
    (.set 3 (.bin .Mod (.blt .int (.cons (.bin .FloorDiv (.var 2) (.cst (.int 2))) .nil)) (.bin .LShift (.cst (.int 1)) (.cst (.int 6000))))) (.cons 
    (.setI 0 (.cst (.int 2)) (.bin .FloorDiv (.var 3) (.var 1))) (.cons 
    (.ret (.bin .Mod (.blt .int (.cons (.var 3) .nil)) (.var 1))) .nil))) .nil)
def dS6 (A B C E G Q : Int) : Sx := (.setI 0 (.cst (.int 3)) (.bin .Mod (.blt .int (.cons (.bin .Add (.bin .Add (.bin .Add (.bin .Mult (.idx (.var 0) (.cst (.int 3))) (.cst (.int A))) (.bin .Mult (.bin .Mod (.blt .int (.cons (.var 2) .nil)) (.cst (.int B))) (.cst (.int C)))) (.bin .Mult (.idx (.var 0) (.cst (.int 1))) (.cst (.int E)))) (.cst (.int G))) .nil)) (.cst (.int Q))))
def bDraw3 : Sxs := (.cons 
    (.ret (.bin .Mod (.blt .int (.cons (.bin .FloorDiv (.idx (.var 0) (.cst (.int 3))) (.cst (.int 16))) .nil)) (.var 1))) .nil)
def bPick : Sxs := (.cons 
    (.ret (.idx (.var 1) (.call "_law_draw" (.cons (.var 0) (.cons (.blt .len (.cons (.var 1) .nil)) .nil))))) .nil)
def bRare : Sxs := (.cons 
    (.ret (.cmp .Eq (.call "_law_draw" (.cons (.var 0) (.cons (.var 1) .nil))) (.bin .FloorDiv (.var 1) (.cst (.int 2))))) .nil)
theorem bits_lt {x : Int} {k : Nat} (h : x.natAbs < 2 ^ k) : Builtin.Int.intBits x ≤ k := by
  unfold Builtin.Int.intBits
  split
  · omega
  · rename_i hx
    have : x.natAbs ≠ 0 := by simpa using hx
    exact (Nat.log2_lt this).mpr h
theorem bits_neg {x : Int} : Builtin.Int.intBits (-x) = Builtin.Int.intBits x := by
  unfold Builtin.Int.intBits
  rw [Int.natAbs_neg]
  by_cases h : x = 0
  · subst h; rfl
  · have h1 : (-x == 0) = false := by simpa using h
    have h2 : (x == 0) = false := by simpa using h
    rw [h1, h2]
theorem bits_nn {x : Int} {k : Nat} (h0 : 0 ≤ x) (h : x < 2 ^ k) : Builtin.Int.intBits x ≤ k := bits_lt (by
  have e : ((2 : Int) ^ k) = ((2 ^ k : Nat) : Int) := by push_cast; rfl
  rw [e] at h
  omega)
theorem ofb_lt {x : Int} {k : Nat} (h : Builtin.Int.intBits x ≤ k) : x.natAbs < 2 ^ k := by
  unfold Builtin.Int.intBits at h
  split at h
  · rename_i hx
    have : x = 0 := by simpa using hx
    subst this
    exact Nat.two_pow_pos k
  · rename_i hx
    have : x.natAbs ≠ 0 := by simpa using hx
    exact (Nat.log2_lt this).mp h
/-- a divisor of one digit or few -/
theorem dv_ok {i j : Int} (h : 0 < j) (h2 : j < 2 ^ 64) : CDvX i j := by
  refine ⟨by omega, ?_⟩
  unfold Builtin.divisionGoesByPylong
  have : j.natAbs.log2 < 64 := (Nat.log2_lt (by omega)).mpr (by omega)
  have e : (j == 0) = false := by simpa using (by omega : j ≠ 0)
  simp only [e]
  have q : ¬ (j.natAbs.log2 / 30 + 1 > 300) := by omega
  simp [q]

/-- 1 << 6000 -/
def big : Int := ((2 ^ 6000 : Nat) : Int)
theorem big_pos : 0 < big := by
  unfold big
  have : 0 < 2 ^ 6000 := Nat.two_pow_pos 6000
  omega
theorem pow_nat (n : Nat) : (1 : Int) * 2 ^ n = ((2 ^ n : Nat) : Int) := by
  rw [Int.one_mul]
  push_cast
  rfl
theorem sh_ok : CShl 1 ((6000 : Nat) : Int) := by decide +kernel
theorem sh_big (n : Nat) (h : CShl 1 (n : Int)) : dBin .LShift (.int 1) (.int (n : Int)) = .ok (.val (.int ((2 ^ n : Nat) : Int))) := by
  show need (CShl 1 (n : Int)) _ = _
  rw [need_true h, Int.toNat_natCast, pow_nat]
@[simp high] theorem sh_big2 : dBin .LShift (.int 1) (.int 6000) = .ok (.val (.int big)) := sh_big 6000 sh_ok
theorem fdiv_le {f m : Int} (h0 : 0 ≤ f) (hm : 0 < m) : f.fdiv m ≤ f := by
  rw [Int.fdiv_eq_ediv_of_nonneg _ (by omega)]
  exact Int.ediv_le_self _ h0
/-- the state of the draws, behind at most n of them -/
structure DS (n : Nat) (d : D) : Prop where
  ex : ∃ (cs : List Int) (p f s : Int), d = .lst [.lst (cs.map .int), .int p, .int f, .int s, .int 3] ∧ (∀ c ∈ cs, Builtin.Int.intBits c ≤ 1048576) ∧ cs.length ≤ 63 ∧ 0 ≤ p ∧ p ≤ n ∧ 0 ≤ f ∧ f < big ∧ 0 ≤ s ∧ s < 2 ^ 31
theorem DS.mono {n m : Nat} {d : D} (h : DS n d) (le : n ≤ m) : DS m d := by
  obtain ⟨cs, p, f, s, e, h1, h2, h3, h4, h5⟩ := h.ex
  exact ⟨cs, p, f, s, e, h1, h2, h3, by omega, h5⟩

theorem begin_ok {F : Fn} {M : Nat} {ns : List Int} (hl : ns.length ≤ 63) : runDef F M 2 bBegin [.val (.scr ns)] = .ok (.own (.lst [.lst (ns.map .int), .int 0, .int 0, .int 7, .int 3]), [.val (.scr ns)]) := by
  obtain ⟨o, ρ2, ⟨h1, h2⟩, e⟩ := comp_gen (F := F) (elt := .blt .int (.cons (.var 1) .nil)) (tg := .nm 1) (it := .seq (.var 0)) (ifs := .none) (own := [1]) (ρ := [some (.val (.scr ns)), none]) (l := ns.map .int) (p := .val (.scr ns)) (ρ1 := [some (.val (.scr ns)), none]) (by simp [items])
    (I := fun i out ρ => out = (ns.map D.int).take i ∧ ρ = [some (.val (.scr ns)), none])
      (fun i d out ρ e _ ⟨h1, h2⟩ => by
        obtain ⟨z, hz, rfl⟩ := List.mem_map.mp (List.mem_of_getElem? e)
        refine ⟨some (.int z), [some (.val (.scr ns)), some (.val (.int z))], ?_, ?_, ?_⟩
        · rw [h2]
          simp [turnR, dBl]
        · rw [h1, List.take_succ, e]
        · simp) ⟨rfl, by simp⟩
  rw [List.take_length] at h1
  subst h1 h2
  have hq : ns.length < 16777216 := by omega
  simp [bBegin, envOf, -r_ev_comp, e, sizeLine, hq]

theorem fdiv_lt {f m : Int} {k : Nat} (h0 : 0 ≤ f) (h : f < 2 ^ k) (hm : 0 < m) : f.fdiv m < 2 ^ k := by
  have h1 : f.fdiv m ≤ f := by
    rw [Int.fdiv_eq_ediv_of_nonneg _ (by omega)]
    exact Int.ediv_le_self _ h0
  omega
theorem exs_nx {F : Fn} {M : Nat} {t : Sx} {l : Sxs} {ρ ρ' : Env'} (h : ex F M t ρ = .ok (.nx, ρ')) : exs F M (.cons t l) ρ = exs F M l ρ' := by
  rw [r_exs_cons, h]
  rfl
theorem dS6_ok {F : Fn} {M : Nat} {A B C E G Q p f s sz m : Int} {x : D} {o3 o4 : Option S} (hB : B ≠ 0) (hQ : Q ≠ 0) (m2 : CMulX s A) (m3 : CMulX (sz.fmod B) C) (m4 : CMulX p E) :
    ex F M (dS6 A B C E G Q) [some (.own true (.lst [x, .int p, .int f, .int s, .int 3])), some (.val (.int m)), some (.val (.int sz)), o3, o4] =
    .ok (.nx, [some (.own true (.lst [x, .int p, .int f, .int ((s * A + sz.fmod B * C + p * E + G).fmod Q), .int 3])), some (.val (.int m)), some (.val (.int sz)), o3, o4]) := by
  simp [dS6, ixN, hB, hQ, m2, m3, m4]
theorem draw_ok {F : Fn} {M : Nat} {n : Nat} {d : D} {m : Int} (hd : DS n d) (hn : n < 2 ^ 60) (h0 : 0 < m) (h1 : m < 2 ^ 64) :
    ∃ r d', runDef F M 5 bDraw [.own d, .val (.int m)] = .ok (.val (.int r), [.own d', .val (.int m)]) ∧ 0 ≤ r ∧ r < m ∧ DS (n + 1) d' := by
  obtain ⟨cs, p, f, s, rfl, hb, hl, hp0, hpn, hf0, hf1, hs0, hs1⟩ := hd.ex
  have dv : ∀ i, CDvX i m := fun i => dv_ok h0 h1
  have hm : m ≠ 0 := by omega
  have fm : ∀ x : Int, 0 ≤ x.fmod m ∧ x.fmod m < m := fun x => ⟨Int.fmod_nonneg_of_pos _ h0, Int.fmod_lt_of_pos _ h0⟩
  by_cases hf : 0 < f
  · refine ⟨f.fmod m, .lst [.lst (cs.map .int), .int p, .int (f.fdiv m), .int s, .int 3], ?_, (fm f).1, (fm f).2, ⟨cs, p, f.fdiv m, s, rfl, hb, hl, hp0, by omega, Int.fdiv_nonneg hf0 (by omega), Int.lt_of_le_of_lt (fdiv_le hf0 h0) hf1, hs0, hs1⟩⟩
    simp [bDraw, envOf, ixN, hf, dv, hm]
  · have mx : ∀ (a b : Int), Builtin.Int.intBits a ≤ 2000000 → Builtin.Int.intBits b ≤ 2000000 → CMulX a b := fun a b h1 h2 => by
      unfold CMulX
      omega
    have b2 : Builtin.Int.intBits 2 ≤ 2000000 := by decide +kernel
    have pw : CPow 10 18 := by decide +kernel
    have m1 : CMulX 2 1000000000000000000 := by decide +kernel
    have m2 : CMulX s 48271 := mx _ _ (Nat.le_trans (bits_nn (k := 31) hs0 (by omega)) (by omega)) (by decide +kernel)
    have m3 : ∀ x : Int, CMulX (x.fmod 2147483629) 16807 := fun x => mx _ _ (Nat.le_trans (bits_nn (k := 31) (Int.fmod_nonneg_of_pos _ (by omega)) (Int.lt_trans (Int.fmod_lt_of_pos _ (by omega)) (by omega))) (by omega)) (by decide +kernel)
    have m4 : CMulX (p + 1) 69621 := mx _ _ (Nat.le_trans (bits_nn (k := 62) (by omega) (by omega)) (by omega)) (by decide +kernel)
    have dv2 : ∀ i, CDvX i 2 := fun i => dv_ok (by decide) (by decide)
    have dv16 : ∀ i, CDvX i 16 := fun i => dv_ok (by decide) (by decide)
    -- the cell's size
    obtain ⟨sz, hsz⟩ : ∃ sz : Int, sz = if p < cs.length then 2 * (if (cs.getD p.toNat 0) < 0 then -(cs.getD p.toNat 0) else cs.getD p.toNat 0) + (if decide ((cs.getD p.toNat 0) < 0) = true then 1 else 0) else 0 := ⟨_, rfl⟩
    have key : ex F M ((.ite (.cmp .Lt (.idx (.var 0) (.cst (.int 1))) (.blt .len (.cons (.idx (.var 0) (.cst (.int 0))) .nil))) (.cons
        (.set 4 (.idx (.idx (.var 0) (.cst (.int 0))) (.idx (.var 0) (.cst (.int 1))))) (.cons
        (.set 2 (.bin .Add (.bin .Mult (.cst (.int 2)) (.blt .abs (.cons (.var 4) .nil))) (.blt .int (.cons (.cmp .Lt (.var 4) (.cst (.int 0))) .nil)))) .nil)) .nil))
        [some (.own true (.lst [.lst (cs.map .int), .int p, .int f, .int s, .int 3])), some (.val (.int m)), some (.val (.int 0)), none, none] =
        .ok (.nx, [some (.own true (.lst [.lst (cs.map .int), .int p, .int f, .int s, .int 3])), some (.val (.int m)), some (.val (.int sz)), none, if p < cs.length then some (.val (.int (cs.getD p.toNat 0))) else none]) := by
      by_cases hp : p < cs.length
      · have hp2 : p.toNat < cs.length := by omega
        have ha : atI (cs.map D.int) p = some (.int (cs.getD p.toNat 0)) := by
          unfold atI ixN
          rw [if_pos hp0, if_pos (by simpa using hp)]
          simp [List.getElem?_eq_getElem hp2]
        have mc : CMulX 2 (if (cs.getD p.toNat 0) < 0 then -(cs.getD p.toNat 0) else cs.getD p.toNat 0) := mx _ _ b2 (by
          have h := hb _ (List.getElem_mem hp2)
          have e : cs.getD p.toNat 0 = cs[p.toNat] := by simp [List.getElem?_eq_getElem hp2]
          rw [e]
          split
          · rw [bits_neg]; omega
          · omega)
        rw [if_pos hp] at hsz ⊢
        subst hsz
        generalize cs.getD p.toNat 0 = c at *
        simp [ha, hp, mc]
      · rw [if_neg hp] at hsz ⊢
        subst hsz
        simp [hp]
    have e3 : exs F M bDraw (envOf 5 [.own (.lst [.lst (cs.map .int), .int p, .int f, .int s, .int 3]), .val (.int m)]) = exs F M bDraw2 [some (.own true (.lst [.lst (cs.map .int), .int p, .int f, .int s, .int 3])), some (.val (.int m)), some (.val (.int sz)), none, if p < cs.length then some (.val (.int (cs.getD p.toNat 0))) else none] := by
      rw [show bDraw = .cons dS1 (.cons (.set 2 (.cst (.int 0))) (.cons dS3 bDraw2)) from rfl]
      have h1 : ex F M dS1 [some (.own true (.lst [.lst (cs.map .int), .int p, .int f, .int s, .int 3])), some (.val (.int m)), none, none, none] = .ok (.nx, [some (.own true (.lst [.lst (cs.map .int), .int p, .int f, .int s, .int 3])), some (.val (.int m)), none, none, none]) := by
        simp [dS1, hf]
      have h2 : ex F M (.set 2 (.cst (.int 0))) [some (.own true (.lst [.lst (cs.map .int), .int p, .int f, .int s, .int 3])), some (.val (.int m)), none, none, none] = .ok (.nx, [some (.own true (.lst [.lst (cs.map .int), .int p, .int f, .int s, .int 3])), some (.val (.int m)), some (.val (.int 0)), none, none]) := by
        simp
      rw [r_exs_cons, show envOf 5 [A.own (.lst [.lst (cs.map .int), .int p, .int f, .int s, .int 3]), .val (.int m)] = [some (.own true (.lst [.lst (cs.map .int), .int p, .int f, .int s, .int 3])), some (.val (.int m)), none, none, none] from rfl, h1]
      show exs F M _ _ = _
      rw [r_exs_cons, h2]
      show exs F M _ _ = _
      rw [r_exs_cons]
      rw [show ex F M dS3 _ = _ from key]
      rfl
    rw [runDef_d, e3]
    clear e3 key hsz
    generalize (if p < cs.length then some (S.val (.int (cs.getD p.toNat 0))) else none) = o4
    by_cases hz : 2000000000000000000 ≤ sz
    · refine ⟨((sz.fdiv 2).fmod big).fmod m, .lst [.lst (cs.map .int), .int (p + 1), .int (((sz.fdiv 2).fmod big).fdiv m), .int s, .int 3], ?_, (fm _).1, (fm _).2,
        ⟨cs, p + 1, ((sz.fdiv 2).fmod big).fdiv m, s, rfl, hb, hl, by omega, by omega, Int.fdiv_nonneg (Int.fmod_nonneg_of_pos _ big_pos) (by omega), Int.lt_of_le_of_lt (fdiv_le (Int.fmod_nonneg_of_pos _ big_pos) h0) (Int.fmod_lt_of_pos _ big_pos), hs0, hs1⟩⟩
      have n0 : big ≠ 0 := by have := big_pos; omega
      simp [bDraw2, ixN, hz, dv, hm, pw, m1, dv2, n0]
    · have g := fun x : Int => Int.fmod_nonneg_of_pos x (b := 2147483647) (by decide)
      have g2 := fun x : Int => Int.fmod_lt_of_pos x (b := 2147483647) (by decide)
      have c4 : ex F M dS4 [some (.own true (.lst [.lst (cs.map .int), .int p, .int f, .int s, .int 3])), some (.val (.int m)), some (.val (.int sz)), none, o4] = .ok (.nx, [some (.own true (.lst [.lst (cs.map .int), .int (p + 1), .int f, .int s, .int 3])), some (.val (.int m)), some (.val (.int sz)), none, o4]) := by
        simp [dS4, ixN]
      have c5 : ex F M dS5 [some (.own true (.lst [.lst (cs.map .int), .int (p + 1), .int f, .int s, .int 3])), some (.val (.int m)), some (.val (.int sz)), none, o4] = .ok (.nx, [some (.own true (.lst [.lst (cs.map .int), .int (p + 1), .int f, .int s, .int 3])), some (.val (.int m)), some (.val (.int sz)), none, o4]) := by
        simp [dS5, hz, pw, m1]
      have c6 := dS6_ok (F := F) (M := M) (m := m) (x := .lst (cs.map .int)) (f := f) (o3 := none) (o4 := o4) (G := 11) (Q := 2147483647) (by decide) (by decide) m2 (m3 sz) m4
      have g3 := g (s * 48271 + sz.fmod 2147483629 * 16807 + (p + 1) * 69621 + 11)
      have g4 := g2 (s * 48271 + sz.fmod 2147483629 * 16807 + (p + 1) * 69621 + 11)
      generalize (s * 48271 + sz.fmod 2147483629 * 16807 + (p + 1) * 69621 + 11).fmod 2147483647 = s' at c6 g3 g4
      refine ⟨(s'.fdiv 16).fmod m, .lst [.lst (cs.map .int), .int (p + 1), .int f, .int s', .int 3], ?_, (fm _).1, (fm _).2,
        ⟨cs, p + 1, f, s', rfl, hb, hl, by omega, by omega, hf0, hf1, g3, by omega⟩⟩
      have c7 : (exs F M bDraw3 [some (.own true (.lst [.lst (cs.map .int), .int (p + 1), .int f, .int s', .int 3])), some (.val (.int m)), some (.val (.int sz)), none, o4]).bind (finish [.own (.lst [.lst (cs.map .int), .int p, .int f, .int s, .int 3]), .val (.int m)]) =
          .ok (.val (.int ((s'.fdiv 16).fmod m)), [.own (.lst [.lst (cs.map .int), .int (p + 1), .int f, .int s', .int 3]), .val (.int m)]) := by
        simp [bDraw3, ixN, dv, hm, dv16]
      have c8 : exs F M bDraw2 [some (.own true (.lst [.lst (cs.map .int), .int p, .int f, .int s, .int 3])), some (.val (.int m)), some (.val (.int sz)), none, o4] = exs F M bDraw3 [some (.own true (.lst [.lst (cs.map .int), .int (p + 1), .int f, .int s', .int 3])), some (.val (.int m)), some (.val (.int sz)), none, o4] :=
        (exs_nx c4).trans ((exs_nx c5).trans (exs_nx c6))
      rw [c8]
      exact c7
end Dv

set_option Elab.async false
set_option linter.all false
set_option maxRecDepth 100000
set_option maxHeartbeats 1000000
namespace Dv
open PySem PySem.Spec PyProof.Rows L2

/-! ### texts as lists of characters -/
def st (l : List Nat) : Str := ⟨l.toArray⟩
theorem st_of (x : Str) : x = st x.cps.toList := by
  unfold st
  rw [Array.toArray_toList]
@[simp] theorem st_cps {l : List Nat} : (st l).cps.toList = l := rfl
@[simp] theorem st_len {l : List Nat} : (st l).length = l.length := rfl
theorem chr1_st {c : Nat} : chr1 c = st [c] := rfl
@[simp] theorem st_app {a b : List Nat} : st a ++ st b = st (a ++ b) := by
  show Str.append (st a) (st b) = _
  unfold Str.append st
  simp
theorem st_inj {a b : List Nat} : st a = st b ↔ a = b := ⟨fun h => by
  have := congrArg (fun x : Str => x.cps.toList) h
  simpa using this, fun h => by rw [h]⟩
theorem shp_st {l : List Nat} (h : ∀ c ∈ l, c < 128) : shp (.str (st l)) = true := by
  have e : PyData.strOk (st l) = true := by
    show l.toArray.all (fun x => decide (x < 1114112)) = true
    rw [List.all_toArray, List.all_eq_true]
    exact fun c hc => decide_eq_true (by have := h c hc; omega)
  show (PyData.strOk (st l) && decide (PyData.depth (.str (st l)) ≤ 64)) = true
  rw [e]
  rfl
@[simp] theorem deq_str {x y : Str} : deq (.str x) (.str y) = decide (x = y) := by
  show PyData.eqv (.str x) (.str y) = _
  unfold PyData.eqv
  by_cases h : x = y
  · simp [h]
  · simp [h]
@[simp] theorem shp_int {x : Int} : shp (.int x) = true := rfl
@[simp] theorem deq_int {x y : Int} : deq (.int x) (.int y) = decide (x = y) := by
  show PyData.eqv (.int x) (.int y) = _
  unfold PyData.eqv
  by_cases h : x = y
  · simp [h]
  · simp [h]
theorem items_st {l : List Nat} : items (.str (st l)) = .ok (l.map fun c => .str (st [c])) := rfl
theorem empty_st : (Str.empty) = st [] := rfl
theorem join_st : ∀ (ls : List (List Nat)), Txt.join (st []) (ls.map st) = st ls.flatten := by
  intro ls
  rw [show Txt.join (st []) (ls.map st) = Builtin.Str.glued (st []) (ls.map st) from rfl, PySem.StrLaws.glued_eq_join]
  induction ls with
  | nil => rfl
  | cons a r ih =>
    cases r with
    | nil => simp [Str.join]
    | cons b r =>
      show st a ++ st [] ++ Str.join (st []) ((b :: r).map st) = _
      rw [ih]
      simp
theorem strs_st : ∀ (ls : List (List Nat)), strsD (ls.map fun l => D.str (st l)) = some (ls.map st)
  | [] => rfl
  | a :: r => by
    show (strsD (r.map fun l => D.str (st l))).map _ = _
    rw [strs_st r]
    rfl
theorem atI_nat {α : Type} {l : List α} {i : Int} (h0 : 0 ≤ i) (h : i < l.length) : atI l i = l[i.toNat]? := by
  unfold atI ixN
  rw [if_pos h0, if_pos h]
  rfl
theorem cut_st {l : List Nat} {a b : Nat} (h : a ≤ b) (hb : b ≤ l.length) : cutS (st l) (some (a : Int)) (some (b : Int)) = st ((l.drop a).take (b - a)) := by
  unfold cutS
  rw [HT.sIx_nat, HT.sIx_nat, st_len, Nat.min_eq_left hb, Nat.min_eq_left (Nat.le_trans h hb)]
  rfl
theorem mul_st {l : List Nat} {n : Nat} (h : 0 < n) : Txt.mul (st l) (n : Int) = st (List.replicate n l).flatten := by
  unfold Txt.mul
  rw [if_neg (by omega)]
  by_cases h1 : ((n : Int) == 1 || (st l).length == 0) = true
  · rw [if_pos h1]
    rw [Bool.or_eq_true] at h1
    rcases h1 with h1 | h1
    · have : n = 1 := by have := beq_iff_eq.mp h1; omega
      subst this
      simp
    · have : l = [] := by
        have := beq_iff_eq.mp h1
        rw [st_len] at this
        exact List.length_eq_zero_iff.mp this
      subst this
      simp
  · rw [if_neg h1]
    have g : ∀ (k : Nat) (acc : Array Nat), (List.replicate k (st l).cps).foldl (· ++ ·) acc = acc ++ ((List.replicate k l).flatten).toArray := by
      intro k
      induction k with
      | zero => intro acc; simp
      | succ k ih =>
        intro acc
        rw [List.replicate_succ, List.foldl_cons, ih, List.replicate_succ, List.flatten_cons]
        show acc ++ l.toArray ++ _ = _
        simp
    have e := g n #[]
    rw [Int.toNat_natCast, e]
    unfold st
    simp
theorem mulOk_st {l : List Nat} {n : Nat} (h : n ≤ 1000) (hl : l.length ≤ 1000) : MulOk (st l) (n : Int) := by
  refine ⟨?_, fun h1 _ => ?_, fun _ _ => ?_⟩
  · simp; omega
  · rw [st_len]
    have : (9223372036854775807 : Int) / n ≥ 1000000000 := by
      apply Int.le_ediv_of_mul_le (by omega)
      omega
    have e : (2 : Int) ^ 63 - 1 = 9223372036854775807 := by decide
    rw [e]
    omega
  · unfold Builtin.Str.tooLong
    rw [st_len, Int.toNat_natCast]
    have : l.length * n ≤ 1000 * 1000 := Nat.mul_le_mul hl h
    simp [sizeLine]
    omega
end Dv
namespace Dv
open PySem PySem.Spec PyProof.Rows L2
theorem nil_st : (Str.ofString "") = st [] := by decide +kernel
theorem join_ok {ls : List (List Nat)} (h : ls.flatten.length ≤ 16777216) : dMe .join (.str (Str.ofString "")) [.lst (ls.map fun l => .str (st l))] = .ok (.val (.str (st ls.flatten))) := by
  rw [nil_st]
  show (Rs.of (strsD (ls.map fun l => .str (st l)))).bind _ = _
  rw [strs_st]
  show need _ _ = _
  have e : ((ls.map st).map (·.length)).sum = ls.flatten.length := by
    rw [List.map_map, List.length_flatten]
    rfl
  rw [need_true (by rw [e, st_len]; simpa using h), join_st]
end Dv
namespace Dv
open PySem PySem.Spec PyProof.Rows L2
/-- a for loop that ends by itself -/
theorem for_ok {F : Fn} {N : Nat} {tg : Tg} {it : Ie} {b : Sxs} {ρ ρ1 ρ' : Env'} {l : List D} {p : P} (hi : evi F it ρ = .ok ((l, p), ρ1)) (h : forR (fun d ρ1 => (asgT tg d ρ1).bind (exs F N b)) l (lockP p ρ1).2 = .ok (.nx, ρ')) :
    ex F N (.for_ tg it b) ρ = (unlock (lockP p ρ1).1 ρ').bind fun ρ => .ok (.nx, ρ) := by
  rw [r_ex_for_, hi]
  show (forR _ _ _).bind _ = _
  rw [h]
  rfl
end Dv

set_option Elab.async false
set_option linter.all false
set_option maxRecDepth 100000
set_option maxHeartbeats 1000000
namespace Dv
open PySem PySem.Spec PyProof.Rows L2

/-! ### plain data -/
def nice : Nat → D → Prop
  | 0, d => match d with | .non => True | .int _ => True | .str x => PyData.strOk x = true | _ => False
  | k + 1, d => match d with | .non => True | .int _ => True | .str x => PyData.strOk x = true | .tup l => ∀ e ∈ l, nice k e | .lst l => ∀ e ∈ l, nice k e | _ => False
@[simp] theorem nice_int {k : Nat} {i : Int} : nice k (.int i) := by cases k <;> trivial
@[simp] theorem nice_non {k : Nat} : nice k .non := by cases k <;> trivial
theorem nice_str {k : Nat} {x : Str} (h : PyData.strOk x = true) : nice k (.str x) := by cases k <;> exact h
@[simp] theorem nice_tup {k : Nat} {l : List D} : nice (k + 1) (.tup l) ↔ ∀ e ∈ l, nice k e := Iff.rfl
@[simp] theorem nice_lst {k : Nat} {l : List D} : nice (k + 1) (.lst l) ↔ ∀ e ∈ l, nice k e := Iff.rfl
theorem nice_up : ∀ {k : Nat} {d : D}, nice k d → nice (k + 1) d
  | 0, d, h => by
    cases d <;> first | trivial | exact h | exact h.elim
  | k + 1, d, h => by
    cases d <;> first | trivial | exact h | exact h.elim | (intro e he; exact nice_up (h e he))
theorem canLayAll_map {l : List PyData} (h : ∀ d ∈ l, d.canLay0 = true) : PyData.canLayAll0 l = true := by
  induction l with
  | nil => rfl
  | cons a t ih =>
    rw [PyData.canLayAll0, h a List.mem_cons_self, ih fun d hd => h d (List.mem_cons_of_mem _ hd)]
    rfl
theorem depthAll_map {l : List PyData} {k : Nat} (h : ∀ d ∈ l, d.depth ≤ k) : PyData.depthAll l ≤ k := by
  induction l with
  | nil => exact Nat.zero_le _
  | cons a t ih =>
    rw [PyData.depthAll]
    exact Nat.max_le.mpr ⟨h a List.mem_cons_self, ih fun d hd => h d (List.mem_cons_of_mem _ hd)⟩
theorem nice_lay : ∀ {k : Nat} {d : D}, nice k d → (toPy d).canLay0 = true ∧ (toPy d).depth ≤ k
  | 0, d, h => by
    cases d with
    | non => exact ⟨rfl, Nat.le_refl 0⟩
    | int i => exact ⟨rfl, Nat.le_refl 0⟩
    | str x => exact ⟨h, Nat.le_refl 0⟩
    | _ => exact h.elim
  | k + 1, d, h => by
    have key : ∀ l : List D, (∀ e ∈ l, nice k e) → PyData.canLayAll0 (toPys l) = true ∧ PyData.depthAll (toPys l) ≤ k := fun l hl => by
      rw [toPys_map]
      refine ⟨canLayAll_map fun d hd => ?_, depthAll_map fun d hd => ?_⟩
      all_goals
        obtain ⟨e, he, rfl⟩ := List.mem_map.mp hd
      · exact (nice_lay (hl e he)).1
      · exact (nice_lay (hl e he)).2
    cases d with
    | non => exact ⟨rfl, Nat.zero_le _⟩
    | int i => exact ⟨rfl, Nat.zero_le _⟩
    | str x => exact ⟨h, Nat.zero_le _⟩
    | tup l => exact ⟨(key l h).1, Nat.succ_le_succ (key l h).2⟩
    | lst l => exact ⟨(key l h).1, Nat.succ_le_succ (key l h).2⟩
    | _ => exact h.elim
theorem nice_shp {k : Nat} {d : D} (h : nice k d) (hk : k ≤ 64) : shp d = true := by
  obtain ⟨h1, h2⟩ := nice_lay h
  show SeqAt.shaped (toPy d) = true
  unfold SeqAt.shaped
  rw [h1, Bool.true_and]
  exact decide_eq_true (Nat.le_trans h2 hk)
theorem nice_eq : ∀ {k : Nat} {d e : D}, nice k d → nice k e → (PyData.eqv (toPy d) (toPy e) = true ↔ d = e) := by
  have key : ∀ {k : Nat}, (∀ {d e : D}, nice k d → nice k e → (PyData.eqv (toPy d) (toPy e) = true ↔ d = e)) → ∀ l m : List D, (∀ e ∈ l, nice k e) → (∀ e ∈ m, nice k e) → (PyData.eqvAll (toPys l) (toPys m) = true ↔ l = m) := by
    intro k ih l
    induction l with
    | nil =>
      intro m _ _
      cases m with
      | nil => simp [toPys, PyData.eqvAll]
      | cons b m => simp [toPys, PyData.eqvAll]
    | cons a l il =>
      intro m hl hm
      cases m with
      | nil => simp [toPys, PyData.eqvAll]
      | cons b m =>
        rw [toPys, toPys, PyData.eqvAll, Bool.and_eq_true, ih (hl a List.mem_cons_self) (hm b List.mem_cons_self), il m (fun d hd => hl d (List.mem_cons_of_mem _ hd)) (fun d hd => hm d (List.mem_cons_of_mem _ hd)), List.cons.injEq]
  intro k
  induction k with
  | zero =>
    intro d e hd he
    cases d <;> first | exact hd.elim | (cases e <;> first | exact he.elim | simp [toPy, PyData.eqv])
  | succ k ih =>
    intro d e hd he
    cases d <;> first | exact hd.elim | (cases e <;> first | exact he.elim | (rename_i l m; rw [toPy, toPy, PyData.eqv, key ih l m hd he]; simp) | simp [toPy, PyData.eqv])
noncomputable instance : DecidableEq D := fun _ _ => Classical.propDecidable _
theorem deq_nice {k : Nat} {d e : D} (h1 : nice k d) (h2 : nice k e) : deq d e = decide (d = e) := by
  by_cases h : d = e
  · rw [decide_eq_true h]
    exact (nice_eq h1 h2).mpr h
  · rw [decide_eq_false h]
    cases hb : deq d e with
    | false => rfl
    | true => exact absurd ((nice_eq h1 h2).mp hb) h
theorem eq_nice {k : Nat} {d e : D} (h1 : nice k d) (h2 : nice k e) (hk : k ≤ 64) : dCmp .Eq d e = .ok (decide (d = e)) := by
  rw [c36_dCmp, need_true ⟨nice_shp h1 hk, nice_shp h2 hk⟩, deq_nice h1 h2]
theorem ne_nice {k : Nat} {d e : D} (h1 : nice k d) (h2 : nice k e) (hk : k ≤ 64) : dCmp .NotEq d e = .ok (!decide (d = e)) := by
  rw [c37_dCmp, need_true ⟨nice_shp h1 hk, nice_shp h2 hk⟩, deq_nice h1 h2]

/-! ### amounts -/
def oB : Nat := 2 ^ 4000
def oC : Nat := 2 ^ 8002
theorem lt_oB {n : Nat} (h : n < 2 ^ 2000) : n < oB := Nat.lt_of_lt_of_le h (Nat.pow_le_pow_right (by decide) (by decide))
theorem oB_oC : oB * oB + oB * oB < oC := by
  have e : oB * oB = 2 ^ 8000 := by unfold oB; rw [← Nat.pow_add]
  have e2 : oC = 2 ^ 8000 * 2 ^ 2 := by unfold oC; rw [← Nat.pow_add]
  have h : 0 < 2 ^ 8000 := Nat.two_pow_pos _
  rw [e, e2]
  generalize 2 ^ 8000 = x at *
  omega
theorem oB_pos : 0 < oB := Nat.two_pow_pos _
/-- an amount -/
def am (q : Rat) : D := .tup [.int q.num, .int (q.den : Nat)]
theorem am_inj {p q : Rat} : am p = am q ↔ p = q := by
  refine ⟨fun h => ?_, fun h => by rw [h]⟩
  unfold am at h
  injection h with h
  injection h with h1 h2
  injection h2 with h2 _
  injection h1 with h1
  injection h2 with h2
  exact Rat.ext h1 (by omega)
@[simp] theorem am_eq {p q : Rat} : (am p = am q) = (p = q) := propext am_inj
@[simp] theorem am0 : D.tup [.int 0, .int 1] = am 0 := rfl
@[simp] theorem am1 : D.tup [.int 1, .int 1] = am 1 := rfl
theorem am_int (i : Int) : D.tup [.int i, .int 1] = am (i : Rat) := rfl
@[simp] theorem am_i0 {q : Rat} : dIdx (am q) (.int 0) = .ok (.int q.num) := rfl
@[simp] theorem am_i1 {q : Rat} : dIdx (am q) (.int 1) = .ok (.int (q.den : Nat)) := by
  unfold am
  simp
@[simp] theorem nice_am {k : Nat} {q : Rat} : nice (k + 1) (am q) := by
  intro e he
  simp at he
  rcases he with rfl | rfl <;> exact nice_int
@[simp] theorem am_not_non {q : Rat} : ¬ (am q = .non) := by intro h; unfold am at h; cases h
/-- an amount of which the program may do sums -/
def Ok (q : Rat) : Prop := q.num.natAbs < oB ∧ q.den < oB
theorem mulX_B {i j : Int} (h1 : i.natAbs < oB) (h2 : j.natAbs < oB) : CMulX i j := by
  have a := bits_lt (k := 4000) h1
  have b := bits_lt (k := 4000) h2
  unfold CMulX
  omega
theorem mul_B {i j : Int} (h1 : i.natAbs < oB) (h2 : j.natAbs < oB) : (i * j).natAbs ≤ oB * oB := by
  rw [Int.natAbs_mul]
  exact Nat.mul_le_mul (Nat.le_of_lt h1) (Nat.le_of_lt h2)
theorem dvX {i j : Int} (h0 : j ≠ 0) (h : j.natAbs < oC) : CDvX i j := by
  refine ⟨h0, PyProof.noPylong_of_log2 ?_⟩
  have : j.natAbs.log2 < 8002 := (Nat.log2_lt (by omega)).mpr h
  omega
theorem red_pos {n d : Int} (hd : 0 < d) : n.fdiv ((Nat.gcd n.natAbs d.natAbs : Nat) : Int) = (Rat.divInt n d).num ∧ d.fdiv ((Nat.gcd n.natAbs d.natAbs : Nat) : Int) = ((Rat.divInt n d).den : Int) := by
  rw [Rat.num_divInt, Rat.den_divInt, if_neg (by omega), Int.sign_eq_one_of_pos hd, Int.one_mul]
  have e : Int.gcd d n = Nat.gcd n.natAbs d.natAbs := Nat.gcd_comm _ _
  rw [e]
  refine ⟨Int.fdiv_eq_ediv_of_nonneg _ (by omega), ?_⟩
  rw [Int.fdiv_eq_ediv_of_nonneg _ (by omega), Int.natCast_ediv]
  congr 1
  omega
theorem red_neg {n d : Int} (hd : d < 0) : n.fdiv (-((Nat.gcd n.natAbs d.natAbs : Nat) : Int)) = (Rat.divInt n d).num ∧ d.fdiv (-((Nat.gcd n.natAbs d.natAbs : Nat) : Int)) = ((Rat.divInt n d).den : Int) := by
  have h := red_pos (n := -n) (d := -d) (by omega)
  rw [Int.natAbs_neg, Int.natAbs_neg, Rat.neg_divInt_neg] at h
  rw [← h.1, ← h.2]
  refine ⟨?_, ?_⟩
  · rw [← Int.neg_fdiv_neg, Int.neg_neg]
  · rw [← Int.neg_fdiv_neg, Int.neg_neg]
theorem gcd_lt {n d : Int} (h0 : d ≠ 0) (h : d.natAbs < oC) : ((Nat.gcd n.natAbs d.natAbs : Nat) : Int).natAbs < oC ∧ 0 < Nat.gcd n.natAbs d.natAbs := by
  have h1 : Nat.gcd n.natAbs d.natAbs ≤ d.natAbs := Nat.gcd_le_right _ (by omega)
  refine ⟨by omega, Nat.gcd_pos_of_pos_right _ (by omega)⟩

/-! the law's own -/
def bGcdB : Sxs := (.cons 
    (.par 2 3 (.var 3) (.bin .Mod (.blt .int (.cons (.var 2) .nil)) (.var 3))) .nil)
def bGcdS : Sx := (.whl (.cmp .Gt (.var 3) (.cst (.int 0))) bGcdB)
def bGcd : Sxs := (.cons 
    (.set 2 (.blt .abs (.cons (.var 0) .nil))) (.cons 
    (.set 3 (.blt .abs (.cons (.var 1) .nil))) (.cons 
    bGcdS (.cons 
    (.ret (.var 2)) .nil))))
def bAmount : Sxs := (.cons 
    (.set 2 (.call "_law_gcd" (.cons (.var 0) (.cons (.var 1) .nil)))) (.cons 
    (.ite (.cmp .Lt (.var 1) (.cst (.int 0))) (.cons 
    (.set 2 (.neg (.var 2))) .nil) .nil) (.cons 
    (.ret (.tup (.cons (.bin .FloorDiv (.var 0) (.var 2)) (.cons (.bin .FloorDiv (.var 1) (.var 2)) .nil)))) .nil)))
def bLPlus : Sxs := (.cons 
    (.ret (.call "_law_amount" (.cons (.bin .Add (.bin .Mult (.idx (.var 0) (.cst (.int 0))) (.idx (.var 1) (.cst (.int 1)))) (.bin .Mult (.idx (.var 1) (.cst (.int 0))) (.idx (.var 0) (.cst (.int 1))))) (.cons (.bin .Mult (.idx (.var 0) (.cst (.int 1))) (.idx (.var 1) (.cst (.int 1)))) .nil)))) .nil)
def bLMinus : Sxs := (.cons 
    (.ret (.call "_law_amount" (.cons (.bin .Sub (.bin .Mult (.idx (.var 0) (.cst (.int 0))) (.idx (.var 1) (.cst (.int 1)))) (.bin .Mult (.idx (.var 1) (.cst (.int 0))) (.idx (.var 0) (.cst (.int 1))))) (.cons (.bin .Mult (.idx (.var 0) (.cst (.int 1))) (.idx (.var 1) (.cst (.int 1)))) .nil)))) .nil)
def bLTimes : Sxs := (.cons 
    (.ret (.call "_law_amount" (.cons (.bin .Mult (.idx (.var 0) (.cst (.int 0))) (.idx (.var 1) (.cst (.int 0)))) (.cons (.bin .Mult (.idx (.var 0) (.cst (.int 1))) (.idx (.var 1) (.cst (.int 1)))) .nil)))) .nil)
/-- also the program's is_less -/
def bLess : Sxs := (.cons 
    (.ret (.cmp .Lt (.bin .Mult (.idx (.var 0) (.cst (.int 0))) (.idx (.var 1) (.cst (.int 1)))) (.bin .Mult (.idx (.var 1) (.cst (.int 0))) (.idx (.var 0) (.cst (.int 1)))))) .nil)
theorem gcd_loop {F : Fn} {M : Nat} {a b : Option S} : ∀ (N x y : Nat), y < N → whileR (evT F (.cmp .Gt (.var 3) (.cst (.int 0)))) (exs F M bGcdB) N [a, b, some (.val (.int (x : Nat))), some (.val (.int (y : Nat)))] =
    .ok (.nx, [a, b, some (.val (.int ((Nat.gcd x y : Nat) : Int))), some (.val (.int 0))])
  | 0, _, _, h => by omega
  | N + 1, x, y, h => by
    show (evT F _ _).bind _ = _
    by_cases hy : y = 0
    · subst hy
      simp
    · have hp : 0 < y := by omega
      have eb : exs F M bGcdB [a, b, some (.val (.int (x : Nat))), some (.val (.int (y : Nat)))] = .ok (.nx, [a, b, some (.val (.int (y : Nat))), some (.val (.int ((x % y : Nat) : Int)))]) := by
        have e : (x : Int).fmod (y : Int) = ((x % y : Nat) : Int) := by
          rw [Int.fmod_eq_emod_of_nonneg _ (by omega)]
          rfl
        rw [← e]
        simp [bGcdB, hy]
      have ih := gcd_loop (F := F) (M := M) (a := a) (b := b) N y (x % y) (by have := Nat.mod_lt x (Nat.pos_of_ne_zero hy); omega)
      have g : Nat.gcd y (x % y) = Nat.gcd x y := by rw [Nat.gcd_comm, ← Nat.gcd_rec, Nat.gcd_comm]
      rw [g] at ih
      simp only [r_evT_cmp, r_ev_var, evVar_d, List.getElem?_cons_succ, List.getElem?_cons_zero, c1_gVar, r_bind_ok, r_ev_cst, pk_val, c40_dCmp, decide_eq_true (show (0 : Int) < (y : Int) by omega), eb, ih]
theorem gcd_run {F : Fn} {M : Nat} {a b : Int} (h : b.natAbs < M) : runDef F M 4 bGcd [.val (.int a), .val (.int b)] = .ok (.val (.int ((Nat.gcd a.natAbs b.natAbs : Nat) : Int)), [.val (.int a), .val (.int b)]) := by
  have ab : ∀ x : Int, (if x < 0 then -x else x) = (x.natAbs : Int) := fun x => by split <;> omega
  have e := gcd_loop (F := F) (M := M) (a := some (.val (.int a))) (b := some (.val (.int b))) M a.natAbs b.natAbs h
  simp [bGcd, Dv.envOf, ab, bGcdS, e]
def AmountS (c : List A → Rs (Re × List A)) : Prop := ∀ n d : Int, d ≠ 0 → d.natAbs < oC → c [.val (.int n), .val (.int d)] = .ok (.val (am (Rat.divInt n d)), [.val (.int n), .val (.int d)])
theorem amount_run {F : Fn} {M : Nat} (hg : ∀ n d : Int, d.natAbs < oC → F.call "_law_gcd" [.val (.int n), .val (.int d)] = .ok (.val (.int ((Nat.gcd n.natAbs d.natAbs : Nat) : Int)), [.val (.int n), .val (.int d)])) (hdfl : ∀ n, F.dfl "_law_gcd" n = []) : AmountS (runDef F M 3 bAmount) := fun n d h0 h => by
  obtain ⟨g1, g2⟩ := gcd_lt (n := n) h0 h
  have hg := hg n d h
  have k2 : 2 ≤ sizeLine := by decide
  unfold am
  by_cases hd : d < 0
  · obtain ⟨r1, r2⟩ := red_neg (n := n) hd
    generalize Nat.gcd n.natAbs d.natAbs = g at *
    have dv : ∀ i, CDvX i (-(g : Int)) := fun i => dvX (by omega) (by omega)
    simp [bAmount, Dv.envOf, hdfl, hg, hd, dv, r1, r2, k2]
  · obtain ⟨r1, r2⟩ := red_pos (n := n) (d := d) (by omega)
    generalize Nat.gcd n.natAbs d.natAbs = g at *
    have dv : ∀ i, CDvX i (g : Int) := fun i => dvX (by omega) (by omega)
    simp [bAmount, Dv.envOf, hdfl, hg, hd, dv, r1, r2, k2]
def BinS (f : Rat → Rat → Rat) (c : List A → Rs (Re × List A)) : Prop := ∀ a b : Rat, Ok a → Ok b → c [.val (am a), .val (am b)] = .ok (.val (am (f a b)), [.val (am a), .val (am b)])
theorem den_lt {a b : Rat} (ha : Ok a) (hb : Ok b) : ((a.den : Int) * (b.den : Int)).natAbs < oC ∧ (a.den : Int) * (b.den : Int) ≠ 0 ∧ CMulX a.num b.den ∧ CMulX b.num a.den ∧ CMulX a.den b.den ∧ CMulX a.num b.num := by
  have h1 : (a.den : Int).natAbs < oB := ha.2
  have h2 : (b.den : Int).natAbs < oB := hb.2
  have h3 := mul_B h1 h2
  have h4 := oB_oC
  have p1 := a.den_pos
  have p2 := b.den_pos
  exact ⟨by omega, Int.ne_of_gt (Int.mul_pos (by omega) (by omega)), mulX_B ha.1 h2, mulX_B hb.1 h1, mulX_B h1 h2, mulX_B ha.1 hb.1⟩
theorem add_divInt (a b : Rat) : a + b = Rat.divInt (a.num * b.den + b.num * a.den) ((a.den : Int) * b.den) := by
  rw [Rat.add_def', ← Int.natCast_mul, Rat.divInt_ofNat]
theorem sub_divInt (a b : Rat) : a - b = Rat.divInt (a.num * b.den - b.num * a.den) ((a.den : Int) * b.den) := by
  rw [Rat.sub_def', ← Int.natCast_mul, Rat.divInt_ofNat]
theorem mul_divInt (a b : Rat) : a * b = Rat.divInt (a.num * b.num) ((a.den : Int) * b.den) := by
  rw [Rat.mul_def', ← Int.natCast_mul, Rat.divInt_ofNat]
section
variable {F : Fn} {M : Nat}
theorem lplus_run (hA : AmountS (F.call "_law_amount")) (hdfl : ∀ n, F.dfl "_law_amount" n = []) : BinS (· + ·) (runDef F M 2 bLPlus) := fun a b ha hb => by
  obtain ⟨h1, h2, m1, m2, m3, m4⟩ := den_lt ha hb
  have e := hA (a.num * b.den + b.num * a.den) (a.den * b.den) h2 h1
  rw [← add_divInt] at e
  simp [bLPlus, Dv.envOf, hdfl, m1, m2, m3, e]
theorem lminus_run (hA : AmountS (F.call "_law_amount")) (hdfl : ∀ n, F.dfl "_law_amount" n = []) : BinS (· - ·) (runDef F M 2 bLMinus) := fun a b ha hb => by
  obtain ⟨h1, h2, m1, m2, m3, m4⟩ := den_lt ha hb
  have e := hA (a.num * b.den - b.num * a.den) (a.den * b.den) h2 h1
  rw [← sub_divInt] at e
  simp [bLMinus, Dv.envOf, hdfl, m1, m2, m3, e]
theorem ltimes_run (hA : AmountS (F.call "_law_amount")) (hdfl : ∀ n, F.dfl "_law_amount" n = []) : BinS (· * ·) (runDef F M 2 bLTimes) := fun a b ha hb => by
  obtain ⟨h1, h2, m1, m2, m3, m4⟩ := den_lt ha hb
  have e := hA (a.num * b.num) (a.den * b.den) h2 h1
  rw [← mul_divInt] at e
  simp [bLTimes, Dv.envOf, hdfl, m3, m4, e]
def LessS (c : List A → Rs (Re × List A)) : Prop := ∀ a b : Rat, Ok a → Ok b → c [.val (am a), .val (am b)] = .ok (.val (.bl (decide (a < b))), [.val (am a), .val (am b)])
theorem less_run : LessS (runDef F M 2 bLess) := fun a b ha hb => by
  obtain ⟨h1, h2, m1, m2, m3, m4⟩ := den_lt ha hb
  simp [bLess, Dv.envOf, m1, m2, Rat.lt_iff]
end

/-! the program's -/
def bReduced : Sxs := (.cons 
    (.ite (.cmp .Eq (.var 1) (.cst (.int 1))) (.cons 
    (.ret (.tup (.cons (.var 0) (.cons (.cst (.int 1)) .nil)))) .nil) .nil) (.cons 
    (.set 2 (.blt .gcd (.cons (.var 0) (.cons (.var 1) .nil)))) (.cons 
    (.ret (.tup (.cons (.bin .FloorDiv (.var 0) (.var 2)) (.cons (.bin .FloorDiv (.var 1) (.var 2)) .nil)))) .nil)))
def bPlus : Sxs := (.cons 
    (.ite (.cmp .Eq (.idx (.var 0) (.cst (.int 1))) (.idx (.var 1) (.cst (.int 1)))) (.cons 
    (.ret (.call "reduced" (.cons (.bin .Add (.idx (.var 0) (.cst (.int 0))) (.idx (.var 1) (.cst (.int 0)))) (.cons (.idx (.var 0) (.cst (.int 1))) .nil)))) .nil) .nil) (.cons 
    (.ret (.call "reduced" (.cons (.bin .Add (.bin .Mult (.idx (.var 0) (.cst (.int 0))) (.idx (.var 1) (.cst (.int 1)))) (.bin .Mult (.idx (.var 1) (.cst (.int 0))) (.idx (.var 0) (.cst (.int 1))))) (.cons (.bin .Mult (.idx (.var 0) (.cst (.int 1))) (.idx (.var 1) (.cst (.int 1)))) .nil)))) .nil))
def bMinus : Sxs := (.cons 
    (.ite (.cmp .Eq (.idx (.var 0) (.cst (.int 1))) (.idx (.var 1) (.cst (.int 1)))) (.cons 
    (.ret (.call "reduced" (.cons (.bin .Sub (.idx (.var 0) (.cst (.int 0))) (.idx (.var 1) (.cst (.int 0)))) (.cons (.idx (.var 0) (.cst (.int 1))) .nil)))) .nil) .nil) (.cons 
    (.ret (.call "reduced" (.cons (.bin .Sub (.bin .Mult (.idx (.var 0) (.cst (.int 0))) (.idx (.var 1) (.cst (.int 1)))) (.bin .Mult (.idx (.var 1) (.cst (.int 0))) (.idx (.var 0) (.cst (.int 1))))) (.cons (.bin .Mult (.idx (.var 0) (.cst (.int 1))) (.idx (.var 1) (.cst (.int 1)))) .nil)))) .nil))
def bTimes : Sxs := (.cons 
    (.ret (.call "reduced" (.cons (.bin .Mult (.idx (.var 0) (.cst (.int 0))) (.idx (.var 1) (.cst (.int 0)))) (.cons (.bin .Mult (.idx (.var 0) (.cst (.int 1))) (.idx (.var 1) (.cst (.int 1)))) .nil)))) .nil)
def bSign : Sxs := (.cons 
    (.ite (.cmp .Lt (.idx (.var 0) (.cst (.int 0))) (.cst (.int 0))) (.cons 
    (.ret (.neg (.cst (.int 1)))) .nil) .nil) (.cons 
    (.ite (.cmp .Gt (.idx (.var 0) (.cst (.int 0))) (.cst (.int 0))) (.cons 
    (.ret (.cst (.int 1))) .nil) .nil) (.cons 
    (.ret (.cst (.int 0))) .nil)))
section
variable {F : Fn} {M : Nat}
def RedS (c : List A → Rs (Re × List A)) : Prop := ∀ n d : Int, 0 < d → d.natAbs < oC → c [.val (.int n), .val (.int d)] = .ok (.val (am (Rat.divInt n d)), [.val (.int n), .val (.int d)])
theorem divInt_one (n : Int) : Rat.divInt n 1 = (n : Rat) := by
  rw [Rat.divInt_eq_div]
  grind
theorem reduced_run : RedS (runDef F M 3 bReduced) := fun n d h0 h => by
  have k2 : 2 ≤ sizeLine := by decide
  have eq1 := eq_nice (k := 0) (d := .int d) (e := .int 1) nice_int nice_int (by decide)
  by_cases h1 : d = 1
  · subst h1
    rw [divInt_one]
    simp [bReduced, Dv.envOf, -c36_dCmp, eq1, k2, am_int]
  · obtain ⟨r1, r2⟩ := red_pos (n := n) (d := d) h0
    obtain ⟨g1, g2⟩ := gcd_lt (n := n) (d := d) (by omega) h
    unfold am
    have dv : ∀ i, CDvX i ((Nat.gcd n.natAbs d.natAbs : Nat) : Int) := fun i => dvX (by omega) (by omega)
    have ne : ¬ (D.int d = D.int 1) := fun e => h1 (by injection e)
    simp only [decide_eq_false ne] at eq1
    simp [bReduced, Dv.envOf, -c36_dCmp, eq1, k2, dv, r1, r2]
theorem same_den {a b : Rat} (h : (a.den : Int) = b.den) : Rat.divInt (a.num + b.num) a.den = a + b ∧ Rat.divInt (a.num - b.num) a.den = a - b := by
  have ea := Rat.num_divInt_den a
  have eb := Rat.num_divInt_den b
  have hz : (a.den : Int) ≠ 0 := by have := a.den_pos; omega
  have hq : ((a.den : Int) : Rat) ≠ 0 := fun e => hz (Rat.intCast_eq_zero_iff.mp e)
  rw [← h] at eb
  rw [Rat.divInt_eq_div] at ea eb ⊢
  rw [Rat.divInt_eq_div, Rat.intCast_add, Rat.intCast_sub]
  constructor <;> grind
theorem plus_run (hR : RedS (F.call "reduced")) (hdfl : ∀ n, F.dfl "reduced" n = []) : BinS (· + ·) (runDef F M 2 bPlus) := fun a b ha hb => by
  obtain ⟨h1, h2, m1, m2, m3, m4⟩ := den_lt ha hb
  have p1 := a.den_pos
  have p2 := b.den_pos
  have eq1 := eq_nice (k := 0) (d := .int (a.den : Int)) (e := .int (b.den : Int)) nice_int nice_int (by decide)
  by_cases hs : (a.den : Int) = b.den
  · have hl : a.den < oB := ha.2
    have hx := oB_oC
    have hy : oB ≤ oB * oB := Nat.le_mul_of_pos_left _ oB_pos
    have e := hR (a.num + b.num) a.den (by omega) (by omega)
    rw [(same_den hs).1] at e
    simp only [decide_eq_true (congrArg D.int hs)] at eq1
    simp [bPlus, Dv.envOf, -c36_dCmp, eq1, hdfl, e]
  · have e := hR (a.num * b.den + b.num * a.den) (a.den * b.den) (by have := Int.mul_pos (a := a.den) (b := b.den) (by omega) (by omega); omega) h1
    rw [← add_divInt] at e
    have ne : ¬ (D.int (a.den : Int) = D.int (b.den : Int)) := fun e => hs (by injection e)
    simp only [decide_eq_false ne] at eq1
    simp [bPlus, Dv.envOf, -c36_dCmp, eq1, hdfl, m1, m2, m3, e]
theorem minus_run (hR : RedS (F.call "reduced")) (hdfl : ∀ n, F.dfl "reduced" n = []) : BinS (· - ·) (runDef F M 2 bMinus) := fun a b ha hb => by
  obtain ⟨h1, h2, m1, m2, m3, m4⟩ := den_lt ha hb
  have p1 := a.den_pos
  have p2 := b.den_pos
  have eq1 := eq_nice (k := 0) (d := .int (a.den : Int)) (e := .int (b.den : Int)) nice_int nice_int (by decide)
  by_cases hs : (a.den : Int) = b.den
  · have hl : a.den < oB := ha.2
    have hx := oB_oC
    have hy : oB ≤ oB * oB := Nat.le_mul_of_pos_left _ oB_pos
    have e := hR (a.num - b.num) a.den (by omega) (by omega)
    rw [(same_den hs).2] at e
    simp only [decide_eq_true (congrArg D.int hs)] at eq1
    simp [bMinus, Dv.envOf, -c36_dCmp, eq1, hdfl, e]
  · have e := hR (a.num * b.den - b.num * a.den) (a.den * b.den) (by have := Int.mul_pos (a := a.den) (b := b.den) (by omega) (by omega); omega) h1
    rw [← sub_divInt] at e
    have ne : ¬ (D.int (a.den : Int) = D.int (b.den : Int)) := fun e => hs (by injection e)
    simp only [decide_eq_false ne] at eq1
    simp [bMinus, Dv.envOf, -c36_dCmp, eq1, hdfl, m1, m2, m3, e]
theorem times_run (hR : RedS (F.call "reduced")) (hdfl : ∀ n, F.dfl "reduced" n = []) : BinS (· * ·) (runDef F M 2 bTimes) := fun a b ha hb => by
  obtain ⟨h1, h2, m1, m2, m3, m4⟩ := den_lt ha hb
  have p1 := a.den_pos
  have p2 := b.den_pos
  have e := hR (a.num * b.num) (a.den * b.den) (by have := Int.mul_pos (a := a.den) (b := b.den) (by omega) (by omega); omega) h1
  rw [← mul_divInt] at e
  simp [bTimes, Dv.envOf, hdfl, m3, m4, e]
theorem sign_run (a : Rat) : runDef F M 1 bSign [.val (am a)] = .ok (.val (.int (if a < 0 then -1 else if 0 < a then 1 else 0)), [.val (am a)]) := by
  have e1 : a < 0 ↔ a.num < 0 := by rw [Rat.lt_iff]; simp
  have e2 : 0 < a ↔ 0 < a.num := by rw [Rat.lt_iff]; simp
  by_cases h1 : a.num < 0
  · simp [bSign, Dv.envOf, h1, e1]
  · by_cases h2 : 0 < a.num
    · simp [bSign, Dv.envOf, h1, e1, h2, e2]
    · simp [bSign, Dv.envOf, h1, e1, h2, e2]
end
end Dv

set_option Elab.async false
set_option linter.all false
set_option maxRecDepth 100000
set_option maxHeartbeats 1000000
set_option exponentiation.threshold 20
namespace Dv
open PySem PySem.Spec PyProof.Rows L2

/-! ### sizes of amounts -/
/-- n bits above, n bits below -/
def K (n : Nat) (q : Rat) : Prop := q.num.natAbs < 2 ^ n ∧ q.den < 2 ^ n
theorem K.ok {n : Nat} {q : Rat} (h : K n q) (hn : n ≤ 4000) : Ok q := ⟨Nat.lt_of_lt_of_le h.1 (Nat.pow_le_pow_right (by decide) hn), Nat.lt_of_lt_of_le h.2 (Nat.pow_le_pow_right (by decide) hn)⟩
theorem K.mono {n m : Nat} {q : Rat} (h : K n q) (hn : n ≤ m) : K m q := ⟨Nat.lt_of_lt_of_le h.1 (Nat.pow_le_pow_right (by decide) hn), Nat.lt_of_lt_of_le h.2 (Nat.pow_le_pow_right (by decide) hn)⟩
theorem K.divInt {n d : Int} {k : Nat} (h1 : n.natAbs < 2 ^ k) (h2 : d.natAbs < 2 ^ k) (h3 : 1 ≤ k) : K k (Rat.divInt n d) := by
  refine ⟨?_, ?_⟩
  · rw [Rat.num_divInt, Int.natAbs_ediv_of_dvd]
    · refine Nat.lt_of_le_of_lt (Nat.div_le_self _ _) ?_
      rw [Int.natAbs_mul]
      refine Nat.lt_of_le_of_lt (Nat.mul_le_mul_right _ ?_) (by rw [Nat.one_mul]; exact h1)
      rw [Int.natAbs_sign]
      split <;> omega
    · exact Int.dvd_trans (by rw [Int.gcd_comm]; exact Int.gcd_dvd_left ..) (Int.dvd_mul_left _ _)
  · rw [Rat.den_divInt]
    split
    · exact Nat.one_lt_two_pow (by omega)
    · exact Nat.lt_of_le_of_lt (Nat.div_le_self _ _) h2
theorem two_mul_pow (n : Nat) : 2 ^ n + 2 ^ n = 2 ^ (n + 1) := by rw [Nat.pow_succ]; omega
theorem K.sum {a b : Rat} {n m : Nat} (ha : K n a) (hb : K m b) (s : Int) (hs : s = a.num * b.den + b.num * a.den ∨ s = a.num * b.den - b.num * a.den) : s.natAbs < 2 ^ (n + m + 1) ∧ ((a.den : Int) * b.den).natAbs < 2 ^ (n + m + 1) := by
  have x1 : a.num.natAbs * b.den < 2 ^ n * 2 ^ m := Nat.mul_lt_mul_of_lt_of_le ha.1 (Nat.le_of_lt hb.2) (Nat.two_pow_pos _)
  have x2 : b.num.natAbs * a.den < 2 ^ m * 2 ^ n := Nat.mul_lt_mul_of_lt_of_le hb.1 (Nat.le_of_lt ha.2) (Nat.two_pow_pos _)
  have x3 : a.den * b.den < 2 ^ n * 2 ^ m := Nat.mul_lt_mul_of_lt_of_le ha.2 (Nat.le_of_lt hb.2) (Nat.two_pow_pos _)
  rw [Nat.mul_comm (2 ^ m)] at x2
  rw [← Nat.pow_add] at x1 x2 x3
  rw [← two_mul_pow]
  have y1 : (a.num * b.den).natAbs = a.num.natAbs * b.den := Int.natAbs_mul ..
  have y2 : (b.num * a.den).natAbs = b.num.natAbs * a.den := Int.natAbs_mul ..
  have y3 : ((a.den : Int) * b.den).natAbs = a.den * b.den := Int.natAbs_mul ..
  rw [y3]
  generalize 2 ^ (n + m) = z at *
  generalize a.num * b.den = u at *
  generalize b.num * a.den = v at *
  rcases hs with rfl | rfl <;> omega
theorem K.add {a b : Rat} {n m : Nat} (ha : K n a) (hb : K m b) : K (n + m + 1) (a + b) := by
  rw [add_divInt]
  obtain ⟨h1, h2⟩ := K.sum ha hb _ (.inl rfl)
  exact K.divInt h1 h2 (by omega)
theorem K.sub {a b : Rat} {n m : Nat} (ha : K n a) (hb : K m b) : K (n + m + 1) (a - b) := by
  rw [sub_divInt]
  obtain ⟨h1, h2⟩ := K.sum ha hb _ (.inr rfl)
  exact K.divInt h1 h2 (by omega)
theorem K.mul {a b : Rat} {n m : Nat} (ha : K n a) (hb : K m b) : K (n + m + 1) (a * b) := by
  rw [mul_divInt]
  have x1 : a.num.natAbs * b.num.natAbs < 2 ^ n * 2 ^ m := Nat.mul_lt_mul_of_lt_of_le ha.1 (Nat.le_of_lt hb.1) (Nat.two_pow_pos _)
  rw [← Nat.pow_add] at x1
  obtain ⟨h1, h2⟩ := K.sum ha hb _ (.inl rfl)
  refine K.divInt ?_ h2 (by omega)
  rw [Int.natAbs_mul, ← two_mul_pow]
  omega
theorem K.int {i : Int} {n : Nat} (h : i.natAbs < 2 ^ n) (h1 : 1 ≤ n) : K n (i : Rat) := ⟨h, Nat.one_lt_two_pow (by omega)⟩
theorem K.zero : K 1 0 := K.int (i := 0) (by decide) (by decide)
theorem K.one : K 1 1 := K.int (i := 1) (by decide) (by decide)
/-- a multiple of 1/L, of at most N of them -/
def Bd (L N : Nat) (q : Rat) : Prop := ∃ n : Int, q * (L : Rat) = (n : Rat) ∧ n.natAbs ≤ N
theorem Bd.k {L N k : Nat} {q : Rat} (h : Bd L N q) (h0 : 0 < L) (h1 : L < 2 ^ k) (h2 : N < 2 ^ k) (h3 : 1 ≤ k) : K k q := by
  obtain ⟨n, e, hn⟩ := h
  have hL : (L : Rat) ≠ 0 := by
    intro z
    have := Rat.natCast_eq_zero_iff.mp z
    omega
  have e2 : q = Rat.divInt n (L : Int) := by
    rw [Rat.divInt_eq_div, ← e, Rat.intCast_natCast]
    grind
  rw [e2]
  exact K.divInt (by omega) (by simpa using h1) h3
theorem Bd.mono {L N M : Nat} {q : Rat} (h : Bd L N q) (hn : N ≤ M) : Bd L M q := by
  obtain ⟨n, e, h1⟩ := h
  exact ⟨n, e, by omega⟩
theorem Bd.add {L N M : Nat} {a b : Rat} (ha : Bd L N a) (hb : Bd L M b) : Bd L (N + M) (a + b) := by
  obtain ⟨n, e, h1⟩ := ha
  obtain ⟨m, e2, h2⟩ := hb
  exact ⟨n + m, by rw [Rat.intCast_add, ← e, ← e2]; grind, by omega⟩
theorem Bd.sub {L N M : Nat} {a b : Rat} (ha : Bd L N a) (hb : Bd L M b) : Bd L (N + M) (a - b) := by
  obtain ⟨n, e, h1⟩ := ha
  obtain ⟨m, e2, h2⟩ := hb
  exact ⟨n - m, by rw [Rat.intCast_sub, ← e, ← e2]; grind, by omega⟩
theorem Bd.mul {L N L' M : Nat} {a b : Rat} (ha : Bd L N a) (hb : Bd L' M b) : Bd (L * L') (N * M) (a * b) := by
  obtain ⟨n, e, h1⟩ := ha
  obtain ⟨m, e2, h2⟩ := hb
  refine ⟨n * m, by rw [Rat.intCast_mul, ← e, ← e2, Rat.natCast_mul]; grind, ?_⟩
  rw [Int.natAbs_mul]
  exact Nat.mul_le_mul h1 h2
theorem Bd.lift {L N : Nat} {a : Rat} (c : Nat) (ha : Bd L N a) : Bd (L * c) (N * c) a := by
  obtain ⟨n, e, h1⟩ := ha
  refine ⟨n * c, by rw [Rat.intCast_mul, ← e, Rat.natCast_mul, Rat.intCast_natCast]; grind, ?_⟩
  rw [Int.natAbs_mul]
  exact Nat.mul_le_mul h1 (by simp)
theorem Bd.int {L N : Nat} {i : Int} (h : i.natAbs * L ≤ N) : Bd L N (i : Rat) := ⟨i * L, by rw [Rat.intCast_mul, Rat.intCast_natCast], by rw [Int.natAbs_mul]; simpa using h⟩
theorem Bd.zero {L N : Nat} : Bd L N 0 := ⟨0, by grind, by simp⟩
theorem Bd.divInt {n d : Int} {L N : Nat} (c : Int) (hd : d ≠ 0) (hL : (L : Int) = d * c) (hN : (n * c).natAbs ≤ N) : Bd L N (Rat.divInt n d) := by
  have hq : (d : Rat) ≠ 0 := fun e => hd (Rat.intCast_eq_zero_iff.mp e)
  refine ⟨n * c, ?_, hN⟩
  have e : (L : Rat) = (d : Rat) * (c : Rat) := by rw [← Rat.intCast_mul, ← hL, Rat.intCast_natCast]
  rw [Rat.divInt_eq_div, e, Rat.intCast_mul]
  grind

/-! ### comprehensions -/
noncomputable def turnW (F : Fn) (elt : Ex) (tg : Tg) (ifs : To) (own : List Nat) (d : D) (ρ : Env') : Rs (Option D × Env') := (turnR F elt tg ifs d ρ).bind fun r => .ok (r.1, wipeR r.2 own)
theorem turnW_ok {F : Fn} {elt : Ex} {tg : Tg} {ifs : To} {own : List Nat} {d : D} {ρ ρ2 : Env'} {y : Option D} (h : turnW F elt tg ifs own d ρ = .ok (y, ρ2)) : ∃ ρ', turnR F elt tg ifs d ρ = .ok (y, ρ') ∧ wipeR ρ' own = ρ2 := by
  unfold turnW at h
  cases e : turnR F elt tg ifs d ρ with
  | bad => rw [e] at h; cases h
  | err x => rw [e] at h; cases h
  | ok r =>
    rw [e] at h
    have h : Rs.ok (r.1, wipeR r.2 own) = Rs.ok (y, ρ2) := h
    injection h with h
    injection h with h1 h2
    exact ⟨r.2, by rw [← h1], h2⟩
section
variable {F : Fn} {elt : Ex} {tg : Tg} {it : Ie} {ifs : To} {own : List Nat} {ρ ρ1 ρw : Env'} {p : P} {α β : Type} {xs : List α} {f : α → D}
/-- what a comprehension hands on -/
noncomputable def compEnd (p : P) (ρ1 ρw : Env') (own : List Nat) (out : List D) : Rs (P × Env') := (unlock (lockP p ρ1).1 (backR (lockP p ρ1).2 ρw own)).bind fun ρ' => .ok (.own (.lst out), ρ')
theorem comp_fm {g : α → Option D} (hi : evi F it ρ = .ok ((xs.map f, p), ρ1)) (hw : wipeR (lockP p ρ1).2 own = ρw) (hl : xs.length < sizeLine)
    (step : ∀ x ∈ xs, turnW F elt tg ifs own (f x) ρw = .ok (g x, ρw)) : ev F (.comp elt tg it ifs own) ρ = compEnd p ρ1 ρw own (xs.filterMap g) := by
  obtain ⟨out, ρ2, ⟨h1, h2⟩, e⟩ := comp_gen (F := F) (elt := elt) (tg := tg) (ifs := ifs) (own := own) hi (fun i out ρ => out = (xs.take i).filterMap g ∧ ρ = ρw) (fun i d out ρ ed _ ⟨h1, h2⟩ => by
    rw [List.getElem?_map] at ed
    cases hx : xs[i]? with
    | none => rw [hx] at ed; cases ed
    | some x =>
      rw [hx] at ed
      cases ed
      obtain ⟨ρ', e1, e2⟩ := turnW_ok (step x (List.mem_of_getElem? hx))
      subst h2
      refine ⟨g x, ρ', e1, ?_, e2⟩
      rw [h1, List.take_succ, hx, List.filterMap_append]
      cases hg : g x <;> simp [hg]) ⟨rfl, hw⟩
  rw [List.length_map, List.take_of_length_le (Nat.le_refl _)] at h1
  subst h1 h2
  rw [e]
  exact congrArg _ (funext fun _ => need_true (Nat.lt_of_le_of_lt (List.length_filterMap_le _ _) hl))
theorem comp_map {g : α → D} (hi : evi F it ρ = .ok ((xs.map f, p), ρ1)) (hw : wipeR (lockP p ρ1).2 own = ρw) (hl : xs.length < sizeLine)
    (step : ∀ x ∈ xs, turnW F elt tg ifs own (f x) ρw = .ok (some (g x), ρw)) : ev F (.comp elt tg it ifs own) ρ = compEnd p ρ1 ρw own (xs.map g) := by
  rw [comp_fm (g := fun x => some (g x)) hi hw hl step]
  exact congrArg _ (by induction xs <;> simp_all)
/-- with draws -/
theorem comp_dr {E : D → Env'} {h : β → D} {Q : Nat → β → Prop} {d : D} {n : Nat} (c : Nat) (hi : evi F it ρ = .ok ((xs.map f, p), ρ1)) (hw : wipeR (lockP p ρ1).2 own = E d) (hl : xs.length < sizeLine) (hd : DS n d)
    (step : ∀ i x d, xs[i]? = some x → DS (n + c * i) d → ∃ z d', turnW F elt tg ifs own (f x) (E d) = .ok (some (h z), E d') ∧ Q i z ∧ DS (n + c * i + c) d') :
    ∃ (zs : List β) (d' : D), zs.length = xs.length ∧ (∀ i z, zs[i]? = some z → Q i z) ∧ DS (n + c * xs.length) d' ∧ ev F (.comp elt tg it ifs own) ρ = compEnd p ρ1 (E d') own (zs.map h) := by
  obtain ⟨out, ρ2, ⟨zs, d', h1, h2, h3, h4, h5⟩, e⟩ := comp_gen (F := F) (elt := elt) (tg := tg) (ifs := ifs) (own := own) hi (fun i out ρ => ∃ (zs : List β) (d' : D), out = zs.map h ∧ zs.length = i ∧ (∀ i z, zs[i]? = some z → Q i z) ∧ DS (n + c * i) d' ∧ ρ = E d') (fun i d out ρ ed _ ⟨zs, d', h1, h2, h3, h4, h5⟩ => by
    rw [List.getElem?_map] at ed
    cases hx : xs[i]? with
    | none => rw [hx] at ed; cases ed
    | some x =>
      rw [hx] at ed
      cases ed
      obtain ⟨z, d2, t, q, hd2⟩ := step i x d' hx h4
      obtain ⟨ρ', e1, e2⟩ := turnW_ok t
      subst h5
      refine ⟨some (h z), ρ', e1, zs ++ [z], d2, by rw [h1]; simp, by simp [h2], fun j y hy => ?_, by rw [Nat.mul_succ, ← Nat.add_assoc]; exact hd2, e2⟩
      by_cases hj : j < zs.length
      · rw [List.getElem?_append_left hj] at hy
        exact h3 j y hy
      · rw [List.getElem?_append_right (by omega)] at hy
        have : j - zs.length = 0 := by
          rcases Nat.eq_zero_or_pos (j - zs.length) with k | k
          · exact k
          · rw [List.getElem?_eq_none (by simp; omega)] at hy; cases hy
        rw [this] at hy
        cases hy
        obtain rfl : j = i := by omega
        exact q) ⟨[], d, rfl, rfl, fun i z hz => by simp at hz, hd, hw⟩
  rw [List.length_map] at h2 h4
  subst h1 h5
  refine ⟨zs, d', h2, h3, h4, ?_⟩
  rw [e]
  exact congrArg _ (funext fun _ => need_true (by rw [List.length_map, h2]; exact hl))
end
theorem rng_map {n : Nat} : rng 0 n = (List.range n).map fun k => D.int (k : Nat) := List.map_congr_left fun k _ => by rw [Int.zero_add]
theorem evi_rng {F : Fn} {a : Ex} {ρ ρ' : Env'} {n : Nat} (h : ev F a ρ = .ok (.val (.int (n : Nat)), ρ')) (hn : n < 2 ^ 62) : evi F (.rng a) ρ = .ok (((List.range n).map fun k => D.int (k : Nat), .val .non), ρ') := by
  have : inR (n : Int) := by
    unfold inR
    constructor
    · omega
    · have : ((2 : Int) ^ 62) = ((2 ^ 62 : Nat) : Int) := by push_cast; rfl
      rw [this]
      omega
  rw [r_evi_rng, h]
  show need (inR n) _ = _
  rw [need_true this, Int.toNat_natCast, rng_map]
theorem rng2_map {a n : Nat} (h : a ≤ n) : rng (a : Nat) ((n : Int) - (a : Int)).toNat = (List.range (n - a)).map fun k => D.int ((a + k : Nat) : Int) := by
  have : ((n : Int) - (a : Int)).toNat = n - a := by omega
  rw [this]
  exact List.map_congr_left fun k _ => by push_cast; rfl
theorem evi_seq {F : Fn} {a : Ex} {ρ ρ' : Env'} {p : P} {x : D} {l : List D} (h : ev F a ρ = .ok (p, ρ')) (h2 : pk p ρ' = .ok x) (h3 : items x = .ok l) : evi F (.seq a) ρ = .ok ((l, p), ρ') := by
  rw [r_evi_seq, h]
  show (pk p ρ').bind _ = _
  rw [h2]
  show (items x).bind _ = _
  rw [h3]
  rfl

/-! ### for loops -/
section
variable {F : Fn} {N : Nat} {tg : Tg} {it : Ie} {b : Sxs} {ρ ρ1 ρ' : Env'} {p : P} {α β : Type} {xs : List α} {f : α → D}
noncomputable def turnX (F : Fn) (N : Nat) (tg : Tg) (b : Sxs) (d : D) (ρ : Env') : Rs (Fl × Env') := (asgT tg d ρ).bind (exs F N b)
theorem forR_ct {f : D → Env' → Rs (Fl × Env')} : ∀ {l : List D} {I : Nat → Env' → Prop} {ρ : Env'} {k : Nat},
    (∀ (i : Nat) (d : D) (ρ : Env'), l[i]? = some d → I (k + i) ρ → ∃ ρ', (f d ρ = .ok (.nx, ρ') ∨ f d ρ = .ok (.ct, ρ')) ∧ I (k + i + 1) ρ') → I k ρ → ∃ ρ', forR f l ρ = .ok (.nx, ρ') ∧ I (k + l.length) ρ'
  | [], I, ρ, k, _, h => ⟨ρ, rfl, h⟩
  | d :: l, I, ρ, k, step, h => by
    obtain ⟨ρ1, e1, h1⟩ := step 0 d ρ rfl h
    obtain ⟨ρ2, e2, h2⟩ := forR_ct (l := l) (I := I) (ρ := ρ1) (k := k + 1) (fun i d ρ e hi => by
      have := step (i + 1) d ρ (by simpa using e) (by rw [show k + (i + 1) = k + 1 + i by omega]; exact hi)
      rw [show k + (i + 1) = k + 1 + i by omega] at this
      exact this) h1
    refine ⟨ρ2, ?_, ?_⟩
    · show (f d ρ).bind _ = _
      rcases e1 with e1 | e1 <;> rw [e1] <;> exact e2
    · rw [List.length_cons, show k + (l.length + 1) = k + 1 + l.length by omega]
      exact h2
/-- a loop that ends by itself, by what holds -/
theorem for_st (I : Nat → Env' → Prop) (hi : evi F it ρ = .ok ((xs.map f, p), ρ1)) (h0 : I 0 (lockP p ρ1).2)
    (step : ∀ i x ρ, xs[i]? = some x → I i ρ → ∃ ρ', (turnX F N tg b (f x) ρ = .ok (.nx, ρ') ∨ turnX F N tg b (f x) ρ = .ok (.ct, ρ')) ∧ I (i + 1) ρ') :
    ∃ ρ', I xs.length ρ' ∧ ex F N (.for_ tg it b) ρ = (unlock (lockP p ρ1).1 ρ').bind fun ρ => .ok (.nx, ρ) := by
  obtain ⟨ρ', e, h⟩ := forR_ct (f := turnX F N tg b) (l := xs.map f) (I := I) (k := 0) (ρ := (lockP p ρ1).2) (fun i d ρ ed h => by
    rw [Nat.zero_add] at h ⊢
    rw [List.getElem?_map] at ed
    cases hx : xs[i]? with
    | none => rw [hx] at ed; cases ed
    | some x =>
      rw [hx] at ed
      cases ed
      exact step i x ρ hx h) h0
  rw [Nat.zero_add, List.length_map] at h
  exact ⟨ρ', h, for_ok hi e⟩
/-- .. of a state s: what is computed in plain words -/
theorem for_fd {σ : Type} (E : σ → Env' → Prop) (Inv : Nat → σ → Prop) {s0 : σ} (hi : evi F it ρ = .ok ((xs.map f, p), ρ1)) (h0 : E s0 (lockP p ρ1).2) (i0 : Inv 0 s0)
    (step : ∀ i x s ρ, xs[i]? = some x → Inv i s → E s ρ → ∃ s' ρ', (turnX F N tg b (f x) ρ = .ok (.nx, ρ') ∨ turnX F N tg b (f x) ρ = .ok (.ct, ρ')) ∧ E s' ρ' ∧ Inv (i + 1) s') :
    ∃ s' ρ', E s' ρ' ∧ Inv xs.length s' ∧ ex F N (.for_ tg it b) ρ = (unlock (lockP p ρ1).1 ρ').bind fun ρ => .ok (.nx, ρ) := by
  obtain ⟨ρ', ⟨s, h1, h2⟩, e⟩ := for_st (F := F) (N := N) (tg := tg) (b := b) (fun i ρ => ∃ s, E s ρ ∧ Inv i s) hi ⟨s0, h0, i0⟩ fun i x ρ hx ⟨s, h1, h2⟩ => by
    obtain ⟨s', ρ', e, h3, h4⟩ := step i x s ρ hx h2 h1
    exact ⟨ρ', e, s', h3, h4⟩
  exact ⟨s, ρ', h1, h2, e⟩
end
theorem fr_none : gFree (some none) = true := rfl
end Dv

set_option Elab.async false
set_option linter.all false
namespace Dv
open PySem PySem.Spec PyProof.Rows L2
/-- a module's constant that is a tuple -/
theorem tupL_ok {K : PySem.W.Frag} {x : Str} {vs : List He.Dv} (h : He.tupB K x vs = true) (H : Hp) : TupL K H (He.ga K x) (vs.map (He.Dv.v K)) := by
  unfold He.tupB at h
  cases q : K.lookup (He.ga K x) with
  | none =>
    rw [q] at h
    cases h
  | some o =>
    obtain ⟨oc, od, dt, osl⟩ := o
    rw [q] at h
    cases oc with
    | type c =>
      cases dt with
      | seq its n =>
        obtain ⟨h1, h2⟩ := Bool.and_eq_true_iff.mp (show (decide (c = "tuple") && (decide (its.size ≤ sizeLine) && He.relAll (vs.map (He.Dv.v K)) its.toList)) = true from h)
        obtain ⟨h3, h4⟩ := Bool.and_eq_true_iff.mp h2
        exact .inr ⟨_, its, n, q, congrArg Value.type (of_decide_eq_true h1), rfl, of_decide_eq_true h3, He.relAll_ok h4⟩
      | _ => cases h
    | _ => cases dt <;> cases h
/-- a table's def's defaults, seen from a larger one -/
theorem liftD {glo : Str → Option D} {M : Nat} {f : Str} {n : Nat} {ds : List Dm} : ∀ (l : List Dm), (l.all fun e => decide (f ≠ e.f)) = true → (mkF glo M (l ++ ds)).dfl f n = (mkF glo M ds).dfl f n
  | [], _ => rfl
  | d :: l, h => by
    rw [List.all_cons, Bool.and_eq_true] at h
    exact (show (mkF glo M (d :: (l ++ ds))).dfl f n = _ from if_neg (of_decide_eq_true h.1)).trans (liftD l h.2)
theorem dfl_self {glo : Str → Option D} {M : Nat} {n : Nat} {d : Dm} {ds : List Dm} : (mkF glo M (d :: ds)).dfl d.f n = d.dfl n := if_pos rfl
end Dv

set_option Elab.async false
set_option linter.all false
set_option maxRecDepth 100000
set_option maxHeartbeats 1000000
set_option exponentiation.threshold 100
namespace Dv
open PySem PySem.Spec PyProof.Rows L2

/-! ### what most laws have in common -/
def DrawS (c : List A → Rs (Re × List A)) : Prop := ∀ {n : Nat} {d : D} {m : Int}, DS n d → n < 2 ^ 60 → 0 < m → m < 2 ^ 64 → ∃ (r : Nat) (d' : D), c [.own d, .val (.int m)] = .ok (.val (.int (r : Nat)), [.own d', .val (.int m)]) ∧ (r : Int) < m ∧ DS (n + 1) d'
theorem draw_run {F : Fn} {M : Nat} : DrawS (runDef F M 5 bDraw) := fun {n d m} hd hn h0 h1 => by
  obtain ⟨r, d', e, h2, h3, h4⟩ := draw_ok (F := F) (M := M) hd hn h0 h1
  refine ⟨r.toNat, d', ?_, by omega, h4⟩
  rw [Int.toNat_of_nonneg h2]
  exact e
theorem atI_mapG {α : Type} {l : List α} {g : α → D} {k : Nat} {x : α} (h : l[k]? = some x) : atI (l.map g) (k : Int) = some (g x) := by
  have hk := (List.getElem?_eq_some_iff.mp h).1
  rw [atI_nat (by omega) (by rw [List.length_map]; omega), Int.toNat_natCast, List.getElem?_map, h]
  rfl
theorem perm_erase {α : Type} : ∀ {l : List α} {i : Nat} (h : i < l.length), (l[i] :: l.eraseIdx i).Perm l
  | a :: l, 0, _ => .refl _
  | a :: l, i + 1, h => by
    rw [List.eraseIdx_cons_succ, List.getElem_cons_succ]
    exact (List.Perm.swap _ _ _).trans (List.Perm.cons a (perm_erase (by simpa using h)))
section
variable {F : Fn} {elt : Ex} {tg : Tg} {it : Ie} {ifs : To} {own : List Nat} {ρ ρ1 ρw ρ' : Env'} {p : P} {α β : Type} {xs : List α} {f : α → D}
theorem comp_mapE {g : α → D} (hi : evi F it ρ = .ok ((xs.map f, p), ρ1)) (hw : wipeR (lockP p ρ1).2 own = ρw) (hl : xs.length < sizeLine)
    (step : ∀ x ∈ xs, turnW F elt tg ifs own (f x) ρw = .ok (some (g x), ρw)) (he : ∀ out, compEnd p ρ1 ρw own out = .ok (.own (.lst out), ρ')) : ev F (.comp elt tg it ifs own) ρ = .ok (.own (.lst (xs.map g)), ρ') := by
  rw [comp_map hi hw hl step, he]
theorem comp_fmE {g : α → Option D} (hi : evi F it ρ = .ok ((xs.map f, p), ρ1)) (hw : wipeR (lockP p ρ1).2 own = ρw) (hl : xs.length < sizeLine)
    (step : ∀ x ∈ xs, turnW F elt tg ifs own (f x) ρw = .ok (g x, ρw)) (he : ∀ out, compEnd p ρ1 ρw own out = .ok (.own (.lst out), ρ')) : ev F (.comp elt tg it ifs own) ρ = .ok (.own (.lst (xs.filterMap g)), ρ') := by
  rw [comp_fm hi hw hl step, he]
theorem comp_drE {E E' : D → Env'} {h : β → D} {Q : Nat → β → Prop} {d : D} {n : Nat} (c : Nat) (hi : evi F it ρ = .ok ((xs.map f, p), ρ1)) (hw : wipeR (lockP p ρ1).2 own = E d) (hl : xs.length < sizeLine) (hd : DS n d)
    (step : ∀ i x d, xs[i]? = some x → DS (n + c * i) d → ∃ z d', turnW F elt tg ifs own (f x) (E d) = .ok (some (h z), E d') ∧ Q i z ∧ DS (n + c * i + c) d') (he : ∀ d out, compEnd p ρ1 (E d) own out = .ok (.own (.lst out), E' d)) :
    ∃ (zs : List β) (d' : D), ev F (.comp elt tg it ifs own) ρ = .ok (.own (.lst (zs.map h)), E' d') ∧ zs.length = xs.length ∧ (∀ i z, zs[i]? = some z → Q i z) ∧ DS (n + c * xs.length) d' := by
  obtain ⟨zs, d', h1, h2, h3, e⟩ := comp_dr c hi hw hl hd step
  exact ⟨zs, d', e.trans (he _ _), h1, h2, h3⟩
end
theorem atI_rng {g : Nat → D} {n k : Nat} (h : k < n) : atI ((List.range n).map g) (k : Int) = some (g k) := atI_mapG (by simp [h])
theorem atI_get {l : List D} {k : Nat} (h : k < l.length) : atI l (k : Int) = some l[k] := by
  rw [atI_nat (by omega) (by omega), Int.toNat_natCast, List.getElem?_eq_getElem h]
section
variable {F : Fn} {M : Nat}
theorem rare_run (hD : DrawS (F.call "_law_draw")) (hdfl : ∀ n, F.dfl "_law_draw" n = []) {n : Nat} {d : D} {m : Int} (hd : DS n d) (hn : n < 2 ^ 60) (h0 : 0 < m) (h1 : m < 2 ^ 64) :
    ∃ b d', runDef F M 2 bRare [.own d, .val (.int m)] = .ok (.val (.bl b), [.own d', .val (.int m)]) ∧ DS (n + 1) d' := by
  obtain ⟨r, d', e, _, h⟩ := hD hd hn h0 h1
  have dv := dv_ok (i := m) (j := 2) (by decide) (by decide)
  have eq1 := eq_nice (k := 0) (d := .int (r : Nat)) (e := .int (m.fdiv 2)) nice_int nice_int (by decide)
  exact ⟨decide (D.int (r : Nat) = D.int (m.fdiv 2)), d', by simp [bRare, Dv.envOf, e, hdfl, dv, -c36_dCmp, eq1, -D.int.injEq], h⟩
theorem pick_run (hD : DrawS (F.call "_law_draw")) (hdfl : ∀ n, F.dfl "_law_draw" n = []) {n : Nat} {d : D} {row : List D} {R : A} (hR : R = .own (.lst row) ∨ R = .val (.lst row) ∨ R = .val (.tup row)) (hd : DS n d) (hn : n < 2 ^ 60) (h0 : 0 < row.length) (h1 : row.length < 2 ^ 62) :
    ∃ x d', runDef F M 2 bPick [.own d, R] = .ok (.val x, [.own d', R]) ∧ x ∈ row ∧ DS (n + 1) d' := by
  obtain ⟨r, d', e, h3, h⟩ := hD (m := (row.length : Int)) hd hn (by omega) (by omega)
  have hr : r < row.length := by omega
  refine ⟨row[r], d', ?_, List.getElem_mem hr, h⟩
  have ha := atI_get hr
  rcases hR with rfl | rfl | rfl <;> simp [bPick, Dv.envOf, e, hdfl, ha]
def bShufB : Sxs := (.cons 
    (.expr (.chg .append 3 (.cons (.chg .popAt 2 (.cons (.call "_law_draw" (.cons (.var 0) (.cons (.blt .len (.cons (.var 2) .nil)) .nil))) .nil)) .nil))) .nil)
def bShufS : Sx := (.for_ (.nm 4) (.rng (.blt .len (.cons (.var 2) .nil))) bShufB)
def bShuf : Sxs := (.cons 
    (.set 2 (.blt .list (.cons (.var 1) .nil))) (.cons 
    (.set 3 (.lst .nil)) (.cons 
    bShufS (.cons 
    (.ret (.var 3)) .nil))))
theorem shuf_loop (hD : DrawS (F.call "_law_draw")) (hdfl : ∀ n, F.dfl "_law_draw" n = []) {n : Nat} {d : D} {row : List D} {s : S} (hd : DS n d) (hn : n < 2 ^ 59) (h1 : row.length < 16777216) :
    ∃ row' d' o, ex F M bShufS [some (.own true d), some s, some (.own false (.lst row)), some (.own false (.lst [])), none] = .ok (.nx, [some (.own true d'), some s, some (.own false (.lst [])), some (.own false (.lst row')), o]) ∧ row'.Perm row ∧ DS (n + row.length) d' := by
  obtain ⟨ρ', ⟨left, found, d', o, rfl, hp, hl, hd', _⟩, e⟩ := for_st (F := F) (N := M) (tg := .nm 4) (it := .rng (.blt .len (.cons (.var 2) .nil))) (b := bShufB) (ρ := [some (.own true d), some s, some (.own false (.lst row)), some (.own false (.lst [])), none])
    (ρ1 := [some (.own true d), some s, some (.own false (.lst row)), some (.own false (.lst [])), none]) (xs := List.range row.length) (f := fun k => .int (k : Nat)) (p := .val .non)
    (fun i ρ => ∃ left found d' o, ρ = [some (.own true d'), some s, some (.own false (.lst left)), some (.own false (.lst found)), o] ∧ (left ++ found).Perm row ∧ left.length + i = row.length ∧ DS (n + i) d' ∧ gFree (some o) = true)
    (evi_rng (by simp) (by omega)) ⟨row, [], d, none, by simp, by simp, by simp, hd, rfl⟩
    (fun i x ρ hx ⟨left, found, d', o, e, hp, hl, hd', ho⟩ => by
      subst e
      have hi : i < row.length := by simpa using (List.getElem?_eq_some_iff.mp hx).1
      obtain ⟨r, d2, e2, h3, h4⟩ := hD (m := (left.length : Int)) hd' (by omega) (by omega) (by omega)
      have hr : r < left.length := by omega
      have hs : seqIndex? (r : Int) left.length = some r := by
        simp [seqIndex?, hr, show ¬ ((r : Int) < 0) by omega]
      have hb : -(2 ^ 63) ≤ (r : Int) ∧ (r : Int) < 2 ^ 63 := by constructor <;> omega
      have hlen := hp.length_eq
      rw [List.length_append] at hlen
      have hf : found.length < sizeLine := by unfold sizeLine; omega
      refine ⟨[some (.own true d2), some s, some (.own false (.lst (left.eraseIdx r))), some (.own false (.lst (found ++ [left[r]]))), some (.val (.int (x : Nat)))], .inl ?_, left.eraseIdx r, found ++ [left[r]], d2, _, rfl, ?_, ?_, h4, rfl⟩
      · simp only [Int.reducePow, Int.reduceNeg] at hb
        simp [turnX, bShufB, ho, e2, hdfl, hs, hf, List.getElem?_eq_getElem hr, hb]
      · rw [← List.append_assoc]
        refine List.Perm.trans ?_ hp
        refine List.Perm.trans List.perm_append_comm ?_
        rw [← List.append_assoc]
        exact List.Perm.append_right _ (perm_erase hr)
      · rw [List.length_eraseIdx_of_lt hr]
        omega)
  rw [List.length_range] at hl hd'
  have hl0 : left = [] := List.eq_nil_of_length_eq_zero (by omega)
  subst hl0
  rw [List.nil_append] at hp
  exact ⟨found, d', o, (show ex F M bShufS _ = _ from e).trans (by simp), hp, hd'⟩
theorem shuf_run (hD : DrawS (F.call "_law_draw")) (hdfl : ∀ n, F.dfl "_law_draw" n = []) {n : Nat} {d : D} {row : List D} {R : A} (hR : R = .own (.lst row) ∨ R = .val (.lst row) ∨ R = .val (.tup row)) (hd : DS n d) (hn : n < 2 ^ 59) (h1 : row.length < 16777216) :
    ∃ row' d', runDef F M 5 bShuf [.own d, R] = .ok (.own (.lst row'), [.own d', R]) ∧ row'.Perm row ∧ DS (n + row.length) d' := by
  obtain ⟨row', d', o, e, h2, h3⟩ := shuf_loop (M := M) (s := R.slot) hD hdfl hd hn h1
  refine ⟨row', d', ?_, h2, h3⟩
  rcases hR with rfl | rfl | rfl <;> simp at e <;> simp [bShuf, Dv.envOf, e]
/-! what is an amount -/
def bIsInt : Sxs := (.cons 
    (.ret (.and_ (.cons (.isi .int (.var 0)) (.cons (.not_ (.isi .bool (.var 0))) .nil)))) .nil)
theorem is_int_run {i : Int} : runDef F M 1 bIsInt [.val (.int i)] = .ok (.val (.bl true), [.val (.int i)]) := by
  simp [bIsInt, Dv.envOf]
def bIsAmE : Ex := (.call "_law_is_int" (.cons (.var 1) .nil))
def bIsAmC : Ex := (.comp bIsAmE (.nm 1) (.seq (.var 0)) .none [1])
def bIsAm : Sxs := (.cons 
    (.ite (.or_ (.cons (.not_ (.val (.isi .tup (.var 0)))) (.cons (.cmp .NotEq (.blt .len (.cons (.var 0) .nil)) (.cst (.int 2))) (.cons (.not_ (.val (.blt .all (.cons bIsAmC .nil)))) .nil)))) (.cons 
    (.ret (.cst (.bl false))) .nil) .nil) (.cons 
    (.ret (.and_ (.cons (.cmp .GtE (.idx (.var 0) (.cst (.int 1))) (.cst (.int 1))) (.cons (.cmp .Eq (.call "_law_gcd" (.cons (.idx (.var 0) (.cst (.int 0))) (.cons (.idx (.var 0) (.cst (.int 1))) .nil))) (.cst (.int 1))) .nil)))) .nil))
theorem is_am_run (hI : ∀ i : Int, F.call "_law_is_int" [.val (.int i)] = .ok (.val (.bl true), [.val (.int i)])) (hg : ∀ n d : Int, d.natAbs < oC → F.call "_law_gcd" [.val (.int n), .val (.int d)] = .ok (.val (.int ((Nat.gcd n.natAbs d.natAbs : Nat) : Int)), [.val (.int n), .val (.int d)]))
    (hdfl : ∀ n, F.dfl "_law_is_int" n = []) (hdfl2 : ∀ n, F.dfl "_law_gcd" n = []) {q : Rat} (hq : Ok q) : runDef F M 2 bIsAm [.val (am q)] = .ok (.val (.bl true), [.val (am q)]) := by
  have e : ev F bIsAmC [some (.val (am q)), none] = .ok (.own (.lst [.bl true, .bl true]), [some (.val (am q)), none]) :=
    comp_mapE (xs := [q.num, (q.den : Int)]) (f := D.int) (g := fun _ => .bl true) (ρ1 := [some (.val (am q)), none]) (ρw := [some (.val (am q)), none]) (p := .val (am q))
      (by simp [am]) (by simp) (by simp [sizeLine]) (fun x _ => by simp [turnW, turnR, bIsAmE, hI, hdfl]) (fun out => by simp [compEnd])
  have hx := oB_oC
  have hy : oB ≤ oB * oB := Nat.le_mul_of_pos_left _ oB_pos
  have hl : q.den < oB := hq.2
  have g := hg q.num q.den (by omega)
  have g1 : Nat.gcd q.num.natAbs (q.den : Int).natAbs = 1 := q.reduced
  rw [g1] at g
  have ne2 := ne_nice (k := 0) (d := .int 2) (e := .int 2) nice_int nice_int (by decide)
  have eq1 := eq_nice (k := 0) (d := .int 1) (e := .int 1) nice_int nice_int (by decide)
  have hd1 : (1 : Int) ≤ (q.den : Int) := by have := q.den_pos; omega
  have e1 : isTy .tup (am q) = .ok true := rfl
  have e2 : dLen (am q) = .ok 2 := rfl
  simp [bIsAm, Dv.envOf, e1, e2, -c37_dCmp, -c36_dCmp, ne2, eq1, e, g, hdfl, hdfl2, hd1]
def bIsRowE : Ex := (.call "_law_is_amount" (.cons (.var 2) .nil))
def bIsRowC : Ex := (.comp bIsRowE (.nm 2) (.seq (.var 0)) .none [2])
def bIsRow : Sxs := (.cons 
    (.ret (.and_ (.cons (.isi .tup (.var 0)) (.cons (.cmp .Eq (.blt .len (.cons (.var 0) .nil)) (.var 1)) (.cons (.blt .all (.cons bIsRowC .nil)) .nil))))) .nil)
theorem bls_true {α : Type} {l : List α} : bls (l.map fun _ => D.bl true) = some (l.map fun _ => true) := by
  induction l with
  | nil => rfl
  | cons a t ih =>
    rw [List.map_cons, List.map_cons, bls, ih]
    rfl
@[simp] theorem all_tt {α : Type} {l : List α} : (l.all fun _ => true) = true := by simp
theorem all_true {α : Type} {l : List α} : ((l.map fun _ => true).all id) = true := by simp
theorem is_row_run (hA : ∀ q : Rat, Ok q → F.call "_law_is_amount" [.val (am q)] = .ok (.val (.bl true), [.val (am q)])) (hdfl : ∀ n, F.dfl "_law_is_amount" n = []) {l : List Rat} {n : Nat} (hn : n = l.length) (hl : l.length < sizeLine) (h : ∀ q ∈ l, Ok q) :
    runDef F M 3 bIsRow [.val (.tup (l.map am)), .val (.int (n : Nat))] = .ok (.val (.bl true), [.val (.tup (l.map am)), .val (.int (n : Nat))]) := by
  subst hn
  have e : ev F bIsRowC [some (.val (.tup (l.map am))), some (.val (.int (l.length : Nat))), none] = .ok (.own (.lst (l.map fun _ => .bl true)), [some (.val (.tup (l.map am))), some (.val (.int (l.length : Nat))), none]) :=
    comp_mapE (xs := l) (f := am) (g := fun _ => .bl true) (ρ1 := [some (.val (.tup (l.map am))), some (.val (.int (l.length : Nat))), none]) (ρw := [some (.val (.tup (l.map am))), some (.val (.int (l.length : Nat))), none]) (p := .val (.tup (l.map am)))
      (by simp) (by simp) hl (fun x hx => by simp [turnW, turnR, bIsRowE, hA x (h x hx), hdfl]) (fun out => by simp [compEnd])
  have eq1 := eq_nice (k := 0) (d := .int (l.length : Nat)) (e := .int (l.length : Nat)) nice_int nice_int (by decide)
  have b1 := bls_true (l := l)
  generalize l.map (fun _ => D.bl true) = bl at *
  simp [bIsRow, Dv.envOf, -c36_dCmp, eq1, e, b1]
end
end Dv
namespace Dv
open PySem PySem.Spec PyProof.Rows L2
/-- how often a while may turn -/
def MM : Nat := oC + 1000001
theorem MM_oC : oC ≤ MM := Nat.le_add_right _ _
theorem MM_lo : 1000001 ≤ MM := Nat.le_add_left _ _
def bLInt : Sxs := (.cons 
    (.ret (.tup (.cons (.var 0) (.cons (.cst (.int 1)) .nil)))) .nil)
theorem lint_run {F : Fn} {M : Nat} (i : Int) : runDef F M 1 bLInt [.val (.int i)] = .ok (.val (am (i : Rat)), [.val (.int i)]) := by
  have k2 : 2 ≤ sizeLine := by decide
  simp [bLInt, Dv.envOf, k2, am_int]
end Dv
namespace Dv
open PySem PySem.Spec PyProof.Rows L2
theorem divInt_pos {n d : Int} (hn : 0 < n) (hd : 0 < d) : 0 < Rat.divInt n d := by
  rw [Rat.divInt_eq_div, Rat.lt_div_iff (Rat.intCast_pos.mpr hd), Rat.zero_mul]
  exact Rat.intCast_pos.mpr hn
theorem divInt_nn {n d : Int} (hn : 0 ≤ n) (hd : 0 < d) : 0 ≤ Rat.divInt n d := Rat.divInt_nonneg hn (Int.le_of_lt hd)
theorem rng_congr {n : Nat} {f g : Nat → D} (h : ∀ k, k < n → f k = g k) : (List.range n).map f = (List.range n).map g := List.map_congr_left fun k hk => h k (List.mem_range.mp hk)
theorem rng_snoc {n : Nat} {f : Nat → D} : (List.range (n + 1)).map f = (List.range n).map f ++ [f n] := by rw [List.range_succ, List.map_append]; rfl
theorem len_lt {n : Nat} (h : n < 16777216) : n < sizeLine := h
theorem len_le {n : Nat} (h : n ≤ 16777216) : n ≤ sizeLine := h
end Dv
namespace Dv
open PySem PySem.Spec PyProof.Rows L2
theorem oC_big {x : Nat} (h : x < 2 ^ 64) : x < oC := Nat.lt_of_lt_of_le h (Nat.pow_le_pow_right (by decide) (by decide))
@[simp] theorem atI_4 {α : Type} {x y z w v : α} {l : List α} : atI (x :: y :: z :: w :: v :: l) 4 = some v := by
  unfold atI ixN
  rw [if_pos (by decide), if_pos (by simp; omega)]
  rfl
@[simp] theorem atI_5 {α : Type} {x y z w v u : α} {l : List α} : atI (x :: y :: z :: w :: v :: u :: l) 5 = some u := by
  unfold atI ixN
  rw [if_pos (by decide), if_pos (by simp; omega)]
  rfl
end Dv
namespace Dv
open PySem PySem.Spec PyProof.Rows L2
section
variable {F : Fn} {N : Nat} {tg : Tg} {it : Ie} {b : Sxs} {ρ ρ1 ρ' : Env'} {S : Sx}
/-- a loop over a range -/
theorem for_rng (hS : S = .for_ tg it b) {m : Nat} (I : Nat → Env' → Prop) (hi : evi F it ρ = .ok (((List.range m).map fun k => D.int (k : Nat), .val .non), ρ1)) (h0 : I 0 ρ1)
    (step : ∀ i ρ, i < m → I i ρ → ∃ ρ', (turnX F N tg b (.int (i : Nat)) ρ = .ok (.nx, ρ') ∨ turnX F N tg b (.int (i : Nat)) ρ = .ok (.ct, ρ')) ∧ I (i + 1) ρ') : ∃ ρ', I m ρ' ∧ ex F N S ρ = .ok (.nx, ρ') := by
  obtain ⟨ρ', h, e⟩ := for_st (F := F) (N := N) (tg := tg) (b := b) (xs := List.range m) (f := fun k => D.int (k : Nat)) I hi h0 fun i x ρ hx hI => by
    obtain ⟨hi, rfl⟩ := List.getElem?_eq_some_iff.mp hx
    rw [List.getElem_range]
    rw [List.length_range] at hi
    exact step i ρ hi hI
  rw [List.length_range] at h
  subst hS
  exact ⟨ρ', h, e⟩
/-- a loop over a value's items -/
theorem for_val (hS : S = .for_ tg it b) {α : Type} {xs : List α} {f : α → D} {d : D} (I : Nat → Env' → Prop) (hi : evi F it ρ = .ok ((xs.map f, .val d), ρ1)) (h0 : I 0 ρ1)
    (step : ∀ i x ρ, xs[i]? = some x → I i ρ → ∃ ρ', (turnX F N tg b (f x) ρ = .ok (.nx, ρ') ∨ turnX F N tg b (f x) ρ = .ok (.ct, ρ')) ∧ I (i + 1) ρ') : ∃ ρ', I xs.length ρ' ∧ ex F N S ρ = .ok (.nx, ρ') := by
  obtain ⟨ρ', h, e⟩ := for_st (F := F) (N := N) (tg := tg) (b := b) (xs := xs) (f := f) I hi h0 step
  subst hS
  exact ⟨ρ', h, e⟩
/-- .. of a slot's list, locked meanwhile -/
theorem for_slot (hS : S = .for_ tg it b) {α : Type} {xs : List α} {f : α → D} {j : Nat} (I : Nat → Env' → Prop) (hi : evi F it ρ = .ok ((xs.map f, .at_ j), ρ1)) {o : Option Nat} {ρl : Env'} (hl : lockP (.at_ j) ρ1 = (o, ρl)) (h0 : I 0 ρl)
    (step : ∀ i x ρ, xs[i]? = some x → I i ρ → ∃ ρ', (turnX F N tg b (f x) ρ = .ok (.nx, ρ') ∨ turnX F N tg b (f x) ρ = .ok (.ct, ρ')) ∧ I (i + 1) ρ') : ∃ ρ', I xs.length ρ' ∧ ex F N S ρ = (unlock o ρ').bind fun ρ => .ok (.nx, ρ) := by
  obtain ⟨ρ', h, e⟩ := for_st (F := F) (N := N) (tg := tg) (b := b) (xs := xs) (f := f) I hi (by rw [hl]; exact h0) step
  subst hS
  rw [hl] at e
  exact ⟨ρ', h, e⟩
end
end Dv
namespace Dv
open PySem PySem.Spec PyProof.Rows L2
theorem Bd.k60 {L N : Nat} {q : Rat} (h : Bd L N q) (h0 : 0 < L) (h1 : L < 2 ^ 60) (h2 : N < 2 ^ 60) : K 60 q := h.k h0 h1 h2 (by decide)
theorem K.ok60 {q : Rat} (h : K 60 q) : Ok q := h.ok (by decide)
end Dv
namespace Dv
open PySem PySem.Spec PyProof.Rows L2
@[simp high] theorem eq_int {i j : Int} : dCmp .Eq (.int i) (.int j) = .ok (decide (i = j)) := by
  rw [eq_nice (k := 0) nice_int nice_int (by decide)]
  simp
@[simp high] theorem ne_int {i j : Int} : dCmp .NotEq (.int i) (.int j) = .ok (!decide (i = j)) := by
  rw [ne_nice (k := 0) nice_int nice_int (by decide)]
  simp
/-- numbers as data -/
abbrev iD (z : Nat) : D := .int (z : Nat)
theorem nice_ints {k : Nat} {l : List Nat} : nice (k + 1) (.lst (l.map iD)) := fun e he => by
  obtain ⟨z, _, rfl⟩ := List.mem_map.mp he
  exact nice_int
theorem in_ints {k : Nat} {l : List Nat} : dIn (.int (k : Nat)) (.lst (l.map iD)) = .ok (decide (k ∈ l)) := by
  rw [dIn_lst, need_true ⟨nice_shp (k := 0) nice_int (by decide), nice_shp (k := 1) nice_ints (by decide)⟩]
  congr 1
  rw [List.any_map]
  by_cases h : k ∈ l
  · rw [decide_eq_true h, List.any_eq_true]
    exact ⟨k, h, by show deq _ _ = true; rw [deq_nice (k := 0) nice_int nice_int]; simp⟩
  · rw [decide_eq_false h, List.any_eq_false]
    intro x hx
    show ¬ deq _ _ = true
    rw [deq_nice (k := 0) nice_int nice_int]
    simp
    intro e
    exact h (by rw [show k = x by omega]; exact hx)
theorem map_rng {α β : Type} {l : List α} (f : α → β) (d0 : α) : l.map f = (List.range l.length).map fun k => f (l.getD k d0) := by
  apply List.ext_getElem
  · simp
  · intro i h1 h2
    simp at h1 ⊢
    simp [h1]
theorem mul_small {i j : Int} (h1 : i.natAbs < 2 ^ 64) (h2 : j.natAbs < 2 ^ 64) : CMulX i j := by
  have a := bits_lt h1
  have b := bits_lt h2
  unfold CMulX
  omega
end Dv

set_option Elab.async false
set_option linter.all false
set_option maxRecDepth 100000
set_option maxHeartbeats 1000000
namespace Dv
open PySem PySem.Spec PyProof.Rows L2
theorem perm_map {α β : Type} {f : α → β} {l m : List β} (h : l.Perm m) : ∀ ts : List α, m = ts.map f → ∃ ts' : List α, l = ts'.map f ∧ ts'.Perm ts := by
  induction h with
  | nil => intro ts e; exact ⟨ts, e, .refl _⟩
  | cons x _ ih =>
    intro ts e
    cases ts with
    | nil => cases e
    | cons t ts =>
      rw [List.map_cons] at e
      injection e with e1 e2
      obtain ⟨ts', h1, h2⟩ := ih ts e2
      exact ⟨t :: ts', by rw [List.map_cons, h1, e1], List.Perm.cons t h2⟩
  | swap x y l =>
    intro ts e
    cases ts with
    | nil => cases e
    | cons t ts => cases ts with
      | nil => cases e
      | cons u ts =>
        rw [List.map_cons, List.map_cons] at e
        injection e with e1 e2
        injection e2 with e2 e3
        exact ⟨u :: t :: ts, by rw [List.map_cons, List.map_cons, e1, e2, e3], List.Perm.swap _ _ _⟩
  | trans _ _ ih1 ih2 =>
    intro ts e
    obtain ⟨ts1, h1, h2⟩ := ih2 ts e
    obtain ⟨ts2, h3, h4⟩ := ih1 ts1 h1
    exact ⟨ts2, h3, h4.trans h2⟩
theorem forR_bk {f : D → Env' → Rs (Fl × Env')} {Q : Env' → Prop} : ∀ {l : List D} {I : Nat → Env' → Prop} {ρ : Env'} {k : Nat},
    (∀ (i : Nat) (d : D) (ρ : Env'), l[i]? = some d → I (k + i) ρ → ∃ ρ', ((f d ρ = .ok (.nx, ρ') ∨ f d ρ = .ok (.ct, ρ')) ∧ I (k + i + 1) ρ') ∨ (f d ρ = .ok (.bk, ρ') ∧ Q ρ')) → I k ρ → ∃ ρ', forR f l ρ = .ok (.nx, ρ') ∧ (I (k + l.length) ρ' ∨ Q ρ')
  | [], I, ρ, k, _, h => ⟨ρ, rfl, .inl h⟩
  | d :: l, I, ρ, k, step, h => by
    obtain ⟨ρ1, ⟨e1, h1⟩ | ⟨e1, q⟩⟩ := step 0 d ρ rfl h
    · obtain ⟨ρ2, e2, h2⟩ := forR_bk (l := l) (I := I) (ρ := ρ1) (k := k + 1) (fun i d ρ e hi => by
        have := step (i + 1) d ρ (by simpa using e) (by rw [show k + (i + 1) = k + 1 + i by omega]; exact hi)
        rw [show k + (i + 1) = k + 1 + i by omega] at this
        exact this) h1
      refine ⟨ρ2, ?_, ?_⟩
      · show (f d ρ).bind _ = _
        rcases e1 with e1 | e1 <;> rw [e1] <;> exact e2
      · rw [List.length_cons, show k + (l.length + 1) = k + 1 + l.length by omega]
        exact h2
    · refine ⟨ρ1, ?_, .inr q⟩
      show (f d ρ).bind _ = _
      rw [e1]
      rfl
/-- a loop over a value's items that may break off -/
theorem for_vbk {F : Fn} {N : Nat} {tg : Tg} {it : Ie} {b : Sxs} {ρ ρ1 : Env'} {S : Sx} (hS : S = .for_ tg it b) {α : Type} {xs : List α} {f : α → D} {d : D} (I : Nat → Env' → Prop) (Q : Env' → Prop) (hi : evi F it ρ = .ok ((xs.map f, .val d), ρ1)) (h0 : I 0 ρ1)
    (step : ∀ i x ρ, xs[i]? = some x → I i ρ → ∃ ρ', ((turnX F N tg b (f x) ρ = .ok (.nx, ρ') ∨ turnX F N tg b (f x) ρ = .ok (.ct, ρ')) ∧ I (i + 1) ρ') ∨ (turnX F N tg b (f x) ρ = .ok (.bk, ρ') ∧ Q ρ')) : ∃ ρ', (I xs.length ρ' ∨ Q ρ') ∧ ex F N S ρ = .ok (.nx, ρ') := by
  obtain ⟨ρ', e, h⟩ := forR_bk (f := turnX F N tg b) (l := xs.map f) (I := I) (Q := Q) (k := 0) (ρ := ρ1) (fun i d ρ ed h => by
    rw [Nat.zero_add] at h ⊢
    rw [List.getElem?_map] at ed
    cases hx : xs[i]? with
    | none => rw [hx] at ed; cases ed
    | some x =>
      rw [hx] at ed
      cases ed
      exact step i x ρ hx h) h0
  rw [Nat.zero_add, List.length_map] at h
  subst hS
  exact ⟨ρ', h, for_ok hi e⟩
/-- a loop over a new list's items -/
theorem for_new {F : Fn} {N : Nat} {tg : Tg} {it : Ie} {b : Sxs} {ρ ρ1 : Env'} {S : Sx} (hS : S = .for_ tg it b) {α : Type} {xs : List α} {f : α → D} {d : D} (I : Nat → Env' → Prop) (hi : evi F it ρ = .ok ((xs.map f, .own d), ρ1)) (h0 : I 0 ρ1)
    (step : ∀ i x ρ, xs[i]? = some x → I i ρ → ∃ ρ', (turnX F N tg b (f x) ρ = .ok (.nx, ρ') ∨ turnX F N tg b (f x) ρ = .ok (.ct, ρ')) ∧ I (i + 1) ρ') : ∃ ρ', I xs.length ρ' ∧ ex F N S ρ = .ok (.nx, ρ') := by
  obtain ⟨ρ', h, e⟩ := for_st (F := F) (N := N) (tg := tg) (b := b) (xs := xs) (f := f) I hi h0 step
  subst hS
  exact ⟨ρ', h, e⟩

theorem forR_rt {f : D → Env' → Rs (Fl × Env')} {Q : P → Env' → Prop} : ∀ {l : List D} {I : Nat → Env' → Prop} {ρ : Env'} {k : Nat},
    (∀ (i : Nat) (d : D) (ρ : Env'), l[i]? = some d → I (k + i) ρ → (∃ ρ', (f d ρ = .ok (.nx, ρ') ∨ f d ρ = .ok (.ct, ρ')) ∧ I (k + i + 1) ρ') ∨ ∃ p ρ', f d ρ = .ok (.rt p, ρ') ∧ Q p ρ') → I k ρ →
    (∃ ρ', forR f l ρ = .ok (.nx, ρ') ∧ I (k + l.length) ρ') ∨ ∃ p ρ', forR f l ρ = .ok (.rt p, ρ') ∧ Q p ρ'
  | [], I, ρ, k, _, h => .inl ⟨ρ, rfl, h⟩
  | d :: l, I, ρ, k, step, h => by
    rcases step 0 d ρ rfl h with ⟨ρ1, e1, h1⟩ | ⟨p, ρ1, e1, q⟩
    · rcases forR_rt (l := l) (I := I) (ρ := ρ1) (k := k + 1) (fun i d ρ e hi => by
        have := step (i + 1) d ρ (by simpa using e) (by rw [show k + (i + 1) = k + 1 + i by omega]; exact hi)
        rw [show k + (i + 1) = k + 1 + i by omega] at this
        exact this) h1 with ⟨ρ2, e2, h2⟩ | ⟨p, ρ2, e2, h2⟩
      · refine .inl ⟨ρ2, ?_, ?_⟩
        · show (f d ρ).bind _ = _
          rcases e1 with e1 | e1 <;> rw [e1] <;> exact e2
        · rw [List.length_cons, show k + (l.length + 1) = k + 1 + l.length by omega]
          exact h2
      · refine .inr ⟨p, ρ2, ?_, h2⟩
        show (f d ρ).bind _ = _
        rcases e1 with e1 | e1 <;> rw [e1] <;> exact e2
    · refine .inr ⟨p, ρ1, ?_, q⟩
      show (f d ρ).bind _ = _
      rw [e1]
      rfl
/-- a loop over a value's items that may return -/
theorem for_vrt {F : Fn} {N : Nat} {tg : Tg} {it : Ie} {b : Sxs} {ρ ρ1 : Env'} {S : Sx} (hS : S = .for_ tg it b) {α : Type} {xs : List α} {f : α → D} {d : D} (I : Nat → Env' → Prop) (Q : P → Env' → Prop) (hi : evi F it ρ = .ok ((xs.map f, .val d), ρ1)) (h0 : I 0 ρ1)
    (step : ∀ i x ρ, xs[i]? = some x → I i ρ → (∃ ρ', (turnX F N tg b (f x) ρ = .ok (.nx, ρ') ∨ turnX F N tg b (f x) ρ = .ok (.ct, ρ')) ∧ I (i + 1) ρ') ∨ ∃ p ρ', turnX F N tg b (f x) ρ = .ok (.rt p, ρ') ∧ Q p ρ') :
    (∃ ρ', I xs.length ρ' ∧ ex F N S ρ = .ok (.nx, ρ')) ∨ ∃ p ρ', Q p ρ' ∧ ex F N S ρ = .ok (.rt p, ρ') := by
  have key := forR_rt (f := turnX F N tg b) (l := xs.map f) (I := I) (Q := Q) (k := 0) (ρ := ρ1) (fun i d ρ ed h => by
    rw [Nat.zero_add] at h ⊢
    rw [List.getElem?_map] at ed
    cases hx : xs[i]? with
    | none => rw [hx] at ed; cases ed
    | some x =>
      rw [hx] at ed
      cases ed
      exact step i x ρ hx h) h0
  rw [Nat.zero_add, List.length_map] at key
  subst hS
  rcases key with ⟨ρ', e, h⟩ | ⟨p, ρ', e, h⟩
  · exact .inl ⟨ρ', h, for_ok hi e⟩
  · refine .inr ⟨p, ρ', h, ?_⟩
    rw [r_ex_for_, hi]
    show (forR (turnX F N tg b) (xs.map f) ρ1).bind _ = _
    rw [e]
    rfl
theorem zip_rng {n : Nat} {f g : Nat → D} : zipD [(List.range n).map f, (List.range n).map g] = (List.range n).map fun k => D.tup [f k, g k] := by
  apply List.ext_getElem
  · simp [zipD]
  · intro i h1 h2
    simp [zipD]
theorem enm_rng {n : Nat} {f : Nat → D} : enmD ((List.range n).map f) = (List.range n).map fun k => D.tup [.int (k : Nat), f k] := by
  apply List.ext_getElem
  · simp [enmD]
  · intro i h1 h2
    simp [enmD]
theorem nice_ams {α : Type} {us : List α} (f : α → Rat) : nice 2 (.tup (us.map fun t => am (f t))) := fun x hx => by
  obtain ⟨t, _, rfl⟩ := List.mem_map.mp hx
  exact nice_am
theorem draw_frac {a b : Nat} {c : Int} {L N : Nat} (hb : 0 < b) (hL : (L : Int) = (b : Int) * c) (hN : a * c.natAbs ≤ N) : Bd L N (Rat.divInt (a : Int) (b : Int)) := Bd.divInt c (by omega) hL (by rw [Int.natAbs_mul]; exact hN)
theorem slc_take {l : List D} {k : Nat} : dSlc (.tup l) none (some (k : Int)) = .ok (.val (.tup (l.take k))) := by
  rw [c98_dSlc]
  have h1 : HT.sIx l.length 0 none = 0 := rfl
  have h2 : HT.sIx l.length l.length (some (k : Int)) = min k l.length := HT.sIx_nat _ _ k
  rw [h1, h2, Nat.sub_zero, List.drop_zero]
  by_cases h : k ≤ l.length
  · rw [Nat.min_eq_left h]
  · rw [Nat.min_eq_right (by omega), List.take_of_length_le (Nat.le_refl _), List.take_of_length_le (by omega)]
end Dv

set_option Elab.async false
set_option linter.all false
set_option maxRecDepth 100000
set_option maxHeartbeats 0
namespace Wk14
open PySem PySem.Spec PyProof.Rows L2 Dv
def top (i : Nat) : Stmt := PySem.Challenge.pw_cedewheel_k14_changed_rows_and_reinstate.main.body.getD i (.Pass ⟨0, 0, 0, 0⟩)
def frees : List Str := ["abs", "all", "bool", "int", "isinstance", "len", "list", "range", "tuple", "zip"]
def bts : List (Str × String) := [("gcd", "math.gcd")]
def glo (x : Str) : Option D := if x = "ONE" then some (.tup [(.int 1), (.int 1)]) else if x = "ZERO" then some (.tup [(.int 0), (.int 1)]) else none
def E__law_begin_0 : Ex := (.blt .int (.cons (.var 1) .nil))
def C__law_begin_0 : Ex := (.comp E__law_begin_0 (.nm 1) (.seq (.var 0)) .none [1])
def b__law_begin : Sxs := (.cons 
    (.ret (.lst (.cons C__law_begin_0 (.cons (.cst (.int 0)) (.cons (.cst (.int 0)) (.cons (.cst (.int 7)) (.cons (.cst (.int 3)) .nil))))))) .nil)
def d__law_begin : Dm := ⟨"_law_begin", 1, 1, 2, b__law_begin, fun _ => []⟩
def ds0 : List Dm := []
noncomputable def F0 (M : Nat) : Fn := mkF glo M ds0
def N__law_begin : List Str := ["script", "cell"]
def P__law_begin : List Str := ["script"]
theorem sc__law_begin : FnScope N__law_begin P__law_begin (defScope (top 34)) := ⟨by kernel_rfl, by kernel_rfl, by kernel_rfl, by decide +kernel, by kernel_rfl, by decide +kernel, by decide +kernel⟩
theorem ck__law_begin : ckSs (gnOf frees bts ds0) N__law_begin 1 (defScope (top 34)) b__law_begin (defBody (top 34)) = true := by decide +kernel
def b__law_draw : Sxs := (.cons 
    (.ite (.cmp .Gt (.idx (.var 0) (.cst (.int 2))) (.cst (.int 0))) (.cons 
    (.set 3 (.idx (.var 0) (.cst (.int 2)))) (.cons 
    (.setI 0 (.cst (.int 2)) (.bin .FloorDiv (.var 3) (.var 1))) (.cons 
    (.ret (.bin .Mod (.blt .int (.cons (.var 3) .nil)) (.var 1))) .nil))) .nil) (.cons 
    (.set 2 (.cst (.int 0))) (.cons 
    (.ite (.cmp .Lt (.idx (.var 0) (.cst (.int 1))) (.blt .len (.cons (.idx (.var 0) (.cst (.int 0))) .nil))) (.cons 
    (.set 4 (.idx (.idx (.var 0) (.cst (.int 0))) (.idx (.var 0) (.cst (.int 1))))) (.cons 
    (.set 2 (.bin .Add (.bin .Mult (.cst (.int 2)) (.blt .abs (.cons (.var 4) .nil))) (.blt .int (.cons (.cmp .Lt (.var 4) (.cst (.int 0))) .nil)))) .nil)) .nil) (.cons 
    (.augI 0 .Add (.cst (.int 1)) (.cst (.int 1))) (.cons 
    (.ite (.cmp .GtE (.var 2) (.bin .Mult (.cst (.int 2)) (.bin .Pow (.cst (.int 10)) (.cst (.int 18))))) (.cons 
    (.set 3 (.bin .Mod (.blt .int (.cons (.bin .FloorDiv (.var 2) (.cst (.int 2))) .nil)) (.bin .LShift (.cst (.int 1)) (.cst (.int 6000))))) (.cons 
    (.setI 0 (.cst (.int 2)) (.bin .FloorDiv (.var 3) (.var 1))) (.cons 
    (.ret (.bin .Mod (.blt .int (.cons (.var 3) .nil)) (.var 1))) .nil))) .nil) (.cons 
    (.setI 0 (.cst (.int 3)) (.bin .Mod (.blt .int (.cons (.bin .Add (.bin .Add (.bin .Add (.bin .Mult (.idx (.var 0) (.cst (.int 3))) (.cst (.int 48271))) (.bin .Mult (.bin .Mod (.blt .int (.cons (.var 2) .nil)) (.cst (.int 2147483629))) (.cst (.int 16807)))) (.bin .Mult (.idx (.var 0) (.cst (.int 1))) (.cst (.int 69621)))) (.cst (.int 11))) .nil)) (.cst (.int 2147483647)))) (.cons 
    (.ret (.bin .Mod (.blt .int (.cons (.bin .FloorDiv (.idx (.var 0) (.cst (.int 3))) (.cst (.int 16))) .nil)) (.var 1))) .nil)))))))
def d__law_draw : Dm := ⟨"_law_draw", 2, 2, 5, b__law_draw, fun _ => []⟩
def ds1 : List Dm := d__law_begin :: ds0
noncomputable def F1 (M : Nat) : Fn := mkF glo M ds1
def N__law_draw : List Str := ["d", "many", "size", "found", "cell"]
def P__law_draw : List Str := ["d", "many"]
theorem sc__law_draw : FnScope N__law_draw P__law_draw (defScope (top 35)) := ⟨by kernel_rfl, by kernel_rfl, by kernel_rfl, by decide +kernel, by kernel_rfl, by decide +kernel, by decide +kernel⟩
theorem ck__law_draw : ckSs (gnOf frees bts ds1) N__law_draw 2 (defScope (top 35)) b__law_draw (defBody (top 35)) = true := by decide +kernel
def B__law_gcd_0 : Sxs := (.cons 
    (.par 2 3 (.var 3) (.bin .Mod (.blt .int (.cons (.var 2) .nil)) (.var 3))) .nil)
def S__law_gcd_0 : Sx := (.whl (.cmp .Gt (.var 3) (.cst (.int 0))) B__law_gcd_0)
def b__law_gcd : Sxs := (.cons 
    (.set 2 (.blt .abs (.cons (.var 0) .nil))) (.cons 
    (.set 3 (.blt .abs (.cons (.var 1) .nil))) (.cons 
    S__law_gcd_0 (.cons 
    (.ret (.var 2)) .nil))))
def d__law_gcd : Dm := ⟨"_law_gcd", 2, 2, 4, b__law_gcd, fun _ => []⟩
def ds2 : List Dm := d__law_draw :: ds1
noncomputable def F2 (M : Nat) : Fn := mkF glo M ds2
def N__law_gcd : List Str := ["a", "b", "one", "two"]
def P__law_gcd : List Str := ["a", "b"]
theorem sc__law_gcd : FnScope N__law_gcd P__law_gcd (defScope (top 40)) := ⟨by kernel_rfl, by kernel_rfl, by kernel_rfl, by decide +kernel, by kernel_rfl, by decide +kernel, by decide +kernel⟩
theorem ck__law_gcd : ckSs (gnOf frees bts ds2) N__law_gcd 2 (defScope (top 40)) b__law_gcd (defBody (top 40)) = true := by decide +kernel
def b__law_amount : Sxs := (.cons 
    (.set 2 (.call "_law_gcd" (.cons (.var 0) (.cons (.var 1) .nil)))) (.cons 
    (.ite (.cmp .Lt (.var 1) (.cst (.int 0))) (.cons 
    (.set 2 (.neg (.var 2))) .nil) .nil) (.cons 
    (.ret (.tup (.cons (.bin .FloorDiv (.var 0) (.var 2)) (.cons (.bin .FloorDiv (.var 1) (.var 2)) .nil)))) .nil)))
def d__law_amount : Dm := ⟨"_law_amount", 2, 2, 3, b__law_amount, fun _ => []⟩
def ds3 : List Dm := d__law_gcd :: ds2
noncomputable def F3 (M : Nat) : Fn := mkF glo M ds3
def N__law_amount : List Str := ["n", "d", "common"]
def P__law_amount : List Str := ["n", "d"]
theorem sc__law_amount : FnScope N__law_amount P__law_amount (defScope (top 41)) := ⟨by kernel_rfl, by kernel_rfl, by kernel_rfl, by decide +kernel, by kernel_rfl, by decide +kernel, by decide +kernel⟩
theorem ck__law_amount : ckSs (gnOf frees bts ds3) N__law_amount 2 (defScope (top 41)) b__law_amount (defBody (top 41)) = true := by decide +kernel
def b__law_gap : Sxs := (.cons 
    (.set 1 (.idx (.lst (.cons (.cst (.int 1)) (.cons (.cst (.int 1)) (.cons (.cst (.int 1)) (.cons (.cst (.int 2)) (.cons (.cst (.int 3)) .nil)))))) (.call "_law_draw" (.cons (.var 0) (.cons (.cst (.int 5)) .nil))))) (.cons 
    (.ret (.call "_law_amount" (.cons (.bin .Add (.cst (.int 1)) (.call "_law_draw" (.cons (.var 0) (.cons (.cst (.int 24)) .nil)))) (.cons (.var 1) .nil)))) .nil))
def d__law_gap : Dm := ⟨"_law_gap", 1, 1, 2, b__law_gap, fun _ => []⟩
def ds4 : List Dm := d__law_amount :: ds3
noncomputable def F4 (M : Nat) : Fn := mkF glo M ds4
def N__law_gap : List Str := ["d", "under"]
def P__law_gap : List Str := ["d"]
theorem sc__law_gap : FnScope N__law_gap P__law_gap (defScope (top 55)) := ⟨by kernel_rfl, by kernel_rfl, by kernel_rfl, by decide +kernel, by kernel_rfl, by decide +kernel, by decide +kernel⟩
theorem ck__law_gap : ckSs (gnOf frees bts ds4) N__law_gap 1 (defScope (top 55)) b__law_gap (defBody (top 55)) = true := by decide +kernel
def b__law_pick : Sxs := (.cons 
    (.ret (.idx (.var 1) (.call "_law_draw" (.cons (.var 0) (.cons (.blt .len (.cons (.var 1) .nil)) .nil))))) .nil)
def d__law_pick : Dm := ⟨"_law_pick", 2, 2, 2, b__law_pick, fun _ => []⟩
def ds5 : List Dm := d__law_gap :: ds4
noncomputable def F5 (M : Nat) : Fn := mkF glo M ds5
def N__law_pick : List Str := ["d", "row"]
def P__law_pick : List Str := ["d", "row"]
theorem sc__law_pick : FnScope N__law_pick P__law_pick (defScope (top 36)) := ⟨by kernel_rfl, by kernel_rfl, by kernel_rfl, by decide +kernel, by kernel_rfl, by decide +kernel, by decide +kernel⟩
theorem ck__law_pick : ckSs (gnOf frees bts ds5) N__law_pick 2 (defScope (top 36)) b__law_pick (defBody (top 36)) = true := by decide +kernel
def b__law_part : Sxs := (.cons 
    (.set 1 (.idx (.lst (.cons (.cst (.int 1)) (.cons (.cst (.int 2)) (.cons (.cst (.int 2)) (.cons (.cst (.int 3)) (.cons (.cst (.int 4)) (.cons (.cst (.int 5)) (.cons (.cst (.int 6)) .nil)))))))) (.call "_law_draw" (.cons (.var 0) (.cons (.cst (.int 7)) .nil))))) (.cons 
    (.ret (.call "_law_amount" (.cons (.bin .Add (.cst (.int 1)) (.call "_law_draw" (.cons (.var 0) (.cons (.var 1) .nil)))) (.cons (.var 1) .nil)))) .nil))
def d__law_part : Dm := ⟨"_law_part", 1, 1, 2, b__law_part, fun _ => []⟩
def ds6 : List Dm := d__law_pick :: ds5
noncomputable def F6 (M : Nat) : Fn := mkF glo M ds6
def N__law_part : List Str := ["d", "under"]
def P__law_part : List Str := ["d"]
theorem sc__law_part : FnScope N__law_part P__law_part (defScope (top 54)) := ⟨by kernel_rfl, by kernel_rfl, by kernel_rfl, by decide +kernel, by kernel_rfl, by decide +kernel, by decide +kernel⟩
theorem ck__law_part : ckSs (gnOf frees bts ds6) N__law_part 1 (defScope (top 54)) b__law_part (defBody (top 54)) = true := by decide +kernel
def b__law_rare : Sxs := (.cons 
    (.ret (.cmp .Eq (.call "_law_draw" (.cons (.var 0) (.cons (.var 1) .nil))) (.bin .FloorDiv (.var 1) (.cst (.int 2))))) .nil)
def d__law_rare : Dm := ⟨"_law_rare", 2, 2, 2, b__law_rare, fun _ => []⟩
def ds7 : List Dm := d__law_part :: ds6
noncomputable def F7 (M : Nat) : Fn := mkF glo M ds7
def N__law_rare : List Str := ["d", "many"]
def P__law_rare : List Str := ["d", "many"]
theorem sc__law_rare : FnScope N__law_rare P__law_rare (defScope (top 37)) := ⟨by kernel_rfl, by kernel_rfl, by kernel_rfl, by decide +kernel, by kernel_rfl, by decide +kernel, by decide +kernel⟩
theorem ck__law_rare : ckSs (gnOf frees bts ds7) N__law_rare 2 (defScope (top 37)) b__law_rare (defBody (top 37)) = true := by decide +kernel
def b__law_times : Sxs := (.cons 
    (.ret (.call "_law_amount" (.cons (.bin .Mult (.idx (.var 0) (.cst (.int 0))) (.idx (.var 1) (.cst (.int 0)))) (.cons (.bin .Mult (.idx (.var 0) (.cst (.int 1))) (.idx (.var 1) (.cst (.int 1)))) .nil)))) .nil)
def d__law_times : Dm := ⟨"_law_times", 2, 2, 2, b__law_times, fun _ => []⟩
def ds8 : List Dm := d__law_rare :: ds7
noncomputable def F8 (M : Nat) : Fn := mkF glo M ds8
def N__law_times : List Str := ["a", "b"]
def P__law_times : List Str := ["a", "b"]
theorem sc__law_times : FnScope N__law_times P__law_times (defScope (top 45)) := ⟨by kernel_rfl, by kernel_rfl, by kernel_rfl, by decide +kernel, by kernel_rfl, by decide +kernel, by decide +kernel⟩
theorem ck__law_times : ckSs (gnOf frees bts ds8) N__law_times 2 (defScope (top 45)) b__law_times (defBody (top 45)) = true := by decide +kernel
def b__law_any_layer : Sxs := (.cons 
    (.set 2 (.call "_law_draw" (.cons (.var 0) (.cons (.cst (.int 6)) .nil)))) (.cons 
    (.ite (.cmp .Eq (.var 2) (.cst (.int 0))) (.cons 
    (.ret (.tup (.cons (.cst (.int 0)) (.cons (.cst (.int 1)) .nil)))) .nil) .nil) (.cons 
    (.ite (.cmp .Eq (.var 2) (.cst (.int 1))) (.cons 
    (.ret (.var 1)) .nil) .nil) (.cons 
    (.ite (.cmp .Eq (.var 2) (.cst (.int 2))) (.cons 
    (.ret (.call "_law_times" (.cons (.var 1) (.cons (.call "_law_part" (.cons (.var 0) .nil)) .nil)))) .nil) .nil) (.cons 
    (.ite (.cmp .Eq (.var 2) (.cst (.int 3))) (.cons 
    (.ret (.call "_law_times" (.cons (.var 1) (.cons (.call "_law_amount" (.cons (.bin .Add (.cst (.int 1)) (.call "_law_draw" (.cons (.var 0) (.cons (.cst (.int 12)) .nil)))) (.cons (.bin .Add (.cst (.int 1)) (.call "_law_draw" (.cons (.var 0) (.cons (.cst (.int 3)) .nil)))) .nil))) .nil)))) .nil) .nil) (.cons 
    (.ret (.call "_law_gap" (.cons (.var 0) .nil))) .nil))))))
def d__law_any_layer : Dm := ⟨"_law_any_layer", 2, 2, 3, b__law_any_layer, fun _ => []⟩
def ds9 : List Dm := d__law_times :: ds8
noncomputable def F9 (M : Nat) : Fn := mkF glo M ds9
def N__law_any_layer : List Str := ["d", "limit", "kind"]
def P__law_any_layer : List Str := ["d", "limit"]
theorem sc__law_any_layer : FnScope N__law_any_layer P__law_any_layer (defScope (top 62)) := ⟨by kernel_rfl, by kernel_rfl, by kernel_rfl, by decide +kernel, by kernel_rfl, by decide +kernel, by decide +kernel⟩
theorem ck__law_any_layer : ckSs (gnOf frees bts ds9) N__law_any_layer 2 (defScope (top 62)) b__law_any_layer (defBody (top 62)) = true := by decide +kernel
def B__law_shuffled_0 : Sxs := (.cons 
    (.expr (.chg .append 3 (.cons (.chg .popAt 2 (.cons (.call "_law_draw" (.cons (.var 0) (.cons (.blt .len (.cons (.var 2) .nil)) .nil))) .nil)) .nil))) .nil)
def S__law_shuffled_0 : Sx := (.for_ (.nm 4) (.rng (.blt .len (.cons (.var 2) .nil))) B__law_shuffled_0)
def b__law_shuffled : Sxs := (.cons 
    (.set 2 (.blt .list (.cons (.var 1) .nil))) (.cons 
    (.set 3 (.lst .nil)) (.cons 
    S__law_shuffled_0 (.cons 
    (.ret (.var 3)) .nil))))
def d__law_shuffled : Dm := ⟨"_law_shuffled", 2, 2, 5, b__law_shuffled, fun _ => []⟩
def ds10 : List Dm := d__law_any_layer :: ds9
noncomputable def F10 (M : Nat) : Fn := mkF glo M ds10
def N__law_shuffled : List Str := ["d", "row", "left", "found", "k"]
def P__law_shuffled : List Str := ["d", "row"]
theorem sc__law_shuffled : FnScope N__law_shuffled P__law_shuffled (defScope (top 38)) := ⟨by kernel_rfl, by kernel_rfl, by kernel_rfl, by decide +kernel, by kernel_rfl, by decide +kernel, by decide +kernel⟩
theorem ck__law_shuffled : ckSs (gnOf frees bts ds10) N__law_shuffled 2 (defScope (top 38)) b__law_shuffled (defBody (top 38)) = true := by decide +kernel
def b_reduced : Sxs := (.cons 
    (.ite (.cmp .Eq (.var 1) (.cst (.int 1))) (.cons 
    (.ret (.tup (.cons (.var 0) (.cons (.cst (.int 1)) .nil)))) .nil) .nil) (.cons 
    (.set 2 (.blt .gcd (.cons (.var 0) (.cons (.var 1) .nil)))) (.cons 
    (.ret (.tup (.cons (.bin .FloorDiv (.var 0) (.var 2)) (.cons (.bin .FloorDiv (.var 1) (.var 2)) .nil)))) .nil)))
def d_reduced : Dm := ⟨"reduced", 2, 2, 3, b_reduced, fun _ => []⟩
def ds11 : List Dm := d__law_shuffled :: ds10
noncomputable def F11 (M : Nat) : Fn := mkF glo M ds11
def N_reduced : List Str := ["n", "d", "common"]
def P_reduced : List Str := ["n", "d"]
theorem sc_reduced : FnScope N_reduced P_reduced (defScope (top 8)) := ⟨by kernel_rfl, by kernel_rfl, by kernel_rfl, by decide +kernel, by kernel_rfl, by decide +kernel, by decide +kernel⟩
theorem ck_reduced : ckSs (gnOf frees bts ds11) N_reduced 2 (defScope (top 8)) b_reduced (defBody (top 8)) = true := by decide +kernel
def b_times : Sxs := (.cons 
    (.ret (.call "reduced" (.cons (.bin .Mult (.idx (.var 0) (.cst (.int 0))) (.idx (.var 1) (.cst (.int 0)))) (.cons (.bin .Mult (.idx (.var 0) (.cst (.int 1))) (.idx (.var 1) (.cst (.int 1)))) .nil)))) .nil)
def d_times : Dm := ⟨"times", 2, 2, 2, b_times, fun _ => []⟩
def ds12 : List Dm := d_reduced :: ds11
noncomputable def F12 (M : Nat) : Fn := mkF glo M ds12
def N_times : List Str := ["a", "b"]
def P_times : List Str := ["a", "b"]
theorem sc_times : FnScope N_times P_times (defScope (top 11)) := ⟨by kernel_rfl, by kernel_rfl, by kernel_rfl, by decide +kernel, by kernel_rfl, by decide +kernel, by decide +kernel⟩
theorem ck_times : ckSs (gnOf frees bts ds12) N_times 2 (defScope (top 11)) b_times (defBody (top 11)) = true := by decide +kernel
def b_amount : Sxs := (.cons 
    (.ite (.cmp .Eq (.var 1) (.cst (.int 0))) (.cons 
    .bad .nil) .nil) (.cons 
    (.ite (.cmp .Lt (.var 1) (.cst (.int 0))) (.cons 
    (.ret (.call "reduced" (.cons (.neg (.var 0)) (.cons (.neg (.var 1)) .nil)))) .nil) .nil) (.cons 
    (.ret (.call "reduced" (.cons (.var 0) (.cons (.var 1) .nil)))) .nil)))
def d_amount : Dm := ⟨"amount", 2, 1, 2, b_amount, fun n => ([(.int 1)] : List D).drop (n - 1)⟩
def ds13 : List Dm := d_times :: ds12
noncomputable def F13 (M : Nat) : Fn := mkF glo M ds13
def N_amount : List Str := ["n", "d"]
def P_amount : List Str := ["n", "d"]
theorem sc_amount : FnScope N_amount P_amount (defScope (top 7)) := ⟨by kernel_rfl, by kernel_rfl, by kernel_rfl, by decide +kernel, by kernel_rfl, by decide +kernel, by decide +kernel⟩
theorem ck_amount : ckSs (gnOf frees bts ds13) N_amount 2 (defScope (top 7)) b_amount (defBody (top 7)) = true := by decide +kernel
def b_limit_times : Sxs := (.cons 
    (.ret (.call "times" (.cons (.var 0) (.cons (.call "amount" (.cons (.var 1) .nil)) .nil)))) .nil)
def d_limit_times : Dm := ⟨"limit_times", 2, 2, 2, b_limit_times, fun _ => []⟩
def ds14 : List Dm := d_amount :: ds13
noncomputable def F14 (M : Nat) : Fn := mkF glo M ds14
def N_limit_times : List Str := ["limit", "many"]
def P_limit_times : List Str := ["limit", "many"]
theorem sc_limit_times : FnScope N_limit_times P_limit_times (defScope (top 16)) := ⟨by kernel_rfl, by kernel_rfl, by kernel_rfl, by decide +kernel, by kernel_rfl, by decide +kernel, by decide +kernel⟩
theorem ck_limit_times : ckSs (gnOf frees bts ds14) N_limit_times 2 (defScope (top 16)) b_limit_times (defBody (top 16)) = true := by decide +kernel
def b_year_of_limit : Sxs := (.cons 
    (.ret (.tup (.cons (.tup (.cons (.glo "ZERO") (.cons (.glo "ONE") .nil))) (.cons (.tup (.cons (.call "limit_times" (.cons (.var 0) (.cons (.var 1) .nil))) (.cons (.glo "ZERO") .nil))) .nil)))) .nil)
def d_year_of_limit : Dm := ⟨"year_of_limit", 2, 2, 2, b_year_of_limit, fun _ => []⟩
def ds15 : List Dm := d_limit_times :: ds14
noncomputable def F15 (M : Nat) : Fn := mkF glo M ds15
def N_year_of_limit : List Str := ["limit", "many"]
def P_year_of_limit : List Str := ["limit", "many"]
theorem sc_year_of_limit : FnScope N_year_of_limit P_year_of_limit (defScope (top 17)) := ⟨by kernel_rfl, by kernel_rfl, by kernel_rfl, by decide +kernel, by kernel_rfl, by decide +kernel, by decide +kernel⟩
theorem ck_year_of_limit : ckSs (gnOf frees bts ds15) N_year_of_limit 2 (defScope (top 17)) b_year_of_limit (defBody (top 17)) = true := by decide +kernel
def b_sign_of : Sxs := (.cons 
    (.ite (.cmp .Lt (.idx (.var 0) (.cst (.int 0))) (.cst (.int 0))) (.cons 
    (.ret (.neg (.cst (.int 1)))) .nil) .nil) (.cons 
    (.ite (.cmp .Gt (.idx (.var 0) (.cst (.int 0))) (.cst (.int 0))) (.cons 
    (.ret (.cst (.int 1))) .nil) .nil) (.cons 
    (.ret (.cst (.int 0))) .nil)))
def d_sign_of : Dm := ⟨"sign_of", 1, 1, 1, b_sign_of, fun _ => []⟩
def ds16 : List Dm := d_year_of_limit :: ds15
noncomputable def F16 (M : Nat) : Fn := mkF glo M ds16
def N_sign_of : List Str := ["a"]
def P_sign_of : List Str := ["a"]
theorem sc_sign_of : FnScope N_sign_of P_sign_of (defScope (top 13)) := ⟨by kernel_rfl, by kernel_rfl, by kernel_rfl, by decide +kernel, by kernel_rfl, by decide +kernel, by decide +kernel⟩
theorem ck_sign_of : ckSs (gnOf frees bts ds16) N_sign_of 1 (defScope (top 13)) b_sign_of (defBody (top 13)) = true := by decide +kernel
def b_price_of_limit : Sxs := (.cons 
    (.ite (.or_ (.cons (.cmp .Eq (.var 1) (.cst (.int 0))) (.cons (.cmp .Eq (.call "sign_of" (.cons (.var 2) .nil)) (.cst (.int 0))) .nil))) (.cons 
    (.ret (.tup .nil)) .nil) .nil) (.cons 
    (.ret (.tup (.cons (.tup (.cons (.glo "ZERO") (.cons (.var 2) .nil))) (.cons (.tup (.cons (.call "limit_times" (.cons (.var 0) (.cons (.var 1) .nil))) (.cons (.glo "ZERO") .nil))) .nil)))) .nil))
def d_price_of_limit : Dm := ⟨"price_of_limit", 3, 3, 3, b_price_of_limit, fun _ => []⟩
def ds17 : List Dm := d_sign_of :: ds16
noncomputable def F17 (M : Nat) : Fn := mkF glo M ds17
def N_price_of_limit : List Str := ["limit", "many", "rate"]
def P_price_of_limit : List Str := ["limit", "many", "rate"]
theorem sc_price_of_limit : FnScope N_price_of_limit P_price_of_limit (defScope (top 18)) := ⟨by kernel_rfl, by kernel_rfl, by kernel_rfl, by decide +kernel, by kernel_rfl, by decide +kernel, by decide +kernel⟩
theorem ck_price_of_limit : ckSs (gnOf frees bts ds17) N_price_of_limit 3 (defScope (top 18)) b_price_of_limit (defBody (top 18)) = true := by decide +kernel
def b_reinstated : Sxs := (.cons 
    (.ret (.tup (.cons (.call "year_of_limit" (.cons (.var 0) (.cons (.bin .Add (.var 1) (.cst (.int 1))) .nil))) (.cons (.call "price_of_limit" (.cons (.var 0) (.cons (.var 1) (.cons (.var 2) .nil)))) .nil)))) .nil)
def d_reinstated : Dm := ⟨"reinstated", 3, 3, 3, b_reinstated, fun _ => []⟩
def ds18 : List Dm := d_price_of_limit :: ds17
noncomputable def F18 (M : Nat) : Fn := mkF glo M ds18
def N_reinstated : List Str := ["limit", "times", "rate"]
def P_reinstated : List Str := ["limit", "times", "rate"]
theorem sc_reinstated : FnScope N_reinstated P_reinstated (defScope (top 32)) := ⟨by kernel_rfl, by kernel_rfl, by kernel_rfl, by decide +kernel, by kernel_rfl, by decide +kernel, by decide +kernel⟩
theorem ck_reinstated : ckSs (gnOf frees bts ds18) N_reinstated 3 (defScope (top 32)) b_reinstated (defBody (top 32)) = true := by decide +kernel
def b__law_is_int : Sxs := (.cons 
    (.ret (.and_ (.cons (.isi .int (.var 0)) (.cons (.not_ (.isi .bool (.var 0))) .nil)))) .nil)
def d__law_is_int : Dm := ⟨"_law_is_int", 1, 1, 1, b__law_is_int, fun _ => []⟩
def ds19 : List Dm := d_reinstated :: ds18
noncomputable def F19 (M : Nat) : Fn := mkF glo M ds19
def N__law_is_int : List Str := ["thing"]
def P__law_is_int : List Str := ["thing"]
theorem sc__law_is_int : FnScope N__law_is_int P__law_is_int (defScope (top 39)) := ⟨by kernel_rfl, by kernel_rfl, by kernel_rfl, by decide +kernel, by kernel_rfl, by decide +kernel, by decide +kernel⟩
theorem ck__law_is_int : ckSs (gnOf frees bts ds19) N__law_is_int 1 (defScope (top 39)) b__law_is_int (defBody (top 39)) = true := by decide +kernel
def E__law_is_amount_0 : Ex := (.call "_law_is_int" (.cons (.var 1) .nil))
def C__law_is_amount_0 : Ex := (.comp E__law_is_amount_0 (.nm 1) (.seq (.var 0)) .none [1])
def b__law_is_amount : Sxs := (.cons 
    (.ite (.or_ (.cons (.not_ (.val (.isi .tup (.var 0)))) (.cons (.cmp .NotEq (.blt .len (.cons (.var 0) .nil)) (.cst (.int 2))) (.cons (.not_ (.val (.blt .all (.cons C__law_is_amount_0 .nil)))) .nil)))) (.cons 
    (.ret (.cst (.bl false))) .nil) .nil) (.cons 
    (.ret (.and_ (.cons (.cmp .GtE (.idx (.var 0) (.cst (.int 1))) (.cst (.int 1))) (.cons (.cmp .Eq (.call "_law_gcd" (.cons (.idx (.var 0) (.cst (.int 0))) (.cons (.idx (.var 0) (.cst (.int 1))) .nil))) (.cst (.int 1))) .nil)))) .nil))
def d__law_is_amount : Dm := ⟨"_law_is_amount", 1, 1, 2, b__law_is_amount, fun _ => []⟩
def ds20 : List Dm := d__law_is_int :: ds19
noncomputable def F20 (M : Nat) : Fn := mkF glo M ds20
def N__law_is_amount : List Str := ["thing", "part"]
def P__law_is_amount : List Str := ["thing"]
theorem sc__law_is_amount : FnScope N__law_is_amount P__law_is_amount (defScope (top 49)) := ⟨by kernel_rfl, by kernel_rfl, by kernel_rfl, by decide +kernel, by kernel_rfl, by decide +kernel, by decide +kernel⟩
theorem ck__law_is_amount : ckSs (gnOf frees bts ds20) N__law_is_amount 1 (defScope (top 49)) b__law_is_amount (defBody (top 49)) = true := by decide +kernel
def E__law_is_row_0 : Ex := (.call "_law_is_amount" (.cons (.var 2) .nil))
def C__law_is_row_0 : Ex := (.comp E__law_is_row_0 (.nm 2) (.seq (.var 0)) .none [2])
def b__law_is_row : Sxs := (.cons 
    (.ret (.and_ (.cons (.isi .tup (.var 0)) (.cons (.cmp .Eq (.blt .len (.cons (.var 0) .nil)) (.var 1)) (.cons (.blt .all (.cons C__law_is_row_0 .nil)) .nil))))) .nil)
def d__law_is_row : Dm := ⟨"_law_is_row", 2, 2, 3, b__law_is_row, fun _ => []⟩
def ds21 : List Dm := d__law_is_amount :: ds20
noncomputable def F21 (M : Nat) : Fn := mkF glo M ds21
def N__law_is_row : List Str := ["thing", "many", "part"]
def P__law_is_row : List Str := ["thing", "many"]
theorem sc__law_is_row : FnScope N__law_is_row P__law_is_row (defScope (top 50)) := ⟨by kernel_rfl, by kernel_rfl, by kernel_rfl, by decide +kernel, by kernel_rfl, by decide +kernel, by decide +kernel⟩
theorem ck__law_is_row : ckSs (gnOf frees bts ds21) N__law_is_row 2 (defScope (top 50)) b__law_is_row (defBody (top 50)) = true := by decide +kernel
def b__law_less : Sxs := (.cons 
    (.ret (.cmp .Lt (.bin .Mult (.idx (.var 0) (.cst (.int 0))) (.idx (.var 1) (.cst (.int 1)))) (.bin .Mult (.idx (.var 1) (.cst (.int 0))) (.idx (.var 0) (.cst (.int 1)))))) .nil)
def d__law_less : Dm := ⟨"_law_less", 2, 2, 2, b__law_less, fun _ => []⟩
def ds22 : List Dm := d__law_is_row :: ds21
noncomputable def F22 (M : Nat) : Fn := mkF glo M ds22
def N__law_less : List Str := ["a", "b"]
def P__law_less : List Str := ["a", "b"]
theorem sc__law_less : FnScope N__law_less P__law_less (defScope (top 46)) := ⟨by kernel_rfl, by kernel_rfl, by kernel_rfl, by decide +kernel, by kernel_rfl, by decide +kernel, by decide +kernel⟩
theorem ck__law_less : ckSs (gnOf frees bts ds22) N__law_less 2 (defScope (top 46)) b__law_less (defBody (top 46)) = true := by decide +kernel
def B__law_is_line_0 : Sxs := (.cons 
    (.set 3 (.idx (.var 0) (.var 2))) (.cons 
    (.ite (.not_ (.val (.call "_law_is_row" (.cons (.var 3) (.cons (.cst (.int 2)) .nil))))) (.cons 
    (.ret (.cst (.bl false))) .nil) .nil) (.cons 
    (.ite (.or_ (.cons (.cmp .Eq (.idx (.var 3) (.cst (.int 1))) (.var 1)) (.cons (.cmp .Lt (.idx (.idx (.var 3) (.cst (.int 1))) (.cst (.int 0))) (.cst (.int 0))) (.cons (.val (.call "_law_less" (.cons (.tup (.cons (.cst (.int 1)) (.cons (.cst (.int 1)) .nil))) (.cons (.idx (.var 3) (.cst (.int 1))) .nil)))) (.cons (.cmp .Lt (.idx (.idx (.var 3) (.cst (.int 0))) (.cst (.int 0))) (.cst (.int 0))) .nil))))) (.cons 
    (.ret (.cst (.bl false))) .nil) .nil) (.cons 
    (.ite (.and_ (.cons (.cmp .Gt (.var 2) (.cst (.int 0))) (.cons (.not_ (.val (.call "_law_less" (.cons (.idx (.idx (.var 0) (.bin .Sub (.var 2) (.cst (.int 1)))) (.cst (.int 0))) (.cons (.idx (.var 3) (.cst (.int 0))) .nil))))) .nil))) (.cons 
    (.ret (.cst (.bl false))) .nil) .nil) (.cons 
    (.set 1 (.idx (.var 3) (.cst (.int 1)))) .nil)))))
def S__law_is_line_0 : Sx := (.for_ (.nm 2) (.rng (.blt .len (.cons (.var 0) .nil))) B__law_is_line_0)
def b__law_is_line : Sxs := (.cons 
    (.ite (.not_ (.val (.isi .tup (.var 0)))) (.cons 
    (.ret (.cst (.bl false))) .nil) .nil) (.cons 
    (.set 1 (.tup (.cons (.cst (.int 0)) (.cons (.cst (.int 1)) .nil)))) (.cons 
    S__law_is_line_0 (.cons 
    (.ret (.cst (.bl true))) .nil))))
def d__law_is_line : Dm := ⟨"_law_is_line", 1, 1, 4, b__law_is_line, fun _ => []⟩
def ds23 : List Dm := d__law_less :: ds22
noncomputable def F23 (M : Nat) : Fn := mkF glo M ds23
def N__law_is_line : List Str := ["thing", "last", "k", "pair"]
def P__law_is_line : List Str := ["thing"]
theorem sc__law_is_line : FnScope N__law_is_line P__law_is_line (defScope (top 53)) := ⟨by kernel_rfl, by kernel_rfl, by kernel_rfl, by decide +kernel, by kernel_rfl, by decide +kernel, by decide +kernel⟩
theorem ck__law_is_line : ckSs (gnOf frees bts ds23) N__law_is_line 1 (defScope (top 53)) b__law_is_line (defBody (top 53)) = true := by decide +kernel
def b__law_int : Sxs := (.cons 
    (.ret (.tup (.cons (.var 0) (.cons (.cst (.int 1)) .nil)))) .nil)
def d__law_int : Dm := ⟨"_law_int", 1, 1, 1, b__law_int, fun _ => []⟩
def ds24 : List Dm := d__law_is_line :: ds23
noncomputable def F24 (M : Nat) : Fn := mkF glo M ds24
def N__law_int : List Str := ["n"]
def P__law_int : List Str := ["n"]
theorem sc__law_int : FnScope N__law_int P__law_int (defScope (top 42)) := ⟨by kernel_rfl, by kernel_rfl, by kernel_rfl, by decide +kernel, by kernel_rfl, by decide +kernel, by decide +kernel⟩
theorem ck__law_int : ckSs (gnOf frees bts ds24) N__law_int 1 (defScope (top 42)) b__law_int (defBody (top 42)) = true := by decide +kernel
def b__law_own_year : Sxs := (.cons 
    (.ret (.tup (.cons (.tup (.cons (.tup (.cons (.cst (.int 0)) (.cons (.cst (.int 1)) .nil))) (.cons (.tup (.cons (.cst (.int 1)) (.cons (.cst (.int 1)) .nil))) .nil))) (.cons (.tup (.cons (.call "_law_times" (.cons (.var 0) (.cons (.call "_law_int" (.cons (.bin .Add (.var 1) (.cst (.int 1))) .nil)) .nil))) (.cons (.tup (.cons (.cst (.int 0)) (.cons (.cst (.int 1)) .nil))) .nil))) .nil)))) .nil)
def d__law_own_year : Dm := ⟨"_law_own_year", 2, 2, 2, b__law_own_year, fun _ => []⟩
def ds25 : List Dm := d__law_int :: ds24
noncomputable def F25 (M : Nat) : Fn := mkF glo M ds25
def N__law_own_year : List Str := ["limit", "many"]
def P__law_own_year : List Str := ["limit", "many"]
theorem sc__law_own_year : FnScope N__law_own_year P__law_own_year (defScope (top 60)) := ⟨by kernel_rfl, by kernel_rfl, by kernel_rfl, by decide +kernel, by kernel_rfl, by decide +kernel, by decide +kernel⟩
theorem ck__law_own_year : ckSs (gnOf frees bts ds25) N__law_own_year 2 (defScope (top 60)) b__law_own_year (defBody (top 60)) = true := by decide +kernel
def b__law_own_price : Sxs := (.cons 
    (.ite (.or_ (.cons (.cmp .Eq (.var 1) (.cst (.int 0))) (.cons (.cmp .Eq (.idx (.var 2) (.cst (.int 0))) (.cst (.int 0))) .nil))) (.cons 
    (.ret (.tup .nil)) .nil) .nil) (.cons 
    (.ret (.tup (.cons (.tup (.cons (.tup (.cons (.cst (.int 0)) (.cons (.cst (.int 1)) .nil))) (.cons (.var 2) .nil))) (.cons (.tup (.cons (.call "_law_times" (.cons (.var 0) (.cons (.call "_law_int" (.cons (.var 1) .nil)) .nil))) (.cons (.tup (.cons (.cst (.int 0)) (.cons (.cst (.int 1)) .nil))) .nil))) .nil)))) .nil))
def d__law_own_price : Dm := ⟨"_law_own_price", 3, 3, 3, b__law_own_price, fun _ => []⟩
def ds26 : List Dm := d__law_own_year :: ds25
noncomputable def F26 (M : Nat) : Fn := mkF glo M ds26
def N__law_own_price : List Str := ["limit", "many", "rate"]
def P__law_own_price : List Str := ["limit", "many", "rate"]
theorem sc__law_own_price : FnScope N__law_own_price P__law_own_price (defScope (top 61)) := ⟨by kernel_rfl, by kernel_rfl, by kernel_rfl, by decide +kernel, by kernel_rfl, by decide +kernel, by decide +kernel⟩
theorem ck__law_own_price : ckSs (gnOf frees bts ds26) N__law_own_price 3 (defScope (top 61)) b__law_own_price (defBody (top 61)) = true := by decide +kernel
def b__law_smaller : Sxs := (.cons 
    (.ret (.idx (.lst (.cons (.var 0) (.cons (.var 1) .nil))) (.blt .int (.cons (.call "_law_less" (.cons (.var 1) (.cons (.var 0) .nil))) .nil)))) .nil)
def d__law_smaller : Dm := ⟨"_law_smaller", 2, 2, 2, b__law_smaller, fun _ => []⟩
def ds27 : List Dm := d__law_own_price :: ds26
noncomputable def F27 (M : Nat) : Fn := mkF glo M ds27
def N__law_smaller : List Str := ["a", "b"]
def P__law_smaller : List Str := ["a", "b"]
theorem sc__law_smaller : FnScope N__law_smaller P__law_smaller (defScope (top 47)) := ⟨by kernel_rfl, by kernel_rfl, by kernel_rfl, by decide +kernel, by kernel_rfl, by decide +kernel, by decide +kernel⟩
theorem ck__law_smaller : ckSs (gnOf frees bts ds27) N__law_smaller 2 (defScope (top 47)) b__law_smaller (defBody (top 47)) = true := by decide +kernel
def b__law_minus : Sxs := (.cons 
    (.ret (.call "_law_amount" (.cons (.bin .Sub (.bin .Mult (.idx (.var 0) (.cst (.int 0))) (.idx (.var 1) (.cst (.int 1)))) (.bin .Mult (.idx (.var 1) (.cst (.int 0))) (.idx (.var 0) (.cst (.int 1))))) (.cons (.bin .Mult (.idx (.var 0) (.cst (.int 1))) (.idx (.var 1) (.cst (.int 1)))) .nil)))) .nil)
def d__law_minus : Dm := ⟨"_law_minus", 2, 2, 2, b__law_minus, fun _ => []⟩
def ds28 : List Dm := d__law_smaller :: ds27
noncomputable def F28 (M : Nat) : Fn := mkF glo M ds28
def N__law_minus : List Str := ["a", "b"]
def P__law_minus : List Str := ["a", "b"]
theorem sc__law_minus : FnScope N__law_minus P__law_minus (defScope (top 44)) := ⟨by kernel_rfl, by kernel_rfl, by kernel_rfl, by decide +kernel, by kernel_rfl, by decide +kernel, by decide +kernel⟩
theorem ck__law_minus : ckSs (gnOf frees bts ds28) N__law_minus 2 (defScope (top 44)) b__law_minus (defBody (top 44)) = true := by decide +kernel
def b__law_plus : Sxs := (.cons 
    (.ret (.call "_law_amount" (.cons (.bin .Add (.bin .Mult (.idx (.var 0) (.cst (.int 0))) (.idx (.var 1) (.cst (.int 1)))) (.bin .Mult (.idx (.var 1) (.cst (.int 0))) (.idx (.var 0) (.cst (.int 1))))) (.cons (.bin .Mult (.idx (.var 0) (.cst (.int 1))) (.idx (.var 1) (.cst (.int 1)))) .nil)))) .nil)
def d__law_plus : Dm := ⟨"_law_plus", 2, 2, 2, b__law_plus, fun _ => []⟩
def ds29 : List Dm := d__law_minus :: ds28
noncomputable def F29 (M : Nat) : Fn := mkF glo M ds29
def N__law_plus : List Str := ["a", "b"]
def P__law_plus : List Str := ["a", "b"]
theorem sc__law_plus : FnScope N__law_plus P__law_plus (defScope (top 43)) := ⟨by kernel_rfl, by kernel_rfl, by kernel_rfl, by decide +kernel, by kernel_rfl, by decide +kernel, by decide +kernel⟩
theorem ck__law_plus : ckSs (gnOf frees bts ds29) N__law_plus 2 (defScope (top 43)) b__law_plus (defBody (top 43)) = true := by decide +kernel
def B__law_ledger_0 : Sxs := (.cons 
    (.set 9 (.call "_law_smaller" (.cons (.var 8) (.cons (.var 4) .nil)))) (.cons 
    (.set 10 (.call "_law_smaller" (.cons (.var 9) (.cons (.var 5) .nil)))) (.cons 
    (.expr (.chg .append 7 (.cons (.tup (.cons (.var 8) (.cons (.var 6) (.cons (.var 9) (.cons (.call "_law_times" (.cons (.var 2) (.cons (.var 10) .nil))) .nil))))) .nil))) (.cons 
    (.set 4 (.call "_law_minus" (.cons (.var 4) (.cons (.var 9) .nil)))) (.cons 
    (.set 5 (.call "_law_minus" (.cons (.var 5) (.cons (.var 10) .nil)))) (.cons 
    (.set 6 (.call "_law_plus" (.cons (.var 6) (.cons (.var 8) .nil)))) .nil))))))
def S__law_ledger_0 : Sx := (.for_ (.nm 8) (.seq (.var 3)) B__law_ledger_0)
def b__law_ledger : Sxs := (.cons 
    (.set 4 (.call "_law_times" (.cons (.var 0) (.cons (.call "_law_int" (.cons (.bin .Add (.var 1) (.cst (.int 1))) .nil)) .nil)))) (.cons 
    (.set 5 (.call "_law_times" (.cons (.var 0) (.cons (.call "_law_int" (.cons (.var 1) .nil)) .nil)))) (.cons 
    (.set 6 (.tup (.cons (.cst (.int 0)) (.cons (.cst (.int 1)) .nil)))) (.cons 
    (.set 7 (.lst .nil)) (.cons 
    S__law_ledger_0 (.cons 
    (.ret (.blt .tuple (.cons (.var 7) .nil))) .nil))))))
def d__law_ledger : Dm := ⟨"_law_ledger", 4, 4, 11, b__law_ledger, fun _ => []⟩
def ds30 : List Dm := d__law_plus :: ds29
noncomputable def F30 (M : Nat) : Fn := mkF glo M ds30
def N__law_ledger : List Str := ["limit", "many", "rate", "layers", "left", "back", "reached", "found", "layer", "paid", "filled"]
def P__law_ledger : List Str := ["limit", "many", "rate", "layers"]
theorem sc__law_ledger : FnScope N__law_ledger P__law_ledger (defScope (top 59)) := ⟨by kernel_rfl, by kernel_rfl, by kernel_rfl, by decide +kernel, by kernel_rfl, by decide +kernel, by decide +kernel⟩
theorem ck__law_ledger : ckSs (gnOf frees bts ds30) N__law_ledger 4 (defScope (top 59)) b__law_ledger (defBody (top 59)) = true := by decide +kernel
def b_plus : Sxs := (.cons 
    (.ite (.cmp .Eq (.idx (.var 0) (.cst (.int 1))) (.idx (.var 1) (.cst (.int 1)))) (.cons 
    (.ret (.call "reduced" (.cons (.bin .Add (.idx (.var 0) (.cst (.int 0))) (.idx (.var 1) (.cst (.int 0)))) (.cons (.idx (.var 0) (.cst (.int 1))) .nil)))) .nil) .nil) (.cons 
    (.ret (.call "reduced" (.cons (.bin .Add (.bin .Mult (.idx (.var 0) (.cst (.int 0))) (.idx (.var 1) (.cst (.int 1)))) (.bin .Mult (.idx (.var 1) (.cst (.int 0))) (.idx (.var 0) (.cst (.int 1))))) (.cons (.bin .Mult (.idx (.var 0) (.cst (.int 1))) (.idx (.var 1) (.cst (.int 1)))) .nil)))) .nil))
def d_plus : Dm := ⟨"plus", 2, 2, 2, b_plus, fun _ => []⟩
def ds31 : List Dm := d__law_ledger :: ds30
noncomputable def F31 (M : Nat) : Fn := mkF glo M ds31
def N_plus : List Str := ["a", "b"]
def P_plus : List Str := ["a", "b"]
theorem sc_plus : FnScope N_plus P_plus (defScope (top 9)) := ⟨by kernel_rfl, by kernel_rfl, by kernel_rfl, by decide +kernel, by kernel_rfl, by decide +kernel, by decide +kernel⟩
theorem ck_plus : ckSs (gnOf frees bts ds31) N_plus 2 (defScope (top 9)) b_plus (defBody (top 9)) = true := by decide +kernel
def B_sums_before_0 : Sxs := (.cons 
    (.expr (.chg .append 1 (.cons (.var 2) .nil))) (.cons 
    (.set 2 (.call "plus" (.cons (.var 2) (.cons (.var 3) .nil)))) .nil))
def S_sums_before_0 : Sx := (.for_ (.nm 3) (.seq (.var 0)) B_sums_before_0)
def b_sums_before : Sxs := (.cons 
    (.set 1 (.lst .nil)) (.cons 
    (.set 2 (.glo "ZERO")) (.cons 
    S_sums_before_0 (.cons 
    (.ret (.var 1)) .nil))))
def d_sums_before : Dm := ⟨"sums_before", 1, 1, 4, b_sums_before, fun _ => []⟩
def ds32 : List Dm := d_plus :: ds31
noncomputable def F32 (M : Nat) : Fn := mkF glo M ds32
def N_sums_before : List Str := ["parts", "found", "reached", "part"]
def P_sums_before : List Str := ["parts"]
theorem sc_sums_before : FnScope N_sums_before P_sums_before (defScope (top 23)) := ⟨by kernel_rfl, by kernel_rfl, by kernel_rfl, by decide +kernel, by kernel_rfl, by decide +kernel, by decide +kernel⟩
theorem ck_sums_before : ckSs (gnOf frees bts ds32) N_sums_before 1 (defScope (top 23)) b_sums_before (defBody (top 23)) = true := by decide +kernel
def b_minus : Sxs := (.cons 
    (.ite (.cmp .Eq (.idx (.var 0) (.cst (.int 1))) (.idx (.var 1) (.cst (.int 1)))) (.cons 
    (.ret (.call "reduced" (.cons (.bin .Sub (.idx (.var 0) (.cst (.int 0))) (.idx (.var 1) (.cst (.int 0)))) (.cons (.idx (.var 0) (.cst (.int 1))) .nil)))) .nil) .nil) (.cons 
    (.ret (.call "reduced" (.cons (.bin .Sub (.bin .Mult (.idx (.var 0) (.cst (.int 0))) (.idx (.var 1) (.cst (.int 1)))) (.bin .Mult (.idx (.var 1) (.cst (.int 0))) (.idx (.var 0) (.cst (.int 1))))) (.cons (.bin .Mult (.idx (.var 0) (.cst (.int 1))) (.idx (.var 1) (.cst (.int 1)))) .nil)))) .nil))
def d_minus : Dm := ⟨"minus", 2, 2, 2, b_minus, fun _ => []⟩
def ds33 : List Dm := d_sums_before :: ds32
noncomputable def F33 (M : Nat) : Fn := mkF glo M ds33
def N_minus : List Str := ["a", "b"]
def P_minus : List Str := ["a", "b"]
theorem sc_minus : FnScope N_minus P_minus (defScope (top 10)) := ⟨by kernel_rfl, by kernel_rfl, by kernel_rfl, by decide +kernel, by kernel_rfl, by decide +kernel, by decide +kernel⟩
theorem ck_minus : ckSs (gnOf frees bts ds33) N_minus 2 (defScope (top 10)) b_minus (defBody (top 10)) = true := by decide +kernel
def b_is_less : Sxs := (.cons 
    (.ret (.cmp .Lt (.bin .Mult (.idx (.var 0) (.cst (.int 0))) (.idx (.var 1) (.cst (.int 1)))) (.bin .Mult (.idx (.var 1) (.cst (.int 0))) (.idx (.var 0) (.cst (.int 1)))))) .nil)
def d_is_less : Dm := ⟨"is_less", 2, 2, 2, b_is_less, fun _ => []⟩
def ds34 : List Dm := d_minus :: ds33
noncomputable def F34 (M : Nat) : Fn := mkF glo M ds34
def N_is_less : List Str := ["a", "b"]
def P_is_less : List Str := ["a", "b"]
theorem sc_is_less : FnScope N_is_less P_is_less (defScope (top 12)) := ⟨by kernel_rfl, by kernel_rfl, by kernel_rfl, by decide +kernel, by kernel_rfl, by decide +kernel, by decide +kernel⟩
theorem ck_is_less : ckSs (gnOf frees bts ds34) N_is_less 2 (defScope (top 12)) b_is_less (defBody (top 12)) = true := by decide +kernel
def B_value_at_0 : Sxs := (.cons 
    (.ite (.not_ (.val (.call "is_less" (.cons (.var 5) (.cons (.var 1) .nil))))) (.cons 
    .brk .nil) .nil) (.cons 
    (.set 2 (.call "plus" (.cons (.var 2) (.cons (.call "times" (.cons (.var 4) (.cons (.call "minus" (.cons (.var 5) (.cons (.var 3) .nil))) .nil))) .nil)))) (.cons 
    (.set 3 (.var 5)) (.cons 
    (.set 4 (.var 6)) .nil))))
def S_value_at_0 : Sx := (.for_ (.tp [5, 6]) (.seq (.var 0)) B_value_at_0)
def b_value_at : Sxs := (.cons 
    (.set 2 (.glo "ZERO")) (.cons 
    (.set 3 (.glo "ZERO")) (.cons 
    (.set 4 (.glo "ZERO")) (.cons 
    S_value_at_0 (.cons 
    (.ret (.call "plus" (.cons (.var 2) (.cons (.call "times" (.cons (.var 4) (.cons (.call "minus" (.cons (.var 1) (.cons (.var 3) .nil))) .nil))) .nil)))) .nil)))))
def d_value_at : Dm := ⟨"value_at", 2, 2, 7, b_value_at, fun _ => []⟩
def ds35 : List Dm := d_is_less :: ds34
noncomputable def F35 (M : Nat) : Fn := mkF glo M ds35
def N_value_at : List Str := ["line", "x", "gained", "start", "slope", "knot", "rise"]
def P_value_at : List Str := ["line", "x"]
theorem sc_value_at : FnScope N_value_at P_value_at (defScope (top 20)) := ⟨by kernel_rfl, by kernel_rfl, by kernel_rfl, by decide +kernel, by kernel_rfl, by decide +kernel, by decide +kernel⟩
theorem ck_value_at : ckSs (gnOf frees bts ds35) N_value_at 2 (defScope (top 20)) b_value_at (defBody (top 20)) = true := by decide +kernel
def b_rise : Sxs := (.cons 
    (.ret (.call "minus" (.cons (.call "value_at" (.cons (.var 0) (.cons (.call "plus" (.cons (.var 1) (.cons (.var 2) .nil))) .nil))) (.cons (.call "value_at" (.cons (.var 0) (.cons (.var 1) .nil))) .nil)))) .nil)
def d_rise : Dm := ⟨"rise", 3, 3, 3, b_rise, fun _ => []⟩
def ds36 : List Dm := d_value_at :: ds35
noncomputable def F36 (M : Nat) : Fn := mkF glo M ds36
def N_rise : List Str := ["line", "low", "by"]
def P_rise : List Str := ["line", "low", "by"]
theorem sc_rise : FnScope N_rise P_rise (defScope (top 22)) := ⟨by kernel_rfl, by kernel_rfl, by kernel_rfl, by decide +kernel, by kernel_rfl, by decide +kernel, by decide +kernel⟩
theorem ck_rise : ckSs (gnOf frees bts ds36) N_rise 3 (defScope (top 22)) b_rise (defBody (top 22)) = true := by decide +kernel
def B_rises_0 : Sxs := (.cons 
    (.expr (.chg .append 2 (.cons (.call "rise" (.cons (.var 0) (.cons (.var 3) (.cons (.var 4) .nil)))) .nil))) .nil)
def S_rises_0 : Sx := (.for_ (.tp [3, 4]) (.zip (.cons (.call "sums_before" (.cons (.var 1) .nil)) (.cons (.var 1) .nil))) B_rises_0)
def b_rises : Sxs := (.cons 
    (.set 2 (.lst .nil)) (.cons 
    S_rises_0 (.cons 
    (.ret (.var 2)) .nil)))
def d_rises : Dm := ⟨"rises", 2, 2, 5, b_rises, fun _ => []⟩
def ds37 : List Dm := d_rise :: ds36
noncomputable def F37 (M : Nat) : Fn := mkF glo M ds37
def N_rises : List Str := ["line", "parts", "found", "low", "part"]
def P_rises : List Str := ["line", "parts"]
theorem sc_rises : FnScope N_rises P_rises (defScope (top 24)) := ⟨by kernel_rfl, by kernel_rfl, by kernel_rfl, by decide +kernel, by kernel_rfl, by decide +kernel, by decide +kernel⟩
theorem ck_rises : ckSs (gnOf frees bts ds37) N_rises 2 (defScope (top 24)) b_rises (defBody (top 24)) = true := by decide +kernel
def B_statement_0 : Sxs := (.cons 
    (.expr (.chg .append 6 (.cons (.tup (.cons (.idx (.var 2) (.var 7)) (.cons (.idx (.var 3) (.var 7)) (.cons (.idx (.var 4) (.var 7)) (.cons (.idx (.var 5) (.var 7)) .nil))))) .nil))) .nil)
def S_statement_0 : Sx := (.for_ (.nm 7) (.rng (.blt .len (.cons (.var 2) .nil))) B_statement_0)
def b_statement : Sxs := (.cons 
    (.set 3 (.call "sums_before" (.cons (.var 2) .nil))) (.cons 
    (.set 4 (.call "rises" (.cons (.var 0) (.cons (.var 2) .nil)))) (.cons 
    (.set 5 (.call "rises" (.cons (.var 1) (.cons (.var 4) .nil)))) (.cons 
    (.set 6 (.lst .nil)) (.cons 
    S_statement_0 (.cons 
    (.ret (.blt .tuple (.cons (.var 6) .nil))) .nil))))))
def d_statement : Dm := ⟨"statement", 3, 3, 8, b_statement, fun _ => []⟩
def ds38 : List Dm := d_rises :: ds37
noncomputable def F38 (M : Nat) : Fn := mkF glo M ds38
def N_statement : List Str := ["year", "price", "layers", "before", "paid", "due", "rows", "at"]
def P_statement : List Str := ["year", "price", "layers"]
theorem sc_statement : FnScope N_statement P_statement (defScope (top 26)) := ⟨by kernel_rfl, by kernel_rfl, by kernel_rfl, by decide +kernel, by kernel_rfl, by decide +kernel, by decide +kernel⟩
theorem ck_statement : ckSs (gnOf frees bts ds38) N_statement 3 (defScope (top 26)) b_statement (defBody (top 26)) = true := by decide +kernel
def B_total_0 : Sxs := (.cons 
    (.set 1 (.call "plus" (.cons (.var 1) (.cons (.var 2) .nil)))) .nil)
def S_total_0 : Sx := (.for_ (.nm 2) (.seq (.var 0)) B_total_0)
def b_total : Sxs := (.cons 
    (.set 1 (.glo "ZERO")) (.cons 
    S_total_0 (.cons 
    (.ret (.var 1)) .nil)))
def d_total : Dm := ⟨"total", 1, 1, 3, b_total, fun _ => []⟩
def ds39 : List Dm := d_statement :: ds38
noncomputable def F39 (M : Nat) : Fn := mkF glo M ds39
def N_total : List Str := ["amounts", "found", "part"]
def P_total : List Str := ["amounts"]
theorem sc_total : FnScope N_total P_total (defScope (top 14)) := ⟨by kernel_rfl, by kernel_rfl, by kernel_rfl, by decide +kernel, by kernel_rfl, by decide +kernel, by decide +kernel⟩
theorem ck_total : ckSs (gnOf frees bts ds39) N_total 1 (defScope (top 14)) b_total (defBody (top 14)) = true := by decide +kernel
def E_sum_of_parts_0 : Ex := (.idx (.var 2) (.var 1))
def C_sum_of_parts_0 : Ex := (.comp E_sum_of_parts_0 (.nm 2) (.seq (.var 0)) .none [2])
def b_sum_of_parts : Sxs := (.cons 
    (.ret (.call "total" (.cons C_sum_of_parts_0 .nil))) .nil)
def d_sum_of_parts : Dm := ⟨"sum_of_parts", 2, 2, 3, b_sum_of_parts, fun _ => []⟩
def ds40 : List Dm := d_total :: ds39
noncomputable def F40 (M : Nat) : Fn := mkF glo M ds40
def N_sum_of_parts : List Str := ["rows", "number", "row"]
def P_sum_of_parts : List Str := ["rows", "number"]
theorem sc_sum_of_parts : FnScope N_sum_of_parts P_sum_of_parts (defScope (top 27)) := ⟨by kernel_rfl, by kernel_rfl, by kernel_rfl, by decide +kernel, by kernel_rfl, by decide +kernel, by decide +kernel⟩
theorem ck_sum_of_parts : ckSs (gnOf frees bts ds40) N_sum_of_parts 2 (defScope (top 27)) b_sum_of_parts (defBody (top 27)) = true := by decide +kernel
def b_totals : Sxs := (.cons 
    (.set 3 (.call "statement" (.cons (.var 0) (.cons (.var 1) (.cons (.var 2) .nil))))) (.cons 
    (.ret (.tup (.cons (.call "sum_of_parts" (.cons (.var 3) (.cons (.cst (.int 0)) .nil))) (.cons (.call "sum_of_parts" (.cons (.var 3) (.cons (.cst (.int 2)) .nil))) (.cons (.call "sum_of_parts" (.cons (.var 3) (.cons (.cst (.int 3)) .nil))) .nil))))) .nil))
def d_totals : Dm := ⟨"totals", 3, 3, 4, b_totals, fun _ => []⟩
def ds41 : List Dm := d_sum_of_parts :: ds40
noncomputable def F41 (M : Nat) : Fn := mkF glo M ds41
def N_totals : List Str := ["year", "price", "layers", "rows"]
def P_totals : List Str := ["year", "price", "layers"]
theorem sc_totals : FnScope N_totals P_totals (defScope (top 28)) := ⟨by kernel_rfl, by kernel_rfl, by kernel_rfl, by decide +kernel, by kernel_rfl, by decide +kernel, by decide +kernel⟩
theorem ck_totals : ckSs (gnOf frees bts ds41) N_totals 3 (defScope (top 28)) b_totals (defBody (top 28)) = true := by decide +kernel
def B__law_total_0 : Sxs := (.cons 
    (.set 1 (.call "_law_plus" (.cons (.var 1) (.cons (.var 2) .nil)))) .nil)
def S__law_total_0 : Sx := (.for_ (.nm 2) (.seq (.var 0)) B__law_total_0)
def b__law_total : Sxs := (.cons 
    (.set 1 (.tup (.cons (.cst (.int 0)) (.cons (.cst (.int 1)) .nil)))) (.cons 
    S__law_total_0 (.cons 
    (.ret (.var 1)) .nil)))
def d__law_total : Dm := ⟨"_law_total", 1, 1, 3, b__law_total, fun _ => []⟩
def ds42 : List Dm := d_totals :: ds41
noncomputable def F42 (M : Nat) : Fn := mkF glo M ds42
def N__law_total : List Str := ["row", "found", "part"]
def P__law_total : List Str := ["row"]
theorem sc__law_total : FnScope N__law_total P__law_total (defScope (top 48)) := ⟨by kernel_rfl, by kernel_rfl, by kernel_rfl, by decide +kernel, by kernel_rfl, by decide +kernel, by decide +kernel⟩
theorem ck__law_total : ckSs (gnOf frees bts ds42) N__law_total 1 (defScope (top 48)) b__law_total (defBody (top 48)) = true := by decide +kernel
def E__law_ledger_right_0 : Ex := (.call "_law_is_row" (.cons (.var 8) (.cons (.cst (.int 4)) .nil)))
def C__law_ledger_right_0 : Ex := (.comp E__law_ledger_right_0 (.nm 8) (.seq (.var 4)) .none [8])
def E__law_ledger_right_2 : Ex := (.idx (.var 8) (.var 7))
def C__law_ledger_right_2 : Ex := (.comp E__law_ledger_right_2 (.nm 8) (.seq (.var 3)) .none [8])
def E__law_ledger_right_1 : Ex := (.call "_law_total" (.cons C__law_ledger_right_2 .nil))
def C__law_ledger_right_1 : Ex := (.comp E__law_ledger_right_1 (.nm 7) (.seq (.tup (.cons (.cst (.int 0)) (.cons (.cst (.int 2)) (.cons (.cst (.int 3)) .nil))))) .none [7])
def b__law_ledger_right : Sxs := (.cons 
    (.set 4 (.call "statement" (.cons (.var 0) (.cons (.var 1) (.cons (.var 2) .nil))))) (.cons 
    (.ite (.or_ (.cons (.not_ (.val (.isi .tup (.var 4)))) (.cons (.not_ (.val (.blt .all (.cons C__law_ledger_right_0 .nil)))) (.cons (.cmp .NotEq (.var 4) (.var 3)) .nil)))) (.cons 
    (.ret (.cst (.bl false))) .nil) .nil) (.cons 
    (.set 5 (.call "totals" (.cons (.var 0) (.cons (.var 1) (.cons (.var 2) .nil))))) (.cons 
    (.set 6 C__law_ledger_right_1) (.cons 
    (.ret (.and_ (.cons (.call "_law_is_row" (.cons (.var 5) (.cons (.cst (.int 3)) .nil))) (.cons (.cmp .Eq (.var 5) (.blt .tuple (.cons (.var 6) .nil))) .nil)))) .nil)))))
def d__law_ledger_right : Dm := ⟨"_law_ledger_right", 4, 4, 9, b__law_ledger_right, fun _ => []⟩
def ds43 : List Dm := d__law_total :: ds42
noncomputable def F43 (M : Nat) : Fn := mkF glo M ds43
def N__law_ledger_right : List Str := ["year", "price", "layers", "due", "told", "sums", "parts", "k", "row"]
def P__law_ledger_right : List Str := ["year", "price", "layers", "due"]
theorem sc__law_ledger_right : FnScope N__law_ledger_right P__law_ledger_right (defScope (top 66)) := ⟨by kernel_rfl, by kernel_rfl, by kernel_rfl, by decide +kernel, by kernel_rfl, by decide +kernel, by decide +kernel⟩
theorem ck__law_ledger_right : ckSs (gnOf frees bts ds43) N__law_ledger_right 4 (defScope (top 66)) b__law_ledger_right (defBody (top 66)) = true := by decide +kernel
def E__law_unlike_0 : Ex := (.var 2)
def C__law_unlike_0 : Ex := (.comp E__law_unlike_0 (.nm 2) (.rng (.blt .len (.cons (.var 0) .nil))) (.some (.cmp .NotEq (.idx (.var 0) (.var 2)) (.idx (.var 1) (.var 2)))) [2])
def b__law_unlike : Sxs := (.cons 
    (.ret (.blt .tuple (.cons C__law_unlike_0 .nil))) .nil)
def d__law_unlike : Dm := ⟨"_law_unlike", 2, 2, 3, b__law_unlike, fun _ => []⟩
def ds44 : List Dm := d__law_ledger_right :: ds43
noncomputable def F44 (M : Nat) : Fn := mkF glo M ds44
def N__law_unlike : List Str := ["rows", "others", "k"]
def P__law_unlike : List Str := ["rows", "others"]
theorem sc__law_unlike : FnScope N__law_unlike P__law_unlike (defScope (top 63)) := ⟨by kernel_rfl, by kernel_rfl, by kernel_rfl, by decide +kernel, by kernel_rfl, by decide +kernel, by decide +kernel⟩
theorem ck__law_unlike : ckSs (gnOf frees bts ds44) N__law_unlike 2 (defScope (top 63)) b__law_unlike (defBody (top 63)) = true := by decide +kernel
def b__law_replaced : Sxs := (.cons 
    (.ret (.bin .Add (.bin .Add (.slc (.var 0) .none (.some (.var 1))) (.tup (.cons (.var 2) .nil))) (.slc (.var 0) (.some (.bin .Add (.var 1) (.cst (.int 1)))) .none))) .nil)
def d__law_replaced : Dm := ⟨"_law_replaced", 3, 3, 3, b__law_replaced, fun _ => []⟩
def ds45 : List Dm := d__law_unlike :: ds44
noncomputable def F45 (M : Nat) : Fn := mkF glo M ds45
def N__law_replaced : List Str := ["layers", "at", "layer"]
def P__law_replaced : List Str := ["layers", "at", "layer"]
theorem sc__law_replaced : FnScope N__law_replaced P__law_replaced (defScope (top 65)) := ⟨by kernel_rfl, by kernel_rfl, by kernel_rfl, by decide +kernel, by kernel_rfl, by decide +kernel, by decide +kernel⟩
theorem ck__law_replaced : ckSs (gnOf frees bts ds45) N__law_replaced 3 (defScope (top 65)) b__law_replaced (defBody (top 65)) = true := by decide +kernel
def E__law_places_right_0 : Ex := (.call "_law_is_int" (.cons (.var 2) .nil))
def C__law_places_right_0 : Ex := (.comp E__law_places_right_0 (.nm 2) (.seq (.var 0)) .none [2])
def b__law_places_right : Sxs := (.cons 
    (.ret (.and_ (.cons (.isi .tup (.var 0)) (.cons (.blt .all (.cons C__law_places_right_0 .nil)) (.cons (.cmp .Eq (.var 0) (.var 1)) .nil))))) .nil)
def d__law_places_right : Dm := ⟨"_law_places_right", 2, 2, 3, b__law_places_right, fun _ => []⟩
def ds46 : List Dm := d__law_replaced :: ds45
noncomputable def F46 (M : Nat) : Fn := mkF glo M ds46
def N__law_places_right : List Str := ["told", "due", "at"]
def P__law_places_right : List Str := ["told", "due"]
theorem sc__law_places_right : FnScope N__law_places_right P__law_places_right (defScope (top 64)) := ⟨by kernel_rfl, by kernel_rfl, by kernel_rfl, by decide +kernel, by kernel_rfl, by decide +kernel, by decide +kernel⟩
theorem ck__law_places_right : ckSs (gnOf frees bts ds46) N__law_places_right 2 (defScope (top 64)) b__law_places_right (defBody (top 64)) = true := by decide +kernel
def B_unlike_places_0 : Sxs := (.cons 
    (.ite (.cmp .NotEq (.idx (.var 0) (.var 3)) (.idx (.var 1) (.var 3))) (.cons 
    (.expr (.chg .append 2 (.cons (.var 3) .nil))) .nil) .nil) .nil)
def S_unlike_places_0 : Sx := (.for_ (.nm 3) (.rng (.blt .len (.cons (.var 0) .nil))) B_unlike_places_0)
def b_unlike_places : Sxs := (.cons 
    (.set 2 (.lst .nil)) (.cons 
    S_unlike_places_0 (.cons 
    (.ret (.blt .tuple (.cons (.var 2) .nil))) .nil)))
def d_unlike_places : Dm := ⟨"unlike_places", 2, 2, 4, b_unlike_places, fun _ => []⟩
def ds47 : List Dm := d__law_places_right :: ds46
noncomputable def F47 (M : Nat) : Fn := mkF glo M ds47
def N_unlike_places : List Str := ["rows", "others", "found", "at"]
def P_unlike_places : List Str := ["rows", "others"]
theorem sc_unlike_places : FnScope N_unlike_places P_unlike_places (defScope (top 30)) := ⟨by kernel_rfl, by kernel_rfl, by kernel_rfl, by decide +kernel, by kernel_rfl, by decide +kernel, by decide +kernel⟩
theorem ck_unlike_places : ckSs (gnOf frees bts ds47) N_unlike_places 2 (defScope (top 30)) b_unlike_places (defBody (top 30)) = true := by decide +kernel
def b_with_layer : Sxs := (.cons 
    (.ret (.bin .Add (.bin .Add (.blt .tuple (.cons (.slc (.var 0) .none (.some (.var 1))) .nil)) (.tup (.cons (.var 2) .nil))) (.blt .tuple (.cons (.slc (.var 0) (.some (.bin .Add (.var 1) (.cst (.int 1)))) .none) .nil)))) .nil)
def d_with_layer : Dm := ⟨"with_layer", 3, 3, 3, b_with_layer, fun _ => []⟩
def ds48 : List Dm := d_unlike_places :: ds47
noncomputable def F48 (M : Nat) : Fn := mkF glo M ds48
def N_with_layer : List Str := ["layers", "at", "layer"]
def P_with_layer : List Str := ["layers", "at", "layer"]
theorem sc_with_layer : FnScope N_with_layer P_with_layer (defScope (top 29)) := ⟨by kernel_rfl, by kernel_rfl, by kernel_rfl, by decide +kernel, by kernel_rfl, by decide +kernel, by decide +kernel⟩
theorem ck_with_layer : ckSs (gnOf frees bts ds48) N_with_layer 3 (defScope (top 29)) b_with_layer (defBody (top 29)) = true := by decide +kernel
def b_changed_rows : Sxs := (.cons 
    (.set 5 (.call "statement" (.cons (.var 0) (.cons (.var 1) (.cons (.var 2) .nil))))) (.cons 
    (.ret (.call "unlike_places" (.cons (.var 5) (.cons (.call "statement" (.cons (.var 0) (.cons (.var 1) (.cons (.call "with_layer" (.cons (.var 2) (.cons (.var 3) (.cons (.var 4) .nil)))) .nil)))) .nil)))) .nil))
def d_changed_rows : Dm := ⟨"changed_rows", 5, 5, 6, b_changed_rows, fun _ => []⟩
def ds49 : List Dm := d_with_layer :: ds48
noncomputable def F49 (M : Nat) : Fn := mkF glo M ds49
def N_changed_rows : List Str := ["year", "price", "layers", "at", "layer", "rows"]
def P_changed_rows : List Str := ["year", "price", "layers", "at", "layer"]
theorem sc_changed_rows : FnScope N_changed_rows P_changed_rows (defScope (top 31)) := ⟨by kernel_rfl, by kernel_rfl, by kernel_rfl, by decide +kernel, by kernel_rfl, by decide +kernel, by decide +kernel⟩
theorem ck_changed_rows : ckSs (gnOf frees bts ds49) N_changed_rows 5 (defScope (top 31)) b_changed_rows (defBody (top 31)) = true := by decide +kernel
def B__law_ends_0 : Sxs := (.cons 
    (.expr (.chg .append 3 (.cons (.var 2) .nil))) (.cons 
    (.set 2 (.call "_law_plus" (.cons (.var 2) (.cons (.call "_law_gap" (.cons (.var 0) .nil)) .nil)))) .nil))
def S__law_ends_0 : Sx := (.for_ (.nm 4) (.rng (.var 1)) B__law_ends_0)
def b__law_ends : Sxs := (.cons 
    (.set 2 (.tup (.cons (.cst (.int 0)) (.cons (.cst (.int 1)) .nil)))) (.cons 
    (.ite (.cmp .Eq (.call "_law_draw" (.cons (.var 0) (.cons (.cst (.int 2)) .nil))) (.cst (.int 0))) (.cons 
    (.set 2 (.call "_law_gap" (.cons (.var 0) .nil))) .nil) .nil) (.cons 
    (.set 3 (.lst .nil)) (.cons 
    S__law_ends_0 (.cons 
    (.ret (.var 3)) .nil)))))
def d__law_ends : Dm := ⟨"_law_ends", 2, 2, 5, b__law_ends, fun _ => []⟩
def ds50 : List Dm := d_changed_rows :: ds49
noncomputable def F50 (M : Nat) : Fn := mkF glo M ds50
def N__law_ends : List Str := ["d", "many", "at", "found", "k"]
def P__law_ends : List Str := ["d", "many"]
theorem sc__law_ends : FnScope N__law_ends P__law_ends (defScope (top 56)) := ⟨by kernel_rfl, by kernel_rfl, by kernel_rfl, by decide +kernel, by kernel_rfl, by decide +kernel, by decide +kernel⟩
theorem ck__law_ends : ckSs (gnOf frees bts ds50) N__law_ends 2 (defScope (top 56)) b__law_ends (defBody (top 56)) = true := by decide +kernel
def B__law_normal_0 : Sxs := (.cons 
    (.ite (.cmp .NotEq (.idx (.var 3) (.cst (.int 1))) (.var 2)) (.cons 
    (.expr (.chg .append 1 (.cons (.tup (.cons (.idx (.var 3) (.cst (.int 0))) (.cons (.idx (.var 3) (.cst (.int 1))) .nil))) .nil))) (.cons 
    (.set 2 (.idx (.var 3) (.cst (.int 1)))) .nil)) .nil) .nil)
def S__law_normal_0 : Sx := (.for_ (.nm 3) (.seq (.var 0)) B__law_normal_0)
def b__law_normal : Sxs := (.cons 
    (.set 1 (.lst .nil)) (.cons 
    (.set 2 (.tup (.cons (.cst (.int 0)) (.cons (.cst (.int 1)) .nil)))) (.cons 
    S__law_normal_0 (.cons 
    (.ret (.blt .tuple (.cons (.var 1) .nil))) .nil))))
def d__law_normal : Dm := ⟨"_law_normal", 1, 1, 4, b__law_normal, fun _ => []⟩
def ds51 : List Dm := d__law_ends :: ds50
noncomputable def F51 (M : Nat) : Fn := mkF glo M ds51
def N__law_normal : List Str := ["pairs", "found", "last", "pair"]
def P__law_normal : List Str := ["pairs"]
theorem sc__law_normal : FnScope N__law_normal P__law_normal (defScope (top 52)) := ⟨by kernel_rfl, by kernel_rfl, by kernel_rfl, by decide +kernel, by kernel_rfl, by decide +kernel, by decide +kernel⟩
theorem ck__law_normal : ckSs (gnOf frees bts ds51) N__law_normal 1 (defScope (top 52)) b__law_normal (defBody (top 52)) = true := by decide +kernel
def B__law_line_0 : Sxs := (.cons 
    (.set 4 (.idx (.lst (.cons (.tup (.cons (.cst (.int 0)) (.cons (.cst (.int 1)) .nil))) (.cons (.tup (.cons (.cst (.int 1)) (.cons (.cst (.int 1)) .nil))) (.cons (.call "_law_part" (.cons (.var 0) .nil)) (.cons (.call "_law_part" (.cons (.var 0) .nil)) .nil))))) (.call "_law_draw" (.cons (.var 0) (.cons (.cst (.int 4)) .nil))))) (.cons 
    (.expr (.chg .append 2 (.cons (.tup (.cons (.var 3) (.cons (.var 4) .nil))) .nil))) .nil))
def S__law_line_0 : Sx := (.for_ (.nm 3) (.seq (.call "_law_ends" (.cons (.var 0) (.cons (.var 1) .nil)))) B__law_line_0)
def b__law_line : Sxs := (.cons 
    (.set 2 (.lst .nil)) (.cons 
    S__law_line_0 (.cons 
    (.ret (.call "_law_normal" (.cons (.var 2) .nil))) .nil)))
def d__law_line : Dm := ⟨"_law_line", 2, 2, 5, b__law_line, fun _ => []⟩
def ds52 : List Dm := d__law_normal :: ds51
noncomputable def F52 (M : Nat) : Fn := mkF glo M ds52
def N__law_line : List Str := ["d", "many", "pairs", "at", "slope"]
def P__law_line : List Str := ["d", "many"]
theorem sc__law_line : FnScope N__law_line P__law_line (defScope (top 57)) := ⟨by kernel_rfl, by kernel_rfl, by kernel_rfl, by decide +kernel, by kernel_rfl, by decide +kernel, by decide +kernel⟩
theorem ck__law_line : ckSs (gnOf frees bts ds52) N__law_line 2 (defScope (top 57)) b__law_line (defBody (top 57)) = true := by decide +kernel
def B__law_value_0 : Sxs := (.cons 
    (.ite (.val (.call "_law_less" (.cons (.idx (.var 4) (.cst (.int 0))) (.cons (.var 1) .nil)))) (.cons 
    (.set 2 (.call "_law_plus" (.cons (.var 2) (.cons (.call "_law_times" (.cons (.call "_law_minus" (.cons (.idx (.var 4) (.cst (.int 1))) (.cons (.var 3) .nil))) (.cons (.call "_law_minus" (.cons (.var 1) (.cons (.idx (.var 4) (.cst (.int 0))) .nil))) .nil))) .nil)))) .nil) .nil) (.cons 
    (.set 3 (.idx (.var 4) (.cst (.int 1)))) .nil))
def S__law_value_0 : Sx := (.for_ (.nm 4) (.seq (.var 0)) B__law_value_0)
def b__law_value : Sxs := (.cons 
    (.set 2 (.tup (.cons (.cst (.int 0)) (.cons (.cst (.int 1)) .nil)))) (.cons 
    (.set 3 (.tup (.cons (.cst (.int 0)) (.cons (.cst (.int 1)) .nil)))) (.cons 
    S__law_value_0 (.cons 
    (.ret (.var 2)) .nil))))
def d__law_value : Dm := ⟨"_law_value", 2, 2, 5, b__law_value, fun _ => []⟩
def ds53 : List Dm := d__law_line :: ds52
noncomputable def F53 (M : Nat) : Fn := mkF glo M ds53
def N__law_value : List Str := ["line", "x", "found", "last", "pair"]
def P__law_value : List Str := ["line", "x"]
theorem sc__law_value : FnScope N__law_value P__law_value (defScope (top 51)) := ⟨by kernel_rfl, by kernel_rfl, by kernel_rfl, by decide +kernel, by kernel_rfl, by decide +kernel, by decide +kernel⟩
theorem ck__law_value : ckSs (gnOf frees bts ds53) N__law_value 2 (defScope (top 51)) b__law_value (defBody (top 51)) = true := by decide +kernel
def B__law_statement_0 : Sxs := (.cons 
    (.set 7 (.call "_law_plus" (.cons (.var 4) (.cons (.var 6) .nil)))) (.cons 
    (.set 8 (.call "_law_minus" (.cons (.call "_law_value" (.cons (.var 0) (.cons (.var 7) .nil))) (.cons (.call "_law_value" (.cons (.var 0) (.cons (.var 4) .nil))) .nil)))) (.cons 
    (.set 9 (.call "_law_minus" (.cons (.call "_law_value" (.cons (.var 1) (.cons (.call "_law_plus" (.cons (.var 5) (.cons (.var 8) .nil))) .nil))) (.cons (.call "_law_value" (.cons (.var 1) (.cons (.var 5) .nil))) .nil)))) (.cons 
    (.expr (.chg .append 3 (.cons (.tup (.cons (.var 6) (.cons (.var 4) (.cons (.var 8) (.cons (.var 9) .nil))))) .nil))) (.cons 
    (.set 4 (.var 7)) (.cons 
    (.set 5 (.call "_law_plus" (.cons (.var 5) (.cons (.var 8) .nil)))) .nil))))))
def S__law_statement_0 : Sx := (.for_ (.nm 6) (.seq (.var 2)) B__law_statement_0)
def b__law_statement : Sxs := (.cons 
    (.set 3 (.lst .nil)) (.cons 
    (.set 4 (.tup (.cons (.cst (.int 0)) (.cons (.cst (.int 1)) .nil)))) (.cons 
    (.set 5 (.tup (.cons (.cst (.int 0)) (.cons (.cst (.int 1)) .nil)))) (.cons 
    S__law_statement_0 (.cons 
    (.ret (.blt .tuple (.cons (.var 3) .nil))) .nil)))))
def d__law_statement : Dm := ⟨"_law_statement", 3, 3, 10, b__law_statement, fun _ => []⟩
def ds54 : List Dm := d__law_value :: ds53
noncomputable def F54 (M : Nat) : Fn := mkF glo M ds54
def N__law_statement : List Str := ["year", "price", "layers", "found", "before", "paid", "layer", "after", "pay", "due"]
def P__law_statement : List Str := ["year", "price", "layers"]
theorem sc__law_statement : FnScope N__law_statement P__law_statement (defScope (top 58)) := ⟨by kernel_rfl, by kernel_rfl, by kernel_rfl, by decide +kernel, by kernel_rfl, by decide +kernel, by decide +kernel⟩
theorem ck__law_statement : ckSs (gnOf frees bts ds54) N__law_statement 3 (defScope (top 58)) b__law_statement (defBody (top 58)) = true := by decide +kernel
def b__law_changes_right : Sxs := (.cons 
    (.set 5 (.call "_law_replaced" (.cons (.var 2) (.cons (.var 3) (.cons (.var 4) .nil))))) (.cons 
    (.set 6 (.call "_law_unlike" (.cons (.call "_law_statement" (.cons (.var 0) (.cons (.var 1) (.cons (.var 2) .nil)))) (.cons (.call "_law_statement" (.cons (.var 0) (.cons (.var 1) (.cons (.var 5) .nil)))) .nil)))) (.cons 
    (.ite (.not_ (.val (.call "_law_places_right" (.cons (.call "changed_rows" (.cons (.var 0) (.cons (.var 1) (.cons (.var 2) (.cons (.var 3) (.cons (.var 4) .nil)))))) (.cons (.var 6) .nil))))) (.cons 
    (.ret (.cst (.bl false))) .nil) .nil) (.cons 
    (.ret (.call "_law_places_right" (.cons (.call "changed_rows" (.cons (.var 0) (.cons (.var 1) (.cons (.var 5) (.cons (.var 3) (.cons (.idx (.var 2) (.var 3)) .nil)))))) (.cons (.var 6) .nil)))) .nil))))
def d__law_changes_right : Dm := ⟨"_law_changes_right", 5, 5, 7, b__law_changes_right, fun _ => []⟩
def ds55 : List Dm := d__law_statement :: ds54
noncomputable def F55 (M : Nat) : Fn := mkF glo M ds55
def N__law_changes_right : List Str := ["year", "price", "layers", "at", "layer", "others", "due"]
def P__law_changes_right : List Str := ["year", "price", "layers", "at", "layer"]
theorem sc__law_changes_right : FnScope N__law_changes_right P__law_changes_right (defScope (top 67)) := ⟨by kernel_rfl, by kernel_rfl, by kernel_rfl, by decide +kernel, by kernel_rfl, by decide +kernel, by decide +kernel⟩
theorem ck__law_changes_right : ckSs (gnOf frees bts ds55) N__law_changes_right 5 (defScope (top 67)) b__law_changes_right (defBody (top 67)) = true := by decide +kernel
def E_law_0 : Ex := (.call "_law_any_layer" (.cons (.var 1) (.cons (.var 2) .nil)))
def C_law_0 : Ex := (.comp E_law_0 (.nm 18) (.rng (.var 5)) .none [18])
def E_law_1 : Ex := (.call "_law_is_line" (.cons (.var 19) .nil))
def C_law_1 : Ex := (.comp E_law_1 (.nm 19) (.seq (.var 10)) .none [19])
def B_law_2 : Sxs := (.cons 
    (.ite (.not_ (.val (.call "_law_changes_right" (.cons (.var 15) (.cons (.var 16) (.cons (.var 6) (.cons (.var 17) (.cons (.var 9) .nil)))))))) (.cons 
    (.ret (.cst (.bl false))) .nil) .nil) .nil)
def S_law_2 : Sx := (.for_ (.nm 17) (.seq (.tup (.cons (.var 8) (.cons (.cst (.int 0)) (.cons (.bin .Sub (.var 5) (.cst (.int 1))) .nil))))) B_law_2)
def b_law : Sxs := (.cons 
    (.set 1 (.call "_law_begin" (.cons (.var 0) .nil))) (.cons 
    (.set 2 (.call "_law_gap" (.cons (.var 1) .nil))) (.cons 
    (.set 3 (.call "_law_draw" (.cons (.var 1) (.cons (.cst (.int 4)) .nil)))) (.cons 
    (.ite (.cmp .Eq (.call "_law_draw" (.cons (.var 1) (.cons (.cst (.int 3)) .nil))) (.cst (.int 0))) (.cons 
    (.set 3 (.call "_law_draw" (.cons (.var 1) (.cons (.cst (.int 11)) .nil)))) .nil) .nil) (.cons 
    (.set 4 (.call "_law_pick" (.cons (.var 1) (.cons (.lst (.cons (.tup (.cons (.cst (.int 0)) (.cons (.cst (.int 1)) .nil))) (.cons (.tup (.cons (.cst (.int 1)) (.cons (.cst (.int 1)) .nil))) (.cons (.call "_law_part" (.cons (.var 1) .nil)) (.cons (.call "_law_part" (.cons (.var 1) .nil)) .nil))))) .nil)))) (.cons 
    (.set 5 (.bin .Add (.cst (.int 1)) (.call "_law_draw" (.cons (.var 1) (.cons (.cst (.int 6)) .nil))))) (.cons 
    (.ite (.val (.call "_law_rare" (.cons (.var 1) (.cons (.cst (.int 33)) .nil)))) (.cons 
    (.set 5 (.cst (.int 12))) .nil) .nil) (.cons 
    (.set 6 (.blt .tuple (.cons C_law_0 .nil))) (.cons 
    (.set 7 (.blt .tuple (.cons (.call "_law_shuffled" (.cons (.var 1) (.cons (.var 6) .nil))) .nil))) (.cons 
    (.set 8 (.call "_law_draw" (.cons (.var 1) (.cons (.var 5) .nil)))) (.cons 
    (.set 9 (.call "_law_pick" (.cons (.var 1) (.cons (.lst (.cons (.idx (.var 6) (.var 8)) (.cons (.tup (.cons (.cst (.int 0)) (.cons (.cst (.int 1)) .nil))) (.cons (.call "_law_any_layer" (.cons (.var 1) (.cons (.var 2) .nil))) (.cons (.call "_law_any_layer" (.cons (.var 1) (.cons (.var 2) .nil))) .nil))))) .nil)))) (.cons 
    (.set 10 (.call "reinstated" (.cons (.var 2) (.cons (.var 3) (.cons (.var 4) .nil))))) (.cons 
    (.ite (.or_ (.cons (.not_ (.val (.isi .tup (.var 10)))) (.cons (.cmp .NotEq (.blt .len (.cons (.var 10) .nil)) (.cst (.int 2))) (.cons (.not_ (.val (.blt .all (.cons C_law_1 .nil)))) .nil)))) (.cons 
    (.ret (.cst (.bl false))) .nil) .nil) (.cons 
    (.set 11 (.call "_law_own_year" (.cons (.var 2) (.cons (.var 3) .nil)))) (.cons 
    (.set 12 (.call "_law_own_price" (.cons (.var 2) (.cons (.var 3) (.cons (.var 4) .nil))))) (.cons 
    (.ite (.cmp .NotEq (.var 10) (.tup (.cons (.var 11) (.cons (.var 12) .nil)))) (.cons 
    (.ret (.cst (.bl false))) .nil) .nil) (.cons 
    (.set 13 (.call "_law_ledger" (.cons (.var 2) (.cons (.var 3) (.cons (.var 4) (.cons (.var 6) .nil)))))) (.cons 
    (.ite (.not_ (.val (.call "_law_ledger_right" (.cons (.idx (.var 10) (.cst (.int 0))) (.cons (.idx (.var 10) (.cst (.int 1))) (.cons (.var 6) (.cons (.var 13) .nil))))))) (.cons 
    (.ret (.cst (.bl false))) .nil) .nil) (.cons 
    (.ite (.not_ (.val (.call "_law_ledger_right" (.cons (.idx (.var 10) (.cst (.int 0))) (.cons (.idx (.var 10) (.cst (.int 1))) (.cons (.var 7) (.cons (.call "_law_ledger" (.cons (.var 2) (.cons (.var 3) (.cons (.var 4) (.cons (.var 7) .nil))))) .nil))))))) (.cons 
    (.ret (.cst (.bl false))) .nil) .nil) (.cons 
    (.ite (.cmp .NotEq (.call "totals" (.cons (.idx (.var 10) (.cst (.int 0))) (.cons (.idx (.var 10) (.cst (.int 1))) (.cons (.var 7) .nil)))) (.call "totals" (.cons (.idx (.var 10) (.cst (.int 0))) (.cons (.idx (.var 10) (.cst (.int 1))) (.cons (.var 6) .nil))))) (.cons 
    (.ret (.cst (.bl false))) .nil) .nil) (.cons 
    (.set 14 (.call "_law_unlike" (.cons (.var 13) (.cons (.call "_law_ledger" (.cons (.var 2) (.cons (.var 3) (.cons (.var 4) (.cons (.call "_law_replaced" (.cons (.var 6) (.cons (.var 8) (.cons (.var 9) .nil)))) .nil))))) .nil)))) (.cons 
    (.ite (.not_ (.val (.call "_law_places_right" (.cons (.call "changed_rows" (.cons (.idx (.var 10) (.cst (.int 0))) (.cons (.idx (.var 10) (.cst (.int 1))) (.cons (.var 6) (.cons (.var 8) (.cons (.var 9) .nil)))))) (.cons (.var 14) .nil))))) (.cons 
    (.ret (.cst (.bl false))) .nil) .nil) (.cons 
    (.set 15 (.call "_law_line" (.cons (.var 1) (.cons (.call "_law_draw" (.cons (.var 1) (.cons (.cst (.int 5)) .nil))) .nil)))) (.cons 
    (.set 16 (.call "_law_line" (.cons (.var 1) (.cons (.call "_law_draw" (.cons (.var 1) (.cons (.cst (.int 5)) .nil))) .nil)))) (.cons 
    S_law_2 (.cons 
    (.ite (.cmp .NotEq (.call "changed_rows" (.cons (.var 15) (.cons (.var 16) (.cons (.var 6) (.cons (.var 8) (.cons (.idx (.var 6) (.var 8)) .nil)))))) (.tup .nil)) (.cons 
    (.ret (.cst (.bl false))) .nil) .nil) (.cons 
    (.ite (.cmp .NotEq (.call "reinstated" (.cons (.var 2) (.cons (.var 3) (.cons (.var 4) .nil)))) (.tup (.cons (.var 11) (.cons (.var 12) .nil)))) (.cons 
    (.ret (.cst (.bl false))) .nil) .nil) (.cons 
    (.ret (.call "_law_places_right" (.cons (.call "changed_rows" (.cons (.idx (.var 10) (.cst (.int 0))) (.cons (.idx (.var 10) (.cst (.int 1))) (.cons (.var 6) (.cons (.var 8) (.cons (.var 9) .nil)))))) (.cons (.var 14) .nil)))) .nil))))))))))))))))))))))))))))
def d_law : Dm := ⟨"law", 1, 1, 20, b_law, fun _ => []⟩
def ds56 : List Dm := d__law_changes_right :: ds55
noncomputable def F56 (M : Nat) : Fn := mkF glo M ds56
def N_law : List Str := ["script", "d", "limit", "many", "rate", "count", "layers", "turned", "at", "layer", "lines", "year", "price", "rows", "due", "drawn_year", "drawn_price", "place", "k", "line"]
def P_law : List Str := ["script"]
theorem sc_law : FnScope N_law P_law (defScope (top 68)) := ⟨by kernel_rfl, by kernel_rfl, by kernel_rfl, by decide +kernel, by kernel_rfl, by decide +kernel, by decide +kernel⟩
theorem ck_law : ckSs (gnOf frees bts ds56) N_law 1 (defScope (top 68)) b_law (defBody (top 68)) = true := by decide +kernel
def ds57 : List Dm := d_law :: ds56
noncomputable def FU (M : Nat) : Fn := mkF glo M ds57
@[simp] theorem gl0 {M : Nat} : (F0 M).glo = glo := mkF_glo
@[simp] theorem gl1 {M : Nat} : (F1 M).glo = glo := mkF_glo
@[simp] theorem gl2 {M : Nat} : (F2 M).glo = glo := mkF_glo
@[simp] theorem gl3 {M : Nat} : (F3 M).glo = glo := mkF_glo
@[simp] theorem gl4 {M : Nat} : (F4 M).glo = glo := mkF_glo
@[simp] theorem gl5 {M : Nat} : (F5 M).glo = glo := mkF_glo
@[simp] theorem gl6 {M : Nat} : (F6 M).glo = glo := mkF_glo
@[simp] theorem gl7 {M : Nat} : (F7 M).glo = glo := mkF_glo
@[simp] theorem gl8 {M : Nat} : (F8 M).glo = glo := mkF_glo
@[simp] theorem gl9 {M : Nat} : (F9 M).glo = glo := mkF_glo
@[simp] theorem gl10 {M : Nat} : (F10 M).glo = glo := mkF_glo
@[simp] theorem gl11 {M : Nat} : (F11 M).glo = glo := mkF_glo
@[simp] theorem gl12 {M : Nat} : (F12 M).glo = glo := mkF_glo
@[simp] theorem gl13 {M : Nat} : (F13 M).glo = glo := mkF_glo
@[simp] theorem gl14 {M : Nat} : (F14 M).glo = glo := mkF_glo
@[simp] theorem gl15 {M : Nat} : (F15 M).glo = glo := mkF_glo
@[simp] theorem gl16 {M : Nat} : (F16 M).glo = glo := mkF_glo
@[simp] theorem gl17 {M : Nat} : (F17 M).glo = glo := mkF_glo
@[simp] theorem gl18 {M : Nat} : (F18 M).glo = glo := mkF_glo
@[simp] theorem gl19 {M : Nat} : (F19 M).glo = glo := mkF_glo
@[simp] theorem gl20 {M : Nat} : (F20 M).glo = glo := mkF_glo
@[simp] theorem gl21 {M : Nat} : (F21 M).glo = glo := mkF_glo
@[simp] theorem gl22 {M : Nat} : (F22 M).glo = glo := mkF_glo
@[simp] theorem gl23 {M : Nat} : (F23 M).glo = glo := mkF_glo
@[simp] theorem gl24 {M : Nat} : (F24 M).glo = glo := mkF_glo
@[simp] theorem gl25 {M : Nat} : (F25 M).glo = glo := mkF_glo
@[simp] theorem gl26 {M : Nat} : (F26 M).glo = glo := mkF_glo
@[simp] theorem gl27 {M : Nat} : (F27 M).glo = glo := mkF_glo
@[simp] theorem gl28 {M : Nat} : (F28 M).glo = glo := mkF_glo
@[simp] theorem gl29 {M : Nat} : (F29 M).glo = glo := mkF_glo
@[simp] theorem gl30 {M : Nat} : (F30 M).glo = glo := mkF_glo
@[simp] theorem gl31 {M : Nat} : (F31 M).glo = glo := mkF_glo
@[simp] theorem gl32 {M : Nat} : (F32 M).glo = glo := mkF_glo
@[simp] theorem gl33 {M : Nat} : (F33 M).glo = glo := mkF_glo
@[simp] theorem gl34 {M : Nat} : (F34 M).glo = glo := mkF_glo
@[simp] theorem gl35 {M : Nat} : (F35 M).glo = glo := mkF_glo
@[simp] theorem gl36 {M : Nat} : (F36 M).glo = glo := mkF_glo
@[simp] theorem gl37 {M : Nat} : (F37 M).glo = glo := mkF_glo
@[simp] theorem gl38 {M : Nat} : (F38 M).glo = glo := mkF_glo
@[simp] theorem gl39 {M : Nat} : (F39 M).glo = glo := mkF_glo
@[simp] theorem gl40 {M : Nat} : (F40 M).glo = glo := mkF_glo
@[simp] theorem gl41 {M : Nat} : (F41 M).glo = glo := mkF_glo
@[simp] theorem gl42 {M : Nat} : (F42 M).glo = glo := mkF_glo
@[simp] theorem gl43 {M : Nat} : (F43 M).glo = glo := mkF_glo
@[simp] theorem gl44 {M : Nat} : (F44 M).glo = glo := mkF_glo
@[simp] theorem gl45 {M : Nat} : (F45 M).glo = glo := mkF_glo
@[simp] theorem gl46 {M : Nat} : (F46 M).glo = glo := mkF_glo
@[simp] theorem gl47 {M : Nat} : (F47 M).glo = glo := mkF_glo
@[simp] theorem gl48 {M : Nat} : (F48 M).glo = glo := mkF_glo
@[simp] theorem gl49 {M : Nat} : (F49 M).glo = glo := mkF_glo
@[simp] theorem gl50 {M : Nat} : (F50 M).glo = glo := mkF_glo
@[simp] theorem gl51 {M : Nat} : (F51 M).glo = glo := mkF_glo
@[simp] theorem gl52 {M : Nat} : (F52 M).glo = glo := mkF_glo
@[simp] theorem gl53 {M : Nat} : (F53 M).glo = glo := mkF_glo
@[simp] theorem gl54 {M : Nat} : (F54 M).glo = glo := mkF_glo
@[simp] theorem gl55 {M : Nat} : (F55 M).glo = glo := mkF_glo
@[simp] theorem gl56 {M : Nat} : (F56 M).glo = glo := mkF_glo
theorem up__law_begin {M : Nat} : (FU M).call "_law_begin" = (mkF glo M ds1).call "_law_begin" := lift (ds := ds1) [d_law, d__law_changes_right, d__law_statement, d__law_value, d__law_line, d__law_normal, d__law_ends, d_changed_rows, d_with_layer, d_unlike_places, d__law_places_right, d__law_replaced, d__law_unlike, d__law_ledger_right, d__law_total, d_totals, d_sum_of_parts, d_total, d_statement, d_rises, d_rise, d_value_at, d_is_less, d_minus, d_sums_before, d_plus, d__law_ledger, d__law_plus, d__law_minus, d__law_smaller, d__law_own_price, d__law_own_year, d__law_int, d__law_is_line, d__law_less, d__law_is_row, d__law_is_amount, d__law_is_int, d_reinstated, d_price_of_limit, d_sign_of, d_year_of_limit, d_limit_times, d_amount, d_times, d_reduced, d__law_shuffled, d__law_any_layer, d__law_times, d__law_rare, d__law_part, d__law_pick, d__law_gap, d__law_amount, d__law_gcd, d__law_draw] (by decide +kernel)
theorem run__law_begin {M : Nat} {as : List A} (h : as.length = 1) : (FU M).call "_law_begin" as = runDef (F0 M) M 2 b__law_begin as := (congrFun up__law_begin as).trans ((mkF_self as).trans (if_pos h))
theorem up__law_draw {M : Nat} : (FU M).call "_law_draw" = (mkF glo M ds2).call "_law_draw" := lift (ds := ds2) [d_law, d__law_changes_right, d__law_statement, d__law_value, d__law_line, d__law_normal, d__law_ends, d_changed_rows, d_with_layer, d_unlike_places, d__law_places_right, d__law_replaced, d__law_unlike, d__law_ledger_right, d__law_total, d_totals, d_sum_of_parts, d_total, d_statement, d_rises, d_rise, d_value_at, d_is_less, d_minus, d_sums_before, d_plus, d__law_ledger, d__law_plus, d__law_minus, d__law_smaller, d__law_own_price, d__law_own_year, d__law_int, d__law_is_line, d__law_less, d__law_is_row, d__law_is_amount, d__law_is_int, d_reinstated, d_price_of_limit, d_sign_of, d_year_of_limit, d_limit_times, d_amount, d_times, d_reduced, d__law_shuffled, d__law_any_layer, d__law_times, d__law_rare, d__law_part, d__law_pick, d__law_gap, d__law_amount, d__law_gcd] (by decide +kernel)
theorem run__law_draw {M : Nat} {as : List A} (h : as.length = 2) : (FU M).call "_law_draw" as = runDef (F1 M) M 5 b__law_draw as := (congrFun up__law_draw as).trans ((mkF_self as).trans (if_pos h))
theorem up__law_gcd {M : Nat} : (FU M).call "_law_gcd" = (mkF glo M ds3).call "_law_gcd" := lift (ds := ds3) [d_law, d__law_changes_right, d__law_statement, d__law_value, d__law_line, d__law_normal, d__law_ends, d_changed_rows, d_with_layer, d_unlike_places, d__law_places_right, d__law_replaced, d__law_unlike, d__law_ledger_right, d__law_total, d_totals, d_sum_of_parts, d_total, d_statement, d_rises, d_rise, d_value_at, d_is_less, d_minus, d_sums_before, d_plus, d__law_ledger, d__law_plus, d__law_minus, d__law_smaller, d__law_own_price, d__law_own_year, d__law_int, d__law_is_line, d__law_less, d__law_is_row, d__law_is_amount, d__law_is_int, d_reinstated, d_price_of_limit, d_sign_of, d_year_of_limit, d_limit_times, d_amount, d_times, d_reduced, d__law_shuffled, d__law_any_layer, d__law_times, d__law_rare, d__law_part, d__law_pick, d__law_gap, d__law_amount] (by decide +kernel)
theorem run__law_gcd {M : Nat} {as : List A} (h : as.length = 2) : (FU M).call "_law_gcd" as = runDef (F2 M) M 4 b__law_gcd as := (congrFun up__law_gcd as).trans ((mkF_self as).trans (if_pos h))
theorem up__law_amount {M : Nat} : (FU M).call "_law_amount" = (mkF glo M ds4).call "_law_amount" := lift (ds := ds4) [d_law, d__law_changes_right, d__law_statement, d__law_value, d__law_line, d__law_normal, d__law_ends, d_changed_rows, d_with_layer, d_unlike_places, d__law_places_right, d__law_replaced, d__law_unlike, d__law_ledger_right, d__law_total, d_totals, d_sum_of_parts, d_total, d_statement, d_rises, d_rise, d_value_at, d_is_less, d_minus, d_sums_before, d_plus, d__law_ledger, d__law_plus, d__law_minus, d__law_smaller, d__law_own_price, d__law_own_year, d__law_int, d__law_is_line, d__law_less, d__law_is_row, d__law_is_amount, d__law_is_int, d_reinstated, d_price_of_limit, d_sign_of, d_year_of_limit, d_limit_times, d_amount, d_times, d_reduced, d__law_shuffled, d__law_any_layer, d__law_times, d__law_rare, d__law_part, d__law_pick, d__law_gap] (by decide +kernel)
theorem run__law_amount {M : Nat} {as : List A} (h : as.length = 2) : (FU M).call "_law_amount" as = runDef (F3 M) M 3 b__law_amount as := (congrFun up__law_amount as).trans ((mkF_self as).trans (if_pos h))
theorem up__law_gap {M : Nat} : (FU M).call "_law_gap" = (mkF glo M ds5).call "_law_gap" := lift (ds := ds5) [d_law, d__law_changes_right, d__law_statement, d__law_value, d__law_line, d__law_normal, d__law_ends, d_changed_rows, d_with_layer, d_unlike_places, d__law_places_right, d__law_replaced, d__law_unlike, d__law_ledger_right, d__law_total, d_totals, d_sum_of_parts, d_total, d_statement, d_rises, d_rise, d_value_at, d_is_less, d_minus, d_sums_before, d_plus, d__law_ledger, d__law_plus, d__law_minus, d__law_smaller, d__law_own_price, d__law_own_year, d__law_int, d__law_is_line, d__law_less, d__law_is_row, d__law_is_amount, d__law_is_int, d_reinstated, d_price_of_limit, d_sign_of, d_year_of_limit, d_limit_times, d_amount, d_times, d_reduced, d__law_shuffled, d__law_any_layer, d__law_times, d__law_rare, d__law_part, d__law_pick] (by decide +kernel)
theorem run__law_gap {M : Nat} {as : List A} (h : as.length = 1) : (FU M).call "_law_gap" as = runDef (F4 M) M 2 b__law_gap as := (congrFun up__law_gap as).trans ((mkF_self as).trans (if_pos h))
theorem up__law_pick {M : Nat} : (FU M).call "_law_pick" = (mkF glo M ds6).call "_law_pick" := lift (ds := ds6) [d_law, d__law_changes_right, d__law_statement, d__law_value, d__law_line, d__law_normal, d__law_ends, d_changed_rows, d_with_layer, d_unlike_places, d__law_places_right, d__law_replaced, d__law_unlike, d__law_ledger_right, d__law_total, d_totals, d_sum_of_parts, d_total, d_statement, d_rises, d_rise, d_value_at, d_is_less, d_minus, d_sums_before, d_plus, d__law_ledger, d__law_plus, d__law_minus, d__law_smaller, d__law_own_price, d__law_own_year, d__law_int, d__law_is_line, d__law_less, d__law_is_row, d__law_is_amount, d__law_is_int, d_reinstated, d_price_of_limit, d_sign_of, d_year_of_limit, d_limit_times, d_amount, d_times, d_reduced, d__law_shuffled, d__law_any_layer, d__law_times, d__law_rare, d__law_part] (by decide +kernel)
theorem run__law_pick {M : Nat} {as : List A} (h : as.length = 2) : (FU M).call "_law_pick" as = runDef (F5 M) M 2 b__law_pick as := (congrFun up__law_pick as).trans ((mkF_self as).trans (if_pos h))
theorem up__law_part {M : Nat} : (FU M).call "_law_part" = (mkF glo M ds7).call "_law_part" := lift (ds := ds7) [d_law, d__law_changes_right, d__law_statement, d__law_value, d__law_line, d__law_normal, d__law_ends, d_changed_rows, d_with_layer, d_unlike_places, d__law_places_right, d__law_replaced, d__law_unlike, d__law_ledger_right, d__law_total, d_totals, d_sum_of_parts, d_total, d_statement, d_rises, d_rise, d_value_at, d_is_less, d_minus, d_sums_before, d_plus, d__law_ledger, d__law_plus, d__law_minus, d__law_smaller, d__law_own_price, d__law_own_year, d__law_int, d__law_is_line, d__law_less, d__law_is_row, d__law_is_amount, d__law_is_int, d_reinstated, d_price_of_limit, d_sign_of, d_year_of_limit, d_limit_times, d_amount, d_times, d_reduced, d__law_shuffled, d__law_any_layer, d__law_times, d__law_rare] (by decide +kernel)
theorem run__law_part {M : Nat} {as : List A} (h : as.length = 1) : (FU M).call "_law_part" as = runDef (F6 M) M 2 b__law_part as := (congrFun up__law_part as).trans ((mkF_self as).trans (if_pos h))
theorem up__law_rare {M : Nat} : (FU M).call "_law_rare" = (mkF glo M ds8).call "_law_rare" := lift (ds := ds8) [d_law, d__law_changes_right, d__law_statement, d__law_value, d__law_line, d__law_normal, d__law_ends, d_changed_rows, d_with_layer, d_unlike_places, d__law_places_right, d__law_replaced, d__law_unlike, d__law_ledger_right, d__law_total, d_totals, d_sum_of_parts, d_total, d_statement, d_rises, d_rise, d_value_at, d_is_less, d_minus, d_sums_before, d_plus, d__law_ledger, d__law_plus, d__law_minus, d__law_smaller, d__law_own_price, d__law_own_year, d__law_int, d__law_is_line, d__law_less, d__law_is_row, d__law_is_amount, d__law_is_int, d_reinstated, d_price_of_limit, d_sign_of, d_year_of_limit, d_limit_times, d_amount, d_times, d_reduced, d__law_shuffled, d__law_any_layer, d__law_times] (by decide +kernel)
theorem run__law_rare {M : Nat} {as : List A} (h : as.length = 2) : (FU M).call "_law_rare" as = runDef (F7 M) M 2 b__law_rare as := (congrFun up__law_rare as).trans ((mkF_self as).trans (if_pos h))
theorem up__law_times {M : Nat} : (FU M).call "_law_times" = (mkF glo M ds9).call "_law_times" := lift (ds := ds9) [d_law, d__law_changes_right, d__law_statement, d__law_value, d__law_line, d__law_normal, d__law_ends, d_changed_rows, d_with_layer, d_unlike_places, d__law_places_right, d__law_replaced, d__law_unlike, d__law_ledger_right, d__law_total, d_totals, d_sum_of_parts, d_total, d_statement, d_rises, d_rise, d_value_at, d_is_less, d_minus, d_sums_before, d_plus, d__law_ledger, d__law_plus, d__law_minus, d__law_smaller, d__law_own_price, d__law_own_year, d__law_int, d__law_is_line, d__law_less, d__law_is_row, d__law_is_amount, d__law_is_int, d_reinstated, d_price_of_limit, d_sign_of, d_year_of_limit, d_limit_times, d_amount, d_times, d_reduced, d__law_shuffled, d__law_any_layer] (by decide +kernel)
theorem run__law_times {M : Nat} {as : List A} (h : as.length = 2) : (FU M).call "_law_times" as = runDef (F8 M) M 2 b__law_times as := (congrFun up__law_times as).trans ((mkF_self as).trans (if_pos h))
theorem up__law_any_layer {M : Nat} : (FU M).call "_law_any_layer" = (mkF glo M ds10).call "_law_any_layer" := lift (ds := ds10) [d_law, d__law_changes_right, d__law_statement, d__law_value, d__law_line, d__law_normal, d__law_ends, d_changed_rows, d_with_layer, d_unlike_places, d__law_places_right, d__law_replaced, d__law_unlike, d__law_ledger_right, d__law_total, d_totals, d_sum_of_parts, d_total, d_statement, d_rises, d_rise, d_value_at, d_is_less, d_minus, d_sums_before, d_plus, d__law_ledger, d__law_plus, d__law_minus, d__law_smaller, d__law_own_price, d__law_own_year, d__law_int, d__law_is_line, d__law_less, d__law_is_row, d__law_is_amount, d__law_is_int, d_reinstated, d_price_of_limit, d_sign_of, d_year_of_limit, d_limit_times, d_amount, d_times, d_reduced, d__law_shuffled] (by decide +kernel)
theorem run__law_any_layer {M : Nat} {as : List A} (h : as.length = 2) : (FU M).call "_law_any_layer" as = runDef (F9 M) M 3 b__law_any_layer as := (congrFun up__law_any_layer as).trans ((mkF_self as).trans (if_pos h))
theorem up__law_shuffled {M : Nat} : (FU M).call "_law_shuffled" = (mkF glo M ds11).call "_law_shuffled" := lift (ds := ds11) [d_law, d__law_changes_right, d__law_statement, d__law_value, d__law_line, d__law_normal, d__law_ends, d_changed_rows, d_with_layer, d_unlike_places, d__law_places_right, d__law_replaced, d__law_unlike, d__law_ledger_right, d__law_total, d_totals, d_sum_of_parts, d_total, d_statement, d_rises, d_rise, d_value_at, d_is_less, d_minus, d_sums_before, d_plus, d__law_ledger, d__law_plus, d__law_minus, d__law_smaller, d__law_own_price, d__law_own_year, d__law_int, d__law_is_line, d__law_less, d__law_is_row, d__law_is_amount, d__law_is_int, d_reinstated, d_price_of_limit, d_sign_of, d_year_of_limit, d_limit_times, d_amount, d_times, d_reduced] (by decide +kernel)
theorem run__law_shuffled {M : Nat} {as : List A} (h : as.length = 2) : (FU M).call "_law_shuffled" as = runDef (F10 M) M 5 b__law_shuffled as := (congrFun up__law_shuffled as).trans ((mkF_self as).trans (if_pos h))
theorem up_reduced {M : Nat} : (FU M).call "reduced" = (mkF glo M ds12).call "reduced" := lift (ds := ds12) [d_law, d__law_changes_right, d__law_statement, d__law_value, d__law_line, d__law_normal, d__law_ends, d_changed_rows, d_with_layer, d_unlike_places, d__law_places_right, d__law_replaced, d__law_unlike, d__law_ledger_right, d__law_total, d_totals, d_sum_of_parts, d_total, d_statement, d_rises, d_rise, d_value_at, d_is_less, d_minus, d_sums_before, d_plus, d__law_ledger, d__law_plus, d__law_minus, d__law_smaller, d__law_own_price, d__law_own_year, d__law_int, d__law_is_line, d__law_less, d__law_is_row, d__law_is_amount, d__law_is_int, d_reinstated, d_price_of_limit, d_sign_of, d_year_of_limit, d_limit_times, d_amount, d_times] (by decide +kernel)
theorem run_reduced {M : Nat} {as : List A} (h : as.length = 2) : (FU M).call "reduced" as = runDef (F11 M) M 3 b_reduced as := (congrFun up_reduced as).trans ((mkF_self as).trans (if_pos h))
theorem up_times {M : Nat} : (FU M).call "times" = (mkF glo M ds13).call "times" := lift (ds := ds13) [d_law, d__law_changes_right, d__law_statement, d__law_value, d__law_line, d__law_normal, d__law_ends, d_changed_rows, d_with_layer, d_unlike_places, d__law_places_right, d__law_replaced, d__law_unlike, d__law_ledger_right, d__law_total, d_totals, d_sum_of_parts, d_total, d_statement, d_rises, d_rise, d_value_at, d_is_less, d_minus, d_sums_before, d_plus, d__law_ledger, d__law_plus, d__law_minus, d__law_smaller, d__law_own_price, d__law_own_year, d__law_int, d__law_is_line, d__law_less, d__law_is_row, d__law_is_amount, d__law_is_int, d_reinstated, d_price_of_limit, d_sign_of, d_year_of_limit, d_limit_times, d_amount] (by decide +kernel)
theorem run_times {M : Nat} {as : List A} (h : as.length = 2) : (FU M).call "times" as = runDef (F12 M) M 2 b_times as := (congrFun up_times as).trans ((mkF_self as).trans (if_pos h))
theorem up_amount {M : Nat} : (FU M).call "amount" = (mkF glo M ds14).call "amount" := lift (ds := ds14) [d_law, d__law_changes_right, d__law_statement, d__law_value, d__law_line, d__law_normal, d__law_ends, d_changed_rows, d_with_layer, d_unlike_places, d__law_places_right, d__law_replaced, d__law_unlike, d__law_ledger_right, d__law_total, d_totals, d_sum_of_parts, d_total, d_statement, d_rises, d_rise, d_value_at, d_is_less, d_minus, d_sums_before, d_plus, d__law_ledger, d__law_plus, d__law_minus, d__law_smaller, d__law_own_price, d__law_own_year, d__law_int, d__law_is_line, d__law_less, d__law_is_row, d__law_is_amount, d__law_is_int, d_reinstated, d_price_of_limit, d_sign_of, d_year_of_limit, d_limit_times] (by decide +kernel)
theorem run_amount {M : Nat} {as : List A} (h : as.length = 2) : (FU M).call "amount" as = runDef (F13 M) M 2 b_amount as := (congrFun up_amount as).trans ((mkF_self as).trans (if_pos h))
theorem up_limit_times {M : Nat} : (FU M).call "limit_times" = (mkF glo M ds15).call "limit_times" := lift (ds := ds15) [d_law, d__law_changes_right, d__law_statement, d__law_value, d__law_line, d__law_normal, d__law_ends, d_changed_rows, d_with_layer, d_unlike_places, d__law_places_right, d__law_replaced, d__law_unlike, d__law_ledger_right, d__law_total, d_totals, d_sum_of_parts, d_total, d_statement, d_rises, d_rise, d_value_at, d_is_less, d_minus, d_sums_before, d_plus, d__law_ledger, d__law_plus, d__law_minus, d__law_smaller, d__law_own_price, d__law_own_year, d__law_int, d__law_is_line, d__law_less, d__law_is_row, d__law_is_amount, d__law_is_int, d_reinstated, d_price_of_limit, d_sign_of, d_year_of_limit] (by decide +kernel)
theorem run_limit_times {M : Nat} {as : List A} (h : as.length = 2) : (FU M).call "limit_times" as = runDef (F14 M) M 2 b_limit_times as := (congrFun up_limit_times as).trans ((mkF_self as).trans (if_pos h))
theorem up_year_of_limit {M : Nat} : (FU M).call "year_of_limit" = (mkF glo M ds16).call "year_of_limit" := lift (ds := ds16) [d_law, d__law_changes_right, d__law_statement, d__law_value, d__law_line, d__law_normal, d__law_ends, d_changed_rows, d_with_layer, d_unlike_places, d__law_places_right, d__law_replaced, d__law_unlike, d__law_ledger_right, d__law_total, d_totals, d_sum_of_parts, d_total, d_statement, d_rises, d_rise, d_value_at, d_is_less, d_minus, d_sums_before, d_plus, d__law_ledger, d__law_plus, d__law_minus, d__law_smaller, d__law_own_price, d__law_own_year, d__law_int, d__law_is_line, d__law_less, d__law_is_row, d__law_is_amount, d__law_is_int, d_reinstated, d_price_of_limit, d_sign_of] (by decide +kernel)
theorem run_year_of_limit {M : Nat} {as : List A} (h : as.length = 2) : (FU M).call "year_of_limit" as = runDef (F15 M) M 2 b_year_of_limit as := (congrFun up_year_of_limit as).trans ((mkF_self as).trans (if_pos h))
theorem up_sign_of {M : Nat} : (FU M).call "sign_of" = (mkF glo M ds17).call "sign_of" := lift (ds := ds17) [d_law, d__law_changes_right, d__law_statement, d__law_value, d__law_line, d__law_normal, d__law_ends, d_changed_rows, d_with_layer, d_unlike_places, d__law_places_right, d__law_replaced, d__law_unlike, d__law_ledger_right, d__law_total, d_totals, d_sum_of_parts, d_total, d_statement, d_rises, d_rise, d_value_at, d_is_less, d_minus, d_sums_before, d_plus, d__law_ledger, d__law_plus, d__law_minus, d__law_smaller, d__law_own_price, d__law_own_year, d__law_int, d__law_is_line, d__law_less, d__law_is_row, d__law_is_amount, d__law_is_int, d_reinstated, d_price_of_limit] (by decide +kernel)
theorem run_sign_of {M : Nat} {as : List A} (h : as.length = 1) : (FU M).call "sign_of" as = runDef (F16 M) M 1 b_sign_of as := (congrFun up_sign_of as).trans ((mkF_self as).trans (if_pos h))
theorem up_price_of_limit {M : Nat} : (FU M).call "price_of_limit" = (mkF glo M ds18).call "price_of_limit" := lift (ds := ds18) [d_law, d__law_changes_right, d__law_statement, d__law_value, d__law_line, d__law_normal, d__law_ends, d_changed_rows, d_with_layer, d_unlike_places, d__law_places_right, d__law_replaced, d__law_unlike, d__law_ledger_right, d__law_total, d_totals, d_sum_of_parts, d_total, d_statement, d_rises, d_rise, d_value_at, d_is_less, d_minus, d_sums_before, d_plus, d__law_ledger, d__law_plus, d__law_minus, d__law_smaller, d__law_own_price, d__law_own_year, d__law_int, d__law_is_line, d__law_less, d__law_is_row, d__law_is_amount, d__law_is_int, d_reinstated] (by decide +kernel)
theorem run_price_of_limit {M : Nat} {as : List A} (h : as.length = 3) : (FU M).call "price_of_limit" as = runDef (F17 M) M 3 b_price_of_limit as := (congrFun up_price_of_limit as).trans ((mkF_self as).trans (if_pos h))
theorem up_reinstated {M : Nat} : (FU M).call "reinstated" = (mkF glo M ds19).call "reinstated" := lift (ds := ds19) [d_law, d__law_changes_right, d__law_statement, d__law_value, d__law_line, d__law_normal, d__law_ends, d_changed_rows, d_with_layer, d_unlike_places, d__law_places_right, d__law_replaced, d__law_unlike, d__law_ledger_right, d__law_total, d_totals, d_sum_of_parts, d_total, d_statement, d_rises, d_rise, d_value_at, d_is_less, d_minus, d_sums_before, d_plus, d__law_ledger, d__law_plus, d__law_minus, d__law_smaller, d__law_own_price, d__law_own_year, d__law_int, d__law_is_line, d__law_less, d__law_is_row, d__law_is_amount, d__law_is_int] (by decide +kernel)
theorem run_reinstated {M : Nat} {as : List A} (h : as.length = 3) : (FU M).call "reinstated" as = runDef (F18 M) M 3 b_reinstated as := (congrFun up_reinstated as).trans ((mkF_self as).trans (if_pos h))
theorem up__law_is_int {M : Nat} : (FU M).call "_law_is_int" = (mkF glo M ds20).call "_law_is_int" := lift (ds := ds20) [d_law, d__law_changes_right, d__law_statement, d__law_value, d__law_line, d__law_normal, d__law_ends, d_changed_rows, d_with_layer, d_unlike_places, d__law_places_right, d__law_replaced, d__law_unlike, d__law_ledger_right, d__law_total, d_totals, d_sum_of_parts, d_total, d_statement, d_rises, d_rise, d_value_at, d_is_less, d_minus, d_sums_before, d_plus, d__law_ledger, d__law_plus, d__law_minus, d__law_smaller, d__law_own_price, d__law_own_year, d__law_int, d__law_is_line, d__law_less, d__law_is_row, d__law_is_amount] (by decide +kernel)
theorem run__law_is_int {M : Nat} {as : List A} (h : as.length = 1) : (FU M).call "_law_is_int" as = runDef (F19 M) M 1 b__law_is_int as := (congrFun up__law_is_int as).trans ((mkF_self as).trans (if_pos h))
theorem up__law_is_amount {M : Nat} : (FU M).call "_law_is_amount" = (mkF glo M ds21).call "_law_is_amount" := lift (ds := ds21) [d_law, d__law_changes_right, d__law_statement, d__law_value, d__law_line, d__law_normal, d__law_ends, d_changed_rows, d_with_layer, d_unlike_places, d__law_places_right, d__law_replaced, d__law_unlike, d__law_ledger_right, d__law_total, d_totals, d_sum_of_parts, d_total, d_statement, d_rises, d_rise, d_value_at, d_is_less, d_minus, d_sums_before, d_plus, d__law_ledger, d__law_plus, d__law_minus, d__law_smaller, d__law_own_price, d__law_own_year, d__law_int, d__law_is_line, d__law_less, d__law_is_row] (by decide +kernel)
theorem run__law_is_amount {M : Nat} {as : List A} (h : as.length = 1) : (FU M).call "_law_is_amount" as = runDef (F20 M) M 2 b__law_is_amount as := (congrFun up__law_is_amount as).trans ((mkF_self as).trans (if_pos h))
theorem up__law_is_row {M : Nat} : (FU M).call "_law_is_row" = (mkF glo M ds22).call "_law_is_row" := lift (ds := ds22) [d_law, d__law_changes_right, d__law_statement, d__law_value, d__law_line, d__law_normal, d__law_ends, d_changed_rows, d_with_layer, d_unlike_places, d__law_places_right, d__law_replaced, d__law_unlike, d__law_ledger_right, d__law_total, d_totals, d_sum_of_parts, d_total, d_statement, d_rises, d_rise, d_value_at, d_is_less, d_minus, d_sums_before, d_plus, d__law_ledger, d__law_plus, d__law_minus, d__law_smaller, d__law_own_price, d__law_own_year, d__law_int, d__law_is_line, d__law_less] (by decide +kernel)
theorem run__law_is_row {M : Nat} {as : List A} (h : as.length = 2) : (FU M).call "_law_is_row" as = runDef (F21 M) M 3 b__law_is_row as := (congrFun up__law_is_row as).trans ((mkF_self as).trans (if_pos h))
theorem up__law_less {M : Nat} : (FU M).call "_law_less" = (mkF glo M ds23).call "_law_less" := lift (ds := ds23) [d_law, d__law_changes_right, d__law_statement, d__law_value, d__law_line, d__law_normal, d__law_ends, d_changed_rows, d_with_layer, d_unlike_places, d__law_places_right, d__law_replaced, d__law_unlike, d__law_ledger_right, d__law_total, d_totals, d_sum_of_parts, d_total, d_statement, d_rises, d_rise, d_value_at, d_is_less, d_minus, d_sums_before, d_plus, d__law_ledger, d__law_plus, d__law_minus, d__law_smaller, d__law_own_price, d__law_own_year, d__law_int, d__law_is_line] (by decide +kernel)
theorem run__law_less {M : Nat} {as : List A} (h : as.length = 2) : (FU M).call "_law_less" as = runDef (F22 M) M 2 b__law_less as := (congrFun up__law_less as).trans ((mkF_self as).trans (if_pos h))
theorem up__law_is_line {M : Nat} : (FU M).call "_law_is_line" = (mkF glo M ds24).call "_law_is_line" := lift (ds := ds24) [d_law, d__law_changes_right, d__law_statement, d__law_value, d__law_line, d__law_normal, d__law_ends, d_changed_rows, d_with_layer, d_unlike_places, d__law_places_right, d__law_replaced, d__law_unlike, d__law_ledger_right, d__law_total, d_totals, d_sum_of_parts, d_total, d_statement, d_rises, d_rise, d_value_at, d_is_less, d_minus, d_sums_before, d_plus, d__law_ledger, d__law_plus, d__law_minus, d__law_smaller, d__law_own_price, d__law_own_year, d__law_int] (by decide +kernel)
theorem run__law_is_line {M : Nat} {as : List A} (h : as.length = 1) : (FU M).call "_law_is_line" as = runDef (F23 M) M 4 b__law_is_line as := (congrFun up__law_is_line as).trans ((mkF_self as).trans (if_pos h))
theorem up__law_int {M : Nat} : (FU M).call "_law_int" = (mkF glo M ds25).call "_law_int" := lift (ds := ds25) [d_law, d__law_changes_right, d__law_statement, d__law_value, d__law_line, d__law_normal, d__law_ends, d_changed_rows, d_with_layer, d_unlike_places, d__law_places_right, d__law_replaced, d__law_unlike, d__law_ledger_right, d__law_total, d_totals, d_sum_of_parts, d_total, d_statement, d_rises, d_rise, d_value_at, d_is_less, d_minus, d_sums_before, d_plus, d__law_ledger, d__law_plus, d__law_minus, d__law_smaller, d__law_own_price, d__law_own_year] (by decide +kernel)
theorem run__law_int {M : Nat} {as : List A} (h : as.length = 1) : (FU M).call "_law_int" as = runDef (F24 M) M 1 b__law_int as := (congrFun up__law_int as).trans ((mkF_self as).trans (if_pos h))
theorem up__law_own_year {M : Nat} : (FU M).call "_law_own_year" = (mkF glo M ds26).call "_law_own_year" := lift (ds := ds26) [d_law, d__law_changes_right, d__law_statement, d__law_value, d__law_line, d__law_normal, d__law_ends, d_changed_rows, d_with_layer, d_unlike_places, d__law_places_right, d__law_replaced, d__law_unlike, d__law_ledger_right, d__law_total, d_totals, d_sum_of_parts, d_total, d_statement, d_rises, d_rise, d_value_at, d_is_less, d_minus, d_sums_before, d_plus, d__law_ledger, d__law_plus, d__law_minus, d__law_smaller, d__law_own_price] (by decide +kernel)
theorem run__law_own_year {M : Nat} {as : List A} (h : as.length = 2) : (FU M).call "_law_own_year" as = runDef (F25 M) M 2 b__law_own_year as := (congrFun up__law_own_year as).trans ((mkF_self as).trans (if_pos h))
theorem up__law_own_price {M : Nat} : (FU M).call "_law_own_price" = (mkF glo M ds27).call "_law_own_price" := lift (ds := ds27) [d_law, d__law_changes_right, d__law_statement, d__law_value, d__law_line, d__law_normal, d__law_ends, d_changed_rows, d_with_layer, d_unlike_places, d__law_places_right, d__law_replaced, d__law_unlike, d__law_ledger_right, d__law_total, d_totals, d_sum_of_parts, d_total, d_statement, d_rises, d_rise, d_value_at, d_is_less, d_minus, d_sums_before, d_plus, d__law_ledger, d__law_plus, d__law_minus, d__law_smaller] (by decide +kernel)
theorem run__law_own_price {M : Nat} {as : List A} (h : as.length = 3) : (FU M).call "_law_own_price" as = runDef (F26 M) M 3 b__law_own_price as := (congrFun up__law_own_price as).trans ((mkF_self as).trans (if_pos h))
theorem up__law_smaller {M : Nat} : (FU M).call "_law_smaller" = (mkF glo M ds28).call "_law_smaller" := lift (ds := ds28) [d_law, d__law_changes_right, d__law_statement, d__law_value, d__law_line, d__law_normal, d__law_ends, d_changed_rows, d_with_layer, d_unlike_places, d__law_places_right, d__law_replaced, d__law_unlike, d__law_ledger_right, d__law_total, d_totals, d_sum_of_parts, d_total, d_statement, d_rises, d_rise, d_value_at, d_is_less, d_minus, d_sums_before, d_plus, d__law_ledger, d__law_plus, d__law_minus] (by decide +kernel)
theorem run__law_smaller {M : Nat} {as : List A} (h : as.length = 2) : (FU M).call "_law_smaller" as = runDef (F27 M) M 2 b__law_smaller as := (congrFun up__law_smaller as).trans ((mkF_self as).trans (if_pos h))
theorem up__law_minus {M : Nat} : (FU M).call "_law_minus" = (mkF glo M ds29).call "_law_minus" := lift (ds := ds29) [d_law, d__law_changes_right, d__law_statement, d__law_value, d__law_line, d__law_normal, d__law_ends, d_changed_rows, d_with_layer, d_unlike_places, d__law_places_right, d__law_replaced, d__law_unlike, d__law_ledger_right, d__law_total, d_totals, d_sum_of_parts, d_total, d_statement, d_rises, d_rise, d_value_at, d_is_less, d_minus, d_sums_before, d_plus, d__law_ledger, d__law_plus] (by decide +kernel)
theorem run__law_minus {M : Nat} {as : List A} (h : as.length = 2) : (FU M).call "_law_minus" as = runDef (F28 M) M 2 b__law_minus as := (congrFun up__law_minus as).trans ((mkF_self as).trans (if_pos h))
theorem up__law_plus {M : Nat} : (FU M).call "_law_plus" = (mkF glo M ds30).call "_law_plus" := lift (ds := ds30) [d_law, d__law_changes_right, d__law_statement, d__law_value, d__law_line, d__law_normal, d__law_ends, d_changed_rows, d_with_layer, d_unlike_places, d__law_places_right, d__law_replaced, d__law_unlike, d__law_ledger_right, d__law_total, d_totals, d_sum_of_parts, d_total, d_statement, d_rises, d_rise, d_value_at, d_is_less, d_minus, d_sums_before, d_plus, d__law_ledger] (by decide +kernel)
theorem run__law_plus {M : Nat} {as : List A} (h : as.length = 2) : (FU M).call "_law_plus" as = runDef (F29 M) M 2 b__law_plus as := (congrFun up__law_plus as).trans ((mkF_self as).trans (if_pos h))
theorem up__law_ledger {M : Nat} : (FU M).call "_law_ledger" = (mkF glo M ds31).call "_law_ledger" := lift (ds := ds31) [d_law, d__law_changes_right, d__law_statement, d__law_value, d__law_line, d__law_normal, d__law_ends, d_changed_rows, d_with_layer, d_unlike_places, d__law_places_right, d__law_replaced, d__law_unlike, d__law_ledger_right, d__law_total, d_totals, d_sum_of_parts, d_total, d_statement, d_rises, d_rise, d_value_at, d_is_less, d_minus, d_sums_before, d_plus] (by decide +kernel)
theorem run__law_ledger {M : Nat} {as : List A} (h : as.length = 4) : (FU M).call "_law_ledger" as = runDef (F30 M) M 11 b__law_ledger as := (congrFun up__law_ledger as).trans ((mkF_self as).trans (if_pos h))
theorem up_plus {M : Nat} : (FU M).call "plus" = (mkF glo M ds32).call "plus" := lift (ds := ds32) [d_law, d__law_changes_right, d__law_statement, d__law_value, d__law_line, d__law_normal, d__law_ends, d_changed_rows, d_with_layer, d_unlike_places, d__law_places_right, d__law_replaced, d__law_unlike, d__law_ledger_right, d__law_total, d_totals, d_sum_of_parts, d_total, d_statement, d_rises, d_rise, d_value_at, d_is_less, d_minus, d_sums_before] (by decide +kernel)
theorem run_plus {M : Nat} {as : List A} (h : as.length = 2) : (FU M).call "plus" as = runDef (F31 M) M 2 b_plus as := (congrFun up_plus as).trans ((mkF_self as).trans (if_pos h))
theorem up_sums_before {M : Nat} : (FU M).call "sums_before" = (mkF glo M ds33).call "sums_before" := lift (ds := ds33) [d_law, d__law_changes_right, d__law_statement, d__law_value, d__law_line, d__law_normal, d__law_ends, d_changed_rows, d_with_layer, d_unlike_places, d__law_places_right, d__law_replaced, d__law_unlike, d__law_ledger_right, d__law_total, d_totals, d_sum_of_parts, d_total, d_statement, d_rises, d_rise, d_value_at, d_is_less, d_minus] (by decide +kernel)
theorem run_sums_before {M : Nat} {as : List A} (h : as.length = 1) : (FU M).call "sums_before" as = runDef (F32 M) M 4 b_sums_before as := (congrFun up_sums_before as).trans ((mkF_self as).trans (if_pos h))
theorem up_minus {M : Nat} : (FU M).call "minus" = (mkF glo M ds34).call "minus" := lift (ds := ds34) [d_law, d__law_changes_right, d__law_statement, d__law_value, d__law_line, d__law_normal, d__law_ends, d_changed_rows, d_with_layer, d_unlike_places, d__law_places_right, d__law_replaced, d__law_unlike, d__law_ledger_right, d__law_total, d_totals, d_sum_of_parts, d_total, d_statement, d_rises, d_rise, d_value_at, d_is_less] (by decide +kernel)
theorem run_minus {M : Nat} {as : List A} (h : as.length = 2) : (FU M).call "minus" as = runDef (F33 M) M 2 b_minus as := (congrFun up_minus as).trans ((mkF_self as).trans (if_pos h))
theorem up_is_less {M : Nat} : (FU M).call "is_less" = (mkF glo M ds35).call "is_less" := lift (ds := ds35) [d_law, d__law_changes_right, d__law_statement, d__law_value, d__law_line, d__law_normal, d__law_ends, d_changed_rows, d_with_layer, d_unlike_places, d__law_places_right, d__law_replaced, d__law_unlike, d__law_ledger_right, d__law_total, d_totals, d_sum_of_parts, d_total, d_statement, d_rises, d_rise, d_value_at] (by decide +kernel)
theorem run_is_less {M : Nat} {as : List A} (h : as.length = 2) : (FU M).call "is_less" as = runDef (F34 M) M 2 b_is_less as := (congrFun up_is_less as).trans ((mkF_self as).trans (if_pos h))
theorem up_value_at {M : Nat} : (FU M).call "value_at" = (mkF glo M ds36).call "value_at" := lift (ds := ds36) [d_law, d__law_changes_right, d__law_statement, d__law_value, d__law_line, d__law_normal, d__law_ends, d_changed_rows, d_with_layer, d_unlike_places, d__law_places_right, d__law_replaced, d__law_unlike, d__law_ledger_right, d__law_total, d_totals, d_sum_of_parts, d_total, d_statement, d_rises, d_rise] (by decide +kernel)
theorem run_value_at {M : Nat} {as : List A} (h : as.length = 2) : (FU M).call "value_at" as = runDef (F35 M) M 7 b_value_at as := (congrFun up_value_at as).trans ((mkF_self as).trans (if_pos h))
theorem up_rise {M : Nat} : (FU M).call "rise" = (mkF glo M ds37).call "rise" := lift (ds := ds37) [d_law, d__law_changes_right, d__law_statement, d__law_value, d__law_line, d__law_normal, d__law_ends, d_changed_rows, d_with_layer, d_unlike_places, d__law_places_right, d__law_replaced, d__law_unlike, d__law_ledger_right, d__law_total, d_totals, d_sum_of_parts, d_total, d_statement, d_rises] (by decide +kernel)
theorem run_rise {M : Nat} {as : List A} (h : as.length = 3) : (FU M).call "rise" as = runDef (F36 M) M 3 b_rise as := (congrFun up_rise as).trans ((mkF_self as).trans (if_pos h))
theorem up_rises {M : Nat} : (FU M).call "rises" = (mkF glo M ds38).call "rises" := lift (ds := ds38) [d_law, d__law_changes_right, d__law_statement, d__law_value, d__law_line, d__law_normal, d__law_ends, d_changed_rows, d_with_layer, d_unlike_places, d__law_places_right, d__law_replaced, d__law_unlike, d__law_ledger_right, d__law_total, d_totals, d_sum_of_parts, d_total, d_statement] (by decide +kernel)
theorem run_rises {M : Nat} {as : List A} (h : as.length = 2) : (FU M).call "rises" as = runDef (F37 M) M 5 b_rises as := (congrFun up_rises as).trans ((mkF_self as).trans (if_pos h))
theorem up_statement {M : Nat} : (FU M).call "statement" = (mkF glo M ds39).call "statement" := lift (ds := ds39) [d_law, d__law_changes_right, d__law_statement, d__law_value, d__law_line, d__law_normal, d__law_ends, d_changed_rows, d_with_layer, d_unlike_places, d__law_places_right, d__law_replaced, d__law_unlike, d__law_ledger_right, d__law_total, d_totals, d_sum_of_parts, d_total] (by decide +kernel)
theorem run_statement {M : Nat} {as : List A} (h : as.length = 3) : (FU M).call "statement" as = runDef (F38 M) M 8 b_statement as := (congrFun up_statement as).trans ((mkF_self as).trans (if_pos h))
theorem up_total {M : Nat} : (FU M).call "total" = (mkF glo M ds40).call "total" := lift (ds := ds40) [d_law, d__law_changes_right, d__law_statement, d__law_value, d__law_line, d__law_normal, d__law_ends, d_changed_rows, d_with_layer, d_unlike_places, d__law_places_right, d__law_replaced, d__law_unlike, d__law_ledger_right, d__law_total, d_totals, d_sum_of_parts] (by decide +kernel)
theorem run_total {M : Nat} {as : List A} (h : as.length = 1) : (FU M).call "total" as = runDef (F39 M) M 3 b_total as := (congrFun up_total as).trans ((mkF_self as).trans (if_pos h))
theorem up_sum_of_parts {M : Nat} : (FU M).call "sum_of_parts" = (mkF glo M ds41).call "sum_of_parts" := lift (ds := ds41) [d_law, d__law_changes_right, d__law_statement, d__law_value, d__law_line, d__law_normal, d__law_ends, d_changed_rows, d_with_layer, d_unlike_places, d__law_places_right, d__law_replaced, d__law_unlike, d__law_ledger_right, d__law_total, d_totals] (by decide +kernel)
theorem run_sum_of_parts {M : Nat} {as : List A} (h : as.length = 2) : (FU M).call "sum_of_parts" as = runDef (F40 M) M 3 b_sum_of_parts as := (congrFun up_sum_of_parts as).trans ((mkF_self as).trans (if_pos h))
theorem up_totals {M : Nat} : (FU M).call "totals" = (mkF glo M ds42).call "totals" := lift (ds := ds42) [d_law, d__law_changes_right, d__law_statement, d__law_value, d__law_line, d__law_normal, d__law_ends, d_changed_rows, d_with_layer, d_unlike_places, d__law_places_right, d__law_replaced, d__law_unlike, d__law_ledger_right, d__law_total] (by decide +kernel)
theorem run_totals {M : Nat} {as : List A} (h : as.length = 3) : (FU M).call "totals" as = runDef (F41 M) M 4 b_totals as := (congrFun up_totals as).trans ((mkF_self as).trans (if_pos h))
theorem up__law_total {M : Nat} : (FU M).call "_law_total" = (mkF glo M ds43).call "_law_total" := lift (ds := ds43) [d_law, d__law_changes_right, d__law_statement, d__law_value, d__law_line, d__law_normal, d__law_ends, d_changed_rows, d_with_layer, d_unlike_places, d__law_places_right, d__law_replaced, d__law_unlike, d__law_ledger_right] (by decide +kernel)
theorem run__law_total {M : Nat} {as : List A} (h : as.length = 1) : (FU M).call "_law_total" as = runDef (F42 M) M 3 b__law_total as := (congrFun up__law_total as).trans ((mkF_self as).trans (if_pos h))
theorem up__law_ledger_right {M : Nat} : (FU M).call "_law_ledger_right" = (mkF glo M ds44).call "_law_ledger_right" := lift (ds := ds44) [d_law, d__law_changes_right, d__law_statement, d__law_value, d__law_line, d__law_normal, d__law_ends, d_changed_rows, d_with_layer, d_unlike_places, d__law_places_right, d__law_replaced, d__law_unlike] (by decide +kernel)
theorem run__law_ledger_right {M : Nat} {as : List A} (h : as.length = 4) : (FU M).call "_law_ledger_right" as = runDef (F43 M) M 9 b__law_ledger_right as := (congrFun up__law_ledger_right as).trans ((mkF_self as).trans (if_pos h))
theorem up__law_unlike {M : Nat} : (FU M).call "_law_unlike" = (mkF glo M ds45).call "_law_unlike" := lift (ds := ds45) [d_law, d__law_changes_right, d__law_statement, d__law_value, d__law_line, d__law_normal, d__law_ends, d_changed_rows, d_with_layer, d_unlike_places, d__law_places_right, d__law_replaced] (by decide +kernel)
theorem run__law_unlike {M : Nat} {as : List A} (h : as.length = 2) : (FU M).call "_law_unlike" as = runDef (F44 M) M 3 b__law_unlike as := (congrFun up__law_unlike as).trans ((mkF_self as).trans (if_pos h))
theorem up__law_replaced {M : Nat} : (FU M).call "_law_replaced" = (mkF glo M ds46).call "_law_replaced" := lift (ds := ds46) [d_law, d__law_changes_right, d__law_statement, d__law_value, d__law_line, d__law_normal, d__law_ends, d_changed_rows, d_with_layer, d_unlike_places, d__law_places_right] (by decide +kernel)
theorem run__law_replaced {M : Nat} {as : List A} (h : as.length = 3) : (FU M).call "_law_replaced" as = runDef (F45 M) M 3 b__law_replaced as := (congrFun up__law_replaced as).trans ((mkF_self as).trans (if_pos h))
theorem up__law_places_right {M : Nat} : (FU M).call "_law_places_right" = (mkF glo M ds47).call "_law_places_right" := lift (ds := ds47) [d_law, d__law_changes_right, d__law_statement, d__law_value, d__law_line, d__law_normal, d__law_ends, d_changed_rows, d_with_layer, d_unlike_places] (by decide +kernel)
theorem run__law_places_right {M : Nat} {as : List A} (h : as.length = 2) : (FU M).call "_law_places_right" as = runDef (F46 M) M 3 b__law_places_right as := (congrFun up__law_places_right as).trans ((mkF_self as).trans (if_pos h))
theorem up_unlike_places {M : Nat} : (FU M).call "unlike_places" = (mkF glo M ds48).call "unlike_places" := lift (ds := ds48) [d_law, d__law_changes_right, d__law_statement, d__law_value, d__law_line, d__law_normal, d__law_ends, d_changed_rows, d_with_layer] (by decide +kernel)
theorem run_unlike_places {M : Nat} {as : List A} (h : as.length = 2) : (FU M).call "unlike_places" as = runDef (F47 M) M 4 b_unlike_places as := (congrFun up_unlike_places as).trans ((mkF_self as).trans (if_pos h))
theorem up_with_layer {M : Nat} : (FU M).call "with_layer" = (mkF glo M ds49).call "with_layer" := lift (ds := ds49) [d_law, d__law_changes_right, d__law_statement, d__law_value, d__law_line, d__law_normal, d__law_ends, d_changed_rows] (by decide +kernel)
theorem run_with_layer {M : Nat} {as : List A} (h : as.length = 3) : (FU M).call "with_layer" as = runDef (F48 M) M 3 b_with_layer as := (congrFun up_with_layer as).trans ((mkF_self as).trans (if_pos h))
theorem up_changed_rows {M : Nat} : (FU M).call "changed_rows" = (mkF glo M ds50).call "changed_rows" := lift (ds := ds50) [d_law, d__law_changes_right, d__law_statement, d__law_value, d__law_line, d__law_normal, d__law_ends] (by decide +kernel)
theorem run_changed_rows {M : Nat} {as : List A} (h : as.length = 5) : (FU M).call "changed_rows" as = runDef (F49 M) M 6 b_changed_rows as := (congrFun up_changed_rows as).trans ((mkF_self as).trans (if_pos h))
theorem up__law_ends {M : Nat} : (FU M).call "_law_ends" = (mkF glo M ds51).call "_law_ends" := lift (ds := ds51) [d_law, d__law_changes_right, d__law_statement, d__law_value, d__law_line, d__law_normal] (by decide +kernel)
theorem run__law_ends {M : Nat} {as : List A} (h : as.length = 2) : (FU M).call "_law_ends" as = runDef (F50 M) M 5 b__law_ends as := (congrFun up__law_ends as).trans ((mkF_self as).trans (if_pos h))
theorem up__law_normal {M : Nat} : (FU M).call "_law_normal" = (mkF glo M ds52).call "_law_normal" := lift (ds := ds52) [d_law, d__law_changes_right, d__law_statement, d__law_value, d__law_line] (by decide +kernel)
theorem run__law_normal {M : Nat} {as : List A} (h : as.length = 1) : (FU M).call "_law_normal" as = runDef (F51 M) M 4 b__law_normal as := (congrFun up__law_normal as).trans ((mkF_self as).trans (if_pos h))
theorem up__law_line {M : Nat} : (FU M).call "_law_line" = (mkF glo M ds53).call "_law_line" := lift (ds := ds53) [d_law, d__law_changes_right, d__law_statement, d__law_value] (by decide +kernel)
theorem run__law_line {M : Nat} {as : List A} (h : as.length = 2) : (FU M).call "_law_line" as = runDef (F52 M) M 5 b__law_line as := (congrFun up__law_line as).trans ((mkF_self as).trans (if_pos h))
theorem up__law_value {M : Nat} : (FU M).call "_law_value" = (mkF glo M ds54).call "_law_value" := lift (ds := ds54) [d_law, d__law_changes_right, d__law_statement] (by decide +kernel)
theorem run__law_value {M : Nat} {as : List A} (h : as.length = 2) : (FU M).call "_law_value" as = runDef (F53 M) M 5 b__law_value as := (congrFun up__law_value as).trans ((mkF_self as).trans (if_pos h))
theorem up__law_statement {M : Nat} : (FU M).call "_law_statement" = (mkF glo M ds55).call "_law_statement" := lift (ds := ds55) [d_law, d__law_changes_right] (by decide +kernel)
theorem run__law_statement {M : Nat} {as : List A} (h : as.length = 3) : (FU M).call "_law_statement" as = runDef (F54 M) M 10 b__law_statement as := (congrFun up__law_statement as).trans ((mkF_self as).trans (if_pos h))
theorem up__law_changes_right {M : Nat} : (FU M).call "_law_changes_right" = (mkF glo M ds56).call "_law_changes_right" := lift (ds := ds56) [d_law] (by decide +kernel)
theorem run__law_changes_right {M : Nat} {as : List A} (h : as.length = 5) : (FU M).call "_law_changes_right" as = runDef (F55 M) M 7 b__law_changes_right as := (congrFun up__law_changes_right as).trans ((mkF_self as).trans (if_pos h))
theorem up_law {M : Nat} : (FU M).call "law" = (mkF glo M ds57).call "law" := lift (ds := ds57) [] (by decide +kernel)
theorem run_law {M : Nat} {as : List A} (h : as.length = 1) : (FU M).call "law" as = runDef (F56 M) M 20 b_law as := (congrFun up_law as).trans ((mkF_self as).trans (if_pos h))
@[simp] theorem up3__law_gcd {M : Nat} : (F3 M).call "_law_gcd" = (FU M).call "_law_gcd" := (lift (ds := ds3) [] (by decide +kernel)).trans up__law_gcd.symm
@[simp] theorem dfl3__law_gcd {M : Nat} (n : Nat) : (F3 M).dfl "_law_gcd" n = [] := (liftD (ds := ds3) [] (by decide +kernel)).trans dfl_self
@[simp] theorem up4__law_draw {M : Nat} : (F4 M).call "_law_draw" = (FU M).call "_law_draw" := (lift (ds := ds2) [d__law_amount, d__law_gcd] (by decide +kernel)).trans up__law_draw.symm
@[simp] theorem dfl4__law_draw {M : Nat} (n : Nat) : (F4 M).dfl "_law_draw" n = [] := (liftD (ds := ds2) [d__law_amount, d__law_gcd] (by decide +kernel)).trans dfl_self
@[simp] theorem up4__law_amount {M : Nat} : (F4 M).call "_law_amount" = (FU M).call "_law_amount" := (lift (ds := ds4) [] (by decide +kernel)).trans up__law_amount.symm
@[simp] theorem dfl4__law_amount {M : Nat} (n : Nat) : (F4 M).dfl "_law_amount" n = [] := (liftD (ds := ds4) [] (by decide +kernel)).trans dfl_self
@[simp] theorem up5__law_draw {M : Nat} : (F5 M).call "_law_draw" = (FU M).call "_law_draw" := (lift (ds := ds2) [d__law_gap, d__law_amount, d__law_gcd] (by decide +kernel)).trans up__law_draw.symm
@[simp] theorem dfl5__law_draw {M : Nat} (n : Nat) : (F5 M).dfl "_law_draw" n = [] := (liftD (ds := ds2) [d__law_gap, d__law_amount, d__law_gcd] (by decide +kernel)).trans dfl_self
@[simp] theorem up6__law_draw {M : Nat} : (F6 M).call "_law_draw" = (FU M).call "_law_draw" := (lift (ds := ds2) [d__law_pick, d__law_gap, d__law_amount, d__law_gcd] (by decide +kernel)).trans up__law_draw.symm
@[simp] theorem dfl6__law_draw {M : Nat} (n : Nat) : (F6 M).dfl "_law_draw" n = [] := (liftD (ds := ds2) [d__law_pick, d__law_gap, d__law_amount, d__law_gcd] (by decide +kernel)).trans dfl_self
@[simp] theorem up6__law_amount {M : Nat} : (F6 M).call "_law_amount" = (FU M).call "_law_amount" := (lift (ds := ds4) [d__law_pick, d__law_gap] (by decide +kernel)).trans up__law_amount.symm
@[simp] theorem dfl6__law_amount {M : Nat} (n : Nat) : (F6 M).dfl "_law_amount" n = [] := (liftD (ds := ds4) [d__law_pick, d__law_gap] (by decide +kernel)).trans dfl_self
@[simp] theorem up7__law_draw {M : Nat} : (F7 M).call "_law_draw" = (FU M).call "_law_draw" := (lift (ds := ds2) [d__law_part, d__law_pick, d__law_gap, d__law_amount, d__law_gcd] (by decide +kernel)).trans up__law_draw.symm
@[simp] theorem dfl7__law_draw {M : Nat} (n : Nat) : (F7 M).dfl "_law_draw" n = [] := (liftD (ds := ds2) [d__law_part, d__law_pick, d__law_gap, d__law_amount, d__law_gcd] (by decide +kernel)).trans dfl_self
@[simp] theorem up8__law_amount {M : Nat} : (F8 M).call "_law_amount" = (FU M).call "_law_amount" := (lift (ds := ds4) [d__law_rare, d__law_part, d__law_pick, d__law_gap] (by decide +kernel)).trans up__law_amount.symm
@[simp] theorem dfl8__law_amount {M : Nat} (n : Nat) : (F8 M).dfl "_law_amount" n = [] := (liftD (ds := ds4) [d__law_rare, d__law_part, d__law_pick, d__law_gap] (by decide +kernel)).trans dfl_self
@[simp] theorem up9__law_draw {M : Nat} : (F9 M).call "_law_draw" = (FU M).call "_law_draw" := (lift (ds := ds2) [d__law_times, d__law_rare, d__law_part, d__law_pick, d__law_gap, d__law_amount, d__law_gcd] (by decide +kernel)).trans up__law_draw.symm
@[simp] theorem dfl9__law_draw {M : Nat} (n : Nat) : (F9 M).dfl "_law_draw" n = [] := (liftD (ds := ds2) [d__law_times, d__law_rare, d__law_part, d__law_pick, d__law_gap, d__law_amount, d__law_gcd] (by decide +kernel)).trans dfl_self
@[simp] theorem up9__law_times {M : Nat} : (F9 M).call "_law_times" = (FU M).call "_law_times" := (lift (ds := ds9) [] (by decide +kernel)).trans up__law_times.symm
@[simp] theorem dfl9__law_times {M : Nat} (n : Nat) : (F9 M).dfl "_law_times" n = [] := (liftD (ds := ds9) [] (by decide +kernel)).trans dfl_self
@[simp] theorem up9__law_part {M : Nat} : (F9 M).call "_law_part" = (FU M).call "_law_part" := (lift (ds := ds7) [d__law_times, d__law_rare] (by decide +kernel)).trans up__law_part.symm
@[simp] theorem dfl9__law_part {M : Nat} (n : Nat) : (F9 M).dfl "_law_part" n = [] := (liftD (ds := ds7) [d__law_times, d__law_rare] (by decide +kernel)).trans dfl_self
@[simp] theorem up9__law_amount {M : Nat} : (F9 M).call "_law_amount" = (FU M).call "_law_amount" := (lift (ds := ds4) [d__law_times, d__law_rare, d__law_part, d__law_pick, d__law_gap] (by decide +kernel)).trans up__law_amount.symm
@[simp] theorem dfl9__law_amount {M : Nat} (n : Nat) : (F9 M).dfl "_law_amount" n = [] := (liftD (ds := ds4) [d__law_times, d__law_rare, d__law_part, d__law_pick, d__law_gap] (by decide +kernel)).trans dfl_self
@[simp] theorem up9__law_gap {M : Nat} : (F9 M).call "_law_gap" = (FU M).call "_law_gap" := (lift (ds := ds5) [d__law_times, d__law_rare, d__law_part, d__law_pick] (by decide +kernel)).trans up__law_gap.symm
@[simp] theorem dfl9__law_gap {M : Nat} (n : Nat) : (F9 M).dfl "_law_gap" n = [] := (liftD (ds := ds5) [d__law_times, d__law_rare, d__law_part, d__law_pick] (by decide +kernel)).trans dfl_self
@[simp] theorem up10__law_draw {M : Nat} : (F10 M).call "_law_draw" = (FU M).call "_law_draw" := (lift (ds := ds2) [d__law_any_layer, d__law_times, d__law_rare, d__law_part, d__law_pick, d__law_gap, d__law_amount, d__law_gcd] (by decide +kernel)).trans up__law_draw.symm
@[simp] theorem dfl10__law_draw {M : Nat} (n : Nat) : (F10 M).dfl "_law_draw" n = [] := (liftD (ds := ds2) [d__law_any_layer, d__law_times, d__law_rare, d__law_part, d__law_pick, d__law_gap, d__law_amount, d__law_gcd] (by decide +kernel)).trans dfl_self
@[simp] theorem up12_reduced {M : Nat} : (F12 M).call "reduced" = (FU M).call "reduced" := (lift (ds := ds12) [] (by decide +kernel)).trans up_reduced.symm
@[simp] theorem dfl12_reduced {M : Nat} (n : Nat) : (F12 M).dfl "reduced" n = [] := (liftD (ds := ds12) [] (by decide +kernel)).trans dfl_self
@[simp] theorem up13_reduced {M : Nat} : (F13 M).call "reduced" = (FU M).call "reduced" := (lift (ds := ds12) [d_times] (by decide +kernel)).trans up_reduced.symm
@[simp] theorem dfl13_reduced {M : Nat} (n : Nat) : (F13 M).dfl "reduced" n = [] := (liftD (ds := ds12) [d_times] (by decide +kernel)).trans dfl_self
@[simp] theorem up14_times {M : Nat} : (F14 M).call "times" = (FU M).call "times" := (lift (ds := ds13) [d_amount] (by decide +kernel)).trans up_times.symm
@[simp] theorem dfl14_times {M : Nat} (n : Nat) : (F14 M).dfl "times" n = [] := (liftD (ds := ds13) [d_amount] (by decide +kernel)).trans dfl_self
@[simp] theorem up14_amount {M : Nat} : (F14 M).call "amount" = (FU M).call "amount" := (lift (ds := ds14) [] (by decide +kernel)).trans up_amount.symm
@[simp] theorem dfl14_amount {M : Nat} (n : Nat) : (F14 M).dfl "amount" n = ([(.int 1)] : List D).drop (n - 1) := (liftD (ds := ds14) [] (by decide +kernel)).trans dfl_self
@[simp] theorem up15_limit_times {M : Nat} : (F15 M).call "limit_times" = (FU M).call "limit_times" := (lift (ds := ds15) [] (by decide +kernel)).trans up_limit_times.symm
@[simp] theorem dfl15_limit_times {M : Nat} (n : Nat) : (F15 M).dfl "limit_times" n = [] := (liftD (ds := ds15) [] (by decide +kernel)).trans dfl_self
@[simp] theorem up17_sign_of {M : Nat} : (F17 M).call "sign_of" = (FU M).call "sign_of" := (lift (ds := ds17) [] (by decide +kernel)).trans up_sign_of.symm
@[simp] theorem dfl17_sign_of {M : Nat} (n : Nat) : (F17 M).dfl "sign_of" n = [] := (liftD (ds := ds17) [] (by decide +kernel)).trans dfl_self
@[simp] theorem up17_limit_times {M : Nat} : (F17 M).call "limit_times" = (FU M).call "limit_times" := (lift (ds := ds15) [d_sign_of, d_year_of_limit] (by decide +kernel)).trans up_limit_times.symm
@[simp] theorem dfl17_limit_times {M : Nat} (n : Nat) : (F17 M).dfl "limit_times" n = [] := (liftD (ds := ds15) [d_sign_of, d_year_of_limit] (by decide +kernel)).trans dfl_self
@[simp] theorem up18_year_of_limit {M : Nat} : (F18 M).call "year_of_limit" = (FU M).call "year_of_limit" := (lift (ds := ds16) [d_price_of_limit, d_sign_of] (by decide +kernel)).trans up_year_of_limit.symm
@[simp] theorem dfl18_year_of_limit {M : Nat} (n : Nat) : (F18 M).dfl "year_of_limit" n = [] := (liftD (ds := ds16) [d_price_of_limit, d_sign_of] (by decide +kernel)).trans dfl_self
@[simp] theorem up18_price_of_limit {M : Nat} : (F18 M).call "price_of_limit" = (FU M).call "price_of_limit" := (lift (ds := ds18) [] (by decide +kernel)).trans up_price_of_limit.symm
@[simp] theorem dfl18_price_of_limit {M : Nat} (n : Nat) : (F18 M).dfl "price_of_limit" n = [] := (liftD (ds := ds18) [] (by decide +kernel)).trans dfl_self
@[simp] theorem up20__law_is_int {M : Nat} : (F20 M).call "_law_is_int" = (FU M).call "_law_is_int" := (lift (ds := ds20) [] (by decide +kernel)).trans up__law_is_int.symm
@[simp] theorem dfl20__law_is_int {M : Nat} (n : Nat) : (F20 M).dfl "_law_is_int" n = [] := (liftD (ds := ds20) [] (by decide +kernel)).trans dfl_self
@[simp] theorem up20__law_gcd {M : Nat} : (F20 M).call "_law_gcd" = (FU M).call "_law_gcd" := (lift (ds := ds3) [d__law_is_int, d_reinstated, d_price_of_limit, d_sign_of, d_year_of_limit, d_limit_times, d_amount, d_times, d_reduced, d__law_shuffled, d__law_any_layer, d__law_times, d__law_rare, d__law_part, d__law_pick, d__law_gap, d__law_amount] (by decide +kernel)).trans up__law_gcd.symm
@[simp] theorem dfl20__law_gcd {M : Nat} (n : Nat) : (F20 M).dfl "_law_gcd" n = [] := (liftD (ds := ds3) [d__law_is_int, d_reinstated, d_price_of_limit, d_sign_of, d_year_of_limit, d_limit_times, d_amount, d_times, d_reduced, d__law_shuffled, d__law_any_layer, d__law_times, d__law_rare, d__law_part, d__law_pick, d__law_gap, d__law_amount] (by decide +kernel)).trans dfl_self
@[simp] theorem up21__law_is_amount {M : Nat} : (F21 M).call "_law_is_amount" = (FU M).call "_law_is_amount" := (lift (ds := ds21) [] (by decide +kernel)).trans up__law_is_amount.symm
@[simp] theorem dfl21__law_is_amount {M : Nat} (n : Nat) : (F21 M).dfl "_law_is_amount" n = [] := (liftD (ds := ds21) [] (by decide +kernel)).trans dfl_self
@[simp] theorem up23__law_is_row {M : Nat} : (F23 M).call "_law_is_row" = (FU M).call "_law_is_row" := (lift (ds := ds22) [d__law_less] (by decide +kernel)).trans up__law_is_row.symm
@[simp] theorem dfl23__law_is_row {M : Nat} (n : Nat) : (F23 M).dfl "_law_is_row" n = [] := (liftD (ds := ds22) [d__law_less] (by decide +kernel)).trans dfl_self
@[simp] theorem up23__law_less {M : Nat} : (F23 M).call "_law_less" = (FU M).call "_law_less" := (lift (ds := ds23) [] (by decide +kernel)).trans up__law_less.symm
@[simp] theorem dfl23__law_less {M : Nat} (n : Nat) : (F23 M).dfl "_law_less" n = [] := (liftD (ds := ds23) [] (by decide +kernel)).trans dfl_self
@[simp] theorem up25__law_times {M : Nat} : (F25 M).call "_law_times" = (FU M).call "_law_times" := (lift (ds := ds9) [d__law_int, d__law_is_line, d__law_less, d__law_is_row, d__law_is_amount, d__law_is_int, d_reinstated, d_price_of_limit, d_sign_of, d_year_of_limit, d_limit_times, d_amount, d_times, d_reduced, d__law_shuffled, d__law_any_layer] (by decide +kernel)).trans up__law_times.symm
@[simp] theorem dfl25__law_times {M : Nat} (n : Nat) : (F25 M).dfl "_law_times" n = [] := (liftD (ds := ds9) [d__law_int, d__law_is_line, d__law_less, d__law_is_row, d__law_is_amount, d__law_is_int, d_reinstated, d_price_of_limit, d_sign_of, d_year_of_limit, d_limit_times, d_amount, d_times, d_reduced, d__law_shuffled, d__law_any_layer] (by decide +kernel)).trans dfl_self
@[simp] theorem up25__law_int {M : Nat} : (F25 M).call "_law_int" = (FU M).call "_law_int" := (lift (ds := ds25) [] (by decide +kernel)).trans up__law_int.symm
@[simp] theorem dfl25__law_int {M : Nat} (n : Nat) : (F25 M).dfl "_law_int" n = [] := (liftD (ds := ds25) [] (by decide +kernel)).trans dfl_self
@[simp] theorem up26__law_times {M : Nat} : (F26 M).call "_law_times" = (FU M).call "_law_times" := (lift (ds := ds9) [d__law_own_year, d__law_int, d__law_is_line, d__law_less, d__law_is_row, d__law_is_amount, d__law_is_int, d_reinstated, d_price_of_limit, d_sign_of, d_year_of_limit, d_limit_times, d_amount, d_times, d_reduced, d__law_shuffled, d__law_any_layer] (by decide +kernel)).trans up__law_times.symm
@[simp] theorem dfl26__law_times {M : Nat} (n : Nat) : (F26 M).dfl "_law_times" n = [] := (liftD (ds := ds9) [d__law_own_year, d__law_int, d__law_is_line, d__law_less, d__law_is_row, d__law_is_amount, d__law_is_int, d_reinstated, d_price_of_limit, d_sign_of, d_year_of_limit, d_limit_times, d_amount, d_times, d_reduced, d__law_shuffled, d__law_any_layer] (by decide +kernel)).trans dfl_self
@[simp] theorem up26__law_int {M : Nat} : (F26 M).call "_law_int" = (FU M).call "_law_int" := (lift (ds := ds25) [d__law_own_year] (by decide +kernel)).trans up__law_int.symm
@[simp] theorem dfl26__law_int {M : Nat} (n : Nat) : (F26 M).dfl "_law_int" n = [] := (liftD (ds := ds25) [d__law_own_year] (by decide +kernel)).trans dfl_self
@[simp] theorem up27__law_less {M : Nat} : (F27 M).call "_law_less" = (FU M).call "_law_less" := (lift (ds := ds23) [d__law_own_price, d__law_own_year, d__law_int, d__law_is_line] (by decide +kernel)).trans up__law_less.symm
@[simp] theorem dfl27__law_less {M : Nat} (n : Nat) : (F27 M).dfl "_law_less" n = [] := (liftD (ds := ds23) [d__law_own_price, d__law_own_year, d__law_int, d__law_is_line] (by decide +kernel)).trans dfl_self
@[simp] theorem up28__law_amount {M : Nat} : (F28 M).call "_law_amount" = (FU M).call "_law_amount" := (lift (ds := ds4) [d__law_smaller, d__law_own_price, d__law_own_year, d__law_int, d__law_is_line, d__law_less, d__law_is_row, d__law_is_amount, d__law_is_int, d_reinstated, d_price_of_limit, d_sign_of, d_year_of_limit, d_limit_times, d_amount, d_times, d_reduced, d__law_shuffled, d__law_any_layer, d__law_times, d__law_rare, d__law_part, d__law_pick, d__law_gap] (by decide +kernel)).trans up__law_amount.symm
@[simp] theorem dfl28__law_amount {M : Nat} (n : Nat) : (F28 M).dfl "_law_amount" n = [] := (liftD (ds := ds4) [d__law_smaller, d__law_own_price, d__law_own_year, d__law_int, d__law_is_line, d__law_less, d__law_is_row, d__law_is_amount, d__law_is_int, d_reinstated, d_price_of_limit, d_sign_of, d_year_of_limit, d_limit_times, d_amount, d_times, d_reduced, d__law_shuffled, d__law_any_layer, d__law_times, d__law_rare, d__law_part, d__law_pick, d__law_gap] (by decide +kernel)).trans dfl_self
@[simp] theorem up29__law_amount {M : Nat} : (F29 M).call "_law_amount" = (FU M).call "_law_amount" := (lift (ds := ds4) [d__law_minus, d__law_smaller, d__law_own_price, d__law_own_year, d__law_int, d__law_is_line, d__law_less, d__law_is_row, d__law_is_amount, d__law_is_int, d_reinstated, d_price_of_limit, d_sign_of, d_year_of_limit, d_limit_times, d_amount, d_times, d_reduced, d__law_shuffled, d__law_any_layer, d__law_times, d__law_rare, d__law_part, d__law_pick, d__law_gap] (by decide +kernel)).trans up__law_amount.symm
@[simp] theorem dfl29__law_amount {M : Nat} (n : Nat) : (F29 M).dfl "_law_amount" n = [] := (liftD (ds := ds4) [d__law_minus, d__law_smaller, d__law_own_price, d__law_own_year, d__law_int, d__law_is_line, d__law_less, d__law_is_row, d__law_is_amount, d__law_is_int, d_reinstated, d_price_of_limit, d_sign_of, d_year_of_limit, d_limit_times, d_amount, d_times, d_reduced, d__law_shuffled, d__law_any_layer, d__law_times, d__law_rare, d__law_part, d__law_pick, d__law_gap] (by decide +kernel)).trans dfl_self
@[simp] theorem up30__law_times {M : Nat} : (F30 M).call "_law_times" = (FU M).call "_law_times" := (lift (ds := ds9) [d__law_plus, d__law_minus, d__law_smaller, d__law_own_price, d__law_own_year, d__law_int, d__law_is_line, d__law_less, d__law_is_row, d__law_is_amount, d__law_is_int, d_reinstated, d_price_of_limit, d_sign_of, d_year_of_limit, d_limit_times, d_amount, d_times, d_reduced, d__law_shuffled, d__law_any_layer] (by decide +kernel)).trans up__law_times.symm
@[simp] theorem dfl30__law_times {M : Nat} (n : Nat) : (F30 M).dfl "_law_times" n = [] := (liftD (ds := ds9) [d__law_plus, d__law_minus, d__law_smaller, d__law_own_price, d__law_own_year, d__law_int, d__law_is_line, d__law_less, d__law_is_row, d__law_is_amount, d__law_is_int, d_reinstated, d_price_of_limit, d_sign_of, d_year_of_limit, d_limit_times, d_amount, d_times, d_reduced, d__law_shuffled, d__law_any_layer] (by decide +kernel)).trans dfl_self
@[simp] theorem up30__law_int {M : Nat} : (F30 M).call "_law_int" = (FU M).call "_law_int" := (lift (ds := ds25) [d__law_plus, d__law_minus, d__law_smaller, d__law_own_price, d__law_own_year] (by decide +kernel)).trans up__law_int.symm
@[simp] theorem dfl30__law_int {M : Nat} (n : Nat) : (F30 M).dfl "_law_int" n = [] := (liftD (ds := ds25) [d__law_plus, d__law_minus, d__law_smaller, d__law_own_price, d__law_own_year] (by decide +kernel)).trans dfl_self
@[simp] theorem up30__law_smaller {M : Nat} : (F30 M).call "_law_smaller" = (FU M).call "_law_smaller" := (lift (ds := ds28) [d__law_plus, d__law_minus] (by decide +kernel)).trans up__law_smaller.symm
@[simp] theorem dfl30__law_smaller {M : Nat} (n : Nat) : (F30 M).dfl "_law_smaller" n = [] := (liftD (ds := ds28) [d__law_plus, d__law_minus] (by decide +kernel)).trans dfl_self
@[simp] theorem up30__law_minus {M : Nat} : (F30 M).call "_law_minus" = (FU M).call "_law_minus" := (lift (ds := ds29) [d__law_plus] (by decide +kernel)).trans up__law_minus.symm
@[simp] theorem dfl30__law_minus {M : Nat} (n : Nat) : (F30 M).dfl "_law_minus" n = [] := (liftD (ds := ds29) [d__law_plus] (by decide +kernel)).trans dfl_self
@[simp] theorem up30__law_plus {M : Nat} : (F30 M).call "_law_plus" = (FU M).call "_law_plus" := (lift (ds := ds30) [] (by decide +kernel)).trans up__law_plus.symm
@[simp] theorem dfl30__law_plus {M : Nat} (n : Nat) : (F30 M).dfl "_law_plus" n = [] := (liftD (ds := ds30) [] (by decide +kernel)).trans dfl_self
@[simp] theorem up31_reduced {M : Nat} : (F31 M).call "reduced" = (FU M).call "reduced" := (lift (ds := ds12) [d__law_ledger, d__law_plus, d__law_minus, d__law_smaller, d__law_own_price, d__law_own_year, d__law_int, d__law_is_line, d__law_less, d__law_is_row, d__law_is_amount, d__law_is_int, d_reinstated, d_price_of_limit, d_sign_of, d_year_of_limit, d_limit_times, d_amount, d_times] (by decide +kernel)).trans up_reduced.symm
@[simp] theorem dfl31_reduced {M : Nat} (n : Nat) : (F31 M).dfl "reduced" n = [] := (liftD (ds := ds12) [d__law_ledger, d__law_plus, d__law_minus, d__law_smaller, d__law_own_price, d__law_own_year, d__law_int, d__law_is_line, d__law_less, d__law_is_row, d__law_is_amount, d__law_is_int, d_reinstated, d_price_of_limit, d_sign_of, d_year_of_limit, d_limit_times, d_amount, d_times] (by decide +kernel)).trans dfl_self
@[simp] theorem up32_plus {M : Nat} : (F32 M).call "plus" = (FU M).call "plus" := (lift (ds := ds32) [] (by decide +kernel)).trans up_plus.symm
@[simp] theorem dfl32_plus {M : Nat} (n : Nat) : (F32 M).dfl "plus" n = [] := (liftD (ds := ds32) [] (by decide +kernel)).trans dfl_self
@[simp] theorem up33_reduced {M : Nat} : (F33 M).call "reduced" = (FU M).call "reduced" := (lift (ds := ds12) [d_sums_before, d_plus, d__law_ledger, d__law_plus, d__law_minus, d__law_smaller, d__law_own_price, d__law_own_year, d__law_int, d__law_is_line, d__law_less, d__law_is_row, d__law_is_amount, d__law_is_int, d_reinstated, d_price_of_limit, d_sign_of, d_year_of_limit, d_limit_times, d_amount, d_times] (by decide +kernel)).trans up_reduced.symm
@[simp] theorem dfl33_reduced {M : Nat} (n : Nat) : (F33 M).dfl "reduced" n = [] := (liftD (ds := ds12) [d_sums_before, d_plus, d__law_ledger, d__law_plus, d__law_minus, d__law_smaller, d__law_own_price, d__law_own_year, d__law_int, d__law_is_line, d__law_less, d__law_is_row, d__law_is_amount, d__law_is_int, d_reinstated, d_price_of_limit, d_sign_of, d_year_of_limit, d_limit_times, d_amount, d_times] (by decide +kernel)).trans dfl_self
@[simp] theorem up35_is_less {M : Nat} : (F35 M).call "is_less" = (FU M).call "is_less" := (lift (ds := ds35) [] (by decide +kernel)).trans up_is_less.symm
@[simp] theorem dfl35_is_less {M : Nat} (n : Nat) : (F35 M).dfl "is_less" n = [] := (liftD (ds := ds35) [] (by decide +kernel)).trans dfl_self
@[simp] theorem up35_plus {M : Nat} : (F35 M).call "plus" = (FU M).call "plus" := (lift (ds := ds32) [d_is_less, d_minus, d_sums_before] (by decide +kernel)).trans up_plus.symm
@[simp] theorem dfl35_plus {M : Nat} (n : Nat) : (F35 M).dfl "plus" n = [] := (liftD (ds := ds32) [d_is_less, d_minus, d_sums_before] (by decide +kernel)).trans dfl_self
@[simp] theorem up35_times {M : Nat} : (F35 M).call "times" = (FU M).call "times" := (lift (ds := ds13) [d_is_less, d_minus, d_sums_before, d_plus, d__law_ledger, d__law_plus, d__law_minus, d__law_smaller, d__law_own_price, d__law_own_year, d__law_int, d__law_is_line, d__law_less, d__law_is_row, d__law_is_amount, d__law_is_int, d_reinstated, d_price_of_limit, d_sign_of, d_year_of_limit, d_limit_times, d_amount] (by decide +kernel)).trans up_times.symm
@[simp] theorem dfl35_times {M : Nat} (n : Nat) : (F35 M).dfl "times" n = [] := (liftD (ds := ds13) [d_is_less, d_minus, d_sums_before, d_plus, d__law_ledger, d__law_plus, d__law_minus, d__law_smaller, d__law_own_price, d__law_own_year, d__law_int, d__law_is_line, d__law_less, d__law_is_row, d__law_is_amount, d__law_is_int, d_reinstated, d_price_of_limit, d_sign_of, d_year_of_limit, d_limit_times, d_amount] (by decide +kernel)).trans dfl_self
@[simp] theorem up35_minus {M : Nat} : (F35 M).call "minus" = (FU M).call "minus" := (lift (ds := ds34) [d_is_less] (by decide +kernel)).trans up_minus.symm
@[simp] theorem dfl35_minus {M : Nat} (n : Nat) : (F35 M).dfl "minus" n = [] := (liftD (ds := ds34) [d_is_less] (by decide +kernel)).trans dfl_self
@[simp] theorem up36_minus {M : Nat} : (F36 M).call "minus" = (FU M).call "minus" := (lift (ds := ds34) [d_value_at, d_is_less] (by decide +kernel)).trans up_minus.symm
@[simp] theorem dfl36_minus {M : Nat} (n : Nat) : (F36 M).dfl "minus" n = [] := (liftD (ds := ds34) [d_value_at, d_is_less] (by decide +kernel)).trans dfl_self
@[simp] theorem up36_value_at {M : Nat} : (F36 M).call "value_at" = (FU M).call "value_at" := (lift (ds := ds36) [] (by decide +kernel)).trans up_value_at.symm
@[simp] theorem dfl36_value_at {M : Nat} (n : Nat) : (F36 M).dfl "value_at" n = [] := (liftD (ds := ds36) [] (by decide +kernel)).trans dfl_self
@[simp] theorem up36_plus {M : Nat} : (F36 M).call "plus" = (FU M).call "plus" := (lift (ds := ds32) [d_value_at, d_is_less, d_minus, d_sums_before] (by decide +kernel)).trans up_plus.symm
@[simp] theorem dfl36_plus {M : Nat} (n : Nat) : (F36 M).dfl "plus" n = [] := (liftD (ds := ds32) [d_value_at, d_is_less, d_minus, d_sums_before] (by decide +kernel)).trans dfl_self
@[simp] theorem up37_sums_before {M : Nat} : (F37 M).call "sums_before" = (FU M).call "sums_before" := (lift (ds := ds33) [d_rise, d_value_at, d_is_less, d_minus] (by decide +kernel)).trans up_sums_before.symm
@[simp] theorem dfl37_sums_before {M : Nat} (n : Nat) : (F37 M).dfl "sums_before" n = [] := (liftD (ds := ds33) [d_rise, d_value_at, d_is_less, d_minus] (by decide +kernel)).trans dfl_self
@[simp] theorem up37_rise {M : Nat} : (F37 M).call "rise" = (FU M).call "rise" := (lift (ds := ds37) [] (by decide +kernel)).trans up_rise.symm
@[simp] theorem dfl37_rise {M : Nat} (n : Nat) : (F37 M).dfl "rise" n = [] := (liftD (ds := ds37) [] (by decide +kernel)).trans dfl_self
@[simp] theorem up38_sums_before {M : Nat} : (F38 M).call "sums_before" = (FU M).call "sums_before" := (lift (ds := ds33) [d_rises, d_rise, d_value_at, d_is_less, d_minus] (by decide +kernel)).trans up_sums_before.symm
@[simp] theorem dfl38_sums_before {M : Nat} (n : Nat) : (F38 M).dfl "sums_before" n = [] := (liftD (ds := ds33) [d_rises, d_rise, d_value_at, d_is_less, d_minus] (by decide +kernel)).trans dfl_self
@[simp] theorem up38_rises {M : Nat} : (F38 M).call "rises" = (FU M).call "rises" := (lift (ds := ds38) [] (by decide +kernel)).trans up_rises.symm
@[simp] theorem dfl38_rises {M : Nat} (n : Nat) : (F38 M).dfl "rises" n = [] := (liftD (ds := ds38) [] (by decide +kernel)).trans dfl_self
@[simp] theorem up39_plus {M : Nat} : (F39 M).call "plus" = (FU M).call "plus" := (lift (ds := ds32) [d_statement, d_rises, d_rise, d_value_at, d_is_less, d_minus, d_sums_before] (by decide +kernel)).trans up_plus.symm
@[simp] theorem dfl39_plus {M : Nat} (n : Nat) : (F39 M).dfl "plus" n = [] := (liftD (ds := ds32) [d_statement, d_rises, d_rise, d_value_at, d_is_less, d_minus, d_sums_before] (by decide +kernel)).trans dfl_self
@[simp] theorem up40_total {M : Nat} : (F40 M).call "total" = (FU M).call "total" := (lift (ds := ds40) [] (by decide +kernel)).trans up_total.symm
@[simp] theorem dfl40_total {M : Nat} (n : Nat) : (F40 M).dfl "total" n = [] := (liftD (ds := ds40) [] (by decide +kernel)).trans dfl_self
@[simp] theorem up41_statement {M : Nat} : (F41 M).call "statement" = (FU M).call "statement" := (lift (ds := ds39) [d_sum_of_parts, d_total] (by decide +kernel)).trans up_statement.symm
@[simp] theorem dfl41_statement {M : Nat} (n : Nat) : (F41 M).dfl "statement" n = [] := (liftD (ds := ds39) [d_sum_of_parts, d_total] (by decide +kernel)).trans dfl_self
@[simp] theorem up41_sum_of_parts {M : Nat} : (F41 M).call "sum_of_parts" = (FU M).call "sum_of_parts" := (lift (ds := ds41) [] (by decide +kernel)).trans up_sum_of_parts.symm
@[simp] theorem dfl41_sum_of_parts {M : Nat} (n : Nat) : (F41 M).dfl "sum_of_parts" n = [] := (liftD (ds := ds41) [] (by decide +kernel)).trans dfl_self
@[simp] theorem up42__law_plus {M : Nat} : (F42 M).call "_law_plus" = (FU M).call "_law_plus" := (lift (ds := ds30) [d_totals, d_sum_of_parts, d_total, d_statement, d_rises, d_rise, d_value_at, d_is_less, d_minus, d_sums_before, d_plus, d__law_ledger] (by decide +kernel)).trans up__law_plus.symm
@[simp] theorem dfl42__law_plus {M : Nat} (n : Nat) : (F42 M).dfl "_law_plus" n = [] := (liftD (ds := ds30) [d_totals, d_sum_of_parts, d_total, d_statement, d_rises, d_rise, d_value_at, d_is_less, d_minus, d_sums_before, d_plus, d__law_ledger] (by decide +kernel)).trans dfl_self
@[simp] theorem up43_statement {M : Nat} : (F43 M).call "statement" = (FU M).call "statement" := (lift (ds := ds39) [d__law_total, d_totals, d_sum_of_parts, d_total] (by decide +kernel)).trans up_statement.symm
@[simp] theorem dfl43_statement {M : Nat} (n : Nat) : (F43 M).dfl "statement" n = [] := (liftD (ds := ds39) [d__law_total, d_totals, d_sum_of_parts, d_total] (by decide +kernel)).trans dfl_self
@[simp] theorem up43__law_is_row {M : Nat} : (F43 M).call "_law_is_row" = (FU M).call "_law_is_row" := (lift (ds := ds22) [d__law_total, d_totals, d_sum_of_parts, d_total, d_statement, d_rises, d_rise, d_value_at, d_is_less, d_minus, d_sums_before, d_plus, d__law_ledger, d__law_plus, d__law_minus, d__law_smaller, d__law_own_price, d__law_own_year, d__law_int, d__law_is_line, d__law_less] (by decide +kernel)).trans up__law_is_row.symm
@[simp] theorem dfl43__law_is_row {M : Nat} (n : Nat) : (F43 M).dfl "_law_is_row" n = [] := (liftD (ds := ds22) [d__law_total, d_totals, d_sum_of_parts, d_total, d_statement, d_rises, d_rise, d_value_at, d_is_less, d_minus, d_sums_before, d_plus, d__law_ledger, d__law_plus, d__law_minus, d__law_smaller, d__law_own_price, d__law_own_year, d__law_int, d__law_is_line, d__law_less] (by decide +kernel)).trans dfl_self
@[simp] theorem up43_totals {M : Nat} : (F43 M).call "totals" = (FU M).call "totals" := (lift (ds := ds42) [d__law_total] (by decide +kernel)).trans up_totals.symm
@[simp] theorem dfl43_totals {M : Nat} (n : Nat) : (F43 M).dfl "totals" n = [] := (liftD (ds := ds42) [d__law_total] (by decide +kernel)).trans dfl_self
@[simp] theorem up43__law_total {M : Nat} : (F43 M).call "_law_total" = (FU M).call "_law_total" := (lift (ds := ds43) [] (by decide +kernel)).trans up__law_total.symm
@[simp] theorem dfl43__law_total {M : Nat} (n : Nat) : (F43 M).dfl "_law_total" n = [] := (liftD (ds := ds43) [] (by decide +kernel)).trans dfl_self
@[simp] theorem up46__law_is_int {M : Nat} : (F46 M).call "_law_is_int" = (FU M).call "_law_is_int" := (lift (ds := ds20) [d__law_replaced, d__law_unlike, d__law_ledger_right, d__law_total, d_totals, d_sum_of_parts, d_total, d_statement, d_rises, d_rise, d_value_at, d_is_less, d_minus, d_sums_before, d_plus, d__law_ledger, d__law_plus, d__law_minus, d__law_smaller, d__law_own_price, d__law_own_year, d__law_int, d__law_is_line, d__law_less, d__law_is_row, d__law_is_amount] (by decide +kernel)).trans up__law_is_int.symm
@[simp] theorem dfl46__law_is_int {M : Nat} (n : Nat) : (F46 M).dfl "_law_is_int" n = [] := (liftD (ds := ds20) [d__law_replaced, d__law_unlike, d__law_ledger_right, d__law_total, d_totals, d_sum_of_parts, d_total, d_statement, d_rises, d_rise, d_value_at, d_is_less, d_minus, d_sums_before, d_plus, d__law_ledger, d__law_plus, d__law_minus, d__law_smaller, d__law_own_price, d__law_own_year, d__law_int, d__law_is_line, d__law_less, d__law_is_row, d__law_is_amount] (by decide +kernel)).trans dfl_self
@[simp] theorem up49_statement {M : Nat} : (F49 M).call "statement" = (FU M).call "statement" := (lift (ds := ds39) [d_with_layer, d_unlike_places, d__law_places_right, d__law_replaced, d__law_unlike, d__law_ledger_right, d__law_total, d_totals, d_sum_of_parts, d_total] (by decide +kernel)).trans up_statement.symm
@[simp] theorem dfl49_statement {M : Nat} (n : Nat) : (F49 M).dfl "statement" n = [] := (liftD (ds := ds39) [d_with_layer, d_unlike_places, d__law_places_right, d__law_replaced, d__law_unlike, d__law_ledger_right, d__law_total, d_totals, d_sum_of_parts, d_total] (by decide +kernel)).trans dfl_self
@[simp] theorem up49_unlike_places {M : Nat} : (F49 M).call "unlike_places" = (FU M).call "unlike_places" := (lift (ds := ds48) [d_with_layer] (by decide +kernel)).trans up_unlike_places.symm
@[simp] theorem dfl49_unlike_places {M : Nat} (n : Nat) : (F49 M).dfl "unlike_places" n = [] := (liftD (ds := ds48) [d_with_layer] (by decide +kernel)).trans dfl_self
@[simp] theorem up49_with_layer {M : Nat} : (F49 M).call "with_layer" = (FU M).call "with_layer" := (lift (ds := ds49) [] (by decide +kernel)).trans up_with_layer.symm
@[simp] theorem dfl49_with_layer {M : Nat} (n : Nat) : (F49 M).dfl "with_layer" n = [] := (liftD (ds := ds49) [] (by decide +kernel)).trans dfl_self
@[simp] theorem up50__law_draw {M : Nat} : (F50 M).call "_law_draw" = (FU M).call "_law_draw" := (lift (ds := ds2) [d_changed_rows, d_with_layer, d_unlike_places, d__law_places_right, d__law_replaced, d__law_unlike, d__law_ledger_right, d__law_total, d_totals, d_sum_of_parts, d_total, d_statement, d_rises, d_rise, d_value_at, d_is_less, d_minus, d_sums_before, d_plus, d__law_ledger, d__law_plus, d__law_minus, d__law_smaller, d__law_own_price, d__law_own_year, d__law_int, d__law_is_line, d__law_less, d__law_is_row, d__law_is_amount, d__law_is_int, d_reinstated, d_price_of_limit, d_sign_of, d_year_of_limit, d_limit_times, d_amount, d_times, d_reduced, d__law_shuffled, d__law_any_layer, d__law_times, d__law_rare, d__law_part, d__law_pick, d__law_gap, d__law_amount, d__law_gcd] (by decide +kernel)).trans up__law_draw.symm
@[simp] theorem dfl50__law_draw {M : Nat} (n : Nat) : (F50 M).dfl "_law_draw" n = [] := (liftD (ds := ds2) [d_changed_rows, d_with_layer, d_unlike_places, d__law_places_right, d__law_replaced, d__law_unlike, d__law_ledger_right, d__law_total, d_totals, d_sum_of_parts, d_total, d_statement, d_rises, d_rise, d_value_at, d_is_less, d_minus, d_sums_before, d_plus, d__law_ledger, d__law_plus, d__law_minus, d__law_smaller, d__law_own_price, d__law_own_year, d__law_int, d__law_is_line, d__law_less, d__law_is_row, d__law_is_amount, d__law_is_int, d_reinstated, d_price_of_limit, d_sign_of, d_year_of_limit, d_limit_times, d_amount, d_times, d_reduced, d__law_shuffled, d__law_any_layer, d__law_times, d__law_rare, d__law_part, d__law_pick, d__law_gap, d__law_amount, d__law_gcd] (by decide +kernel)).trans dfl_self
@[simp] theorem up50__law_gap {M : Nat} : (F50 M).call "_law_gap" = (FU M).call "_law_gap" := (lift (ds := ds5) [d_changed_rows, d_with_layer, d_unlike_places, d__law_places_right, d__law_replaced, d__law_unlike, d__law_ledger_right, d__law_total, d_totals, d_sum_of_parts, d_total, d_statement, d_rises, d_rise, d_value_at, d_is_less, d_minus, d_sums_before, d_plus, d__law_ledger, d__law_plus, d__law_minus, d__law_smaller, d__law_own_price, d__law_own_year, d__law_int, d__law_is_line, d__law_less, d__law_is_row, d__law_is_amount, d__law_is_int, d_reinstated, d_price_of_limit, d_sign_of, d_year_of_limit, d_limit_times, d_amount, d_times, d_reduced, d__law_shuffled, d__law_any_layer, d__law_times, d__law_rare, d__law_part, d__law_pick] (by decide +kernel)).trans up__law_gap.symm
@[simp] theorem dfl50__law_gap {M : Nat} (n : Nat) : (F50 M).dfl "_law_gap" n = [] := (liftD (ds := ds5) [d_changed_rows, d_with_layer, d_unlike_places, d__law_places_right, d__law_replaced, d__law_unlike, d__law_ledger_right, d__law_total, d_totals, d_sum_of_parts, d_total, d_statement, d_rises, d_rise, d_value_at, d_is_less, d_minus, d_sums_before, d_plus, d__law_ledger, d__law_plus, d__law_minus, d__law_smaller, d__law_own_price, d__law_own_year, d__law_int, d__law_is_line, d__law_less, d__law_is_row, d__law_is_amount, d__law_is_int, d_reinstated, d_price_of_limit, d_sign_of, d_year_of_limit, d_limit_times, d_amount, d_times, d_reduced, d__law_shuffled, d__law_any_layer, d__law_times, d__law_rare, d__law_part, d__law_pick] (by decide +kernel)).trans dfl_self
@[simp] theorem up50__law_plus {M : Nat} : (F50 M).call "_law_plus" = (FU M).call "_law_plus" := (lift (ds := ds30) [d_changed_rows, d_with_layer, d_unlike_places, d__law_places_right, d__law_replaced, d__law_unlike, d__law_ledger_right, d__law_total, d_totals, d_sum_of_parts, d_total, d_statement, d_rises, d_rise, d_value_at, d_is_less, d_minus, d_sums_before, d_plus, d__law_ledger] (by decide +kernel)).trans up__law_plus.symm
@[simp] theorem dfl50__law_plus {M : Nat} (n : Nat) : (F50 M).dfl "_law_plus" n = [] := (liftD (ds := ds30) [d_changed_rows, d_with_layer, d_unlike_places, d__law_places_right, d__law_replaced, d__law_unlike, d__law_ledger_right, d__law_total, d_totals, d_sum_of_parts, d_total, d_statement, d_rises, d_rise, d_value_at, d_is_less, d_minus, d_sums_before, d_plus, d__law_ledger] (by decide +kernel)).trans dfl_self
@[simp] theorem up52__law_ends {M : Nat} : (F52 M).call "_law_ends" = (FU M).call "_law_ends" := (lift (ds := ds51) [d__law_normal] (by decide +kernel)).trans up__law_ends.symm
@[simp] theorem dfl52__law_ends {M : Nat} (n : Nat) : (F52 M).dfl "_law_ends" n = [] := (liftD (ds := ds51) [d__law_normal] (by decide +kernel)).trans dfl_self
@[simp] theorem up52__law_part {M : Nat} : (F52 M).call "_law_part" = (FU M).call "_law_part" := (lift (ds := ds7) [d__law_normal, d__law_ends, d_changed_rows, d_with_layer, d_unlike_places, d__law_places_right, d__law_replaced, d__law_unlike, d__law_ledger_right, d__law_total, d_totals, d_sum_of_parts, d_total, d_statement, d_rises, d_rise, d_value_at, d_is_less, d_minus, d_sums_before, d_plus, d__law_ledger, d__law_plus, d__law_minus, d__law_smaller, d__law_own_price, d__law_own_year, d__law_int, d__law_is_line, d__law_less, d__law_is_row, d__law_is_amount, d__law_is_int, d_reinstated, d_price_of_limit, d_sign_of, d_year_of_limit, d_limit_times, d_amount, d_times, d_reduced, d__law_shuffled, d__law_any_layer, d__law_times, d__law_rare] (by decide +kernel)).trans up__law_part.symm
@[simp] theorem dfl52__law_part {M : Nat} (n : Nat) : (F52 M).dfl "_law_part" n = [] := (liftD (ds := ds7) [d__law_normal, d__law_ends, d_changed_rows, d_with_layer, d_unlike_places, d__law_places_right, d__law_replaced, d__law_unlike, d__law_ledger_right, d__law_total, d_totals, d_sum_of_parts, d_total, d_statement, d_rises, d_rise, d_value_at, d_is_less, d_minus, d_sums_before, d_plus, d__law_ledger, d__law_plus, d__law_minus, d__law_smaller, d__law_own_price, d__law_own_year, d__law_int, d__law_is_line, d__law_less, d__law_is_row, d__law_is_amount, d__law_is_int, d_reinstated, d_price_of_limit, d_sign_of, d_year_of_limit, d_limit_times, d_amount, d_times, d_reduced, d__law_shuffled, d__law_any_layer, d__law_times, d__law_rare] (by decide +kernel)).trans dfl_self
@[simp] theorem up52__law_draw {M : Nat} : (F52 M).call "_law_draw" = (FU M).call "_law_draw" := (lift (ds := ds2) [d__law_normal, d__law_ends, d_changed_rows, d_with_layer, d_unlike_places, d__law_places_right, d__law_replaced, d__law_unlike, d__law_ledger_right, d__law_total, d_totals, d_sum_of_parts, d_total, d_statement, d_rises, d_rise, d_value_at, d_is_less, d_minus, d_sums_before, d_plus, d__law_ledger, d__law_plus, d__law_minus, d__law_smaller, d__law_own_price, d__law_own_year, d__law_int, d__law_is_line, d__law_less, d__law_is_row, d__law_is_amount, d__law_is_int, d_reinstated, d_price_of_limit, d_sign_of, d_year_of_limit, d_limit_times, d_amount, d_times, d_reduced, d__law_shuffled, d__law_any_layer, d__law_times, d__law_rare, d__law_part, d__law_pick, d__law_gap, d__law_amount, d__law_gcd] (by decide +kernel)).trans up__law_draw.symm
@[simp] theorem dfl52__law_draw {M : Nat} (n : Nat) : (F52 M).dfl "_law_draw" n = [] := (liftD (ds := ds2) [d__law_normal, d__law_ends, d_changed_rows, d_with_layer, d_unlike_places, d__law_places_right, d__law_replaced, d__law_unlike, d__law_ledger_right, d__law_total, d_totals, d_sum_of_parts, d_total, d_statement, d_rises, d_rise, d_value_at, d_is_less, d_minus, d_sums_before, d_plus, d__law_ledger, d__law_plus, d__law_minus, d__law_smaller, d__law_own_price, d__law_own_year, d__law_int, d__law_is_line, d__law_less, d__law_is_row, d__law_is_amount, d__law_is_int, d_reinstated, d_price_of_limit, d_sign_of, d_year_of_limit, d_limit_times, d_amount, d_times, d_reduced, d__law_shuffled, d__law_any_layer, d__law_times, d__law_rare, d__law_part, d__law_pick, d__law_gap, d__law_amount, d__law_gcd] (by decide +kernel)).trans dfl_self
@[simp] theorem up52__law_normal {M : Nat} : (F52 M).call "_law_normal" = (FU M).call "_law_normal" := (lift (ds := ds52) [] (by decide +kernel)).trans up__law_normal.symm
@[simp] theorem dfl52__law_normal {M : Nat} (n : Nat) : (F52 M).dfl "_law_normal" n = [] := (liftD (ds := ds52) [] (by decide +kernel)).trans dfl_self
@[simp] theorem up53__law_less {M : Nat} : (F53 M).call "_law_less" = (FU M).call "_law_less" := (lift (ds := ds23) [d__law_line, d__law_normal, d__law_ends, d_changed_rows, d_with_layer, d_unlike_places, d__law_places_right, d__law_replaced, d__law_unlike, d__law_ledger_right, d__law_total, d_totals, d_sum_of_parts, d_total, d_statement, d_rises, d_rise, d_value_at, d_is_less, d_minus, d_sums_before, d_plus, d__law_ledger, d__law_plus, d__law_minus, d__law_smaller, d__law_own_price, d__law_own_year, d__law_int, d__law_is_line] (by decide +kernel)).trans up__law_less.symm
@[simp] theorem dfl53__law_less {M : Nat} (n : Nat) : (F53 M).dfl "_law_less" n = [] := (liftD (ds := ds23) [d__law_line, d__law_normal, d__law_ends, d_changed_rows, d_with_layer, d_unlike_places, d__law_places_right, d__law_replaced, d__law_unlike, d__law_ledger_right, d__law_total, d_totals, d_sum_of_parts, d_total, d_statement, d_rises, d_rise, d_value_at, d_is_less, d_minus, d_sums_before, d_plus, d__law_ledger, d__law_plus, d__law_minus, d__law_smaller, d__law_own_price, d__law_own_year, d__law_int, d__law_is_line] (by decide +kernel)).trans dfl_self
@[simp] theorem up53__law_plus {M : Nat} : (F53 M).call "_law_plus" = (FU M).call "_law_plus" := (lift (ds := ds30) [d__law_line, d__law_normal, d__law_ends, d_changed_rows, d_with_layer, d_unlike_places, d__law_places_right, d__law_replaced, d__law_unlike, d__law_ledger_right, d__law_total, d_totals, d_sum_of_parts, d_total, d_statement, d_rises, d_rise, d_value_at, d_is_less, d_minus, d_sums_before, d_plus, d__law_ledger] (by decide +kernel)).trans up__law_plus.symm
@[simp] theorem dfl53__law_plus {M : Nat} (n : Nat) : (F53 M).dfl "_law_plus" n = [] := (liftD (ds := ds30) [d__law_line, d__law_normal, d__law_ends, d_changed_rows, d_with_layer, d_unlike_places, d__law_places_right, d__law_replaced, d__law_unlike, d__law_ledger_right, d__law_total, d_totals, d_sum_of_parts, d_total, d_statement, d_rises, d_rise, d_value_at, d_is_less, d_minus, d_sums_before, d_plus, d__law_ledger] (by decide +kernel)).trans dfl_self
@[simp] theorem up53__law_times {M : Nat} : (F53 M).call "_law_times" = (FU M).call "_law_times" := (lift (ds := ds9) [d__law_line, d__law_normal, d__law_ends, d_changed_rows, d_with_layer, d_unlike_places, d__law_places_right, d__law_replaced, d__law_unlike, d__law_ledger_right, d__law_total, d_totals, d_sum_of_parts, d_total, d_statement, d_rises, d_rise, d_value_at, d_is_less, d_minus, d_sums_before, d_plus, d__law_ledger, d__law_plus, d__law_minus, d__law_smaller, d__law_own_price, d__law_own_year, d__law_int, d__law_is_line, d__law_less, d__law_is_row, d__law_is_amount, d__law_is_int, d_reinstated, d_price_of_limit, d_sign_of, d_year_of_limit, d_limit_times, d_amount, d_times, d_reduced, d__law_shuffled, d__law_any_layer] (by decide +kernel)).trans up__law_times.symm
@[simp] theorem dfl53__law_times {M : Nat} (n : Nat) : (F53 M).dfl "_law_times" n = [] := (liftD (ds := ds9) [d__law_line, d__law_normal, d__law_ends, d_changed_rows, d_with_layer, d_unlike_places, d__law_places_right, d__law_replaced, d__law_unlike, d__law_ledger_right, d__law_total, d_totals, d_sum_of_parts, d_total, d_statement, d_rises, d_rise, d_value_at, d_is_less, d_minus, d_sums_before, d_plus, d__law_ledger, d__law_plus, d__law_minus, d__law_smaller, d__law_own_price, d__law_own_year, d__law_int, d__law_is_line, d__law_less, d__law_is_row, d__law_is_amount, d__law_is_int, d_reinstated, d_price_of_limit, d_sign_of, d_year_of_limit, d_limit_times, d_amount, d_times, d_reduced, d__law_shuffled, d__law_any_layer] (by decide +kernel)).trans dfl_self
@[simp] theorem up53__law_minus {M : Nat} : (F53 M).call "_law_minus" = (FU M).call "_law_minus" := (lift (ds := ds29) [d__law_line, d__law_normal, d__law_ends, d_changed_rows, d_with_layer, d_unlike_places, d__law_places_right, d__law_replaced, d__law_unlike, d__law_ledger_right, d__law_total, d_totals, d_sum_of_parts, d_total, d_statement, d_rises, d_rise, d_value_at, d_is_less, d_minus, d_sums_before, d_plus, d__law_ledger, d__law_plus] (by decide +kernel)).trans up__law_minus.symm
@[simp] theorem dfl53__law_minus {M : Nat} (n : Nat) : (F53 M).dfl "_law_minus" n = [] := (liftD (ds := ds29) [d__law_line, d__law_normal, d__law_ends, d_changed_rows, d_with_layer, d_unlike_places, d__law_places_right, d__law_replaced, d__law_unlike, d__law_ledger_right, d__law_total, d_totals, d_sum_of_parts, d_total, d_statement, d_rises, d_rise, d_value_at, d_is_less, d_minus, d_sums_before, d_plus, d__law_ledger, d__law_plus] (by decide +kernel)).trans dfl_self
@[simp] theorem up54__law_plus {M : Nat} : (F54 M).call "_law_plus" = (FU M).call "_law_plus" := (lift (ds := ds30) [d__law_value, d__law_line, d__law_normal, d__law_ends, d_changed_rows, d_with_layer, d_unlike_places, d__law_places_right, d__law_replaced, d__law_unlike, d__law_ledger_right, d__law_total, d_totals, d_sum_of_parts, d_total, d_statement, d_rises, d_rise, d_value_at, d_is_less, d_minus, d_sums_before, d_plus, d__law_ledger] (by decide +kernel)).trans up__law_plus.symm
@[simp] theorem dfl54__law_plus {M : Nat} (n : Nat) : (F54 M).dfl "_law_plus" n = [] := (liftD (ds := ds30) [d__law_value, d__law_line, d__law_normal, d__law_ends, d_changed_rows, d_with_layer, d_unlike_places, d__law_places_right, d__law_replaced, d__law_unlike, d__law_ledger_right, d__law_total, d_totals, d_sum_of_parts, d_total, d_statement, d_rises, d_rise, d_value_at, d_is_less, d_minus, d_sums_before, d_plus, d__law_ledger] (by decide +kernel)).trans dfl_self
@[simp] theorem up54__law_minus {M : Nat} : (F54 M).call "_law_minus" = (FU M).call "_law_minus" := (lift (ds := ds29) [d__law_value, d__law_line, d__law_normal, d__law_ends, d_changed_rows, d_with_layer, d_unlike_places, d__law_places_right, d__law_replaced, d__law_unlike, d__law_ledger_right, d__law_total, d_totals, d_sum_of_parts, d_total, d_statement, d_rises, d_rise, d_value_at, d_is_less, d_minus, d_sums_before, d_plus, d__law_ledger, d__law_plus] (by decide +kernel)).trans up__law_minus.symm
@[simp] theorem dfl54__law_minus {M : Nat} (n : Nat) : (F54 M).dfl "_law_minus" n = [] := (liftD (ds := ds29) [d__law_value, d__law_line, d__law_normal, d__law_ends, d_changed_rows, d_with_layer, d_unlike_places, d__law_places_right, d__law_replaced, d__law_unlike, d__law_ledger_right, d__law_total, d_totals, d_sum_of_parts, d_total, d_statement, d_rises, d_rise, d_value_at, d_is_less, d_minus, d_sums_before, d_plus, d__law_ledger, d__law_plus] (by decide +kernel)).trans dfl_self
@[simp] theorem up54__law_value {M : Nat} : (F54 M).call "_law_value" = (FU M).call "_law_value" := (lift (ds := ds54) [] (by decide +kernel)).trans up__law_value.symm
@[simp] theorem dfl54__law_value {M : Nat} (n : Nat) : (F54 M).dfl "_law_value" n = [] := (liftD (ds := ds54) [] (by decide +kernel)).trans dfl_self
@[simp] theorem up55__law_replaced {M : Nat} : (F55 M).call "_law_replaced" = (FU M).call "_law_replaced" := (lift (ds := ds46) [d__law_statement, d__law_value, d__law_line, d__law_normal, d__law_ends, d_changed_rows, d_with_layer, d_unlike_places, d__law_places_right] (by decide +kernel)).trans up__law_replaced.symm
@[simp] theorem dfl55__law_replaced {M : Nat} (n : Nat) : (F55 M).dfl "_law_replaced" n = [] := (liftD (ds := ds46) [d__law_statement, d__law_value, d__law_line, d__law_normal, d__law_ends, d_changed_rows, d_with_layer, d_unlike_places, d__law_places_right] (by decide +kernel)).trans dfl_self
@[simp] theorem up55__law_unlike {M : Nat} : (F55 M).call "_law_unlike" = (FU M).call "_law_unlike" := (lift (ds := ds45) [d__law_statement, d__law_value, d__law_line, d__law_normal, d__law_ends, d_changed_rows, d_with_layer, d_unlike_places, d__law_places_right, d__law_replaced] (by decide +kernel)).trans up__law_unlike.symm
@[simp] theorem dfl55__law_unlike {M : Nat} (n : Nat) : (F55 M).dfl "_law_unlike" n = [] := (liftD (ds := ds45) [d__law_statement, d__law_value, d__law_line, d__law_normal, d__law_ends, d_changed_rows, d_with_layer, d_unlike_places, d__law_places_right, d__law_replaced] (by decide +kernel)).trans dfl_self
@[simp] theorem up55__law_statement {M : Nat} : (F55 M).call "_law_statement" = (FU M).call "_law_statement" := (lift (ds := ds55) [] (by decide +kernel)).trans up__law_statement.symm
@[simp] theorem dfl55__law_statement {M : Nat} (n : Nat) : (F55 M).dfl "_law_statement" n = [] := (liftD (ds := ds55) [] (by decide +kernel)).trans dfl_self
@[simp] theorem up55__law_places_right {M : Nat} : (F55 M).call "_law_places_right" = (FU M).call "_law_places_right" := (lift (ds := ds47) [d__law_statement, d__law_value, d__law_line, d__law_normal, d__law_ends, d_changed_rows, d_with_layer, d_unlike_places] (by decide +kernel)).trans up__law_places_right.symm
@[simp] theorem dfl55__law_places_right {M : Nat} (n : Nat) : (F55 M).dfl "_law_places_right" n = [] := (liftD (ds := ds47) [d__law_statement, d__law_value, d__law_line, d__law_normal, d__law_ends, d_changed_rows, d_with_layer, d_unlike_places] (by decide +kernel)).trans dfl_self
@[simp] theorem up55_changed_rows {M : Nat} : (F55 M).call "changed_rows" = (FU M).call "changed_rows" := (lift (ds := ds50) [d__law_statement, d__law_value, d__law_line, d__law_normal, d__law_ends] (by decide +kernel)).trans up_changed_rows.symm
@[simp] theorem dfl55_changed_rows {M : Nat} (n : Nat) : (F55 M).dfl "changed_rows" n = [] := (liftD (ds := ds50) [d__law_statement, d__law_value, d__law_line, d__law_normal, d__law_ends] (by decide +kernel)).trans dfl_self
@[simp] theorem up56__law_begin {M : Nat} : (F56 M).call "_law_begin" = (FU M).call "_law_begin" := (lift (ds := ds1) [d__law_changes_right, d__law_statement, d__law_value, d__law_line, d__law_normal, d__law_ends, d_changed_rows, d_with_layer, d_unlike_places, d__law_places_right, d__law_replaced, d__law_unlike, d__law_ledger_right, d__law_total, d_totals, d_sum_of_parts, d_total, d_statement, d_rises, d_rise, d_value_at, d_is_less, d_minus, d_sums_before, d_plus, d__law_ledger, d__law_plus, d__law_minus, d__law_smaller, d__law_own_price, d__law_own_year, d__law_int, d__law_is_line, d__law_less, d__law_is_row, d__law_is_amount, d__law_is_int, d_reinstated, d_price_of_limit, d_sign_of, d_year_of_limit, d_limit_times, d_amount, d_times, d_reduced, d__law_shuffled, d__law_any_layer, d__law_times, d__law_rare, d__law_part, d__law_pick, d__law_gap, d__law_amount, d__law_gcd, d__law_draw] (by decide +kernel)).trans up__law_begin.symm
@[simp] theorem dfl56__law_begin {M : Nat} (n : Nat) : (F56 M).dfl "_law_begin" n = [] := (liftD (ds := ds1) [d__law_changes_right, d__law_statement, d__law_value, d__law_line, d__law_normal, d__law_ends, d_changed_rows, d_with_layer, d_unlike_places, d__law_places_right, d__law_replaced, d__law_unlike, d__law_ledger_right, d__law_total, d_totals, d_sum_of_parts, d_total, d_statement, d_rises, d_rise, d_value_at, d_is_less, d_minus, d_sums_before, d_plus, d__law_ledger, d__law_plus, d__law_minus, d__law_smaller, d__law_own_price, d__law_own_year, d__law_int, d__law_is_line, d__law_less, d__law_is_row, d__law_is_amount, d__law_is_int, d_reinstated, d_price_of_limit, d_sign_of, d_year_of_limit, d_limit_times, d_amount, d_times, d_reduced, d__law_shuffled, d__law_any_layer, d__law_times, d__law_rare, d__law_part, d__law_pick, d__law_gap, d__law_amount, d__law_gcd, d__law_draw] (by decide +kernel)).trans dfl_self
@[simp] theorem up56__law_gap {M : Nat} : (F56 M).call "_law_gap" = (FU M).call "_law_gap" := (lift (ds := ds5) [d__law_changes_right, d__law_statement, d__law_value, d__law_line, d__law_normal, d__law_ends, d_changed_rows, d_with_layer, d_unlike_places, d__law_places_right, d__law_replaced, d__law_unlike, d__law_ledger_right, d__law_total, d_totals, d_sum_of_parts, d_total, d_statement, d_rises, d_rise, d_value_at, d_is_less, d_minus, d_sums_before, d_plus, d__law_ledger, d__law_plus, d__law_minus, d__law_smaller, d__law_own_price, d__law_own_year, d__law_int, d__law_is_line, d__law_less, d__law_is_row, d__law_is_amount, d__law_is_int, d_reinstated, d_price_of_limit, d_sign_of, d_year_of_limit, d_limit_times, d_amount, d_times, d_reduced, d__law_shuffled, d__law_any_layer, d__law_times, d__law_rare, d__law_part, d__law_pick] (by decide +kernel)).trans up__law_gap.symm
@[simp] theorem dfl56__law_gap {M : Nat} (n : Nat) : (F56 M).dfl "_law_gap" n = [] := (liftD (ds := ds5) [d__law_changes_right, d__law_statement, d__law_value, d__law_line, d__law_normal, d__law_ends, d_changed_rows, d_with_layer, d_unlike_places, d__law_places_right, d__law_replaced, d__law_unlike, d__law_ledger_right, d__law_total, d_totals, d_sum_of_parts, d_total, d_statement, d_rises, d_rise, d_value_at, d_is_less, d_minus, d_sums_before, d_plus, d__law_ledger, d__law_plus, d__law_minus, d__law_smaller, d__law_own_price, d__law_own_year, d__law_int, d__law_is_line, d__law_less, d__law_is_row, d__law_is_amount, d__law_is_int, d_reinstated, d_price_of_limit, d_sign_of, d_year_of_limit, d_limit_times, d_amount, d_times, d_reduced, d__law_shuffled, d__law_any_layer, d__law_times, d__law_rare, d__law_part, d__law_pick] (by decide +kernel)).trans dfl_self
@[simp] theorem up56__law_draw {M : Nat} : (F56 M).call "_law_draw" = (FU M).call "_law_draw" := (lift (ds := ds2) [d__law_changes_right, d__law_statement, d__law_value, d__law_line, d__law_normal, d__law_ends, d_changed_rows, d_with_layer, d_unlike_places, d__law_places_right, d__law_replaced, d__law_unlike, d__law_ledger_right, d__law_total, d_totals, d_sum_of_parts, d_total, d_statement, d_rises, d_rise, d_value_at, d_is_less, d_minus, d_sums_before, d_plus, d__law_ledger, d__law_plus, d__law_minus, d__law_smaller, d__law_own_price, d__law_own_year, d__law_int, d__law_is_line, d__law_less, d__law_is_row, d__law_is_amount, d__law_is_int, d_reinstated, d_price_of_limit, d_sign_of, d_year_of_limit, d_limit_times, d_amount, d_times, d_reduced, d__law_shuffled, d__law_any_layer, d__law_times, d__law_rare, d__law_part, d__law_pick, d__law_gap, d__law_amount, d__law_gcd] (by decide +kernel)).trans up__law_draw.symm
@[simp] theorem dfl56__law_draw {M : Nat} (n : Nat) : (F56 M).dfl "_law_draw" n = [] := (liftD (ds := ds2) [d__law_changes_right, d__law_statement, d__law_value, d__law_line, d__law_normal, d__law_ends, d_changed_rows, d_with_layer, d_unlike_places, d__law_places_right, d__law_replaced, d__law_unlike, d__law_ledger_right, d__law_total, d_totals, d_sum_of_parts, d_total, d_statement, d_rises, d_rise, d_value_at, d_is_less, d_minus, d_sums_before, d_plus, d__law_ledger, d__law_plus, d__law_minus, d__law_smaller, d__law_own_price, d__law_own_year, d__law_int, d__law_is_line, d__law_less, d__law_is_row, d__law_is_amount, d__law_is_int, d_reinstated, d_price_of_limit, d_sign_of, d_year_of_limit, d_limit_times, d_amount, d_times, d_reduced, d__law_shuffled, d__law_any_layer, d__law_times, d__law_rare, d__law_part, d__law_pick, d__law_gap, d__law_amount, d__law_gcd] (by decide +kernel)).trans dfl_self
@[simp] theorem up56__law_pick {M : Nat} : (F56 M).call "_law_pick" = (FU M).call "_law_pick" := (lift (ds := ds6) [d__law_changes_right, d__law_statement, d__law_value, d__law_line, d__law_normal, d__law_ends, d_changed_rows, d_with_layer, d_unlike_places, d__law_places_right, d__law_replaced, d__law_unlike, d__law_ledger_right, d__law_total, d_totals, d_sum_of_parts, d_total, d_statement, d_rises, d_rise, d_value_at, d_is_less, d_minus, d_sums_before, d_plus, d__law_ledger, d__law_plus, d__law_minus, d__law_smaller, d__law_own_price, d__law_own_year, d__law_int, d__law_is_line, d__law_less, d__law_is_row, d__law_is_amount, d__law_is_int, d_reinstated, d_price_of_limit, d_sign_of, d_year_of_limit, d_limit_times, d_amount, d_times, d_reduced, d__law_shuffled, d__law_any_layer, d__law_times, d__law_rare, d__law_part] (by decide +kernel)).trans up__law_pick.symm
@[simp] theorem dfl56__law_pick {M : Nat} (n : Nat) : (F56 M).dfl "_law_pick" n = [] := (liftD (ds := ds6) [d__law_changes_right, d__law_statement, d__law_value, d__law_line, d__law_normal, d__law_ends, d_changed_rows, d_with_layer, d_unlike_places, d__law_places_right, d__law_replaced, d__law_unlike, d__law_ledger_right, d__law_total, d_totals, d_sum_of_parts, d_total, d_statement, d_rises, d_rise, d_value_at, d_is_less, d_minus, d_sums_before, d_plus, d__law_ledger, d__law_plus, d__law_minus, d__law_smaller, d__law_own_price, d__law_own_year, d__law_int, d__law_is_line, d__law_less, d__law_is_row, d__law_is_amount, d__law_is_int, d_reinstated, d_price_of_limit, d_sign_of, d_year_of_limit, d_limit_times, d_amount, d_times, d_reduced, d__law_shuffled, d__law_any_layer, d__law_times, d__law_rare, d__law_part] (by decide +kernel)).trans dfl_self
@[simp] theorem up56__law_part {M : Nat} : (F56 M).call "_law_part" = (FU M).call "_law_part" := (lift (ds := ds7) [d__law_changes_right, d__law_statement, d__law_value, d__law_line, d__law_normal, d__law_ends, d_changed_rows, d_with_layer, d_unlike_places, d__law_places_right, d__law_replaced, d__law_unlike, d__law_ledger_right, d__law_total, d_totals, d_sum_of_parts, d_total, d_statement, d_rises, d_rise, d_value_at, d_is_less, d_minus, d_sums_before, d_plus, d__law_ledger, d__law_plus, d__law_minus, d__law_smaller, d__law_own_price, d__law_own_year, d__law_int, d__law_is_line, d__law_less, d__law_is_row, d__law_is_amount, d__law_is_int, d_reinstated, d_price_of_limit, d_sign_of, d_year_of_limit, d_limit_times, d_amount, d_times, d_reduced, d__law_shuffled, d__law_any_layer, d__law_times, d__law_rare] (by decide +kernel)).trans up__law_part.symm
@[simp] theorem dfl56__law_part {M : Nat} (n : Nat) : (F56 M).dfl "_law_part" n = [] := (liftD (ds := ds7) [d__law_changes_right, d__law_statement, d__law_value, d__law_line, d__law_normal, d__law_ends, d_changed_rows, d_with_layer, d_unlike_places, d__law_places_right, d__law_replaced, d__law_unlike, d__law_ledger_right, d__law_total, d_totals, d_sum_of_parts, d_total, d_statement, d_rises, d_rise, d_value_at, d_is_less, d_minus, d_sums_before, d_plus, d__law_ledger, d__law_plus, d__law_minus, d__law_smaller, d__law_own_price, d__law_own_year, d__law_int, d__law_is_line, d__law_less, d__law_is_row, d__law_is_amount, d__law_is_int, d_reinstated, d_price_of_limit, d_sign_of, d_year_of_limit, d_limit_times, d_amount, d_times, d_reduced, d__law_shuffled, d__law_any_layer, d__law_times, d__law_rare] (by decide +kernel)).trans dfl_self
@[simp] theorem up56__law_rare {M : Nat} : (F56 M).call "_law_rare" = (FU M).call "_law_rare" := (lift (ds := ds8) [d__law_changes_right, d__law_statement, d__law_value, d__law_line, d__law_normal, d__law_ends, d_changed_rows, d_with_layer, d_unlike_places, d__law_places_right, d__law_replaced, d__law_unlike, d__law_ledger_right, d__law_total, d_totals, d_sum_of_parts, d_total, d_statement, d_rises, d_rise, d_value_at, d_is_less, d_minus, d_sums_before, d_plus, d__law_ledger, d__law_plus, d__law_minus, d__law_smaller, d__law_own_price, d__law_own_year, d__law_int, d__law_is_line, d__law_less, d__law_is_row, d__law_is_amount, d__law_is_int, d_reinstated, d_price_of_limit, d_sign_of, d_year_of_limit, d_limit_times, d_amount, d_times, d_reduced, d__law_shuffled, d__law_any_layer, d__law_times] (by decide +kernel)).trans up__law_rare.symm
@[simp] theorem dfl56__law_rare {M : Nat} (n : Nat) : (F56 M).dfl "_law_rare" n = [] := (liftD (ds := ds8) [d__law_changes_right, d__law_statement, d__law_value, d__law_line, d__law_normal, d__law_ends, d_changed_rows, d_with_layer, d_unlike_places, d__law_places_right, d__law_replaced, d__law_unlike, d__law_ledger_right, d__law_total, d_totals, d_sum_of_parts, d_total, d_statement, d_rises, d_rise, d_value_at, d_is_less, d_minus, d_sums_before, d_plus, d__law_ledger, d__law_plus, d__law_minus, d__law_smaller, d__law_own_price, d__law_own_year, d__law_int, d__law_is_line, d__law_less, d__law_is_row, d__law_is_amount, d__law_is_int, d_reinstated, d_price_of_limit, d_sign_of, d_year_of_limit, d_limit_times, d_amount, d_times, d_reduced, d__law_shuffled, d__law_any_layer, d__law_times] (by decide +kernel)).trans dfl_self
@[simp] theorem up56__law_any_layer {M : Nat} : (F56 M).call "_law_any_layer" = (FU M).call "_law_any_layer" := (lift (ds := ds10) [d__law_changes_right, d__law_statement, d__law_value, d__law_line, d__law_normal, d__law_ends, d_changed_rows, d_with_layer, d_unlike_places, d__law_places_right, d__law_replaced, d__law_unlike, d__law_ledger_right, d__law_total, d_totals, d_sum_of_parts, d_total, d_statement, d_rises, d_rise, d_value_at, d_is_less, d_minus, d_sums_before, d_plus, d__law_ledger, d__law_plus, d__law_minus, d__law_smaller, d__law_own_price, d__law_own_year, d__law_int, d__law_is_line, d__law_less, d__law_is_row, d__law_is_amount, d__law_is_int, d_reinstated, d_price_of_limit, d_sign_of, d_year_of_limit, d_limit_times, d_amount, d_times, d_reduced, d__law_shuffled] (by decide +kernel)).trans up__law_any_layer.symm
@[simp] theorem dfl56__law_any_layer {M : Nat} (n : Nat) : (F56 M).dfl "_law_any_layer" n = [] := (liftD (ds := ds10) [d__law_changes_right, d__law_statement, d__law_value, d__law_line, d__law_normal, d__law_ends, d_changed_rows, d_with_layer, d_unlike_places, d__law_places_right, d__law_replaced, d__law_unlike, d__law_ledger_right, d__law_total, d_totals, d_sum_of_parts, d_total, d_statement, d_rises, d_rise, d_value_at, d_is_less, d_minus, d_sums_before, d_plus, d__law_ledger, d__law_plus, d__law_minus, d__law_smaller, d__law_own_price, d__law_own_year, d__law_int, d__law_is_line, d__law_less, d__law_is_row, d__law_is_amount, d__law_is_int, d_reinstated, d_price_of_limit, d_sign_of, d_year_of_limit, d_limit_times, d_amount, d_times, d_reduced, d__law_shuffled] (by decide +kernel)).trans dfl_self
@[simp] theorem up56__law_shuffled {M : Nat} : (F56 M).call "_law_shuffled" = (FU M).call "_law_shuffled" := (lift (ds := ds11) [d__law_changes_right, d__law_statement, d__law_value, d__law_line, d__law_normal, d__law_ends, d_changed_rows, d_with_layer, d_unlike_places, d__law_places_right, d__law_replaced, d__law_unlike, d__law_ledger_right, d__law_total, d_totals, d_sum_of_parts, d_total, d_statement, d_rises, d_rise, d_value_at, d_is_less, d_minus, d_sums_before, d_plus, d__law_ledger, d__law_plus, d__law_minus, d__law_smaller, d__law_own_price, d__law_own_year, d__law_int, d__law_is_line, d__law_less, d__law_is_row, d__law_is_amount, d__law_is_int, d_reinstated, d_price_of_limit, d_sign_of, d_year_of_limit, d_limit_times, d_amount, d_times, d_reduced] (by decide +kernel)).trans up__law_shuffled.symm
@[simp] theorem dfl56__law_shuffled {M : Nat} (n : Nat) : (F56 M).dfl "_law_shuffled" n = [] := (liftD (ds := ds11) [d__law_changes_right, d__law_statement, d__law_value, d__law_line, d__law_normal, d__law_ends, d_changed_rows, d_with_layer, d_unlike_places, d__law_places_right, d__law_replaced, d__law_unlike, d__law_ledger_right, d__law_total, d_totals, d_sum_of_parts, d_total, d_statement, d_rises, d_rise, d_value_at, d_is_less, d_minus, d_sums_before, d_plus, d__law_ledger, d__law_plus, d__law_minus, d__law_smaller, d__law_own_price, d__law_own_year, d__law_int, d__law_is_line, d__law_less, d__law_is_row, d__law_is_amount, d__law_is_int, d_reinstated, d_price_of_limit, d_sign_of, d_year_of_limit, d_limit_times, d_amount, d_times, d_reduced] (by decide +kernel)).trans dfl_self
@[simp] theorem up56_reinstated {M : Nat} : (F56 M).call "reinstated" = (FU M).call "reinstated" := (lift (ds := ds19) [d__law_changes_right, d__law_statement, d__law_value, d__law_line, d__law_normal, d__law_ends, d_changed_rows, d_with_layer, d_unlike_places, d__law_places_right, d__law_replaced, d__law_unlike, d__law_ledger_right, d__law_total, d_totals, d_sum_of_parts, d_total, d_statement, d_rises, d_rise, d_value_at, d_is_less, d_minus, d_sums_before, d_plus, d__law_ledger, d__law_plus, d__law_minus, d__law_smaller, d__law_own_price, d__law_own_year, d__law_int, d__law_is_line, d__law_less, d__law_is_row, d__law_is_amount, d__law_is_int] (by decide +kernel)).trans up_reinstated.symm
@[simp] theorem dfl56_reinstated {M : Nat} (n : Nat) : (F56 M).dfl "reinstated" n = [] := (liftD (ds := ds19) [d__law_changes_right, d__law_statement, d__law_value, d__law_line, d__law_normal, d__law_ends, d_changed_rows, d_with_layer, d_unlike_places, d__law_places_right, d__law_replaced, d__law_unlike, d__law_ledger_right, d__law_total, d_totals, d_sum_of_parts, d_total, d_statement, d_rises, d_rise, d_value_at, d_is_less, d_minus, d_sums_before, d_plus, d__law_ledger, d__law_plus, d__law_minus, d__law_smaller, d__law_own_price, d__law_own_year, d__law_int, d__law_is_line, d__law_less, d__law_is_row, d__law_is_amount, d__law_is_int] (by decide +kernel)).trans dfl_self
@[simp] theorem up56__law_is_line {M : Nat} : (F56 M).call "_law_is_line" = (FU M).call "_law_is_line" := (lift (ds := ds24) [d__law_changes_right, d__law_statement, d__law_value, d__law_line, d__law_normal, d__law_ends, d_changed_rows, d_with_layer, d_unlike_places, d__law_places_right, d__law_replaced, d__law_unlike, d__law_ledger_right, d__law_total, d_totals, d_sum_of_parts, d_total, d_statement, d_rises, d_rise, d_value_at, d_is_less, d_minus, d_sums_before, d_plus, d__law_ledger, d__law_plus, d__law_minus, d__law_smaller, d__law_own_price, d__law_own_year, d__law_int] (by decide +kernel)).trans up__law_is_line.symm
@[simp] theorem dfl56__law_is_line {M : Nat} (n : Nat) : (F56 M).dfl "_law_is_line" n = [] := (liftD (ds := ds24) [d__law_changes_right, d__law_statement, d__law_value, d__law_line, d__law_normal, d__law_ends, d_changed_rows, d_with_layer, d_unlike_places, d__law_places_right, d__law_replaced, d__law_unlike, d__law_ledger_right, d__law_total, d_totals, d_sum_of_parts, d_total, d_statement, d_rises, d_rise, d_value_at, d_is_less, d_minus, d_sums_before, d_plus, d__law_ledger, d__law_plus, d__law_minus, d__law_smaller, d__law_own_price, d__law_own_year, d__law_int] (by decide +kernel)).trans dfl_self
@[simp] theorem up56__law_own_year {M : Nat} : (F56 M).call "_law_own_year" = (FU M).call "_law_own_year" := (lift (ds := ds26) [d__law_changes_right, d__law_statement, d__law_value, d__law_line, d__law_normal, d__law_ends, d_changed_rows, d_with_layer, d_unlike_places, d__law_places_right, d__law_replaced, d__law_unlike, d__law_ledger_right, d__law_total, d_totals, d_sum_of_parts, d_total, d_statement, d_rises, d_rise, d_value_at, d_is_less, d_minus, d_sums_before, d_plus, d__law_ledger, d__law_plus, d__law_minus, d__law_smaller, d__law_own_price] (by decide +kernel)).trans up__law_own_year.symm
@[simp] theorem dfl56__law_own_year {M : Nat} (n : Nat) : (F56 M).dfl "_law_own_year" n = [] := (liftD (ds := ds26) [d__law_changes_right, d__law_statement, d__law_value, d__law_line, d__law_normal, d__law_ends, d_changed_rows, d_with_layer, d_unlike_places, d__law_places_right, d__law_replaced, d__law_unlike, d__law_ledger_right, d__law_total, d_totals, d_sum_of_parts, d_total, d_statement, d_rises, d_rise, d_value_at, d_is_less, d_minus, d_sums_before, d_plus, d__law_ledger, d__law_plus, d__law_minus, d__law_smaller, d__law_own_price] (by decide +kernel)).trans dfl_self
@[simp] theorem up56__law_own_price {M : Nat} : (F56 M).call "_law_own_price" = (FU M).call "_law_own_price" := (lift (ds := ds27) [d__law_changes_right, d__law_statement, d__law_value, d__law_line, d__law_normal, d__law_ends, d_changed_rows, d_with_layer, d_unlike_places, d__law_places_right, d__law_replaced, d__law_unlike, d__law_ledger_right, d__law_total, d_totals, d_sum_of_parts, d_total, d_statement, d_rises, d_rise, d_value_at, d_is_less, d_minus, d_sums_before, d_plus, d__law_ledger, d__law_plus, d__law_minus, d__law_smaller] (by decide +kernel)).trans up__law_own_price.symm
@[simp] theorem dfl56__law_own_price {M : Nat} (n : Nat) : (F56 M).dfl "_law_own_price" n = [] := (liftD (ds := ds27) [d__law_changes_right, d__law_statement, d__law_value, d__law_line, d__law_normal, d__law_ends, d_changed_rows, d_with_layer, d_unlike_places, d__law_places_right, d__law_replaced, d__law_unlike, d__law_ledger_right, d__law_total, d_totals, d_sum_of_parts, d_total, d_statement, d_rises, d_rise, d_value_at, d_is_less, d_minus, d_sums_before, d_plus, d__law_ledger, d__law_plus, d__law_minus, d__law_smaller] (by decide +kernel)).trans dfl_self
@[simp] theorem up56__law_ledger {M : Nat} : (F56 M).call "_law_ledger" = (FU M).call "_law_ledger" := (lift (ds := ds31) [d__law_changes_right, d__law_statement, d__law_value, d__law_line, d__law_normal, d__law_ends, d_changed_rows, d_with_layer, d_unlike_places, d__law_places_right, d__law_replaced, d__law_unlike, d__law_ledger_right, d__law_total, d_totals, d_sum_of_parts, d_total, d_statement, d_rises, d_rise, d_value_at, d_is_less, d_minus, d_sums_before, d_plus] (by decide +kernel)).trans up__law_ledger.symm
@[simp] theorem dfl56__law_ledger {M : Nat} (n : Nat) : (F56 M).dfl "_law_ledger" n = [] := (liftD (ds := ds31) [d__law_changes_right, d__law_statement, d__law_value, d__law_line, d__law_normal, d__law_ends, d_changed_rows, d_with_layer, d_unlike_places, d__law_places_right, d__law_replaced, d__law_unlike, d__law_ledger_right, d__law_total, d_totals, d_sum_of_parts, d_total, d_statement, d_rises, d_rise, d_value_at, d_is_less, d_minus, d_sums_before, d_plus] (by decide +kernel)).trans dfl_self
@[simp] theorem up56__law_ledger_right {M : Nat} : (F56 M).call "_law_ledger_right" = (FU M).call "_law_ledger_right" := (lift (ds := ds44) [d__law_changes_right, d__law_statement, d__law_value, d__law_line, d__law_normal, d__law_ends, d_changed_rows, d_with_layer, d_unlike_places, d__law_places_right, d__law_replaced, d__law_unlike] (by decide +kernel)).trans up__law_ledger_right.symm
@[simp] theorem dfl56__law_ledger_right {M : Nat} (n : Nat) : (F56 M).dfl "_law_ledger_right" n = [] := (liftD (ds := ds44) [d__law_changes_right, d__law_statement, d__law_value, d__law_line, d__law_normal, d__law_ends, d_changed_rows, d_with_layer, d_unlike_places, d__law_places_right, d__law_replaced, d__law_unlike] (by decide +kernel)).trans dfl_self
@[simp] theorem up56_totals {M : Nat} : (F56 M).call "totals" = (FU M).call "totals" := (lift (ds := ds42) [d__law_changes_right, d__law_statement, d__law_value, d__law_line, d__law_normal, d__law_ends, d_changed_rows, d_with_layer, d_unlike_places, d__law_places_right, d__law_replaced, d__law_unlike, d__law_ledger_right, d__law_total] (by decide +kernel)).trans up_totals.symm
@[simp] theorem dfl56_totals {M : Nat} (n : Nat) : (F56 M).dfl "totals" n = [] := (liftD (ds := ds42) [d__law_changes_right, d__law_statement, d__law_value, d__law_line, d__law_normal, d__law_ends, d_changed_rows, d_with_layer, d_unlike_places, d__law_places_right, d__law_replaced, d__law_unlike, d__law_ledger_right, d__law_total] (by decide +kernel)).trans dfl_self
@[simp] theorem up56__law_unlike {M : Nat} : (F56 M).call "_law_unlike" = (FU M).call "_law_unlike" := (lift (ds := ds45) [d__law_changes_right, d__law_statement, d__law_value, d__law_line, d__law_normal, d__law_ends, d_changed_rows, d_with_layer, d_unlike_places, d__law_places_right, d__law_replaced] (by decide +kernel)).trans up__law_unlike.symm
@[simp] theorem dfl56__law_unlike {M : Nat} (n : Nat) : (F56 M).dfl "_law_unlike" n = [] := (liftD (ds := ds45) [d__law_changes_right, d__law_statement, d__law_value, d__law_line, d__law_normal, d__law_ends, d_changed_rows, d_with_layer, d_unlike_places, d__law_places_right, d__law_replaced] (by decide +kernel)).trans dfl_self
@[simp] theorem up56__law_replaced {M : Nat} : (F56 M).call "_law_replaced" = (FU M).call "_law_replaced" := (lift (ds := ds46) [d__law_changes_right, d__law_statement, d__law_value, d__law_line, d__law_normal, d__law_ends, d_changed_rows, d_with_layer, d_unlike_places, d__law_places_right] (by decide +kernel)).trans up__law_replaced.symm
@[simp] theorem dfl56__law_replaced {M : Nat} (n : Nat) : (F56 M).dfl "_law_replaced" n = [] := (liftD (ds := ds46) [d__law_changes_right, d__law_statement, d__law_value, d__law_line, d__law_normal, d__law_ends, d_changed_rows, d_with_layer, d_unlike_places, d__law_places_right] (by decide +kernel)).trans dfl_self
@[simp] theorem up56__law_places_right {M : Nat} : (F56 M).call "_law_places_right" = (FU M).call "_law_places_right" := (lift (ds := ds47) [d__law_changes_right, d__law_statement, d__law_value, d__law_line, d__law_normal, d__law_ends, d_changed_rows, d_with_layer, d_unlike_places] (by decide +kernel)).trans up__law_places_right.symm
@[simp] theorem dfl56__law_places_right {M : Nat} (n : Nat) : (F56 M).dfl "_law_places_right" n = [] := (liftD (ds := ds47) [d__law_changes_right, d__law_statement, d__law_value, d__law_line, d__law_normal, d__law_ends, d_changed_rows, d_with_layer, d_unlike_places] (by decide +kernel)).trans dfl_self
@[simp] theorem up56_changed_rows {M : Nat} : (F56 M).call "changed_rows" = (FU M).call "changed_rows" := (lift (ds := ds50) [d__law_changes_right, d__law_statement, d__law_value, d__law_line, d__law_normal, d__law_ends] (by decide +kernel)).trans up_changed_rows.symm
@[simp] theorem dfl56_changed_rows {M : Nat} (n : Nat) : (F56 M).dfl "changed_rows" n = [] := (liftD (ds := ds50) [d__law_changes_right, d__law_statement, d__law_value, d__law_line, d__law_normal, d__law_ends] (by decide +kernel)).trans dfl_self
@[simp] theorem up56__law_line {M : Nat} : (F56 M).call "_law_line" = (FU M).call "_law_line" := (lift (ds := ds53) [d__law_changes_right, d__law_statement, d__law_value] (by decide +kernel)).trans up__law_line.symm
@[simp] theorem dfl56__law_line {M : Nat} (n : Nat) : (F56 M).dfl "_law_line" n = [] := (liftD (ds := ds53) [d__law_changes_right, d__law_statement, d__law_value] (by decide +kernel)).trans dfl_self
@[simp] theorem up56__law_changes_right {M : Nat} : (F56 M).call "_law_changes_right" = (FU M).call "_law_changes_right" := (lift (ds := ds56) [] (by decide +kernel)).trans up__law_changes_right.symm
@[simp] theorem dfl56__law_changes_right {M : Nat} (n : Nat) : (F56 M).dfl "_law_changes_right" n = [] := (liftD (ds := ds56) [] (by decide +kernel)).trans dfl_self
@[simp] theorem glo_ONE : glo "ONE" = some (.tup [(.int 1), (.int 1)]) := by kernel_rfl
@[simp] theorem glo_ZERO : glo "ZERO" = some (.tup [(.int 0), (.int 1)]) := by kernel_rfl
def fn : List He.DefD := [⟨("_law_begin", none), "_law_begin", "_law_begin", defArgs (top 34), defBody (top 34), defScope (top 34), [], []⟩, ⟨("_law_draw", none), "_law_draw", "_law_draw", defArgs (top 35), defBody (top 35), defScope (top 35), [], []⟩, ⟨("_law_gcd", none), "_law_gcd", "_law_gcd", defArgs (top 40), defBody (top 40), defScope (top 40), [], []⟩, ⟨("_law_amount", none), "_law_amount", "_law_amount", defArgs (top 41), defBody (top 41), defScope (top 41), [], []⟩, ⟨("_law_gap", none), "_law_gap", "_law_gap", defArgs (top 55), defBody (top 55), defScope (top 55), [], []⟩, ⟨("_law_pick", none), "_law_pick", "_law_pick", defArgs (top 36), defBody (top 36), defScope (top 36), [], []⟩, ⟨("_law_part", none), "_law_part", "_law_part", defArgs (top 54), defBody (top 54), defScope (top 54), [], []⟩, ⟨("_law_rare", none), "_law_rare", "_law_rare", defArgs (top 37), defBody (top 37), defScope (top 37), [], []⟩, ⟨("_law_times", none), "_law_times", "_law_times", defArgs (top 45), defBody (top 45), defScope (top 45), [], []⟩, ⟨("_law_any_layer", none), "_law_any_layer", "_law_any_layer", defArgs (top 62), defBody (top 62), defScope (top 62), [], []⟩, ⟨("_law_shuffled", none), "_law_shuffled", "_law_shuffled", defArgs (top 38), defBody (top 38), defScope (top 38), [], []⟩, ⟨("reduced", none), "reduced", "reduced", defArgs (top 8), defBody (top 8), defScope (top 8), [], []⟩, ⟨("times", none), "times", "times", defArgs (top 11), defBody (top 11), defScope (top 11), [], []⟩, ⟨("amount", none), "amount", "amount", defArgs (top 7), defBody (top 7), defScope (top 7), [.int 1], []⟩, ⟨("limit_times", none), "limit_times", "limit_times", defArgs (top 16), defBody (top 16), defScope (top 16), [], []⟩, ⟨("year_of_limit", none), "year_of_limit", "year_of_limit", defArgs (top 17), defBody (top 17), defScope (top 17), [], []⟩, ⟨("sign_of", none), "sign_of", "sign_of", defArgs (top 13), defBody (top 13), defScope (top 13), [], []⟩, ⟨("price_of_limit", none), "price_of_limit", "price_of_limit", defArgs (top 18), defBody (top 18), defScope (top 18), [], []⟩, ⟨("reinstated", none), "reinstated", "reinstated", defArgs (top 32), defBody (top 32), defScope (top 32), [], []⟩, ⟨("_law_is_int", none), "_law_is_int", "_law_is_int", defArgs (top 39), defBody (top 39), defScope (top 39), [], []⟩, ⟨("_law_is_amount", none), "_law_is_amount", "_law_is_amount", defArgs (top 49), defBody (top 49), defScope (top 49), [], []⟩, ⟨("_law_is_row", none), "_law_is_row", "_law_is_row", defArgs (top 50), defBody (top 50), defScope (top 50), [], []⟩, ⟨("_law_less", none), "_law_less", "_law_less", defArgs (top 46), defBody (top 46), defScope (top 46), [], []⟩, ⟨("_law_is_line", none), "_law_is_line", "_law_is_line", defArgs (top 53), defBody (top 53), defScope (top 53), [], []⟩, ⟨("_law_int", none), "_law_int", "_law_int", defArgs (top 42), defBody (top 42), defScope (top 42), [], []⟩, ⟨("_law_own_year", none), "_law_own_year", "_law_own_year", defArgs (top 60), defBody (top 60), defScope (top 60), [], []⟩, ⟨("_law_own_price", none), "_law_own_price", "_law_own_price", defArgs (top 61), defBody (top 61), defScope (top 61), [], []⟩, ⟨("_law_smaller", none), "_law_smaller", "_law_smaller", defArgs (top 47), defBody (top 47), defScope (top 47), [], []⟩, ⟨("_law_minus", none), "_law_minus", "_law_minus", defArgs (top 44), defBody (top 44), defScope (top 44), [], []⟩, ⟨("_law_plus", none), "_law_plus", "_law_plus", defArgs (top 43), defBody (top 43), defScope (top 43), [], []⟩, ⟨("_law_ledger", none), "_law_ledger", "_law_ledger", defArgs (top 59), defBody (top 59), defScope (top 59), [], []⟩, ⟨("plus", none), "plus", "plus", defArgs (top 9), defBody (top 9), defScope (top 9), [], []⟩, ⟨("sums_before", none), "sums_before", "sums_before", defArgs (top 23), defBody (top 23), defScope (top 23), [], []⟩, ⟨("minus", none), "minus", "minus", defArgs (top 10), defBody (top 10), defScope (top 10), [], []⟩, ⟨("is_less", none), "is_less", "is_less", defArgs (top 12), defBody (top 12), defScope (top 12), [], []⟩, ⟨("value_at", none), "value_at", "value_at", defArgs (top 20), defBody (top 20), defScope (top 20), [], []⟩, ⟨("rise", none), "rise", "rise", defArgs (top 22), defBody (top 22), defScope (top 22), [], []⟩, ⟨("rises", none), "rises", "rises", defArgs (top 24), defBody (top 24), defScope (top 24), [], []⟩, ⟨("statement", none), "statement", "statement", defArgs (top 26), defBody (top 26), defScope (top 26), [], []⟩, ⟨("total", none), "total", "total", defArgs (top 14), defBody (top 14), defScope (top 14), [], []⟩, ⟨("sum_of_parts", none), "sum_of_parts", "sum_of_parts", defArgs (top 27), defBody (top 27), defScope (top 27), [], []⟩, ⟨("totals", none), "totals", "totals", defArgs (top 28), defBody (top 28), defScope (top 28), [], []⟩, ⟨("_law_total", none), "_law_total", "_law_total", defArgs (top 48), defBody (top 48), defScope (top 48), [], []⟩, ⟨("_law_ledger_right", none), "_law_ledger_right", "_law_ledger_right", defArgs (top 66), defBody (top 66), defScope (top 66), [], []⟩, ⟨("_law_unlike", none), "_law_unlike", "_law_unlike", defArgs (top 63), defBody (top 63), defScope (top 63), [], []⟩, ⟨("_law_replaced", none), "_law_replaced", "_law_replaced", defArgs (top 65), defBody (top 65), defScope (top 65), [], []⟩, ⟨("_law_places_right", none), "_law_places_right", "_law_places_right", defArgs (top 64), defBody (top 64), defScope (top 64), [], []⟩, ⟨("unlike_places", none), "unlike_places", "unlike_places", defArgs (top 30), defBody (top 30), defScope (top 30), [], []⟩, ⟨("with_layer", none), "with_layer", "with_layer", defArgs (top 29), defBody (top 29), defScope (top 29), [], []⟩, ⟨("changed_rows", none), "changed_rows", "changed_rows", defArgs (top 31), defBody (top 31), defScope (top 31), [], []⟩, ⟨("_law_ends", none), "_law_ends", "_law_ends", defArgs (top 56), defBody (top 56), defScope (top 56), [], []⟩, ⟨("_law_normal", none), "_law_normal", "_law_normal", defArgs (top 52), defBody (top 52), defScope (top 52), [], []⟩, ⟨("_law_line", none), "_law_line", "_law_line", defArgs (top 57), defBody (top 57), defScope (top 57), [], []⟩, ⟨("_law_value", none), "_law_value", "_law_value", defArgs (top 51), defBody (top 51), defScope (top 51), [], []⟩, ⟨("_law_statement", none), "_law_statement", "_law_statement", defArgs (top 58), defBody (top 58), defScope (top 58), [], []⟩, ⟨("_law_changes_right", none), "_law_changes_right", "_law_changes_right", defArgs (top 67), defBody (top 67), defScope (top 67), [], []⟩, ⟨("law", none), "law", "law", defArgs (top 68), defBody (top 68), defScope (top 68), [], []⟩]
def fa : List He.Fa := [.glo "_law_begin", .glo "_law_draw", .glo "_law_gcd", .glo "_law_amount", .glo "_law_gap", .glo "_law_pick", .glo "_law_part", .glo "_law_rare", .glo "_law_times", .glo "_law_any_layer", .glo "_law_shuffled", .glo "reduced", .glo "times", .glo "amount", .glo "limit_times", .glo "year_of_limit", .glo "sign_of", .glo "price_of_limit", .glo "reinstated", .glo "_law_is_int", .glo "_law_is_amount", .glo "_law_is_row", .glo "_law_less", .glo "_law_is_line", .glo "_law_int", .glo "_law_own_year", .glo "_law_own_price", .glo "_law_smaller", .glo "_law_minus", .glo "_law_plus", .glo "_law_ledger", .glo "plus", .glo "sums_before", .glo "minus", .glo "is_less", .glo "value_at", .glo "rise", .glo "rises", .glo "statement", .glo "total", .glo "sum_of_parts", .glo "totals", .glo "_law_total", .glo "_law_ledger_right", .glo "_law_unlike", .glo "_law_replaced", .glo "_law_places_right", .glo "unlike_places", .glo "with_layer", .glo "changed_rows", .glo "_law_ends", .glo "_law_normal", .glo "_law_line", .glo "_law_value", .glo "_law_statement", .glo "_law_changes_right", .glo "law", .free "abs", .free "all", .free "bool", .free "int", .free "isinstance", .free "len", .free "list", .free "range", .free "tuple", .free "zip", .glo "ONE", .glo "ZERO"]
def exl (K : PySem.W.Frag) : List Bool := [He.eqO (PySem.W.nsIn K mainGlobals "gcd") (some (some (.builtin "math.gcd"))), He.tupB K "ONE" [.int 1, .int 1], He.tupB K "ZERO" [.int 0, .int 1]]
def exB (K : PySem.W.Frag) : Bool := (exl K).all id
abbrev R : PySem.W.OpenRow := PySem.W.OpenLaw.row PySem.Challenge.rw_cedewheel_k14_changed_rows_and_reinstate
abbrev hk : PySem.W.Hook := He.hookX 4 fa fn [] [] exB
def ob (s : PySem.W.SharedT) : He.AlX := He.obsX 4 fa fn [] [] exB (HandSHeadRun.getT s)
theorem ob_eq (s : PySem.W.SharedT) : ob s = hk.obs s.abs := He.obsX_eq (HandSHeadRun.getT_eq s)
def names0 : List PySem.Str := [PySem.Str.ofString "CedeError", PySem.Str.ofString "BadAmount", PySem.Str.ofString "ZERO", PySem.Str.ofString "ONE", PySem.Str.ofString "amount", PySem.Str.ofString "reduced", PySem.Str.ofString "plus", PySem.Str.ofString "minus", PySem.Str.ofString "times", PySem.Str.ofString "is_less", PySem.Str.ofString "sign_of", PySem.Str.ofString "total", PySem.Str.ofString "limit_times", PySem.Str.ofString "year_of_limit", PySem.Str.ofString "price_of_limit", PySem.Str.ofString "value_at", PySem.Str.ofString "rise", PySem.Str.ofString "sums_before", PySem.Str.ofString "rises", PySem.Str.ofString "statement", PySem.Str.ofString "sum_of_parts", PySem.Str.ofString "totals", PySem.Str.ofString "with_layer", PySem.Str.ofString "unlike_places", PySem.Str.ofString "changed_rows", PySem.Str.ofString "reinstated", PySem.Str.ofString "_law_begin", PySem.Str.ofString "_law_draw", PySem.Str.ofString "_law_pick", PySem.Str.ofString "_law_rare", PySem.Str.ofString "_law_shuffled", PySem.Str.ofString "_law_is_int", PySem.Str.ofString "_law_gcd", PySem.Str.ofString "_law_amount", PySem.Str.ofString "_law_int"]
def names1 : List PySem.Str := [PySem.Str.ofString "_law_plus", PySem.Str.ofString "_law_minus", PySem.Str.ofString "_law_times", PySem.Str.ofString "_law_less", PySem.Str.ofString "_law_smaller", PySem.Str.ofString "_law_total", PySem.Str.ofString "_law_is_amount", PySem.Str.ofString "_law_is_row", PySem.Str.ofString "_law_value", PySem.Str.ofString "_law_normal", PySem.Str.ofString "_law_is_line", PySem.Str.ofString "_law_part", PySem.Str.ofString "_law_gap", PySem.Str.ofString "_law_ends", PySem.Str.ofString "_law_line", PySem.Str.ofString "_law_statement", PySem.Str.ofString "_law_ledger", PySem.Str.ofString "_law_own_year", PySem.Str.ofString "_law_own_price", PySem.Str.ofString "_law_any_layer", PySem.Str.ofString "_law_unlike", PySem.Str.ofString "_law_places_right", PySem.Str.ofString "_law_replaced", PySem.Str.ofString "_law_ledger_right", PySem.Str.ofString "_law_changes_right"]
def names : List PySem.Str := names0 ++ names1
theorem run (w : World) : HandSHeadRun.RunEqI R (PySem.W.view R.prog [0, 68]) hk ob 20000 names w := by
  show (_ : Option _) = _
  kernel_rfl
theorem gloF {K : PySem.W.Frag} {mg : Str → Option Value} {h : Heap} (X : K.In h) (G : h.Ns mainGlobals mg) (c : He.SaysD fa fn K) (m : exB K = true) : GloF K mg glo frees bts := by
  have m2 : ∀ (i : Nat) (b : Bool), (exl K)[i]? = some b → b = true := fun i b e => List.all_eq_true.mp m b (List.mem_of_getElem? e)
  refine ⟨fun x d e => ?_, fun x hx => ?_, fun p hp => ?_⟩
  · unfold glo at e
    split at e
    · rename_i hx
      cases e
      subst hx
      exact ⟨_, .ref (He.ga K "ONE"), He.glo_ok X G (c.fact 67 (f := .glo "ONE") rfl), rfl, fun H W => ⟨_, _, rfl, Dv.tupL_ok (m2 1 _ rfl) H, by simp [RepDs, RepD, He.Dv.v]⟩⟩
    split at e
    · rename_i hx
      cases e
      subst hx
      exact ⟨_, .ref (He.ga K "ZERO"), He.glo_ok X G (c.fact 68 (f := .glo "ZERO") rfl), rfl, fun H W => ⟨_, _, rfl, Dv.tupL_ok (m2 2 _ rfl) H, by simp [RepDs, RepD, He.Dv.v]⟩⟩
    cases e
  · unfold frees at hx
    simp only [List.mem_cons, List.not_mem_nil, or_false] at hx
    rcases hx with rfl | rfl | rfl | rfl | rfl | rfl | rfl | rfl | rfl | rfl
    · exact He.free_ok X G (c.fact 57 (f := .free "abs") rfl)
    · exact He.free_ok X G (c.fact 58 (f := .free "all") rfl)
    · exact He.free_ok X G (c.fact 59 (f := .free "bool") rfl)
    · exact He.free_ok X G (c.fact 60 (f := .free "int") rfl)
    · exact He.free_ok X G (c.fact 61 (f := .free "isinstance") rfl)
    · exact He.free_ok X G (c.fact 62 (f := .free "len") rfl)
    · exact He.free_ok X G (c.fact 63 (f := .free "list") rfl)
    · exact He.free_ok X G (c.fact 64 (f := .free "range") rfl)
    · exact He.free_ok X G (c.fact 65 (f := .free "tuple") rfl)
    · exact He.free_ok X G (c.fact 66 (f := .free "zip") rfl)
  · simp only [bts, List.mem_singleton] at hp
    subst hp
    exact PySem.W.mg_of X G (He.eqO_ok (m2 0 _ rfl))
theorem chain0 {P : Program} {w : World} {K : PySem.W.Frag} {mg : Str → Option Value} {h base : Heap} (X : K.In h) (G : h.Ns mainGlobals mg) (c : He.SaysD fa fn K) (m : exB K = true) (M : Nat) : AllK P w K mg base glo M ds56 56 := by
  have g := gloF X G c m
  have a0 : AllK P w K mg base glo M ds0 0 := all_nil
  obtain ⟨fd0, F0⟩ := c.def_ 0 rfl
  have a1 : AllK P w K mg base glo M ds1 1 := all_cons a0 g F0 sc__law_begin (by decide +kernel) rfl rfl ck__law_begin (He.glo_ok X G (c.fact 0 (f := .glo "_law_begin") rfl))
    (binds_all F0 rfl rfl fun _ _ _ _ _ _ us hl => match us, hl with | [_], _ => rfl)
  obtain ⟨fd1, F1⟩ := c.def_ 1 rfl
  have a2 : AllK P w K mg base glo M ds2 2 := all_cons a1 g F1 sc__law_draw (by decide +kernel) rfl rfl ck__law_draw (He.glo_ok X G (c.fact 1 (f := .glo "_law_draw") rfl))
    (binds_all F1 rfl rfl fun _ _ _ _ _ _ us hl => match us, hl with | [_, _], _ => rfl)
  obtain ⟨fd2, F2⟩ := c.def_ 2 rfl
  have a3 : AllK P w K mg base glo M ds3 3 := all_cons a2 g F2 sc__law_gcd (by decide +kernel) rfl rfl ck__law_gcd (He.glo_ok X G (c.fact 2 (f := .glo "_law_gcd") rfl))
    (binds_all F2 rfl rfl fun _ _ _ _ _ _ us hl => match us, hl with | [_, _], _ => rfl)
  obtain ⟨fd3, F3⟩ := c.def_ 3 rfl
  have a4 : AllK P w K mg base glo M ds4 4 := all_cons a3 g F3 sc__law_amount (by decide +kernel) rfl rfl ck__law_amount (He.glo_ok X G (c.fact 3 (f := .glo "_law_amount") rfl))
    (binds_all F3 rfl rfl fun _ _ _ _ _ _ us hl => match us, hl with | [_, _], _ => rfl)
  obtain ⟨fd4, F4⟩ := c.def_ 4 rfl
  have a5 : AllK P w K mg base glo M ds5 5 := all_cons a4 g F4 sc__law_gap (by decide +kernel) rfl rfl ck__law_gap (He.glo_ok X G (c.fact 4 (f := .glo "_law_gap") rfl))
    (binds_all F4 rfl rfl fun _ _ _ _ _ _ us hl => match us, hl with | [_], _ => rfl)
  obtain ⟨fd5, F5⟩ := c.def_ 5 rfl
  have a6 : AllK P w K mg base glo M ds6 6 := all_cons a5 g F5 sc__law_pick (by decide +kernel) rfl rfl ck__law_pick (He.glo_ok X G (c.fact 5 (f := .glo "_law_pick") rfl))
    (binds_all F5 rfl rfl fun _ _ _ _ _ _ us hl => match us, hl with | [_, _], _ => rfl)
  obtain ⟨fd6, F6⟩ := c.def_ 6 rfl
  have a7 : AllK P w K mg base glo M ds7 7 := all_cons a6 g F6 sc__law_part (by decide +kernel) rfl rfl ck__law_part (He.glo_ok X G (c.fact 6 (f := .glo "_law_part") rfl))
    (binds_all F6 rfl rfl fun _ _ _ _ _ _ us hl => match us, hl with | [_], _ => rfl)
  obtain ⟨fd7, F7⟩ := c.def_ 7 rfl
  have a8 : AllK P w K mg base glo M ds8 8 := all_cons a7 g F7 sc__law_rare (by decide +kernel) rfl rfl ck__law_rare (He.glo_ok X G (c.fact 7 (f := .glo "_law_rare") rfl))
    (binds_all F7 rfl rfl fun _ _ _ _ _ _ us hl => match us, hl with | [_, _], _ => rfl)
  obtain ⟨fd8, F8⟩ := c.def_ 8 rfl
  have a9 : AllK P w K mg base glo M ds9 9 := all_cons a8 g F8 sc__law_times (by decide +kernel) rfl rfl ck__law_times (He.glo_ok X G (c.fact 8 (f := .glo "_law_times") rfl))
    (binds_all F8 rfl rfl fun _ _ _ _ _ _ us hl => match us, hl with | [_, _], _ => rfl)
  obtain ⟨fd9, F9⟩ := c.def_ 9 rfl
  have a10 : AllK P w K mg base glo M ds10 10 := all_cons a9 g F9 sc__law_any_layer (by decide +kernel) rfl rfl ck__law_any_layer (He.glo_ok X G (c.fact 9 (f := .glo "_law_any_layer") rfl))
    (binds_all F9 rfl rfl fun _ _ _ _ _ _ us hl => match us, hl with | [_, _], _ => rfl)
  obtain ⟨fd10, F10⟩ := c.def_ 10 rfl
  have a11 : AllK P w K mg base glo M ds11 11 := all_cons a10 g F10 sc__law_shuffled (by decide +kernel) rfl rfl ck__law_shuffled (He.glo_ok X G (c.fact 10 (f := .glo "_law_shuffled") rfl))
    (binds_all F10 rfl rfl fun _ _ _ _ _ _ us hl => match us, hl with | [_, _], _ => rfl)
  obtain ⟨fd11, F11⟩ := c.def_ 11 rfl
  have a12 : AllK P w K mg base glo M ds12 12 := all_cons a11 g F11 sc_reduced (by decide +kernel) rfl rfl ck_reduced (He.glo_ok X G (c.fact 11 (f := .glo "reduced") rfl))
    (binds_all F11 rfl rfl fun _ _ _ _ _ _ us hl => match us, hl with | [_, _], _ => rfl)
  obtain ⟨fd12, F12⟩ := c.def_ 12 rfl
  have a13 : AllK P w K mg base glo M ds13 13 := all_cons a12 g F12 sc_times (by decide +kernel) rfl rfl ck_times (He.glo_ok X G (c.fact 12 (f := .glo "times") rfl))
    (binds_all F12 rfl rfl fun _ _ _ _ _ _ us hl => match us, hl with | [_, _], _ => rfl)
  obtain ⟨fd13, F13⟩ := c.def_ 13 rfl
  have a14 : AllK P w K mg base glo M ds14 14 := all_cons a13 g F13 sc_amount (by decide +kernel) rfl rfl ck_amount (He.glo_ok X G (c.fact 13 (f := .glo "amount") rfl))
    (fun n h1 h2 => by
      have hn : n = 1 ∨ n = 2 := by
        have h1 : 1 ≤ n := h1
        have h2 : n ≤ 2 := h2
        omega
      rcases hn with rfl | rfl
      · obtain ⟨ds', a, b⟩ := F13.binds1 (ps := P_amount) 1 0 (fun h => Nat.succ_ne_zero _ (congrArg List.length h)) rfl (fun T kV doc pm an cdv ct us its hl hi => match us, hl, its, hi with | [_], _, [_], _ => ⟨_, rfl, rfl⟩)
        exact ⟨ds', [.int 1], b, a, fun H W => by simp [RepDs, RepD, d_amount]⟩
      · obtain ⟨ds', a, b⟩ := F13.binds1 (ps := P_amount) 2 1 (fun h => Nat.succ_ne_zero _ (congrArg List.length h)) rfl (fun T kV doc pm an cdv ct us its hl hi => match us, hl, its, hi with | [_, _], _, [_], _ => ⟨_, rfl, rfl⟩)
        exact ⟨ds', [], b, a, fun H W => by simp [RepDs, RepD, d_amount]⟩)
  obtain ⟨fd14, F14⟩ := c.def_ 14 rfl
  have a15 : AllK P w K mg base glo M ds15 15 := all_cons a14 g F14 sc_limit_times (by decide +kernel) rfl rfl ck_limit_times (He.glo_ok X G (c.fact 14 (f := .glo "limit_times") rfl))
    (binds_all F14 rfl rfl fun _ _ _ _ _ _ us hl => match us, hl with | [_, _], _ => rfl)
  obtain ⟨fd15, F15⟩ := c.def_ 15 rfl
  have a16 : AllK P w K mg base glo M ds16 16 := all_cons a15 g F15 sc_year_of_limit (by decide +kernel) rfl rfl ck_year_of_limit (He.glo_ok X G (c.fact 15 (f := .glo "year_of_limit") rfl))
    (binds_all F15 rfl rfl fun _ _ _ _ _ _ us hl => match us, hl with | [_, _], _ => rfl)
  obtain ⟨fd16, F16⟩ := c.def_ 16 rfl
  have a17 : AllK P w K mg base glo M ds17 17 := all_cons a16 g F16 sc_sign_of (by decide +kernel) rfl rfl ck_sign_of (He.glo_ok X G (c.fact 16 (f := .glo "sign_of") rfl))
    (binds_all F16 rfl rfl fun _ _ _ _ _ _ us hl => match us, hl with | [_], _ => rfl)
  obtain ⟨fd17, F17⟩ := c.def_ 17 rfl
  have a18 : AllK P w K mg base glo M ds18 18 := all_cons a17 g F17 sc_price_of_limit (by decide +kernel) rfl rfl ck_price_of_limit (He.glo_ok X G (c.fact 17 (f := .glo "price_of_limit") rfl))
    (binds_all F17 rfl rfl fun _ _ _ _ _ _ us hl => match us, hl with | [_, _, _], _ => rfl)
  obtain ⟨fd18, F18⟩ := c.def_ 18 rfl
  have a19 : AllK P w K mg base glo M ds19 19 := all_cons a18 g F18 sc_reinstated (by decide +kernel) rfl rfl ck_reinstated (He.glo_ok X G (c.fact 18 (f := .glo "reinstated") rfl))
    (binds_all F18 rfl rfl fun _ _ _ _ _ _ us hl => match us, hl with | [_, _, _], _ => rfl)
  obtain ⟨fd19, F19⟩ := c.def_ 19 rfl
  have a20 : AllK P w K mg base glo M ds20 20 := all_cons a19 g F19 sc__law_is_int (by decide +kernel) rfl rfl ck__law_is_int (He.glo_ok X G (c.fact 19 (f := .glo "_law_is_int") rfl))
    (binds_all F19 rfl rfl fun _ _ _ _ _ _ us hl => match us, hl with | [_], _ => rfl)
  obtain ⟨fd20, F20⟩ := c.def_ 20 rfl
  have a21 : AllK P w K mg base glo M ds21 21 := all_cons a20 g F20 sc__law_is_amount (by decide +kernel) rfl rfl ck__law_is_amount (He.glo_ok X G (c.fact 20 (f := .glo "_law_is_amount") rfl))
    (binds_all F20 rfl rfl fun _ _ _ _ _ _ us hl => match us, hl with | [_], _ => rfl)
  obtain ⟨fd21, F21⟩ := c.def_ 21 rfl
  have a22 : AllK P w K mg base glo M ds22 22 := all_cons a21 g F21 sc__law_is_row (by decide +kernel) rfl rfl ck__law_is_row (He.glo_ok X G (c.fact 21 (f := .glo "_law_is_row") rfl))
    (binds_all F21 rfl rfl fun _ _ _ _ _ _ us hl => match us, hl with | [_, _], _ => rfl)
  obtain ⟨fd22, F22⟩ := c.def_ 22 rfl
  have a23 : AllK P w K mg base glo M ds23 23 := all_cons a22 g F22 sc__law_less (by decide +kernel) rfl rfl ck__law_less (He.glo_ok X G (c.fact 22 (f := .glo "_law_less") rfl))
    (binds_all F22 rfl rfl fun _ _ _ _ _ _ us hl => match us, hl with | [_, _], _ => rfl)
  obtain ⟨fd23, F23⟩ := c.def_ 23 rfl
  have a24 : AllK P w K mg base glo M ds24 24 := all_cons a23 g F23 sc__law_is_line (by decide +kernel) rfl rfl ck__law_is_line (He.glo_ok X G (c.fact 23 (f := .glo "_law_is_line") rfl))
    (binds_all F23 rfl rfl fun _ _ _ _ _ _ us hl => match us, hl with | [_], _ => rfl)
  obtain ⟨fd24, F24⟩ := c.def_ 24 rfl
  have a25 : AllK P w K mg base glo M ds25 25 := all_cons a24 g F24 sc__law_int (by decide +kernel) rfl rfl ck__law_int (He.glo_ok X G (c.fact 24 (f := .glo "_law_int") rfl))
    (binds_all F24 rfl rfl fun _ _ _ _ _ _ us hl => match us, hl with | [_], _ => rfl)
  obtain ⟨fd25, F25⟩ := c.def_ 25 rfl
  have a26 : AllK P w K mg base glo M ds26 26 := all_cons a25 g F25 sc__law_own_year (by decide +kernel) rfl rfl ck__law_own_year (He.glo_ok X G (c.fact 25 (f := .glo "_law_own_year") rfl))
    (binds_all F25 rfl rfl fun _ _ _ _ _ _ us hl => match us, hl with | [_, _], _ => rfl)
  obtain ⟨fd26, F26⟩ := c.def_ 26 rfl
  have a27 : AllK P w K mg base glo M ds27 27 := all_cons a26 g F26 sc__law_own_price (by decide +kernel) rfl rfl ck__law_own_price (He.glo_ok X G (c.fact 26 (f := .glo "_law_own_price") rfl))
    (binds_all F26 rfl rfl fun _ _ _ _ _ _ us hl => match us, hl with | [_, _, _], _ => rfl)
  obtain ⟨fd27, F27⟩ := c.def_ 27 rfl
  have a28 : AllK P w K mg base glo M ds28 28 := all_cons a27 g F27 sc__law_smaller (by decide +kernel) rfl rfl ck__law_smaller (He.glo_ok X G (c.fact 27 (f := .glo "_law_smaller") rfl))
    (binds_all F27 rfl rfl fun _ _ _ _ _ _ us hl => match us, hl with | [_, _], _ => rfl)
  obtain ⟨fd28, F28⟩ := c.def_ 28 rfl
  have a29 : AllK P w K mg base glo M ds29 29 := all_cons a28 g F28 sc__law_minus (by decide +kernel) rfl rfl ck__law_minus (He.glo_ok X G (c.fact 28 (f := .glo "_law_minus") rfl))
    (binds_all F28 rfl rfl fun _ _ _ _ _ _ us hl => match us, hl with | [_, _], _ => rfl)
  obtain ⟨fd29, F29⟩ := c.def_ 29 rfl
  have a30 : AllK P w K mg base glo M ds30 30 := all_cons a29 g F29 sc__law_plus (by decide +kernel) rfl rfl ck__law_plus (He.glo_ok X G (c.fact 29 (f := .glo "_law_plus") rfl))
    (binds_all F29 rfl rfl fun _ _ _ _ _ _ us hl => match us, hl with | [_, _], _ => rfl)
  obtain ⟨fd30, F30⟩ := c.def_ 30 rfl
  have a31 : AllK P w K mg base glo M ds31 31 := all_cons a30 g F30 sc__law_ledger (by decide +kernel) rfl rfl ck__law_ledger (He.glo_ok X G (c.fact 30 (f := .glo "_law_ledger") rfl))
    (binds_all F30 rfl rfl fun _ _ _ _ _ _ us hl => match us, hl with | [_, _, _, _], _ => rfl)
  obtain ⟨fd31, F31⟩ := c.def_ 31 rfl
  have a32 : AllK P w K mg base glo M ds32 32 := all_cons a31 g F31 sc_plus (by decide +kernel) rfl rfl ck_plus (He.glo_ok X G (c.fact 31 (f := .glo "plus") rfl))
    (binds_all F31 rfl rfl fun _ _ _ _ _ _ us hl => match us, hl with | [_, _], _ => rfl)
  obtain ⟨fd32, F32⟩ := c.def_ 32 rfl
  have a33 : AllK P w K mg base glo M ds33 33 := all_cons a32 g F32 sc_sums_before (by decide +kernel) rfl rfl ck_sums_before (He.glo_ok X G (c.fact 32 (f := .glo "sums_before") rfl))
    (binds_all F32 rfl rfl fun _ _ _ _ _ _ us hl => match us, hl with | [_], _ => rfl)
  obtain ⟨fd33, F33⟩ := c.def_ 33 rfl
  have a34 : AllK P w K mg base glo M ds34 34 := all_cons a33 g F33 sc_minus (by decide +kernel) rfl rfl ck_minus (He.glo_ok X G (c.fact 33 (f := .glo "minus") rfl))
    (binds_all F33 rfl rfl fun _ _ _ _ _ _ us hl => match us, hl with | [_, _], _ => rfl)
  obtain ⟨fd34, F34⟩ := c.def_ 34 rfl
  have a35 : AllK P w K mg base glo M ds35 35 := all_cons a34 g F34 sc_is_less (by decide +kernel) rfl rfl ck_is_less (He.glo_ok X G (c.fact 34 (f := .glo "is_less") rfl))
    (binds_all F34 rfl rfl fun _ _ _ _ _ _ us hl => match us, hl with | [_, _], _ => rfl)
  obtain ⟨fd35, F35⟩ := c.def_ 35 rfl
  have a36 : AllK P w K mg base glo M ds36 36 := all_cons a35 g F35 sc_value_at (by decide +kernel) rfl rfl ck_value_at (He.glo_ok X G (c.fact 35 (f := .glo "value_at") rfl))
    (binds_all F35 rfl rfl fun _ _ _ _ _ _ us hl => match us, hl with | [_, _], _ => rfl)
  obtain ⟨fd36, F36⟩ := c.def_ 36 rfl
  have a37 : AllK P w K mg base glo M ds37 37 := all_cons a36 g F36 sc_rise (by decide +kernel) rfl rfl ck_rise (He.glo_ok X G (c.fact 36 (f := .glo "rise") rfl))
    (binds_all F36 rfl rfl fun _ _ _ _ _ _ us hl => match us, hl with | [_, _, _], _ => rfl)
  obtain ⟨fd37, F37⟩ := c.def_ 37 rfl
  have a38 : AllK P w K mg base glo M ds38 38 := all_cons a37 g F37 sc_rises (by decide +kernel) rfl rfl ck_rises (He.glo_ok X G (c.fact 37 (f := .glo "rises") rfl))
    (binds_all F37 rfl rfl fun _ _ _ _ _ _ us hl => match us, hl with | [_, _], _ => rfl)
  obtain ⟨fd38, F38⟩ := c.def_ 38 rfl
  have a39 : AllK P w K mg base glo M ds39 39 := all_cons a38 g F38 sc_statement (by decide +kernel) rfl rfl ck_statement (He.glo_ok X G (c.fact 38 (f := .glo "statement") rfl))
    (binds_all F38 rfl rfl fun _ _ _ _ _ _ us hl => match us, hl with | [_, _, _], _ => rfl)
  obtain ⟨fd39, F39⟩ := c.def_ 39 rfl
  have a40 : AllK P w K mg base glo M ds40 40 := all_cons a39 g F39 sc_total (by decide +kernel) rfl rfl ck_total (He.glo_ok X G (c.fact 39 (f := .glo "total") rfl))
    (binds_all F39 rfl rfl fun _ _ _ _ _ _ us hl => match us, hl with | [_], _ => rfl)
  obtain ⟨fd40, F40⟩ := c.def_ 40 rfl
  have a41 : AllK P w K mg base glo M ds41 41 := all_cons a40 g F40 sc_sum_of_parts (by decide +kernel) rfl rfl ck_sum_of_parts (He.glo_ok X G (c.fact 40 (f := .glo "sum_of_parts") rfl))
    (binds_all F40 rfl rfl fun _ _ _ _ _ _ us hl => match us, hl with | [_, _], _ => rfl)
  obtain ⟨fd41, F41⟩ := c.def_ 41 rfl
  have a42 : AllK P w K mg base glo M ds42 42 := all_cons a41 g F41 sc_totals (by decide +kernel) rfl rfl ck_totals (He.glo_ok X G (c.fact 41 (f := .glo "totals") rfl))
    (binds_all F41 rfl rfl fun _ _ _ _ _ _ us hl => match us, hl with | [_, _, _], _ => rfl)
  obtain ⟨fd42, F42⟩ := c.def_ 42 rfl
  have a43 : AllK P w K mg base glo M ds43 43 := all_cons a42 g F42 sc__law_total (by decide +kernel) rfl rfl ck__law_total (He.glo_ok X G (c.fact 42 (f := .glo "_law_total") rfl))
    (binds_all F42 rfl rfl fun _ _ _ _ _ _ us hl => match us, hl with | [_], _ => rfl)
  obtain ⟨fd43, F43⟩ := c.def_ 43 rfl
  have a44 : AllK P w K mg base glo M ds44 44 := all_cons a43 g F43 sc__law_ledger_right (by decide +kernel) rfl rfl ck__law_ledger_right (He.glo_ok X G (c.fact 43 (f := .glo "_law_ledger_right") rfl))
    (binds_all F43 rfl rfl fun _ _ _ _ _ _ us hl => match us, hl with | [_, _, _, _], _ => rfl)
  obtain ⟨fd44, F44⟩ := c.def_ 44 rfl
  have a45 : AllK P w K mg base glo M ds45 45 := all_cons a44 g F44 sc__law_unlike (by decide +kernel) rfl rfl ck__law_unlike (He.glo_ok X G (c.fact 44 (f := .glo "_law_unlike") rfl))
    (binds_all F44 rfl rfl fun _ _ _ _ _ _ us hl => match us, hl with | [_, _], _ => rfl)
  obtain ⟨fd45, F45⟩ := c.def_ 45 rfl
  have a46 : AllK P w K mg base glo M ds46 46 := all_cons a45 g F45 sc__law_replaced (by decide +kernel) rfl rfl ck__law_replaced (He.glo_ok X G (c.fact 45 (f := .glo "_law_replaced") rfl))
    (binds_all F45 rfl rfl fun _ _ _ _ _ _ us hl => match us, hl with | [_, _, _], _ => rfl)
  obtain ⟨fd46, F46⟩ := c.def_ 46 rfl
  have a47 : AllK P w K mg base glo M ds47 47 := all_cons a46 g F46 sc__law_places_right (by decide +kernel) rfl rfl ck__law_places_right (He.glo_ok X G (c.fact 46 (f := .glo "_law_places_right") rfl))
    (binds_all F46 rfl rfl fun _ _ _ _ _ _ us hl => match us, hl with | [_, _], _ => rfl)
  obtain ⟨fd47, F47⟩ := c.def_ 47 rfl
  have a48 : AllK P w K mg base glo M ds48 48 := all_cons a47 g F47 sc_unlike_places (by decide +kernel) rfl rfl ck_unlike_places (He.glo_ok X G (c.fact 47 (f := .glo "unlike_places") rfl))
    (binds_all F47 rfl rfl fun _ _ _ _ _ _ us hl => match us, hl with | [_, _], _ => rfl)
  obtain ⟨fd48, F48⟩ := c.def_ 48 rfl
  have a49 : AllK P w K mg base glo M ds49 49 := all_cons a48 g F48 sc_with_layer (by decide +kernel) rfl rfl ck_with_layer (He.glo_ok X G (c.fact 48 (f := .glo "with_layer") rfl))
    (binds_all F48 rfl rfl fun _ _ _ _ _ _ us hl => match us, hl with | [_, _, _], _ => rfl)
  obtain ⟨fd49, F49⟩ := c.def_ 49 rfl
  have a50 : AllK P w K mg base glo M ds50 50 := all_cons a49 g F49 sc_changed_rows (by decide +kernel) rfl rfl ck_changed_rows (He.glo_ok X G (c.fact 49 (f := .glo "changed_rows") rfl))
    (binds_all F49 rfl rfl fun _ _ _ _ _ _ us hl => match us, hl with | [_, _, _, _, _], _ => rfl)
  obtain ⟨fd50, F50⟩ := c.def_ 50 rfl
  have a51 : AllK P w K mg base glo M ds51 51 := all_cons a50 g F50 sc__law_ends (by decide +kernel) rfl rfl ck__law_ends (He.glo_ok X G (c.fact 50 (f := .glo "_law_ends") rfl))
    (binds_all F50 rfl rfl fun _ _ _ _ _ _ us hl => match us, hl with | [_, _], _ => rfl)
  obtain ⟨fd51, F51⟩ := c.def_ 51 rfl
  have a52 : AllK P w K mg base glo M ds52 52 := all_cons a51 g F51 sc__law_normal (by decide +kernel) rfl rfl ck__law_normal (He.glo_ok X G (c.fact 51 (f := .glo "_law_normal") rfl))
    (binds_all F51 rfl rfl fun _ _ _ _ _ _ us hl => match us, hl with | [_], _ => rfl)
  obtain ⟨fd52, F52⟩ := c.def_ 52 rfl
  have a53 : AllK P w K mg base glo M ds53 53 := all_cons a52 g F52 sc__law_line (by decide +kernel) rfl rfl ck__law_line (He.glo_ok X G (c.fact 52 (f := .glo "_law_line") rfl))
    (binds_all F52 rfl rfl fun _ _ _ _ _ _ us hl => match us, hl with | [_, _], _ => rfl)
  obtain ⟨fd53, F53⟩ := c.def_ 53 rfl
  have a54 : AllK P w K mg base glo M ds54 54 := all_cons a53 g F53 sc__law_value (by decide +kernel) rfl rfl ck__law_value (He.glo_ok X G (c.fact 53 (f := .glo "_law_value") rfl))
    (binds_all F53 rfl rfl fun _ _ _ _ _ _ us hl => match us, hl with | [_, _], _ => rfl)
  obtain ⟨fd54, F54⟩ := c.def_ 54 rfl
  have a55 : AllK P w K mg base glo M ds55 55 := all_cons a54 g F54 sc__law_statement (by decide +kernel) rfl rfl ck__law_statement (He.glo_ok X G (c.fact 54 (f := .glo "_law_statement") rfl))
    (binds_all F54 rfl rfl fun _ _ _ _ _ _ us hl => match us, hl with | [_, _, _], _ => rfl)
  obtain ⟨fd55, F55⟩ := c.def_ 55 rfl
  have a56 : AllK P w K mg base glo M ds56 56 := all_cons a55 g F55 sc__law_changes_right (by decide +kernel) rfl rfl ck__law_changes_right (He.glo_ok X G (c.fact 55 (f := .glo "_law_changes_right") rfl))
    (binds_all F55 rfl rfl fun _ _ _ _ _ _ us hl => match us, hl with | [_, _, _, _, _], _ => rfl)
  exact a56
theorem facts {P : Program} {w : World} {K : PySem.W.Frag} {h : Heap} {mg : Str → Option Value} {f : Addr} (X : K.In h) (G : h.Ns mainGlobals mg) (hfa : mg ("law" : Str) = some (.ref f)) (c : He.SaysD fa fn K) (m : exB K = true) :
    ∃ fd : FuncData, (∀ (s : Shared) (v : Value), BindsTo s fd ⟨[v], []⟩ [("script", v)]) ∧ ∀ base : Heap, K.In base → base.Ns mainGlobals mg → FnOk P w K mg base (L2.CX P w) 57 f fd ["script"] fun vs H Q E => ∃ M, spOf (mkF glo M ds57) mg K 1 "law" vs H Q E := by
  obtain ⟨fd, F⟩ := c.def_ 56 rfl
  have hg : mg ("law" : Str) = some (.ref (He.ga K "law")) := He.glo_ok X G (c.fact 56 (f := .glo "law") rfl)
  have e := hfa.symm.trans hg
  cases e
  have b := FunD.bindsA (ps := ["script"]) F fun _ _ _ _ _ _ us hl => match us, hl with | [_], _ => rfl
  refine ⟨fd, fun s v => b s [v] rfl, fun base _ _ => FnOk.ex fun M => ?_⟩
  exact law_fn (d := d_law) (chain0 X G c m M) (gloF X G c m) F sc_law rfl rfl ck_law
end Wk14

set_option Elab.async false
set_option linter.all false
set_option maxRecDepth 100000
set_option maxHeartbeats 4000000
namespace Wk14
open PySem PySem.Spec PyProof.Rows L2 Dv
theorem f__law_draw : DrawS ((FU MM).call "_law_draw") := fun {n d m} hd hn h0 h1 => by rw [run__law_draw rfl]; exact draw_run hd hn h0 h1
theorem f__law_rare : ∀ {n : Nat} {d : D} {m : Int}, DS n d → n < 2 ^ 60 → 0 < m → m < 2 ^ 64 → ∃ b d', (FU MM).call "_law_rare" [.own d, .val (.int m)] = .ok (.val (.bl b), [.own d', .val (.int m)]) ∧ DS (n + 1) d' := fun {n d m} hd hn h0 h1 => by rw [run__law_rare rfl]; exact rare_run (by rw [up7__law_draw]; exact f__law_draw) (fun n => dfl7__law_draw n) hd hn h0 h1
theorem f__law_pick : ∀ {n : Nat} {d : D} {row : List D} {R : A}, (R = .own (.lst row) ∨ R = .val (.lst row) ∨ R = .val (.tup row)) → DS n d → n < 2 ^ 60 → 0 < row.length → row.length < 2 ^ 62 → ∃ x d', (FU MM).call "_law_pick" [.own d, R] = .ok (.val x, [.own d', R]) ∧ x ∈ row ∧ DS (n + 1) d' := fun {n d row R} hR hd hn h0 h1 => by rw [run__law_pick rfl]; exact pick_run (by rw [up5__law_draw]; exact f__law_draw) (fun n => dfl5__law_draw n) hR hd hn h0 h1
theorem f__law_shuffled : ∀ {n : Nat} {d : D} {row : List D} {R : A}, (R = .own (.lst row) ∨ R = .val (.lst row) ∨ R = .val (.tup row)) → DS n d → n < 2 ^ 59 → row.length < 16777216 → ∃ row' d', (FU MM).call "_law_shuffled" [.own d, R] = .ok (.own (.lst row'), [.own d', R]) ∧ row'.Perm row ∧ DS (n + row.length) d' := fun {n d row R} hR hd hn h1 => by rw [run__law_shuffled rfl]; exact shuf_run (by rw [up10__law_draw]; exact f__law_draw) (fun n => dfl10__law_draw n) hR hd hn h1
theorem f__law_gcd : ∀ n d : Int, d.natAbs < oC → (FU MM).call "_law_gcd" [.val (.int n), .val (.int d)] = .ok (.val (.int ((Nat.gcd n.natAbs d.natAbs : Nat) : Int)), [.val (.int n), .val (.int d)]) := fun n d h => by rw [run__law_gcd rfl]; exact gcd_run (Nat.lt_of_lt_of_le h MM_oC)
theorem f__law_amount : AmountS ((FU MM).call "_law_amount") := fun n d h0 h => by rw [run__law_amount rfl]; exact amount_run (by rw [up3__law_gcd]; exact f__law_gcd) (fun n => dfl3__law_gcd n) n d h0 h
theorem f__law_plus : ∀ a b : Rat, Ok a → Ok b → (FU MM).call "_law_plus" [.val (am a), .val (am b)] = .ok (.val (am (a + b)), [.val (am a), .val (am b)]) := fun a b ha hb => by rw [run__law_plus rfl]; exact lplus_run (by rw [up29__law_amount]; exact f__law_amount) (fun n => dfl29__law_amount n) a b ha hb
theorem f__law_minus : ∀ a b : Rat, Ok a → Ok b → (FU MM).call "_law_minus" [.val (am a), .val (am b)] = .ok (.val (am (a - b)), [.val (am a), .val (am b)]) := fun a b ha hb => by rw [run__law_minus rfl]; exact lminus_run (by rw [up28__law_amount]; exact f__law_amount) (fun n => dfl28__law_amount n) a b ha hb
theorem f__law_times : ∀ a b : Rat, Ok a → Ok b → (FU MM).call "_law_times" [.val (am a), .val (am b)] = .ok (.val (am (a * b)), [.val (am a), .val (am b)]) := fun a b ha hb => by rw [run__law_times rfl]; exact ltimes_run (by rw [up8__law_amount]; exact f__law_amount) (fun n => dfl8__law_amount n) a b ha hb
theorem f__law_int : ∀ i : Int, (FU MM).call "_law_int" [.val (.int i)] = .ok (.val (am (i : Rat)), [.val (.int i)]) := fun i => by rw [run__law_int rfl]; exact lint_run i
theorem f__law_less : LessS ((FU MM).call "_law_less") := fun a b ha hb => by rw [run__law_less rfl]; exact less_run a b ha hb
theorem f_is_less : LessS ((FU MM).call "is_less") := fun a b ha hb => by rw [run_is_less rfl]; exact less_run a b ha hb
theorem f__law_is_int : ∀ i : Int, (FU MM).call "_law_is_int" [.val (.int i)] = .ok (.val (.bl true), [.val (.int i)]) := fun i => by rw [run__law_is_int rfl]; exact is_int_run
theorem f__law_is_amount : ∀ q : Rat, Ok q → (FU MM).call "_law_is_amount" [.val (am q)] = .ok (.val (.bl true), [.val (am q)]) := fun q h => by rw [run__law_is_amount rfl]; exact is_am_run (by rw [up20__law_is_int]; exact f__law_is_int) (by rw [up20__law_gcd]; exact f__law_gcd) (fun n => dfl20__law_is_int n) (fun n => dfl20__law_gcd n) h
theorem f__law_is_row : ∀ {l : List Rat} {n : Nat}, n = l.length → l.length < sizeLine → (∀ q ∈ l, Ok q) → (FU MM).call "_law_is_row" [.val (.tup (l.map am)), .val (.int (n : Nat))] = .ok (.val (.bl true), [.val (.tup (l.map am)), .val (.int (n : Nat))]) := fun {l n} hn hl h => by rw [run__law_is_row rfl]; exact is_row_run (by rw [up21__law_is_amount]; exact f__law_is_amount) (fun n => dfl21__law_is_amount n) hn hl h
theorem f_reduced : RedS ((FU MM).call "reduced") := fun n d h0 h => by rw [run_reduced rfl]; exact reduced_run n d h0 h
theorem f_plus : ∀ a b : Rat, Ok a → Ok b → (FU MM).call "plus" [.val (am a), .val (am b)] = .ok (.val (am (a + b)), [.val (am a), .val (am b)]) := fun a b ha hb => by rw [run_plus rfl]; exact plus_run (by rw [up31_reduced]; exact f_reduced) (fun n => dfl31_reduced n) a b ha hb
theorem f_minus : ∀ a b : Rat, Ok a → Ok b → (FU MM).call "minus" [.val (am a), .val (am b)] = .ok (.val (am (a - b)), [.val (am a), .val (am b)]) := fun a b ha hb => by rw [run_minus rfl]; exact minus_run (by rw [up33_reduced]; exact f_reduced) (fun n => dfl33_reduced n) a b ha hb
theorem f_times : ∀ a b : Rat, Ok a → Ok b → (FU MM).call "times" [.val (am a), .val (am b)] = .ok (.val (am (a * b)), [.val (am a), .val (am b)]) := fun a b ha hb => by rw [run_times rfl]; exact times_run (by rw [up12_reduced]; exact f_reduced) (fun n => dfl12_reduced n) a b ha hb
theorem f_sign_of : ∀ q : Rat, (FU MM).call "sign_of" [.val (am q)] = .ok (.val (.int (if q < 0 then -1 else if 0 < q then 1 else 0)), [.val (am q)]) := fun q => by rw [run_sign_of rfl]; exact sign_run q
end Wk14

set_option Elab.async false
set_option linter.all false
set_option maxRecDepth 100000
set_option maxHeartbeats 4000000
namespace Wk14
open PySem PySem.Spec PyProof.Rows L2 Dv
abbrev Ln := List (Rat × Rat)
def prD (p : Rat × Rat) : D := .tup [am p.1, am p.2]
def lnD (l : Ln) : D := .tup (l.map prD)
@[simp] theorem pr0 {p : Rat × Rat} : dIdx (prD p) (.int 0) = .ok (am p.1) := by simp [prD]
@[simp] theorem pr1 {p : Rat × Rat} : dIdx (prD p) (.int 1) = .ok (am p.2) := by simp [prD]
structure LineOk (l : Ln) : Prop where
  bd : ∀ p ∈ l, Bd 6 2000 p.1 ∧ Bd 60 60 p.2 ∧ 0 ≤ p.1
  asc : l.Pairwise fun p q => p.1 < q.1
  len : l.length ≤ 40
/-- the value of a line, from place on, the slope ahead told -/
def vF (x : Rat) : Ln → Rat → Rat
  | [], _ => 0
  | p :: r, last => (if p.1 < x then (p.2 - last) * (x - p.1) else 0) + vF x r p.2
def V (l : Ln) (x : Rat) : Rat := vF x l 0
theorem vF_zero {x : Rat} : ∀ {l : Ln} {last : Rat}, (∀ p ∈ l, ¬ p.1 < x) → vF x l last = 0
  | [], _, _ => rfl
  | p :: r, _, h => by
    rw [vF, if_neg (h p List.mem_cons_self), vF_zero fun q hq => h q (List.mem_cons_of_mem _ hq)]
    grind
theorem V_zero {l : Ln} (h : LineOk l) : V l 0 = 0 := vF_zero fun p hp => by
  have := (h.bd p hp).2.2
  grind
/-- a bound of what a pair adds -/
def B1 (c N : Nat) : Nat := 120 * (N + 2000 * c)
section
variable {x : Rat} {c N : Nat}
theorem term_bd (hx : Bd (6 * c) N x) {p : Rat × Rat} {last : Rat} (hp : Bd 6 2000 p.1 ∧ Bd 60 60 p.2 ∧ 0 ≤ p.1) (hl : Bd 60 60 last) : Bd (60 * (6 * c)) (B1 c N) ((p.2 - last) * (x - p.1)) := by
  have := (hp.2.1.sub hl).mul (hx.sub (hp.1.lift c))
  exact this
theorem vF_bd (hx : Bd (6 * c) N x) : ∀ {l : Ln} {last : Rat}, (∀ p ∈ l, Bd 6 2000 p.1 ∧ Bd 60 60 p.2 ∧ 0 ≤ p.1) → Bd 60 60 last → Bd (60 * (6 * c)) (l.length * B1 c N) (vF x l last)
  | [], _, _, _ => Bd.zero
  | p :: r, last, h, hl => by
    have h1 := h p List.mem_cons_self
    have h2 := vF_bd hx (l := r) (last := p.2) (fun q hq => h q (List.mem_cons_of_mem _ hq)) h1.2.1
    have h3 : Bd (60 * (6 * c)) (B1 c N) (if p.1 < x then (p.2 - last) * (x - p.1) else 0) := by
      split
      · exact term_bd hx h1 hl
      · exact Bd.zero
    rw [vF, List.length_cons, Nat.succ_mul r.length, Nat.add_comm (r.length * _)]
    exact h3.add h2
theorem V_bd (hx : Bd (6 * c) N x) {l : Ln} (h : LineOk l) : Bd (60 * (6 * c)) (40 * B1 c N) (V l x) := (vF_bd hx h.bd Bd.zero).mono (Nat.mul_le_mul_right _ h.len)
theorem k200 {q : Rat} {L M : Nat} (h : Bd L M q) (h0 : 0 < L) (h1 : L < 2 ^ 100) (h2 : M < 2 ^ 200) : K 200 q := h.k h0 (Nat.lt_of_lt_of_le h1 (Nat.pow_le_pow_right (by decide) (by decide))) h2 (by decide)
theorem law_value_ok {l : Ln} (h : LineOk l) (hx : Bd (6 * c) N x) (c0 : 0 < c) (c1 : c < 2 ^ 40) (hN : N < 2 ^ 120) : (FU MM).call "_law_value" [.val (lnD l), .val (am x)] = .ok (.val (am (V l x)), [.val (lnD l), .val (am x)]) := by
  have xK : K 200 x := k200 hx (by omega) (by omega) (by omega)
  have bB : 40 * B1 c N < 2 ^ 200 := by unfold B1; omega
  obtain ⟨ρ', ⟨found, last, o, rfl, hf, hb, hl, _⟩, ef⟩ := for_val (F := F53 MM) (N := MM) (S := S__law_value_0) rfl (d := lnD l) (xs := l) (f := prD) (ρ := [some (.val (lnD l)), some (.val (am x)), some (.val (am 0)), some (.val (am 0)), none])
    (ρ1 := [some (.val (lnD l)), some (.val (am x)), some (.val (am 0)), some (.val (am 0)), none])
    (fun i ρ => ∃ (found last : Rat) (o : Option S), ρ = [some (.val (lnD l)), some (.val (am x)), some (.val (am found)), some (.val (am last)), o] ∧ found + vF x (l.drop i) last = V l x ∧ Bd (60 * (6 * c)) (i * B1 c N) found ∧ Bd 60 60 last ∧ gFree (some o) = true)
    (by simp [lnD]) ⟨0, 0, none, rfl, by rw [List.drop_zero]; exact Rat.zero_add _, Bd.zero, Bd.zero, rfl⟩
    (fun i p ρ hx' ⟨found, last, o, e, hf, hb, hl, ho⟩ => by
      subst e
      obtain ⟨hi, rfl⟩ := List.getElem?_eq_some_iff.mp hx'
      have hp := h.bd _ (List.getElem_mem hi)
      have hlen := h.len
      rw [List.drop_eq_getElem_cons hi, vF] at hf
      have e1 := f__law_less l[i].1 x ((hp.1.k60 (by omega) (by omega) (by omega)).ok60) (xK.ok (by decide))
      have pK : K 60 l[i].1 := hp.1.k60 (by omega) (by omega) (by omega)
      have sK : K 60 l[i].2 := hp.2.1.k60 (by omega) (by omega) (by omega)
      have lK : K 60 last := hl.k60 (by omega) (by omega) (by omega)
      have fK : K 200 found := k200 hb (by omega) (by omega) (Nat.lt_of_le_of_lt (Nat.mul_le_mul_right _ (by omega)) bB)
      have e2 := f__law_minus l[i].2 last sK.ok60 lK.ok60
      have e3 := f__law_minus x l[i].1 (xK.ok (by decide)) pK.ok60
      have e4 := f__law_times _ _ ((sK.sub lK).ok (by decide)) ((xK.sub pK).ok (by decide))
      have e5 := f__law_plus found _ (fK.ok (by decide)) (((sK.sub lK).mul (xK.sub pK)).ok (by decide))
      by_cases hc : l[i].1 < x
      · rw [decide_eq_true hc] at e1
        rw [if_pos hc] at hf
        refine ⟨[some (.val (lnD l)), some (.val (am x)), some (.val (am (found + (l[i].2 - last) * (x - l[i].1)))), some (.val (am l[i].2)), some (.val (prD l[i]))], .inl ?_, _, _, _, rfl, by rw [← hf]; grind, ?_, hp.2.1, rfl⟩
        · simp [turnX, B__law_value_0, ho, e1, e2, e3, e4, e5]
        · rw [Nat.succ_mul i]
          exact hb.add (term_bd hx hp hl)
      · rw [decide_eq_false hc] at e1
        rw [if_neg hc] at hf
        refine ⟨[some (.val (lnD l)), some (.val (am x)), some (.val (am found)), some (.val (am l[i].2)), some (.val (prD l[i]))], .inl ?_, _, _, _, rfl, by rw [← hf]; grind, ?_, hp.2.1, rfl⟩
        · simp [turnX, B__law_value_0, ho, e1]
        · exact hb.mono (Nat.mul_le_mul_right _ (by omega)))
  rw [List.drop_length, vF] at hf
  have hv : found = V l x := by rw [← hf]; grind
  subst hv
  rw [run__law_value rfl]
  have k2 : 2 ≤ sizeLine := by decide
  simp [b__law_value, Dv.envOf, k2, ef]
theorem value_ok {l : Ln} (h : LineOk l) (hx : Bd (6 * c) N x) (c0 : 0 < c) (c1 : c < 2 ^ 40) (hN : N < 2 ^ 120) : (FU MM).call "value_at" [.val (lnD l), .val (am x)] = .ok (.val (am (V l x)), [.val (lnD l), .val (am x)]) := by
  have xK : K 200 x := k200 hx (by omega) (by omega) (by omega)
  obtain ⟨ρ', hfin, ef⟩ := for_vbk (F := F35 MM) (N := MM) (S := S_value_at_0) rfl (d := lnD l) (xs := l) (f := prD) (ρ := [some (.val (lnD l)), some (.val (am x)), some (.val (am 0)), some (.val (am 0)), some (.val (am 0)), none, none])
    (ρ1 := [some (.val (lnD l)), some (.val (am x)), some (.val (am 0)), some (.val (am 0)), some (.val (am 0)), none, none])
    (fun i ρ => ∃ (g s0 sl : Rat) (o5 o6 : Option S), ρ = [some (.val (lnD l)), some (.val (am x)), some (.val (am g)), some (.val (am s0)), some (.val (am sl)), o5, o6] ∧ g + sl * (x - s0) + vF x (l.drop i) sl = V l x ∧ Bd 360 (i * 240000) g ∧ Bd 6 2000 s0 ∧ Bd 60 60 sl ∧ gFree (some o5) = true ∧ gFree (some o6) = true)
    (fun ρ => ∃ (g s0 sl : Rat) (o5 o6 : Option S), ρ = [some (.val (lnD l)), some (.val (am x)), some (.val (am g)), some (.val (am s0)), some (.val (am sl)), o5, o6] ∧ g + sl * (x - s0) = V l x ∧ K 60 g ∧ Bd 6 2000 s0 ∧ Bd 60 60 sl)
    (by simp [lnD]) ⟨0, 0, 0, none, none, rfl, by rw [List.drop_zero]; show _ + V l x = _; grind, Bd.zero, Bd.zero, Bd.zero, rfl, rfl⟩
    (fun i p ρ hx' ⟨g, s0, sl, o5, o6, e, hf, hg, hs, hl, h5, h6⟩ => by
      subst e
      obtain ⟨hi, rfl⟩ := List.getElem?_eq_some_iff.mp hx'
      have hp := h.bd _ (List.getElem_mem hi)
      have hlen := h.len
      have hd := List.drop_eq_getElem_cons hi
      have pK : K 60 l[i].1 := hp.1.k60 (by omega) (by omega) (by omega)
      have stK : K 60 s0 := hs.k60 (by omega) (by omega) (by omega)
      have slK : K 60 sl := hl.k60 (by omega) (by omega) (by omega)
      have gK : K 60 g := hg.k60 (by omega) (by omega) (by omega)
      have e1 := f_is_less l[i].1 x pK.ok60 (xK.ok (by decide))
      by_cases hc : l[i].1 < x
      · rw [decide_eq_true hc] at e1
        rw [hd, vF, if_pos hc] at hf
        have e2 := f_minus l[i].1 s0 pK.ok60 stK.ok60
        have e3 := f_times sl _ slK.ok60 ((pK.sub stK).ok (by decide))
        have e4 := f_plus g _ gK.ok60 ((slK.mul (pK.sub stK)).ok (by decide))
        refine ⟨[some (.val (lnD l)), some (.val (am x)), some (.val (am (g + sl * (l[i].1 - s0)))), some (.val (am l[i].1)), some (.val (am l[i].2)), some (.val (am l[i].1)), some (.val (am l[i].2))], .inl ⟨.inl ?_, _, _, _, _, _, rfl, by rw [← hf]; grind, ?_, hp.1, hp.2.1, rfl, rfl⟩⟩
        · simp [turnX, B_value_at_0, prD, h5, h6, e1, e2, e3, e4]
        · rw [Nat.succ_mul i]
          exact hg.add (hl.mul (hp.1.sub hs))
      · rw [decide_eq_false hc] at e1
        have z : vF x (l.drop i) sl = 0 := vF_zero fun q hq => by
          have as := (List.Pairwise.sublist (List.drop_sublist i l) h.asc)
          rw [hd] at hq as
          rcases List.mem_cons.mp hq with rfl | hq
          · exact hc
          · have := (List.pairwise_cons.mp as).1 q hq
            grind
        rw [z] at hf
        refine ⟨[some (.val (lnD l)), some (.val (am x)), some (.val (am g)), some (.val (am s0)), some (.val (am sl)), some (.val (am l[i].1)), some (.val (am l[i].2))], .inr ⟨?_, g, s0, sl, _, _, rfl, by rw [← hf]; grind, gK, hs, hl⟩⟩
        simp [turnX, B_value_at_0, prD, h5, h6, e1])
  have fin : ∃ (g s0 sl : Rat) (o5 o6 : Option S), ρ' = [some (.val (lnD l)), some (.val (am x)), some (.val (am g)), some (.val (am s0)), some (.val (am sl)), o5, o6] ∧ g + sl * (x - s0) = V l x ∧ K 60 g ∧ Bd 6 2000 s0 ∧ Bd 60 60 sl := by
    rcases hfin with ⟨g, s0, sl, o5, o6, e, hf, hg, hs, hl, _⟩ | hq
    · rw [List.drop_length, vF] at hf
      have hlen := h.len
      exact ⟨g, s0, sl, o5, o6, e, by rw [← hf]; grind, hg.k60 (by omega) (by omega) (by omega), hs, hl⟩
    · exact hq
  obtain ⟨g, s0, sl, o5, o6, rfl, hv, gK, hs, hl⟩ := fin
  have stK : K 60 s0 := hs.k60 (by omega) (by omega) (by omega)
  have slK : K 60 sl := hl.k60 (by omega) (by omega) (by omega)
  have e2 := f_minus x s0 (xK.ok (by decide)) stK.ok60
  have e3 := f_times sl _ slK.ok60 ((xK.sub stK).ok (by decide))
  have e4 := f_plus g _ gK.ok60 ((slK.mul (xK.sub stK)).ok (by decide))
  rw [hv] at e4
  rw [run_value_at rfl]
  simp [b_value_at, Dv.envOf, ef, e2, e3, e4]
end
end Wk14

set_option Elab.async false
set_option linter.all false
set_option maxRecDepth 100000
set_option maxHeartbeats 4000000
namespace Wk14
open PySem PySem.Spec PyProof.Rows L2 Dv
def befL : Rat → List Rat → List Rat
  | _, [] => []
  | a, p :: r => a :: befL (a + p) r
def sm : Rat → List Rat → Rat
  | a, [] => a
  | a, p :: r => sm (a + p) r
def risL (l : Ln) (a : Rat) (ps : List Rat) : List Rat := ((befL a ps).zip ps).map fun p => V l (p.1 + p.2) - V l p.1
theorem befL_len : ∀ {ps : List Rat} {a : Rat}, (befL a ps).length = ps.length
  | [], _ => rfl
  | p :: r, a => by rw [befL, List.length_cons, List.length_cons, befL_len]
theorem risL_len {l : Ln} {ps : List Rat} {a : Rat} : (risL l a ps).length = ps.length := by simp [risL, befL_len]
theorem risL_cons {l : Ln} {a p : Rat} {r : List Rat} : risL l a (p :: r) = (V l (a + p) - V l a) :: risL l (a + p) r := rfl
theorem sm_bd {L M : Nat} : ∀ {ps : List Rat} {a : Rat} {A : Nat}, Bd L A a → (∀ q ∈ ps, Bd L M q) → Bd L (A + ps.length * M) (sm a ps)
  | [], _, _, h, _ => h.mono (Nat.le_add_right _ _)
  | p :: r, a, A, h, hp => by
    have := sm_bd (L := L) (M := M) (ps := r) (h.add (hp p List.mem_cons_self)) fun q hq => hp q (List.mem_cons_of_mem _ hq)
    rw [List.length_cons, Nat.succ_mul r.length]
    exact this.mono (by omega)
theorem befL_bd {L M : Nat} : ∀ {ps : List Rat} {a : Rat} {A : Nat}, Bd L A a → (∀ q ∈ ps, Bd L M q) → ∀ q ∈ befL a ps, Bd L (A + ps.length * M) q
  | [], _, _, _, _, q, hq => by cases hq
  | p :: r, a, A, h, hp, q, hq => by
    rw [List.length_cons, Nat.succ_mul r.length]
    rcases List.mem_cons.mp hq with rfl | hq
    · exact h.mono (by omega)
    · exact (befL_bd (ps := r) (h.add (hp p List.mem_cons_self)) (fun q hq => hp q (List.mem_cons_of_mem _ hq)) q hq).mono (by omega)
/-- a telescope -/
theorem tele {l : Ln} : ∀ {ps : List Rat} {a b : Rat}, sm a (risL l b ps) = a + V l (sm b ps) - V l b
  | [], a, b => by show a = a + V l b - V l b; grind
  | p :: r, a, b => by
    rw [risL_cons, sm, sm, tele]
    grind
theorem zip_pr {as bs : List Rat} : zipD [as.map am, bs.map am] = (as.zip bs).map prD := by
  show ((as.map am).zip (bs.map am)).map (fun p => D.tup [p.1, p.2]) = _
  rw [List.zip_map, List.map_map]
  rfl
structure PartsOk (c M : Nat) (ps : List Rat) : Prop where
  bd : ∀ q ∈ ps, Bd (6 * c) M q
  len : ps.length ≤ 12
section
variable {c M : Nat} {ps : List Rat} {l : Ln}
theorem sb_loop {s sl : S} {p : P} {o : Option Nat} (hp : PartsOk c M ps) (c0 : 0 < c) (c1 : c < 2 ^ 40) (hM : M < 2 ^ 100)
    (hi : evi (F32 MM) (.seq (.var 0)) [some s, some (.own false (.lst [])), some (.val (am 0)), none] = .ok ((ps.map am, p), [some s, some (.own false (.lst [])), some (.val (am 0)), none])) (hlk : ∀ rest, lockP p (some s :: rest) = (o, some sl :: rest)) (hun : ∀ rest, unlock o (some sl :: rest) = .ok (some s :: rest)) :
    ∃ (r : Rat) (o3 : Option S), Dv.ex (F32 MM) MM S_sums_before_0 [some s, some (.own false (.lst [])), some (.val (am 0)), none] = .ok (.nx, [some s, some (.own false (.lst ((befL 0 ps).map am))), some (.val (am r)), o3]) := by
  obtain ⟨ρ', ⟨found, r, o3, rfl, hf, hl, hr, _⟩, e⟩ := for_st (F := F32 MM) (N := MM) (tg := .nm 3) (b := B_sums_before_0) (xs := ps) (f := am)
    (fun i ρ => ∃ (found : List Rat) (r : Rat) (o3 : Option S), ρ = [some sl, some (.own false (.lst (found.map am))), some (.val (am r)), o3] ∧ found ++ befL r (ps.drop i) = befL 0 ps ∧ found.length = i ∧ Bd (6 * c) (i * M) r ∧ gFree (some o3) = true)
    hi ⟨[], 0, none, by rw [hlk]; rfl, rfl, rfl, Bd.zero, rfl⟩
    (fun i q ρ hx ⟨found, r, o3, e, hf, hl, hr, ho⟩ => by
      subst e
      obtain ⟨hi, rfl⟩ := List.getElem?_eq_some_iff.mp hx
      have h12 := hp.len
      have hq := hp.bd _ (List.getElem_mem hi)
      rw [List.drop_eq_getElem_cons hi, befL] at hf
      have b1 : i * M ≤ 12 * M := Nat.mul_le_mul_right _ (by omega)
      have rK : K 200 r := k200 hr (by omega) (by omega) (by omega)
      have qK : K 200 ps[i] := k200 hq (by omega) (by omega) (by omega)
      have e1 := f_plus r ps[i] (rK.ok (by decide)) (qK.ok (by decide))
      have hz : found.length < sizeLine := len_lt (by omega)
      refine ⟨[some sl, some (.own false (.lst ((found ++ [r]).map am))), some (.val (am (r + ps[i]))), some (.val (am ps[i]))], .inl ?_, found ++ [r], _, _, rfl, by rw [← hf]; simp, by simp [hl], ?_, rfl⟩
      · simp [turnX, B_sums_before_0, ho, e1, hz]
      · rw [Nat.succ_mul i]
        exact hr.add hq)
  rw [List.drop_length, befL, List.append_nil] at hf
  subst hf
  refine ⟨r, o3, ?_⟩
  show Dv.ex (F32 MM) MM S_sums_before_0 _ = _
  refine (show Dv.ex (F32 MM) MM S_sums_before_0 _ = _ from e).trans ?_
  rw [hlk, hun]
  rfl
theorem sb_tup (hp : PartsOk c M ps) (c0 : 0 < c) (c1 : c < 2 ^ 40) (hM : M < 2 ^ 100) : (FU MM).call "sums_before" [.val (.tup (ps.map am))] = .ok (.own (.lst ((befL 0 ps).map am)), [.val (.tup (ps.map am))]) := by
  obtain ⟨r, o3, e⟩ := sb_loop (s := .val (.tup (ps.map am))) (sl := .val (.tup (ps.map am))) (p := .val (.tup (ps.map am))) (o := none) hp c0 c1 hM (by simp) (fun _ => rfl) (fun _ => rfl)
  rw [run_sums_before rfl]
  simp [b_sums_before, Dv.envOf, e]
theorem sb_own (hp : PartsOk c M ps) (c0 : 0 < c) (c1 : c < 2 ^ 40) (hM : M < 2 ^ 100) : (FU MM).call "sums_before" [.own (.lst (ps.map am))] = .ok (.own (.lst ((befL 0 ps).map am)), [.own (.lst (ps.map am))]) := by
  obtain ⟨r, o3, e⟩ := sb_loop (s := .own true (.lst (ps.map am))) (sl := .lck true (.lst (ps.map am))) (p := .at_ 0) (o := some 0) hp c0 c1 hM (by simp) (fun _ => by simp) (fun _ => by simp)
  rw [run_sums_before rfl]
  simp [b_sums_before, Dv.envOf, e]
theorem rise_ok {low by_ : Rat} {N : Nat} (h : LineOk l) (h1 : Bd (6 * c) N low) (h2 : Bd (6 * c) M by_) (c0 : 0 < c) (c1 : c < 2 ^ 40) (hM : M < 2 ^ 100) (hN : N < 2 ^ 110) :
    (FU MM).call "rise" [.val (lnD l), .val (am low), .val (am by_)] = .ok (.val (am (V l (low + by_) - V l low)), [.val (lnD l), .val (am low), .val (am by_)]) := by
  have lK : K 200 low := k200 h1 (by omega) (by omega) (by omega)
  have bK : K 200 by_ := k200 h2 (by omega) (by omega) (by omega)
  have e1 := f_plus low by_ (lK.ok (by decide)) (bK.ok (by decide))
  have e2 := value_ok h (h1.add h2) c0 c1 (by omega)
  have e3 := value_ok h h1 c0 c1 (by omega)
  have v1 : K 200 (V l (low + by_)) := k200 (V_bd (h1.add h2) h) (by omega) (by omega) (by unfold B1; omega)
  have v2 : K 200 (V l low) := k200 (V_bd h1 h) (by omega) (by omega) (by unfold B1; omega)
  have e4 := f_minus _ _ (v1.ok (by decide)) (v2.ok (by decide))
  rw [run_rise rfl]
  simp [b_rise, Dv.envOf, e1, e2, e3, e4]
theorem ris_loop {s1 : S} (h : LineOk l) (hp : PartsOk c M ps) (c0 : 0 < c) (c1 : c < 2 ^ 40) (hM : M < 2 ^ 100) {ρ0 : Env'}
    (hi : evi (F37 MM) (.zip (.cons (.call "sums_before" (.cons (.var 1) .nil)) (.cons (.var 1) .nil))) ρ0 = .ok ((((befL 0 ps).zip ps).map prD, .val .non), [some (.val (lnD l)), some s1, some (.own false (.lst [])), none, none])) :
    ∃ (o3 o4 : Option S), Dv.ex (F37 MM) MM S_rises_0 ρ0 = .ok (.nx, [some (.val (lnD l)), some s1, some (.own false (.lst ((risL l 0 ps).map am))), o3, o4]) := by
  obtain ⟨ρ', ⟨o3, o4, rfl, _, _⟩, e⟩ := for_val (F := F37 MM) (N := MM) (S := S_rises_0) rfl (d := .non) (xs := (befL 0 ps).zip ps) (f := prD)
    (fun i ρ => ∃ (o3 o4 : Option S), ρ = [some (.val (lnD l)), some s1, some (.own false (.lst (((((befL 0 ps).zip ps).take i).map fun p => V l (p.1 + p.2) - V l p.1).map am))), o3, o4] ∧ gFree (some o3) = true ∧ gFree (some o4) = true)
    hi ⟨none, none, rfl, rfl, rfl⟩
    (fun i q ρ hx ⟨o3, o4, e, h3, h4⟩ => by
      subst e
      have hil := (List.getElem?_eq_some_iff.mp hx).1
      rw [List.length_zip, befL_len] at hil
      have h12 := hp.len
      have hm := List.of_mem_zip (List.mem_of_getElem? hx)
      have b1 := befL_bd (A := 0) Bd.zero hp.bd q.1 hm.1
      have b3 : ps.length * M ≤ 12 * M := Nat.mul_le_mul_right _ hp.len
      have b2 := hp.bd q.2 hm.2
      have e1 := rise_ok h (b1.mono (M := 12 * M) (by omega)) b2 c0 c1 hM (by omega)
      have hz : min i (min (befL 0 ps).length ps.length) < sizeLine := len_lt (by omega)
      refine ⟨[some (.val (lnD l)), some s1, some (.own false (.lst (((((befL 0 ps).zip ps).take (i + 1)).map fun p => V l (p.1 + p.2) - V l p.1).map am))), some (.val (am q.1)), some (.val (am q.2))], .inl ?_, _, _, rfl, rfl, rfl⟩
      rw [List.take_succ, hx]
      simp [turnX, B_rises_0, prD, h3, h4, e1, hz])
  rw [List.take_length] at e
  exact ⟨o3, o4, e⟩
theorem ris_tup (h : LineOk l) (hp : PartsOk c M ps) (c0 : 0 < c) (c1 : c < 2 ^ 40) (hM : M < 2 ^ 100) : (FU MM).call "rises" [.val (lnD l), .val (.tup (ps.map am))] = .ok (.own (.lst ((risL l 0 ps).map am)), [.val (lnD l), .val (.tup (ps.map am))]) := by
  have e1 := sb_tup hp c0 c1 hM
  obtain ⟨o3, o4, e⟩ := ris_loop (s1 := .val (.tup (ps.map am))) (ρ0 := [some (.val (lnD l)), some (.val (.tup (ps.map am))), some (.own false (.lst [])), none, none]) h hp c0 c1 hM (by rw [← zip_pr]; simp [e1])
  have k0 : 0 ≤ sizeLine := Nat.zero_le _
  rw [run_rises rfl]
  simp [b_rises, Dv.envOf, e]
theorem ris_own (h : LineOk l) (hp : PartsOk c M ps) (c0 : 0 < c) (c1 : c < 2 ^ 40) (hM : M < 2 ^ 100) : (FU MM).call "rises" [.val (lnD l), .own (.lst (ps.map am))] = .ok (.own (.lst ((risL l 0 ps).map am)), [.val (lnD l), .val (.lst (ps.map am))]) := by
  have e1 := sb_own hp c0 c1 hM
  obtain ⟨o3, o4, e⟩ := ris_loop (s1 := .brz (.lst (ps.map am))) (ρ0 := [some (.val (lnD l)), some (.own true (.lst (ps.map am))), some (.own false (.lst [])), none, none]) h hp c0 c1 hM (by rw [← zip_pr]; simp [e1])
  rw [run_rises rfl]
  simp [b_rises, Dv.envOf, e]
end
end Wk14

set_option Elab.async false
set_option linter.all false
set_option maxRecDepth 100000
set_option maxHeartbeats 4000000
namespace Wk14
open PySem PySem.Spec PyProof.Rows L2 Dv
abbrev R4 := Rat × Rat × Rat × Rat
def r4D (r : R4) : D := .tup [am r.1, am r.2.1, am r.2.2.1, am r.2.2.2]
/-- the rows: layer, before, paid, price -/
def stR (y p : Ln) (b pd : Rat) (ls : List Rat) : List R4 := ls.zip ((befL b ls).zip ((risL y b ls).zip (risL p pd (risL y b ls))))
theorem stR_nil {y p : Ln} {b pd : Rat} : stR y p b pd [] = [] := rfl
theorem stR_cons {y p : Ln} {b pd q : Rat} {r : List Rat} : stR y p b pd (q :: r) = (q, b, V y (b + q) - V y b, V p (pd + (V y (b + q) - V y b)) - V p pd) :: stR y p (b + q) (pd + (V y (b + q) - V y b)) r := rfl
theorem stR_len {y p : Ln} {b pd : Rat} {ls : List Rat} : (stR y p b pd ls).length = ls.length := by simp [stR, risL_len, befL_len]
theorem stR_take {y p : Ln} : ∀ {ls : List Rat} {b pd : Rat} {k : Nat}, stR y p b pd (ls.take k) = (stR y p b pd ls).take k
  | [], _, _, k => by simp [stR_nil]
  | q :: r, b, pd, 0 => by simp [stR_nil]
  | q :: r, b, pd, k + 1 => by rw [List.take_succ_cons, stR_cons, stR_cons, List.take_succ_cons, stR_take]
theorem stR_0 {y p : Ln} {b pd : Rat} {ls : List Rat} : (stR y p b pd ls).map (fun r => r.1) = ls := by
  unfold stR
  exact List.map_fst_zip (by simp [risL_len, befL_len])
theorem stR_2 {y p : Ln} {b pd : Rat} {ls : List Rat} : (stR y p b pd ls).map (fun r => r.2.2.1) = risL y b ls := by
  unfold stR
  rw [show (fun r : R4 => r.2.2.1) = (fun r : Rat × Rat => r.1) ∘ (fun r : Rat × Rat × Rat => r.2) ∘ fun r : R4 => r.2 from rfl, ← List.map_map, ← List.map_map, List.map_snd_zip (by simp [risL_len, befL_len]), List.map_snd_zip (by simp [risL_len, befL_len]), List.map_fst_zip (by simp [risL_len])]
theorem stR_3 {y p : Ln} {b pd : Rat} {ls : List Rat} : (stR y p b pd ls).map (fun r => r.2.2.2) = risL p pd (risL y b ls) := by
  unfold stR
  rw [show (fun r : R4 => r.2.2.2) = (fun r : Rat × Rat => r.2) ∘ (fun r : Rat × Rat × Rat => r.2) ∘ fun r : R4 => r.2 from rfl, ← List.map_map, ← List.map_map, List.map_snd_zip (by simp [risL_len, befL_len]), List.map_snd_zip (by simp [risL_len, befL_len]), List.map_snd_zip (by simp [risL_len])]
def NL : Nat := 10000000000
def N1 : Nat := 12 * NL
def M1 : Nat := 40 * B1 420 N1 + 40 * B1 420 N1
def N2 : Nat := 12 * M1
def M2 : Nat := 40 * B1 25200 N2 + 40 * B1 25200 N2
theorem nums : N1 < 2 ^ 60 ∧ M1 < 2 ^ 60 ∧ N2 < 2 ^ 60 ∧ M2 < 2 ^ 80 ∧ NL < 2 ^ 60 := by decide +kernel
theorem numB : 40 * B1 420 N1 < 2 ^ 200 ∧ 40 * B1 25200 N2 < 2 ^ 200 := by decide +kernel
theorem bd70 {l : Ln} (h : LineOk l) {a q : Rat} (ha : Bd (6 * 420) N1 a) (hq : Bd (6 * 420) N1 q) : Bd (6 * 25200) M1 (V l a - V l q) := (V_bd ha h).sub (V_bd hq h)
abbrev Lay (ls : List Rat) : Prop := PartsOk 420 NL ls
theorem pays_ok {y : Ln} (h : LineOk y) {ls : List Rat} (hl : Lay ls) : PartsOk 25200 M1 (risL y 0 ls) := by
  refine ⟨fun q hq => ?_, by rw [risL_len]; exact hl.len⟩
  obtain ⟨z, hz, rfl⟩ := List.mem_map.mp hq
  have hm := List.of_mem_zip hz
  have b1 := befL_bd (A := 0) Bd.zero hl.bd z.1 hm.1
  -- the sum with this layer is one of the sums
  have hs : Bd (6 * 420) N1 (z.1 + z.2) := by
    obtain ⟨i, hi, e⟩ := List.mem_iff_getElem.mp hz
    have key : ∀ (ps : List Rat) (a : Rat) (A : Nat), Bd (6 * 420) A a → (∀ q ∈ ps, Bd (6 * 420) NL q) → ∀ z ∈ (befL a ps).zip ps, Bd (6 * 420) (A + ps.length * NL) (z.1 + z.2) := by
      intro ps
      induction ps with
      | nil => intro a A _ _ z hz; cases hz
      | cons p r ih =>
        intro a A ha hp z hz
        rw [List.length_cons, Nat.succ_mul r.length]
        rcases List.mem_cons.mp hz with rfl | hz
        · exact (ha.add (hp p List.mem_cons_self)).mono (by omega)
        · exact (ih (a + p) _ (ha.add (hp p List.mem_cons_self)) (fun q hq => hp q (List.mem_cons_of_mem _ hq)) z hz).mono (by omega)
    have := key ls 0 0 Bd.zero hl.bd z hz
    exact this.mono (by have : ls.length * NL ≤ 12 * NL := Nat.mul_le_mul_right _ hl.len; unfold N1; omega)
  exact bd70 h hs (b1.mono (by have : ls.length * NL ≤ 12 * NL := Nat.mul_le_mul_right _ hl.len; unfold N1; omega))
section
variable {y p : Ln} {ls : List Rat}
theorem r4_get (k : Nat) (hk : k < ls.length) : r4D ((stR y p 0 0 ls)[k]'(by rw [stR_len]; exact hk)) = .tup [am (ls[k]), am ((befL 0 ls)[k]'(by rw [befL_len]; exact hk)), am ((risL y 0 ls)[k]'(by rw [risL_len]; exact hk)), am ((risL p 0 (risL y 0 ls))[k]'(by rw [risL_len, risL_len]; exact hk))] := by
  simp [r4D, stR]
theorem statement_ok (hy : LineOk y) (hp : LineOk p) (hl : Lay ls) : (FU MM).call "statement" [.val (lnD y), .val (lnD p), .val (.tup (ls.map am))] = .ok (.val (.tup ((stR y p 0 0 ls).map r4D)), [.val (lnD y), .val (lnD p), .val (.tup (ls.map am))]) := by
  obtain ⟨m1, m2, m3, m4, m5⟩ := nums
  have h12 := hl.len
  have e1 := sb_tup hl (by omega) (by omega) (by omega)
  have e2 := ris_tup hy hl (by omega) (by omega) (by omega)
  have e3 := ris_own hp (pays_ok hy hl) (by omega) (by omega) (by omega)
  obtain ⟨ρ', ⟨o7, rfl, _⟩, e⟩ := for_rng (F := F38 MM) (N := MM) (S := S_statement_0) rfl (m := ls.length) (ρ := [some (.val (lnD y)), some (.val (lnD p)), some (.val (.tup (ls.map am))), some (.own false (.lst ((befL 0 ls).map am))), some (.val (.lst ((risL y 0 ls).map am))), some (.own false (.lst ((risL p 0 (risL y 0 ls)).map am))), some (.own false (.lst [])), none])
    (ρ1 := [some (.val (lnD y)), some (.val (lnD p)), some (.val (.tup (ls.map am))), some (.own false (.lst ((befL 0 ls).map am))), some (.val (.lst ((risL y 0 ls).map am))), some (.own false (.lst ((risL p 0 (risL y 0 ls)).map am))), some (.own false (.lst [])), none])
    (fun i ρ => ∃ o7 : Option S, ρ = [some (.val (lnD y)), some (.val (lnD p)), some (.val (.tup (ls.map am))), some (.own false (.lst ((befL 0 ls).map am))), some (.val (.lst ((risL y 0 ls).map am))), some (.own false (.lst ((risL p 0 (risL y 0 ls)).map am))), some (.own false (.lst (((stR y p 0 0 ls).take i).map r4D))), o7] ∧ gFree (some o7) = true)
    (evi_rng (by simp) (by omega)) ⟨none, rfl, rfl⟩
    (fun i ρ hi ⟨o7, e, ho⟩ => by
      subst e
      have h1 : i < (befL 0 ls).length := by rw [befL_len]; exact hi
      have h2 : i < (risL y 0 ls).length := by rw [risL_len]; exact hi
      have h3 : i < (risL p 0 (risL y 0 ls)).length := by rw [risL_len, risL_len]; exact hi
      have h4 : i < (stR y p 0 0 ls).length := by rw [stR_len]; exact hi
      have a0 := atI_mapG (g := am) (List.getElem?_eq_getElem hi)
      have a1 := atI_mapG (g := am) (List.getElem?_eq_getElem h1)
      have a2 := atI_mapG (g := am) (List.getElem?_eq_getElem h2)
      have a3 := atI_mapG (g := am) (List.getElem?_eq_getElem h3)
      have er := r4_get (y := y) (p := p) i hi
      have hz : min i (stR y p 0 0 ls).length < sizeLine := len_lt (by omega)
      have k4 : 4 ≤ sizeLine := by decide
      refine ⟨_, .inl ?_, some (.val (.int (i : Nat))), rfl, rfl⟩
      rw [List.take_succ, List.getElem?_eq_getElem h4, List.map_append]
      have er2 : List.map r4D (some ((stR y p 0 0 ls)[i])).toList = [_] := congrArg (fun z => [z]) er
      rw [er2]
      simp [turnX, B_statement_0, ho, a0, a1, a2, a3, hz, k4])
  rw [List.take_of_length_le (by rw [stR_len]; exact Nat.le_refl _)] at e
  rw [run_statement rfl]
  simp [b_statement, Dv.envOf, e1, e2, e3, e]
theorem lstatement_ok (hy : LineOk y) (hp : LineOk p) (hl : Lay ls) : (FU MM).call "_law_statement" [.val (lnD y), .val (lnD p), .val (.tup (ls.map am))] = .ok (.val (.tup ((stR y p 0 0 ls).map r4D)), [.val (lnD y), .val (lnD p), .val (.tup (ls.map am))]) := by
  obtain ⟨m1, m2, m3, m4, m5⟩ := nums
  have h12 := hl.len
  obtain ⟨ρ', ⟨rows, b, pd, o6, o7, o8, o9, rfl, hf, _⟩, e⟩ := for_val (F := F54 MM) (N := MM) (S := S__law_statement_0) rfl (d := .tup (ls.map am)) (xs := ls) (f := am) (ρ := [some (.val (lnD y)), some (.val (lnD p)), some (.val (.tup (ls.map am))), some (.own false (.lst [])), some (.val (am 0)), some (.val (am 0)), none, none, none, none])
    (ρ1 := [some (.val (lnD y)), some (.val (lnD p)), some (.val (.tup (ls.map am))), some (.own false (.lst [])), some (.val (am 0)), some (.val (am 0)), none, none, none, none])
    (fun i ρ => ∃ (rows : List R4) (b pd : Rat) (o6 o7 o8 o9 : Option S), ρ = [some (.val (lnD y)), some (.val (lnD p)), some (.val (.tup (ls.map am))), some (.own false (.lst (rows.map r4D))), some (.val (am b)), some (.val (am pd)), o6, o7, o8, o9] ∧ rows ++ stR y p b pd (ls.drop i) = stR y p 0 0 ls ∧ rows.length = i ∧
      Bd (6 * 420) (i * NL) b ∧ Bd (6 * 25200) (i * M1) pd ∧ gFree (some o6) = true ∧ gFree (some o7) = true ∧ gFree (some o8) = true ∧ gFree (some o9) = true)
    (by simp) ⟨[], 0, 0, none, none, none, none, rfl, rfl, rfl, Bd.zero, Bd.zero, rfl, rfl, rfl, rfl⟩
    (fun i q ρ hx ⟨rows, b, pd, o6, o7, o8, o9, e, hf, hr, hb, hpd, g6, g7, g8, g9⟩ => by
      subst e
      obtain ⟨hi, rfl⟩ := List.getElem?_eq_some_iff.mp hx
      have hq := hl.bd _ (List.getElem_mem hi)
      rw [List.drop_eq_getElem_cons hi, stR_cons] at hf
      have i1 : i * NL + NL ≤ 12 * NL := by have : (i + 1) * NL ≤ 12 * NL := Nat.mul_le_mul_right _ (by omega); rw [Nat.succ_mul i] at this; exact this
      have i2 : i * M1 + M1 ≤ 12 * M1 := by have : (i + 1) * M1 ≤ 12 * M1 := Nat.mul_le_mul_right _ (by omega); rw [Nat.succ_mul i] at this; exact this
      have n1 : 12 * NL = N1 := rfl
      have n2 : 12 * M1 = N2 := rfl
      have bN : Bd (6 * 420) N1 b := hb.mono (by omega)
      have aN : Bd (6 * 420) N1 (b + ls[i]) := (hb.add hq).mono (by omega)
      have payB := bd70 hy aN bN
      have pN : Bd (6 * 25200) N2 pd := hpd.mono (by omega)
      have qN : Bd (6 * 25200) N2 (pd + (V y (b + ls[i]) - V y b)) := (hpd.add payB).mono (by omega)
      have v1B := V_bd aN hy
      have v2B := V_bd bN hy
      have v3B := V_bd qN hp
      have v4B := V_bd pN hp
      have e1 := f__law_plus b ls[i] ((k200 bN (by omega) (by omega) (by omega)).ok (by decide)) ((k200 hq (by omega) (by omega) (by omega)).ok (by decide))
      have e2 := law_value_ok hy aN (by omega) (by omega) (by omega)
      have e3 := law_value_ok hy bN (by omega) (by omega) (by omega)
      have e4 := f__law_minus _ _ ((k200 v1B (by omega) (by omega) numB.1).ok (by decide)) ((k200 v2B (by omega) (by omega) numB.1).ok (by decide))
      have e5 := f__law_plus pd _ ((k200 pN (by omega) (by omega) (by omega)).ok (by decide)) ((k200 payB (by omega) (by omega) (by omega)).ok (by decide))
      have e6 := law_value_ok hp qN (by omega) (by omega) (by omega)
      have e7 := law_value_ok hp pN (by omega) (by omega) (by omega)
      have e8 := f__law_minus _ _ ((k200 v3B (by omega) (by omega) numB.2).ok (by decide)) ((k200 v4B (by omega) (by omega) numB.2).ok (by decide))
      have hz : rows.length < sizeLine := len_lt (by omega)
      have k4 : 4 ≤ sizeLine := by decide
      refine ⟨[some (.val (lnD y)), some (.val (lnD p)), some (.val (.tup (ls.map am))), some (.own false (.lst ((rows ++ [(ls[i], b, V y (b + ls[i]) - V y b, V p (pd + (V y (b + ls[i]) - V y b)) - V p pd)]).map r4D))), some (.val (am (b + ls[i]))), some (.val (am (pd + (V y (b + ls[i]) - V y b)))), some (.val (am ls[i])), some (.val (am (b + ls[i]))), some (.val (am (V y (b + ls[i]) - V y b))), some (.val (am (V p (pd + (V y (b + ls[i]) - V y b)) - V p pd)))],
        .inl ?_, _, _, _, _, _, _, _, rfl, by rw [← hf]; simp, by simp [hr], ?_, ?_, rfl, rfl, rfl, rfl⟩
      · simp [turnX, B__law_statement_0, g6, g7, g8, g9, e1, e2, e3, e4, e5, e6, e7, e8, hz, k4, r4D]
      · rw [Nat.succ_mul i]; exact hb.add hq
      · rw [Nat.succ_mul i]; exact hpd.add payB)
  rw [List.drop_length, stR_nil, List.append_nil] at hf
  subst hf
  have k2 : 2 ≤ sizeLine := by decide
  rw [run__law_statement rfl]
  simp [b__law_statement, Dv.envOf, k2, e]
end
end Wk14

set_option Elab.async false
set_option linter.all false
set_option maxRecDepth 100000
set_option maxHeartbeats 4000000
namespace Wk14
open PySem PySem.Spec PyProof.Rows L2 Dv
section
variable {y p : Ln} {ls : List Rat}
theorem tot_loop {F : Fn} {S : Sx} {B : Sxs} {f : Str} {s : Dv.S} {qs : List Rat} {L M : Nat} {pp : P} {o : Option Nat} {sl : Dv.S} (hS : S = .for_ (.nm 2) (.seq (.var 0)) B) (hB : B = (.cons (.set 1 (.call f (.cons (.var 1) (.cons (.var 2) .nil)))) .nil))
    (hF : ∀ a b : Rat, Ok a → Ok b → F.call f [.val (am a), .val (am b)] = .ok (.val (am (a + b)), [.val (am a), .val (am b)])) (hdfl : ∀ n, F.dfl f n = []) (hq : ∀ q ∈ qs, Bd L M q) (hl : qs.length ≤ 12) (h0 : 0 < L) (h1 : L < 2 ^ 100) (h2 : M < 2 ^ 190)
    (hi : evi F (.seq (.var 0)) [some s, some (.val (am 0)), none] = .ok ((qs.map am, pp), [some s, some (.val (am 0)), none])) (hlk : ∀ rest, lockP pp (some s :: rest) = (o, some sl :: rest)) (hun : ∀ rest, unlock o (some sl :: rest) = .ok (some s :: rest)) :
    ∃ o2 : Option Dv.S, Dv.ex F MM S [some s, some (.val (am 0)), none] = .ok (.nx, [some s, some (.val (am (sm 0 qs))), o2]) := by
  obtain ⟨ρ', ⟨r, o2, rfl, hf, hr, _⟩, e⟩ := for_st (F := F) (N := MM) (tg := .nm 2) (b := B) (xs := qs) (f := am)
    (fun i ρ => ∃ (r : Rat) (o2 : Option Dv.S), ρ = [some sl, some (.val (am r)), o2] ∧ sm r (qs.drop i) = sm 0 qs ∧ Bd L (i * M) r ∧ gFree (some o2) = true)
    hi ⟨0, none, by rw [hlk], rfl, Bd.zero, rfl⟩
    (fun i q ρ hx ⟨r, o2, e, hf, hr, ho⟩ => by
      subst e
      obtain ⟨hi, rfl⟩ := List.getElem?_eq_some_iff.mp hx
      have hqi := hq _ (List.getElem_mem hi)
      rw [List.drop_eq_getElem_cons hi, sm] at hf
      have b1 : i * M ≤ 12 * M := Nat.mul_le_mul_right _ (by omega)
      have e1 := hF r qs[i] ((k200 hr h0 h1 (by omega)).ok (by decide)) ((k200 hqi h0 h1 (by omega)).ok (by decide))
      refine ⟨[some sl, some (.val (am (r + qs[i]))), some (.val (am qs[i]))], .inl ?_, _, _, rfl, hf, ?_, rfl⟩
      · subst hB
        simp [turnX, ho, e1, hdfl]
      · rw [Nat.succ_mul i]
        exact hr.add hqi)
  rw [List.drop_length, sm] at hf
  subst hf
  subst hS
  refine ⟨o2, e.trans ?_⟩
  rw [hlk, hun]
  rfl
theorem total_ok {qs : List Rat} {L M : Nat} (hq : ∀ q ∈ qs, Bd L M q) (hl : qs.length ≤ 12) (h0 : 0 < L) (h1 : L < 2 ^ 100) (h2 : M < 2 ^ 190) : (FU MM).call "total" [.own (.lst (qs.map am))] = .ok (.val (am (sm 0 qs)), [.own (.lst (qs.map am))]) := by
  obtain ⟨o2, e⟩ := tot_loop (F := F39 MM) (S := S_total_0) (s := .own true (.lst (qs.map am))) (sl := .lck true (.lst (qs.map am))) (pp := .at_ 0) (o := some 0) rfl rfl (by rw [up39_plus]; exact f_plus) (fun n => dfl39_plus n) hq hl h0 h1 h2 (by simp) (fun _ => by simp) (fun _ => by simp)
  rw [run_total rfl]
  simp [b_total, Dv.envOf, e]
theorem ltotal_ok {qs : List Rat} {L M : Nat} (hq : ∀ q ∈ qs, Bd L M q) (hl : qs.length ≤ 12) (h0 : 0 < L) (h1 : L < 2 ^ 100) (h2 : M < 2 ^ 190) : (FU MM).call "_law_total" [.val (.tup (qs.map am))] = .ok (.val (am (sm 0 qs)), [.val (.tup (qs.map am))]) := by
  obtain ⟨o2, e⟩ := tot_loop (F := F42 MM) (S := S__law_total_0) (s := .val (.tup (qs.map am))) (sl := .val (.tup (qs.map am))) (pp := .val (.tup (qs.map am))) (o := none) rfl rfl (by rw [up42__law_plus]; exact f__law_plus) (fun n => dfl42__law_plus n) hq hl h0 h1 h2 (by simp) (fun _ => rfl) (fun _ => rfl)
  have k2 : 2 ≤ sizeLine := by decide
  rw [run__law_total rfl]
  simp [b__law_total, Dv.envOf, k2, e]
theorem part_ok {rows : List R4} {num : Int} {f : R4 → Rat} {L M : Nat} (hf : ∀ r, dIdx (r4D r) (.int num) = .ok (am (f r))) (hq : ∀ q ∈ rows.map f, Bd L M q) (hl : rows.length ≤ 12) (h0 : 0 < L) (h1 : L < 2 ^ 100) (h2 : M < 2 ^ 190) :
    (FU MM).call "sum_of_parts" [.val (.tup (rows.map r4D)), .val (.int num)] = .ok (.val (am (sm 0 (rows.map f))), [.val (.tup (rows.map r4D)), .val (.int num)]) := by
  have e1 := total_ok hq (by simpa using hl) h0 h1 h2
  rw [List.map_map] at e1
  have c : ev (F40 MM) C_sum_of_parts_0 [some (.val (.tup (rows.map r4D))), some (.val (.int num)), none] = .ok (.own (.lst (rows.map (am ∘ f))), [some (.val (.tup (rows.map r4D))), some (.val (.int num)), none]) :=
    comp_mapE (xs := rows) (f := r4D) (g := am ∘ f) (ρ1 := [some (.val (.tup (rows.map r4D))), some (.val (.int num)), none]) (ρw := [some (.val (.tup (rows.map r4D))), some (.val (.int num)), none]) (p := .val (.tup (rows.map r4D)))
      (by simp) (by simp) (len_lt (by omega)) (fun r _ => by simp [turnW, turnR, E_sum_of_parts_0, hf]) (fun out => by simp [compEnd])
  rw [run_sum_of_parts rfl]
  generalize rows.map (am ∘ f) = w at *
  simp [b_sum_of_parts, Dv.envOf, c, e1]
theorem ris_bd {c M : Nat} {l : Ln} {ps : List Rat} (h : LineOk l) (hp : PartsOk c M ps) : ∀ q ∈ risL l 0 ps, Bd (60 * (6 * c)) (40 * B1 c (12 * M) + 40 * B1 c (12 * M)) q := fun q hq => by
  obtain ⟨z, hz, rfl⟩ := List.mem_map.mp hq
  have hm := List.of_mem_zip hz
  have b1 := befL_bd (A := 0) Bd.zero hp.bd z.1 hm.1
  have ln : ps.length * M ≤ 12 * M := Nat.mul_le_mul_right _ hp.len
  have key : ∀ (ps : List Rat) (a : Rat) (A : Nat), Bd (6 * c) A a → (∀ q ∈ ps, Bd (6 * c) M q) → ∀ z ∈ (befL a ps).zip ps, Bd (6 * c) (A + ps.length * M) (z.1 + z.2) := by
    intro ps
    induction ps with
    | nil => intro a A _ _ z hz; cases hz
    | cons p r ih =>
      intro a A ha hp z hz
      rw [List.length_cons, Nat.succ_mul r.length]
      rcases List.mem_cons.mp hz with rfl | hz
      · exact (ha.add (hp p List.mem_cons_self)).mono (by omega)
      · exact (ih (a + p) _ (ha.add (hp p List.mem_cons_self)) (fun q hq => hp q (List.mem_cons_of_mem _ hq)) z hz).mono (by omega)
  have hs := key ps 0 0 Bd.zero hp.bd z hz
  exact (V_bd (hs.mono (by omega)) h).sub (V_bd (b1.mono (by omega)) h)
theorem numM : M2 = 40 * B1 25200 (12 * M1) + 40 * B1 25200 (12 * M1) := rfl
theorem rows_ok (hy : LineOk y) (hp : LineOk p) (hl : Lay ls) : ∀ r ∈ stR y p 0 0 ls, Bd (6 * 420) N1 r.1 ∧ Bd (6 * 420) N1 r.2.1 ∧ Bd (6 * 25200) M1 r.2.2.1 ∧ Bd (60 * (6 * 25200)) M2 r.2.2.2 := fun r hr => by
  have ln : ls.length * NL ≤ 12 * NL := Nat.mul_le_mul_right _ hl.len
  have n1 : 12 * NL = N1 := rfl
  have a1 := List.of_mem_zip hr
  have a2 := List.of_mem_zip a1.2
  have a3 := List.of_mem_zip a2.2
  exact ⟨(hl.bd _ a1.1).mono (by omega), (befL_bd (A := 0) Bd.zero hl.bd _ a2.1).mono (by omega), (pays_ok hy hl).bd _ a3.1, ris_bd hp (pays_ok hy hl) _ a3.2⟩
/-- the sums -/
def toD (y p : Ln) (ls : List Rat) : D := .tup [am (sm 0 ls), am (V y (sm 0 ls)), am (V p (V y (sm 0 ls)))]
theorem sums_eq (hy : LineOk y) (hp : LineOk p) : sm 0 (risL y 0 ls) = V y (sm 0 ls) ∧ sm 0 (risL p 0 (risL y 0 ls)) = V p (V y (sm 0 ls)) := by
  have e1 : sm 0 (risL y 0 ls) = V y (sm 0 ls) := by
    rw [tele, V_zero hy]
    grind
  refine ⟨e1, ?_⟩
  rw [tele, V_zero hp, e1]
  grind
theorem totals_ok (hy : LineOk y) (hp : LineOk p) (hl : Lay ls) : (FU MM).call "totals" [.val (lnD y), .val (lnD p), .val (.tup (ls.map am))] = .ok (.val (toD y p ls), [.val (lnD y), .val (lnD p), .val (.tup (ls.map am))]) := by
  obtain ⟨m1, m2, m3, m4, m5⟩ := nums
  have hr := rows_ok hy hp hl
  have e0 := statement_ok hy hp hl
  have h12 := hl.len
  have rl : (stR y p 0 0 ls).length ≤ 12 := by rw [stR_len]; exact h12
  have e1 := part_ok (rows := stR y p 0 0 ls) (num := 0) (f := fun r => r.1) (fun r => by simp [r4D]) (fun q hq => by obtain ⟨r, h, rfl⟩ := List.mem_map.mp hq; exact (hr r h).1) rl (by omega) (by omega) (by omega)
  have e2 := part_ok (rows := stR y p 0 0 ls) (num := 2) (f := fun r => r.2.2.1) (fun r => by simp [r4D]) (fun q hq => by obtain ⟨r, h, rfl⟩ := List.mem_map.mp hq; exact (hr r h).2.2.1) rl (by omega) (by omega) (by omega)
  have e3 := part_ok (rows := stR y p 0 0 ls) (num := 3) (f := fun r => r.2.2.2) (fun r => by simp [r4D]) (fun q hq => by obtain ⟨r, h, rfl⟩ := List.mem_map.mp hq; exact (hr r h).2.2.2) rl (by omega) (by omega) (by omega)
  rw [stR_0] at e1
  rw [stR_2, (sums_eq hy hp).1] at e2
  rw [stR_3, (sums_eq hy hp).2] at e3
  have k3 : 3 ≤ sizeLine := by decide
  rw [run_totals rfl]
  simp [b_totals, Dv.envOf, e0, e1, e2, e3, k3, toD]
end
end Wk14

set_option Elab.async false
set_option linter.all false
set_option maxRecDepth 100000
set_option maxHeartbeats 4000000
namespace Wk14
open PySem PySem.Spec PyProof.Rows L2 Dv
theorem gap_ok {n : Nat} {d : D} (hd : DS n d) (hn : n < 2 ^ 50) : ∃ q d', (FU MM).call "_law_gap" [.own d] = .ok (.val (am q), [.own d']) ∧ Bd 6 144 q ∧ 0 < q ∧ DS (n + 2) d' := by
  obtain ⟨r, d1, e1, h1, hd1⟩ := f__law_draw (m := 5) hd (by omega) (by omega) (by omega)
  obtain ⟨s, d2, e2, h2, hd2⟩ := f__law_draw (m := 24) hd1 (by omega) (by omega) (by omega)
  rw [run__law_gap rfl]
  have key : ∀ u c : Int, 0 < u → u < 4 → 0 ≤ c → c ≤ 6 → 6 = u * c → Bd 6 144 (Rat.divInt (1 + (s : Int)) u) ∧ 0 < Rat.divInt (1 + (s : Int)) u := fun u c h0 h1 h3 h4 h5 =>
    ⟨Bd.divInt c (by omega) h5 (by
      rw [Int.natAbs_mul]
      exact (show _ ≤ 24 * 6 from Nat.mul_le_mul (by omega) (by omega))), divInt_pos (by omega) h0⟩
  have am' : ∀ u : Int, 0 < u → u < 4 → (FU MM).call "_law_amount" [.val (.int (1 + (s : Int))), .val (.int u)] = .ok (.val (am (Rat.divInt (1 + (s : Int)) u)), [.val (.int (1 + (s : Int))), .val (.int u)]) := fun u h0 h1 => f__law_amount _ _ (by omega) (oC_big (by omega))
  have k5 : 5 ≤ sizeLine := by decide
  have a1 := am' 1 (by omega) (by omega)
  have a2 := am' 2 (by omega) (by omega)
  have a3 := am' 3 (by omega) (by omega)
  rcases (by omega : r = 0 ∨ r = 1 ∨ r = 2 ∨ r = 3 ∨ r = 4) with rfl | rfl | rfl | rfl | rfl
  · exact ⟨_, d2, by simp [b__law_gap, Dv.envOf, e1, e2, k5, a1], (key 1 6 (by omega) (by omega) (by omega) (by omega) (by omega)).1, (key 1 6 (by omega) (by omega) (by omega) (by omega) (by omega)).2, hd2⟩
  · exact ⟨_, d2, by simp [b__law_gap, Dv.envOf, e1, e2, k5, a1], (key 1 6 (by omega) (by omega) (by omega) (by omega) (by omega)).1, (key 1 6 (by omega) (by omega) (by omega) (by omega) (by omega)).2, hd2⟩
  · exact ⟨_, d2, by simp [b__law_gap, Dv.envOf, e1, e2, k5, a1], (key 1 6 (by omega) (by omega) (by omega) (by omega) (by omega)).1, (key 1 6 (by omega) (by omega) (by omega) (by omega) (by omega)).2, hd2⟩
  · exact ⟨_, d2, by simp [b__law_gap, Dv.envOf, e1, e2, k5, a2], (key 2 3 (by omega) (by omega) (by omega) (by omega) (by omega)).1, (key 2 3 (by omega) (by omega) (by omega) (by omega) (by omega)).2, hd2⟩
  · exact ⟨_, d2, by simp [b__law_gap, Dv.envOf, e1, e2, k5, a3], (key 3 2 (by omega) (by omega) (by omega) (by omega) (by omega)).1, (key 3 2 (by omega) (by omega) (by omega) (by omega) (by omega)).2, hd2⟩

theorem part_drawn {n : Nat} {d : D} (hd : DS n d) (hn : n < 2 ^ 50) : ∃ q d', (FU MM).call "_law_part" [.own d] = .ok (.val (am q), [.own d']) ∧ Bd 60 60 q ∧ 0 < q ∧ DS (n + 2) d' := by
  obtain ⟨r, d1, e1, h1, hd1⟩ := f__law_draw (m := 7) hd (by omega) (by omega) (by omega)
  rw [run__law_part rfl]
  have k7 : 7 ≤ sizeLine := by decide
  have go : ∀ u c : Int, 0 < u → u < 7 → 0 ≤ c → ((60 : Nat) : Int) = u * c → atI [D.int 1, .int 2, .int 2, .int 3, .int 4, .int 5, .int 6] (r : Int) = some (.int u) → ∃ q d', runDef (F6 MM) MM 2 b__law_part [.own d] = .ok (.val (am q), [.own d']) ∧ Bd 60 60 q ∧ 0 < q ∧ DS (n + 2) d' := fun u c u0 u1 c0 hc ha => by
    obtain ⟨s, d2, e2, h2, hd2⟩ := f__law_draw (m := u) hd1 (by omega) u0 (by omega)
    have e3 := f__law_amount (1 + (s : Int)) u (by omega) (oC_big (by omega))
    refine ⟨Rat.divInt (1 + (s : Int)) u, d2, by simp [b__law_part, Dv.envOf, e1, k7, ha, e2, e3], Bd.divInt c (by omega) hc ?_, divInt_pos (by omega) u0, hd2⟩
    have h3 : (1 + (s : Int)) * c ≤ u * c := Int.mul_le_mul_of_nonneg_right (by omega) c0
    have h4 : 0 ≤ (1 + (s : Int)) * c := Int.mul_nonneg (by omega) c0
    omega
  have at_ : ∀ k : Nat, (h : k < 7) → r = k → atI [D.int 1, .int 2, .int 2, .int 3, .int 4, .int 5, .int 6] (r : Int) = some ([D.int 1, .int 2, .int 2, .int 3, .int 4, .int 5, .int 6][k]'h) := fun k h e => by
    subst e
    exact atI_get (l := [D.int 1, .int 2, .int 2, .int 3, .int 4, .int 5, .int 6]) h
  rcases (by omega : r = 0 ∨ r = 1 ∨ r = 2 ∨ r = 3 ∨ r = 4 ∨ r = 5 ∨ r = 6) with h | h | h | h | h | h | h
  · exact go 1 60 (by omega) (by omega) (by omega) (by omega) (at_ 0 (by omega) h)
  · exact go 2 30 (by omega) (by omega) (by omega) (by omega) (at_ 1 (by omega) h)
  · exact go 2 30 (by omega) (by omega) (by omega) (by omega) (at_ 2 (by omega) h)
  · exact go 3 20 (by omega) (by omega) (by omega) (by omega) (at_ 3 (by omega) h)
  · exact go 4 15 (by omega) (by omega) (by omega) (by omega) (at_ 4 (by omega) h)
  · exact go 5 12 (by omega) (by omega) (by omega) (by omega) (at_ 5 (by omega) h)
  · exact go 6 10 (by omega) (by omega) (by omega) (by omega) (at_ 6 (by omega) h)
/-- ascending, not too large -/
structure Asc (l : List Rat) : Prop where
  bd : ∀ q ∈ l, Bd 6 2000 q ∧ 0 ≤ q
  asc : l.Pairwise (· < ·)
theorem Asc.snoc {l : List Rat} {q : Rat} (h : Asc l) (hq : Bd 6 2000 q) (h0 : 0 ≤ q) (hl : ∀ p ∈ l, p < q) : Asc (l ++ [q]) :=
  ⟨fun p hp => by
    rcases List.mem_append.mp hp with hp | hp
    · exact h.bd p hp
    · simp at hp; subst hp; exact ⟨hq, h0⟩, List.pairwise_append.mpr ⟨h.asc, List.pairwise_singleton _ _, fun a ha b hb => by simp at hb; subst hb; exact hl a ha⟩⟩
theorem ends_ok {n many : Nat} {d : D} (hd : DS n d) (hn : n < 2 ^ 45) (hm : many ≤ 5) : ∃ (l : List Rat) (d' : D), (FU MM).call "_law_ends" [.own d, .val (.int (many : Nat))] = .ok (.own (.lst (l.map am)), [.own d', .val (.int (many : Nat))]) ∧ Asc l ∧ l.length = many ∧ DS (n + 20) d' := by
  obtain ⟨r, d1, e1, h1, hd1⟩ := f__law_draw (m := 2) hd (by omega) (by omega) (by omega)
  have loop : ∀ (a0 : Rat) (d : D), DS (n + 3) d → Bd 6 144 a0 → 0 ≤ a0 → ∃ (l : List Rat) (d' : D) (at_ : Rat) (o : Option S), Dv.ex (F50 MM) MM S__law_ends_0 [some (.own true d), some (.val (.int (many : Nat))), some (.val (am a0)), some (.own false (.lst [])), none] = .ok (.nx, [some (.own true d'), some (.val (.int (many : Nat))), some (.val (am at_)), some (.own false (.lst (l.map am))), o]) ∧ Asc l ∧ l.length = many ∧ DS (n + 3 + 2 * many) d' := fun a0 d hd ha h0 => by
    obtain ⟨ρ', ⟨l, d', at_, o, rfl, hA, hll, hat, h0, hlt, hd', _⟩, e⟩ := for_rng (F := F50 MM) (N := MM) (S := S__law_ends_0) rfl (m := many) (ρ := [some (.own true d), some (.val (.int (many : Nat))), some (.val (am a0)), some (.own false (.lst [])), none])
      (ρ1 := [some (.own true d), some (.val (.int (many : Nat))), some (.val (am a0)), some (.own false (.lst [])), none])
      (fun i ρ => ∃ (l : List Rat) (d' : D) (at_ : Rat) (o : Option S), ρ = [some (.own true d'), some (.val (.int (many : Nat))), some (.val (am at_)), some (.own false (.lst (l.map am))), o] ∧ Asc l ∧ l.length = i ∧ Bd 6 (144 + 144 * i) at_ ∧ 0 ≤ at_ ∧ (∀ p ∈ l, p < at_) ∧ DS (n + 3 + 2 * i) d' ∧ gFree (some o) = true)
      (evi_rng (by simp) (by omega)) ⟨[], d, a0, none, rfl, ⟨fun q h => (List.not_mem_nil h).elim, List.Pairwise.nil⟩, rfl, ha, h0, fun q h => (List.not_mem_nil h).elim, hd, rfl⟩
      (fun i ρ hi ⟨l, d', at_, o, e, hA, hll, hat, h0, hlt, hd', ho⟩ => by
        subst e
        obtain ⟨q, d2, e2, hq, hp, hd2⟩ := gap_ok hd' (by omega)
        have e3 := f__law_plus at_ q ((hat.k60 (by omega) (by omega) (by omega)).ok60) ((hq.k60 (by omega) (by omega) (by omega)).ok60)
        have hz : l.length < sizeLine := len_lt (by omega)
        refine ⟨[some (.own true d2), some (.val (.int (many : Nat))), some (.val (am (at_ + q))), some (.own false (.lst ((l ++ [at_]).map am))), some (.val (.int (i : Nat)))], .inl ?_, l ++ [at_], d2, at_ + q, _, rfl, hA.snoc (hat.mono (by omega)) h0 hlt, by simp [hll], (hat.add hq).mono (by omega), by grind, fun p hp' => ?_, hd2.mono (by omega), rfl⟩
        · simp [turnX, B__law_ends_0, ho, e2, e3, hz]
        · rcases List.mem_append.mp hp' with h | h
          · have := hlt p h
            grind
          · simp at h
            subst h
            grind)
    exact ⟨l, d', at_, o, e, hA, hll, hd'⟩
  have k2 : 2 ≤ sizeLine := by decide
  rw [run__law_ends rfl]
  by_cases hr : r = 0
  · subst hr
    obtain ⟨q, d2, e2, hq, hp, hd2⟩ := gap_ok hd1 (by omega)
    obtain ⟨l, d3, at_, o, e3, hA, hl, hd3⟩ := loop q d2 hd2 hq (Rat.le_of_lt hp)
    exact ⟨l, d3, by simp [b__law_ends, Dv.envOf, k2, e1, e2, e3], hA, hl, hd3.mono (by omega)⟩
  · obtain ⟨l, d3, at_, o, e3, hA, hl, hd3⟩ := loop 0 d1 (hd1.mono (by omega)) Bd.zero Rat.le_refl
    exact ⟨l, d3, by simp [b__law_ends, Dv.envOf, k2, e1, hr, e3], hA, hl, hd3.mono (by omega)⟩
theorem normal_ok {l : Ln} (hl : l.length < 1000) : ∃ l' : Ln, (FU MM).call "_law_normal" [.own (.lst (l.map prD))] = .ok (.val (lnD l'), [.own (.lst (l.map prD))]) ∧ l'.Sublist l := by
  obtain ⟨ρ', ⟨f, last, o, rfl, hs, _⟩, e⟩ := for_slot (F := F51 MM) (N := MM) (S := S__law_normal_0) rfl (xs := l) (f := prD) (j := 0) (o := some 0) (ρ := [some (.own true (.lst (l.map prD))), some (.own false (.lst [])), some (.val (am 0)), none])
    (ρ1 := [some (.own true (.lst (l.map prD))), some (.own false (.lst [])), some (.val (am 0)), none]) (ρl := [some (.lck true (.lst (l.map prD))), some (.own false (.lst [])), some (.val (am 0)), none])
    (fun i ρ => ∃ (f : Ln) (last : Rat) (o : Option S), ρ = [some (.lck true (.lst (l.map prD))), some (.own false (.lst (f.map prD))), some (.val (am last)), o] ∧ f.Sublist (l.take i) ∧ gFree (some o) = true)
    (by simp) (by simp) ⟨[], 0, none, rfl, by simp, rfl⟩
    (fun i p ρ hx ⟨f, last, o, e, hs, ho⟩ => by
      subst e
      have q1 := ne_nice (k := 1) (d := am p.2) (e := am last) nice_am nice_am (by decide)
      have hi := (List.getElem?_eq_some_iff.mp hx).1
      have hf := hs.length_le
      rw [List.length_take] at hf
      have hz : f.length < sizeLine := len_lt (by omega)
      have k2 : 2 ≤ sizeLine := by decide
      have ht : l.take (i + 1) = l.take i ++ [p] := by rw [List.take_succ, hx]; rfl
      by_cases hc : p.2 = last
      · rw [decide_eq_true (am_inj.mpr hc)] at q1
        simp only [Bool.not_true] at q1
        refine ⟨[some (.lck true (.lst (l.map prD))), some (.own false (.lst (f.map prD))), some (.val (am last)), some (.val (prD p))], .inl ?_, f, last, _, rfl, by rw [ht]; exact hs.trans (List.sublist_append_left _ _), rfl⟩
        simp [turnX, B__law_normal_0, ho, -c37_dCmp, q1]
      · rw [decide_eq_false (fun z => hc (am_inj.mp z))] at q1
        simp only [Bool.not_false] at q1
        refine ⟨[some (.lck true (.lst (l.map prD))), some (.own false (.lst ((f ++ [p]).map prD))), some (.val (am p.2)), some (.val (prD p))], .inl ?_, f ++ [p], p.2, _, rfl, by rw [ht]; exact hs.append (List.Sublist.refl _), rfl⟩
        have hpr : prD p = .tup [am p.1, am p.2] := rfl
        simp [turnX, B__law_normal_0, ho, -c37_dCmp, q1, hz, k2, ← hpr])
  rw [List.take_length] at hs
  refine ⟨f, ?_, hs⟩
  have k2 : 2 ≤ sizeLine := by decide
  rw [run__law_normal rfl]
  simp [b__law_normal, Dv.envOf, k2, e, lnD]
theorem LineOk.of {l l' : Ln} (hA : Asc (l.map (·.1))) (hs : ∀ p ∈ l, Bd 60 60 p.2) (hl : l.length ≤ 40) (h : l'.Sublist l) : LineOk l' := by
  refine ⟨fun p hp => ?_, ?_, Nat.le_trans h.length_le hl⟩
  · have hp := h.subset hp
    have := hA.bd p.1 (List.mem_map.mpr ⟨p, hp, rfl⟩)
    exact ⟨this.1, hs p hp, this.2⟩
  · exact List.Pairwise.sublist h (List.pairwise_map.mp hA.asc)
theorem line_ok {n many : Nat} {d : D} (hd : DS n d) (hn : n < 2 ^ 44) (hm : many ≤ 5) : ∃ (l : Ln) (d' : D), (FU MM).call "_law_line" [.own d, .val (.int (many : Nat))] = .ok (.val (lnD l), [.own d', .val (.int (many : Nat))]) ∧ LineOk l ∧ DS (n + 60) d' := by
  obtain ⟨as, d1, e1, hA, hl, hd1⟩ := ends_ok hd (by omega) hm
  obtain ⟨ρ', ⟨l, d2, o3, o4, rfl, hm1, hs, hd2, _⟩, e⟩ := for_new (F := F52 MM) (N := MM) (S := S__law_line_0) rfl (xs := as) (f := am) (d := .lst (as.map am)) (ρ := [some (.own true d), some (.val (.int (many : Nat))), some (.own false (.lst [])), none, none])
    (ρ1 := [some (.own true d1), some (.val (.int (many : Nat))), some (.own false (.lst [])), none, none])
    (fun i ρ => ∃ (l : Ln) (d' : D) (o3 o4 : Option S), ρ = [some (.own true d'), some (.val (.int (many : Nat))), some (.own false (.lst (l.map prD))), o3, o4] ∧ l.map (·.1) = as.take i ∧ (∀ p ∈ l, Bd 60 60 p.2) ∧ DS (n + 20 + 5 * i) d' ∧ gFree (some o3) = true ∧ gFree (some o4) = true)
    (by simp [e1]) ⟨[], d1, none, none, rfl, rfl, fun p h => (List.not_mem_nil h).elim, hd1, rfl, rfl⟩
    (fun i a ρ hx ⟨l, d', o3, o4, e, hm1, hs, hd', g3, g4⟩ => by
      subst e
      have hi := (List.getElem?_eq_some_iff.mp hx).1
      obtain ⟨q1, d3, e3, hq1, _, hd3⟩ := part_drawn hd' (by omega)
      obtain ⟨q2, d4, e4, hq2, _, hd4⟩ := part_drawn hd3 (by omega)
      obtain ⟨r, d5, e5, h5, hd5⟩ := f__law_draw (m := 4) hd4 (by omega) (by omega) (by omega)
      have hll : l.length ≤ i := by
        have := congrArg List.length hm1
        rw [List.length_map, List.length_take] at this
        omega
      have hz : l.length < sizeLine := len_lt (by omega)
      have k2 : 2 ≤ sizeLine := by decide
      have k4 : 4 ≤ sizeLine := by decide
      have go : ∀ s : Rat, Bd 60 60 s → atI [am 0, am 1, am q1, am q2] (r : Int) = some (am s) → ∃ ρ', (turnX (F52 MM) MM (.nm 3) B__law_line_0 (am a) [some (.own true d'), some (.val (.int (many : Nat))), some (.own false (.lst (l.map prD))), o3, o4] = .ok (.nx, ρ') ∨
          turnX (F52 MM) MM (.nm 3) B__law_line_0 (am a) [some (.own true d'), some (.val (.int (many : Nat))), some (.own false (.lst (l.map prD))), o3, o4] = .ok (.ct, ρ')) ∧ ∃ (l : Ln) (d' : D) (o3 o4 : Option S), ρ' = [some (.own true d'), some (.val (.int (many : Nat))), some (.own false (.lst (l.map prD))), o3, o4] ∧
          l.map (·.1) = as.take (i + 1) ∧ (∀ p ∈ l, Bd 60 60 p.2) ∧ DS (n + 20 + 5 * (i + 1)) d' ∧ gFree (some o3) = true ∧ gFree (some o4) = true := fun s hsb ha => by
        refine ⟨[some (.own true d5), some (.val (.int (many : Nat))), some (.own false (.lst ((l ++ [(a, s)]).map prD))), some (.val (am a)), some (.val (am s))], .inl ?_, l ++ [(a, s)], d5, _, _, rfl, ?_, fun p hp => ?_, hd5.mono (by omega), rfl, rfl⟩
        · simp [turnX, B__law_line_0, g3, g4, e3, e4, e5, k2, k4, ha, hz, prD]
        · rw [List.map_append, hm1, List.take_succ, hx]
          rfl
        · rcases List.mem_append.mp hp with h | h
          · exact hs p h
          · simp at h; subst h; exact hsb
      rcases (by omega : r = 0 ∨ r = 1 ∨ r = 2 ∨ r = 3) with h | h | h | h
      · subst h; exact go 0 Bd.zero (atI_get (l := [am 0, am 1, am q1, am q2]) (k := 0) (by simp))
      · subst h; exact go 1 (Bd.int (i := 1) (by omega)) (atI_get (l := [am 0, am 1, am q1, am q2]) (k := 1) (by simp))
      · subst h; exact go q1 hq1 (atI_get (l := [am 0, am 1, am q1, am q2]) (k := 2) (by simp))
      · subst h; exact go q2 hq2 (atI_get (l := [am 0, am 1, am q1, am q2]) (k := 3) (by simp)))
  rw [List.take_length] at hm1
  have hll : l.length = as.length := by
    have := congrArg List.length hm1
    rw [List.length_map] at this
    exact this
  obtain ⟨l', e2, hsub⟩ := normal_ok (l := l) (by omega)
  refine ⟨l', d2, ?_, LineOk.of (by rw [hm1]; exact hA) hs (by omega) hsub, hd2.mono (by omega)⟩
  rw [run__law_line rfl]
  simp [b__law_line, Dv.envOf, e, e2]
end Wk14

set_option Elab.async false
set_option linter.all false
set_option maxRecDepth 100000
set_option maxHeartbeats 4000000
namespace Wk14
open PySem PySem.Spec PyProof.Rows L2 Dv
/-- the smaller one -/
def mn (a b : Rat) : Rat := if b < a then b else a
def yL (A : Rat) : Ln := [(0, 1), (A, 0)]
def pL (many : Nat) (rate Bk : Rat) : Ln := if many = 0 ∨ rate = 0 then [] else [(0, rate), (Bk, 0)]
theorem vY {A x : Rat} (h0 : 0 ≤ x) (hA : 0 < A) : V (yL A) x = mn x A := by
  simp only [V, yL, vF, mn]
  by_cases h1 : 0 < x <;> by_cases h2 : A < x <;> simp only [if_pos, if_neg, h1, h2, if_true, if_false] <;> grind
theorem vP {many : Nat} {rate limit x : Rat} (h0 : 0 ≤ x) (hl : 0 < limit) : V (pL many rate (limit * (((many : Nat) : Int) : Rat))) x = rate * mn x (limit * (((many : Nat) : Int) : Rat)) := by
  unfold pL
  split
  · rename_i h
    rcases h with h | h
    · subst h
      have e : limit * (((0 : Nat) : Int) : Rat) = 0 := by
        rw [show (((0 : Nat) : Int) : Rat) = 0 from rfl]
        grind
      rw [e]
      have : mn x 0 = 0 := by unfold mn; split <;> grind
      rw [this]
      show (0 : Rat) = rate * 0
      grind
    · subst h
      show (0 : Rat) = 0 * _
      grind
  · rename_i h
    have hm : many ≠ 0 := fun z => h (.inl z)
    have hB : 0 < limit * (((many : Nat) : Int) : Rat) := Rat.mul_pos hl (Rat.intCast_pos.mpr (by omega))
    generalize limit * (((many : Nat) : Int) : Rat) = Bk at *
    simp only [V, vF, mn]
    by_cases h1 : 0 < x <;> by_cases h2 : Bk < x <;> simp only [h1, h2, if_true, if_false] <;> grind
theorem pay_eq {A r l : Rat} (h0 : 0 ≤ r) (hl : 0 ≤ l) (hA : 0 < A) : V (yL A) (r + l) - V (yL A) r = mn l (A - V (yL A) r) := by
  rw [vY (by grind) hA, vY h0 hA]
  unfold mn
  by_cases h1 : A < r + l <;> by_cases h2 : A < r <;> simp only [h1, h2, if_true, if_false] <;> (try split) <;> grind
theorem due_eq {many : Nat} {rate limit pd pay : Rat} (h0 : 0 ≤ pd) (hp : 0 ≤ pay) (hl : 0 < limit) : V (pL many rate (limit * (((many : Nat) : Int) : Rat))) (pd + pay) - V (pL many rate (limit * (((many : Nat) : Int) : Rat))) pd = rate * mn pay (limit * (((many : Nat) : Int) : Rat) - mn pd (limit * (((many : Nat) : Int) : Rat))) := by
  rw [vP (by grind) hl, vP h0 hl]
  generalize limit * (((many : Nat) : Int) : Rat) = Bk at *
  unfold mn
  by_cases h1 : Bk < pd + pay <;> by_cases h2 : Bk < pd <;> simp only [h1, h2, if_true, if_false] <;> (try split) <;> grind
theorem yL_ok {A : Rat} (h : Bd 6 2000 A) (h0 : 0 < A) : LineOk (yL A) := ⟨fun p hp => by
  simp [yL] at hp
  rcases hp with rfl | rfl
  · exact ⟨Bd.zero, Bd.int (i := 1) (by omega), Rat.le_refl⟩
  · exact ⟨h, Bd.zero, Rat.le_of_lt h0⟩, by simpa [yL] using h0, by simp [yL]⟩
theorem pL_ok {many : Nat} {rate Bk : Rat} (h : Bd 6 2000 Bk) (hr : Bd 60 60 rate) (h0 : many ≠ 0 → 0 < Bk) : LineOk (pL many rate Bk) := by
  unfold pL
  split
  · exact ⟨fun p hp => (List.not_mem_nil hp).elim, List.Pairwise.nil, by simp⟩
  · rename_i hz
    have hB := h0 fun z => hz (.inl z)
    exact ⟨fun p hp => by
      simp at hp
      rcases hp with rfl | rfl
      · exact ⟨Bd.zero, hr, Rat.le_refl⟩
      · exact ⟨h, Bd.zero, Rat.le_of_lt hB⟩, by simpa using hB, by simp⟩
end Wk14

set_option Elab.async false
set_option linter.all false
set_option maxRecDepth 100000
set_option maxHeartbeats 4000000
namespace Wk14
open PySem PySem.Spec PyProof.Rows L2 Dv
theorem smaller_ok {a b : Rat} (ha : Ok a) (hb : Ok b) : (FU MM).call "_law_smaller" [.val (am a), .val (am b)] = .ok (.val (am (mn a b)), [.val (am a), .val (am b)]) := by
  have e1 := f__law_less b a hb ha
  have k2 : 2 ≤ sizeLine := by decide
  rw [run__law_smaller rfl]
  by_cases h : b < a
  · rw [decide_eq_true h] at e1
    have hm : mn a b = b := if_pos h
    rw [hm]
    simp [b__law_smaller, Dv.envOf, e1, k2]
  · rw [decide_eq_false h] at e1
    have hm : mn a b = a := if_neg h
    rw [hm]
    simp [b__law_smaller, Dv.envOf, e1, k2]
theorem mn_ok {n : Nat} {a b : Rat} (ha : Dv.K n a) (hb : Dv.K n b) : Dv.K n (mn a b) := by unfold mn; split <;> assumption
/-- what is given: a limit, how often it is reinstated, at which rate -/
structure Giv (limit : Rat) (many : Nat) (rate : Rat) : Prop where
  l0 : 0 < limit
  lb : Bd 6 144 limit
  m : many ≤ 10
  rb : Bd 60 60 rate
abbrev gA (limit : Rat) (many : Nat) : Rat := limit * (((many : Int) + 1 : Int) : Rat)
abbrev gB (limit : Rat) (many : Nat) : Rat := limit * (((many : Nat) : Int) : Rat)
section
variable {limit rate : Rat} {many : Nat} {ls : List Rat}
theorem Giv.A0 (g : Giv limit many rate) : 0 < gA limit many := Rat.mul_pos g.l0 (Rat.intCast_pos.mpr (by omega))
theorem Giv.B0 (g : Giv limit many rate) : 0 ≤ gB limit many := Rat.mul_nonneg (Rat.le_of_lt g.l0) (Rat.intCast_nonneg.mpr (by omega))
theorem Giv.Ab (g : Giv limit many rate) : Bd 6 2000 (gA limit many) := by
  have hm := g.m
  have h : Bd (6 * 1) (144 * 11) (gA limit many) := g.lb.mul (Bd.int (L := 1) (N := 11) (by omega))
  exact h.mono (by omega)
theorem Giv.Bb (g : Giv limit many rate) : Bd 6 2000 (gB limit many) := by
  have hm := g.m
  have h : Bd (6 * 1) (144 * 11) (gB limit many) := g.lb.mul (Bd.int (L := 1) (N := 11) (by omega))
  exact h.mono (by omega)
theorem Giv.yo (g : Giv limit many rate) : LineOk (yL (gA limit many)) := yL_ok g.Ab g.A0
theorem Giv.po (g : Giv limit many rate) : LineOk (pL many rate (gB limit many)) := pL_ok g.Bb g.rb fun h => Rat.mul_pos g.l0 (Rat.intCast_pos.mpr (by omega))
abbrev gR (limit : Rat) (many : Nat) (rate : Rat) (ls : List Rat) : List R4 := stR (yL (gA limit many)) (pL many rate (gB limit many)) 0 0 ls
theorem back_eq {pd pay Bk : Rat} (h0 : 0 ≤ pd) (hp : 0 ≤ pay) : Bk - mn pd Bk - mn pay (Bk - mn pd Bk) = Bk - mn (pd + pay) Bk := by
  unfold mn
  by_cases h1 : Bk < pd + pay <;> by_cases h2 : Bk < pd <;> simp only [h1, h2, if_true, if_false] <;> (try split) <;> grind
theorem ledger_ok (g : Giv limit many rate) (hl : Lay ls) (hn : ∀ q ∈ ls, 0 ≤ q) : (FU MM).call "_law_ledger" [.val (am limit), .val (.int (many : Nat)), .val (am rate), .val (.tup (ls.map am))] =
    .ok (.val (.tup ((gR limit many rate ls).map r4D)), [.val (am limit), .val (.int (many : Nat)), .val (am rate), .val (.tup (ls.map am))]) := by
  obtain ⟨m1, m2, m3, m4, m5⟩ := nums
  have h12 := hl.len
  have hm := g.m
  have hy := g.yo
  have hA := g.A0
  have hB := g.B0
  have AK : Dv.K 60 (gA limit many) := g.Ab.k60 (by omega) (by omega) (by omega)
  have BK : Dv.K 60 (gB limit many) := g.Bb.k60 (by omega) (by omega) (by omega)
  have lK : Dv.K 60 limit := g.lb.k60 (by omega) (by omega) (by omega)
  have rK : Dv.K 60 rate := g.rb.k60 (by omega) (by omega) (by omega)
  have i1 := f__law_int ((many : Int) + 1)
  have i2 := f__law_int (many : Int)
  have t1 := f__law_times limit _ lK.ok60 (((Bd.int (L := 1) (N := 11) (i := (many : Int) + 1) (by omega)).k60 (by omega) (by omega) (by omega)).ok60)
  have t2 := f__law_times limit _ lK.ok60 (((Bd.int (L := 1) (N := 11) (i := (many : Int)) (by omega)).k60 (by omega) (by omega) (by omega)).ok60)
  have n1 : 12 * NL = N1 := rfl
  have vY0 : V (yL (gA limit many)) 0 = 0 := V_zero hy
  have a0 : gA limit many - V (yL (gA limit many)) 0 = gA limit many := by rw [vY0]; grind
  have b0 : gB limit many - mn (V (yL (gA limit many)) 0) (gB limit many) = gB limit many := by
    rw [vY0]
    unfold mn
    split <;> grind
  obtain ⟨ρ', ⟨rows, r, o8, o9, o10, rfl, hf, _⟩, e⟩ := for_val (F := F30 MM) (N := MM) (S := S__law_ledger_0) rfl (d := .tup (ls.map am)) (xs := ls) (f := am)
    (ρ := [some (.val (am limit)), some (.val (.int (many : Nat))), some (.val (am rate)), some (.val (.tup (ls.map am))), some (.val (am (gA limit many))), some (.val (am (gB limit many))), some (.val (am 0)), some (.own false (.lst [])), none, none, none])
    (ρ1 := [some (.val (am limit)), some (.val (.int (many : Nat))), some (.val (am rate)), some (.val (.tup (ls.map am))), some (.val (am (gA limit many))), some (.val (am (gB limit many))), some (.val (am 0)), some (.own false (.lst [])), none, none, none])
    (fun i ρ => ∃ (rows : List R4) (r : Rat) (o8 o9 o10 : Option S), ρ = [some (.val (am limit)), some (.val (.int (many : Nat))), some (.val (am rate)), some (.val (.tup (ls.map am))), some (.val (am (gA limit many - V (yL (gA limit many)) r))), some (.val (am (gB limit many - mn (V (yL (gA limit many)) r) (gB limit many)))), some (.val (am r)), some (.own false (.lst (rows.map r4D))), o8, o9, o10] ∧
      rows ++ stR (yL (gA limit many)) (pL many rate (gB limit many)) r (V (yL (gA limit many)) r) (ls.drop i) = gR limit many rate ls ∧ rows.length = i ∧ 0 ≤ r ∧ Bd (6 * 420) (i * NL) r ∧ gFree (some o8) = true ∧ gFree (some o9) = true ∧ gFree (some o10) = true)
    (by simp) ⟨[], 0, none, none, none, by rw [a0, b0]; rfl, by rw [vY0]; rfl, rfl, Rat.le_refl, Bd.zero, rfl, rfl, rfl⟩
    (fun i q ρ hx ⟨rows, r, o8, o9, o10, e, hf, hr, r0, hb, g8, g9, g10⟩ => by
      subst e
      obtain ⟨hi, rfl⟩ := List.getElem?_eq_some_iff.mp hx
      have hq := hl.bd _ (List.getElem_mem hi)
      have q0 := hn _ (List.getElem_mem hi)
      rw [List.drop_eq_getElem_cons hi, stR_cons] at hf
      have j1 : i * NL + NL ≤ 12 * NL := by have : (i + 1) * NL ≤ 12 * NL := Nat.mul_le_mul_right _ (by omega); rw [Nat.succ_mul i] at this; exact this
      have bN : Bd (6 * 420) N1 r := hb.mono (by omega)
      have qK : Dv.K 200 ls[i] := k200 hq (by omega) (by omega) (by omega)
      have rrK : Dv.K 200 r := k200 bN (by omega) (by omega) (by omega)
      have vK : Dv.K 200 (V (yL (gA limit many)) r) := k200 (V_bd bN hy) (by omega) (by omega) numB.1
      have v0 : 0 ≤ V (yL (gA limit many)) r := by
        rw [vY r0 hA]
        unfold mn
        split <;> grind
      have pe := pay_eq (l := ls[i]) r0 q0 hA
      have p0 : 0 ≤ mn ls[i] (gA limit many - V (yL (gA limit many)) r) := by
        rw [vY r0 hA]
        unfold mn
        split <;> (try split) <;> grind
      have de := due_eq (many := many) (rate := rate) (limit := limit) v0 p0 g.l0
      have leK : Dv.K 300 (gA limit many - V (yL (gA limit many)) r) := (AK.sub vK).mono (by decide)
      have baK : Dv.K 300 (gB limit many - mn (V (yL (gA limit many)) r) (gB limit many)) := (BK.sub (mn_ok vK (BK.mono (by decide)))).mono (by decide)
      have s1 := smaller_ok (qK.ok (by decide)) (leK.ok (by decide))
      have pK : Dv.K 300 (mn ls[i] (gA limit many - V (yL (gA limit many)) r)) := mn_ok (qK.mono (by decide)) leK
      have s2 := smaller_ok (pK.ok (by decide)) (baK.ok (by decide))
      have fK : Dv.K 300 (mn (mn ls[i] (gA limit many - V (yL (gA limit many)) r)) (gB limit many - mn (V (yL (gA limit many)) r) (gB limit many))) := mn_ok pK baK
      have s3 := f__law_times rate _ rK.ok60 (fK.ok (by decide))
      have s4 := f__law_minus _ _ (leK.ok (by decide)) (pK.ok (by decide))
      have s5 := f__law_minus _ _ (baK.ok (by decide)) (fK.ok (by decide))
      have s6 := f__law_plus r ls[i] (rrK.ok (by decide)) (qK.ok (by decide))
      have be := back_eq (Bk := gB limit many) v0 p0
      rw [be] at s5
      have vn : V (yL (gA limit many)) r + mn ls[i] (gA limit many - V (yL (gA limit many)) r) = V (yL (gA limit many)) (r + ls[i]) := by rw [← pe]; grind
      have ln : gA limit many - V (yL (gA limit many)) r - mn ls[i] (gA limit many - V (yL (gA limit many)) r) = gA limit many - V (yL (gA limit many)) (r + ls[i]) := by rw [← pe]; grind
      rw [vn] at s5 de
      rw [ln] at s4
      rw [pe, vn, de] at hf
      have hz : rows.length < sizeLine := len_lt (by omega)
      have k4 : 4 ≤ sizeLine := by decide
      refine ⟨[some (.val (am limit)), some (.val (.int (many : Nat))), some (.val (am rate)), some (.val (.tup (ls.map am))), some (.val (am (gA limit many - V (yL (gA limit many)) (r + ls[i])))), some (.val (am (gB limit many - mn (V (yL (gA limit many)) (r + ls[i])) (gB limit many)))), some (.val (am (r + ls[i]))),
        some (.own false (.lst ((rows ++ [(ls[i], r, mn ls[i] (gA limit many - V (yL (gA limit many)) r), rate * mn (mn ls[i] (gA limit many - V (yL (gA limit many)) r)) (gB limit many - mn (V (yL (gA limit many)) r) (gB limit many)))]).map r4D))), some (.val (am ls[i])), some (.val (am (mn ls[i] (gA limit many - V (yL (gA limit many)) r)))), some (.val (am (mn (mn ls[i] (gA limit many - V (yL (gA limit many)) r)) (gB limit many - mn (V (yL (gA limit many)) r) (gB limit many)))))],
        .inl ?_, _, _, _, _, _, rfl, by rw [← hf]; simp, by simp [hr], by grind, ?_, rfl, rfl, rfl⟩
      · simp [turnX, B__law_ledger_0, g8, g9, g10, s1, s2, s3, s4, s5, s6, hz, k4, r4D]
      · rw [Nat.succ_mul i]; exact hb.add hq)
  rw [List.drop_length, stR_nil, List.append_nil] at hf
  subst hf
  have k2 : 2 ≤ sizeLine := by decide
  rw [run__law_ledger rfl]
  simp [b__law_ledger, Dv.envOf, i1, i2, t1, t2, k2, e, -Rat.intCast_add]
end
end Wk14

set_option Elab.async false
set_option linter.all false
set_option maxRecDepth 100000
set_option maxHeartbeats 4000000
namespace Wk14
open PySem PySem.Spec PyProof.Rows L2 Dv
theorem amount_ok (n : Int) : (FU MM).call "amount" [.val (.int n), .val (.int 1)] = .ok (.val (am (n : Rat)), [.val (.int n), .val (.int 1)]) := by
  have e1 := f_reduced n 1 (by decide) (oC_big (by decide))
  rw [divInt_one] at e1
  rw [run_amount rfl]
  simp [b_amount, Dv.envOf, e1]
section
variable {limit rate : Rat} {many : Nat} {ls : List Rat}
theorem ltimes_ok (g : Giv limit many rate) {m : Int} (h0 : 0 ≤ m) (h1 : m ≤ 11) : (FU MM).call "limit_times" [.val (am limit), .val (.int m)] = .ok (.val (am (limit * (m : Rat))), [.val (am limit), .val (.int m)]) := by
  have lK : Dv.K 60 limit := g.lb.k60 (by omega) (by omega) (by omega)
  have e1 := amount_ok m
  have e2 := f_times limit _ lK.ok60 (((Bd.int (L := 1) (N := 11) (i := m) (by omega)).k60 (by omega) (by omega) (by omega)).ok60)
  rw [run_limit_times rfl]
  simp [b_limit_times, Dv.envOf, e1, e2]
theorem lnY {A : Rat} : lnD (yL A) = .tup [.tup [am 0, am 1], .tup [am A, am 0]] := rfl
theorem lnP0 {rate Bk : Rat} (h : many = 0 ∨ rate = 0) : lnD (pL many rate Bk) = .tup [] := by unfold pL; rw [if_pos h]; rfl
theorem lnP1 {rate Bk : Rat} (h : ¬ (many = 0 ∨ rate = 0)) : lnD (pL many rate Bk) = .tup [.tup [am 0, am rate], .tup [am Bk, am 0]] := by unfold pL; rw [if_neg h]; rfl
theorem reinst_ok (g : Giv limit many rate) : (FU MM).call "reinstated" [.val (am limit), .val (.int (many : Nat)), .val (am rate)] = .ok (.val (.tup [lnD (yL (gA limit many)), lnD (pL many rate (gB limit many))]), [.val (am limit), .val (.int (many : Nat)), .val (am rate)]) := by
  have hm := g.m
  have k2 : 2 ≤ sizeLine := by decide
  have e1 := ltimes_ok g (m := (many : Int) + 1) (by omega) (by omega)
  have e2 := ltimes_ok g (m := (many : Int)) (by omega) (by omega)
  have ey : (FU MM).call "year_of_limit" [.val (am limit), .val (.int ((many : Int) + 1))] = .ok (.val (lnD (yL (gA limit many))), [.val (am limit), .val (.int ((many : Int) + 1))]) := by
    rw [run_year_of_limit rfl, lnY]
    generalize hA : gA limit many = A at *
    rw [show limit * (((many : Int) + 1 : Int) : Rat) = A from hA] at e1
    simp [b_year_of_limit, Dv.envOf, k2, e1]
  have es := f_sign_of rate
  have ep : (FU MM).call "price_of_limit" [.val (am limit), .val (.int (many : Nat)), .val (am rate)] = .ok (.val (lnD (pL many rate (gB limit many))), [.val (am limit), .val (.int (many : Nat)), .val (am rate)]) := by
    rw [run_price_of_limit rfl]
    have k0 : 0 ≤ sizeLine := Nat.zero_le _
    by_cases h : many = 0 ∨ rate = 0
    · rw [lnP0 h]
      by_cases hz : many = 0
      · have hz' : (many : Int) = 0 := by omega
        simp [b_price_of_limit, Dv.envOf, hz, hz', k0]
      · have hr : rate = 0 := h.resolve_left hz
        subst hr
        rw [if_neg (by grind), if_neg (by grind)] at es
        simp [b_price_of_limit, Dv.envOf, hz, es, k0]
    · rw [lnP1 h]
      have hz : ¬ many = 0 := fun z => h (.inl z)
      have hr : ¬ rate = 0 := fun z => h (.inr z)
      have es2 : ∃ s : Int, (FU MM).call "sign_of" [.val (am rate)] = .ok (.val (.int s), [.val (am rate)]) ∧ s ≠ 0 := by
        refine ⟨_, es, ?_⟩
        by_cases h1 : rate < 0
        · rw [if_pos h1]; decide
        · rw [if_neg h1, if_pos (by grind)]; decide
      obtain ⟨s, es2, s0⟩ := es2
      generalize hB : gB limit many = Bk at *
      rw [show limit * (((many : Nat) : Int) : Rat) = Bk from hB] at e2
      simp [b_price_of_limit, Dv.envOf, hz, es2, s0, k2, e2]
  rw [run_reinstated rfl]
  generalize lnD (yL (gA limit many)) = Y at *
  generalize lnD (pL many rate (gB limit many)) = P at *
  simp [b_reinstated, Dv.envOf, ey, ep, k2]
theorem oyear_ok (g : Giv limit many rate) : (FU MM).call "_law_own_year" [.val (am limit), .val (.int (many : Nat))] = .ok (.val (lnD (yL (gA limit many))), [.val (am limit), .val (.int (many : Nat))]) := by
  have hm := g.m
  have k2 : 2 ≤ sizeLine := by decide
  have lK : Dv.K 60 limit := g.lb.k60 (by omega) (by omega) (by omega)
  have i1 := f__law_int ((many : Int) + 1)
  have t1 := f__law_times limit _ lK.ok60 (((Bd.int (L := 1) (N := 11) (i := (many : Int) + 1) (by omega)).k60 (by omega) (by omega) (by omega)).ok60)
  rw [run__law_own_year rfl, lnY]
  generalize hA : gA limit many = A at *
  rw [show limit * (((many : Int) + 1 : Int) : Rat) = A from hA] at t1
  generalize (((many : Int) + 1 : Int) : Rat) = f1 at *
  simp [b__law_own_year, Dv.envOf, k2, i1, t1]
theorem oprice_ok (g : Giv limit many rate) : (FU MM).call "_law_own_price" [.val (am limit), .val (.int (many : Nat)), .val (am rate)] = .ok (.val (lnD (pL many rate (gB limit many))), [.val (am limit), .val (.int (many : Nat)), .val (am rate)]) := by
  have hm := g.m
  have k2 : 2 ≤ sizeLine := by decide
  have k0 : 0 ≤ sizeLine := Nat.zero_le _
  have lK : Dv.K 60 limit := g.lb.k60 (by omega) (by omega) (by omega)
  have i2 := f__law_int (many : Int)
  have t2 := f__law_times limit _ lK.ok60 (((Bd.int (L := 1) (N := 11) (i := (many : Int)) (by omega)).k60 (by omega) (by omega) (by omega)).ok60)
  have hn : rate.num = 0 ↔ rate = 0 := Rat.num_eq_zero
  rw [run__law_own_price rfl]
  by_cases h : many = 0 ∨ rate = 0
  · rw [lnP0 h]
    by_cases hz : many = 0
    · have hz' : (many : Int) = 0 := by omega
      simp [b__law_own_price, Dv.envOf, hz, hz', k0]
    · have hr : rate = 0 := h.resolve_left hz
      simp [b__law_own_price, Dv.envOf, hz, hn, hr, k0]
  · rw [lnP1 h]
    have hz : ¬ many = 0 := fun z => h (.inl z)
    have hr : ¬ rate = 0 := fun z => h (.inr z)
    generalize hB : gB limit many = Bk at *
    rw [show limit * (((many : Nat) : Int) : Rat) = Bk from hB] at t2
    generalize (((many : Nat) : Int) : Rat) = f2 at *
    simp [b__law_own_price, Dv.envOf, hz, hn, hr, k2, i2, t2]
end
/-! lines -/
structure NF (l : Ln) : Prop where
  ok : LineOk l
  s : ∀ p ∈ l, 0 ≤ p.2 ∧ p.2 ≤ 1
  ch : ∀ (i : Nat) (p : Rat × Rat), l[i]? = some p → p.2 ≠ (match i with | 0 => 0 | j + 1 => (l.getD j (0, 0)).2)
theorem is_line_ok {l : Ln} (h : NF l) : (FU MM).call "_law_is_line" [.val (lnD l)] = .ok (.val (.bl true), [.val (lnD l)]) := by
  have hlen := h.ok.len
  have hk : ∀ (i : Nat) (p : Rat × Rat), l[i]? = some p → atI (l.map prD) (i : Int) = some (prD p) := fun i p hp => atI_mapG hp
  obtain ⟨ρ', ⟨last, o2, o3, rfl, _⟩, e⟩ := for_rng (F := F23 MM) (N := MM) (S := S__law_is_line_0) rfl (m := l.length) (ρ := [some (.val (lnD l)), some (.val (am 0)), none, none]) (ρ1 := [some (.val (lnD l)), some (.val (am 0)), none, none])
    (fun i ρ => ∃ (last : Rat) (o2 o3 : Option S), ρ = [some (.val (lnD l)), some (.val (am last)), o2, o3] ∧ last = (match i with | 0 => 0 | j + 1 => (l.getD j (0, 0)).2) ∧ gFree (some o2) = true ∧ gFree (some o3) = true)
    (evi_rng (by simp [lnD]) (by omega)) ⟨0, none, none, rfl, rfl, rfl, rfl⟩
    (fun i ρ hi ⟨last, o2, o3, e, hl, g2, g3⟩ => by
      subst e
      have hx : l[i]? = some l[i] := List.getElem?_eq_getElem hi
      have hp := h.ok.bd _ (List.getElem_mem hi)
      have hs := h.s _ (List.getElem_mem hi)
      have hc := h.ch i _ hx
      rw [← hl] at hc
      have ha := hk i _ hx
      have pK : Dv.K 60 l[i].1 := hp.1.k60 (by omega) (by omega) (by omega)
      have sK : Dv.K 60 l[i].2 := hp.2.1.k60 (by omega) (by omega) (by omega)
      have er : (FU MM).call "_law_is_row" [.val (prD l[i]), .val (.int 2)] = .ok (.val (.bl true), [.val (prD l[i]), .val (.int 2)]) := f__law_is_row (l := [l[i].1, l[i].2]) (n := 2) rfl (len_lt (show 2 < 16777216 by decide)) fun q hq => by
        simp at hq
        rcases hq with rfl | rfl
        · exact pK.ok60
        · exact sK.ok60
      have q1 := eq_nice (k := 1) (d := am l[i].2) (e := am last) nice_am nice_am (by decide)
      rw [decide_eq_false (fun z => hc (am_inj.mp z))] at q1
      have n1 : ¬ l[i].2.num < 0 := by have := Rat.num_nonneg.mpr hs.1; omega
      have n2 : ¬ l[i].1.num < 0 := by have := Rat.num_nonneg.mpr hp.2.2; omega
      have l1 := f__law_less 1 l[i].2 (K.one.ok (by decide)) sK.ok60
      rw [decide_eq_false (by have := hs.2; grind)] at l1
      have k2 : 2 ≤ sizeLine := by decide
      refine ⟨[some (.val (lnD l)), some (.val (am l[i].2)), some (.val (.int (i : Nat))), some (.val (prD l[i]))], .inl ?_, l[i].2, _, _, rfl, by simp [hi], rfl, rfl⟩
      cases i with
      | zero => 
        have ha : atI (l.map prD) 0 = some (prD l[0]) := ha
        simp [turnX, B__law_is_line_0, lnD, g2, g3, ha, er, -c36_dCmp, q1, n1, n2, l1, k2]
      | succ j =>
        have hj : j < l.length := by omega
        have hb : atI (l.map prD) (j : Int) = some (prD l[j]) := hk j _ (List.getElem?_eq_getElem hj)
        have ha : atI (l.map prD) ((j : Int) + 1) = some (prD l[j + 1]) := ha
        have as : l[j].1 < l[j + 1].1 := List.pairwise_iff_getElem.mp h.ok.asc j (j + 1) hj hi (by omega)
        have jK : Dv.K 60 l[j].1 := (h.ok.bd _ (List.getElem_mem hj)).1.k60 (by omega) (by omega) (by omega)
        have l2 := f__law_less l[j].1 l[j + 1].1 jK.ok60 pK.ok60
        rw [decide_eq_true as] at l2
        have p1 : (0 : Int) < (j : Int) + 1 := by omega
        simp [turnX, B__law_is_line_0, lnD, g2, g3, ha, hb, er, -c36_dCmp, q1, n1, n2, l1, l2, k2, p1])
  have k2 : 2 ≤ sizeLine := by decide
  have it : isTy .tup (lnD l) = .ok true := rfl
  rw [run__law_is_line rfl]
  simp [b__law_is_line, Dv.envOf, it, k2, e]
end Wk14

set_option Elab.async false
set_option linter.all false
set_option maxRecDepth 100000
set_option maxHeartbeats 4000000
namespace Dv
open PySem PySem.Spec PyProof.Rows L2
theorem filter_fm {α β : Type} {p : α → Bool} {f : α → β} : ∀ l : List α, l.filterMap (fun x => if p x = true then some (f x) else none) = (l.filter p).map f
  | [] => rfl
  | a :: l => by
    cases h : p a <;> simp [h, filter_fm l]
theorem slc_drop {l : List D} {k : Nat} : dSlc (.tup l) (some (k : Int)) none = .ok (.val (.tup (l.drop k))) := by
  rw [c98_dSlc]
  have h1 : HT.sIx l.length 0 (some (k : Int)) = min k l.length := HT.sIx_nat _ _ k
  have h2 : HT.sIx l.length l.length none = l.length := rfl
  rw [h1, h2]
  by_cases h : k ≤ l.length
  · rw [Nat.min_eq_left h, List.take_of_length_le (by rw [List.length_drop]; omega)]
  · rw [Nat.min_eq_right (by omega), Nat.sub_self, List.take_zero, List.drop_of_length_le (by omega)]
end Dv
namespace Wk14
open PySem PySem.Spec PyProof.Rows L2 Dv
noncomputable def ulP (X Y : List D) (k : Nat) : Bool := !decide (X.getD k .non = Y.getD k .non)
noncomputable def ulD (X Y : List D) : List Nat := (List.range X.length).filter (ulP X Y)
theorem ne_at {X Y : List D} (h : Y.length = X.length) (hX : ∀ d ∈ X, nice 2 d) (hY : ∀ d ∈ Y, nice 2 d) {k : Nat} (hk : k < X.length) : atI X (k : Int) = some X[k] ∧ atI Y (k : Int) = some (Y[k]'(by omega)) ∧ dCmp .NotEq X[k] (Y[k]'(by omega)) = .ok (ulP X Y k) := by
  have hk2 : k < Y.length := by omega
  refine ⟨atI_get hk, atI_get hk2, ?_⟩
  rw [ne_nice (k := 2) (hX _ (List.getElem_mem hk)) (hY _ (List.getElem_mem hk2)) (by decide)]
  unfold ulP
  rw [show X.getD k .non = X[k] by simp [hk], show Y.getD k .non = Y[k] by simp [hk2]]
section
variable {X Y : List D}
theorem lunlike_ok (h : Y.length = X.length) (hX : ∀ d ∈ X, nice 2 d) (hY : ∀ d ∈ Y, nice 2 d) (hl : X.length ≤ 12) : (FU MM).call "_law_unlike" [.val (.tup X), .val (.tup Y)] = .ok (.val (.tup ((ulD X Y).map iD)), [.val (.tup X), .val (.tup Y)]) := by
  have c : ev (F44 MM) C__law_unlike_0 [some (.val (.tup X)), some (.val (.tup Y)), none] = .ok (.own (.lst ((ulD X Y).map iD)), [some (.val (.tup X)), some (.val (.tup Y)), none]) := by
    unfold ulD
    rw [← filter_fm]
    exact comp_fmE (xs := List.range X.length) (f := fun k => .int (k : Nat)) (g := fun k => if ulP X Y k = true then some (iD k) else none) (ρ1 := [some (.val (.tup X)), some (.val (.tup Y)), none]) (ρw := [some (.val (.tup X)), some (.val (.tup Y)), none]) (p := .val .non)
      (evi_rng (by simp) (by omega)) (by simp) (by rw [List.length_range]; exact len_lt (by omega)) (fun k hk => by
        obtain ⟨a1, a2, ne⟩ := ne_at h hX hY (List.mem_range.mp hk)
        cases hp : ulP X Y k <;> rw [hp] at ne <;> simp [turnW, turnR, E__law_unlike_0, a1, a2, -c37_dCmp, ne]) (fun out => by simp [compEnd])
  rw [run__law_unlike rfl]
  simp [b__law_unlike, Dv.envOf, c]
theorem unlike_ok (h : Y.length = X.length) (hX : ∀ d ∈ X, nice 2 d) (hY : ∀ d ∈ Y, nice 2 d) (hl : X.length ≤ 12) : (FU MM).call "unlike_places" [.val (.tup X), .val (.tup Y)] = .ok (.val (.tup ((ulD X Y).map iD)), [.val (.tup X), .val (.tup Y)]) := by
  obtain ⟨ρ', ⟨o3, rfl, _⟩, e⟩ := for_rng (F := F47 MM) (N := MM) (S := S_unlike_places_0) rfl (m := X.length) (ρ := [some (.val (.tup X)), some (.val (.tup Y)), some (.own false (.lst [])), none]) (ρ1 := [some (.val (.tup X)), some (.val (.tup Y)), some (.own false (.lst [])), none])
    (fun i ρ => ∃ o3 : Option S, ρ = [some (.val (.tup X)), some (.val (.tup Y)), some (.own false (.lst (((List.range i).filter (ulP X Y)).map iD))), o3] ∧ gFree (some o3) = true)
    (evi_rng (by simp) (by omega)) ⟨none, rfl, rfl⟩
    (fun i ρ hi ⟨o3, e, ho⟩ => by
      subst e
      obtain ⟨a1, a2, ne⟩ := ne_at h hX hY hi
      have fl := List.length_filter_le (ulP X Y) (List.range i)
      rw [List.length_range] at fl
      have hz : ((List.range i).filter (ulP X Y)).length < sizeLine := len_lt (by omega)
      refine ⟨_, .inl ?_, some (.val (.int (i : Nat))), rfl, rfl⟩
      rw [List.range_succ, List.filter_append, List.map_append]
      cases hp : ulP X Y i <;> rw [hp] at ne <;> simp [turnX, B_unlike_places_0, ho, a1, a2, -c37_dCmp, ne, hz, hp])
  rw [run_unlike_places rfl]
  simp [b_unlike_places, Dv.envOf, e, ulD.eq_def]
theorem places_ok {ks : List Nat} (hl : ks.length < 1000) : (FU MM).call "_law_places_right" [.val (.tup (ks.map iD)), .val (.tup (ks.map iD))] = .ok (.val (.bl true), [.val (.tup (ks.map iD)), .val (.tup (ks.map iD))]) := by
  have c : ev (F46 MM) C__law_places_right_0 [some (.val (.tup (ks.map iD))), some (.val (.tup (ks.map iD))), none] = .ok (.own (.lst (ks.map fun _ => .bl true)), [some (.val (.tup (ks.map iD))), some (.val (.tup (ks.map iD))), none]) :=
    comp_mapE (xs := ks) (f := iD) (g := fun _ => .bl true) (ρ1 := [some (.val (.tup (ks.map iD))), some (.val (.tup (ks.map iD))), none]) (ρw := [some (.val (.tup (ks.map iD))), some (.val (.tup (ks.map iD))), none]) (p := .val (.tup (ks.map iD)))
      (by simp) (by simp) (len_lt (by omega)) (fun k _ => by
        have e1 := f__law_is_int (k : Int)
        simp [turnW, turnR, E__law_places_right_0, e1]) (fun out => by simp [compEnd])
  have b1 := bls_true (l := ks)
  have nk : nice 1 (.tup (ks.map iD)) := fun e he => by
    obtain ⟨z, _, rfl⟩ := List.mem_map.mp he
    exact nice_int
  have q1 := eq_nice (k := 1) nk nk (by decide)
  rw [decide_eq_true rfl] at q1
  rw [run__law_places_right rfl]
  generalize ks.map (fun _ => D.bl true) = bl at *
  simp [b__law_places_right, Dv.envOf, c, b1, -c36_dCmp, q1]
def repl (L : List D) (k : Nat) (q : D) : List D := L.take k ++ [q] ++ L.drop (k + 1)
theorem repl_len {L : List D} {k : Nat} {q : D} (hk : k < L.length) : (repl L k q).length = L.length := by simp [repl]; omega
theorem lrepl_ok {L : List D} {k : Nat} {q : D} (hl : L.length ≤ 12) : (FU MM).call "_law_replaced" [.val (.tup L), .val (.int (k : Nat)), .val q] = .ok (.val (.tup (repl L k q)), [.val (.tup L), .val (.int (k : Nat)), .val q]) := by
  have s1 := slc_take (l := L) (k := k)
  have s2 := slc_drop (l := L) (k := k + 1)
  rw [show ((k + 1 : Nat) : Int) = (k : Int) + 1 by omega] at s2
  have t1 := List.length_take_le k L
  have z1 : min k L.length + 1 ≤ sizeLine := len_le (by omega)
  have z2 : min k L.length + 1 + (L.length - (k + 1)) ≤ sizeLine := len_le (by omega)
  have k1 : 1 ≤ sizeLine := by decide
  rw [run__law_replaced rfl]
  simp [b__law_replaced, Dv.envOf, -c98_dSlc, s1, s2, k1, z1, z2, repl]
theorem with_ok {L : List D} {k : Nat} {q : D} (hl : L.length ≤ 12) : (FU MM).call "with_layer" [.val (.tup L), .val (.int (k : Nat)), .val q] = .ok (.val (.tup (repl L k q)), [.val (.tup L), .val (.int (k : Nat)), .val q]) := by
  have s1 := slc_take (l := L) (k := k)
  have s2 := slc_drop (l := L) (k := k + 1)
  rw [show ((k + 1 : Nat) : Int) = (k : Int) + 1 by omega] at s2
  have z1 : min k L.length + 1 ≤ sizeLine := len_le (by omega)
  have z2 : min k L.length + 1 + (L.length - (k + 1)) ≤ sizeLine := len_le (by omega)
  have k1 : 1 ≤ sizeLine := by decide
  rw [run_with_layer rfl]
  simp [b_with_layer, Dv.envOf, -c98_dSlc, s1, s2, k1, z1, z2, repl]
end
/-! layers that are given -/
structure Lay0 (ls : List Rat) : Prop where
  l : Lay ls
  n : ∀ q ∈ ls, 0 ≤ q
def rpl (ls : List Rat) (k : Nat) (q : Rat) : List Rat := ls.take k ++ [q] ++ ls.drop (k + 1)
theorem repl_map {ls : List Rat} {k : Nat} {q : Rat} : repl (ls.map am) k (am q) = (rpl ls k q).map am := by simp [repl, rpl, List.map_take, List.map_drop]
theorem rpl_len {ls : List Rat} {k : Nat} {q : Rat} (hk : k < ls.length) : (rpl ls k q).length = ls.length := by simp [rpl]; omega
theorem rpl_mem {ls : List Rat} {k : Nat} {q p : Rat} (h : p ∈ rpl ls k q) : p ∈ ls ∨ p = q := by
  simp [rpl] at h
  rcases h with h | h | h
  · exact .inl (List.mem_of_mem_take h)
  · exact .inr h
  · exact .inl (List.mem_of_mem_drop h)
theorem Lay.rpl {ls : List Rat} {k : Nat} {q : Rat} (h : Lay ls) (hq : Bd (6 * 420) NL q) (hk : k < ls.length) : Lay (rpl ls k q) := ⟨fun p hp => by
  rcases rpl_mem hp with h1 | rfl
  · exact h.bd p h1
  · exact hq, by rw [rpl_len hk]; exact h.len⟩
theorem rpl_set {ls : List Rat} {k : Nat} {q : Rat} (hk : k < ls.length) : Wk14.rpl ls k q = ls.set k q := by
  rw [List.set_eq_take_append_cons_drop, if_pos hk]
  simp [Wk14.rpl]
theorem rpl_back {ls : List Rat} {k : Nat} {q : Rat} (hk : k < ls.length) : Wk14.rpl (Wk14.rpl ls k q) k ls[k] = ls := by
  rw [rpl_set (by rw [rpl_len hk]; exact hk), rpl_set hk, List.set_set, List.set_getElem_self]
theorem rpl_same {ls : List Rat} {k : Nat} (hk : k < ls.length) : Wk14.rpl ls k ls[k] = ls := by
  rw [rpl_set hk, List.set_getElem_self]
theorem ulD_comm {X Y : List D} (h : Y.length = X.length) : ulD Y X = ulD X Y := by
  unfold ulD
  rw [h]
  congr 1
  funext k
  unfold ulP
  by_cases e : X.getD k .non = Y.getD k .non
  · rw [decide_eq_true e, decide_eq_true e.symm]
  · rw [decide_eq_false e, decide_eq_false fun z => e z.symm]
theorem ulD_self {X : List D} : ulD X X = [] := by
  unfold ulD
  rw [List.filter_eq_nil_iff]
  intro k _
  simp [ulP]
abbrev rw4 (y p : Ln) (ls : List Rat) : List D := (stR y p 0 0 ls).map r4D
theorem rw4_nice {y p : Ln} {ls : List Rat} : ∀ d ∈ rw4 y p ls, nice 2 d := fun d hd => by
  obtain ⟨r, _, rfl⟩ := List.mem_map.mp hd
  exact nice_ams (us := [r.1, r.2.1, r.2.2.1, r.2.2.2]) fun q => q
theorem rw4_len {y p : Ln} {ls : List Rat} : (rw4 y p ls).length = ls.length := by rw [List.length_map, stR_len]
theorem changed_ok {y p : Ln} {ls : List Rat} {k : Nat} {q : Rat} (hy : LineOk y) (hp : LineOk p) (hl : Lay ls) (hq : Bd (6 * 420) NL q) (hk : k < ls.length) :
    (FU MM).call "changed_rows" [.val (lnD y), .val (lnD p), .val (.tup (ls.map am)), .val (.int (k : Nat)), .val (am q)] = .ok (.val (.tup ((ulD (rw4 y p ls) (rw4 y p (rpl ls k q))).map iD)), [.val (lnD y), .val (lnD p), .val (.tup (ls.map am)), .val (.int (k : Nat)), .val (am q)]) := by
  have h12 := hl.len
  have e1 := statement_ok hy hp hl
  have e2 := statement_ok hy hp (Lay.rpl hl hq hk)
  have e3 := with_ok (L := ls.map am) (k := k) (q := am q) (by simpa using h12)
  rw [repl_map] at e3
  have e4 := unlike_ok (X := rw4 y p ls) (Y := rw4 y p (rpl ls k q)) (by rw [rw4_len, rw4_len, rpl_len hk]) rw4_nice rw4_nice (by rw [rw4_len]; exact h12)
  rw [run_changed_rows rfl]
  simp only [rw4] at *
  generalize (stR y p 0 0 ls).map r4D = X at *
  generalize (stR y p 0 0 (rpl ls k q)).map r4D = Y at *
  generalize (rpl ls k q).map am = L2 at *
  generalize ls.map am = L1 at *
  simp [b_changed_rows, Dv.envOf, e1, e2, e3, e4]
end Wk14

set_option Elab.async false
set_option linter.all false
set_option maxRecDepth 100000
set_option maxHeartbeats 4000000
namespace Wk14
open PySem PySem.Spec PyProof.Rows L2 Dv
theorem any_ok {n : Nat} {d : D} {limit rate : Rat} {many : Nat} (g : Giv limit many rate) (hd : DS n d) (hn : n < 2 ^ 45) : ∃ q d', (FU MM).call "_law_any_layer" [.own d, .val (am limit)] = .ok (.val (am q), [.own d', .val (am limit)]) ∧ (Bd (6 * 420) NL q ∧ 0 ≤ q) ∧ DS (n + 5) d' := by
  obtain ⟨r, d1, e1, h1, hd1⟩ := f__law_draw (m := 6) hd (by omega) (by omega) (by omega)
  have k2 : 2 ≤ sizeLine := by decide
  have l0 := Rat.le_of_lt g.l0
  have lK : Dv.K 60 limit := g.lb.k60 (by omega) (by omega) (by omega)
  have nl : 100000000 ≤ NL := by decide
  rw [run__law_any_layer rfl]
  by_cases r0 : r = 0
  · subst r0
    exact ⟨0, d1, by simp [b__law_any_layer, Dv.envOf, e1, k2], ⟨Bd.zero, Rat.le_refl⟩, hd1.mono (by omega)⟩
  have r0' : ¬ (r : Int) = 0 := by omega
  by_cases r1 : r = 1
  · subst r1
    exact ⟨limit, d1, by simp [b__law_any_layer, Dv.envOf, e1], ⟨(g.lb.lift 420).mono (by omega), l0⟩, hd1.mono (by omega)⟩
  have r1' : ¬ (r : Int) = 1 := by omega
  by_cases r2 : r = 2
  · subst r2
    obtain ⟨q, d2, e2, hq, hp, hd2⟩ := part_drawn hd1 (by omega)
    have e3 := f__law_times limit q lK.ok60 ((hq.k60 (by omega) (by omega) (by omega)).ok60)
    have hb : Bd (6 * 420) (144 * 60 * 7) (limit * q) := (g.lb.mul hq).lift 7
    exact ⟨limit * q, d2, by simp [b__law_any_layer, Dv.envOf, e1, e2, e3], ⟨hb.mono (by omega), Rat.mul_nonneg l0 (Rat.le_of_lt hp)⟩, hd2.mono (by omega)⟩
  have r2' : ¬ (r : Int) = 2 := by omega
  by_cases r3 : r = 3
  · subst r3
    obtain ⟨a, d2, e2, h2, hd2⟩ := f__law_draw (m := 12) hd1 (by omega) (by omega) (by omega)
    obtain ⟨b, d3, e3, h3, hd3⟩ := f__law_draw (m := 3) hd2 (by omega) (by omega) (by omega)
    have e4 := f__law_amount (1 + (a : Int)) (1 + (b : Int)) (by omega) (oC_big (by omega))
    have hq : Bd 6 72 (Rat.divInt (1 + (a : Int)) (1 + (b : Int))) := by
      have key : ∀ c : Int, 0 ≤ c → c ≤ 6 → ((6 : Nat) : Int) = (1 + (b : Int)) * c → Bd 6 72 (Rat.divInt (1 + (a : Int)) (1 + (b : Int))) := fun c h4 h5 h6 =>
        Bd.divInt c (by omega) h6 (by
          rw [Int.natAbs_mul]
          exact (show _ ≤ 12 * 6 from Nat.mul_le_mul (by omega) (by omega)))
      rcases (by omega : b = 0 ∨ b = 1 ∨ b = 2) with rfl | rfl | rfl
      · exact key 6 (by omega) (by omega) (by omega)
      · exact key 3 (by omega) (by omega) (by omega)
      · exact key 2 (by omega) (by omega) (by omega)
    have hp : 0 < Rat.divInt (1 + (a : Int)) (1 + (b : Int)) := divInt_pos (by omega) (by omega)
    generalize Rat.divInt (1 + (a : Int)) (1 + (b : Int)) = q at *
    have e5 := f__law_times limit q lK.ok60 ((hq.k60 (by omega) (by omega) (by omega)).ok60)
    have hb : Bd (6 * 420) (144 * 72 * 70) (limit * q) := (g.lb.mul hq).lift 70
    exact ⟨limit * q, d3, by simp [b__law_any_layer, Dv.envOf, e1, e2, e3, e4, e5], ⟨hb.mono (by omega), Rat.mul_nonneg l0 (Rat.le_of_lt hp)⟩, hd3.mono (by omega)⟩
  · have r3' : ¬ (r : Int) = 3 := by omega
    obtain ⟨q, d2, e2, hq, hp, hd2⟩ := gap_ok hd1 (by omega)
    have hb : Bd (6 * 420) (144 * 420) q := hq.lift 420
    exact ⟨q, d2, by simp [b__law_any_layer, Dv.envOf, e1, r0, r0', r1, r1', r2, r2', r3, r3', e2], ⟨hb.mono (by omega), Rat.le_of_lt hp⟩, hd2.mono (by omega)⟩
theorem ltotal_own {qs : List Rat} {L M : Nat} (hq : ∀ q ∈ qs, Bd L M q) (hl : qs.length ≤ 12) (h0 : 0 < L) (h1 : L < 2 ^ 100) (h2 : M < 2 ^ 190) : (FU MM).call "_law_total" [.own (.lst (qs.map am))] = .ok (.val (am (sm 0 qs)), [.own (.lst (qs.map am))]) := by
  obtain ⟨o2, e⟩ := tot_loop (F := F42 MM) (S := S__law_total_0) (s := .own true (.lst (qs.map am))) (sl := .lck true (.lst (qs.map am))) (pp := .at_ 0) (o := some 0) rfl rfl (by rw [up42__law_plus]; exact f__law_plus) (fun n => dfl42__law_plus n) hq hl h0 h1 h2 (by simp) (fun _ => by simp) (fun _ => by simp)
  have k2 : 2 ≤ sizeLine := by decide
  rw [run__law_total rfl]
  simp [b__law_total, Dv.envOf, k2, e]
section
variable {y p : Ln} {ls : List Rat}
theorem ledger_right_ok (hy : LineOk y) (hp : LineOk p) (hl : Lay ls) : (FU MM).call "_law_ledger_right" [.val (lnD y), .val (lnD p), .val (.tup (ls.map am)), .val (.tup (rw4 y p ls))] = .ok (.val (.bl true), [.val (lnD y), .val (lnD p), .val (.tup (ls.map am)), .val (.tup (rw4 y p ls))]) := by
  obtain ⟨m1, m2, m3, m4, m5⟩ := nums
  have hr := rows_ok hy hp hl
  have h12 := hl.len
  have e1 := statement_ok hy hp hl
  have e3 := totals_ok hy hp hl
  have n1 : 12 * NL = N1 := rfl
  have ln : ls.length * NL ≤ 12 * NL := Nat.mul_le_mul_right _ h12
  have sB : Bd (6 * 420) N1 (sm 0 ls) := (sm_bd (A := 0) Bd.zero hl.bd).mono (by omega)
  have vB : Bd (6 * 25200) N2 (V y (sm 0 ls)) := (V_bd sB hy).mono (by unfold N2 M1; omega)
  have wB := V_bd vB hp
  have sO : Ok (sm 0 ls) := (k200 sB (by omega) (by omega) (by omega)).ok (by decide)
  have vO : Ok (V y (sm 0 ls)) := (k200 vB (by omega) (by omega) (by omega)).ok (by decide)
  have wO : Ok (V p (V y (sm 0 ls))) := (k200 wB (by omega) (by omega) numB.2).ok (by decide)
  have rO : ∀ r ∈ stR y p 0 0 ls, (FU MM).call "_law_is_row" [.val (r4D r), .val (.int 4)] = .ok (.val (.bl true), [.val (r4D r), .val (.int 4)]) := fun r h => by
    obtain ⟨b1, b2, b3, b4⟩ := hr r h
    refine f__law_is_row (l := [r.1, r.2.1, r.2.2.1, r.2.2.2]) (n := 4) rfl (len_lt (show 4 < 16777216 by decide)) fun q hq => ?_
    simp at hq
    rcases hq with rfl | rfl | rfl | rfl
    · exact (k200 b1 (by omega) (by omega) (by omega)).ok (by decide)
    · exact (k200 b2 (by omega) (by omega) (by omega)).ok (by decide)
    · exact (k200 b3 (by omega) (by omega) (by omega)).ok (by decide)
    · exact (k200 b4 (by omega) (by omega) (by omega)).ok (by decide)
  have e7 : (FU MM).call "_law_is_row" [.val (toD y p ls), .val (.int 3)] = .ok (.val (.bl true), [.val (toD y p ls), .val (.int 3)]) := by
    refine f__law_is_row (l := [sm 0 ls, V y (sm 0 ls), V p (V y (sm 0 ls))]) (n := 3) rfl (len_lt (show 3 < 16777216 by decide)) fun q hq => ?_
    simp at hq
    rcases hq with rfl | rfl | rfl
    · exact sO
    · exact vO
    · exact wO
  have nR : nice 3 (.tup ((stR y p 0 0 ls).map r4D)) := fun x hx => by
    obtain ⟨r, _, rfl⟩ := List.mem_map.mp hx
    exact nice_ams (us := [r.1, r.2.1, r.2.2.1, r.2.2.2]) fun q => q
  have nT : nice 2 (toD y p ls) := nice_ams (us := [sm 0 ls, V y (sm 0 ls), V p (V y (sm 0 ls))]) fun q => q
  have q1 := ne_nice (k := 3) nR nR (by decide)
  have q2 := eq_nice (k := 2) nT nT (by decide)
  rw [decide_eq_true rfl] at q1 q2
  simp only [Bool.not_true] at q1
  have rl : (stR y p 0 0 ls).length ≤ 12 := by rw [stR_len]; exact h12
  have t0 := ltotal_own (qs := (stR y p 0 0 ls).map fun r => r.1) (fun q hq => by obtain ⟨r, h, rfl⟩ := List.mem_map.mp hq; exact (hr r h).1) (by simpa using rl) (by omega) (by omega) (by omega)
  have t2 := ltotal_own (qs := (stR y p 0 0 ls).map fun r => r.2.2.1) (fun q hq => by obtain ⟨r, h, rfl⟩ := List.mem_map.mp hq; exact (hr r h).2.2.1) (by simpa using rl) (by omega) (by omega) (by omega)
  have t3 := ltotal_own (qs := (stR y p 0 0 ls).map fun r => r.2.2.2) (fun q hq => by obtain ⟨r, h, rfl⟩ := List.mem_map.mp hq; exact (hr r h).2.2.2) (by simpa using rl) (by omega) (by omega) (by omega)
  have hdT : toD y p ls = .tup [am (sm 0 ((stR y p 0 0 ls).map fun r => r.1)), am (sm 0 ((stR y p 0 0 ls).map fun r => r.2.2.1)), am (sm 0 ((stR y p 0 0 ls).map fun r => r.2.2.2))] := by
    rw [stR_0, stR_2, stR_3, (sums_eq hy hp).1, (sums_eq hy hp).2]
    rfl
  simp only [rw4]
  generalize toD y p ls = T at *
  generalize stR y p 0 0 ls = rows at *
  subst hdT
  let E0 : Option S → Option S → Env' := fun o5 o7 => [some (.val (lnD y)), some (.val (lnD p)), some (.val (.tup (ls.map am))), some (.val (.tup (rows.map r4D))), some (.val (.tup (rows.map r4D))), o5, none, o7, none]
  have c0 : ev (F43 MM) C__law_ledger_right_0 (E0 none none) = .ok (.own (.lst (rows.map fun _ => .bl true)), E0 none none) :=
    comp_mapE (xs := rows) (f := r4D) (g := fun _ => .bl true) (ρ1 := E0 none none) (ρw := E0 none none) (p := .val (.tup (rows.map r4D)))
      (by simp [E0]) (by simp [E0]) (len_lt (by omega)) (fun r h => by simp [turnW, turnR, E0, E__law_ledger_right_0, rO r h]) (fun out => by simp [compEnd, E0])
  have c2 : ∀ (num : Int) (f : R4 → Rat) (o5 : Option S), (∀ r, dIdx (r4D r) (.int num) = .ok (am (f r))) → ev (F43 MM) C__law_ledger_right_2 (E0 o5 (some (.val (.int num)))) = .ok (.own (.lst ((rows.map f).map am)), E0 o5 (some (.val (.int num)))) := fun num f o5 hf => by
    rw [List.map_map]
    exact comp_mapE (xs := rows) (f := r4D) (g := am ∘ f) (ρ1 := E0 o5 (some (.val (.int num)))) (ρw := E0 o5 (some (.val (.int num)))) (p := .val (.tup (rows.map r4D)))
      (by simp [E0]) (by simp [E0]) (len_lt (by omega)) (fun r _ => by simp [turnW, turnR, E0, E__law_ledger_right_2, hf]) (fun out => by simp [compEnd, E0])
  have c1 : ∀ o5 : Option S, ev (F43 MM) C__law_ledger_right_1 (E0 o5 none) = .ok (.own (.lst ([((0 : Int), fun r : R4 => r.1), (2, fun r => r.2.2.1), (3, fun r => r.2.2.2)].map fun z => am (sm 0 (rows.map z.2)))), E0 o5 none) := fun o5 =>
    comp_mapE (xs := [((0 : Int), fun r : R4 => r.1), (2, fun r => r.2.2.1), (3, fun r => r.2.2.2)]) (f := fun z => .int z.1) (g := fun z => am (sm 0 (rows.map z.2))) (ρ1 := E0 o5 none) (ρw := E0 o5 none) (p := .val (.tup [.int 0, .int 2, .int 3]))
      (by
        have k3 : 3 ≤ sizeLine := by decide
        simp [E0, k3]) (by simp [E0]) (len_lt (show 3 < 16777216 by decide)) (fun z hz => by
        have hf : ∀ r, dIdx (r4D r) (.int z.1) = .ok (am (z.2 r)) := fun r => by
          simp at hz
          rcases hz with rfl | rfl | rfl <;> simp [r4D]
        have ht : (FU MM).call "_law_total" [.own (.lst ((rows.map z.2).map am))] = .ok (.val (am (sm 0 (rows.map z.2))), [.own (.lst ((rows.map z.2).map am))]) := by
          simp at hz
          rcases hz with rfl | rfl | rfl
          · exact t0
          · exact t2
          · exact t3
        have h2 := c2 z.1 z.2 o5 hf
        generalize (rows.map z.2).map am = W at *
        simp only [E0] at h2
        simp [turnW, turnR, E0, E__law_ledger_right_1, h2, ht]) (fun out => by simp [compEnd, E0])
  have b1 := bls_true (l := rows)
  generalize rows.map (fun _ => D.bl true) = bl at *
  have h1 := c1 (some (.val (.tup [am (sm 0 (rows.map fun r => r.1)), am (sm 0 (rows.map fun r => r.2.2.1)), am (sm 0 (rows.map fun r => r.2.2.2))])))
  simp only [E0, List.map_cons, List.map_nil] at c0 h1
  generalize am (sm 0 (rows.map fun r => r.1)) = x0 at *
  generalize am (sm 0 (rows.map fun r => r.2.2.1)) = x2 at *
  generalize am (sm 0 (rows.map fun r => r.2.2.2)) = x3 at *
  rw [run__law_ledger_right rfl]
  simp [b__law_ledger_right, Dv.envOf, e1, c0, b1, -c36_dCmp, -c37_dCmp, q1, e3, h1, e7, q2]
theorem changes_ok {k : Nat} {q : Rat} (hy : LineOk y) (hp : LineOk p) (hl : Lay ls) (hq : Bd (6 * 420) NL q) (hk : k < ls.length) :
    (FU MM).call "_law_changes_right" [.val (lnD y), .val (lnD p), .val (.tup (ls.map am)), .val (.int (k : Nat)), .val (am q)] = .ok (.val (.bl true), [.val (lnD y), .val (lnD p), .val (.tup (ls.map am)), .val (.int (k : Nat)), .val (am q)]) := by
  have h12 := hl.len
  have hl2 := Lay.rpl hl hq hk
  have len2 : (rpl ls k q).length = ls.length := rpl_len hk
  have e1 := lrepl_ok (L := ls.map am) (k := k) (q := am q) (by simpa using h12)
  rw [repl_map] at e1
  have e2 := lstatement_ok hy hp hl
  have e3 := lstatement_ok hy hp hl2
  have e4 := lunlike_ok (X := rw4 y p ls) (Y := rw4 y p (rpl ls k q)) (by rw [rw4_len, rw4_len, len2]) rw4_nice rw4_nice (by rw [rw4_len]; exact h12)
  have e5 := changed_ok hy hp hl hq hk
  have e6 := changed_ok (q := ls[k]) hy hp hl2 (hl.bd _ (List.getElem_mem hk)) (by rw [len2]; exact hk)
  rw [rpl_back hk, ulD_comm (X := rw4 y p ls) (by rw [rw4_len, rw4_len, len2])] at e6
  have ul : (ulD (rw4 y p ls) (rw4 y p (rpl ls k q))).length < 1000 := by
    have := List.length_filter_le (ulP (rw4 y p ls) (rw4 y p (rpl ls k q))) (List.range (rw4 y p ls).length)
    rw [List.length_range, rw4_len] at this
    unfold ulD
    rw [rw4_len]
    omega
  have e7 := places_ok ul
  have a1 := atI_mapG (g := am) (List.getElem?_eq_getElem hk)
  rw [run__law_changes_right rfl]
  simp only [rw4] at *
  generalize (ulD ((stR y p 0 0 ls).map r4D) ((stR y p 0 0 (rpl ls k q)).map r4D)).map iD = U at *
  generalize (stR y p 0 0 ls).map r4D = X at *
  generalize (stR y p 0 0 (rpl ls k q)).map r4D = Y at *
  generalize (rpl ls k q).map am = L2 at *
  generalize am ls[k] = lk at *
  generalize ls.map am = L1 at *
  simp [b__law_changes_right, Dv.envOf, e1, e2, e3, e4, e5, e7, a1, e6]
end
end Wk14

set_option Elab.async false
set_option linter.all false
set_option maxRecDepth 100000
set_option maxHeartbeats 4000000
namespace Wk14
open PySem PySem.Spec PyProof.Rows L2 Dv
theorem le_one {q : Rat} (h : Bd 60 60 q) : q ≤ 1 := by
  obtain ⟨n, e, hn⟩ := h
  have h1 : (n : Rat) ≤ ((60 : Int) : Rat) := Rat.intCast_le_intCast.mpr (by omega)
  have h2 : ((60 : Nat) : Rat) = 60 := rfl
  have h3 : ((60 : Int) : Rat) = 60 := rfl
  grind
theorem nf_y {A : Rat} (h : LineOk (yL A)) : NF (yL A) := ⟨h, fun p hp => by
  simp [yL] at hp
  rcases hp with rfl | rfl
  · exact ⟨(show (0 : Rat) ≤ 1 by decide), (show (1 : Rat) ≤ 1 by decide)⟩
  · exact ⟨(show (0 : Rat) ≤ 0 by decide), (show (0 : Rat) ≤ 1 by decide)⟩, fun i p hp => by
  match i, hp with
  | 0, hp => simp [yL] at hp; subst hp; exact (show (1 : Rat) ≠ 0 by decide)
  | 1, hp => simp [yL] at hp; subst hp; simp [yL]
  | i + 2, hp => simp [yL] at hp⟩
theorem nf_p {many : Nat} {rate Bk : Rat} (h : LineOk (pL many rate Bk)) (h0 : 0 ≤ rate) (h1 : rate ≤ 1) : NF (pL many rate Bk) := by
  unfold pL at *
  split
  · exact ⟨⟨fun p hp => (List.not_mem_nil hp).elim, List.Pairwise.nil, by simp⟩, fun p hp => (List.not_mem_nil hp).elim, fun i p hp => by simp at hp⟩
  · rename_i hz
    rw [if_neg hz] at h
    have hr : ¬ rate = 0 := fun z => hz (.inr z)
    exact ⟨h, fun p hp => by
      simp at hp
      rcases hp with rfl | rfl
      · exact ⟨h0, h1⟩
      · exact ⟨(show (0 : Rat) ≤ 0 by decide), (show (0 : Rat) ≤ 1 by decide)⟩, fun i p hp => by
      match i, hp with
      | 0, hp => simp at hp; subst hp; exact hr
      | 1, hp => simp at hp; subst hp; simp; exact fun z => hr z.symm
      | i + 2, hp => simp at hp⟩
theorem nice_ln {l : Ln} : nice 3 (lnD l) := fun x hx => by
  obtain ⟨p, _, rfl⟩ := List.mem_map.mp hx
  exact nice_ams (us := [p.1, p.2]) fun q => q
def lA : Sxs := (.cons 
    (.set 6 (.blt .tuple (.cons C_law_0 .nil))) (.cons 
    (.set 7 (.blt .tuple (.cons (.call "_law_shuffled" (.cons (.var 1) (.cons (.var 6) .nil))) .nil))) (.cons 
    (.set 8 (.call "_law_draw" (.cons (.var 1) (.cons (.var 5) .nil)))) (.cons 
    (.set 9 (.call "_law_pick" (.cons (.var 1) (.cons (.lst (.cons (.idx (.var 6) (.var 8)) (.cons (.tup (.cons (.cst (.int 0)) (.cons (.cst (.int 1)) .nil))) (.cons (.call "_law_any_layer" (.cons (.var 1) (.cons (.var 2) .nil))) (.cons (.call "_law_any_layer" (.cons (.var 1) (.cons (.var 2) .nil))) .nil))))) .nil)))) (.cons 
    (.set 10 (.call "reinstated" (.cons (.var 2) (.cons (.var 3) (.cons (.var 4) .nil))))) (.cons 
    (.ite (.or_ (.cons (.not_ (.val (.isi .tup (.var 10)))) (.cons (.cmp .NotEq (.blt .len (.cons (.var 10) .nil)) (.cst (.int 2))) (.cons (.not_ (.val (.blt .all (.cons C_law_1 .nil)))) .nil)))) (.cons 
    (.ret (.cst (.bl false))) .nil) .nil) (.cons 
    (.set 11 (.call "_law_own_year" (.cons (.var 2) (.cons (.var 3) .nil)))) (.cons 
    (.set 12 (.call "_law_own_price" (.cons (.var 2) (.cons (.var 3) (.cons (.var 4) .nil))))) (.cons 
    (.ite (.cmp .NotEq (.var 10) (.tup (.cons (.var 11) (.cons (.var 12) .nil)))) (.cons 
    (.ret (.cst (.bl false))) .nil) .nil) (.cons 
    (.set 13 (.call "_law_ledger" (.cons (.var 2) (.cons (.var 3) (.cons (.var 4) (.cons (.var 6) .nil)))))) (.cons 
    (.ite (.not_ (.val (.call "_law_ledger_right" (.cons (.idx (.var 10) (.cst (.int 0))) (.cons (.idx (.var 10) (.cst (.int 1))) (.cons (.var 6) (.cons (.var 13) .nil))))))) (.cons 
    (.ret (.cst (.bl false))) .nil) .nil) (.cons 
    (.ite (.not_ (.val (.call "_law_ledger_right" (.cons (.idx (.var 10) (.cst (.int 0))) (.cons (.idx (.var 10) (.cst (.int 1))) (.cons (.var 7) (.cons (.call "_law_ledger" (.cons (.var 2) (.cons (.var 3) (.cons (.var 4) (.cons (.var 7) .nil))))) .nil))))))) (.cons 
    (.ret (.cst (.bl false))) .nil) .nil) (.cons 
    (.ite (.cmp .NotEq (.call "totals" (.cons (.idx (.var 10) (.cst (.int 0))) (.cons (.idx (.var 10) (.cst (.int 1))) (.cons (.var 7) .nil)))) (.call "totals" (.cons (.idx (.var 10) (.cst (.int 0))) (.cons (.idx (.var 10) (.cst (.int 1))) (.cons (.var 6) .nil))))) (.cons 
    (.ret (.cst (.bl false))) .nil) .nil) (.cons 
    (.set 14 (.call "_law_unlike" (.cons (.var 13) (.cons (.call "_law_ledger" (.cons (.var 2) (.cons (.var 3) (.cons (.var 4) (.cons (.call "_law_replaced" (.cons (.var 6) (.cons (.var 8) (.cons (.var 9) .nil)))) .nil))))) .nil)))) (.cons 
    (.ite (.not_ (.val (.call "_law_places_right" (.cons (.call "changed_rows" (.cons (.idx (.var 10) (.cst (.int 0))) (.cons (.idx (.var 10) (.cst (.int 1))) (.cons (.var 6) (.cons (.var 8) (.cons (.var 9) .nil)))))) (.cons (.var 14) .nil))))) (.cons 
    (.ret (.cst (.bl false))) .nil) .nil) (.cons 
    (.set 15 (.call "_law_line" (.cons (.var 1) (.cons (.call "_law_draw" (.cons (.var 1) (.cons (.cst (.int 5)) .nil))) .nil)))) (.cons 
    (.set 16 (.call "_law_line" (.cons (.var 1) (.cons (.call "_law_draw" (.cons (.var 1) (.cons (.cst (.int 5)) .nil))) .nil)))) (.cons 
    S_law_2 (.cons 
    (.ite (.cmp .NotEq (.call "changed_rows" (.cons (.var 15) (.cons (.var 16) (.cons (.var 6) (.cons (.var 8) (.cons (.idx (.var 6) (.var 8)) .nil)))))) (.tup .nil)) (.cons 
    (.ret (.cst (.bl false))) .nil) .nil) (.cons 
    (.ite (.cmp .NotEq (.call "reinstated" (.cons (.var 2) (.cons (.var 3) (.cons (.var 4) .nil)))) (.tup (.cons (.var 11) (.cons (.var 12) .nil)))) (.cons 
    (.ret (.cst (.bl false))) .nil) .nil) (.cons 
    (.ret (.call "_law_places_right" (.cons (.call "changed_rows" (.cons (.idx (.var 10) (.cst (.int 0))) (.cons (.idx (.var 10) (.cst (.int 1))) (.cons (.var 6) (.cons (.var 8) (.cons (.var 9) .nil)))))) (.cons (.var 14) .nil)))) .nil)))))))))))))))))))))
def lB1 : Sxs := (.cons 
    (.set 4 (.call "_law_pick" (.cons (.var 1) (.cons (.lst (.cons (.tup (.cons (.cst (.int 0)) (.cons (.cst (.int 1)) .nil))) (.cons (.tup (.cons (.cst (.int 1)) (.cons (.cst (.int 1)) .nil))) (.cons (.call "_law_part" (.cons (.var 1) .nil)) (.cons (.call "_law_part" (.cons (.var 1) .nil)) .nil))))) .nil)))) (.cons 
    (.set 5 (.bin .Add (.cst (.int 1)) (.call "_law_draw" (.cons (.var 1) (.cons (.cst (.int 6)) .nil))))) (.cons 
    (.ite (.val (.call "_law_rare" (.cons (.var 1) (.cons (.cst (.int 33)) .nil)))) (.cons 
    (.set 5 (.cst (.int 12))) .nil) .nil) lA)))
theorem lB : b_law = (.cons 
    (.set 1 (.call "_law_begin" (.cons (.var 0) .nil))) (.cons 
    (.set 2 (.call "_law_gap" (.cons (.var 1) .nil))) (.cons 
    (.set 3 (.call "_law_draw" (.cons (.var 1) (.cons (.cst (.int 4)) .nil)))) (.cons 
    (.ite (.cmp .Eq (.call "_law_draw" (.cons (.var 1) (.cons (.cst (.int 3)) .nil))) (.cst (.int 0))) (.cons 
    (.set 3 (.call "_law_draw" (.cons (.var 1) (.cons (.cst (.int 11)) .nil)))) .nil) .nil) lB1)))) := rfl
theorem law1 {ns : List Int} {d0 : D} (D0 : DS 0 d0) (eb : (FU MM).call "_law_begin" [.val (.scr ns)] = .ok (.own d0, [.val (.scr ns)])) :
    ∃ (limit rate : Rat) (many c : Nat) (d : D), exs (F56 MM) MM b_law (envOf 20 [.val (.scr ns)]) = exs (F56 MM) MM lA [some (.val (.scr ns)), some (.own false d), some (.val (am limit)), some (.val (.int (many : Nat))), some (.val (am rate)), some (.val (.int (c : Nat))), none, none, none, none, none, none, none, none, none, none, none, none, none, none] ∧
      Giv limit many rate ∧ 0 ≤ rate ∧ 1 ≤ c ∧ c ≤ 12 ∧ DS 100 d := by
  obtain ⟨limit, d1, e1, hl, l0, D1⟩ := gap_ok D0 (by omega)
  obtain ⟨m4, d2, e2, h2, D2⟩ := f__law_draw (m := 4) D1 (by omega) (by omega) (by omega)
  obtain ⟨r3, d3, e3, h3, D3⟩ := f__law_draw (m := 3) D2 (by omega) (by omega) (by omega)
  have go : ∀ (many : Nat) (d : D), many ≤ 10 → DS 5 d → (exs (F56 MM) MM b_law (envOf 20 [.val (.scr ns)]) = exs (F56 MM) MM (lB1) [some (.val (.scr ns)), some (.own false d), some (.val (am limit)), some (.val (.int (many : Nat))), none, none, none, none, none, none, none, none, none, none, none, none, none, none, none, none]) →
      ∃ (limit rate : Rat) (many c : Nat) (d : D), exs (F56 MM) MM b_law (envOf 20 [.val (.scr ns)]) = exs (F56 MM) MM lA [some (.val (.scr ns)), some (.own false d), some (.val (am limit)), some (.val (.int (many : Nat))), some (.val (am rate)), some (.val (.int (c : Nat))), none, none, none, none, none, none, none, none, none, none, none, none, none, none] ∧
      Giv limit many rate ∧ 0 ≤ rate ∧ 1 ≤ c ∧ c ≤ 12 ∧ DS 100 d := fun many d hm hd e => by
    obtain ⟨q1, d5, e5, hq1, p1, D5⟩ := part_drawn hd (by omega)
    obtain ⟨q2, d6, e6, hq2, p2, D6⟩ := part_drawn D5 (by omega)
    obtain ⟨x, d7, e7, hx, D7⟩ := f__law_pick (row := [am 0, am 1, am q1, am q2]) (R := .own (.lst [am 0, am 1, am q1, am q2])) (.inl rfl) D6 (by omega) (by simp) (by simp)
    have hr : ∃ rate : Rat, x = am rate ∧ Bd 60 60 rate ∧ 0 ≤ rate := by
      simp at hx
      rcases hx with rfl | rfl | rfl | rfl
      · exact ⟨0, rfl, Bd.zero, Rat.le_refl⟩
      · exact ⟨1, rfl, Bd.int (i := 1) (by omega), by decide⟩
      · exact ⟨q1, rfl, hq1, Rat.le_of_lt p1⟩
      · exact ⟨q2, rfl, hq2, Rat.le_of_lt p2⟩
    obtain ⟨rate, rfl, hb, r0⟩ := hr
    obtain ⟨r, d8, e8, h8, D8⟩ := f__law_draw (m := 6) D7 (by omega) (by omega) (by omega)
    obtain ⟨b, d9, e9, D9⟩ := f__law_rare (m := 33) D8 (by omega) (by omega) (by omega)
    have k2 : 2 ≤ sizeLine := by decide
    have k4 : 4 ≤ sizeLine := by decide
    have g : Giv limit many rate := ⟨l0, hl, hm, hb⟩
    rw [e]
    cases b with
    | false =>
      obtain ⟨c, hc, c1, c6⟩ : ∃ c : Nat, 1 + (r : Int) = (c : Int) ∧ 1 ≤ c ∧ c ≤ 12 := ⟨1 + r, by omega, by omega, by omega⟩
      exact ⟨limit, rate, many, c, d9, by simp [lB1, e5, e6, e7, e8, e9, k2, k4, hc], g, r0, c1, c6, D9.mono (by omega)⟩
    | true => exact ⟨limit, rate, many, 12, d9, by simp [lB1, e5, e6, e7, e8, e9, k2, k4], g, r0, by omega, by omega, D9.mono (by omega)⟩
  by_cases h0 : r3 = 0
  · subst h0
    obtain ⟨m11, d4, e4, h4, D4⟩ := f__law_draw (m := 11) D3 (by omega) (by omega) (by omega)
    exact go m11 d4 (by omega) (D4.mono (by omega)) (by rw [lB]; simp [Dv.envOf, eb, e1, e2, e3, e4])
  · exact go m4 d3 (by omega) (D3.mono (by omega)) (by rw [lB]; simp [Dv.envOf, eb, e1, e2, e3, h0])
end Wk14

set_option Elab.async false
set_option linter.all false
set_option maxRecDepth 100000
set_option maxHeartbeats 4000000
namespace Wk14
open PySem PySem.Spec PyProof.Rows L2 Dv
theorem sm_perm {l m : List Rat} (h : l.Perm m) : ∀ a : Rat, sm a l = sm a m := by
  induction h with
  | nil => intro a; rfl
  | cons x _ ih => intro a; exact ih _
  | swap x y l =>
    intro a
    show sm (a + y + x) l = sm (a + x + y) l
    congr 1
    grind
  | trans _ _ ih1 ih2 => intro a; rw [ih1, ih2]
theorem pure_law (ns : List Int) (hl : ns.length ≤ 63) (hbits : ∀ z ∈ ns, PySem.Builtin.Int.intBits z ≤ 1048576) : ∃ M as', (Dv.mkF glo M ds57).call "law" [.val (.scr ns)] = .ok (.val (.bl true), as') := by
  refine ⟨MM, [.val (.scr ns)], ?_⟩
  have D0 : DS 0 (.lst [.lst (ns.map .int), .int 0, .int 0, .int 7, .int 3]) := ⟨ns, 0, 0, 7, rfl, hbits, hl, by omega, by omega, by omega, big_pos, by omega, by omega⟩
  have eb : (FU MM).call "_law_begin" [.val (.scr ns)] = .ok (.own (.lst [.lst (ns.map .int), .int 0, .int 0, .int 7, .int 3]), [.val (.scr ns)]) := by
    rw [run__law_begin rfl]
    exact begin_ok hl
  generalize D.lst [.lst (ns.map .int), .int 0, .int 0, .int 7, .int 3] = d0 at *
  obtain ⟨limit, rate, many, c, d1, e1, g, r0, c1, c12, D1⟩ := law1 D0 eb
  obtain ⟨ls, d2, e2, hll, hlq, D2⟩ := comp_drE (F := F56 MM) (elt := E_law_0) (tg := .nm 18) (it := .rng (.var 5)) (ifs := .none) (own := [18]) (ρ := [some (.val (.scr ns)), some (.own false d1), some (.val (am limit)), some (.val (.int (many : Nat))), some (.val (am rate)), some (.val (.int (c : Nat))), none, none, none, none, none, none, none, none, none, none, none, none, none, none])
    (xs := List.range c) (f := fun k => .int (k : Nat)) (h := am) (Q := fun _ q => Bd (6 * 420) NL q ∧ 0 ≤ q) (p := .val .non) (d := d1) (n := 100)
    (ρ1 := [some (.val (.scr ns)), some (.own false d1), some (.val (am limit)), some (.val (.int (many : Nat))), some (.val (am rate)), some (.val (.int (c : Nat))), none, none, none, none, none, none, none, none, none, none, none, none, none, none])
    (E := fun d => [some (.val (.scr ns)), some (.own false d), some (.val (am limit)), some (.val (.int (many : Nat))), some (.val (am rate)), some (.val (.int (c : Nat))), none, none, none, none, none, none, none, none, none, none, none, none, none, none])
    (E' := fun d => [some (.val (.scr ns)), some (.own false d), some (.val (am limit)), some (.val (.int (many : Nat))), some (.val (am rate)), some (.val (.int (c : Nat))), none, none, none, none, none, none, none, none, none, none, none, none, none, none])
    5 (evi_rng (by simp) (by omega)) (by simp) (by rw [List.length_range]; exact len_lt (by omega)) D1 (fun i x d hx hd => by
      have hi := (List.getElem?_eq_some_iff.mp hx).1
      rw [List.length_range] at hi
      obtain ⟨q, d', e, hq, hd'⟩ := any_ok g hd (by omega)
      exact ⟨q, d', by simp [turnW, turnR, E_law_0, e], hq, hd'⟩) (fun d out => by simp [compEnd])
  rw [List.length_range] at hll D2
  change ev (F56 MM) C_law_0 _ = _ at e2
  have hL : Lay ls := ⟨fun q hq => by
    obtain ⟨i, hi⟩ := List.mem_iff_getElem?.mp hq
    exact (hlq i q hi).1, by omega⟩
  have hN : ∀ q ∈ ls, 0 ≤ q := fun q hq => by
    obtain ⟨i, hi⟩ := List.mem_iff_getElem?.mp hq
    exact (hlq i q hi).2
  obtain ⟨row, d8, e8, hpr, D8⟩ := f__law_shuffled (row := ls.map am) (R := .val (.tup (ls.map am))) (.inr (.inr rfl)) D2 (by omega) (by rw [List.length_map]; omega)
  obtain ⟨tl, rfl, ht⟩ := perm_map hpr ls rfl
  rw [List.length_map] at D8
  have hT : Lay tl := ⟨fun q hq => hL.bd q (ht.mem_iff.mp hq), by rw [ht.length_eq]; exact hL.len⟩
  have hTN : ∀ q ∈ tl, 0 ≤ q := fun q hq => hN q (ht.mem_iff.mp hq)
  obtain ⟨at_, d9, e9, h9, D9⟩ := f__law_draw (m := (c : Int)) D8 (by omega) (by omega) (by omega)
  have h9 : at_ < ls.length := by omega
  have a9 : atI (ls.map am) (at_ : Int) = some (am ls[at_]) := atI_mapG (List.getElem?_eq_getElem h9)
  obtain ⟨q1, d10, e10, hq1, D10⟩ := any_ok g D9 (by omega)
  obtain ⟨q2, d11, e11, hq2, D11⟩ := any_ok g D10 (by omega)
  obtain ⟨x, d12, e12, hx, D12⟩ := f__law_pick (row := [am ls[at_], am 0, am q1, am q2]) (R := .own (.lst [am ls[at_], am 0, am q1, am q2])) (.inl rfl) D11 (by omega) (by simp) (by simp)
  have hr : ∃ q : Rat, x = am q ∧ Bd (6 * 420) NL q ∧ 0 ≤ q := by
    simp at hx
    rcases hx with rfl | rfl | rfl | rfl
    · exact ⟨_, rfl, hL.bd _ (List.getElem_mem h9), hN _ (List.getElem_mem h9)⟩
    · exact ⟨0, rfl, Bd.zero, Rat.le_refl⟩
    · exact ⟨q1, rfl, hq1.1, hq1.2⟩
    · exact ⟨q2, rfl, hq2.1, hq2.2⟩
  obtain ⟨q, rfl, hq, hq0⟩ := hr
  have e13 := reinst_ok g
  have hy := g.yo
  have hp := g.po
  have ny := nf_y hy
  have np := nf_p hp r0 (le_one g.rb)
  have e14 := oyear_ok g
  have e15 := oprice_ok g
  have e16 := ledger_ok g hL hN
  have e17 := ledger_ok g hT hTN
  have e18 := ledger_right_ok hy hp hL
  have e19 := ledger_right_ok hy hp hT
  have hR : Lay (rpl ls at_ q) := Lay.rpl hL hq h9
  have e20 := ledger_ok g hR (fun z hz => (rpl_mem hz).elim (hN z) fun e => e ▸ hq0)
  have e21 := lrepl_ok (L := ls.map am) (k := at_) (q := am q) (by rw [List.length_map]; omega)
  rw [repl_map] at e21
  have u1 := totals_ok hy hp hT
  have u2 := totals_ok hy hp hL
  have ue : toD (yL (gA limit many)) (pL many rate (gB limit many)) tl = toD (yL (gA limit many)) (pL many rate (gB limit many)) ls := by unfold toD; rw [sm_perm ht]
  rw [ue] at u1
  have nT : nice 2 (toD (yL (gA limit many)) (pL many rate (gB limit many)) ls) := nice_ams (us := [sm 0 ls, V (yL (gA limit many)) (sm 0 ls), V (pL many rate (gB limit many)) (V (yL (gA limit many)) (sm 0 ls))]) fun q => q
  have x1 := ne_nice (k := 2) nT nT (by decide)
  rw [decide_eq_true rfl] at x1
  simp only [Bool.not_true] at x1
  have e22 := lunlike_ok (X := rw4 (yL (gA limit many)) (pL many rate (gB limit many)) ls) (Y := rw4 (yL (gA limit many)) (pL many rate (gB limit many)) (rpl ls at_ q)) (by rw [rw4_len, rw4_len, rpl_len h9]) rw4_nice rw4_nice (by rw [rw4_len]; omega)
  have e23 := changed_ok hy hp hL hq h9
  have ul : (ulD (rw4 (yL (gA limit many)) (pL many rate (gB limit many)) ls) (rw4 (yL (gA limit many)) (pL many rate (gB limit many)) (rpl ls at_ q))).length < 1000 := by
    have := List.length_filter_le (ulP (rw4 (yL (gA limit many)) (pL many rate (gB limit many)) ls) (rw4 (yL (gA limit many)) (pL many rate (gB limit many)) (rpl ls at_ q))) (List.range (rw4 (yL (gA limit many)) (pL many rate (gB limit many)) ls).length)
    rw [List.length_range, rw4_len] at this
    unfold ulD
    rw [rw4_len]
    omega
  have e24 := places_ok ul
  obtain ⟨m5, d13, e25, h25, D13⟩ := f__law_draw (m := 5) D12 (by omega) (by omega) (by omega)
  obtain ⟨dy, d14, e26, hdy, D14⟩ := line_ok (many := m5) D13 (by omega) (by omega)
  obtain ⟨m6, d15, e27, h27, D15⟩ := f__law_draw (m := 5) D14 (by omega) (by omega) (by omega)
  obtain ⟨dp, d16, e28, hdp, D16⟩ := line_ok (many := m6) D15 (by omega) (by omega)
  have e29 := changed_ok hdy hdp hL (hL.bd _ (List.getElem_mem h9)) h9
  rw [rpl_same h9, ulD_self, List.map_nil] at e29
  have nP : nice 4 (.tup [lnD (yL (gA limit many)), lnD (pL many rate (gB limit many))]) := fun x hx => by
    simp at hx
    rcases hx with rfl | rfl <;> exact nice_ln
  have x2 := ne_nice (k := 4) nP nP (by decide)
  rw [decide_eq_true rfl] at x2
  simp only [Bool.not_true] at x2
  have iy := is_line_ok ny
  have ip := is_line_ok np
  have ch := fun k (hk : k < ls.length) => changes_ok hdy hdp hL hq hk
  have c1x : ev (F56 MM) C_law_1 [some (.val (.scr ns)), some (.own false d12), some (.val (am limit)), some (.val (.int (many : Nat))), some (.val (am rate)), some (.val (.int (c : Nat))), some (.val (.tup (ls.map am))), some (.val (.tup (tl.map am))), some (.val (.int (at_ : Nat))), some (.val (am q)), some (.val (.tup [lnD (yL (gA limit many)), lnD (pL many rate (gB limit many))])), none, none, none, none, none, none, none, none, none] =
      .ok (.own (.lst [.bl true, .bl true]), [some (.val (.scr ns)), some (.own false d12), some (.val (am limit)), some (.val (.int (many : Nat))), some (.val (am rate)), some (.val (.int (c : Nat))), some (.val (.tup (ls.map am))), some (.val (.tup (tl.map am))), some (.val (.int (at_ : Nat))), some (.val (am q)), some (.val (.tup [lnD (yL (gA limit many)), lnD (pL many rate (gB limit many))])), none, none, none, none, none, none, none, none, none]) :=
    comp_mapE (xs := [yL (gA limit many), pL many rate (gB limit many)]) (f := lnD) (g := fun _ => .bl true) (ρ1 := [some (.val (.scr ns)), some (.own false d12), some (.val (am limit)), some (.val (.int (many : Nat))), some (.val (am rate)), some (.val (.int (c : Nat))), some (.val (.tup (ls.map am))), some (.val (.tup (tl.map am))), some (.val (.int (at_ : Nat))), some (.val (am q)), some (.val (.tup [lnD (yL (gA limit many)), lnD (pL many rate (gB limit many))])), none, none, none, none, none, none, none, none, none])
      (ρw := [some (.val (.scr ns)), some (.own false d12), some (.val (am limit)), some (.val (.int (many : Nat))), some (.val (am rate)), some (.val (.int (c : Nat))), some (.val (.tup (ls.map am))), some (.val (.tup (tl.map am))), some (.val (.int (at_ : Nat))), some (.val (am q)), some (.val (.tup [lnD (yL (gA limit many)), lnD (pL many rate (gB limit many))])), none, none, none, none, none, none, none, none, none])
      (p := .val (.tup [lnD (yL (gA limit many)), lnD (pL many rate (gB limit many))]))
      (by simp) (by simp) (len_lt (show 2 < 16777216 by decide)) (fun l hl => by
        have e : (FU MM).call "_law_is_line" [.val (lnD l)] = .ok (.val (.bl true), [.val (lnD l)]) := by
          simp at hl
          rcases hl with rfl | rfl
          · exact iy
          · exact ip
        simp [turnW, turnR, E_law_1, e]) (fun out => by simp [compEnd])
  obtain ⟨cm, hcm, cm2⟩ : ∃ cm : Nat, (c : Int) - 1 = (cm : Int) ∧ cm < ls.length := ⟨c - 1, by omega, by omega⟩
  simp only [gR, rw4] at *
  have nice2 : ∀ x : D, x = .tup [lnD (yL (gA limit many)), lnD (pL many rate (gB limit many))] → nice 4 x := fun x h => h ▸ nP
  generalize (ulD ((stR (yL (gA limit many)) (pL many rate (gB limit many)) 0 0 ls).map r4D) ((stR (yL (gA limit many)) (pL many rate (gB limit many)) 0 0 (rpl ls at_ q)).map r4D)).map iD = U at *
  generalize (stR (yL (gA limit many)) (pL many rate (gB limit many)) 0 0 ls).map r4D = X1 at *
  generalize (stR (yL (gA limit many)) (pL many rate (gB limit many)) 0 0 tl).map r4D = X2 at *
  generalize (stR (yL (gA limit many)) (pL many rate (gB limit many)) 0 0 (rpl ls at_ q)).map r4D = X3 at *
  generalize toD (yL (gA limit many)) (pL many rate (gB limit many)) ls = td at *
  generalize lnD (yL (gA limit many)) = yD at *
  generalize lnD (pL many rate (gB limit many)) = pD at *
  generalize am ls[at_] = lk at *
  generalize hL1 : ls.map am = L1 at *
  generalize tl.map am = L2 at *
  generalize (rpl ls at_ q).map am = L3 at *
  generalize lnD dy = dyD at *
  generalize lnD dp = dpD at *
  obtain ⟨ρ', ⟨o17, rfl, _⟩, loop⟩ := for_val (F := F56 MM) (N := MM) (S := S_law_2) rfl (d := .tup [iD at_, iD 0, iD cm]) (xs := [at_, 0, cm]) (f := iD)
    (ρ := [some (.val (.scr ns)), some (.own false d16), some (.val (am limit)), some (.val (.int (many : Nat))), some (.val (am rate)), some (.val (.int (c : Nat))), some (.val (.tup L1)), some (.val (.tup L2)), some (.val (.int (at_ : Nat))), some (.val (am q)), some (.val (.tup [yD, pD])), some (.val yD), some (.val pD), some (.val (.tup X1)), some (.val (.tup U)), some (.val dyD), some (.val dpD), none, none, none])
    (ρ1 := [some (.val (.scr ns)), some (.own false d16), some (.val (am limit)), some (.val (.int (many : Nat))), some (.val (am rate)), some (.val (.int (c : Nat))), some (.val (.tup L1)), some (.val (.tup L2)), some (.val (.int (at_ : Nat))), some (.val (am q)), some (.val (.tup [yD, pD])), some (.val yD), some (.val pD), some (.val (.tup X1)), some (.val (.tup U)), some (.val dyD), some (.val dpD), none, none, none])
    (fun i ρ => ∃ o : Option S, ρ = [some (.val (.scr ns)), some (.own false d16), some (.val (am limit)), some (.val (.int (many : Nat))), some (.val (am rate)), some (.val (.int (c : Nat))), some (.val (.tup L1)), some (.val (.tup L2)), some (.val (.int (at_ : Nat))), some (.val (am q)), some (.val (.tup [yD, pD])), some (.val yD), some (.val pD), some (.val (.tup X1)), some (.val (.tup U)), some (.val dyD), some (.val dpD), o, none, none] ∧ gFree (some o) = true)
    (by
      have k3 : 3 ≤ sizeLine := by decide
      simp [k3, hcm, iD]) ⟨none, rfl, rfl⟩
    (fun i k ρ hx ⟨o, e, ho⟩ => by
      subst e
      have hk : k < ls.length := by
        have := List.mem_of_getElem? hx
        simp at this
        omega
      have z := ch k hk
      refine ⟨_, .inl ?_, some (.val (iD k)), rfl, rfl⟩
      simp [turnX, B_law_2, ho, z, iD])
  have x3 := ne_nice (k := 1) (d := .tup []) (e := .tup []) (fun x hx => (List.not_mem_nil hx).elim) (fun x hx => (List.not_mem_nil hx).elim) (by decide)
  rw [decide_eq_true rfl] at x3
  simp only [Bool.not_true] at x3
  have k0 : 0 ≤ sizeLine := Nat.zero_le _
  have k2 : 2 ≤ sizeLine := by decide
  have k4 : 4 ≤ sizeLine := by decide
  show (FU MM).call "law" _ = _
  rw [run_law rfl]
  show (exs (F56 MM) MM b_law (envOf 20 [.val (.scr ns)])).bind _ = _
  rw [e1]
  simp [lA, e2, e8, e9, a9, e10, e11, k4, k2, k0, e12, e13, c1x, e14, e15, -c37_dCmp, x2, x3, e16, e17, e18, e19, u1, u2, x1, e21, e20, e22, e23, e24, e25, e26, e27, e28, loop, e29]
end Wk14

open PySem PySem.W PySem.Calls PyProof.Rows
theorem PySem.Challenge.cw_cedewheel_k14_changed_rows_and_reinstate_holds : PySem.Challenge.rw_cedewheel_k14_changed_rows_and_reinstate.Holds := by
  w_on; o_law
  refine HandSHeadRun.head_imp (r := OpenLaw.row PySem.Challenge.rw_cedewheel_k14_changed_rows_and_reinstate) (q := view (OpenLaw.row PySem.Challenge.rw_cedewheel_k14_changed_rows_and_reinstate).prog [0, 68]) (H := Wk14.hk) (ob := Wk14.ob) (M := 20000) (loose := Wk14.names) (d := HandSHeadRun.topDef (OpenLaw.row PySem.Challenge.rw_cedewheel_k14_changed_rows_and_reinstate).prog 68) (kwd := []) Wk14.ob_eq
    Wk14.run (by kernel_rfl) (by kernel_rfl) (by kernel_rfl) (by rfl) (by first | assumption | decide +kernel) (by decide +kernel) ⟨rfl, rfl, rfl, rfl, rfl, by decide +kernel⟩ ?hw ?hc
  case hw => w_witness2
  case hc =>
    refine Dv.walk_ofEB (l := PySem.Challenge.rw_cedewheel_k14_changed_rows_and_reinstate) (n := 63) (k := 57) (x := "script") (CX := fun w => L2.CX (PySem.Challenge.rw_cedewheel_k14_changed_rows_and_reinstate).prog w) rfl (by decide) (by kernel_rfl) ⟨rfl, by decide, by decide⟩ ?F (fun w H s e s' z => Dv.cx_none _ w H s e s' z)
    intro w mg fa h Y G hmg0
    obtain ⟨K, KX, c⟩ := Y
    have hmg : mg ("law" : PySem.Str) = some (.ref fa) := by
      have e : (HandSHeadRun.topDef (OpenLaw.row PySem.Challenge.rw_cedewheel_k14_changed_rows_and_reinstate).prog 68).name = ("law" : PySem.Str) := by kernel_rfl
      rw [← e]
      exact hmg0
    obtain ⟨fd, hb, hF⟩ := Wk14.facts (P := (PySem.Challenge.rw_cedewheel_k14_changed_rows_and_reinstate).prog) (w := w) KX G hmg c.t.d c.more
    refine ⟨K, fd, _, KX, hb, fun H a ns hl hbits hS => ?_, hF⟩
    obtain ⟨M, as', e⟩ := Wk14.pure_law ns hl hbits
    exact ⟨M, Dv.sp_law hS e⟩

