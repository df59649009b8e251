import PyProof.Rows.All
import Wide.All
import OpenK.AllK
import Wide.FinOn
import HandS.ForMost
import HandS.Wide
import HandS.WideBits
import HandS.Gcd
import HandS.IsInst
import HandS.Deep
import HandS.TupAny
import HandS.ForExc
import HandS.CallSlots
import HandS.More
import HandS.MapJoin
import HandS.Zip
import KE.GoesMore
import KE.GoesZip
import KE.GoesEnum
import HandS.Defaults
import HandS.EndBits
import HandS.HeadHook4
import HandS.Head0
import HandS.Head1
import HandS.Head2
import HandS.HeadEnd
import HandS.Head3
import HandS.HeadHook1
import HandS.HeadHook2
import HandS.HeadHook3
import PySem.Challenge.RW_cedewheel_k31_rows_of_rays
set_option Elab.async false
set_option linter.all false
set_option maxRecDepth 100000
namespace Dv
open PySem PySem.Spec PyProof.Rows L2

/-- data, by value -/
inductive D where
  | non | bl (b : Bool) | int (i : Int) | str (x : Str) | tup (l : List D) | lst (l : List D) | dic (ks : List Key) (l : List D) | scr (l : List Int)

abbrev AS := Addr → Prop
/-- a list that nobody changes -/
def ScrL (K : PySem.W.Frag) (H : Hp) (W : AS) (a : Addr) (xs : List V) : Prop :=
  (H a = some (.lst xs) ∧ ¬ W a) ∨ (∃ o, H a = some (.frz o (.lst xs))) ∨
    ∃ (o : Obj) (its : Array Value) (n : Nat), K.lookup a = some o ∧ o.cls = .type "list" ∧ o.dict = none ∧ o.data = .seq its n ∧ its.size ≤ sizeLine ∧ Vals xs its.toList
/-- a tuple -/
def TupL (K : PySem.W.Frag) (H : Hp) (a : Addr) (xs : List V) : Prop :=
  H a = some (.tup xs) ∨ ∃ (o : Obj) (its : Array Value) (n : Nat), K.lookup a = some o ∧ o.cls = .type "tuple" ∧ o.data = .seq its n ∧ its.size ≤ sizeLine ∧ Vals xs its.toList
theorem TupL.sq {K : PySem.W.Frag} {H : Hp} {a : Addr} {xs : List V} (h : TupL K H a xs) : SqT K H a xs := by
  rcases h with h | h
  · exact .inl (.inl h)
  · exact .inr h
theorem TupL.of {K : PySem.W.Frag} {H : Hp} {a : Addr} {xs : List V} (h : H a = some (.tup xs)) : TupL K H a xs := .inl h
theorem ScrL.sq {K : PySem.W.Frag} {H : Hp} {W : AS} {a : Addr} {xs : List V} (h : ScrL K H W a xs) : SqL K H a xs := by
  rcases h with h | h | h
  · exact .inl (.inl h.1)
  · exact .inl (.inr h)
  · exact .inr h

mutual
def RepD (K : PySem.W.Frag) (H : Hp) (W : AS) : V → D → Prop
  | v, .non => v = .non
  | v, .bl b => v = .bl b
  | v, .int i => v = .int i
  | v, .str x => v = .str x
  | v, .tup l => ∃ a vs, v = .ref a ∧ TupL K H a vs ∧ RepDs K H W vs l
  | v, .lst l => ∃ a vs, v = .ref a ∧ H a = some (.lst vs) ∧ ¬ W a ∧ RepDs K H W vs l
  | v, .scr l => ∃ a, v = .ref a ∧ ScrL K H W a (l.map V.int)
  | v, .dic ks l => ∃ a kvs, v = .ref a ∧ H a = some (.dK kvs) ∧ ¬ W a ∧ kvs.map (·.1) = ks ∧ RepDs K H W (kvs.map (·.2)) l
def RepDs (K : PySem.W.Frag) (H : Hp) (W : AS) : List V → List D → Prop
  | vs, [] => vs = []
  | vs, d :: ds => ∃ v r, vs = v :: r ∧ RepD K H W v d ∧ RepDs K H W r ds
end

/-- what a mutable object holds -/
def RepO (K : PySem.W.Frag) (H : Hp) (W : AS) (o : HO) : D → Prop
  | .lst l => ∃ vs, o = .lst vs ∧ RepDs K H W vs l
  | .dic ks l => ∃ kvs, o = .dK kvs ∧ kvs.map (·.1) = ks ∧ RepDs K H W (kvs.map (·.2)) l
  | _ => False
/-- a mutable kind -/
def Mk1 : HO → Prop
  | .lst _ => True
  | .dK _ => True
  | _ => False
/-- W: addresses that somebody may change -/
def WL (H : Hp) (W : AS) : Prop := ∀ a, W a → ∃ o, H a = some o ∧ Mk1 o

/-- what is not in W stays, outside W -/
def Adv (H : Hp) (W : AS) (H' : Hp) (W' : AS) : Prop := ∀ b o, H b = some o → ¬ W b → H' b = some o ∧ ¬ W' b

section
variable {K : PySem.W.Frag} {H H' : Hp} {W W' : AS}
theorem RepO.mk1 {o : HO} {d : D} (h : RepO K H W o d) : Mk1 o := by
  cases d with
  | lst l => obtain ⟨vs, rfl, _⟩ := h; trivial
  | dic ks l => obtain ⟨vs, rfl, _⟩ := h; trivial
  | _ => exact h.elim
theorem WL.tup (wl : WL H W) {a : Addr} {vs : List V} (h : H a = some (.tup vs)) : ¬ W a := fun w => by
  obtain ⟨o, e, m⟩ := wl a w
  rw [h] at e; cases e; exact m
theorem WL.frz (wl : WL H W) {a : Addr} {ob : Obj} {u : HO} (h : H a = some (.frz ob u)) : ¬ W a := fun w => by
  obtain ⟨o, e, m⟩ := wl a w
  rw [h] at e; cases e; exact m
theorem TupL.adv (wl : WL H W) (ad : Adv H W H' W') {a : Addr} {vs : List V} (h : TupL K H a vs) : TupL K H' a vs := by
  rcases h with h | h
  · exact .inl (ad _ _ h (wl.tup h)).1
  · exact .inr h
theorem Rd.adv (ad : Adv H W H' W') {a : Addr} {u : HO} (h : Rd H a u) (w : ¬ W a) : Rd H' a u ∧ ¬ W' a := by
  rcases h with h | ⟨o, h⟩
  · exact ⟨.inl (ad _ _ h w).1, (ad _ _ h w).2⟩
  · exact ⟨.inr ⟨o, (ad _ _ h w).1⟩, (ad _ _ h w).2⟩
theorem ScrL.adv (wl : WL H W) (ad : Adv H W H' W') {a : Addr} {xs : List V} (h : ScrL K H W a xs) : ScrL K H' W' a xs := by
  rcases h with ⟨h, w⟩ | ⟨o, h⟩ | h
  · exact .inl (ad _ _ h w)
  · exact .inr (.inl ⟨o, (ad _ _ h (wl.frz h)).1⟩)
  · exact .inr (.inr h)
mutual
theorem RepD.adv (wl : WL H W) (ad : Adv H W H' W') : ∀ {d : D} {v : V}, RepD K H W v d → RepD K H' W' v d
  | .non, _, h => h
  | .bl _, _, h => h
  | .int _, _, h => h
  | .str _, _, h => h
  | .tup _, _, h => by
    obtain ⟨a, vs, e, q, r⟩ := h
    exact ⟨a, vs, e, TupL.adv wl ad q, RepDs.adv wl ad r⟩
  | .lst _, _, h => by
    obtain ⟨a, vs, e, q, w, r⟩ := h
    exact ⟨a, vs, e, (ad _ _ q w).1, (ad _ _ q w).2, RepDs.adv wl ad r⟩
  | .scr _, _, h => by
    obtain ⟨a, e, q⟩ := h
    exact ⟨a, e, q.adv wl ad⟩
  | .dic _ _, _, h => by
    obtain ⟨a, vs, e, q, w, k, r⟩ := h
    exact ⟨a, vs, e, (ad _ _ q w).1, (ad _ _ q w).2, k, RepDs.adv wl ad r⟩
theorem RepDs.adv (wl : WL H W) (ad : Adv H W H' W') : ∀ {ds : List D} {vs : List V}, RepDs K H W vs ds → RepDs K H' W' vs ds
  | [], _, h => h
  | _ :: _, _, h => by
    obtain ⟨v, r, e, q, s⟩ := h
    exact ⟨v, r, e, RepD.adv wl ad q, RepDs.adv wl ad s⟩
end
theorem RepO.adv (wl : WL H W) (ad : Adv H W H' W') {o : HO} {d : D} (h : RepO K H W o d) : RepO K H' W' o d := by
  cases d with
  | lst l => obtain ⟨vs, e, r⟩ := h; exact ⟨vs, e, r.adv wl ad⟩
  | dic ks l => obtain ⟨vs, e, k, r⟩ := h; exact ⟨vs, e, k, r.adv wl ad⟩
  | _ => exact h.elim
theorem RepDs.length : ∀ {ds : List D} {vs : List V}, RepDs K H W vs ds → vs.length = ds.length
  | [], _, h => by rw [show _ = [] from h]; rfl
  | _ :: _, _, h => by
    obtain ⟨v, r, rfl, _, s⟩ := h
    rw [List.length_cons, List.length_cons, RepDs.length s]
theorem RepDs.get : ∀ {ds : List D} {vs : List V} {i : Nat} {d : D}, RepDs K H W vs ds → ds[i]? = some d → ∃ v, vs[i]? = some v ∧ RepD K H W v d
  | [], _, _, _, _, e => by simp at e
  | _ :: _, _, 0, _, h, e => by
    obtain ⟨v, r, rfl, q, _⟩ := h
    simp at e; subst e; exact ⟨v, rfl, q⟩
  | _ :: _, _, i + 1, _, h, e => by
    obtain ⟨v, r, rfl, _, s⟩ := h
    obtain ⟨u, h1, h2⟩ := RepDs.get (i := i) s (by simpa using e)
    exact ⟨u, by simpa using h1, h2⟩
theorem RepDs.append : ∀ {ds es : List D} {vs us : List V}, RepDs K H W vs ds → RepDs K H W us es → RepDs K H W (vs ++ us) (ds ++ es)
  | [], _, _, _, h, q => by rw [show _ = [] from h]; exact q
  | _ :: _, _, _, _, h, q => by
    obtain ⟨v, r, rfl, a, s⟩ := h
    exact ⟨v, _, rfl, a, RepDs.append s q⟩
theorem RepDs.set {d : D} {v : V} (r : RepD K H W v d) : ∀ {ds : List D} {vs : List V} (i : Nat), RepDs K H W vs ds → RepDs K H W (vs.set i v) (ds.set i d)
  | [], _, _, h => by rw [show _ = [] from h]; rfl
  | _ :: _, _, 0, h => by
    obtain ⟨u, q, rfl, _, s⟩ := h
    exact ⟨v, q, rfl, r, s⟩
  | _ :: _, _, i + 1, h => by
    obtain ⟨u, q, rfl, a, s⟩ := h
    exact ⟨u, _, rfl, a, RepDs.set r i s⟩
theorem RepDs.take : ∀ {ds : List D} {vs : List V} (n : Nat), RepDs K H W vs ds → RepDs K H W (vs.take n) (ds.take n)
  | _, _, 0, _ => by simp [RepDs]
  | [], _, _ + 1, h => by rw [show _ = [] from h]; simp [RepDs]
  | _ :: _, _, n + 1, h => by
    obtain ⟨u, q, rfl, a, s⟩ := h
    exact ⟨u, _, rfl, a, RepDs.take n s⟩
theorem RepDs.drop : ∀ {ds : List D} {vs : List V} (n : Nat), RepDs K H W vs ds → RepDs K H W (vs.drop n) (ds.drop n)
  | _, _, 0, h => by simpa using h
  | [], _, _ + 1, h => by rw [show _ = [] from h]; simp [RepDs]
  | _ :: _, _, n + 1, h => by
    obtain ⟨u, q, rfl, a, s⟩ := h
    simpa using RepDs.drop n s
theorem RepDs.one {v : V} {d : D} (h : RepD K H W v d) : RepDs K H W [v] [d] := ⟨v, [], rfl, h, rfl⟩
theorem RepDs.of_get : ∀ {ds : List D} {vs : List V}, vs.length = ds.length → (∀ (i : Nat) (v : V) (d : D), vs[i]? = some v → ds[i]? = some d → RepD K H W v d) → RepDs K H W vs ds
  | [], vs, e, _ => by
    show vs = []
    exact List.length_eq_zero_iff.mp e
  | d :: ds, [], e, _ => by simp at e
  | d :: ds, v :: vs, e, h => ⟨v, vs, rfl, h 0 v d rfl rfl, RepDs.of_get (by simpa using e) fun i u c h1 h2 => h (i + 1) u c (by simpa using h1) (by simpa using h2)⟩
end

/-! ### slots -/
inductive S where
  | val (d : D) | own (b : Bool) (d : D) | lck (b : Bool) (d : D) | brz (d : D)
abbrev Env' := List (Option S)
abbrev Sg := List (Option V)

/-- slot i may change the object at a -/
def OwnU (σ : Sg) (ρ : Env') (i : Nat) (a : Addr) : Prop := (∃ b d, ρ[i]? = some (some (.own b d))) ∧ σ[i]? = some (some (.ref a))
/-- .. or bears it, locked -/
def OwnA (σ : Sg) (ρ : Env') (i : Nat) (a : Addr) : Prop := ((∃ b d, ρ[i]? = some (some (.own b d))) ∨ ∃ b d, ρ[i]? = some (some (.lck b d))) ∧ σ[i]? = some (some (.ref a))

/-- what is fixed through a def's body: the written part, what was free at the entry, the borrowed slots -/
structure Tc where
  K : PySem.W.Frag
  fz : AS
  bm : Nat → Option Addr

def RelS (T : Tc) (H : Hp) (W : AS) (o : Option V) : S → Prop
  | .val d => ∃ v, o = some v ∧ RepD T.K H W v d
  | .brz d => ∃ v, o = some v ∧ RepD T.K H W v d
  | .own _ d => ∃ a ob, o = some (.ref a) ∧ H a = some ob ∧ W a ∧ RepO T.K H W ob d
  | .lck _ d => ∃ a ob, o = some (.ref a) ∧ H a = some ob ∧ W a ∧ RepO T.K H W ob d

def isBor : S → Prop
  | .own true _ => True
  | .lck true _ => True
  | .brz _ => True
  | _ => False

structure Rel (T : Tc) (σ : Sg) (H : Hp) (ρ : Env') (W : AS) : Prop where
  len : ρ.length = σ.length
  at_ : ∀ (i : Nat) (s : S), ρ[i]? = some (some s) → ∃ o, σ[i]? = some o ∧ RelS T H W o s
  sep : ∀ i j a, OwnA σ ρ i a → OwnA σ ρ j a → i = j
  wl : WL H W
  fr : ∀ (i : Nat) (d : D) (a : Addr), (ρ[i]? = some (some (.own false d)) ∨ ρ[i]? = some (some (.lck false d))) → σ[i]? = some (some (.ref a)) → T.fz a
  fzk : ∀ a, H a = none → T.fz a
  bor : ∀ i a, T.bm i = some a → σ[i]? = some (some (.ref a)) ∧ ∃ s, ρ[i]? = some (some s) ∧ isBor s

/-- from one state to the next: what no unlocked slot bears is kept -/
def Step (σ : Sg) (H : Hp) (ρ : Env') (W : AS) (σ' : Sg) (H' : Hp) (ρ' : Env') (W' : AS) : Prop :=
  ∀ b o, H b = some o → (∀ i, ¬ OwnU σ ρ i b) → H' b = some o ∧ (∀ i, ¬ OwnU σ' ρ' i b) ∧ (W' b ↔ W b)

section
variable {T : Tc} {σ σ' σ2 : Sg} {H H' H2 : Hp} {ρ ρ' ρ2 : Env'} {W W' W2 : AS}
theorem Step.refl : Step σ H ρ W σ H ρ W := fun b o h n => ⟨h, n, Iff.rfl⟩
theorem Step.trans (a : Step σ H ρ W σ' H' ρ' W') (b : Step σ' H' ρ' W' σ2 H2 ρ2 W2) : Step σ H ρ W σ2 H2 ρ2 W2 := fun x o h n => by
  obtain ⟨h1, n1, w1⟩ := a x o h n
  obtain ⟨h2, n2, w2⟩ := b x o h1 n1
  exact ⟨h2, n2, w2.trans w1⟩
theorem OwnU.a {i : Nat} {a : Addr} (h : OwnU σ ρ i a) : OwnA σ ρ i a := ⟨.inl h.1, h.2⟩
theorem Rel.ownA (r : Rel T σ H ρ W) {i : Nat} {a : Addr} (h : OwnA σ ρ i a) : W a ∧ ∃ o, H a = some o ∧ Mk1 o := by
  obtain ⟨h1, h2⟩ := h
  rcases h1 with ⟨b, d, e⟩ | ⟨b, d, e⟩
  all_goals
    obtain ⟨o, e2, q⟩ := r.at_ _ _ e
    rw [h2] at e2; cases e2
    obtain ⟨a', ob, e3, e4, w, z⟩ := q
    cases e3
    exact ⟨w, ob, e4, z.mk1⟩
theorem Rel.nown (r : Rel T σ H ρ W) {b : Addr} (w : ¬ W b) (i : Nat) : ¬ OwnU σ ρ i b := fun h => w (r.ownA h.a).1
theorem Step.adv (s : Step σ H ρ W σ' H' ρ' W') (r : Rel T σ H ρ W) : Adv H W H' W' := fun b o h w => by
  obtain ⟨h1, _, w1⟩ := s b o h (r.nown w)
  exact ⟨h1, fun z => w (w1.mp z)⟩
end
end Dv

set_option Elab.async false
set_option linter.all false
set_option maxRecDepth 100000
namespace Dv
open PySem PySem.Spec PyProof.Rows L2

/-- what an expression hands on: data, a new mutable object, a slot's object -/
inductive P where
  | val (d : D) | own (d : D) | at_ (i : Nat)

def RepP (T : Tc) (σ : Sg) (H : Hp) (ρ : Env') (W : AS) (v : V) : P → Prop
  | .val d => RepD T.K H W v d
  | .own d => ∃ a o, v = .ref a ∧ H a = some o ∧ W a ∧ (∀ i, ¬ OwnA σ ρ i a) ∧ T.fz a ∧ RepO T.K H W o d
  | .at_ i => σ[i]? = some (some v)

/-- Step, but for the addresses in A -/
def StepX (A : AS) (σ : Sg) (H : Hp) (ρ : Env') (W : AS) (σ' : Sg) (H' : Hp) (ρ' : Env') (W' : AS) : Prop :=
  ∀ b o, H b = some o → (∀ i, ¬ OwnU σ ρ i b) → ¬ A b → H' b = some o ∧ (∀ i, ¬ OwnU σ' ρ' i b) ∧ (W' b ↔ W b)
/-- locked slots stay -/
def Lk (ρ ρ' : Env') : Prop := ∀ (i : Nat) (b : Bool) (d : D), ρ[i]? = some (some (.lck b d)) → ρ'[i]? = some (some (.lck b d))
def Mon (σ : Sg) (ρ ρ' : Env') : Prop := ∀ i a, OwnA σ ρ' i a → OwnA σ ρ i a

def peek : P → Env' → Option D
  | .val d, _ => some d
  | .own d, _ => some d
  | .at_ i, ρ => match ρ[i]? with
    | some (some (.val d)) => some d
    | some (some (.own _ d)) => some d
    | some (some (.lck _ d)) => some d
    | some (some (.brz d)) => some d
    | _ => none
def thaw (b : Bool) (d : D) : S := match b with | true => .brz d | false => .val d
def toD : P → Env' → Option (D × Env')
  | .val d, ρ => some (d, ρ)
  | .own d, ρ => some (d, ρ)
  | .at_ i, ρ => match ρ[i]? with
    | some (some (.val d)) => some (d, ρ)
    | some (some (.brz d)) => some (d, ρ)
    | some (some (.own b d)) => some (d, ρ.set i (some (thaw b d)))
    | _ => none
def toDs : List P → Env' → Option (List D × Env')
  | [], ρ => some ([], ρ)
  | p :: ps, ρ => (toD p ρ).bind fun r => (toDs ps r.2).bind fun q => some (r.1 :: q.1, q.2)

/-- data as it may be read now -/
def RepK (K : PySem.W.Frag) (H : Hp) (W : AS) (v : V) (d : D) : Prop := (∃ a o, v = .ref a ∧ H a = some o ∧ RepO K H W o d) ∨ RepD K H W v d

section
variable {T : Tc} {σ σ' σ2 : Sg} {H H' H2 : Hp} {ρ ρ' ρ2 : Env'} {W W' W2 : AS} {A : AS}
theorem Step.x (s : Step σ H ρ W σ' H' ρ' W') : StepX A σ H ρ W σ' H' ρ' W' := fun b o h n _ => s b o h n
theorem Step.then (a : Step σ H ρ W σ' H' ρ' W') (b : StepX A σ' H' ρ' W' σ2 H2 ρ2 W2) (n : ∀ x, A x → H x = none) : Step σ H ρ W σ2 H2 ρ2 W2 := fun x o h m => by
  obtain ⟨h1, n1, w1⟩ := a x o h m
  obtain ⟨h2, n2, w2⟩ := b x o h1 n1 fun z => by rw [n x z] at h; cases h
  exact ⟨h2, n2, w2.trans w1⟩
theorem Lk.refl : Lk ρ ρ := fun _ _ _ h => h
theorem Lk.trans (a : Lk ρ ρ') (b : Lk ρ' ρ2) : Lk ρ ρ2 := fun i c d h => b i c d (a i c d h)
theorem Lk.set {i : Nat} {s : Option S} (h : ∀ b d, ρ[i]? ≠ some (some (.lck b d))) : Lk ρ (ρ.set i s) := fun j b d e => by
  have ne : i ≠ j := fun z => h b d (by rw [z]; exact e)
  rw [List.getElem?_set_ne ne]
  exact e
theorem Mon.refl : Mon σ ρ ρ := fun _ _ h => h
theorem Mon.trans (a : Mon σ ρ ρ') (b : Mon σ ρ' ρ2) : Mon σ ρ ρ2 := fun i x h => a i x (b i x h)

theorem RepD.k {K : PySem.W.Frag} {v : V} {d : D} (h : RepD K H W v d) : RepK K H W v d := .inr h
theorem RepK.lst {K : PySem.W.Frag} {v : V} {l : List D} (h : RepK K H W v (.lst l)) : ∃ a vs, v = .ref a ∧ H a = some (.lst vs) ∧ RepDs K H W vs l := by
  rcases h with ⟨a, o, e, r, vs, rfl, q⟩ | ⟨a, vs, e, r, _, q⟩
  · exact ⟨a, vs, e, r, q⟩
  · exact ⟨a, vs, e, r, q⟩
theorem RepK.dic {K : PySem.W.Frag} {v : V} {ks : List Key} {l : List D} (h : RepK K H W v (.dic ks l)) : ∃ a kvs, v = .ref a ∧ H a = some (.dK kvs) ∧ kvs.map (·.1) = ks ∧ RepDs K H W (kvs.map (·.2)) l := by
  rcases h with ⟨a, o, e, r, vs, rfl, q⟩ | ⟨a, vs, e, r, _, q⟩
  · exact ⟨a, vs, e, r, q⟩
  · exact ⟨a, vs, e, r, q⟩
theorem RepK.tup {K : PySem.W.Frag} {v : V} {l : List D} (h : RepK K H W v (.tup l)) : ∃ a vs, v = .ref a ∧ TupL K H a vs ∧ RepDs K H W vs l := by
  rcases h with ⟨a, o, e, r, q⟩ | h
  · exact q.elim
  · exact h
theorem RepK.scr {K : PySem.W.Frag} {v : V} {l : List Int} (h : RepK K H W v (.scr l)) : ∃ a, v = .ref a ∧ SqL K H a (l.map V.int) := by
  rcases h with ⟨a, o, e, r, q⟩ | ⟨a, e, q⟩
  · exact q.elim
  · exact ⟨a, e, q.sq⟩
theorem RepK.int {K : PySem.W.Frag} {v : V} {i : Int} (h : RepK K H W v (.int i)) : v = .int i := by
  rcases h with ⟨a, o, e, r, q⟩ | h
  · exact q.elim
  · exact h
theorem RepK.bl {K : PySem.W.Frag} {v : V} {i : Bool} (h : RepK K H W v (.bl i)) : v = .bl i := by
  rcases h with ⟨a, o, e, r, q⟩ | h
  · exact q.elim
  · exact h
theorem RepK.str {K : PySem.W.Frag} {v : V} {i : Str} (h : RepK K H W v (.str i)) : v = .str i := by
  rcases h with ⟨a, o, e, r, q⟩ | h
  · exact q.elim
  · exact h
theorem RepK.non {K : PySem.W.Frag} {v : V} (h : RepK K H W v .non) : v = .non := by
  rcases h with ⟨a, o, e, r, q⟩ | h
  · exact q.elim
  · exact h

theorem peek_ok (R : Rel T σ H ρ W) {p : P} {v : V} (h : RepP T σ H ρ W v p) {d : D} (e : peek p ρ = some d) : RepK T.K H W v d := by
  cases p with
  | val c => cases e; exact .inr h
  | own c =>
    cases e
    obtain ⟨a, o, e1, e2, _, _, _, q⟩ := h
    exact .inl ⟨a, o, e1, e2, q⟩
  | at_ i =>
    have h : σ[i]? = some (some v) := h
    have key : ∀ s : S, ρ[i]? = some (some s) → RelS T H W (some v) s := fun s es => by
      obtain ⟨o, e1, q⟩ := R.at_ i s es
      rw [h] at e1; cases e1; exact q
    simp only [peek] at e
    split at e
    · rename_i c es; cases e
      obtain ⟨u, z, q⟩ := key _ es
      cases z; exact .inr q
    · rename_i c es; cases e
      obtain ⟨a, ob, z, e2, _, q⟩ := key _ es
      cases z; exact .inl ⟨a, ob, rfl, e2, q⟩
    · rename_i c es; cases e
      obtain ⟨a, ob, z, e2, _, q⟩ := key _ es
      cases z; exact .inl ⟨a, ob, rfl, e2, q⟩
    · rename_i c es; cases e
      obtain ⟨u, z, q⟩ := key _ es
      cases z; exact .inr q
    · cases e

/-- what is held while something else runs -/
theorem RepP.step {v : V} {p : P} (h : RepP T σ H ρ W v p) (R : Rel T σ H ρ W) (s : Step σ H ρ W σ H' ρ' W') (m : Mon σ ρ ρ') : RepP T σ H' ρ' W' v p := by
  cases p with
  | val d => exact RepD.adv R.wl (s.adv R) h
  | own d =>
    obtain ⟨a, o, e, ha, w, n, f, q⟩ := h
    obtain ⟨h1, n1, w1⟩ := s a o ha fun i z => n i z.a
    exact ⟨a, o, e, h1, w1.mpr w, fun i z => n i (m i a z), f, q.adv R.wl (s.adv R)⟩
  | at_ i => exact h

/-- fewer may be changed: W shrinks by one address -/
theorem RepD.drop {K : PySem.W.Frag} {v : V} {d : D} (wl : WL H W) {a : Addr} (h : RepD K H W v d) : RepD K H (fun b => W b ∧ b ≠ a) v d :=
  h.adv wl fun b o e w => ⟨e, fun z => w z.1⟩
theorem RepO.drop {K : PySem.W.Frag} {o : HO} {d : D} (wl : WL H W) {a : Addr} (h : RepO K H W o d) : RepO K H (fun b => W b ∧ b ≠ a) o d :=
  h.adv wl fun b o e w => ⟨e, fun z => w z.1⟩
theorem RepO.d {K : PySem.W.Frag} {a : Addr} {o : HO} {d : D} (h : RepO K H W o d) (e : H a = some o) (w : ¬ W a) : RepD K H W (.ref a) d := by
  cases d with
  | lst l => obtain ⟨vs, rfl, q⟩ := h; exact ⟨a, vs, rfl, e, w, q⟩
  | dic ks l => obtain ⟨vs, rfl, k, q⟩ := h; exact ⟨a, vs, rfl, e, w, k, q⟩
  | _ => exact h.elim
theorem WL.drop (wl : WL H W) {a : Addr} : WL H (fun b => W b ∧ b ≠ a) := fun b w => wl b w.1

theorem getq_set {α : Type} {l : List α} {i j : Nat} {x y : α} (h : (l.set i x)[j]? = some y) : (i = j ∧ x = y ∧ i < l.length) ∨ (i ≠ j ∧ l[j]? = some y) := by
  by_cases e : i = j
  · subst e
    by_cases z : i < l.length
    · rw [List.getElem?_set_self z] at h
      exact .inl ⟨rfl, Option.some.inj h, z⟩
    · rw [List.getElem?_eq_none (by simpa using z)] at h; cases h
  · rw [List.getElem?_set_ne e] at h
    exact .inr ⟨e, h⟩

/-- a slot's object frozen -/
theorem freeze_at (R : Rel T σ H ρ W) {i : Nat} {b : Bool} {d : D} {v : V} (e : ρ[i]? = some (some (.own b d))) (hv : σ[i]? = some (some v)) :
    ∃ W', Rel T σ H (ρ.set i (some (thaw b d))) W' ∧ RepD T.K H W' v d ∧ Step σ H ρ W σ H (ρ.set i (some (thaw b d))) W' ∧ Mon σ ρ (ρ.set i (some (thaw b d))) := by
  obtain ⟨o, e1, a, ob, e2, ha, wa, q⟩ := R.at_ i _ e
  rw [hv] at e1; cases e1; cases e2
  have hi : i < ρ.length := (List.getElem?_eq_some_iff.mp e).1
  have oi : OwnU σ ρ i a := ⟨⟨b, d, e⟩, hv⟩
  have nt : ∀ c x y, thaw c x ≠ .own y d ∧ ∀ z, thaw c x ≠ .own y z ∧ thaw c x ≠ .lck y z := fun c x y => by cases c <;> simp [thaw]
  have mon : Mon σ ρ (ρ.set i (some (thaw b d))) := fun j x h => by
    obtain ⟨h1, h2⟩ := h
    rcases h1 with ⟨c, z, h1⟩ | ⟨c, z, h1⟩
    · rcases getq_set h1 with ⟨rfl, k, _⟩ | ⟨_, k⟩
      · exact absurd (Option.some.inj k) ((nt b d c).2 z).1
      · exact ⟨.inl ⟨c, z, k⟩, h2⟩
    · rcases getq_set h1 with ⟨rfl, k, _⟩ | ⟨_, k⟩
      · exact absurd (Option.some.inj k) ((nt b d c).2 z).2
      · exact ⟨.inr ⟨c, z, k⟩, h2⟩
  have nO : ∀ j, ¬ OwnA σ (ρ.set i (some (thaw b d))) j a := fun j h => by
    have hj := R.sep _ _ _ (mon j a h) oi.a
    subst hj
    obtain ⟨h1, _⟩ := h
    rcases h1 with ⟨c, z, h1⟩ | ⟨c, z, h1⟩ <;> rw [List.getElem?_set_self hi] at h1
    · exact absurd (Option.some.inj (Option.some.inj h1)) ((nt b d c).2 z).1
    · exact absurd (Option.some.inj (Option.some.inj h1)) ((nt b d c).2 z).2
  refine ⟨fun x => W x ∧ x ≠ a, ⟨by simpa using R.len, fun j s h => ?_, fun j k x h1 h2 => R.sep j k x (mon j x h1) (mon k x h2), R.wl.drop, fun j z x h1 h2 => ?_, R.fzk, fun j x h => ?_⟩, ?_, fun x o h n => ?_, mon⟩
  · rcases getq_set h with ⟨rfl, k, _⟩ | ⟨ne, k⟩
    · cases k
      refine ⟨_, hv, ?_⟩
      have fin : RepD T.K H (fun x => W x ∧ x ≠ a) (.ref a) d := (q.drop R.wl).d ha fun z => z.2 rfl
      cases b <;> exact ⟨_, rfl, fin⟩
    · obtain ⟨o, e3, r⟩ := R.at_ j s k
      refine ⟨o, e3, ?_⟩
      cases s with
      | val c => obtain ⟨u, e4, z⟩ := r; exact ⟨u, e4, z.drop R.wl⟩
      | brz c => obtain ⟨u, e4, z⟩ := r; exact ⟨u, e4, z.drop R.wl⟩
      | own c x =>
        obtain ⟨a', ob', e4, e5, e6, z⟩ := r
        subst e4
        exact ⟨a', ob', rfl, e5, ⟨e6, fun z => ne (by subst z; exact R.sep _ _ _ oi.a ⟨.inl ⟨c, x, k⟩, e3⟩)⟩, z.drop R.wl⟩
      | lck c x =>
        obtain ⟨a', ob', e4, e5, e6, z⟩ := r
        subst e4
        exact ⟨a', ob', rfl, e5, ⟨e6, fun z => ne (by subst z; exact R.sep _ _ _ oi.a ⟨.inr ⟨c, x, k⟩, e3⟩)⟩, z.drop R.wl⟩
  · have back : ρ[j]? = some (some (.own false z)) ∨ ρ[j]? = some (some (.lck false z)) := by
      rcases h1 with h1 | h1
      · rcases getq_set h1 with ⟨rfl, k, _⟩ | ⟨_, k⟩
        · exact absurd (Option.some.inj k) ((nt b d false).2 z).1
        · exact .inl k
      · rcases getq_set h1 with ⟨rfl, k, _⟩ | ⟨_, k⟩
        · exact absurd (Option.some.inj k) ((nt b d false).2 z).2
        · exact .inr k
    exact R.fr j z x back h2
  · obtain ⟨h1, s, h2, h3⟩ := R.bor j x h
    refine ⟨h1, ?_⟩
    by_cases ej : i = j
    · subst ej
      refine ⟨thaw b d, by rw [List.getElem?_set_self hi], ?_⟩
      rw [e] at h2; cases h2
      cases b with
      | true => trivial
      | false => exact h3.elim
    · exact ⟨s, by rw [List.getElem?_set_ne ej]; exact h2, h3⟩
  · exact (q.drop R.wl).d ha fun z => z.2 rfl
  · refine ⟨h, fun j z => n j ?_, ?_⟩
    · obtain ⟨⟨c, y, h1⟩, h2⟩ := z
      rcases getq_set h1 with ⟨rfl, k, _⟩ | ⟨_, k⟩
      · exact absurd (Option.some.inj k) ((nt b d c).2 y).1
      · exact ⟨⟨c, y, k⟩, h2⟩
    · exact ⟨fun z => z.1, fun z => ⟨z, fun y => n i (by subst y; exact oi)⟩⟩

/-- a new mutable object that nobody bears, frozen -/
theorem freeze_own (R : Rel T σ H ρ W) {a : Addr} {o : HO} {d : D} (ha : H a = some o) (wa : W a) (no : ∀ i, ¬ OwnA σ ρ i a) (q : RepO T.K H W o d) :
    ∃ W', Rel T σ H ρ W' ∧ RepD T.K H W' (.ref a) d ∧ StepX (fun x => x = a) σ H ρ W σ H ρ W' := by
  refine ⟨fun x => W x ∧ x ≠ a, ⟨R.len, fun j s k => ?_, R.sep, R.wl.drop, R.fr, R.fzk, R.bor⟩, (q.drop R.wl).d ha fun z => z.2 rfl, fun x o h n na => ⟨h, n, fun z => z.1, fun z => ⟨z, na⟩⟩⟩
  obtain ⟨o, e3, r⟩ := R.at_ j s k
  refine ⟨o, e3, ?_⟩
  cases s with
  | val c => obtain ⟨u, e4, z⟩ := r; exact ⟨u, e4, z.drop R.wl⟩
  | brz c => obtain ⟨u, e4, z⟩ := r; exact ⟨u, e4, z.drop R.wl⟩
  | own c x =>
    obtain ⟨a', ob', e4, e5, e6, z⟩ := r
    subst e4
    exact ⟨a', ob', rfl, e5, ⟨e6, fun z => no j (by subst z; exact ⟨.inl ⟨c, x, k⟩, e3⟩)⟩, z.drop R.wl⟩
  | lck c x =>
    obtain ⟨a', ob', e4, e5, e6, z⟩ := r
    subst e4
    exact ⟨a', ob', rfl, e5, ⟨e6, fun z => no j (by subst z; exact ⟨.inr ⟨c, x, k⟩, e3⟩)⟩, z.drop R.wl⟩

/-- the address of a new object handed on -/
def tmp (v : V) : P → AS
  | .own _ => fun a => v = .ref a
  | _ => fun _ => False

theorem toD_ok (R : Rel T σ H ρ W) {p : P} {v : V} (h : RepP T σ H ρ W v p) {d : D} (e : toD p ρ = some (d, ρ')) :
    ∃ W', Rel T σ H ρ' W' ∧ RepD T.K H W' v d ∧ StepX (tmp v p) σ H ρ W σ H ρ' W' ∧ Mon σ ρ ρ' ∧ Lk ρ ρ' := by
  cases p with
  | val c => cases e; exact ⟨W, R, h, Step.refl.x, .refl, .refl⟩
  | own c =>
    cases e
    obtain ⟨a, o, rfl, e2, w, n, _, q⟩ := h
    obtain ⟨W', R', q', s⟩ := freeze_own R e2 w n q
    exact ⟨W', R', q', fun b o h n na => s b o h n fun z => na (by subst z; rfl), .refl, .refl⟩
  | at_ i =>
    have h : σ[i]? = some (some v) := h
    simp only [toD] at e
    split at e
    · rename_i c es; cases e
      obtain ⟨o, e1, u, e2, q⟩ := R.at_ i _ es
      rw [h] at e1; cases e1; cases e2
      exact ⟨W, R, q, Step.refl.x, .refl, .refl⟩
    · rename_i c es; cases e
      obtain ⟨o, e1, u, e2, q⟩ := R.at_ i _ es
      rw [h] at e1; cases e1; cases e2
      exact ⟨W, R, q, Step.refl.x, .refl, .refl⟩
    · rename_i b c es; cases e
      obtain ⟨W', R', q, s, m⟩ := freeze_at R es h
      exact ⟨W', R', q, s.x, m, Lk.set fun b' d' z => by rw [es] at z; cases z⟩
    · cases e
end
end Dv

set_option Elab.async false
set_option linter.all false
set_option maxRecDepth 100000
namespace Dv
open PySem PySem.Spec PyProof.Rows L2

/-- an error: its class's name, its attributes -/
structure Er where
  cls : Str
  val : List (Str × D)
inductive Rs (α : Type) where
  | bad | err (e : Er) | ok (a : α)
def Rs.bind {α β : Type} : Rs α → (α → Rs β) → Rs β
  | .bad, _ => .bad
  | .err e, _ => .err e
  | .ok a, f => f a
def Rs.of {α : Type} : Option α → Rs α
  | none => .bad
  | some a => .ok a
/-- nothing is raised -/
def Rs.quiet {α : Type} : Rs α → Rs α
  | .ok a => .ok a
  | _ => .bad
noncomputable section
/-- a side condition; decided by nobody, so no instance stands in the way -/
def need (p : Prop) {α : Type} (x : Rs α) : Rs α := @ite _ p (Classical.propDecidable p) x .bad

/-- a def's argument, its result -/
inductive A where
  | val (d : D) | own (d : D) | rd (d : D)
inductive Re where
  | val (d : D) | own (d : D)
structure Fn where
  call : Str → List A → Rs (Re × List A)
  glo : Str → Option D
  dfl : Str → Nat → List D

/-! ### data -/
mutual
def toPy : D → PyData
  | .non => .none
  | .bl b => .bool b
  | .int i => .int i
  | .str x => .str x
  | .tup l => .tuple (toPys l)
  | .lst l => .list (toPys l)
  | .dic _ _ => .dict []
  | .scr _ => .dict []
def toPys : List D → List PyData
  | [] => []
  | d :: ds => toPy d :: toPys ds
end
def shp (d : D) : Bool := SeqAt.shaped (toPy d)
def deq (d e : D) : Bool := PyData.eqv (toPy d) (toPy e)
def chr1 (c : Nat) : Str := ⟨#[c]⟩
def strIn (i j : Str) : Bool := !(Builtin.Str.occurrences j i 0 j.length 1).isEmpty

instance {i j : Int} : Decidable (CMulX i j) := by unfold CMulX; infer_instance
instance {i j : Int} : Decidable (CShl i j) := by unfold CShl; infer_instance
instance {i j : Int} : Decidable (CPow i j) := by unfold CPow; infer_instance
def CDvX (i j : Int) : Prop := j ≠ 0 ∧ Builtin.divisionGoesByPylong i j = false
instance {i j : Int} : Decidable (CDvX i j) := by unfold CDvX; infer_instance

instance {x : Str} {n : Int} : Decidable (MulOk x n) := by unfold MulOk; infer_instance
def dBin : Operator → D → D → Rs P
  | .Add, .int i, .int j => .ok (.val (.int (i + j)))
  | .Add, .str x, .str y => need (x.length + y.length ≤ sizeLine) (.ok (.val (.str (x ++ y))))
  | .Add, .lst a, .lst b => need (a.length + b.length ≤ sizeLine) (.ok (.own (.lst (a ++ b))))
  | .Add, .tup a, .tup b => need (a.length + b.length ≤ sizeLine) (.ok (.val (.tup (a ++ b))))
  | .Sub, .int i, .int j => .ok (.val (.int (i - j)))
  | .Mult, .int i, .int j => need (CMulX i j) (.ok (.val (.int (i * j))))
  | .Mult, .lst l, .int k => need (-(2 ^ 63) ≤ k ∧ k < 2 ^ 63 ∧ l.length * k.toNat ≤ sizeLine) (.ok (.own (.lst (List.replicate k.toNat l).flatten)))
  | .Mult, .str x, .int n => need (MulOk x n) (.ok (.val (.str (Txt.mul x n))))
  | .FloorDiv, .int i, .int j => need (CDvX i j) (.ok (.val (.int (i.fdiv j))))
  | .Mod, .int i, .int j => need (j ≠ 0) (.ok (.val (.int (i.fmod j))))
  | .Pow, .int i, .int j => need (CPow i j) (.ok (.val (.int (i ^ j.toNat))))
  | .LShift, .int i, .int j => need (CShl i j) (.ok (.val (.int (i * 2 ^ j.toNat))))
  | _, _, _ => .bad

def dIn (x y : D) : Rs Bool := match y with
  | .str j => match x with
    | .str i => .ok (strIn i j)
    | _ => .bad
  | .lst l => need (shp x = true ∧ shp (.lst l) = true) (.ok (l.any fun z => deq z x))
  | .tup l => need (shp x = true ∧ shp (.tup l) = true) (.ok (l.any fun z => deq z x))
  | _ => .bad
def dCmp : CmpOp → D → D → Rs Bool
  | .Eq, a, b => need (shp a = true ∧ shp b = true) (.ok (deq a b))
  | .NotEq, a, b => need (shp a = true ∧ shp b = true) (.ok (!deq a b))
  | .Lt, .int i, .int j => .ok (decide (i < j))
  | .LtE, .int i, .int j => .ok (decide (i ≤ j))
  | .Gt, .int i, .int j => .ok (decide (j < i))
  | .GtE, .int i, .int j => .ok (decide (j ≤ i))
  | .Is, a, .non => .ok (match a with | .non => true | _ => false)
  | .IsNot, a, .non => .ok (match a with | .non => false | _ => true)
  | .In, a, b => dIn a b
  | .NotIn, a, b => (dIn a b).bind fun c => .ok (!c)
  | _, _, _ => .bad

def truth : D → Rs Bool
  | .non => .ok false
  | .bl b => .ok b
  | .int i => .ok (i != 0)
  | .str x => need (x.length ≤ sizeLine) (.ok ((x.length : Int) != 0))
  | .tup l => .ok (!l.isEmpty)
  | .lst l => .ok (!l.isEmpty)
  | .dic ks _ => .ok (!ks.isEmpty)
  | .scr l => .ok (!l.isEmpty)

def dIdx : D → D → Rs D
  | .tup l, .int i => .of (atI l i)
  | .lst l, .int i => .of (atI l i)
  | .scr l, .int i => (Rs.of (atI l i)).bind fun k => .ok (.int k)
  | .str z, .int i => need (z.length ≤ sizeLine) ((Rs.of (atI z.cps.toList i)).bind fun c => .ok (.str (chr1 c)))
  | _, _ => .bad

/-- what a loop walks -/
def items : D → Rs (List D)
  | .tup l => .ok l
  | .lst l => .ok l
  | .scr l => .ok (l.map .int)
  | .str x => .ok (x.cps.toList.map fun c => .str (chr1 c))
  | _ => .bad

/-- .. of a list -/
def itemsL : D → Rs (List D)
  | .lst l => .ok l
  | .tup l => .ok l
  | _ => .bad
inductive Ty where
  | tup | lst | int | str | bool
  deriving DecidableEq
/-- built-in functions of values -/
inductive Bl where
  | len | abs | int | tuple | list | all | any | sum | gcd | min2 | max2 | str
  deriving DecidableEq
def dLen : D → Rs Nat
  | .tup l => .ok l.length
  | .lst l => .ok l.length
  | .scr l => .ok l.length
  | .str x => need (x.length ≤ sizeLine) (.ok x.length)
  | _ => .bad
def bls : List D → Option (List Bool)
  | [] => some []
  | .bl b :: ds => (bls ds).map (b :: ·)
  | _ :: _ => none
def intsD : List D → Option (List Int)
  | [] => some []
  | .int b :: ds => (intsD ds).map (b :: ·)
  | _ :: _ => none
def strsD : List D → Option (List Str)
  | [] => some []
  | .str b :: ds => (strsD ds).map (b :: ·)
  | _ :: _ => none
def isTy : Ty → D → Rs Bool
  | .tup, .tup _ => .ok true
  | .lst, .lst _ => .ok true
  | .int, .int _ => .ok true
  | .int, .bl _ => .ok true
  | .bool, .bl _ => .ok true
  | .str, .str _ => .ok true
  | _, .dic _ _ => .bad
  | _, .scr _ => .bad
  | _, _ => .ok false
def dBl : Bl → List D → Rs P
  | .len, [d] => (dLen d).bind fun n => .ok (.val (.int n))
  | .abs, [.int i] => .ok (.val (.int (if i < 0 then -i else i)))
  | .int, [.int i] => .ok (.val (.int i))
  | .int, [.bl k] => .ok (.val (.int (if k then 1 else 0)))
  | .tuple, [.tup l] => .ok (.val (.tup l))
  | .tuple, [.lst l] => .ok (.val (.tup l))
  | .tuple, [.scr l] => .ok (.val (.tup (l.map .int)))
  | .list, [.tup l] => .ok (.own (.lst l))
  | .list, [.lst l] => .ok (.own (.lst l))
  | .list, [.scr l] => .ok (.own (.lst (l.map .int)))
  | .all, [.lst l] => (Rs.of (bls l)).bind fun bs => .ok (.val (.bl (bs.all id)))
  | .any, [.lst l] => (Rs.of (bls l)).bind fun bs => .ok (.val (.bl (bs.any id)))
  | .sum, [.lst l] => (Rs.of (intsD l)).bind fun is => .ok (.val (.int is.sum))
  | .gcd, [.int i, .int j] => .ok (.val (.int ((Nat.gcd i.natAbs j.natAbs : Nat) : Int)))
  | .min2, [.int i, .int j] => .ok (.val (.int (if j < i then j else i)))
  | .max2, [.int i, .int j] => .ok (.val (.int (if j > i then j else i)))
  | _, _ => .bad
def optI : Option D → Option (Option Int)
  | none => some none
  | some (.int i) => some (some i)
  | _ => none
def dSlc : D → Option Int → Option Int → Rs P
  | .str z, lo, hi => need (z.length ≤ sizeLine) (.ok (.val (.str (cutS z lo hi))))
  | .lst l, lo, hi => .ok (.own (.lst ((l.drop (HT.sIx l.length 0 lo)).take (HT.sIx l.length l.length hi - HT.sIx l.length 0 lo))))
  | .tup l, lo, hi => .ok (.val (.tup ((l.drop (HT.sIx l.length 0 lo)).take (HT.sIx l.length l.length hi - HT.sIx l.length 0 lo))))
  | _, _, _ => .bad
/-- methods that change nothing -/
inductive Me where
  | join | split | index
def dMe : Me → D → List D → Rs P
  | .join, .str a, [.lst l] => (Rs.of (strsD l)).bind fun ys => need ((ys.map (·.length)).sum + ys.length * a.length ≤ 16777216) (.ok (.val (.str (Txt.join a ys))))
  | .join, .str a, [.tup l] => (Rs.of (strsD l)).bind fun ys => need ((ys.map (·.length)).sum + ys.length * a.length ≤ 16777216) (.ok (.val (.str (Txt.join a ys))))
  | .split, .str a, [.str b] => need ((b.length == 0) = false ∧ a.length + 2 ≤ sizeLine) (.ok (.own (.lst ((Txt.split a b).map .str))))
  | .index, .lst l, [x] => need (shp x = true ∧ shp (.lst l) = true) (match l.findIdx? fun z => deq z x with | some j => .ok (.val (.int (j : Nat))) | none => .bad)
  | _, _, _ => .bad
/-- methods that change their list: the value, the list -/
inductive Mm where
  | append | pop | popAt | insert
def dMm : Mm → D → List D → Rs (D × D)
  | .append, .lst l, [d] => need (l.length < sizeLine) (.ok (.non, .lst (l ++ [d])))
  | .pop, .lst l, [] => (Rs.of (l[l.length - 1]?)).bind fun y => .ok (y, .lst l.dropLast)
  | .insert, .lst l, [.int i, d] => need (l.length < sizeLine ∧ 0 ≤ i ∧ i < 2 ^ 63) (.ok (.non, .lst (l.take i.toNat ++ [d] ++ l.drop i.toNat)))
  | .popAt, .lst l, [.int i] => need (-(2 ^ 63) ≤ i ∧ i < 2 ^ 63) ((Rs.of (seqIndex? i l.length)).bind fun k => (Rs.of l[k]?).bind fun y => .ok (y, .lst (l.eraseIdx k)))
  | _, _, _ => .bad

/-! ### the text, names by slots -/
inductive Tg where
  | nm (i : Nat)
  | tp (l : List Nat)
mutual
inductive Ex where
  | var (i : Nat)
  | cst (d : D)
  | glo (x : Str)
  | bin (op : Operator) (a b : Ex)
  | neg (a : Ex)
  | cmp (op : CmpOp) (a b : Ex)
  | chn (op op' : CmpOp) (a b c : Ex)
  | and_ (l : Exs)
  | or_ (l : Exs)
  | not_ (a : Ex)
  | ite (c : Tx) (a b : Ex)
  | tup (l : Exs)
  | lst (l : Exs)
  | idx (a i : Ex)
  | slc (a : Ex) (lo hi : Eo)
  | call (f : Str) (l : Exs)
  | blt (b : Bl) (l : Exs)
  | isi (t : Ty) (a : Ex)
  | met (m : Me) (o : Ex) (l : Exs)
  | chg (m : Mm) (i : Nat) (l : Exs)
  | comp (elt : Ex) (tg : Tg) (it : Ie) (ifs : To) (own : List Nat)
inductive Exs where
  | nil
  | cons (e : Ex) (l : Exs)
inductive Eo where
  | none
  | some (e : Ex)
inductive Tx where
  | val (e : Ex)
  | cmp (op : CmpOp) (a b : Ex)
  | and_ (l : Txs)
  | or_ (l : Txs)
  | not_ (t : Tx)
inductive Txs where
  | nil
  | cons (t : Tx) (l : Txs)
inductive To where
  | none
  | some (t : Tx)
inductive Ie where
  | seq (e : Ex)
  | rng (a : Ex)
  | rng2 (a b : Ex)
  | enm (e : Ex)
  | zip (l : Exs)
end

def hasTy : Me → D → Bool
  | .join, .str _ => true
  | .split, .str _ => true
  | .index, .lst _ => true
  | _, _ => false
def isLst : D → Bool
  | .lst _ => true
  | _ => false
/-! ### the environment -/
def evVar (i : Nat) (ρ : Env') : Rs (P × Env') := match ρ[i]? with
  | some (some (.val d)) => .ok (.val d, ρ)
  | some (some (.brz d)) => .ok (.val d, ρ)
  | some (some (.own _ _)) => .ok (.at_ i, ρ)
  | some (some (.lck _ _)) => .ok (.at_ i, ρ)
  | _ => .bad
/-- may slot i be stored anew? -/
def freeSlot (i : Nat) (ρ : Env') : Bool := match ρ[i]? with
  | some none => true
  | some (some (.val _)) => true
  | some (some (.own false _)) => true
  | _ => false
def putV (i : Nat) (d : D) (ρ : Env') : Rs Env' := if freeSlot i ρ = true then .ok (ρ.set i (some (.val d))) else .bad
def putVs : List Nat → List D → Env' → Rs Env'
  | [], [], ρ => .ok ρ
  | i :: is, d :: ds, ρ => (putV i d ρ).bind (putVs is ds)
  | _, _, _ => .bad
def asgT : Tg → D → Env' → Rs Env'
  | .nm i, d, ρ => putV i d ρ
  | .tp is, .tup ds, ρ => putVs is ds ρ
  | _, _, _ => .bad
/-- x = p -/
def asgP (i : Nat) (p : P) (ρ : Env') : Rs Env' := match p with
  | .val d => putV i d ρ
  | .own d => if freeSlot i ρ = true then .ok (ρ.set i (some (.own false d))) else .bad
  | .at_ j => (Rs.of (toD (.at_ j) ρ)).bind fun r => putV i r.1 r.2
def lockP (p : P) (ρ : Env') : Option Nat × Env' := match p with
  | .at_ i => match ρ[i]? with
    | some (some (.own b d)) => (some i, ρ.set i (some (.lck b d)))
    | _ => (none, ρ)
  | _ => (none, ρ)
def unlock (o : Option Nat) (ρ : Env') : Rs Env' := match o with
  | none => .ok ρ
  | some i => match ρ[i]? with
    | some (some (.lck b d)) => .ok (ρ.set i (some (.own b d)))
    | _ => .bad
def wipeR (ρ : Env') : List Nat → Env'
  | [] => ρ
  | v :: vs => (wipeR ρ vs).set v none
/-- a comprehension's own slots as they were -/
def backR (ρ0 ρ : Env') : List Nat → Env'
  | [] => ρ
  | v :: vs => (backR ρ0 ρ vs).set v (ρ0.getD v none)
def setMut (i : Nat) (d : D) (ρ : Env') : Rs Env' := match ρ[i]? with
  | some (some (.own b _)) => .ok (ρ.set i (some (.own b d)))
  | _ => .bad

/-! ### calls -/
def toArg (p : P) (ρ : Env') : Rs A := match p with
  | .val d => .ok (.val d)
  | .own d => .ok (.own d)
  | .at_ i => match ρ[i]? with
    | some (some (.val d)) => .ok (.val d)
    | some (some (.brz d)) => .ok (.val d)
    | some (some (.own _ d)) => .ok (.own d)
    | some (some (.lck _ d)) => .ok (.rd d)
    | _ => .bad
def toArgs : List P → Env' → Rs (List A)
  | [], _ => .ok []
  | p :: ps, ρ => (toArg p ρ).bind fun a => (toArgs ps ρ).bind fun as => .ok (a :: as)
def ats : List P → List Nat
  | [] => []
  | .at_ i :: ps => i :: ats ps
  | _ :: ps => ats ps
def backArg (p : P) (a : A) (ρ : Env') : Rs Env' := match p with
  | .at_ i => match ρ[i]? with
    | some (some (.own b _)) => (match a with
      | .own d => .ok (ρ.set i (some (.own b d)))
      | .val d => .ok (ρ.set i (some (thaw b d)))
      | .rd _ => .bad)
    | _ => .ok ρ
  | _ => .ok ρ
def backArgs : List P → List A → Env' → Rs Env'
  | [], _, ρ => .ok ρ
  | p :: ps, a :: as, ρ => (backArg p a ρ).bind (backArgs ps as)
  | _ :: _, [], _ => .bad
def Re.p : Re → P
  | .val d => .val d
  | .own d => .own d
def doCall (F : Fn) (f : Str) (ps : List P) (ρ : Env') : Rs (P × Env') :=
  need ((ats ps).Nodup) ((toArgs ps ρ).bind fun as => (F.call f (as ++ (F.dfl f ps.length).map .val)).bind fun r => (backArgs ps r.2 ρ).bind fun ρ' => .ok (r.1.p, ρ'))

/-! ### loops -/
def rng (lo : Int) (n : Nat) : List D := (List.range n).map fun k => .int (lo + (k : Nat))
def inR (i : Int) : Prop := -(2 ^ 62) ≤ i ∧ i < 2 ^ 62
instance {i : Int} : Decidable (inR i) := by unfold inR; infer_instance
/-- the turns of a comprehension: the made item, if any -/
def mapR (f : D → Env' → Rs (Option D × Env')) : List D → Env' → Rs (List D × Env')
  | [], ρ => .ok ([], ρ)
  | d :: ds, ρ => (f d ρ).bind fun r => (mapR f ds r.2).bind fun q => .ok ((match r.1 with | some y => y :: q.1 | none => q.1), q.2)

def pk (p : P) (ρ : Env') : Rs D := .of (peek p ρ)
def pks : List P → Env' → Rs (List D)
  | [], _ => .ok []
  | p :: ps, ρ => (pk p ρ).bind fun d => (pks ps ρ).bind fun ds => .ok (d :: ds)
def zipD : List (List D) → List D
  | [a, b] => (a.zip b).map fun p => .tup [p.1, p.2]
  | [a, b, c] => (a.zip (b.zip c)).map fun p => .tup [p.1, p.2.1, p.2.2]
  | _ => []
def itemss : List D → Rs (List (List D))
  | [.lst a, .lst b] => .ok [a, b]
  | [.tup a, .tup b] => .ok [a, b]
  | [.lst a, .tup b] => .ok [a, b]
  | [.tup a, .lst b] => .ok [a, b]
  | _ => .bad
def enmD (l : List D) : List D := (List.range l.length).zip l |>.map fun p => .tup [.int (p.1 : Nat), p.2]

def asB (r : P × Env') : Rs (Bool × Env') := match r.1 with
  | .val (.bl b) => .ok (b, r.2)
  | _ => .bad
/-! ### running -/
mutual
def ev (F : Fn) : Ex → Env' → Rs (P × Env')
  | .var i, ρ => evVar i ρ
  | .cst d, ρ => .ok (.val d, ρ)
  | .glo x, ρ => (Rs.of (F.glo x)).bind fun d => .ok (.val d, ρ)
  | .bin op a b, ρ => (ev F a ρ).bind fun r => (ev F b r.2).bind fun q => (pk r.1 q.2).bind fun x => (pk q.1 q.2).bind fun y => (dBin op x y).bind fun p => .ok (p, q.2)
  | .neg a, ρ => (ev F a ρ).bind fun r => (pk r.1 r.2).bind fun x => match x with
    | .int i => .ok (.val (.int (-i)), r.2)
    | _ => .bad
  | .cmp op a b, ρ => (ev F a ρ).bind fun r => (ev F b r.2).bind fun q => (pk r.1 q.2).bind fun x => (pk q.1 q.2).bind fun y => (dCmp op x y).bind fun c => .ok (.val (.bl c), q.2)
  | .chn op op' a b c, ρ => (ev F a ρ).bind fun r => (ev F b r.2).bind fun q => (pk r.1 q.2).bind fun x => (pk q.1 q.2).bind fun y => (dCmp op x y).bind fun k =>
      match k with
      | false => .ok (.val (.bl false), q.2)
      | true => (ev F c q.2).bind fun u => (pk q.1 u.2).bind fun y' => (pk u.1 u.2).bind fun z => (dCmp op' y' z).bind fun k' => .ok (.val (.bl k'), u.2)
  | .and_ l, ρ => (evAnd F l ρ).bind fun r => .ok (.val (.bl r.1), r.2)
  | .or_ l, ρ => (evOr F l ρ).bind fun r => .ok (.val (.bl r.1), r.2)
  | .not_ a, ρ => (ev F a ρ).bind fun r0 => (asB r0).bind fun r => .ok (.val (.bl (!r.1)), r.2)
  | .ite c a b, ρ => (evT F c ρ).bind fun r => match r.1 with
    | true => ev F a r.2
    | false => ev F b r.2
  | .tup l, ρ => (evs F l ρ).bind fun r => (Rs.of (toDs r.1 r.2)).bind fun q => need (q.1.length ≤ sizeLine) (.ok (.val (.tup q.1), q.2))
  | .lst l, ρ => (evs F l ρ).bind fun r => (Rs.of (toDs r.1 r.2)).bind fun q => need (q.1.length ≤ sizeLine) (.ok (.own (.lst q.1), q.2))
  | .idx a i, ρ => (ev F a ρ).bind fun r => (ev F i r.2).bind fun q => (pk r.1 q.2).bind fun x => (pk q.1 q.2).bind fun y => (dIdx x y).bind fun d => .ok (.val d, q.2)
  | .slc a lo hi, ρ => (ev F a ρ).bind fun r => (evo F lo r.2).bind fun u => (evo F hi u.2).bind fun w => (pk r.1 w.2).bind fun x => (dSlc x u.1 w.1).bind fun p => .ok (p, w.2)
  | .call f l, ρ => (evs F l ρ).bind fun r => doCall F f r.1 r.2
  | .blt b l, ρ => (evs F l ρ).bind fun r => (pks r.1 r.2).bind fun ds => (dBl b ds).bind fun p => .ok (p, r.2)
  | .isi t a, ρ => (ev F a ρ).bind fun r => (pk r.1 r.2).bind fun x => (isTy t x).bind fun b => .ok (.val (.bl b), r.2)
  | .met m o l, ρ => (ev F o ρ).bind fun r => (pk r.1 r.2).bind fun d0 => need (hasTy m d0 = true) <| (evs F l r.2).bind fun q => (pk r.1 q.2).bind fun x => (pks q.1 q.2).bind fun ds => (dMe m x ds).bind fun p => .ok (p, q.2)
  | .chg m i l, ρ => (evVar i ρ).bind fun r => (pk r.1 r.2).bind fun d0 => need (isLst d0 = true) <| (evs F l r.2).bind fun q => (Rs.of (toDs q.1 q.2)).bind fun t => match t.2[i]? with
    | some (some (.own b d)) => (dMm m d t.1).bind fun y => .ok (.val y.1, t.2.set i (some (.own b y.2)))
    | _ => .bad
  | .comp elt tg it ifs own, ρ => (evi F it ρ).bind fun r =>
      (mapR (fun d ρ1 => (asgT tg d (wipeR ρ1 own)).bind fun ρ2 => (evc F ifs ρ2).quiet.bind fun c => match c.1 with
        | true => (ev F elt c.2).quiet.bind fun p => (Rs.of (toD p.1 p.2)).bind fun y => .ok (some y.1, y.2)
        | false => .ok (none, c.2)) r.1.1 (wipeR (lockP r.1.2 r.2).2 own)).bind fun q =>
      (unlock (lockP r.1.2 r.2).1 (backR (lockP r.1.2 r.2).2 q.2 own)).bind fun ρ' => need (q.1.length < sizeLine) (.ok (.own (.lst q.1), ρ'))
def evs (F : Fn) : Exs → Env' → Rs (List P × Env')
  | .nil, ρ => .ok ([], ρ)
  | .cons e l, ρ => (ev F e ρ).bind fun r => (evs F l r.2).bind fun q => .ok (r.1 :: q.1, q.2)
/-- a slice's part -/
def evo (F : Fn) : Eo → Env' → Rs (Option Int × Env')
  | .none, ρ => .ok (none, ρ)
  | .some e, ρ => (ev F e ρ).bind fun r => (pk r.1 r.2).bind fun x => match x with
    | .int i => .ok (some i, r.2)
    | _ => .bad
/-- a clause's test -/
def evc (F : Fn) : To → Env' → Rs (Bool × Env')
  | .none, ρ => .ok (true, ρ)
  | .some t, ρ => evT F t ρ
/-- a test -/
def evT (F : Fn) : Tx → Env' → Rs (Bool × Env')
  | .val e, ρ => (ev F e ρ).bind fun r => (pk r.1 r.2).bind fun x => (truth x).bind fun b => .ok (b, r.2)
  | .cmp op a b, ρ => (ev F a ρ).bind fun r => (ev F b r.2).bind fun q => (pk r.1 q.2).bind fun x => (pk q.1 q.2).bind fun y => (dCmp op x y).bind fun c => .ok (c, q.2)
  | .and_ l, ρ => evTAnd F l ρ
  | .or_ l, ρ => evTOr F l ρ
  | .not_ a, ρ => (evT F a ρ).bind fun r => .ok (!r.1, r.2)
/-- bools joined by and, or; l is not empty -/
def evAnd (F : Fn) : Exs → Env' → Rs (Bool × Env')
  | .nil, ρ => .ok (true, ρ)
  | .cons e l, ρ => (ev F e ρ).bind fun r0 => (asB r0).bind fun r => match r.1 with
    | true => evAnd F l r.2
    | false => .ok (false, r.2)
def evOr (F : Fn) : Exs → Env' → Rs (Bool × Env')
  | .nil, ρ => .ok (false, ρ)
  | .cons e l, ρ => (ev F e ρ).bind fun r0 => (asB r0).bind fun r => match r.1 with
    | true => .ok (true, r.2)
    | false => evOr F l r.2
def evTAnd (F : Fn) : Txs → Env' → Rs (Bool × Env')
  | .nil, ρ => .ok (true, ρ)
  | .cons e l, ρ => (evT F e ρ).bind fun r => match r.1 with
    | true => evTAnd F l r.2
    | false => .ok (false, r.2)
def evTOr (F : Fn) : Txs → Env' → Rs (Bool × Env')
  | .nil, ρ => .ok (false, ρ)
  | .cons e l, ρ => (evT F e ρ).bind fun r => match r.1 with
    | true => .ok (true, r.2)
    | false => evTOr F l r.2
/-- what a loop walks: the items, the locked slot -/
def evi (F : Fn) : Ie → Env' → Rs ((List D × P) × Env')
  | .seq e, ρ => (ev F e ρ).bind fun r => (pk r.1 r.2).bind fun x => (items x).bind fun l => .ok ((l, r.1), r.2)
  | .rng a, ρ => (ev F a ρ).bind fun r => match r.1 with
    | .val (.int j) => need (inR j) (.ok ((rng 0 j.toNat, .val .non), r.2))
    | _ => .bad
  | .rng2 a b, ρ => (ev F a ρ).bind fun r => (ev F b r.2).bind fun q => match r.1, q.1 with
    | .val (.int i), .val (.int j) => need (inR i ∧ inR j) (.ok ((rng i (j - i).toNat, .val .non), q.2))
    | _, _ => .bad
  | .enm e, ρ => (ev F e ρ).bind fun r => (pk r.1 r.2).bind fun x => (itemsL x).bind fun l => .ok ((enmD l, r.1), r.2)
  | .zip l, ρ => (evs F l ρ).bind fun r => (Rs.of (toDs r.1 r.2)).bind fun q => (itemss q.1).bind fun t => .ok ((zipD t, .val .non), q.2)
end
end
end Dv

set_option Elab.async false
set_option linter.all false
set_option maxRecDepth 100000
namespace Dv
open PySem PySem.Spec PyProof.Rows L2

noncomputable section
mutual
inductive Sx where
  | set (i : Nat) (e : Ex)
  | setT (l : List Nat) (e : Ex)
  | par (i j : Nat) (a b : Ex)
  | setI (i : Nat) (ix e : Ex)
  | aug (i : Nat) (op : Operator) (e : Ex)
  | augI (i : Nat) (op : Operator) (ix e : Ex)
  | expr (e : Ex)
  | ret (e : Ex)
  | retN
  | ite (c : Tx) (a b : Sxs)
  | whl (c : Tx) (b : Sxs)
  | for_ (tg : Tg) (it : Ie) (b : Sxs)
  | brk
  | cnt
  | pass
inductive Sxs where
  | nil
  | cons (s : Sx) (l : Sxs)
end
inductive Fl where
  | nx | bk | ct | rt (p : P)

def whileR (t : Env' → Rs (Bool × Env')) (b : Env' → Rs (Fl × Env')) : Nat → Env' → Rs (Fl × Env')
  | 0, _ => .bad
  | n + 1, ρ => (t ρ).bind fun r => match r.1 with
    | false => .ok (.nx, r.2)
    | true => (b r.2).bind fun q => match q.1 with
      | .nx => whileR t b n q.2
      | .ct => whileR t b n q.2
      | .bk => .ok (.nx, q.2)
      | .rt p => .ok (.rt p, q.2)
def forR (f : D → Env' → Rs (Fl × Env')) : List D → Env' → Rs (Fl × Env')
  | [], ρ => .ok (.nx, ρ)
  | d :: ds, ρ => (f d ρ).bind fun q => match q.1 with
      | .nx => forR f ds q.2
      | .ct => forR f ds q.2
      | .bk => .ok (.nx, q.2)
      | .rt p => .ok (.rt p, q.2)
/-- behind a loop: the walked slot is set free, if the loop was not left by return -/
def endFor (o : Option Nat) (q : Fl × Env') : Rs (Fl × Env') := match q.1 with
  | .rt p => .ok (.rt p, q.2)
  | _ => (unlock o q.2).bind fun ρ => .ok (.nx, ρ)
def dAug : Operator → D → D → Rs D
  | .Add, .int i, .int j => .ok (.int (i + j))
  | .Sub, .int i, .int j => .ok (.int (i - j))
  | .Add, .str x, .str y => need (x.length + y.length ≤ sizeLine) (.ok (.str (x ++ y)))
  | _, _, _ => .bad
def dSet : D → D → D → Rs D
  | .lst l, .int k, d => (Rs.of (ixN l.length k)).bind fun j => .ok (.lst (l.set j d))
  | _, _, _ => .bad
def mutSlot (i : Nat) (ρ : Env') (f : D → Rs D) : Rs Env' := match ρ[i]? with
  | some (some (.own b d)) => (f d).bind fun d' => .ok (ρ.set i (some (.own b d')))
  | _ => .bad

mutual
def ex (F : Fn) (N : Nat) : Sx → Env' → Rs (Fl × Env')
  | .set i e, ρ => (ev F e ρ).bind fun r => (asgP i r.1 r.2).bind fun ρ' => .ok (.nx, ρ')
  | .setT l e, ρ => (ev F e ρ).bind fun r => match r.1 with
    | .val (.tup ds) => (putVs l ds r.2).bind fun ρ' => .ok (.nx, ρ')
    | _ => .bad
  | .par i j a b, ρ => (ev F a ρ).bind fun r => (ev F b r.2).bind fun q => match r.1, q.1 with
    | .val x, .val y => (putVs [i, j] [x, y] q.2).bind fun ρ' => .ok (.nx, ρ')
    | _, _ => .bad
  | .setI i ix e, ρ => (ev F e ρ).bind fun r => (evVar i r.2).bind fun o => (ev F ix o.2).bind fun q => (Rs.of (toD r.1 q.2)).bind fun t => (pk q.1 t.2).bind fun k =>
      (mutSlot i t.2 fun d => dSet d k t.1).bind fun ρ' => .ok (.nx, ρ')
  | .aug i op e, ρ => match ρ[i]? with
    | some (some (.val x)) => (ev F e ρ).bind fun r => (pk r.1 r.2).bind fun y => (dAug op x y).bind fun z => (putV i z r.2).bind fun ρ' => .ok (.nx, ρ')
    | _ => .bad
  | .augI i op ix e, ρ => (evVar i ρ).bind fun o => (ev F ix o.2).bind fun q => (pk o.1 q.2).bind fun x => need (isLst x = true) <| (pk q.1 q.2).bind fun k => (dIdx x k).bind fun u => (ev F e q.2).bind fun r => (pk r.1 r.2).bind fun y =>
      (dAug op u y).bind fun z => (mutSlot i r.2 fun d => dSet d k z).bind fun ρ' => .ok (.nx, ρ')
  | .expr e, ρ => (ev F e ρ).bind fun r => .ok (.nx, r.2)
  | .ret e, ρ => (ev F e ρ).bind fun r => .ok (.rt r.1, r.2)
  | .retN, ρ => .ok (.rt (.val .non), ρ)
  | .ite c a b, ρ => (evT F c ρ).bind fun r => match r.1 with
    | true => exs F N a r.2
    | false => exs F N b r.2
  | .whl c b, ρ => whileR (evT F c) (exs F N b) N ρ
  | .for_ tg it b, ρ => (evi F it ρ).bind fun r => (forR (fun d ρ1 => (asgT tg d ρ1).bind (exs F N b)) r.1.1 (lockP r.1.2 r.2).2).bind (endFor (lockP r.1.2 r.2).1)
  | .brk, ρ => .ok (.bk, ρ)
  | .cnt, ρ => .ok (.ct, ρ)
  | .pass, ρ => .ok (.nx, ρ)
def exs (F : Fn) (N : Nat) : Sxs → Env' → Rs (Fl × Env')
  | .nil, ρ => .ok (.nx, ρ)
  | .cons s l, ρ => (ex F N s ρ).bind fun q => match q.1 with
    | .nx => exs F N l q.2
    | _ => .ok q
end

/-! ### a def -/
def A.slot : A → S
  | .val d => .val d
  | .own d => .own true d
  | .rd d => .lck true d
def envOf (n : Nat) (as : List A) : Env' := as.map (fun a => some a.slot) ++ List.replicate (n - as.length) none
def retOf (p : P) (ρ : Env') : Rs (Re × Env') := match p with
  | .val d => .ok (.val d, ρ)
  | .own d => .ok (.own d, ρ)
  | .at_ i => match ρ[i]? with
    | some (some (.own false d)) => .ok (.own d, ρ.set i none)
    | some (some (.own true d)) => .ok (.val d, ρ.set i (some (.brz d)))
    | _ => .bad
def outArg (a : A) (o : Option (Option S)) : Rs A := match a with
  | .val d => .ok (.val d)
  | .rd d => .ok (.rd d)
  | .own _ => match o with
    | some (some (.own true d)) => .ok (.own d)
    | some (some (.lck true d)) => .ok (.own d)
    | some (some (.brz d)) => .ok (.val d)
    | _ => .bad
def outArgs : List A → Env' → Rs (List A)
  | [], _ => .ok []
  | a :: as, ρ => (outArg a ρ.head?).bind fun x => (outArgs as ρ.tail).bind fun r => .ok (x :: r)
def finish (as : List A) (q : Fl × Env') : Rs (Re × List A) := match q.1 with
  | .nx => (outArgs as q.2).bind fun r => .ok (.val .non, r)
  | .rt p => (retOf p q.2).bind fun t => (outArgs as t.2).bind fun r => .ok (t.1, r)
  | _ => .bad
/-- n: the number of the def's slots -/
def runDef (F : Fn) (N n : Nat) (body : Sxs) (as : List A) : Rs (Re × List A) := (exs F N body (envOf n as)).bind (finish as)
end
end Dv

set_option Elab.async false
set_option linter.all false
set_option maxRecDepth 100000
namespace Dv
open PySem PySem.Spec PyProof.Rows L2

/-! ### data and the library's data -/
section
variable {K : PySem.W.Frag} {H : Hp} {W : AS}
mutual
theorem RepD.dp : ∀ {d : D} {v : V}, RepD K H W v d → (toPy d).canLay0 = true → Dp K H v (toPy d)
  | .non, _, h, _ => by rw [show _ = V.non from h]; exact .non
  | .bl b, _, h, _ => by rw [show _ = V.bl b from h]; exact .bl b
  | .int b, _, h, _ => by rw [show _ = V.int b from h]; exact .int b
  | .str b, _, h, _ => by rw [show _ = V.str b from h]; exact .str b
  | .tup l, _, h, c => by
    obtain ⟨a, vs, rfl, q, r⟩ := h
    exact .tup q.sq (RepDs.dp r (by simpa [toPy, PyData.canLay0] using c))
  | .lst l, _, h, c => by
    obtain ⟨a, vs, rfl, q, _, r⟩ := h
    exact .lst (.of q) (RepDs.dp r (by simpa [toPy, PyData.canLay0] using c))
  | .dic _ _, _, _, c => by simp [toPy, PyData.canLay0] at c
  | .scr _, _, _, c => by simp [toPy, PyData.canLay0] at c
theorem RepDs.dp : ∀ {ds : List D} {vs : List V}, RepDs K H W vs ds → PyData.canLayAll0 (toPys ds) = true → DpAll K H vs (toPys ds)
  | [], _, h, _ => by rw [show _ = [] from h]; exact .nil
  | d :: ds, _, h, c => by
    obtain ⟨v, r, rfl, a, b⟩ := h
    have c' : (toPy d).canLay0 = true ∧ PyData.canLayAll0 (toPys ds) = true := by simpa [toPys, PyData.canLayAll0] using c
    exact .cons (RepD.dp a c'.1) (RepDs.dp b c'.2)
end
theorem lay_of {d : D} (h : shp d = true) : (toPy d).canLay0 = true := by
  unfold shp SeqAt.shaped at h
  exact (Bool.and_eq_true_iff.mp h).1
theorem RepK.dp {d : D} {v : V} (h : RepK K H W v d) (c : shp d = true) : Dp K H v (toPy d) := by
  rcases h with ⟨a, o, rfl, e, q⟩ | h
  · cases d with
    | lst l =>
      obtain ⟨vs, rfl, r⟩ := q
      exact .lst (.of e) (RepDs.dp r (by simpa [toPy, PyData.canLay0] using lay_of c))
    | dic ks l =>
      have := lay_of c
      simp [toPy, PyData.canLay0] at this
    | _ => exact q.elim
  · exact h.dp (lay_of c)
theorem toPys_map : ∀ l : List D, toPys l = l.map toPy
  | [] => rfl
  | d :: l => by rw [toPys, toPys_map l]; rfl
theorem any_py (l : List D) (x : D) : (toPys l).any (fun z => PyData.eqv z (toPy x)) = l.any fun z => deq z x := by
  rw [toPys_map, List.any_map]
  rfl

/-- what is wanted of a result -/
def ResQ (K : PySem.W.Frag) (H : Hp) (W : AS) (p : P) (Q : VK) : Prop := match p with
  | .val d => ∀ v H', (H' = H ∨ ∃ a vs, H a = none ∧ H' = upd H a (.tup vs)) → RepD K H' W v d → Q v H'
  | .own d => ∀ a o, H a = none → RepO K H W o d → Q (.ref a) (upd H a o)
  | .at_ _ => False
theorem adv_new {H : Hp} {W : AS} {a : Addr} {o : HO} (n : H a = none) : Adv H W (upd H a o) W := fun b u e w => ⟨by rw [upd_ne (ne_of_none e n)]; exact e, w⟩
theorem ResQ.tup {l : List D} {Q : VK} (h : ResQ K H W (.val (.tup l)) Q) (wl : WL H W) {vs : List V} (r : RepDs K H W vs l) {a : Addr} (n : H a = none) : Q (.ref a) (upd H a (.tup vs)) :=
  h _ _ (.inr ⟨a, vs, n, rfl⟩) ⟨a, vs, rfl, .of upd_same, r.adv wl (adv_new n)⟩
theorem ResQ.flat {d : D} {Q : VK} (h : ResQ K H W (.val d) Q) {v : V} (r : RepD K H W v d) : Q v H := h v H (.inl rfl) r
theorem ResQ.lst {l : List D} {Q : VK} (h : ResQ K H W (.own (.lst l)) Q) {vs : List V} (r : RepDs K H W vs l) {a : Addr} (n : H a = none) : Q (.ref a) (upd H a (.lst vs)) := h a _ n ⟨vs, rfl, r⟩
end

/-! ### operators, by values -/
section
variable {X : Cx}
theorem op_fdivX : OpR X (binaryOp .FloorDiv) (rI CDvX fun i j => .int (i.fdiv j)) := opI fun _ _ _ _ _ _ _ hc q => floordiv_int hc.1 q (.inl hc.2)
theorem op_mul_str : OpR X (binaryOp .Mult) (fun x y H Q => ∃ a n, x = .str a ∧ y = .int n ∧ MulOk a n ∧ Q (.str (Txt.mul a n)) H) := by
  intro pins s σ H x y v u Q I rx ry h
  obtain ⟨a, n, rfl, rfl, c, q⟩ := h
  obtain ⟨t, rfl⟩ := rx
  obtain ⟨t', rfl⟩ := ry
  exact SB.mul c fun t' k => ⟨.str _, H, I.tok _, ⟨_, rfl⟩, q⟩
def rB (K : PySem.W.Frag) : Operator → R2
  | .Add => fun x y H Q => rI0 (fun i j => .int (i + j)) x y H Q ∨ (∃ i j, x = .str i ∧ y = .str j ∧ i.length + j.length ≤ sizeLine ∧ Q (.str (i ++ j)) H) ∨ rCat x y H Q ∨ rCatA K x y H Q
  | .Sub => rI0 fun i j => .int (i - j)
  | .Mult => fun x y H Q => rI CMulX (fun i j => .int (i * j)) x y H Q ∨ rRep x y H Q ∨ ∃ a n, x = .str a ∧ y = .int n ∧ MulOk a n ∧ Q (.str (Txt.mul a n)) H
  | .FloorDiv => rI CDvX fun i j => .int (i.fdiv j)
  | .Mod => rI (fun _ j => j ≠ 0) fun i j => .int (i.fmod j)
  | .Pow => rI CPow fun i j => .int (i ^ j.toNat)
  | .LShift => rI CShl fun i j => .int (i * 2 ^ j.toNat)
  | _ => fun _ _ _ _ => False
theorem op_no {f : Value → Value → Sem Value} : OpR X f (fun _ _ _ _ => False) := fun _ _ _ _ _ _ _ _ _ _ _ _ h => h.elim
theorem op_B : ∀ op : Operator, OpR X (binaryOp op) (rB X.K op) := fun op => by
  cases op with
  | Add => exact op_add.or (op_add_str.or (op_cat.or op_catA))
  | Sub => exact op_sub
  | Mult => exact op_mulX.or (op_rep.or op_mul_str)
  | FloorDiv => exact op_fdivX
  | Mod => exact op_modN
  | Pow => exact op_pow
  | LShift => exact op_shlW
  | _ => exact op_no

theorem need_ok {p : Prop} {α : Type} {x : Rs α} {a : α} (h : need p x = .ok a) : p ∧ x = .ok a := by
  unfold need at h
  split at h
  · exact ⟨by assumption, h⟩
  · cases h
theorem need_ne {p : Prop} {α : Type} {x : Rs α} (h : need p x ≠ .bad) : p ∧ need p x = x := by
  unfold need at h ⊢
  split at h
  · rename_i q; exact ⟨q, by rw [if_pos q]⟩
  · exact absurd rfl h
theorem flat_rep {K : PySem.W.Frag} {H : Hp} {W : AS} {vs : List V} {l : List D} (r : RepDs K H W vs l) : ∀ k : Nat, RepDs K H W (List.replicate k vs).flatten (List.replicate k l).flatten
  | 0 => rfl
  | k + 1 => by
    rw [List.replicate_succ, List.replicate_succ, List.flatten_cons, List.flatten_cons]
    exact r.append (flat_rep r k)

theorem bin_ok {K : PySem.W.Frag} {H : Hp} {W : AS} (wl : WL H W) {op : Operator} {x y : V} {d e : D} {p : P} {Q : VK} (hd : RepK K H W x d) (he : RepK K H W y e) (h : dBin op d e = .ok p) (q : ResQ K H W p Q) : rB K op x y H Q := by
  unfold dBin at h
  split at h
  · cases h
    exact .inl ⟨_, _, hd.int, he.int, q.flat rfl⟩
  · obtain ⟨c, h⟩ := need_ok h
    cases h
    exact .inr (.inl ⟨_, _, hd.str, he.str, c, q.flat rfl⟩)
  · obtain ⟨c, h⟩ := need_ok h
    cases h
    obtain ⟨a, vs, rfl, e1, r1⟩ := hd.lst
    obtain ⟨b, us, rfl, e2, r2⟩ := he.lst
    exact .inr (.inr (.inl ⟨a, b, vs, us, rfl, rfl, e1, e2, by rw [r1.length, r2.length]; exact c, fun p n => q.lst (r1.append r2) n⟩))
  · obtain ⟨c, h⟩ := need_ok h
    cases h
    obtain ⟨a, vs, rfl, e1, r1⟩ := hd.tup
    obtain ⟨b, us, rfl, e2, r2⟩ := he.tup
    refine .inr (.inr (.inr ⟨a, b, vs, us, rfl, rfl, e1.sq, e2.sq, by rw [r1.length, r2.length]; exact c, fun z => ?_, fun _ z => ?_, fun _ _ p n => q.tup wl (r1.append r2) n⟩))
    · have e0 := r1.length
      rw [z] at e0
      have e3 := List.length_eq_zero_iff.mp e0.symm
      subst e3
      rw [List.nil_append] at q
      exact q.flat ⟨b, us, rfl, e2, r2⟩
    · have e0 := r2.length
      rw [z] at e0
      have e3 := List.length_eq_zero_iff.mp e0.symm
      subst e3
      rw [List.append_nil] at q
      exact q.flat ⟨a, vs, rfl, e1, r1⟩
  · cases h
    exact ⟨_, _, hd.int, he.int, q.flat rfl⟩
  · obtain ⟨c, h⟩ := need_ok h
    cases h
    exact .inl ⟨_, _, hd.int, he.int, c, q.flat rfl⟩
  · obtain ⟨⟨c1, c2, c3⟩, h⟩ := need_ok h
    cases h
    obtain ⟨a, vs, rfl, e1, r1⟩ := hd.lst
    exact .inr (.inl ⟨a, _, vs, rfl, he.int, e1, c1, c2, by rw [r1.length]; exact c3, fun p n => q.lst (flat_rep r1 _) n⟩)
  · obtain ⟨c, h⟩ := need_ok h
    cases h
    exact .inr (.inr ⟨_, _, hd.str, he.int, c, q.flat rfl⟩)
  · obtain ⟨c, h⟩ := need_ok h
    cases h
    exact ⟨_, _, hd.int, he.int, c, q.flat rfl⟩
  · obtain ⟨c, h⟩ := need_ok h
    cases h
    exact ⟨_, _, hd.int, he.int, c, q.flat rfl⟩
  · obtain ⟨c, h⟩ := need_ok h
    cases h
    exact ⟨_, _, hd.int, he.int, c, q.flat rfl⟩
  · obtain ⟨c, h⟩ := need_ok h
    cases h
    exact ⟨_, _, hd.int, he.int, c, q.flat rfl⟩
  · cases h

/-! ### comparisons, by values -/
def rInT (K : PySem.W.Frag) : R2 := fun x y H Q => ∃ d ds, Dp K H x d ∧ Dp K H y (.tuple ds) ∧ SeqAt.shaped d = true ∧ SeqAt.shaped (.tuple ds) = true ∧ Q (.bl (ds.any fun z => PyData.eqv z d)) H
def rNotInT (K : PySem.W.Frag) : R2 := fun x y H Q => ∃ d ds, Dp K H x d ∧ Dp K H y (.tuple ds) ∧ SeqAt.shaped d = true ∧ SeqAt.shaped (.tuple ds) = true ∧ Q (.bl (!ds.any fun z => PyData.eqv z d)) H
theorem op_inT (hu : X.A.units + 65 < cLine) : OpR X (compareOp .In) (rInT X.K) := by
  intro pins s σ H x y v u Q I rx ry h
  obtain ⟨d, ds, hd, he, sd, se, q⟩ := h
  obtain ⟨as, r1⟩ := Dp.reads I d x v hd rx
  obtain ⟨bs, r2⟩ := Dp.reads I (.tuple ds) y u he ry
  exact SeqAt.in_tuple_reads r2 r1 (SeqAt.canLay_of_shaped (d := .tuple ds) se) (SeqAt.canLay_of_shaped sd) (room_in_shaped sd hu) ⟨.bl _, H, I, rfl, q⟩
theorem op_notInT (hu : X.A.units + 65 < cLine) : OpR X (compareOp .NotIn) (rNotInT X.K) := by
  intro pins s σ H x y v u Q I rx ry h
  obtain ⟨d, ds, hd, he, sd, se, q⟩ := h
  obtain ⟨as, r1⟩ := Dp.reads I d x v hd rx
  obtain ⟨bs, r2⟩ := Dp.reads I (.tuple ds) y u he ry
  exact SeqAt.notIn_tuple_reads r2 r1 (SeqAt.canLay_of_shaped (d := .tuple ds) se) (SeqAt.canLay_of_shaped sd) (room_in_shaped sd hu) ⟨.bl _, H, I, rfl, q⟩
def rInStr : R2 := fun x y H Q => ∃ i j, x = .str i ∧ y = .str j ∧ Q (.bl (!(Builtin.Str.occurrences j i 0 j.length 1).isEmpty)) H
def rNotInStr : R2 := fun x y H Q => ∃ i j, x = .str i ∧ y = .str j ∧ Q (.bl (!(!(Builtin.Str.occurrences j i 0 j.length 1).isEmpty))) H
def rC (K : PySem.W.Frag) : CmpOp → R2
  | .Eq => rEqD K
  | .NotEq => rNeD K
  | .Lt => rI0 fun i j => .bl (decide (i < j))
  | .LtE => rI0 fun i j => .bl (decide (i ≤ j))
  | .Gt => rI0 fun i j => .bl (decide (j < i))
  | .GtE => rI0 fun i j => .bl (decide (j ≤ i))
  | .Is => fun x y H Q => y = .non ∧ Q (.bl (decide (x = .non))) H
  | .IsNot => fun x y H Q => y = .non ∧ Q (.bl (!decide (x = .non))) H
  | .In => fun x y H Q => rInStr x y H Q ∨ rInD K x y H Q ∨ rInT K x y H Q
  | .NotIn => fun x y H Q => rNotInStr x y H Q ∨ rNotInD K x y H Q ∨ rNotInT K x y H Q
theorem op_C (hu : X.A.units + 65 < cLine) : ∀ op : CmpOp, OpR X (compareOp op) (rC X.K op) := fun op => by
  cases op with
  | Eq => exact op_eqD (by omega)
  | NotEq => exact op_neD (by omega)
  | Lt => exact op_lt
  | LtE => exact op_le
  | Gt => exact op_gt
  | GtE => exact op_ge
  | Is => exact op_isN
  | IsNot => exact op_notN
  | In => exact op_in_str.or ((op_inD hu).or (op_inT hu))
  | NotIn => exact op_notin_str.or ((op_notInD hu).or (op_notInT hu))
def isNon : D → Bool
  | .non => true
  | _ => false
theorem non_dec {K : PySem.W.Frag} {H : Hp} {W : AS} {x : V} {d : D} (h : RepK K H W x d) : decide (x = .non) = isNon d := by
  cases d with
  | non => rw [h.non]; rfl
  | bl b => rw [h.bl]; rfl
  | int b => rw [h.int]; rfl
  | str b => rw [h.str]; rfl
  | tup l => obtain ⟨a, vs, rfl, _⟩ := h.tup; rfl
  | lst l => obtain ⟨a, vs, rfl, _⟩ := h.lst; rfl
  | dic ks l => obtain ⟨a, vs, rfl, _⟩ := h.dic; rfl
  | scr l => obtain ⟨a, rfl, _⟩ := h.scr; rfl
theorem in_ok {K : PySem.W.Frag} {H : Hp} {W : AS} {x y : V} {d e : D} {b : Bool} (hd : RepK K H W x d) (he : RepK K H W y e) (h : dIn d e = .ok b) :
    (∀ Q : VK, Q (.bl b) H → rC K .In x y H Q) ∧ ∀ Q : VK, Q (.bl (!b)) H → rC K .NotIn x y H Q := by
  unfold dIn at h
  split at h
  · split at h
    · cases h
      exact ⟨fun Q q => .inl ⟨_, _, hd.str, he.str, q⟩, fun Q q => .inl ⟨_, _, hd.str, he.str, q⟩⟩
    · cases h
  · obtain ⟨⟨c1, c2⟩, h⟩ := need_ok h
    cases h
    have k1 := hd.dp c1
    have k2 := he.dp c2
    rw [← any_py]
    exact ⟨fun Q q => .inr (.inl ⟨_, _, k1, k2, c1, c2, q⟩), fun Q q => .inr (.inl ⟨_, _, k1, k2, c1, c2, q⟩)⟩
  · obtain ⟨⟨c1, c2⟩, h⟩ := need_ok h
    cases h
    have k1 := hd.dp c1
    have k2 := he.dp c2
    rw [← any_py]
    exact ⟨fun Q q => .inr (.inr ⟨_, _, k1, k2, c1, c2, q⟩), fun Q q => .inr (.inr ⟨_, _, k1, k2, c1, c2, q⟩)⟩
  · cases h
theorem cmp_ok {K : PySem.W.Frag} {H : Hp} {W : AS} {op : CmpOp} {x y : V} {d e : D} {b : Bool} {Q : VK} (hd : RepK K H W x d) (he : RepK K H W y e) (h : dCmp op d e = .ok b) (q : Q (.bl b) H) : rC K op x y H Q := by
  unfold dCmp at h
  split at h
  · obtain ⟨⟨c1, c2⟩, h⟩ := need_ok h
    cases h
    exact ⟨_, _, hd.dp c1, he.dp c2, c1, c2, q⟩
  · obtain ⟨⟨c1, c2⟩, h⟩ := need_ok h
    cases h
    exact ⟨_, _, hd.dp c1, he.dp c2, c1, c2, q⟩
  · cases h; exact ⟨_, _, hd.int, he.int, q⟩
  · cases h; exact ⟨_, _, hd.int, he.int, q⟩
  · cases h; exact ⟨_, _, hd.int, he.int, q⟩
  · cases h; exact ⟨_, _, hd.int, he.int, q⟩
  · cases h
    refine ⟨he.non, ?_⟩
    rw [non_dec hd]
    cases d <;> exact q
  · cases h
    refine ⟨he.non, ?_⟩
    rw [non_dec hd]
    cases d <;> exact q
  · exact (in_ok hd he h).1 Q q
  · cases z : dIn d e with
    | bad => rw [z] at h; cases h
    | err e => rw [z] at h; cases h
    | ok c =>
      rw [z] at h; cases h
      exact (in_ok hd he z).2 Q q
  · cases h
end
end Dv

set_option Elab.async false
set_option linter.all false
set_option maxRecDepth 100000
namespace Dv
open PySem PySem.Spec PyProof.Rows L2

/-! ### from one state to the next, within an expression -/
structure Go (T : Tc) (σ : Sg) (H : Hp) (ρ : Env') (W : AS) (H' : Hp) (ρ' : Env') (W' : AS) : Prop where
  rel : Rel T σ H' ρ' W'
  step : Step σ H ρ W σ H' ρ' W'
  mon : Mon σ ρ ρ'
  dom : ∀ a, H' a = none → H a = none
  lk : Lk ρ ρ'
structure Out (T : Tc) (σ : Sg) (H : Hp) (ρ : Env') (W : AS) (p : P) (ρ' : Env') (v : V) (H' : Hp) (W' : AS) : Prop where
  go : Go T σ H ρ W H' ρ' W'
  rep : RepP T σ H' ρ' W' v p
  new : ∀ d, p = .own d → ∀ a, v = .ref a → H a = none

/-- an error's exception -/
def ErrR (mg : Str → Option Value) (K : PySem.W.Frag) (er : Er) (cls : Value) (d : Option Addr) (H' : Hp) : Prop :=
  mg er.cls = some cls ∧ (er.val = [] ∨ ∃ a vs, d = some a ∧ H' a = some (.xd ((er.val.map (·.1)).zip vs)) ∧ RepDs K H' (fun _ => True) vs (er.val.map (·.2)))
/-- the error is welcome here -/
def ErrOk (X : Cx) (Z : WX) (er : Er) (σ : Sg) (H : Hp) (ρ : Env') : Prop :=
  ∀ cls d H', ErrR X.mg X.K er cls d H' → (∀ b o, H b = some o → (∀ i, ¬ OwnU σ ρ i b) → H' b = some o) → Z cls d σ H'
def Post (X : Cx) (Z : WX) {α : Type} (r : Rs (α × Env')) (σ : Sg) (H : Hp) (ρ : Env') (k : α → Env' → Prop) : Prop := match r with
  | .ok a => k a.1 a.2
  | .err er => ErrOk X Z er σ H ρ
  | .bad => False

section
variable {X : Cx} {Z : WX} {T : Tc} {F : Fn} {σ : Sg} {H H1 H2 : Hp} {ρ ρ1 ρ2 : Env'} {W W1 W2 : AS}
theorem Go.refl (R : Rel T σ H ρ W) : Go T σ H ρ W H ρ W := ⟨R, Step.refl, .refl, fun _ h => h, .refl⟩
theorem Go.trans (a : Go T σ H ρ W H1 ρ1 W1) (b : Go T σ H1 ρ1 W1 H2 ρ2 W2) : Go T σ H ρ W H2 ρ2 W2 := ⟨b.rel, a.step.trans b.step, a.mon.trans b.mon, fun x h => a.dom x (b.dom x h), a.lk.trans b.lk⟩
theorem Out.after {p : P} {v : V} (a : Go T σ H ρ W H1 ρ1 W1) (b : Out T σ H1 ρ1 W1 p ρ2 v H2 W2) : Out T σ H ρ W p ρ2 v H2 W2 := ⟨a.trans b.go, b.rep, fun d e x h => a.dom x (b.new d e x h)⟩
theorem ErrOk.move {er : Er} (h : ErrOk X Z er σ H ρ) (s : Step σ H ρ W σ H1 ρ1 W1) : ErrOk X Z er σ H1 ρ1 := fun cls d H' e k => h cls d H' e fun b o hb n => by
  obtain ⟨h1, n1, _⟩ := s b o hb n
  exact k b o h1 n1
theorem Post.move {α : Type} {r : Rs (α × Env')} {k : α → Env' → Prop} (h : Post X Z r σ H ρ k) (s : Step σ H ρ W σ H1 ρ1 W1) : Post X Z r σ H1 ρ1 k := by
  cases r with
  | ok a => exact h
  | err er => exact ErrOk.move h s
  | bad => exact h
theorem Post.bind {α β : Type} {r : Rs (α × Env')} {f : α × Env' → Rs (β × Env')} {k : β → Env' → Prop} (h : Post X Z (r.bind f) σ H ρ k) : Post X Z r σ H ρ fun a ρ' => Post X Z (f (a, ρ')) σ H ρ k := by
  cases r with
  | ok a => exact h
  | err er => exact h
  | bad => exact h
theorem Post.imp {α : Type} {r : Rs (α × Env')} {k k' : α → Env' → Prop} (h : Post X Z r σ H ρ k) (g : ∀ a ρ', k a ρ' → k' a ρ') : Post X Z r σ H ρ k' := by
  cases r with
  | ok a => exact g _ _ h
  | err er => exact h
  | bad => exact h
/-- a step that raises nothing -/
def NoErr {α : Type} (r : Rs α) : Prop := ∀ e, r ≠ .err e
theorem Post.val {α β : Type} {r : Rs α} {f : α → Rs (β × Env')} {k : β → Env' → Prop} (n : NoErr r) (h : Post X Z (r.bind f) σ H ρ k) : ∃ a, r = .ok a ∧ Post X Z (f a) σ H ρ k := by
  cases r with
  | ok a => exact ⟨a, rfl, h⟩
  | err er => exact absurd rfl (n er)
  | bad => exact h.elim
theorem Post.need {p : Prop} {β : Type} {r : Rs (β × Env')} {k : β → Env' → Prop} (h : Post X Z (need p r) σ H ρ k) : p ∧ Post X Z r σ H ρ k := by
  unfold Dv.need at h
  split at h
  · exact ⟨by assumption, h⟩
  · exact h.elim
theorem NoErr.of {α : Type} {o : Option α} : NoErr (Rs.of o) := fun e h => by cases o <;> cases h
theorem NoErr.pk {p : P} {ρ : Env'} : NoErr (Dv.pk p ρ) := NoErr.of
theorem NoErr.need {p : Prop} {α : Type} {r : Rs α} (h : NoErr r) : NoErr (Dv.need p r) := fun e q => by
  unfold Dv.need at q
  split at q
  · exact h e q
  · cases q
theorem NoErr.ok {α : Type} {a : α} : NoErr (Rs.ok a) := fun e h => by cases h
theorem NoErr.bad {α : Type} : NoErr (Rs.bad : Rs α) := fun e h => by cases h
theorem NoErr.bind {α β : Type} {r : Rs α} {f : α → Rs β} (h : NoErr r) (g : ∀ a, NoErr (f a)) : NoErr (r.bind f) := fun e q => by
  cases r with
  | ok a => exact g a e q
  | err x => exact h x rfl
  | bad => cases q
theorem NoErr.dBin {op : Operator} {x y : D} : NoErr (Dv.dBin op x y) := by
  unfold Dv.dBin
  split <;> first | exact .ok | exact .bad | exact .need .ok
theorem NoErr.dIn {x y : D} : NoErr (Dv.dIn x y) := by
  unfold Dv.dIn
  split
  · split <;> first | exact .ok | exact .bad
  · exact .need .ok
  · exact .need .ok
  · exact .bad
theorem NoErr.dCmp {op : CmpOp} {x y : D} : NoErr (Dv.dCmp op x y) := by
  unfold Dv.dCmp
  split <;> first | exact .ok | exact .bad | exact .need .ok | exact .dIn | exact .bind .dIn fun _ => .ok
theorem NoErr.truth {x : D} : NoErr (Dv.truth x) := by
  unfold Dv.truth
  split <;> first | exact .ok | exact .bad | exact .need .ok
theorem NoErr.dIdx {x y : D} : NoErr (Dv.dIdx x y) := by
  unfold Dv.dIdx
  split <;> first | exact .of | exact .bad | exact .bind .of fun _ => .ok | exact .need (.bind .of fun _ => .ok)
theorem NoErr.items {x : D} : NoErr (Dv.items x) := by
  unfold Dv.items
  split <;> first | exact .ok | exact .bad
theorem NoErr.itemsL {x : D} : NoErr (Dv.itemsL x) := by
  unfold Dv.itemsL
  split <;> first | exact .ok | exact .bad
theorem NoErr.itemss {x : List D} : NoErr (Dv.itemss x) := by
  unfold Dv.itemss
  split <;> first | exact .ok | exact .bad
theorem NoErr.dLen {x : D} : NoErr (Dv.dLen x) := by
  unfold Dv.dLen
  split <;> first | exact .ok | exact .bad | exact .need .ok
theorem NoErr.isTy {t : Ty} {x : D} : NoErr (Dv.isTy t x) := by
  unfold Dv.isTy
  split <;> first | exact .ok | exact .bad
theorem NoErr.dBl {b : Bl} {l : List D} : NoErr (Dv.dBl b l) := by
  unfold Dv.dBl
  split <;> first | exact .ok | exact .bad | exact .bind .of fun _ => .ok | exact .bind .dLen fun _ => .ok
theorem NoErr.dSlc {x : D} {a b : Option Int} : NoErr (Dv.dSlc x a b) := by
  unfold Dv.dSlc
  split <;> first | exact .ok | exact .bad | exact .need .ok
theorem NoErr.dMe {m : Me} {x : D} {l : List D} : NoErr (Dv.dMe m x l) := by
  unfold Dv.dMe
  split
  · exact .bind .of fun _ => .need .ok
  · exact .bind .of fun _ => .need .ok
  · exact .need .ok
  · refine .need ?_
    split <;> first | exact .ok | exact .bad
  · exact .bad
theorem NoErr.dMm {m : Mm} {x : D} {l : List D} : NoErr (Dv.dMm m x l) := by
  unfold Dv.dMm
  split <;> first | exact .bad | exact .need .ok | exact .bind .of fun _ => .ok | exact .need (.bind .of fun _ => .bind .of fun _ => .ok)
theorem NoErr.evVar {i : Nat} {ρ : Env'} : NoErr (Dv.evVar i ρ) := by
  unfold Dv.evVar
  split <;> first | exact .ok | exact .bad
theorem NoErr.asB {r : P × Env'} : NoErr (Dv.asB r) := by
  unfold Dv.asB
  split <;> first | exact .ok | exact .bad
theorem NoErr.quiet {α : Type} {r : Rs α} : NoErr r.quiet := fun e h => by cases r <;> cases h
theorem NoErr.pks : ∀ {ps : List P} {ρ : Env'}, NoErr (Dv.pks ps ρ)
  | [], _ => .ok
  | _ :: _, _ => .bind .pk fun _ => .bind NoErr.pks fun _ => .ok
theorem NoErr.putV {i : Nat} {d : D} {ρ : Env'} : NoErr (Dv.putV i d ρ) := by
  unfold Dv.putV
  split <;> first | exact .ok | exact .bad
theorem NoErr.putVs : ∀ {is : List Nat} {ds : List D} {ρ : Env'}, NoErr (Dv.putVs is ds ρ)
  | [], [], _ => .ok
  | _ :: _, _ :: _, _ => .bind .putV fun _ => NoErr.putVs
  | [], _ :: _, _ => .bad
  | _ :: _, [], _ => .bad
theorem NoErr.asgT {t : Tg} {d : D} {ρ : Env'} : NoErr (Dv.asgT t d ρ) := by
  unfold Dv.asgT
  split <;> first | exact .putV | exact .putVs | exact .bad
theorem NoErr.unlock {o : Option Nat} {ρ : Env'} : NoErr (Dv.unlock o ρ) := by
  unfold Dv.unlock
  split
  · exact .ok
  · split <;> first | exact .ok | exact .bad

/-! ### readings -/
def tE (X : Cx) (T : Tc) (F : Fn) (Z : WX) (e : Ex) : TE := fun σ H Q => ∃ ρ W, Rel T σ H ρ W ∧ Post X Z (ev F e ρ) σ H ρ fun p ρ' => ∀ v H' W', Out T σ H ρ W p ρ' v H' W' → Q v H'
def tT (X : Cx) (T : Tc) (F : Fn) (Z : WX) (t : Tx) : TT := fun σ H Q => ∃ ρ W, Rel T σ H ρ W ∧ Post X Z (evT F t ρ) σ H ρ fun b ρ' => ∀ H' W', Go T σ H ρ W H' ρ' W' → Q b H'

theorem wkE {e : Expr} {t t' : TE} (h : PE X e t) (w : ∀ σ H Q, t' σ H Q → t σ H Q) : PE X e t' := ⟨fun pins s σ H Q I q => h.run pins s σ H Q I (w σ H Q q)⟩
theorem wkT {e : Expr} {t t' : TT} (h : PT X e t) (w : ∀ σ H Q, t' σ H Q → t σ H Q) : PT X e t' := ⟨fun pins s σ H Q I q => h.run pins s σ H Q I (w σ H Q q)⟩
theorem wkA {e : List Expr} {t t' : TA} (h : PA X e t) (w : ∀ σ H Q, t' σ H Q → t σ H Q) : PA X e t' := ⟨fun pos pins s σ H Q I q => h.run pos pins s σ H Q I (w σ H Q q)⟩

/-- a tuple laid -/
theorem Go.tup (R : Rel T σ H ρ W) {a : Addr} {vs : List V} (n : H a = none) : Go T σ H ρ W (upd H a (.tup vs)) ρ W := by
  have ad : Adv H W (upd H a (.tup vs)) W := adv_new n
  refine ⟨⟨R.len, fun i s e => ?_, R.sep, fun x w => ?_, R.fr, fun x h => R.fzk x ?_, R.bor⟩, fun b o h k => ⟨by rw [upd_ne (ne_of_none h n)]; exact h, k, Iff.rfl⟩, .refl, fun x h => ?_, .refl⟩
  · obtain ⟨o, e1, q⟩ := R.at_ i s e
    refine ⟨o, e1, ?_⟩
    cases s with
    | val d => obtain ⟨v, e2, r⟩ := q; exact ⟨v, e2, r.adv R.wl ad⟩
    | brz d => obtain ⟨v, e2, r⟩ := q; exact ⟨v, e2, r.adv R.wl ad⟩
    | own b d => obtain ⟨c, ob, e2, e3, w, r⟩ := q; exact ⟨c, ob, e2, by rw [upd_ne (ne_of_none e3 n)]; exact e3, w, r.adv R.wl ad⟩
    | lck b d => obtain ⟨c, ob, e2, e3, w, r⟩ := q; exact ⟨c, ob, e2, by rw [upd_ne (ne_of_none e3 n)]; exact e3, w, r.adv R.wl ad⟩
  · obtain ⟨o, e, m⟩ := R.wl x w
    exact ⟨o, by rw [upd_ne (ne_of_none e n)]; exact e, m⟩
  · by_cases e : x = a
    · subst e; exact n
    · rw [upd_ne e] at h; exact h
  · by_cases e : x = a
    · subst e; exact n
    · rw [upd_ne e] at h; exact h
/-- a new mutable object laid -/
theorem Out.own (R : Rel T σ H ρ W) {a : Addr} {o : HO} {d : D} (n : H a = none) (q : RepO T.K H W o d) : Out T σ H ρ W (.own d) ρ (.ref a) (upd H a o) (fun x => W x ∨ x = a) := by
  have ad : Adv H W (upd H a o) (fun x => W x ∨ x = a) := fun b u e w => ⟨by rw [upd_ne (ne_of_none e n)]; exact e, fun z => z.elim w (ne_of_none e n)⟩
  have nO : ∀ i, ¬ OwnA σ ρ i a := fun i z => by
    obtain ⟨_, u, e, _⟩ := R.ownA z
    rw [n] at e; cases e
  refine ⟨⟨⟨R.len, fun i s e => ?_, R.sep, fun x w => ?_, R.fr, fun x h => R.fzk x ?_, R.bor⟩, fun b u h k => ⟨by rw [upd_ne (ne_of_none h n)]; exact h, k, ⟨fun z => z.elim id fun e => absurd e (ne_of_none h n), .inl⟩⟩, .refl, fun x h => ?_, .refl⟩, ⟨a, o, rfl, upd_same, .inr rfl, nO, R.fzk a n, q.adv R.wl ad⟩, fun _ _ b e => by cases e; exact n⟩
  · obtain ⟨v, e1, z⟩ := R.at_ i s e
    refine ⟨v, e1, ?_⟩
    cases s with
    | val d => obtain ⟨v, e2, r⟩ := z; exact ⟨v, e2, r.adv R.wl ad⟩
    | brz d => obtain ⟨v, e2, r⟩ := z; exact ⟨v, e2, r.adv R.wl ad⟩
    | own b d => obtain ⟨c, ob, e2, e3, w, r⟩ := z; exact ⟨c, ob, e2, by rw [upd_ne (ne_of_none e3 n)]; exact e3, .inl w, r.adv R.wl ad⟩
    | lck b d => obtain ⟨c, ob, e2, e3, w, r⟩ := z; exact ⟨c, ob, e2, by rw [upd_ne (ne_of_none e3 n)]; exact e3, .inl w, r.adv R.wl ad⟩
  · rcases w with w | rfl
    · obtain ⟨u, e, m⟩ := R.wl x w
      exact ⟨u, by rw [upd_ne (ne_of_none e n)]; exact e, m⟩
    · exact ⟨o, upd_same, q.mk1⟩
  · by_cases e : x = a
    · subst e; exact n
    · rw [upd_ne e] at h; exact h
  · by_cases e : x = a
    · subst e; exact n
    · rw [upd_ne e] at h; exact h
theorem Out.val (g : Go T σ H ρ W H1 ρ1 W1) {v : V} {d : D} (r : RepD T.K H1 W1 v d) : Out T σ H ρ W (.val d) ρ1 v H1 W1 := ⟨g, r, fun _ e => by cases e⟩
/-- a result that an operation makes -/
theorem Go.res (g : Go T σ H ρ W H1 ρ1 W1) {p : P} {Q : VK} (h : ∀ v H' W', Out T σ H ρ W p ρ1 v H' W' → Q v H') (np : ∀ i, p ≠ .at_ i) : ResQ T.K H1 W1 p Q := by
  cases p with
  | val d =>
    rintro v H' (rfl | ⟨a, vs, n, rfl⟩) r
    · exact h _ _ _ (.val g r)
    · exact h _ _ _ (.val (g.trans (Go.tup g.rel n)) r)
  | own d => exact fun a o n q => h _ _ _ (Out.after g (Out.own g.rel n q))
  | at_ i => exact absurd rfl (np i)
theorem dBin_np {op : Operator} {x y : D} {p : P} (h : dBin op x y = .ok p) (i : Nat) : p ≠ .at_ i := by
  unfold dBin at h
  split at h <;> first | (cases h; done) | (cases h; simp; done) | (obtain ⟨_, h⟩ := need_ok h; cases h; simp)

theorem pk_of {p : P} {ρ : Env'} {d : D} (h : pk p ρ = .ok d) : peek p ρ = some d := by
  unfold pk Rs.of at h
  split at h
  · cases h
  · rename_i e; cases h; exact e
/-! ### the simple expressions -/
theorem s_bin (tk : T.K = X.K) {a b : Ex} {a' b' : Expr} {op : Operator} {pos : Pos} (ha : PE X a' (tE X T F Z a)) (hb : PE X b' (tE X T F Z b)) : PE X (.BinOp a' op b' pos) (tE X T F Z (.bin op a b)) := by
  refine wkE (pe_op (op_B op) ha hb) ?_
  rintro σ H Q ⟨ρ, W, R, h⟩
  refine ⟨ρ, W, R, (Post.bind h).imp fun p1 ρ1 h1 v1 H1 W1 o1 => ⟨ρ1, W1, o1.go.rel, ((Post.bind h1).move o1.go.step).imp fun p2 ρ2 h2 v2 H2 W2 o2 => ?_⟩⟩
  obtain ⟨x, ex, h3⟩ := Post.val .pk h2
  obtain ⟨y, ey, h4⟩ := Post.val .pk h3
  obtain ⟨p, ep, h5⟩ := Post.val .dBin h4
  have h5 : ∀ v H' W', Out T σ H ρ W p ρ2 v H' W' → Q v H' := h5
  have kx := peek_ok o2.go.rel (o1.rep.step o1.go.rel o2.go.step o2.go.mon) (pk_of ex)
  have ky := peek_ok o2.go.rel o2.rep (pk_of ey)
  rw [← tk]
  exact bin_ok o2.go.rel.wl kx ky ep ((o1.go.trans o2.go).res h5 (dBin_np ep))
end
end Dv

set_option Elab.async false
set_option linter.all false
set_option maxRecDepth 100000
namespace Dv
open PySem PySem.Spec PyProof.Rows L2

def RepPs (T : Tc) (σ : Sg) (H0 H : Hp) (ρ : Env') (W : AS) : List V → List P → Prop
  | vs, [] => vs = []
  | vs, p :: ps => ∃ v r, vs = v :: r ∧ RepP T σ H ρ W v p ∧ (∀ d a, p = .own d → v = .ref a → H0 a = none ∧ ∀ (j : Nat) (c : D), ps[j]? = some (P.own c) → r[j]? ≠ some (V.ref a)) ∧ RepPs T σ H0 H ρ W r ps
structure Outs (T : Tc) (σ : Sg) (H : Hp) (ρ : Env') (W : AS) (ps : List P) (ρ' : Env') (vs : List V) (H' : Hp) (W' : AS) : Prop where
  go : Go T σ H ρ W H' ρ' W'
  rep : RepPs T σ H H' ρ' W' vs ps
/-- the new objects among the arguments -/
def tmps (vs : List V) (ps : List P) : AS := fun a => ∃ (j : Nat) (d : D), ps[j]? = some (P.own d) ∧ vs[j]? = some (V.ref a)

section
variable {X : Cx} {Z : WX} {T : Tc} {F : Fn} {σ : Sg} {H H0 H1 H2 : Hp} {ρ ρ1 ρ2 ρ' : Env'} {W W1 W2 : AS} {A : AS}
theorem StepX.adv (s : StepX A σ H ρ W σ H1 ρ1 W1) (R : Rel T σ H ρ W) (hA : ∀ a, A a → W a) : Adv H W H1 W1 := fun b o h w => by
  obtain ⟨h1, _, w1⟩ := s b o h (R.nown w) fun z => w (hA b z)
  exact ⟨h1, fun z => w (w1.mp z)⟩
theorem RepP.stepX {v : V} {p : P} (h : RepP T σ H ρ W v p) (R : Rel T σ H ρ W) (s : StepX A σ H ρ W σ H1 ρ1 W1) (m : Mon σ ρ ρ1) (hA : ∀ a, A a → W a) (n : ∀ d a, p = .own d → v = .ref a → ¬ A a) : RepP T σ H1 ρ1 W1 v p := by
  cases p with
  | val d => exact RepD.adv R.wl (s.adv R hA) h
  | own d =>
    obtain ⟨a, o, e, ha, w, no, f, q⟩ := h
    obtain ⟨h1, n1, w1⟩ := s a o ha (fun i z => no i z.a) (n d a rfl e)
    exact ⟨a, o, e, h1, w1.mpr w, fun i z => no i (m i a z), f, q.adv R.wl (s.adv R hA)⟩
  | at_ i => exact h
theorem RepPs.step : ∀ {ps : List P} {vs : List V}, RepPs T σ H0 H ρ W vs ps → Rel T σ H ρ W → Step σ H ρ W σ H1 ρ1 W1 → Mon σ ρ ρ1 → RepPs T σ H0 H1 ρ1 W1 vs ps
  | [], _, h, _, _, _ => h
  | _ :: _, _, h, R, s, m => by
    obtain ⟨v, r, e, q, n, t⟩ := h
    exact ⟨v, r, e, q.step R s m, n, t.step R s m⟩
theorem RepPs.stepX : ∀ {ps : List P} {vs : List V}, RepPs T σ H0 H ρ W vs ps → Rel T σ H ρ W → StepX A σ H ρ W σ H1 ρ1 W1 → Mon σ ρ ρ1 → (∀ a, A a → W a) → (∀ (j : Nat) (d : D) (a : Addr), ps[j]? = some (P.own d) → vs[j]? = some (V.ref a) → ¬ A a) → RepPs T σ H0 H1 ρ1 W1 vs ps
  | [], _, h, _, _, _, _, _ => h
  | p :: _, _, h, R, s, m, hA, n => by
    obtain ⟨v, r, rfl, q, n1, t⟩ := h
    exact ⟨v, r, rfl, q.stepX R s m hA fun d a e1 e2 => n 0 d a (by rw [e1]; rfl) (by rw [e2]; rfl), n1, t.stepX R s m hA fun j d a e1 e2 => n (j + 1) d a (by simpa using e1) (by simpa using e2)⟩
theorem RepPs.base : ∀ {ps : List P} {vs : List V}, RepPs T σ H0 H ρ W vs ps → (∀ a, H0 a = none → H2 a = none) → RepPs T σ H2 H ρ W vs ps
  | [], _, h, _ => h
  | _ :: _, _, h, d => by
    obtain ⟨v, r, e, q, n, t⟩ := h
    exact ⟨v, r, e, q, fun c a e1 e2 => ⟨d a (n c a e1 e2).1, (n c a e1 e2).2⟩, t.base d⟩
theorem RepPs.length : ∀ {ps : List P} {vs : List V}, RepPs T σ H0 H ρ W vs ps → vs.length = ps.length
  | [], _, h => by rw [show _ = [] from h]; rfl
  | _ :: _, _, h => by
    obtain ⟨v, r, rfl, _, _, t⟩ := h
    rw [List.length_cons, List.length_cons, t.length]
theorem RepPs.get : ∀ {ps : List P} {vs : List V} {j : Nat} {p : P}, RepPs T σ H0 H ρ W vs ps → ps[j]? = some p → ∃ v, vs[j]? = some v ∧ RepP T σ H ρ W v p
  | [], _, _, _, _, e => by simp at e
  | _ :: _, _, 0, _, h, e => by
    obtain ⟨v, r, rfl, q, _, _⟩ := h
    simp at e; subst e; exact ⟨v, rfl, q⟩
  | _ :: _, _, j + 1, _, h, e => by
    obtain ⟨v, r, rfl, _, _, t⟩ := h
    obtain ⟨u, h1, h2⟩ := t.get (j := j) (by simpa using e)
    exact ⟨u, by simpa using h1, h2⟩
theorem RepPs.new : ∀ {ps : List P} {vs : List V} {j : Nat} {d : D} {a : Addr}, RepPs T σ H0 H ρ W vs ps → ps[j]? = some (.own d) → vs[j]? = some (.ref a) → H0 a = none
  | [], _, _, _, _, _, e, _ => by simp at e
  | _ :: _, _, 0, _, _, h, e, e2 => by
    obtain ⟨v, r, rfl, _, n, _⟩ := h
    simp at e e2
    exact (n _ _ e e2).1
  | _ :: _, _, j + 1, _, _, h, e, e2 => by
    obtain ⟨v, r, rfl, _, _, t⟩ := h
    exact t.new (j := j) (by simpa using e) (by simpa using e2)
theorem RepPs.dst : ∀ {ps : List P} {vs : List V} {i j : Nat} {c d : D} {a : Addr}, RepPs T σ H0 H ρ W vs ps → ps[i]? = some (.own c) → ps[j]? = some (.own d) → vs[i]? = some (.ref a) → vs[j]? = some (.ref a) → i = j
  | [], _, _, _, _, _, _, _, e, _, _, _ => by simp at e
  | _ :: _, _, 0, 0, _, _, _, _, _, _, _, _ => rfl
  | _ :: _, _, 0, j + 1, _, _, _, h, e1, e2, e3, e4 => by
    obtain ⟨v, r, rfl, _, n, _⟩ := h
    simp at e1 e3
    exact absurd (by simpa using e4) ((n _ _ e1 e3).2 j _ (by simpa using e2))
  | _ :: _, _, i + 1, 0, _, _, _, h, e1, e2, e3, e4 => by
    obtain ⟨v, r, rfl, _, n, _⟩ := h
    simp at e2 e4
    exact absurd (by simpa using e3) ((n _ _ e2 e4).2 i _ (by simpa using e1))
  | _ :: _, _, i + 1, j + 1, _, _, _, h, e1, e2, e3, e4 => by
    obtain ⟨v, r, rfl, _, _, t⟩ := h
    rw [t.dst (i := i) (j := j) (by simpa using e1) (by simpa using e2) (by simpa using e3) (by simpa using e4)]
theorem tmps_w {ps : List P} {vs : List V} (h : RepPs T σ H0 H ρ W vs ps) : ∀ a, tmps vs ps a → W a ∧ H0 a = none := fun a ⟨j, d, e1, e2⟩ => by
  obtain ⟨v, e3, a', o, e4, _, w, _⟩ := h.get e1
  rw [e2] at e3; cases e3; cases e4
  exact ⟨w, h.new e1 e2⟩
theorem tmp_w {p : P} {v : V} (h : RepP T σ H ρ W v p) : ∀ a, tmp v p a → W a := fun a z => by
  cases p with
  | val d => exact z.elim
  | at_ i => exact z.elim
  | own d =>
    obtain ⟨a', o, e4, _, w, _⟩ := h
    rw [show v = .ref a from z] at e4
    cases e4
    exact w

theorem toDs_ok : ∀ {ps : List P} {vs : List V} {ρ ρ' : Env'} {W : AS} {ds : List D}, Rel T σ H ρ W → RepPs T σ H0 H ρ W vs ps → toDs ps ρ = some (ds, ρ') →
    ∃ W', Rel T σ H ρ' W' ∧ RepDs T.K H W' vs ds ∧ StepX (tmps vs ps) σ H ρ W σ H ρ' W' ∧ Mon σ ρ ρ' ∧ Lk ρ ρ'
  | [], _, _, _, W, _, R, h, e => by
    cases e
    exact ⟨W, R, h, Step.refl.x, .refl, .refl⟩
  | p :: ps, _, ρ, ρ', W, ds, R, h, e => by
    obtain ⟨v, r, rfl, q, n, t⟩ := h
    have e : ((toD p ρ).bind fun r => (toDs ps r.2).bind fun q => some (r.1 :: q.1, q.2)) = some (ds, ρ') := e
    cases e1 : toD p ρ with
    | none => rw [e1] at e; cases e
    | some x =>
      rw [e1] at e
      have e : ((toDs ps x.2).bind fun q => some (x.1 :: q.1, q.2)) = some (ds, ρ') := e
      cases e2 : toDs ps x.2 with
      | none => rw [e2] at e; cases e
      | some y =>
        rw [e2] at e
        cases e
        obtain ⟨W1, R1, q1, s1, m1, l1⟩ := toD_ok R q (d := x.1) (ρ' := x.2) e1
        have t1 : RepPs T σ H0 H x.2 W1 r ps := t.stepX R s1 m1 (tmp_w q) fun j c a h1 h2 z => by
          cases p with
          | val d => exact z
          | at_ i => exact z
          | own d => exact (n d a rfl z).2 j c h1 h2
        obtain ⟨W2, R2, q2, s2, m2, l2⟩ := toDs_ok R1 t1 (ds := y.1) (ρ' := y.2) e2
        refine ⟨W2, R2, ⟨v, r, rfl, RepD.adv R1.wl (s2.adv R1 fun a z => (tmps_w t1 a z).1) q1, q2⟩, fun b o hb no na => ?_, m1.trans m2, l1.trans l2⟩
        obtain ⟨_, n1, w1⟩ := s1 b o hb no fun z => na (by
          cases p with
          | val d => exact z.elim
          | at_ i => exact z.elim
          | own d => exact ⟨0, d, rfl, by rw [show v = .ref b from z]; rfl⟩)
        obtain ⟨h2, n2, w2⟩ := s2 b o hb n1 fun ⟨j, d, z1, z2⟩ => na ⟨j + 1, d, by simpa using z1, by simpa using z2⟩
        exact ⟨h2, n2, w2.trans w1⟩
theorem Outs.data {ps : List P} {vs : List V} {ds : List D} (o : Outs T σ H ρ W ps ρ1 vs H1 W1) (e : toDs ps ρ1 = some (ds, ρ2)) : ∃ W2, Go T σ H ρ W H1 ρ2 W2 ∧ RepDs T.K H1 W2 vs ds := by
  obtain ⟨W2, R2, q, s, m, l⟩ := toDs_ok o.go.rel o.rep e
  exact ⟨W2, ⟨R2, o.go.step.then s fun a z => (tmps_w o.rep a z).2, o.go.mon.trans m, o.go.dom, o.go.lk.trans l⟩, q⟩
theorem Out.data {p : P} {v : V} {d : D} (o : Out T σ H ρ W p ρ1 v H1 W1) (e : toD p ρ1 = some (d, ρ2)) : ∃ W2, Go T σ H ρ W H1 ρ2 W2 ∧ RepD T.K H1 W2 v d := by
  obtain ⟨W2, R2, q, s, m, l⟩ := toD_ok o.go.rel o.rep e
  refine ⟨W2, ⟨R2, o.go.step.then s fun a z => ?_, o.go.mon.trans m, o.go.dom, o.go.lk.trans l⟩, q⟩
  cases p with
  | val d => exact z.elim
  | at_ i => exact z.elim
  | own d => exact o.new d rfl a z
theorem of_ok {α : Type} {o : Option α} {a : α} (h : Rs.of o = .ok a) : o = some a := by
  cases o with
  | none => cases h
  | some x => cases h; rfl

/-! ### the simple expressions -/
def tA (X : Cx) (T : Tc) (F : Fn) (Z : WX) (l : Exs) : TA := fun σ H Q => ∃ ρ W, Rel T σ H ρ W ∧ Post X Z (evs F l ρ) σ H ρ fun ps ρ' => ∀ vs H' W', Outs T σ H ρ W ps ρ' vs H' W' → Q vs H'
variable {a b c : Ex} {a' b' c' : Expr} {pos : Pos}
theorem s_cst (d : D) (v : V) (e : Expr) (he : PE X e (tC v)) (hv : ∀ H W, RepD T.K H W v d) : PE X e (tE X T F Z (.cst d)) := by
  refine wkE he ?_
  rintro σ H Q ⟨ρ, W, R, h⟩
  exact h v H W (.val (Go.refl R) (hv H W))
theorem s_var {i : Nat} (he : PE X a' (tVar i)) : PE X a' (tE X T F Z (.var i)) := by
  refine wkE he ?_
  rintro σ H Q ⟨ρ, W, R, h⟩
  have h : Post X Z (evVar i ρ) σ H ρ _ := h
  unfold evVar at h
  split at h
  · rename_i d e
    obtain ⟨o, e1, v, rfl, q⟩ := R.at_ i _ e
    exact ⟨v, e1, h v H W (.val (Go.refl R) q)⟩
  · rename_i d e
    obtain ⟨o, e1, v, rfl, q⟩ := R.at_ i _ e
    exact ⟨v, e1, h v H W (.val (Go.refl R) q)⟩
  · rename_i b d e
    obtain ⟨o, e1, x, ob, rfl, q⟩ := R.at_ i _ e
    exact ⟨_, e1, h _ H W ⟨Go.refl R, e1, fun _ z => by cases z⟩⟩
  · rename_i b d e
    obtain ⟨o, e1, x, ob, rfl, q⟩ := R.at_ i _ e
    exact ⟨_, e1, h _ H W ⟨Go.refl R, e1, fun _ z => by cases z⟩⟩
  · exact h.elim
theorem s_glo {x : Str} (h : ∀ d, F.glo x = some d → ∃ v, PE X a' (tC v) ∧ ∀ H W, RepD T.K H W v d) : PE X a' (tE X T F Z (.glo x)) := by
  refine ⟨fun pins s σ H Q I q => ?_⟩
  obtain ⟨ρ, W, R, p⟩ := q
  obtain ⟨d, e, p⟩ := Post.val (r := Rs.of (F.glo x)) .of p
  obtain ⟨v, pe, hv⟩ := h d (of_ok e)
  exact pe.run pins s σ H Q I (p v H W (.val (Go.refl R) (hv H W)))
/-- two operands have come -/
theorem two (o1 : ∀ (_ : Unit), True) : True := trivial
theorem s_cmp (tk : T.K = X.K) (hu : X.A.units + 65 < cLine) {op : CmpOp} (hm : behindInMarks op b' = false) (ha : PE X a' (tE X T F Z a)) (hb : PE X b' (tE X T F Z b)) : PE X (.Compare a' [op] [b'] pos) (tE X T F Z (.cmp op a b)) := by
  refine wkE (pe_cmpR (op_C hu op) ha hb hm) ?_
  rintro σ H Q ⟨ρ, W, R, h⟩
  refine ⟨ρ, W, R, (Post.bind h).imp fun p1 ρ1 h1 v1 H1 W1 o1 => ⟨ρ1, W1, o1.go.rel, ((Post.bind h1).move o1.go.step).imp fun p2 ρ2 h2 v2 H2 W2 o2 => ?_⟩⟩
  obtain ⟨x, ex, h3⟩ := Post.val .pk h2
  obtain ⟨y, ey, h4⟩ := Post.val .pk h3
  obtain ⟨p, ep, h5⟩ := Post.val .dCmp h4
  have kx := peek_ok o2.go.rel (o1.rep.step o1.go.rel o2.go.step o2.go.mon) (pk_of ex)
  have ky := peek_ok o2.go.rel o2.rep (pk_of ey)
  rw [← tk]
  exact cmp_ok kx ky ep (h5 _ _ _ (.val (o1.go.trans o2.go) rfl))
theorem s_tcmp (tk : T.K = X.K) (hu : X.A.units + 65 < cLine) {op : CmpOp} (hm : behindInMarks op b' = false) (ha : PE X a' (tE X T F Z a)) (hb : PE X b' (tE X T F Z b)) : PT X (.Compare a' [op] [b'] pos) (tT X T F Z (.cmp op a b)) := by
  refine wkT (pt_cmpR (op_C hu op) ha hb hm) ?_
  rintro σ H Q ⟨ρ, W, R, h⟩
  refine ⟨ρ, W, R, (Post.bind h).imp fun p1 ρ1 h1 v1 H1 W1 o1 => ⟨ρ1, W1, o1.go.rel, ((Post.bind h1).move o1.go.step).imp fun p2 ρ2 h2 v2 H2 W2 o2 => ?_⟩⟩
  obtain ⟨x, ex, h3⟩ := Post.val .pk h2
  obtain ⟨y, ey, h4⟩ := Post.val .pk h3
  obtain ⟨p, ep, h5⟩ := Post.val .dCmp h4
  have kx := peek_ok o2.go.rel (o1.rep.step o1.go.rel o2.go.step o2.go.mon) (pk_of ex)
  have ky := peek_ok o2.go.rel o2.rep (pk_of ey)
  rw [← tk]
  exact cmp_ok kx ky ep ⟨_, rfl, h5 _ _ (o1.go.trans o2.go)⟩
theorem s_chn (tk : T.K = X.K) (hu : X.A.units + 65 < cLine) {op op' : CmpOp} (hm : lastMarks [op, op'] [b', c'] = false) (ha : PE X a' (tE X T F Z a)) (hb : PE X b' (tE X T F Z b)) (hc : PE X c' (tE X T F Z c)) :
    PE X (.Compare a' [op, op'] [b', c'] pos) (tE X T F Z (.chn op op' a b c)) := by
  refine wkE (pe_chain (op_C hu op) (op_C hu op') ha hb hc hm) ?_
  rintro σ H Q ⟨ρ, W, R, h⟩
  refine ⟨ρ, W, R, (Post.bind h).imp fun p1 ρ1 h1 v1 H1 W1 o1 => ⟨ρ1, W1, o1.go.rel, ((Post.bind h1).move o1.go.step).imp fun p2 ρ2 h2 v2 H2 W2 o2 => ?_⟩⟩
  obtain ⟨x, ex, h3⟩ := Post.val .pk h2
  obtain ⟨y, ey, h4⟩ := Post.val .pk h3
  obtain ⟨k, ek, h5⟩ := Post.val .dCmp h4
  have kx := peek_ok o2.go.rel (o1.rep.step o1.go.rel o2.go.step o2.go.mon) (pk_of ex)
  have ky := peek_ok o2.go.rel o2.rep (pk_of ey)
  have go2 := o1.go.trans o2.go
  rw [← tk]
  refine cmp_ok kx ky ek ⟨k, rfl, ?_⟩
  cases k with
  | false => exact h5 _ _ _ (.val go2 rfl)
  | true =>
    refine ⟨ρ2, W2, go2.rel, ((Post.bind h5).move go2.step).imp fun p3 ρ3 h6 v3 H3 W3 o3 => ?_⟩
    obtain ⟨y', ey', h7⟩ := Post.val .pk h6
    obtain ⟨z, ez, h8⟩ := Post.val .pk h7
    obtain ⟨k', ek', h9⟩ := Post.val .dCmp h8
    exact cmp_ok (peek_ok o3.go.rel (o2.rep.step o2.go.rel o3.go.step o3.go.mon) (pk_of ey')) (peek_ok o3.go.rel o3.rep (pk_of ez)) ek' (h9 _ _ _ (.val (go2.trans o3.go) rfl))
theorem s_neg (ha : PE X a' (tE X T F Z a)) : PE X (.UnaryOp .USub a' pos) (tE X T F Z (.neg a)) := by
  refine wkE (pe_un un_neg ha) ?_
  rintro σ H Q ⟨ρ, W, R, h⟩
  refine ⟨ρ, W, R, (Post.bind h).imp fun p1 ρ1 h1 v1 H1 W1 o1 => ?_⟩
  obtain ⟨x, ex, h3⟩ := Post.val .pk h1
  have kx := peek_ok o1.go.rel o1.rep (pk_of ex)
  cases x with
  | int i => exact ⟨i, kx.int, h3 _ _ _ (.val o1.go rfl)⟩
  | _ => exact h3.elim
theorem asB_ok {p : P} {ρ : Env'} {k : Bool} {ρ' : Env'} (h : asB (p, ρ) = .ok (k, ρ')) : p = .val (.bl k) ∧ ρ' = ρ := by
  unfold asB at h
  split at h
  · rename_i b e
    have e : p = .val (.bl b) := e
    cases h
    exact ⟨e, rfl⟩
  · cases h
theorem s_not (ha : PE X a' (tE X T F Z a)) : PE X (.UnaryOp .Not a' pos) (tE X T F Z (.not_ a)) := by
  refine wkE (pe_not ha) ?_
  rintro σ H Q ⟨ρ, W, R, h⟩
  refine ⟨ρ, W, R, (Post.bind h).imp fun p1 ρ1 h1 v1 H1 W1 o1 => ?_⟩
  obtain ⟨⟨k, ρ2⟩, ex, h3⟩ := Post.val .asB h1
  obtain ⟨rfl, rfl⟩ := asB_ok ex
  have e : v1 = .bl k := o1.rep
  exact ⟨k, e, h3 _ _ _ (.val o1.go rfl)⟩
theorem s_tnot {t : Tx} (ha : PT X a' (tT X T F Z t)) : PT X (.UnaryOp .Not a' pos) (tT X T F Z (.not_ t)) := by
  refine wkT (pt_not ha) ?_
  rintro σ H Q ⟨ρ, W, R, h⟩
  exact ⟨ρ, W, R, (Post.bind h).imp fun p1 ρ1 h1 H1 W1 o1 => h1 _ _ o1⟩
theorem s_ite {t : Tx} (hc : PT X c' (tT X T F Z t)) (ha : PE X a' (tE X T F Z a)) (hb : PE X b' (tE X T F Z b)) : PE X (.IfExp c' a' b' pos) (tE X T F Z (.ite t a b)) := by
  refine wkE (pe_ifExp hc ha hb) ?_
  rintro σ H Q ⟨ρ, W, R, h⟩
  refine ⟨ρ, W, R, (Post.bind h).imp fun k ρ1 h1 H1 W1 g1 => ?_⟩
  cases k with
  | true => exact ⟨ρ1, W1, g1.rel, (Post.move h1 g1.step).imp fun p ρ2 h2 v H2 W2 o => h2 v H2 W2 (o.after g1)⟩
  | false => exact ⟨ρ1, W1, g1.rel, (Post.move h1 g1.step).imp fun p ρ2 h2 v H2 W2 o => h2 v H2 W2 (o.after g1)⟩
theorem s_nil : PA X [] (tA X T F Z .nil) := by
  refine wkA pa_nil ?_
  rintro σ H Q ⟨ρ, W, R, h⟩
  exact h [] H W ⟨Go.refl R, rfl⟩
theorem s_cons {e : Ex} {l : Exs} {e' : Expr} {l' : List Expr} (he : PE X e' (tE X T F Z e)) (hl : PA X l' (tA X T F Z l)) (hs : starEach (e' :: l') X.env = (false, eval e' X.env) :: starEach l' X.env) : PA X (e' :: l') (tA X T F Z (.cons e l)) := by
  refine wkA (pa_cons he hl hs) ?_
  rintro σ H Q ⟨ρ, W, R, h⟩
  refine ⟨ρ, W, R, (Post.bind h).imp fun p1 ρ1 h1 v1 H1 W1 o1 => ⟨ρ1, W1, o1.go.rel, ((Post.bind h1).move o1.go.step).imp fun p2 ρ2 h2 v2 H2 W2 o2 => ?_⟩⟩
  refine h2 (v1 :: v2) H2 W2 ⟨o1.go.trans o2.go, v1, v2, rfl, o1.rep.step o1.go.rel o2.go.step o2.go.mon, fun d x e1 e2 => ⟨o1.new d e1 x e2, fun j c e3 e4 => ?_⟩, o2.rep.base o1.go.dom⟩
  subst e1
  obtain ⟨x', ob, e5, e6, _⟩ := o1.rep
  rw [e2] at e5; cases e5
  rw [o2.rep.new e3 e4] at e6; cases e6
theorem s_tup {l : Exs} {l' : List Expr} {k : Nat} (hl : PA X l' (tA X T F Z l)) : PE X (.Tuple l' k pos) (tE X T F Z (.tup l)) := by
  refine wkE (pe_tup hl) ?_
  rintro σ H Q ⟨ρ, W, R, h⟩
  refine ⟨ρ, W, R, (Post.bind h).imp fun ps ρ1 h1 vs H1 W1 o1 => ?_⟩
  obtain ⟨⟨ds, ρ2⟩, ex, h3⟩ := Post.val .of h1
  obtain ⟨c, h3⟩ := Post.need h3
  obtain ⟨W2, g, q⟩ := o1.data (of_ok ex)
  refine ⟨by rw [q.length]; exact c, fun p n => ?_⟩
  exact (g.res h3 (fun _ z => by cases z)).tup g.rel.wl q n
theorem s_lst {l : Exs} {l' : List Expr} (hl : PA X l' (tA X T F Z l)) : PE X (.List l' pos) (tE X T F Z (.lst l)) := by
  refine wkE (pe_lst hl) ?_
  rintro σ H Q ⟨ρ, W, R, h⟩
  refine ⟨ρ, W, R, (Post.bind h).imp fun ps ρ1 h1 vs H1 W1 o1 => ?_⟩
  obtain ⟨⟨ds, ρ2⟩, ex, h3⟩ := Post.val .of h1
  obtain ⟨c, h3⟩ := Post.need h3
  obtain ⟨W2, g, q⟩ := o1.data (of_ok ex)
  refine ⟨by rw [q.length]; exact c, fun p n => ?_⟩
  exact (g.res h3 (fun _ z => by cases z)).lst q n
end
end Dv

set_option Elab.async false
set_option linter.all false
set_option maxRecDepth 100000
namespace Dv
open PySem PySem.Spec PyProof.Rows L2

section
variable {X : Cx} {Z : WX} {T : Tc} {F : Fn} {σ : Sg} {H H0 H1 H2 : Hp} {ρ ρ1 ρ2 ρ' : Env'} {W W1 W2 : AS} {K : PySem.W.Frag}

/-! ### subscripts -/
theorem atI_rep {l : List D} {vs : List V} {i : Int} {d : D} (r : RepDs K H W vs l) (h : atI l i = some d) : ∃ v, atI vs i = some v ∧ RepD K H W v d := by
  unfold atI at h ⊢
  rw [r.length]
  cases e : ixN l.length i with
  | none => rw [e] at h; cases h
  | some j =>
    rw [e] at h
    exact r.get h
theorem atI_map {α β : Type} {l : List α} {f : α → β} {i : Int} {d : α} (h : atI l i = some d) : atI (l.map f) i = some (f d) := by
  unfold atI at h ⊢
  rw [List.length_map]
  cases e : ixN l.length i with
  | none => rw [e] at h; cases h
  | some j =>
    rw [e] at h
    have h : l[j]? = some d := h
    show (l.map f)[j]? = some (f d)
    rw [List.getElem?_map, h]
    rfl
theorem idx_ok {x y : V} {d e r : D} {Q : VK} (hd : RepK K H W x d) (he : RepK K H W y e) (h : dIdx d e = .ok r) (q : ∀ v, RepD K H W v r → Q v H) : rIx K x y H Q := by
  unfold dIdx at h
  split at h
  · obtain ⟨a, vs, rfl, e1, r1⟩ := hd.tup
    obtain ⟨v, e2, r2⟩ := atI_rep r1 (of_ok h)
    exact .inr (.inl ⟨a, vs, _, v, rfl, he.int, e1.sq, e2, q v r2⟩)
  · obtain ⟨a, vs, rfl, e1, r1⟩ := hd.lst
    obtain ⟨v, e2, r2⟩ := atI_rep r1 (of_ok h)
    exact .inl ⟨a, vs, _, v, rfl, he.int, .of e1, e2, q v r2⟩
  · rename_i l i
    obtain ⟨a, rfl, e1⟩ := hd.scr
    cases z : atI l i with
    | none => rw [z] at h; cases h
    | some k =>
      rw [z] at h
      cases h
      exact .inl ⟨a, _, _, .int k, rfl, he.int, e1, atI_map z, q _ rfl⟩
  · rename_i z i
    obtain ⟨c, h⟩ := need_ok h
    cases e : atI z.cps.toList i with
    | none => rw [e] at h; cases h
    | some k =>
      rw [e] at h
      cases h
      exact .inr (.inr ⟨z, i, k, hd.str, he.int, c, e, q _ rfl⟩)
  · cases h
theorem s_idx (tk : T.K = X.K) {a b : Ex} {a' b' : Expr} {pos : Pos} (hp : PlainIx b') (ha : PE X a' (tE X T F Z a)) (hb : PE X b' (tE X T F Z b)) : PE X (.Subscript a' b' pos) (tE X T F Z (.idx a b)) := by
  refine wkE (pe_ix ix_seq ha hb hp) ?_
  rintro σ H Q ⟨ρ, W, R, h⟩
  refine ⟨ρ, W, R, (Post.bind h).imp fun p1 ρ1 h1 v1 H1 W1 o1 => ⟨ρ1, W1, o1.go.rel, ((Post.bind h1).move o1.go.step).imp fun p2 ρ2 h2 v2 H2 W2 o2 => ?_⟩⟩
  obtain ⟨x, ex, h3⟩ := Post.val .pk h2
  obtain ⟨y, ey, h4⟩ := Post.val .pk h3
  obtain ⟨d, ed, h5⟩ := Post.val .dIdx h4
  have kx := peek_ok o2.go.rel (o1.rep.step o1.go.rel o2.go.step o2.go.mon) (pk_of ex)
  have ky := peek_ok o2.go.rel o2.rep (pk_of ey)
  rw [← tk]
  exact idx_ok kx ky ed fun v r => h5 _ _ _ (.val (o1.go.trans o2.go) r)

/-! ### slices -/
def tO (X : Cx) (T : Tc) (F : Fn) (Z : WX) (o : Eo) : TO := fun σ H Q => ∃ ρ W, Rel T σ H ρ W ∧ Post X Z (evo F o ρ) σ H ρ fun i ρ' => ∀ H' W', Go T σ H ρ W H' ρ' W' → Q i H'
theorem wkO {e : Option Expr} {t t' : TO} (h : PO X e t) (w : ∀ σ H Q, t' σ H Q → t σ H Q) : PO X e t' := ⟨fun pins s σ H Q I q => h.run pins s σ H Q I (w σ H Q q)⟩
theorem s_onone : PO X none (tO X T F Z .none) := by
  refine wkO po_none ?_
  rintro σ H Q ⟨ρ, W, R, h⟩
  exact h H W (Go.refl R)
theorem s_osome {e : Ex} {e' : Expr} (he : PE X e' (tE X T F Z e)) : PO X (some e') (tO X T F Z (.some e)) := by
  refine wkO (po_some he) ?_
  rintro σ H Q ⟨ρ, W, R, h⟩
  refine ⟨ρ, W, R, (Post.bind h).imp fun p1 ρ1 h1 v1 H1 W1 o1 => ?_⟩
  obtain ⟨x, ex, h3⟩ := Post.val .pk h1
  have kx := peek_ok o1.go.rel o1.rep (pk_of ex)
  cases x with
  | int i => exact ⟨i, kx.int, h3 _ _ o1.go⟩
  | _ => exact h3.elim
def rSl (K : PySem.W.Frag) : V → Option Int → Option Int → Hp → VK → Prop := fun x lo hi H Q => rSlL K x lo hi H Q ∨ rSlA K x lo hi H Q ∨ rSlS x lo hi H Q
theorem sl_any : SlR X (rSl X.K) := sl_list.or (sl_tupA.or sl_str)
theorem slc_ok (wl : WL H W) {x : V} {d : D} {lo hi : Option Int} {p : P} {Q : VK} (hd : RepK K H W x d) (h : dSlc d lo hi = .ok p) (q : ResQ K H W p Q) : rSl K x lo hi H Q := by
  unfold dSlc at h
  split at h
  · obtain ⟨c, h⟩ := need_ok h
    cases h
    exact .inr (.inr ⟨_, hd.str, c, q.flat rfl⟩)
  · cases h
    obtain ⟨a, vs, rfl, e1, r1⟩ := hd.lst
    refine .inl ⟨a, vs, rfl, .of e1, fun p n => ?_⟩
    have r2 := (r1.drop (HT.sIx vs.length 0 lo)).take (HT.sIx vs.length vs.length hi - HT.sIx vs.length 0 lo)
    rw [← r1.length] at q
    exact q.lst r2 n
  · cases h
    obtain ⟨a, vs, rfl, e1, r1⟩ := hd.tup
    rw [← r1.length] at q
    refine .inr (.inl ⟨a, vs, rfl, e1.sq, fun ⟨z1, z2⟩ => ?_, fun _ p n => ?_⟩)
    · rw [z1, z2, List.drop_zero, List.take_of_length_le (by rw [r1.length]; omega)] at q
      exact q.flat ⟨a, vs, rfl, e1, r1⟩
    · exact q.tup wl ((r1.drop (HT.sIx vs.length 0 lo)).take (HT.sIx vs.length vs.length hi - HT.sIx vs.length 0 lo)) n
  · cases h
theorem dSlc_np {x : D} {lo hi : Option Int} {p : P} (h : dSlc x lo hi = .ok p) (i : Nat) : p ≠ .at_ i := by
  unfold dSlc at h
  split at h <;> first | (cases h; done) | (cases h; simp; done) | (obtain ⟨_, h⟩ := need_ok h; cases h; simp)
theorem s_slc (tk : T.K = X.K) {a : Ex} {lo hi : Eo} {a' : Expr} {lo' hi' : Option Expr} {pos p2 : Pos} (ha : PE X a' (tE X T F Z a)) (hl : PO X lo' (tO X T F Z lo)) (hh : PO X hi' (tO X T F Z hi)) :
    PE X (.Subscript a' (.Slice lo' hi' none p2) pos) (tE X T F Z (.slc a lo hi)) := by
  refine wkE (pe_slice sl_any ha hl hh) ?_
  rintro σ H Q ⟨ρ, W, R, h⟩
  refine ⟨ρ, W, R, (Post.bind h).imp fun p1 ρ1 h1 v1 H1 W1 o1 => ⟨ρ1, W1, o1.go.rel, ((Post.bind h1).move o1.go.step).imp fun l ρ2 h2 H2 W2 g2 => ⟨ρ2, W2, g2.rel, ((Post.bind h2).move (o1.go.trans g2).step).imp fun u ρ3 h3 H3 W3 g3 => ?_⟩⟩⟩
  obtain ⟨x, ex, h4⟩ := Post.val .pk h3
  obtain ⟨p, ep, h5⟩ := Post.val .dSlc h4
  have kx := peek_ok g3.rel ((o1.rep.step o1.go.rel g2.step g2.mon).step g2.rel g3.step g3.mon) (pk_of ex)
  rw [← tk]
  exact slc_ok g3.rel.wl kx ep (((o1.go.trans g2).trans g3).res (p := p) h5 (dSlc_np ep))

/-! ### truth, and, or -/
theorem nil_iff {vs : List V} {l : List D} (r : RepDs K H W vs l) : vs.isEmpty = l.isEmpty := by
  have e := r.length
  cases vs <;> cases l <;> simp_all
theorem truth_ok {v : V} {d : D} {b : Bool} (h : RepK K H W v d) (e : truth d = .ok b) : TruV K v H b := by
  unfold truth at e
  split at e
  · cases e; rw [h.non]; rfl
  · cases e; rw [h.bl]; rfl
  · cases e; rw [h.int]; rfl
  · obtain ⟨c, e⟩ := need_ok e
    cases e; rw [h.str]; exact ⟨c, rfl⟩
  · cases e
    obtain ⟨a, vs, rfl, e1, r⟩ := h.tup
    exact .inr (.inl ⟨vs, e1.sq, by rw [nil_iff r]⟩)
  · cases e
    obtain ⟨a, vs, rfl, e1, r⟩ := h.lst
    exact .inl ⟨vs, .of e1, by rw [nil_iff r]⟩
  · cases e
    obtain ⟨a, kvs, rfl, e1, k, r⟩ := h.dic
    refine .inr (.inr ⟨kvs, e1, ?_⟩)
    rw [← k]
    cases kvs <;> rfl
  · cases e
    obtain ⟨a, rfl, e1⟩ := h.scr
    refine .inl ⟨_, e1, ?_⟩
    rename_i l
    cases l <;> rfl
theorem s_tval (tk : T.K = X.K) {a : Ex} {a' : Expr} (he : ∀ whole, isTrue a' X.env whole = (do let v ← whole; standAt a'.pos; holding [v] (truthy v))) (ha : PE X a' (tE X T F Z a)) : PT X a' (tT X T F Z (.val a)) := by
  refine wkT (pt_truth ha he) ?_
  rintro σ H Q ⟨ρ, W, R, h⟩
  refine ⟨ρ, W, R, (Post.bind h).imp fun p1 ρ1 h1 v1 H1 W1 o1 => ?_⟩
  obtain ⟨x, ex, h3⟩ := Post.val .pk h1
  obtain ⟨b, eb, h4⟩ := Post.val .truth h3
  rw [← tk]
  exact ⟨b, truth_ok (peek_ok o1.go.rel o1.rep (pk_of ex)) eb, h4 _ _ o1.go⟩
def tTAnd (X : Cx) (T : Tc) (F : Fn) (Z : WX) (t : Txs) : TT := fun σ H Q => ∃ ρ W, Rel T σ H ρ W ∧ Post X Z (evTAnd F t ρ) σ H ρ fun b ρ' => ∀ H' W', Go T σ H ρ W H' ρ' W' → Q b H'
def tTOr (X : Cx) (T : Tc) (F : Fn) (Z : WX) (t : Txs) : TT := fun σ H Q => ∃ ρ W, Rel T σ H ρ W ∧ Post X Z (evTOr F t ρ) σ H ρ fun b ρ' => ∀ H' W', Go T σ H ρ W H' ρ' W' → Q b H'
theorem wkW {e : Expr} {t t' : TT} (h : PW X e t) (w : ∀ σ H Q, t' σ H Q → t σ H Q) : PW X e t' := ⟨fun wh pins s σ H Q I q => h.run wh pins s σ H Q I (w σ H Q q)⟩
variable {t : Tx} {l : Txs} {a' b' : Expr} {r' : List Expr} {pos : Pos}
theorem s_tand1 (ha : PT X a' (tT X T F Z t)) : PW X (.BoolOp .And [a'] pos) (tTAnd X T F Z (.cons t .nil)) := by
  refine wkW (pw_and1 ha) ?_
  rintro σ H Q ⟨ρ, W, R, h⟩
  refine ⟨ρ, W, R, (Post.bind h).imp fun k ρ1 h1 H1 W1 g1 => ?_⟩
  cases k with
  | true => exact h1 _ _ g1
  | false => exact h1 _ _ g1
theorem s_tor1 (ha : PT X a' (tT X T F Z t)) : PW X (.BoolOp .Or [a'] pos) (tTOr X T F Z (.cons t .nil)) := by
  refine wkW (pw_or1 ha) ?_
  rintro σ H Q ⟨ρ, W, R, h⟩
  refine ⟨ρ, W, R, (Post.bind h).imp fun k ρ1 h1 H1 W1 g1 => ?_⟩
  cases k with
  | true => exact h1 _ _ g1
  | false => exact h1 _ _ g1
theorem s_tand (ha : PT X a' (tT X T F Z t)) (hb : PW X (.BoolOp .And (b' :: r') pos) (tTAnd X T F Z l)) : PW X (.BoolOp .And (a' :: b' :: r') pos) (tTAnd X T F Z (.cons t l)) := by
  refine wkW (pw_and ha hb) ?_
  rintro σ H Q ⟨ρ, W, R, h⟩
  refine ⟨ρ, W, R, (Post.bind h).imp fun k ρ1 h1 H1 W1 g1 => ?_⟩
  cases k with
  | true =>
    rw [if_pos rfl]
    exact ⟨ρ1, W1, g1.rel, (Post.move h1 g1.step).imp fun k2 ρ2 h2 H2 W2 g2 => h2 _ _ (g1.trans g2)⟩
  | false =>
    rw [if_neg (by simp)]
    exact h1 _ _ g1
theorem s_tor (ha : PT X a' (tT X T F Z t)) (hb : PW X (.BoolOp .Or (b' :: r') pos) (tTOr X T F Z l)) : PW X (.BoolOp .Or (a' :: b' :: r') pos) (tTOr X T F Z (.cons t l)) := by
  refine wkW (pw_or ha hb) ?_
  rintro σ H Q ⟨ρ, W, R, h⟩
  refine ⟨ρ, W, R, (Post.bind h).imp fun k ρ1 h1 H1 W1 g1 => ?_⟩
  cases k with
  | false =>
    rw [if_neg (by simp)]
    exact ⟨ρ1, W1, g1.rel, (Post.move h1 g1.step).imp fun k2 ρ2 h2 H2 W2 g2 => h2 _ _ (g1.trans g2)⟩
  | true =>
    rw [if_pos rfl]
    exact h1 _ _ g1
/-! .. as values -/
def tVAnd (X : Cx) (T : Tc) (F : Fn) (Z : WX) (t : Exs) : TE := fun σ H Q => ∃ ρ W, Rel T σ H ρ W ∧ Post X Z (evAnd F t ρ) σ H ρ fun b ρ' => ∀ H' W', Go T σ H ρ W H' ρ' W' → Q (.bl b) H'
def tVOr (X : Cx) (T : Tc) (F : Fn) (Z : WX) (t : Exs) : TE := fun σ H Q => ∃ ρ W, Rel T σ H ρ W ∧ Post X Z (evOr F t ρ) σ H ρ fun b ρ' => ∀ H' W', Go T σ H ρ W H' ρ' W' → Q (.bl b) H'
variable {a : Ex} {m : Exs}
theorem s_vand1 (ha : PE X a' (tE X T F Z a)) : PE X (.BoolOp .And [a'] pos) (tVAnd X T F Z (.cons a .nil)) := by
  refine wkE (pe_one ha) ?_
  rintro σ H Q ⟨ρ, W, R, h⟩
  refine ⟨ρ, W, R, (Post.bind h).imp fun p1 ρ1 h1 v1 H1 W1 o1 => ?_⟩
  obtain ⟨⟨k, ρ2⟩, ex, h3⟩ := Post.val .asB h1
  obtain ⟨rfl, rfl⟩ := asB_ok ex
  rw [show v1 = .bl k from o1.rep]
  cases k with
  | true => exact h3 _ _ o1.go
  | false => exact h3 _ _ o1.go
theorem s_vor1 (ha : PE X a' (tE X T F Z a)) : PE X (.BoolOp .Or [a'] pos) (tVOr X T F Z (.cons a .nil)) := by
  refine wkE (pe_one ha) ?_
  rintro σ H Q ⟨ρ, W, R, h⟩
  refine ⟨ρ, W, R, (Post.bind h).imp fun p1 ρ1 h1 v1 H1 W1 o1 => ?_⟩
  obtain ⟨⟨k, ρ2⟩, ex, h3⟩ := Post.val .asB h1
  obtain ⟨rfl, rfl⟩ := asB_ok ex
  rw [show v1 = .bl k from o1.rep]
  cases k with
  | true => exact h3 _ _ o1.go
  | false => exact h3 _ _ o1.go
theorem s_vand (ha : PE X a' (tE X T F Z a)) (hb : PE X (.BoolOp .And (b' :: r') pos) (tVAnd X T F Z m)) : PE X (.BoolOp .And (a' :: b' :: r') pos) (tVAnd X T F Z (.cons a m)) := by
  refine wkE (pe_and ha hb) ?_
  rintro σ H Q ⟨ρ, W, R, h⟩
  refine ⟨ρ, W, R, (Post.bind h).imp fun p1 ρ1 h1 v1 H1 W1 o1 => ?_⟩
  obtain ⟨⟨k, ρ2⟩, ex, h3⟩ := Post.val .asB h1
  obtain ⟨rfl, rfl⟩ := asB_ok ex
  refine ⟨k, o1.rep, ?_⟩
  cases k with
  | true =>
    rw [if_pos rfl]
    exact ⟨ρ2, W1, o1.go.rel, (Post.move h3 o1.go.step).imp fun k2 ρ2 h2 H2 W2 g2 => h2 _ _ (o1.go.trans g2)⟩
  | false =>
    rw [if_neg (by simp)]
    exact h3 _ _ o1.go
theorem s_vor (ha : PE X a' (tE X T F Z a)) (hb : PE X (.BoolOp .Or (b' :: r') pos) (tVOr X T F Z m)) : PE X (.BoolOp .Or (a' :: b' :: r') pos) (tVOr X T F Z (.cons a m)) := by
  refine wkE (pe_or ha hb) ?_
  rintro σ H Q ⟨ρ, W, R, h⟩
  refine ⟨ρ, W, R, (Post.bind h).imp fun p1 ρ1 h1 v1 H1 W1 o1 => ?_⟩
  obtain ⟨⟨k, ρ2⟩, ex, h3⟩ := Post.val .asB h1
  obtain ⟨rfl, rfl⟩ := asB_ok ex
  refine ⟨k, o1.rep, ?_⟩
  cases k with
  | false =>
    rw [if_neg (by simp)]
    exact ⟨ρ2, W1, o1.go.rel, (Post.move h3 o1.go.step).imp fun k2 ρ2 h2 H2 W2 g2 => h2 _ _ (o1.go.trans g2)⟩
  | true =>
    rw [if_pos rfl]
    exact h3 _ _ o1.go
theorem s_and (h : PE X a' (tVAnd X T F Z m)) : PE X a' (tE X T F Z (.and_ m)) := by
  refine wkE h ?_
  rintro σ H Q ⟨ρ, W, R, h⟩
  exact ⟨ρ, W, R, (Post.bind h).imp fun k ρ1 h1 H1 W1 g1 => h1 _ _ _ (.val g1 rfl)⟩
theorem s_or (h : PE X a' (tVOr X T F Z m)) : PE X a' (tE X T F Z (.or_ m)) := by
  refine wkE h ?_
  rintro σ H Q ⟨ρ, W, R, h⟩
  exact ⟨ρ, W, R, (Post.bind h).imp fun k ρ1 h1 H1 W1 g1 => h1 _ _ _ (.val g1 rfl)⟩
end
end Dv

set_option Elab.async false
set_option linter.all false
set_option maxRecDepth 100000
namespace Dv
open PySem PySem.Spec PyProof.Rows L2

def RepKs (K : PySem.W.Frag) (H : Hp) (W : AS) : List V → List D → Prop
  | vs, [] => vs = []
  | vs, d :: ds => ∃ v r, vs = v :: r ∧ RepK K H W v d ∧ RepKs K H W r ds
section
variable {X : Cx} {Z : WX} {T : Tc} {F : Fn} {σ : Sg} {H H0 H1 H2 : Hp} {ρ ρ1 ρ2 ρ' : Env'} {W W1 W2 : AS} {K : PySem.W.Frag}
theorem pks_ok (R : Rel T σ H ρ W) : ∀ {ps : List P} {vs : List V} {ds : List D}, RepPs T σ H0 H ρ W vs ps → pks ps ρ = .ok ds → RepKs T.K H W vs ds
  | [], _, _, h, e => by cases e; exact h
  | p :: ps, _, ds, h, e => by
    obtain ⟨v, r, rfl, q, _, t⟩ := h
    have e : ((pk p ρ).bind fun d => (pks ps ρ).bind fun ds => .ok (d :: ds)) = .ok ds := e
    cases e1 : pk p ρ with
    | bad => rw [e1] at e; cases e
    | err x => rw [e1] at e; cases e
    | ok d =>
      rw [e1] at e
      have e : ((pks ps ρ).bind fun ds => .ok (d :: ds)) = .ok ds := e
      cases e2 : pks ps ρ with
      | bad => rw [e2] at e; cases e
      | err x => rw [e2] at e; cases e
      | ok ds' =>
        rw [e2] at e
        cases e
        exact ⟨v, r, rfl, peek_ok R q (pk_of e1), pks_ok R t e2⟩
theorem RepKs.one {vs : List V} {d : D} (h : RepKs K H W vs [d]) : ∃ v, vs = [v] ∧ RepK K H W v d := by
  obtain ⟨v, r, rfl, q, t⟩ := h
  rw [show r = [] from t]
  exact ⟨v, rfl, q⟩
theorem RepKs.two {vs : List V} {d e : D} (h : RepKs K H W vs [d, e]) : ∃ v u, vs = [v, u] ∧ RepK K H W v d ∧ RepK K H W u e := by
  obtain ⟨v, r, rfl, q, t⟩ := h
  obtain ⟨u, rfl, q2⟩ := t.one
  exact ⟨v, u, rfl, q, q2⟩

/-! ### built-in functions -/
def Ty.nm : Ty → String
  | .tup => "tuple" | .lst => "list" | .int => "int" | .str => "str" | .bool => "bool"
def Bl.f : Bl → Value
  | .len => .builtin "len" | .abs => .builtin "abs" | .int => .type "int" | .tuple => .type "tuple" | .list => .type "list" | .all => .builtin "all" | .any => .builtin "any" | .sum => .builtin "sum"
  | .gcd => .builtin "math.gcd" | .min2 => .builtin "min" | .max2 => .builtin "max" | .str => .type "str"
def rBl (K : PySem.W.Frag) : Bl → List V → Hp → VK → Prop
  | .len => fun xs H Q => ∃ x n, xs = [x] ∧ LenV K x H n ∧ Q (.int n) H
  | .abs => fun xs H Q => ∃ i, xs = [.int i] ∧ Q (.int (if i < 0 then -i else i)) H
  | .int => fun xs H Q => (∃ i, xs = [.int i] ∧ Q (.int i) H) ∨ ∃ k, xs = [.bl k] ∧ Q (.int (if k then 1 else 0)) H
  | .tuple => fun xs H Q => ∃ p ys, xs = [.ref p] ∧ ((SqL K H p ys ∧ ∀ l, H l = none → Q (.ref l) (upd H l (.tup ys))) ∨ (SqT K H p ys ∧ Q (.ref p) H))
  | .list => fun xs H Q => ∃ p ys, xs = [.ref p] ∧ (SqL K H p ys ∨ SqT K H p ys) ∧ ∀ l, H l = none → Q (.ref l) (upd H l (.lst ys))
  | .all => rAll K
  | .any => rAny K
  | .sum => rSum K
  | .gcd => rGcd
  | .min2 => fun xs H Q => ∃ i j, xs = [.int i, .int j] ∧ Q (.int (if j < i then j else i)) H
  | .max2 => fun xs H Q => ∃ i j, xs = [.int i, .int j] ∧ Q (.int (if j > i then j else i)) H
  | .str => fun xs H Q => ∃ i, xs = [.int i] ∧ i.natAbs.log2 < 1920 ∧ Q (.str (toString i)) H
theorem cr_bl (hc : X.calm = true) : ∀ b : Bl, CallR X b.f (rBl X.K b) := fun b => by
  cases b with
  | len => exact call_len
  | abs => exact call_abs
  | int => exact call_int1
  | tuple => exact call_tuple_of
  | list => exact call_list_of
  | all => exact cr_all hc
  | any => exact cr_any hc
  | sum => exact cr_sum hc
  | gcd => exact cr_gcd
  | min2 => exact call_min2 hc
  | max2 => exact call_max2 hc
  | str => exact call_str_int
theorem bls_rep : ∀ {l : List D} {bs : List Bool} {vs : List V}, RepDs K H W vs l → bls l = some bs → vs = bs.map V.bl
  | [], _, _, h, e => by cases e; exact h
  | .bl b :: l, bs, _, h, e => by
    obtain ⟨v, r, rfl, q, t⟩ := h
    have e : (bls l).map (b :: ·) = some bs := e
    cases e1 : bls l with
    | none => rw [e1] at e; cases e
    | some x =>
      rw [e1] at e; cases e
      rw [show v = .bl b from q, bls_rep t e1]; rfl
  | .non :: _, _, _, _, e => by cases e
  | .int _ :: _, _, _, _, e => by cases e
  | .str _ :: _, _, _, _, e => by cases e
  | .tup _ :: _, _, _, _, e => by cases e
  | .lst _ :: _, _, _, _, e => by cases e
  | .dic _ _ :: _, _, _, _, e => by cases e
  | .scr _ :: _, _, _, _, e => by cases e
theorem ints_rep : ∀ {l : List D} {bs : List Int} {vs : List V}, RepDs K H W vs l → intsD l = some bs → vs = bs.map V.int
  | [], _, _, h, e => by cases e; exact h
  | .int b :: l, bs, _, h, e => by
    obtain ⟨v, r, rfl, q, t⟩ := h
    have e : (intsD l).map (b :: ·) = some bs := e
    cases e1 : intsD l with
    | none => rw [e1] at e; cases e
    | some x =>
      rw [e1] at e; cases e
      rw [show v = .int b from q, ints_rep t e1]; rfl
  | .non :: _, _, _, _, e => by cases e
  | .bl _ :: _, _, _, _, e => by cases e
  | .str _ :: _, _, _, _, e => by cases e
  | .tup _ :: _, _, _, _, e => by cases e
  | .lst _ :: _, _, _, _, e => by cases e
  | .dic _ _ :: _, _, _, _, e => by cases e
  | .scr _ :: _, _, _, _, e => by cases e
theorem strs_rep : ∀ {l : List D} {bs : List Str} {vs : List V}, RepDs K H W vs l → strsD l = some bs → vs = bs.map V.str
  | [], _, _, h, e => by cases e; exact h
  | .str b :: l, bs, _, h, e => by
    obtain ⟨v, r, rfl, q, t⟩ := h
    have e : (strsD l).map (b :: ·) = some bs := e
    cases e1 : strsD l with
    | none => rw [e1] at e; cases e
    | some x =>
      rw [e1] at e; cases e
      rw [show v = .str b from q, strs_rep t e1]; rfl
  | .non :: _, _, _, _, e => by cases e
  | .bl _ :: _, _, _, _, e => by cases e
  | .int _ :: _, _, _, _, e => by cases e
  | .tup _ :: _, _, _, _, e => by cases e
  | .lst _ :: _, _, _, _, e => by cases e
  | .dic _ _ :: _, _, _, _, e => by cases e
  | .scr _ :: _, _, _, _, e => by cases e
theorem strs_of (ys : List Str) : RepDs K H W (ys.map V.str) (ys.map D.str) := by
  induction ys with
  | nil => rfl
  | cons y ys ih => exact ⟨.str y, _, rfl, rfl, ih⟩
theorem ints_of (ys : List Int) : RepDs K H W (ys.map V.int) (ys.map D.int) := by
  induction ys with
  | nil => rfl
  | cons y ys ih => exact ⟨.int y, _, rfl, rfl, ih⟩
/-- the type's name of data -/
def tyOf : D → String
  | .non => "NoneType" | .bl _ => "bool" | .int _ => "int" | .str _ => "str" | .tup _ => "tuple" | .lst _ => "list" | .dic _ _ => "dict" | .scr _ => "list"
theorem tyx_of {v : V} {d : D} (h : RepK K H W v d) (ns : ∀ l, d ≠ .scr l) : TyX K H v (.type (tyOf d)) := by
  cases d with
  | non => rw [h.non]; exact .base .non
  | bl b => rw [h.bl]; exact .base (.bl b)
  | int b => rw [h.int]; exact .base (.int b)
  | str b => rw [h.str]; exact .base (.str b)
  | tup l =>
    obtain ⟨a, vs, rfl, e, _⟩ := h.tup
    rcases e with e | ⟨o, its, n, e1, e2, _⟩
    · exact .base (.tup e)
    · exact .kTuple e1 e2
  | lst l => obtain ⟨a, vs, rfl, e, _⟩ := h.lst; exact .base (.lst e)
  | dic ks l => obtain ⟨a, kvs, rfl, e, _⟩ := h.dic; exact .base (.dK e)
  | scr l => exact absurd rfl (ns l)
theorem kit_tab (t : Ty) (d : D) (b : Bool) (h : isTy t d = .ok b) : kitB (tyOf d) t.nm = some b := by
  cases t <;> cases d <;> cases h <;> (dsimp only [tyOf, Ty.nm]; decide +kernel)
theorem isTy_ns {t : Ty} {d : D} {b : Bool} (h : isTy t d = .ok b) (l : List Int) : d ≠ .scr l := fun e => by
  subst e
  cases t <;> cases h
theorem len_ok {v : V} {d : D} {n : Nat} (h : RepK K H W v d) (e : dLen d = .ok n) : LenV K v H n := by
  unfold dLen at e
  split at e
  · cases e
    obtain ⟨a, vs, rfl, e1, r⟩ := h.tup
    exact .inr ⟨vs, e1.sq, r.length.symm⟩
  · cases e
    obtain ⟨a, vs, rfl, e1, r⟩ := h.lst
    exact .inl ⟨vs, .of e1, r.length.symm⟩
  · cases e
    obtain ⟨a, rfl, e1⟩ := h.scr
    exact .inl ⟨_, e1, by rw [List.length_map]⟩
  · obtain ⟨c, e⟩ := need_ok e
    cases e
    rw [h.str]
    exact ⟨c, rfl⟩
  · cases e
/-- all but isinstance -/
theorem bl_ok (wl : WL H W) {b : Bl} {vs : List V} {ds : List D} {p : P} {Q : VK} (h : RepKs K H W vs ds) (e : dBl b ds = .ok p) (q : ResQ K H W p Q) : rBl K b vs H Q := by
  unfold dBl at e
  split at e
  · obtain ⟨v, rfl, k⟩ := h.one
    rename_i d
    cases e1 : dLen d with
    | bad => rw [e1] at e; cases e
    | err x => rw [e1] at e; cases e
    | ok n =>
      rw [e1] at e; cases e
      exact ⟨v, n, rfl, len_ok k e1, q.flat rfl⟩
  · cases e
    obtain ⟨v, rfl, k⟩ := h.one
    exact ⟨_, by rw [k.int], q.flat rfl⟩
  · cases e
    obtain ⟨v, rfl, k⟩ := h.one
    exact .inl ⟨_, by rw [k.int], q.flat rfl⟩
  · cases e
    obtain ⟨v, rfl, k⟩ := h.one
    exact .inr ⟨_, by rw [k.bl], q.flat rfl⟩
  · cases e
    obtain ⟨v, rfl, k⟩ := h.one
    obtain ⟨a, us, rfl, e1, r⟩ := k.tup
    exact ⟨a, us, rfl, .inr ⟨e1.sq, q.flat ⟨a, us, rfl, e1, r⟩⟩⟩
  · cases e
    obtain ⟨v, rfl, k⟩ := h.one
    obtain ⟨a, us, rfl, e1, r⟩ := k.lst
    exact ⟨a, us, rfl, .inl ⟨.of e1, fun l n => q.tup wl r n⟩⟩
  · cases e
    obtain ⟨v, rfl, k⟩ := h.one
    obtain ⟨a, rfl, e1⟩ := k.scr
    exact ⟨a, _, rfl, .inl ⟨e1, fun l n => q.tup wl (ints_of _) n⟩⟩
  · cases e
    obtain ⟨v, rfl, k⟩ := h.one
    obtain ⟨a, us, rfl, e1, r⟩ := k.tup
    exact ⟨a, us, rfl, .inr e1.sq, fun l n => q.lst r n⟩
  · cases e
    obtain ⟨v, rfl, k⟩ := h.one
    obtain ⟨a, us, rfl, e1, r⟩ := k.lst
    exact ⟨a, us, rfl, .inl (.of e1), fun l n => q.lst r n⟩
  · cases e
    obtain ⟨v, rfl, k⟩ := h.one
    obtain ⟨a, rfl, e1⟩ := k.scr
    exact ⟨a, _, rfl, .inl e1, fun l n => q.lst (ints_of _) n⟩
  · rename_i l
    obtain ⟨v, rfl, k⟩ := h.one
    obtain ⟨a, us, rfl, e1, r⟩ := k.lst
    cases e2 : bls l with
    | none => rw [e2] at e; cases e
    | some bs =>
      rw [e2] at e; cases e
      exact ⟨a, bs, rfl, by rw [← bls_rep r e2]; exact .of e1, q.flat rfl⟩
  · rename_i l
    obtain ⟨v, rfl, k⟩ := h.one
    obtain ⟨a, us, rfl, e1, r⟩ := k.lst
    cases e2 : bls l with
    | none => rw [e2] at e; cases e
    | some bs =>
      rw [e2] at e; cases e
      exact ⟨a, bs, rfl, by rw [← bls_rep r e2]; exact .of e1, q.flat rfl⟩
  · rename_i l
    obtain ⟨v, rfl, k⟩ := h.one
    obtain ⟨a, us, rfl, e1, r⟩ := k.lst
    cases e2 : intsD l with
    | none => rw [e2] at e; cases e
    | some bs =>
      rw [e2] at e; cases e
      exact ⟨a, bs, rfl, by rw [← ints_rep r e2]; exact .of e1, q.flat rfl⟩
  · cases e
    obtain ⟨v, u, rfl, k1, k2⟩ := h.two
    exact ⟨_, _, by rw [k1.int, k2.int], q.flat rfl⟩
  · cases e
    obtain ⟨v, u, rfl, k1, k2⟩ := h.two
    exact ⟨_, _, by rw [k1.int, k2.int], q.flat rfl⟩
  · cases e
    obtain ⟨v, u, rfl, k1, k2⟩ := h.two
    exact ⟨_, _, by rw [k1.int, k2.int], q.flat rfl⟩
  · cases e
theorem dBl_np {b : Bl} {ds : List D} {p : P} (h : dBl b ds = .ok p) (i : Nat) : p ≠ .at_ i := by
  have key : ∀ {α : Type} {r : Rs α} {f : α → P}, (r.bind fun x => .ok (f x)) = .ok p → (∀ x, f x ≠ .at_ i) → p ≠ .at_ i := fun {α r f} e n => by
    cases r with
    | ok x => cases e; exact n x
    | err x => cases e
    | bad => cases e
  unfold dBl at h
  split at h <;> first | (cases h; done) | (cases h; simp; done) | exact key h (fun _ z => by cases z)
/-- the text of a call of a built-in function -/
theorem s_blt (hc : X.calm = true) (tk : T.K = X.K) {b : Bl} {l : Exs} {e' : Expr} (h : ∀ t : TA, t = tA X T F Z l → PE X e' (tCB (rBl X.K b) t)) : PE X e' (tE X T F Z (.blt b l)) := by
  refine wkE (h _ rfl) ?_
  rintro σ H Q ⟨ρ, W, R, h⟩
  refine ⟨ρ, W, R, (Post.bind h).imp fun ps ρ1 h1 vs H1 W1 o1 => ?_⟩
  obtain ⟨ds, ex, h3⟩ := Post.val .pks h1
  obtain ⟨p, ep, h4⟩ := Post.val .dBl h3
  rw [← tk]
  exact bl_ok o1.go.rel.wl (pks_ok o1.go.rel o1.rep ex) ep (o1.go.res (p := p) h4 (dBl_np ep))
/-- isinstance(x, T) -/
theorem s_isi (tk : T.K = X.K) {t : Ty} {a : Ex} {e' : Expr} (h : ∀ u : TE, u = tE X T F Z a → PE X e' (tCB (rIsi X.K) (tCons u (tCons (tC (.ty t.nm)) tNil)))) : PE X e' (tE X T F Z (.isi t a)) := by
  refine wkE (h _ rfl) ?_
  rintro σ H Q ⟨ρ, W, R, h⟩
  refine ⟨ρ, W, R, (Post.bind h).imp fun p1 ρ1 h1 v1 H1 W1 o1 => ?_⟩
  obtain ⟨d, ex, h3⟩ := Post.val .pk h1
  obtain ⟨b, e2, h4⟩ := Post.val .isTy h3
  have kd := peek_ok o1.go.rel o1.rep (pk_of ex)
  rw [← tk]
  exact ⟨v1, .ty t.nm, _, _, b, rfl, .ty _, tyx_of kd (isTy_ns e2), kit_ty (kit_tab t d b e2), h4 _ _ _ (.val o1.go rfl)⟩
end
end Dv

set_option Elab.async false
set_option linter.all false
set_option maxRecDepth 100000
namespace Dv
open PySem PySem.Spec PyProof.Rows L2

section
variable {X : Cx} {Z : WX} {T : Tc} {F : Fn} {σ : Sg} {H H0 H1 H2 : Hp} {ρ ρ1 ρ2 ρ' : Env'} {W W1 W2 : AS} {K : PySem.W.Frag}
/-- a slot's object changed -/
theorem mut_at (R : Rel T σ H ρ W) {i : Nat} {b : Bool} {d d' : D} {a : Addr} {o : HO} (e : ρ[i]? = some (some (.own b d))) (hv : σ[i]? = some (some (.ref a))) (q : RepO T.K H W o d') :
    Go T σ H ρ W (upd H a o) (ρ.set i (some (.own b d'))) W := by
  have oi : OwnU σ ρ i a := ⟨⟨b, d, e⟩, hv⟩
  obtain ⟨wa, ob0, ha, _⟩ := R.ownA oi.a
  have hi : i < ρ.length := (List.getElem?_eq_some_iff.mp e).1
  have ad : Adv H W (upd H a o) W := fun x u h w => ⟨by rw [upd_ne (fun z => w (by rw [z]; exact wa))]; exact h, w⟩
  have mon : Mon σ ρ (ρ.set i (some (.own b d'))) := fun j x h => by
    obtain ⟨h1, h2⟩ := h
    rcases h1 with ⟨c, z, h1⟩ | ⟨c, z, h1⟩
    · rcases getq_set h1 with ⟨rfl, k, _⟩ | ⟨_, k⟩
      · rw [hv] at h2; cases h2; exact oi.a
      · exact ⟨.inl ⟨c, z, k⟩, h2⟩
    · rcases getq_set h1 with ⟨rfl, k, _⟩ | ⟨_, k⟩
      · cases k
      · exact ⟨.inr ⟨c, z, k⟩, h2⟩
  refine ⟨⟨by simpa using R.len, fun j s h => ?_, fun j k x h1 h2 => R.sep j k x (mon j x h1) (mon k x h2), fun x w => ?_, fun j z x h1 h2 => ?_, fun x h => R.fzk x ?_, fun j x h => ?_⟩, fun x u h n => ?_, mon, fun x h => ?_, Lk.set fun b' d' z => by rw [e] at z; cases z⟩
  · rcases getq_set h with ⟨rfl, k, _⟩ | ⟨ne, k⟩
    · cases k
      exact ⟨_, hv, a, o, rfl, upd_same, wa, q.adv R.wl ad⟩
    · obtain ⟨v, e3, r⟩ := R.at_ j s k
      refine ⟨v, e3, ?_⟩
      cases s with
      | val c => obtain ⟨u, e4, z⟩ := r; exact ⟨u, e4, z.adv R.wl ad⟩
      | brz c => obtain ⟨u, e4, z⟩ := r; exact ⟨u, e4, z.adv R.wl ad⟩
      | own c x =>
        obtain ⟨a', ob', e4, e5, e6, z⟩ := r
        subst e4
        have na : a' ≠ a := fun z => ne (by subst z; exact R.sep _ _ _ oi.a ⟨.inl ⟨c, x, k⟩, e3⟩)
        exact ⟨a', ob', rfl, by rw [upd_ne na]; exact e5, e6, z.adv R.wl ad⟩
      | lck c x =>
        obtain ⟨a', ob', e4, e5, e6, z⟩ := r
        subst e4
        have na : a' ≠ a := fun z => ne (by subst z; exact R.sep _ _ _ oi.a ⟨.inr ⟨c, x, k⟩, e3⟩)
        exact ⟨a', ob', rfl, by rw [upd_ne na]; exact e5, e6, z.adv R.wl ad⟩
  · by_cases ex : x = a
    · subst ex; exact ⟨o, upd_same, q.mk1⟩
    · obtain ⟨u, hu, m⟩ := R.wl x w
      exact ⟨u, by rw [upd_ne ex]; exact hu, m⟩
  · rcases h1 with h1 | h1
    · rcases getq_set h1 with ⟨rfl, k, _⟩ | ⟨_, k⟩
      · cases k; exact R.fr i d x (.inl e) h2
      · exact R.fr j z x (.inl k) h2
    · rcases getq_set h1 with ⟨rfl, k, _⟩ | ⟨_, k⟩
      · cases k
      · exact R.fr j z x (.inr k) h2
  · by_cases ex : x = a
    · subst ex; rw [upd_same] at h; cases h
    · rw [upd_ne ex] at h; exact h
  · obtain ⟨h1, s, h2, h3⟩ := R.bor j x h
    refine ⟨h1, ?_⟩
    by_cases ej : i = j
    · subst ej
      refine ⟨.own b d', by rw [List.getElem?_set_self hi], ?_⟩
      rw [e] at h2; cases h2
      cases b with
      | true => trivial
      | false => exact h3.elim
    · exact ⟨s, by rw [List.getElem?_set_ne ej]; exact h2, h3⟩
  · have na : x ≠ a := fun z => n i (by rw [z]; exact oi)
    refine ⟨by rw [upd_ne na]; exact h, fun j z => ?_, Iff.rfl⟩
    obtain ⟨⟨c, y, h1⟩, h2⟩ := z
    rcases getq_set h1 with ⟨rfl, k, _⟩ | ⟨_, k⟩
    · rw [hv] at h2; cases h2; exact na rfl
    · exact n j ⟨⟨c, y, k⟩, h2⟩
  · by_cases ex : x = a
    · subst ex; rw [upd_same] at h; cases h
    · rw [upd_ne ex] at h; exact h

/-! ### methods that change their list -/
theorem RepDs.erase : ∀ {ds : List D} {vs : List V} (i : Nat), RepDs K H W vs ds → RepDs K H W (vs.eraseIdx i) (ds.eraseIdx i)
  | [], _, _, h => by rw [show _ = [] from h]; simp [RepDs]
  | _ :: _, _, 0, h => by
    obtain ⟨u, q, rfl, _, s⟩ := h
    exact s
  | _ :: _, _, i + 1, h => by
    obtain ⟨u, q, rfl, a, s⟩ := h
    exact ⟨u, _, rfl, a, RepDs.erase i s⟩
theorem RepDs.dropL {ds : List D} {vs : List V} (h : RepDs K H W vs ds) : RepDs K H W vs.dropLast ds.dropLast := by
  rw [List.dropLast_eq_take, List.dropLast_eq_take, h.length]
  exact h.take _
def Mm.nm : Mm → Str
  | .append => "append" | .pop => "pop" | .popAt => "pop" | .insert => "insert"
def Mm.id : Mm → String
  | .append => "list.append" | .pop => "list.pop" | .popAt => "list.pop" | .insert => "list.insert"
def rMm : Mm → V → List V → Hp → VK → Prop
  | .append => rAppend
  | .pop => rPop
  | .popAt => rPopAt
  | .insert => fun x vs H Q => ∃ (l : Addr) (xs : List V) (i : Int) (y : V), x = .ref l ∧ vs = [.int i, y] ∧ H l = some (.lst xs) ∧ xs.length < sizeLine ∧ 0 ≤ i ∧ i < 2 ^ 63 ∧
    Q .non (upd H l (.lst (xs.take i.toNat ++ [y] ++ xs.drop i.toNat)))
theorem mt_Mm : ∀ m : Mm, MtR X m.id (rMm m) := fun m => by
  cases m with
  | append => exact mt_append
  | pop => exact mt_pop
  | popAt => exact mt_popAt
  | insert => exact mt_insert
theorem mm_ok {m : Mm} {l : List D} {ds : List D} {a : Addr} {us vs : List V} {y d' : D} {Q : VK} (ha : H a = some (.lst us)) (r : RepDs K H W us l) (h : RepDs K H W vs ds) (e : dMm m (.lst l) ds = .ok (y, d'))
    (q : ∀ v o, RepD K H W v y → RepO K H W o d' → Q v (upd H a o)) : rMm m (.ref a) vs H Q := by
  unfold dMm at e
  split at e
  · rename_i l1 d e1
    cases e1
    obtain ⟨c, e⟩ := need_ok e
    cases e
    obtain ⟨v, r0, rfl, k, t⟩ := h
    rw [show r0 = [] from t]
    exact ⟨a, us, v, rfl, rfl, ha, by rw [r.length]; exact c, q _ _ rfl ⟨_, rfl, r.append (RepDs.one k)⟩⟩
  · rename_i l1 e1
    cases e1
    rw [show vs = [] from h]
    cases e2 : l[l.length - 1]? with
    | none => rw [e2] at e; cases e
    | some z =>
      rw [e2] at e; cases e
      obtain ⟨v, e3, k⟩ := r.get e2
      exact ⟨a, us, v, rfl, rfl, ha, by rw [r.length]; exact e3, q _ _ k ⟨_, rfl, r.dropL⟩⟩
  · rename_i l1 i d e1
    cases e1
    obtain ⟨⟨c1, c2, c3⟩, e⟩ := need_ok e
    cases e
    obtain ⟨v, r0, rfl, k, t⟩ := h
    rw [show v = .int i from k]
    obtain ⟨v2, r2, rfl, k2, t2⟩ := t
    rw [show r2 = [] from t2]
    exact ⟨a, us, i, v2, rfl, rfl, ha, by rw [r.length]; exact c1, c2, c3, q _ _ rfl ⟨_, rfl, ((r.take _).append (RepDs.one k2)).append (r.drop _)⟩⟩
  · rename_i l1 i e1
    cases e1
    obtain ⟨⟨c1, c2⟩, e⟩ := need_ok e
    obtain ⟨v, r0, rfl, k, t⟩ := h
    rw [show v = .int i from k, show r0 = [] from t]
    cases e2 : seqIndex? i l.length with
    | none => rw [e2] at e; cases e
    | some j =>
      rw [e2] at e
      have e : ((Rs.of l[j]?).bind fun y => .ok (y, D.lst (l.eraseIdx j))) = .ok (y, d') := e
      cases e3 : l[j]? with
      | none => rw [e3] at e; cases e
      | some z =>
        rw [e3] at e; cases e
        obtain ⟨v, e4, k⟩ := r.get e3
        exact ⟨a, us, i, j, v, rfl, rfl, ha, c1, c2, by rw [r.length]; exact e2, e4, q _ _ k ⟨_, rfl, r.erase j⟩⟩
  · cases e
theorem dMm_lst {m : Mm} {d : D} {ds : List D} {r : D × D} (e : dMm m d ds = .ok r) : ∃ l, d = .lst l := by
  unfold dMm at e
  split at e <;> first | exact ⟨_, rfl⟩ | cases e
theorem slot_peek {i : Nat} {p : P} {ρ1 : Env'} (e : evVar i ρ = .ok (p, ρ1)) (R : Rel T σ H ρ W) : ρ1 = ρ ∧ ∃ v, σ[i]? = some (some v) ∧ RepP T σ H ρ W v p := by
  unfold evVar at e
  split at e
  · rename_i d e1
    cases e
    obtain ⟨o, e1, v, rfl, q⟩ := R.at_ i _ e1
    exact ⟨rfl, v, e1, q⟩
  · rename_i d e1
    cases e
    obtain ⟨o, e1, v, rfl, q⟩ := R.at_ i _ e1
    exact ⟨rfl, v, e1, q⟩
  · rename_i b d e1
    cases e
    obtain ⟨o, e1, x, ob, rfl, q⟩ := R.at_ i _ e1
    exact ⟨rfl, _, e1, e1⟩
  · rename_i b d e1
    cases e
    obtain ⟨o, e1, x, ob, rfl, q⟩ := R.at_ i _ e1
    exact ⟨rfl, _, e1, e1⟩
  · cases e
/-- x.m(..) at a slot; r: how the method is called with its arguments -/
theorem s_chg (tk : T.K = X.K) {m : Mm} {i : Nat} {l : Exs} {e' : Expr} (h : ∀ t : TA, t = tA X T F Z l → PE X e' (tBM X.K "list" (rMm m) (tVar i) t)) : PE X e' (tE X T F Z (.chg m i l)) := by
  refine wkE (h _ rfl) ?_
  rintro σ H Q ⟨ρ, W, R, h⟩
  obtain ⟨⟨p0, ρ0⟩, e0, h⟩ := Post.val (r := evVar i ρ) .evVar h
  obtain ⟨rfl, v0, s0, q0⟩ := slot_peek e0 R
  obtain ⟨d0, f0, h⟩ := Post.val .pk h
  obtain ⟨c0, h⟩ := Post.need h
  have k0 := peek_ok R q0 (pk_of f0)
  have ty : tyV X.K "list" v0 H := by
    cases d0 with
    | lst l0 => obtain ⟨a, vs, rfl, e1, _⟩ := k0.lst; exact .inl ⟨rfl, vs, .of e1⟩
    | _ => cases c0
  refine ⟨v0, s0, ty, ρ0, W, R, (Post.bind h).imp fun ps ρ1 h1 vs H1 W1 o1 => ?_⟩
  obtain ⟨⟨ds, ρ2⟩, ex, h3⟩ := Post.val .of h1
  obtain ⟨W2, g, q⟩ := o1.data (of_ok ex)
  dsimp only at h3
  split at h3
  · rename_i b d e2
    obtain ⟨⟨y, d'⟩, ey, h4⟩ := Post.val .dMm h3
    obtain ⟨l0, rfl⟩ := dMm_lst ey
    obtain ⟨o, e3, a, ob, rfl, e5, wa, us, rfl, r⟩ := g.rel.at_ i _ e2
    rw [s0] at e3; cases e3
    refine mm_ok e5 r q ey fun v o' kv ko => ?_
    have g2 := mut_at g.rel e2 s0 ko
    exact h4 _ _ _ (.val (g.trans g2) (kv.adv g.rel.wl (g2.step.adv g.rel)))
  · exact h3.elim

/-! ### methods that change nothing -/
def Me.nm : Me → Str
  | .join => "join" | .split => "split" | .index => "index"
def Me.ty : Me → String
  | .join => "str" | .split => "str" | .index => "list"
def Me.id : Me → String
  | .join => "str.join" | .split => "str.split" | .index => "list.index"
def rMe (K : PySem.W.Frag) : Me → V → List V → Hp → VK → Prop
  | .join => fun x xs H Q => ∃ a p, ∃ ys : List Str, x = .str a ∧ xs = [.ref p] ∧ (SqL K H p (ys.map V.str) ∨ SqT K H p (ys.map V.str)) ∧ (ys.map (·.length)).sum + ys.length * a.length ≤ 16777216 ∧ Q (.str (Txt.join a ys)) H
  | .split => fun x xs H Q => ∃ a b, x = .str a ∧ xs = [.str b] ∧ (b.length == 0) = false ∧ a.length + 2 ≤ sizeLine ∧ rNewStrs (Txt.split a b) H Q
  | .index => rIndexD K
theorem mt_Me (hu : X.A.units + 65 < cLine) : ∀ m : Me, MtR X m.id (rMe X.K m) := fun m => by
  cases m with
  | join => exact mt_join
  | split => exact mt_split
  | index => exact mt_indexD hu
theorem findIdx_spec (l : List D) (x : D) {j : Nat} (h : (l.findIdx? fun z => deq z x) = some j) : ∃ z, (toPys l)[j]? = some z ∧ PyData.eqv z (toPy x) = true ∧ ∀ (m : Nat) (z' : PyData), m < j → (toPys l)[m]? = some z' → PyData.eqv z' (toPy x) = false := by
  rw [List.findIdx?_eq_some_iff_getElem] at h
  obtain ⟨hj, h1, h2⟩ := h
  refine ⟨toPy l[j], by rw [toPys_map, List.getElem?_map, List.getElem?_eq_getElem hj]; rfl, h1, fun m z' hm e => ?_⟩
  rw [toPys_map, List.getElem?_map, List.getElem?_eq_getElem (Nat.lt_trans hm hj)] at e
  cases e
  have := h2 m hm
  exact Bool.eq_false_iff.mpr this
theorem me_ok {m : Me} {x : V} {vs : List V} {d : D} {ds : List D} {p : P} {Q : VK} (hd : RepK K H W x d) (h : RepKs K H W vs ds) (e : dMe m d ds = .ok p) (q : ResQ K H W p Q) : rMe K m x vs H Q := by
  unfold dMe at e
  split at e
  · rename_i a l
    obtain ⟨v, rfl, k⟩ := h.one
    obtain ⟨b, us, rfl, e1, r⟩ := k.lst
    cases e2 : strsD l with
    | none => rw [e2] at e; cases e
    | some ys =>
      rw [e2] at e
      obtain ⟨c, e⟩ := need_ok e
      cases e
      exact ⟨a, b, ys, hd.str, rfl, .inl (by rw [← strs_rep r e2]; exact .of e1), c, q.flat rfl⟩
  · rename_i a l
    obtain ⟨v, rfl, k⟩ := h.one
    obtain ⟨b, us, rfl, e1, r⟩ := k.tup
    cases e2 : strsD l with
    | none => rw [e2] at e; cases e
    | some ys =>
      rw [e2] at e
      obtain ⟨c, e⟩ := need_ok e
      cases e
      exact ⟨a, b, ys, hd.str, rfl, .inr (by rw [← strs_rep r e2]; exact e1.sq), c, q.flat rfl⟩
  · rename_i a b
    obtain ⟨v, rfl, k⟩ := h.one
    obtain ⟨⟨c1, c2⟩, e⟩ := need_ok e
    cases e
    exact ⟨a, b, hd.str, by rw [k.str], c1, c2, fun l n => q.lst (strs_of _) n⟩
  · rename_i l x'
    obtain ⟨v, rfl, k⟩ := h.one
    obtain ⟨⟨c1, c2⟩, e⟩ := need_ok e
    split at e
    · rename_i j e2
      cases e
      obtain ⟨b, us, rfl, e1, r⟩ := hd.lst
      obtain ⟨z, z1, z2, z3⟩ := findIdx_spec l x' e2
      exact ⟨b, v, _, _, j, z, rfl, rfl, hd.dp c2, k.dp c1, c2, c1, z1, z2, z3, q.flat rfl⟩
    · cases e
  · cases e
theorem dMe_np {m : Me} {d : D} {ds : List D} {p : P} (h : dMe m d ds = .ok p) (i : Nat) : p ≠ .at_ i := by
  have key : ∀ {α : Type} {r : Rs α} {f : α → Rs P}, (r.bind f) = .ok p → (∀ x, f x = .ok p → p ≠ .at_ i) → p ≠ .at_ i := fun {α r f} e n => by
    cases r with
    | ok x => exact n x e
    | err x => cases e
    | bad => cases e
  unfold dMe at h
  split at h
  · refine key h fun x e => ?_
    obtain ⟨_, e⟩ := need_ok e
    cases e
    simp
  · refine key h fun x e => ?_
    obtain ⟨_, e⟩ := need_ok e
    cases e
    simp
  · obtain ⟨_, h⟩ := need_ok h
    cases h; simp
  · obtain ⟨_, h⟩ := need_ok h
    split at h
    · cases h; simp
    · cases h
  · cases h
theorem s_met (tk : T.K = X.K) {m : Me} {o : Ex} {l : Exs} {e' : Expr} (h : ∀ (u : TE) (t : TA), u = tE X T F Z o → t = tA X T F Z l → PE X e' (tBM X.K m.ty (rMe X.K m) u t)) : PE X e' (tE X T F Z (.met m o l)) := by
  refine wkE (h _ _ rfl rfl) ?_
  rintro σ H Q ⟨ρ, W, R, h⟩
  refine ⟨ρ, W, R, (Post.bind h).imp fun p0 ρ0 h0 v0 H0 W0 o0 => ?_⟩
  obtain ⟨d0, f0, h0⟩ := Post.val .pk h0
  obtain ⟨c0, h0⟩ := Post.need h0
  have k0 := peek_ok o0.go.rel o0.rep (pk_of f0)
  have ty : tyV X.K m.ty v0 H0 := by
    cases m with
    | join =>
      cases d0 with
      | str x => rw [k0.str]; rfl
      | _ => cases c0
    | split =>
      cases d0 with
      | str x => rw [k0.str]; rfl
      | _ => cases c0
    | index =>
      cases d0 with
      | lst x => obtain ⟨a, vs, rfl, e1, _⟩ := k0.lst; exact .inl ⟨rfl, vs, .of e1⟩
      | _ => cases c0
  refine ⟨ty, ρ0, W0, o0.go.rel, ((Post.bind h0).move o0.go.step).imp fun ps ρ1 h1 vs H1 W1 o1 => ?_⟩
  obtain ⟨d, ex, h3⟩ := Post.val .pk h1
  obtain ⟨ds, es, h4⟩ := Post.val .pks h3
  obtain ⟨p, ep, h5⟩ := Post.val .dMe h4
  rw [← tk]
  exact me_ok (peek_ok o1.go.rel (o0.rep.step o0.go.rel o1.go.step o1.go.mon) (pk_of ex)) (pks_ok o1.go.rel o1.rep es) ep ((o0.go.trans o1.go).res (p := p) h5 (dMe_np ep))
end
end Dv

set_option Elab.async false
set_option linter.all false
set_option maxRecDepth 100000
namespace Dv
open PySem PySem.Spec PyProof.Rows L2

/-! ### a def's arguments, its end -/
def ArgR1 (K : PySem.W.Frag) (H : Hp) (W : AS) (v : V) : A → Prop
  | .val d => RepD K H W v d
  | .own d => ∃ a o, v = .ref a ∧ H a = some o ∧ W a ∧ RepO K H W o d
  | .rd d => ∃ a o, v = .ref a ∧ H a = some o ∧ W a ∧ RepO K H W o d
def isMut : A → Prop
  | .val _ => False
  | _ => True
def ArgR (K : PySem.W.Frag) (H : Hp) (W : AS) : List V → List A → Prop
  | vs, [] => vs = []
  | vs, a :: as => ∃ v r, vs = v :: r ∧ ArgR1 K H W v a ∧ (isMut a → ∀ (j : Nat) (x : A), as[j]? = some x → isMut x → r[j]? ≠ some v) ∧ ArgR K H W r as
/-- the objects that a call may change -/
def lent (vs : List V) (as : List A) : AS := fun b => ∃ (j : Nat) (d : D), as[j]? = some (A.own d) ∧ vs[j]? = some (V.ref b)
def OutR1 (K : PySem.W.Frag) (H : Hp) (W : AS) (v : V) : A → A → Prop
  | .own _, .own d => ∃ a o, v = .ref a ∧ H a = some o ∧ W a ∧ RepO K H W o d
  | .own _, .val d => RepD K H W v d
  | _, _ => True
def ResR (K : PySem.W.Frag) (H0 H : Hp) (W : AS) (v : V) : Re → Prop
  | .val d => RepD K H W v d
  | .own d => ∃ a o, v = .ref a ∧ H0 a = none ∧ H a = some o ∧ W a ∧ RepO K H W o d
structure CallEnd (K : PySem.W.Frag) (H : Hp) (W : AS) (vs : List V) (as : List A) (r : Re) (as' : List A) (v : V) (H' : Hp) (W' : AS) : Prop where
  step : ∀ b o, H b = some o → ¬ lent vs as b → H' b = some o ∧ (W' b ↔ W b)
  dom : ∀ a, H' a = none → H a = none
  wl : WL H' W'
  out : ∀ (j : Nat) (v : V) (a x : A), vs[j]? = some v → as[j]? = some a → as'[j]? = some x → OutR1 K H' W' v a x
  res : ResR K H H' W' v r
/-- a def's promise: it does what F says -/
def spOf (F : Fn) (mg : Str → Option Value) (K : PySem.W.Frag) (n : Nat) (f : Str) : Sp := fun vs H Q E => vs.length = n ∧ ∃ W as, WL H W ∧ ArgR K H W vs as ∧ match F.call f as with
  | .ok (r, as') => ∀ v H' W', CallEnd K H W vs as r as' v H' W' → Q v H'
  | .err er => ∀ cls d H', ErrR mg K er cls d H' → (∀ b o, H b = some o → ¬ lent vs as b → H' b = some o) → E cls d H'
  | .bad => False
/-- what is known of a def that is called -/
structure Callee (X : Cx) (F : Fn) (f : Str) (np mn : Nat) : Prop where
  ex : ∃ (k : Nat) (fa : Addr) (fd : FuncData) (ps : List Str), FnOk X.prog X.w X.K X.mg X.base (L2.CX X.prog X.w) k fa fd ps (spOf F X.mg X.K ps.length f) ∧ Room k X.A ∧ X.mg f = some (.ref fa) ∧ PySem.W.keepIn X.K (.ref fa) = true ∧
    ps.length = np ∧ (∀ as, F.call f as ≠ .bad → as.length = np) ∧
    ∀ n, mn ≤ n → n ≤ np → ∃ (ds : List Value) (dvs : List V), Binds X.K fd ps ds ∧ Vals dvs ds ∧ ∀ H W, RepDs X.K H W dvs (F.dfl f n)

section
variable {X : Cx} {Z : WX} {T : Tc} {F : Fn} {σ : Sg} {H H0 H1 H2 H' : Hp} {ρ ρ1 ρ2 ρ' : Env'} {W W1 W2 W' : AS} {K : PySem.W.Frag} {ds : List D}
theorem ArgR.length : ∀ {as : List A} {vs : List V}, ArgR K H W vs as → vs.length = as.length
  | [], _, h => by rw [show _ = [] from h]; rfl
  | _ :: _, _, h => by
    obtain ⟨v, r, rfl, _, _, t⟩ := h
    rw [List.length_cons, List.length_cons, t.length]
theorem ArgR.get : ∀ {as : List A} {vs : List V} {j : Nat} {a : A}, ArgR K H W vs as → as[j]? = some a → ∃ v, vs[j]? = some v ∧ ArgR1 K H W v a
  | [], _, _, _, _, e => by simp at e
  | _ :: _, _, 0, _, h, e => by
    obtain ⟨v, r, rfl, q, _, _⟩ := h
    simp at e; subst e; exact ⟨v, rfl, q⟩
  | _ :: _, _, j + 1, _, h, e => by
    obtain ⟨v, r, rfl, _, _, t⟩ := h
    obtain ⟨u, h1, h2⟩ := t.get (j := j) (by simpa using e)
    exact ⟨u, by simpa using h1, h2⟩
theorem ArgR.dst : ∀ {as : List A} {vs : List V} {i j : Nat} {a b : A} {v : V}, ArgR K H W vs as → as[i]? = some a → as[j]? = some b → isMut a → isMut b → vs[i]? = some v → vs[j]? = some v → i = j
  | [], _, _, _, _, _, _, _, e, _, _, _, _, _ => by simp at e
  | _ :: _, _, 0, 0, _, _, _, _, _, _, _, _, _, _ => rfl
  | _ :: _, _, 0, j + 1, _, _, _, h, e1, e2, m1, m2, e3, e4 => by
    obtain ⟨v, r, rfl, _, n, _⟩ := h
    simp at e1 e3
    subst e1 e3
    exact absurd (by simpa using e4) (n m1 j _ (by simpa using e2) m2)
  | _ :: _, _, i + 1, 0, _, _, _, h, e1, e2, m1, m2, e3, e4 => by
    obtain ⟨v, r, rfl, _, n, _⟩ := h
    simp at e2 e4
    subst e2 e4
    exact absurd (by simpa using e3) (n m2 i _ (by simpa using e1) m1)
  | _ :: _, _, i + 1, j + 1, _, _, _, h, e1, e2, m1, m2, e3, e4 => by
    obtain ⟨v, r, rfl, _, _, t⟩ := h
    rw [t.dst (i := i) (j := j) (by simpa using e1) (by simpa using e2) m1 m2 (by simpa using e3) (by simpa using e4)]
theorem ArgR.w (wl : WL H W) {as : List A} {vs : List V} (h : ArgR K H W vs as) {b : Addr} (l : lent vs as b) : W b := by
  obtain ⟨j, d, e1, e2⟩ := l
  obtain ⟨v, e3, a, o, e4, _, w, _⟩ := h.get e1
  rw [e2] at e3; cases e3; cases e4
  exact w
/-- arguments that are data behind the others -/
theorem ArgR.app : ∀ {as : List A} {vs us : List V} {ds : List D}, ArgR K H W vs as → RepDs K H W us ds → ArgR K H W (vs ++ us) (as ++ ds.map .val)
  | [], _, us, ds, h, q => by
    rw [show _ = [] from h, List.nil_append, List.nil_append]
    clear h
    induction ds generalizing us with
    | nil => exact q
    | cons d ds ih =>
      obtain ⟨v, r, rfl, a, b⟩ := q
      exact ⟨v, r, rfl, a, fun m => m.elim, ih _ b⟩
  | a :: as, _, us, ds, h, q => by
    obtain ⟨v, r, rfl, k, n, t⟩ := h
    refine ⟨v, _, rfl, k, fun m j x e1 m2 e2 => ?_, t.app q⟩
    have e1 : (as ++ ds.map A.val)[j]? = some x := e1
    have e2 : (r ++ us)[j]? = some v := e2
    by_cases hj : j < as.length
    · rw [List.getElem?_append_left hj] at e1
      rw [List.getElem?_append_left (by rw [t.length]; exact hj)] at e2
      exact n m j x e1 m2 e2
    · rw [List.getElem?_append_right (by omega), List.getElem?_map] at e1
      cases z : ds[j - as.length]? with
      | none => rw [z] at e1; cases e1
      | some d => rw [z] at e1; cases e1; exact m2

theorem ats_mem : ∀ {ps : List P} {j i : Nat}, ps[j]? = some (.at_ i) → i ∈ ats ps
  | [], _, _, e => by simp at e
  | p :: ps, 0, i, e => by
    simp at e; subst e
    exact List.mem_cons_self
  | p :: ps, j + 1, i, e => by
    have := ats_mem (ps := ps) (j := j) (i := i) (by simpa using e)
    cases p with
    | at_ k => exact List.mem_cons_of_mem _ this
    | _ => exact this
theorem ats_tail {p : P} {ps : List P} (h : (ats (p :: ps)).Nodup) : (ats ps).Nodup := by
  cases p with
  | at_ k => exact (List.nodup_cons.mp h).2
  | _ => exact h
/-- the arguments stand -/
theorem args_ok (R : Rel T σ H ρ W) : ∀ {ps : List P} {vs : List V} {as : List A}, RepPs T σ H0 H ρ W vs ps → (ats ps).Nodup → toArgs ps ρ = .ok as →
    ArgR T.K H W vs as ∧ ∀ (j : Nat) (x : A) (v : V), as[j]? = some x → isMut x → vs[j]? = some v → (∃ d, ps[j]? = some (.own d)) ∨ ∃ i, ps[j]? = some (.at_ i) ∧ ∃ a, v = .ref a ∧ OwnA σ ρ i a
  | [], _, _, h, _, e => by
    cases e
    exact ⟨h, fun j x v e => by simp at e⟩
  | p :: ps, _, as, h, nd, e => by
    obtain ⟨v, r, rfl, q, n, t⟩ := h
    have e : ((toArg p ρ).bind fun a => (toArgs ps ρ).bind fun as => .ok (a :: as)) = .ok as := e
    cases e1 : toArg p ρ with
    | bad => rw [e1] at e; cases e
    | err x => rw [e1] at e; cases e
    | ok a =>
      rw [e1] at e
      have e : ((toArgs ps ρ).bind fun as => .ok (a :: as)) = .ok as := e
      cases e2 : toArgs ps ρ with
      | bad => rw [e2] at e; cases e
      | err x => rw [e2] at e; cases e
      | ok as2 =>
        rw [e2] at e
        cases e
        obtain ⟨ih, back⟩ := args_ok R t (ats_tail nd) e2
        -- the head
        have hd : ArgR1 T.K H W v a ∧ (isMut a → (∃ d, p = .own d) ∨ ∃ i, p = .at_ i ∧ ∃ x, v = .ref x ∧ OwnA σ ρ i x) := by
          cases p with
          | val d => cases e1; exact ⟨q, fun m => m.elim⟩
          | own d =>
            cases e1
            obtain ⟨x, o, ev, ex, w, _, _, k⟩ := q
            exact ⟨⟨x, o, ev, ex, w, k⟩, fun _ => .inl ⟨d, rfl⟩⟩
          | at_ i =>
            have q : σ[i]? = some (some v) := q
            simp only [toArg] at e1
            split at e1
            · rename_i d es; cases e1
              obtain ⟨o, z, u, z2, k⟩ := R.at_ i _ es
              rw [q] at z; cases z; cases z2
              exact ⟨k, fun m => m.elim⟩
            · rename_i d es; cases e1
              obtain ⟨o, z, u, z2, k⟩ := R.at_ i _ es
              rw [q] at z; cases z; cases z2
              exact ⟨k, fun m => m.elim⟩
            · rename_i b d es; cases e1
              obtain ⟨o, z, x, ob, z2, ex, w, k⟩ := R.at_ i _ es
              rw [q] at z; cases z; cases z2
              exact ⟨⟨x, ob, rfl, ex, w, k⟩, fun _ => .inr ⟨i, rfl, x, rfl, .inl ⟨b, d, es⟩, q⟩⟩
            · rename_i b d es; cases e1
              obtain ⟨o, z, x, ob, z2, ex, w, k⟩ := R.at_ i _ es
              rw [q] at z; cases z; cases z2
              exact ⟨⟨x, ob, rfl, ex, w, k⟩, fun _ => .inr ⟨i, rfl, x, rfl, .inr ⟨b, d, es⟩, q⟩⟩
            · cases e1
        refine ⟨⟨v, r, rfl, hd.1, fun m j x ej mx ev => ?_, ih⟩, fun j x u ej mx eu => ?_⟩
        · rcases hd.2 m with ⟨d, rfl⟩ | ⟨i, rfl, c, rfl, oc⟩
          · obtain ⟨a', o, ea, ex, w, no, _⟩ := q
            subst ea
            rcases back j x _ ej mx ev with ⟨d2, e3⟩ | ⟨i2, e3, a2, e4, oa⟩
            · exact (n d a' rfl rfl).2 j d2 e3 ev
            · cases e4; exact no i2 oa
          · rcases back j x _ ej mx ev with ⟨d2, e3⟩ | ⟨i2, e3, a2, e4, oa⟩
            · obtain ⟨u, eu, a', o, ea, ex, w, no, _⟩ := t.get e3
              rw [ev] at eu; cases eu; cases ea
              exact no i oc
            · cases e4
              have := R.sep _ _ _ oc oa
              subst this
              exact (List.nodup_cons.mp nd).1 (ats_mem e3)
        · cases j with
          | zero =>
            simp at ej eu
            subst ej eu
            rcases hd.2 mx with ⟨d, rfl⟩ | ⟨i, rfl, c, e5, oc⟩
            · exact .inl ⟨d, rfl⟩
            · exact .inr ⟨i, rfl, c, e5, oc⟩
          | succ j => exact back j x u (by simpa using ej) mx (by simpa using eu)

/-- the environment behind a call, slot by slot -/
theorem back_out : ∀ {ps : List P} {as : List A} {ρ ρ' : Env'} {i : Nat}, backArgs ps as ρ = .ok ρ' → i ∉ ats ps → ρ'[i]? = ρ[i]?
  | [], _, _, _, _, e, _ => by cases e; rfl
  | _ :: _, [], _, _, _, e, _ => by cases e
  | p :: ps, a :: as, ρ, ρ', i, e, n => by
    have e : ((backArg p a ρ).bind (backArgs ps as)) = .ok ρ' := e
    cases e1 : backArg p a ρ with
    | bad => rw [e1] at e; cases e
    | err x => rw [e1] at e; cases e
    | ok ρ1 =>
      rw [e1] at e
      have e2 : backArgs ps as ρ1 = .ok ρ' := e
      cases p with
      | val d => cases e1; exact back_out e2 n
      | own d => cases e1; exact back_out e2 n
      | at_ k =>
        have ne : k ≠ i := fun z => n (by rw [z]; exact List.mem_cons_self)
        rw [back_out (ps := ps) (as := as) e2 fun z => n (List.mem_cons_of_mem _ z)]
        simp only [backArg] at e1
        split at e1
        · split at e1
          · cases e1; rw [List.getElem?_set_ne ne]
          · cases e1; rw [List.getElem?_set_ne ne]
          · cases e1
        · cases e1; rfl
theorem back_at : ∀ {ps : List P} {as : List A} {ρ ρ' : Env'} {i j : Nat}, backArgs ps as ρ = .ok ρ' → (ats ps).Nodup → ps[j]? = some (.at_ i) →
    (∃ b d, ρ[i]? = some (some (.own b d)) ∧ ((∃ d', as[j]? = some (.own d') ∧ ρ'[i]? = some (some (.own b d'))) ∨ ∃ d', as[j]? = some (.val d') ∧ ρ'[i]? = some (some (thaw b d')))) ∨
    ((∀ b d, ρ[i]? ≠ some (some (.own b d))) ∧ ρ'[i]? = ρ[i]?)
  | [], _, _, _, _, _, _, _, z => by simp at z
  | _ :: _, [], _, _, _, _, e, _, _ => by cases e
  | p :: ps, a :: as, ρ, ρ', i, j, e, nd, hj => by
    have e : ((backArg p a ρ).bind (backArgs ps as)) = .ok ρ' := e
    cases e1 : backArg p a ρ with
    | bad => rw [e1] at e; cases e
    | err x => rw [e1] at e; cases e
    | ok ρ1 =>
      rw [e1] at e
      have e2 : backArgs ps as ρ1 = .ok ρ' := e
      cases j with
      | zero =>
        simp at hj
        subst hj
        have ni : i ∉ ats ps := (List.nodup_cons.mp nd).1
        rw [back_out (ps := ps) (as := as) e2 ni]
        simp only [backArg] at e1
        split at e1
        · rename_i b d es
          have hi : i < ρ.length := (List.getElem?_eq_some_iff.mp es).1
          split at e1
          · cases e1
            exact .inl ⟨b, d, es, .inl ⟨_, rfl, by rw [List.getElem?_set_self hi]⟩⟩
          · cases e1
            exact .inl ⟨b, d, es, .inr ⟨_, rfl, by rw [List.getElem?_set_self hi]⟩⟩
          · cases e1
        · rename_i h
          cases e1
          exact .inr ⟨fun b d z => h b d z, rfl⟩
      | succ j =>
        have hj : ps[j]? = some (.at_ i) := by simpa using hj
        have same : ρ1[i]? = ρ[i]? := by
          cases p with
          | val d => cases e1; rfl
          | own d => cases e1; rfl
          | at_ k =>
            have ne : k ≠ i := fun z => (List.nodup_cons.mp nd).1 (by rw [z]; exact ats_mem hj)
            simp only [backArg] at e1
            split at e1
            · split at e1
              · cases e1; rw [List.getElem?_set_ne ne]
              · cases e1; rw [List.getElem?_set_ne ne]
              · cases e1
            · cases e1; rfl
        have := back_at e2 (ats_tail nd) hj
        rw [same] at this
        simpa using this
theorem back_len : ∀ {ps : List P} {as : List A} {ρ ρ' : Env'}, backArgs ps as ρ = .ok ρ' → ρ'.length = ρ.length
  | [], _, _, _, e => by cases e; rfl
  | _ :: _, [], _, _, e => by cases e
  | p :: ps, a :: as, ρ, ρ', e => by
    have e : ((backArg p a ρ).bind (backArgs ps as)) = .ok ρ' := e
    cases e1 : backArg p a ρ with
    | bad => rw [e1] at e; cases e
    | err x => rw [e1] at e; cases e
    | ok ρ1 =>
      rw [e1] at e
      rw [back_len (show backArgs ps as ρ1 = .ok ρ' from e)]
      cases p with
      | val d => cases e1; rfl
      | own d => cases e1; rfl
      | at_ k =>
        simp only [backArg] at e1
        split at e1
        · split at e1
          · cases e1; simp
          · cases e1; simp
          · cases e1
        · cases e1; rfl
theorem toArgs_get : ∀ {ps : List P} {ρ : Env'} {as : List A} {j : Nat} {p : P}, toArgs ps ρ = .ok as → ps[j]? = some p → ∃ a, as[j]? = some a ∧ toArg p ρ = .ok a
  | [], _, _, _, _, _, z => by simp at z
  | p :: ps, ρ, as, j, q, e, hj => by
    have e : ((toArg p ρ).bind fun a => (toArgs ps ρ).bind fun as => .ok (a :: as)) = .ok as := e
    cases e1 : toArg p ρ with
    | bad => rw [e1] at e; cases e
    | err x => rw [e1] at e; cases e
    | ok a =>
      rw [e1] at e
      have e : ((toArgs ps ρ).bind fun as => .ok (a :: as)) = .ok as := e
      cases e2 : toArgs ps ρ with
      | bad => rw [e2] at e; cases e
      | err x => rw [e2] at e; cases e
      | ok as2 =>
        rw [e2] at e
        cases e
        cases j with
        | zero => simp at hj; subst hj; exact ⟨a, rfl, e1⟩
        | succ j =>
          obtain ⟨x, h1, h2⟩ := toArgs_get (j := j) e2 (by simpa using hj)
          exact ⟨x, by simpa using h1, h2⟩
theorem toArgs_len : ∀ {ps : List P} {ρ : Env'} {as : List A}, toArgs ps ρ = .ok as → as.length = ps.length
  | [], _, _, e => by cases e; rfl
  | p :: ps, ρ, as, e => by
    have e : ((toArg p ρ).bind fun a => (toArgs ps ρ).bind fun as => .ok (a :: as)) = .ok as := e
    cases e1 : toArg p ρ with
    | bad => rw [e1] at e; cases e
    | err x => rw [e1] at e; cases e
    | ok a =>
      rw [e1] at e
      have e : ((toArgs ps ρ).bind fun as => .ok (a :: as)) = .ok as := e
      cases e2 : toArgs ps ρ with
      | bad => rw [e2] at e; cases e
      | err x => rw [e2] at e; cases e
      | ok as2 =>
        rw [e2] at e
        cases e
        rw [List.length_cons, List.length_cons, toArgs_len e2]
theorem ats_mem_iff : ∀ {ps : List P} {i : Nat}, i ∈ ats ps → ∃ j : Nat, ps[j]? = some (.at_ i)
  | [], _, h => by cases h
  | p :: ps, i, h => by
    cases p with
    | at_ k =>
      rcases List.mem_cons.mp h with e | h
      · exact ⟨0, by rw [e]; rfl⟩
      · obtain ⟨j, hj⟩ := ats_mem_iff (ps := ps) h
        exact ⟨j + 1, by simpa using hj⟩
    | val d =>
      obtain ⟨j, hj⟩ := ats_mem_iff (ps := ps) h
      exact ⟨j + 1, by simpa using hj⟩
    | own d =>
      obtain ⟨j, hj⟩ := ats_mem_iff (ps := ps) h
      exact ⟨j + 1, by simpa using hj⟩

/-- behind a call: the caller's state -/
theorem call_back {ps : List P} {vs vs2 : List V} {as as' : List A} {r : Re} {v : V} (R : Rel T σ H ρ W) (rp : RepPs T σ H0 H ρ W vs ps) (nd : (ats ps).Nodup) (ea : toArgs ps ρ = .ok as)
    (dv : RepDs T.K H W vs2 ds) (ce : CallEnd T.K H W (vs ++ vs2) (as ++ ds.map .val) r as' v H' W') (eb : backArgs ps as' ρ = .ok ρ') :
    Rel T σ H' ρ' W' ∧ StepX (tmps vs ps) σ H ρ W σ H' ρ' W' ∧ Mon σ ρ ρ' ∧ Lk ρ ρ' ∧ RepP T σ H' ρ' W' v r.p ∧ ∀ d, r.p = .own d → ∀ a, v = .ref a → H a = none := by
  obtain ⟨ar, back⟩ := args_ok R rp nd ea
  have ar2 := ar.app dv
  -- what is lent is in W
  have lentW : ∀ b, lent (vs ++ vs2) (as ++ ds.map .val) b → W b := fun b l => ar2.w R.wl l
  have ad : Adv H W H' W' := fun b o h w => by
    obtain ⟨h1, w1⟩ := ce.step b o h fun l => w (lentW b l)
    exact ⟨h1, fun z => w (w1.mp z)⟩
  have lentB : ∀ b, lent (vs ++ vs2) (as ++ ds.map .val) b → tmps vs ps b ∨ ∃ (i j : Nat), ps[j]? = some (P.at_ i) ∧ OwnU σ ρ i b := fun b ⟨j, d, e1, e2⟩ => by
    have hj : j < as.length := by
      by_cases hj : j < as.length
      · exact hj
      · rw [List.getElem?_append_right (by omega), List.getElem?_map] at e1
        cases z : ds[j - as.length]? with
        | none => rw [z] at e1; cases e1
        | some d => rw [z] at e1; cases e1
    rw [List.getElem?_append_left hj] at e1
    rw [List.getElem?_append_left (by rw [ar.length]; exact hj)] at e2
    rcases back j _ _ e1 trivial e2 with ⟨d2, e3⟩ | ⟨i, e3, a, e4, oa⟩
    · exact .inl ⟨j, d2, e3, e2⟩
    · cases e4
      refine .inr ⟨i, j, e3, ?_⟩
      obtain ⟨x, e5, e6⟩ := toArgs_get ea e3
      rw [e1] at e5; cases e5
      obtain ⟨h1, h2⟩ := oa
      refine ⟨?_, h2⟩
      rcases h1 with h1 | ⟨b, d, h1⟩
      · exact h1
      · simp only [toArg, h1] at e6; cases e6
  have unl : ∀ i b, OwnA σ ρ i b → i ∉ ats ps → ¬ lent (vs ++ vs2) (as ++ ds.map .val) b := fun i b o n l => by
    rcases lentB b l with ⟨j, d, e1, e2⟩ | ⟨i2, j, e1, o2⟩
    · obtain ⟨u, eu, a', ob, ea', ex, w, no, _⟩ := rp.get e1
      rw [e2] at eu; cases eu; cases ea'
      exact no i o
    · have := R.sep _ _ _ o o2.a
      subst this
      exact n (ats_mem e1)
  have hv : ∀ {j i : Nat} {u : V}, ps[j]? = some (.at_ i) → σ[i]? = some (some u) → (vs ++ vs2)[j]? = some u := fun {j i u} e1 e2 => by
    obtain ⟨u', e3, e4⟩ := rp.get e1
    have e4 : σ[i]? = some (some u') := e4
    rw [e2] at e4; cases e4
    rw [List.getElem?_append_left ((List.getElem?_eq_some_iff.mp e3).1)]
    exact e3
  have ha : ∀ {j : Nat} {a : A}, as[j]? = some a → (as ++ ds.map A.val)[j]? = some a := fun {j a} e => by
    rw [List.getElem?_append_left ((List.getElem?_eq_some_iff.mp e).1)]; exact e
  -- a slot that bears no lent object
  have keepS : ∀ (i : Nat) (s : S), ρ[i]? = some (some s) → (∀ a, OwnA σ ρ i a → ¬ lent (vs ++ vs2) (as ++ ds.map .val) a) → ∃ o, σ[i]? = some o ∧ RelS T H' W' o s := fun i s e n => by
    obtain ⟨o, e1, q⟩ := R.at_ i s e
    refine ⟨o, e1, ?_⟩
    cases s with
    | val c => obtain ⟨u, e4, z⟩ := q; exact ⟨u, e4, z.adv R.wl ad⟩
    | brz c => obtain ⟨u, e4, z⟩ := q; exact ⟨u, e4, z.adv R.wl ad⟩
    | own c x =>
      obtain ⟨a', ob', e4, e5, e6, z⟩ := q
      subst e4
      obtain ⟨h1, w1⟩ := ce.step a' _ e5 (n a' ⟨.inl ⟨c, x, e⟩, e1⟩)
      exact ⟨a', ob', rfl, h1, w1.mpr e6, z.adv R.wl ad⟩
    | lck c x =>
      obtain ⟨a', ob', e4, e5, e6, z⟩ := q
      subst e4
      obtain ⟨h1, w1⟩ := ce.step a' _ e5 (n a' ⟨.inr ⟨c, x, e⟩, e1⟩)
      exact ⟨a', ob', rfl, h1, w1.mpr e6, z.adv R.wl ad⟩
  have lckN : ∀ (i : Nat) (b : Bool) (d : D), ρ[i]? = some (some (.lck b d)) → ∀ a, OwnA σ ρ i a → ¬ lent (vs ++ vs2) (as ++ ds.map .val) a := fun i b d e a o l => by
    rcases lentB a l with ⟨j, d, e1, e2⟩ | ⟨i2, j, e1, o2⟩
    · obtain ⟨u, eu, a', ob, ea', ex, w, no, _⟩ := rp.get e1
      rw [e2] at eu; cases eu; cases ea'
      exact no i o
    · have := R.sep _ _ _ o o2.a
      subst this
      obtain ⟨⟨b2, d2, e3⟩, _⟩ := o2
      rw [e] at e3; cases e3
  have nt : ∀ c x y z, thaw c x ≠ .own y z ∧ thaw c x ≠ .lck y z := fun c x y z => by cases c <;> simp [thaw]
  -- each slot of the new environment
  have slot : ∀ (i : Nat) (s : S), ρ'[i]? = some (some s) → (∃ o, σ[i]? = some o ∧ RelS T H' W' o s) ∧
      ((∃ b d, s = .own b d) → ∃ b d d2, s = .own b d2 ∧ ρ[i]? = some (some (.own b d))) ∧ ((∃ b d, s = .lck b d) → ρ[i]? = some (some s)) := fun i s e => by
    by_cases hm : i ∈ ats ps
    · obtain ⟨j, hj⟩ := ats_mem_iff hm
      rcases back_at eb nd hj with ⟨b, d, e1, ⟨d', e2, e3⟩ | ⟨d', e2, e3⟩⟩ | ⟨n, e3⟩
      · rw [e] at e3; cases e3
        obtain ⟨a, e4, e5⟩ := toArgs_get ea hj
        simp only [toArg, e1] at e5
        cases e5
        obtain ⟨o, e6, x, ob, rfl, _⟩ := R.at_ i _ e1
        have q := ce.out j _ _ _ (hv hj e6) (ha e4) e2
        obtain ⟨a2, o2, e7, e8, e9, e10⟩ := q
        cases e7
        exact ⟨⟨_, e6, x, o2, rfl, e8, e9, e10⟩, fun _ => ⟨b, d, d', rfl, e1⟩, fun ⟨_, _, z⟩ => by cases z⟩
      · rw [e] at e3; cases e3
        obtain ⟨a, e4, e5⟩ := toArgs_get ea hj
        simp only [toArg, e1] at e5
        cases e5
        obtain ⟨o, e6, x, ob, rfl, _⟩ := R.at_ i _ e1
        have q : RepD T.K H' W' (.ref x) d' := ce.out j _ _ _ (hv hj e6) (ha e4) e2
        refine ⟨⟨_, e6, ?_⟩, fun ⟨y, z, h⟩ => absurd h (nt b d' y z).1, fun ⟨y, z, h⟩ => absurd h (nt b d' y z).2⟩
        cases b <;> exact ⟨_, rfl, q⟩
      · rw [e] at e3
        refine ⟨keepS i s e3.symm fun a o l => ?_, fun ⟨b, d, h⟩ => ⟨b, d, d, h, by rw [← e3, h]⟩, fun _ => e3.symm⟩
        rcases lentB a l with ⟨j2, d2, e4, e5⟩ | ⟨i2, j2, e4, o2⟩
        · obtain ⟨u, eu, a', ob, ea', ex, w, no, _⟩ := rp.get e4
          rw [e5] at eu; cases eu; cases ea'
          exact no i o
        · have := R.sep _ _ _ o o2.a
          subst this
          obtain ⟨⟨b2, d2, e6⟩, _⟩ := o2
          exact n b2 d2 e6
    · have e3 := back_out eb hm
      rw [e] at e3
      exact ⟨keepS i s e3.symm fun a o => unl i a o hm, fun ⟨b, d, h⟩ => ⟨b, d, d, h, by rw [← e3, h]⟩, fun _ => e3.symm⟩
  have mon : Mon σ ρ ρ' := fun i a ⟨h1, h2⟩ => by
    rcases h1 with ⟨b, d, h1⟩ | ⟨b, d, h1⟩
    · obtain ⟨_, k, _⟩ := slot i _ h1
      obtain ⟨b2, d2, d3, e1, e2⟩ := k ⟨b, d, rfl⟩
      exact ⟨.inl ⟨_, _, e2⟩, h2⟩
    · obtain ⟨_, _, k⟩ := slot i _ h1
      exact ⟨.inr ⟨_, _, k ⟨b, d, rfl⟩⟩, h2⟩
  have rel : Rel T σ H' ρ' W' := by
    refine ⟨by rw [back_len eb]; exact R.len, fun i s e => (slot i s e).1, fun i j a h1 h2 => R.sep i j a (mon i a h1) (mon j a h2), ce.wl, fun i d a h1 h2 => ?_, fun a h => R.fzk a (ce.dom a h), fun i a h => ?_⟩
    · rcases h1 with h1 | h1
      · obtain ⟨_, k, _⟩ := slot i _ h1
        obtain ⟨b2, d2, d3, e1, e2⟩ := k ⟨_, _, rfl⟩
        cases e1
        exact R.fr i d2 a (.inl e2) h2
      · obtain ⟨_, _, k⟩ := slot i _ h1
        exact R.fr i d a (.inr (k ⟨_, _, rfl⟩)) h2
    · obtain ⟨h1, s, h2, h3⟩ := R.bor i a h
      refine ⟨h1, ?_⟩
      by_cases hm : i ∈ ats ps
      · obtain ⟨j, hj⟩ := ats_mem_iff hm
        rcases back_at eb nd hj with ⟨b, d, e1, ⟨d', e2, e3⟩ | ⟨d', e2, e3⟩⟩ | ⟨n, e3⟩
        · rw [e1] at h2; cases h2
          refine ⟨_, e3, ?_⟩
          cases b with
          | true => trivial
          | false => exact h3.elim
        · rw [e1] at h2; cases h2
          refine ⟨_, e3, ?_⟩
          cases b with
          | true => trivial
          | false => exact h3.elim
        · exact ⟨s, by rw [e3]; exact h2, h3⟩
      · exact ⟨s, by rw [back_out eb hm]; exact h2, h3⟩
  refine ⟨rel, fun b o h n na => ?_, mon, fun i b d e => ?_, ?_, fun d e a ev => ?_⟩
  · have nl : ¬ lent (vs ++ vs2) (as ++ ds.map .val) b := fun l => by
      rcases lentB b l with t | ⟨i, j, e1, o2⟩
      · exact na t
      · exact n i o2
    obtain ⟨h1, w1⟩ := ce.step b o h nl
    refine ⟨h1, fun i z => n i ?_, w1⟩
    obtain ⟨⟨c, d, e1⟩, e2⟩ := z
    obtain ⟨_, k, _⟩ := slot i _ e1
    obtain ⟨b2, d2, d3, e3, e4⟩ := k ⟨c, d, rfl⟩
    exact ⟨⟨_, _, e4⟩, e2⟩
  · by_cases hm : i ∈ ats ps
    · obtain ⟨j, hj⟩ := ats_mem_iff hm
      rcases back_at eb nd hj with ⟨b2, d2, e1, _⟩ | ⟨_, e3⟩
      · rw [e] at e1; cases e1
      · rw [e3]; exact e
    · rw [back_out eb hm]; exact e
  · cases r with
    | val d => exact ce.res
    | own d =>
      obtain ⟨a, o, rfl, n0, e1, w, q⟩ := ce.res
      refine ⟨a, o, rfl, e1, w, fun i z => ?_, R.fzk a n0, q⟩
      obtain ⟨_, u, e2, _⟩ := R.ownA (mon i a z)
      rw [n0] at e2; cases e2
  · cases r with
    | val d => cases e
    | own d =>
      obtain ⟨a2, o, e2, n0, _⟩ := ce.res
      rw [ev] at e2; cases e2
      exact n0
end
end Dv

set_option Elab.async false
set_option linter.all false
set_option maxRecDepth 100000
namespace Dv
open PySem PySem.Spec PyProof.Rows L2

section
variable {X : Cx} {Z : WX} {T : Tc} {F : Fn} {σ : Sg} {H H0 H1 H2 H' : Hp} {ρ ρ1 ρ2 ρ' : Env'} {W W1 W2 W' : AS} {K : PySem.W.Frag} {ds : List D}
/-- f(..), behind the arguments -/
theorem call_run (tk : T.K = X.K) {f : Str} {n : Nat} {ps : List P} {vs vs2 : List V} {Q : VK} (o : Outs T σ H ρ W ps ρ1 vs H1 W1) (hn : ∀ as, F.call f as ≠ .bad → as.length = n)
    (dv : ∀ H W, RepDs X.K H W vs2 (F.dfl f ps.length)) (h : Post X Z (doCall F f ps ρ1) σ H ρ fun p ρ' => ∀ v H' W', Out T σ H ρ W p ρ' v H' W' → Q v H') :
    spOf F X.mg X.K n f (vs ++ vs2) H1 Q (WE Z σ) := by
  unfold doCall at h
  obtain ⟨nd, h⟩ := Post.need h
  cases ea : toArgs ps ρ1 with
  | bad => rw [ea] at h; exact h.elim
  | err x =>
    exfalso
    have : ∀ {ps : List P} {ρ : Env'}, NoErr (toArgs ps ρ) := by
      intro ps
      induction ps with
      | nil => intro ρ; exact .ok
      | cons p ps ih =>
        intro ρ
        refine .bind ?_ fun _ => .bind ih fun _ => .ok
        unfold toArg
        split
        · exact .ok
        · exact .ok
        · split <;> first | exact .ok | exact .bad
    exact this x ea
  | ok as =>
    rw [ea] at h
    have h : Post X Z ((F.call f (as ++ (F.dfl f ps.length).map .val)).bind fun r => (backArgs ps r.2 ρ1).bind fun ρ' => .ok (r.1.p, ρ')) σ H ρ fun p ρ' => ∀ v H' W', Out T σ H ρ W p ρ' v H' W' → Q v H' := h
    obtain ⟨ar, back⟩ := args_ok o.go.rel o.rep nd ea
    have dv1 := dv H1 W1
    rw [← tk] at dv1
    have ar2 := ar.app dv1
    refine ⟨?_, W1, _, o.go.rel.wl, by rw [← tk]; exact ar2, ?_⟩
    · rw [ar2.length]
      refine hn _ fun z => ?_
      rw [z] at h; exact h.elim
    · cases ec : F.call f (as ++ (F.dfl f ps.length).map .val) with
      | bad => rw [ec] at h; exact h.elim
      | err er =>
        rw [ec] at h
        have h : ErrOk X Z er σ H ρ := h
        intro cls d H' e k
        refine h cls d H' e fun b ob hb nb => ?_
        obtain ⟨h1, n1, w1⟩ := o.go.step b ob hb nb
        refine k b ob h1 fun l => ?_
        obtain ⟨j, dd, e1, e2⟩ := l
        have hj : j < as.length := by
          by_cases hj : j < as.length
          · exact hj
          · rw [List.getElem?_append_right (by omega), List.getElem?_map] at e1
            cases z : (F.dfl f ps.length)[j - as.length]? with
            | none => rw [z] at e1; cases e1
            | some d => rw [z] at e1; cases e1
        rw [List.getElem?_append_left hj] at e1
        rw [List.getElem?_append_left (by rw [ar.length]; exact hj)] at e2
        rcases back j _ _ e1 trivial e2 with ⟨d2, e3⟩ | ⟨i, e3, a, e4, oa⟩
        · rw [o.rep.new e3 e2] at hb; cases hb
        · cases e4
          obtain ⟨x, e5, e6⟩ := toArgs_get ea e3
          rw [e1] at e5; cases e5
          obtain ⟨z1, z2⟩ := oa
          rcases z1 with z1 | ⟨b, d, z1⟩
          · exact n1 i ⟨z1, z2⟩
          · simp only [toArg, z1] at e6; cases e6
      | ok r =>
        obtain ⟨r, as'⟩ := r
        rw [ec] at h
        have h : Post X Z ((backArgs ps as' ρ1).bind fun ρ' => .ok (r.p, ρ')) σ H ρ fun p ρ' => ∀ v H' W', Out T σ H ρ W p ρ' v H' W' → Q v H' := h
        intro v H' W' ce
        rw [← tk] at ce
        cases eb : backArgs ps as' ρ1 with
        | bad => rw [eb] at h; exact h.elim
        | err x =>
          exfalso
          have : ∀ {ps : List P} {as : List A} {ρ : Env'}, NoErr (backArgs ps as ρ) := by
            intro ps
            induction ps with
            | nil => intro as ρ; exact .ok
            | cons p ps ih =>
              intro as ρ
              cases as with
              | nil => exact .bad
              | cons a as =>
                refine .bind ?_ fun _ => ih
                unfold backArg
                split
                · split
                  · split <;> first | exact .ok | exact .bad
                  · exact .ok
                · exact .ok
          exact this x eb
        | ok ρ2 =>
          rw [eb] at h
          obtain ⟨rel, st, mon, lk, rp, nw⟩ := call_back o.go.rel o.rep nd ea dv1 ce eb
          exact h v H' W' ⟨⟨rel, o.go.step.then st fun a z => (tmps_w o.rep a z).2, o.go.mon.trans mon, fun a z => o.go.dom a (ce.dom a z), o.go.lk.trans lk⟩, rp, fun d e a ev => o.go.dom a (nw d e a ev)⟩
theorem evs_len : ∀ {l : Exs} {ρ : Env'} {ps : List P} {ρ' : Env'}, evs F l ρ = .ok (ps, ρ') → ∀ {l' : List Expr}, True := fun _ => trivial
/-- f(e, ..) -/
theorem s_call (tk : T.K = X.K) (tz : Takes X Z) {f : Str} {np mn : Nat} (c : Callee X F f np mn) {e : Ex} {l : Exs} {e' : Expr} {l' : List Expr} {p pos : Pos} (hg : Gl X f) (hp : PA X (e' :: l') (tA X T F Z (.cons e l)))
    (h1 : mn ≤ (e' :: l').length) (h2 : (e' :: l').length ≤ np) (hlen : ∀ {ρ : Env'} {ps : List P} {ρ' : Env'}, evs F (.cons e l) ρ = .ok (ps, ρ') → ps.length = (e' :: l').length) (hdb : (f == ("__debug__" : Str)) = false)
    (he : starEach (e' :: l') X.env = (false, eval e' X.env) :: starEach l' X.env) (hpl : (backTo pos (starEach l' X.env)).any (·.1) = false) : PE X (.Call (.Name f p) (e' :: l') [] pos) (tE X T F Z (.call f (.cons e l))) := by
  obtain ⟨k, fa, fd, pn, G, hr, hm, hk, rfl, hn, hb⟩ := c.ex
  obtain ⟨dvl, dvs, bd, hd, dv⟩ := hb _ h1 h2
  refine wkE (pe_callSD (E := WE Z) G hr hg hm hk bd hd (fun σ => passAt tz σ) hp hdb he hpl) ?_
  rintro σ H Q ⟨ρ, W, R, h⟩
  have h := Post.bind h
  refine ⟨ρ, W, R, ?_⟩
  cases ee : evs F (.cons e l) ρ with
  | bad => rw [ee] at h; exact h
  | err x => rw [ee] at h; exact h
  | ok r =>
    obtain ⟨ps, ρ1⟩ := r
    rw [ee] at h
    intro vs H1 W1 o
    exact call_run tk o hn (by rw [hlen ee]; exact dv) h
/-- f() -/
theorem s_call0 (tk : T.K = X.K) (tz : Takes X Z) {f : Str} {np mn : Nat} (c : Callee X F f np mn) {p pos : Pos} (hg : Gl X f) (h1 : mn ≤ 0) (hdb : (f == ("__debug__" : Str)) = false) : PE X (.Call (.Name f p) [] [] pos) (tE X T F Z (.call f .nil)) := by
  obtain ⟨k, fa, fd, pn, G, hr, hm, hk, rfl, hn, hb⟩ := c.ex
  obtain ⟨dvl, dvs, bd, hd, dv⟩ := hb 0 h1 (Nat.zero_le _)
  refine ⟨fun pins s σ H Q I q => ?_⟩
  refine wpAny_Call_Name_kw (ld_glob I hg hm ?_ hdb)
  refine PySem.W.callWith_K0 I.kIn hk (run_fnSD (us := []) (E := WE Z) G hr bd hd (passAt tz σ) I .nil ?_)
  obtain ⟨ρ, W, R, h⟩ := q
  have h := Post.bind h
  exact call_run (vs := []) tk (ps := []) (ρ := ρ) (ρ1 := ρ) ⟨Go.refl R, rfl⟩ hn dv h
end
end Dv

set_option Elab.async false
set_option linter.all false
set_option maxRecDepth 100000
namespace Dv
open PySem PySem.Spec PyProof.Rows L2

/-! ### enumerate over a tuple -/
abbrev tuO (a : Addr) : Obj := { cls := .type "tuple_iterator", data := .fields #[.ref a, .int 0 0] }
abbrev enO (it : Addr) : Obj := { cls := .type "enumerate", data := .fields #[.none, .bool false, .ref it, rawInt 0, .none, .none] }
set_option maxHeartbeats 2000000 in
theorem meets_enumT (a : Addr) (items : Array Value) : Meets (Builtin.«enumerate.__new__» ⟨[.type "enumerate", .ref a], []⟩) (fun _ R s => s.heap.IsTuple a items ∧
      R (.ok (.ret (.ref (s.heap.push (tuO a)).objs.size))) { s with heap := (s.heap.push (tuO a)).push (enO s.heap.objs.size) }) :=
  .of_wp fun q w A R s hh => by
    obtain ⟨hp, gs, ds, tk, os⟩ := s; obtain ⟨ht, hR⟩ := hh
    have sub := sub_enumerate
    have it : ∀ {B : Around} {E : Value → Shared → Prop} {Q : Value → Shared → Prop}, Q (.ref hp.objs.size) ⟨hp.push (tuO a), gs, ds, tk, os⟩ → wpAny (model q w) B (pyIter (.ref a)) Q E ⟨hp, gs, ds, tk, os⟩ :=
      fun z => wpAny_pyIter_tuple (s := ⟨hp, gs, ds, tk, os⟩) ht z
    wp_walk using it
    refine wpAny_stack_any fun st => wpAny_pure ?_
    split
    · rename_i c1 _ _ _ _ _
      cases (c1 == Value.type "enumerate")
      all_goals
        wp_walk using it
        exact ⟨_, rfl, hR⟩
    · wp_walk using it
      exact ⟨_, rfl, hR⟩
theorem call_enumT {q : Program} {w : World} {A : Around} {E : Value → Shared → Prop} {s : Shared} {a : Addr} {items : Array Value} {Q : Value → Shared → Prop} (ht : s.heap.IsTuple a items)
    (h : ∀ h', IsEnum h' (s.heap.objs.size + 1) s.heap.objs.size 0 .none → h'.IsTupleIter s.heap.objs.size a 0 → (∀ b o, s.heap.get? b = some o → h'.get? b = some o) → Q (.ref (s.heap.objs.size + 1)) { s with heap := h' }) :
    wpAny (model q w) A (call (.type "enumerate") [.ref a]) Q E s := by
  refine callType_new F.called_enumerate (by decide) (F.typeCall_enumerate_1 _) (F.newCall_enumerate_1 _) (fun ob => F.args_object_init_2 ob _) F.entry_enumerate_new (meets_enumT a items) ⟨ht, ?_⟩
  have sz : (s.heap.push (tuO a)).objs.size = s.heap.objs.size + 1 := Heap.size_push ..
  show _ ∧ _
  rw [sz]
  have he : IsEnum ((s.heap.push (tuO a)).push (enO s.heap.objs.size)) (s.heap.objs.size + 1) s.heap.objs.size 0 .none := by
    have z := Heap.get?_push_size (s.heap.push (tuO a)) (o := enO s.heap.objs.size) rfl
    rw [sz] at z
    exact z
  exact ⟨⟨_, he, rfl⟩, h _ he ⟨_, Heap.get?_push_of_some _ (Heap.get?_push_size _ rfl), rfl, rfl⟩ fun b o x => Heap.get?_push_of_some _ (Heap.get?_push_of_some _ x)⟩
theorem next_enumT_end {q : Program} {w : World} {A : Around} {E : Value → Shared → Prop} {s : Shared} {e it a : Addr} {i : Nat} {items : Array Value} {old : Value} {Q : Option Value → Shared → Prop} (hn : A.handled = none) (he : IsEnum s.heap e it i old) (hi : s.heap.IsTupleIter it a i) (ht : s.heap.IsTuple a items) (hx : items[i]? = none)
    (h : ∀ h', Heap.ExtBut it s.heap h' → Q none { s with heap := h' }) : wpAny (model q w) A (pyNext (.ref e)) Q E s := by
  have ty : s.TypeIs (.ref e) "enumerate" := ⟨_, he, rfl⟩
  unfold pyNext
  refine wpAny_bind <| wpAny_attempt <| wpAny_callSpecial?_slot (name := Str.ofString "__next__") ty F.slot_enumerate_next <| wpAny_call_entry F.slot_enumerate_next ty F.entry_enumerate_next ?_ <| F.args_enumerate_next_1 _
  show wpAny _ _ (field (.ref e) 2 >>= _) _ _ s
  refine wpAny_bind (wpAny_field he rfl (x := .ref it) rfl (wpAny_bind ?_))
  refine wpAny_nextOf_tuple_end hn hi ht hx fun h2 x hb hs => ?_
  obtain ⟨o, ho, hc⟩ := hs
  exact wpAny_bind (wpAny_isInstance (T := "StopIteration") (b := true) ⟨o, ho, hc⟩ isSubtype_stop (wpAny_pure (h _ hb)))
/-- the tuple at a as it stands at each turn, the items in new pairs -/
def IteT (K : PySem.W.Frag) (a : Addr) : It where
  go := fun i H => ∃ (l : List V) (x : V), SqT K H a l ∧ l[i]? = some x
  yld := fun i H v H' => ∃ T x, v = .ref T ∧ H T = none ∧ H' = upd H T (.tup [.int (i : Nat), x]) ∧ ∀ l, SqT K H a l → l[i]? = some x
  stop := fun i H => ∃ l : List V, SqT K H a l ∧ l.length ≤ i
theorem turn_enumT {P : Program} {w : World} {K : PySem.W.Frag} {elts : List Expr} {kk : Nat} {tpos : Pos} (a e it : Addr) :
    Turn P w K (.Tuple elts kk tpos) (IteT K a) [e, it] e (fun i h => (∃ old, IsEnum h e it ((i : Nat) : Int) old) ∧ h.IsTupleIter it a i ∧ e ≠ it ∧ e ≠ a ∧ a ≠ it) where
  mem := by simp
  obj := fun i h st c hc => by
    obtain ⟨⟨old, he⟩, ⟨o, ho, _, hd⟩, _⟩ := st
    have z : c = e ∨ c = it := by simpa using hc
    rcases z with z | z
    · subst z; exact ⟨_, he, fun v y => nomatch y⟩
    · subst z; exact ⟨o, ho, fun v y => by rw [hd] at y; cases y⟩
  keep := fun i h h' st k => by
    obtain ⟨⟨old, he⟩, hi, hr⟩ := st
    exact ⟨⟨old, k e (by simp) _ he⟩, hi.at fun o y => k it (by simp) o y, hr⟩
  item := by
    intro X hP hw hK hc i pins s σ H E I hf st hg
    subst hP hw hK
    obtain ⟨⟨old, he⟩, hit, n1, n2, n3⟩ := st
    obtain ⟨l, x, hq, hx⟩ := hg
    obtain ⟨its, rv, p, _⟩ := I.tuple hq
    obtain ⟨u, hu, ru⟩ := rv.get hx
    have el : e < s.heap.objs.size := Heap.lt_size he
    have il : it < s.heap.objs.size := by obtain ⟨_, y, _⟩ := hit; exact Heap.lt_size y
    have lt : i < its.toArray.size := by
      have := (List.getElem?_eq_some_iff.mp hu).1
      simpa using this
    refine wpAny_pyNext_enum_itemD (Draws.tuple (prog := X.prog) (w := X.w) (A := X.A.in1) (show X.A.in1.handled = none from I.ok.hd hc) it a n3 its.toArray) he ⟨hit, p⟩ lt n1 (by simp [n1, n2]) fun x' h' tk hx' ho st' hT _ hk => ?_
    obtain rfl : x' = u := by
      have : its[i]? = some x' := by simpa using hx'
      rw [hu] at this
      exact (Option.some.inj this).symm
    refine ⟨_, rfl, wpAny_letOwnedTupleGo_enum (s := { s with heap := h', toks := tk + 1 }) ho fun h2 he2 sb => ?_⟩
    have hT2 := (sb.2 _ (Nat.ne_of_gt el)).trans hT
    have new : ObjOk X.prog X.w (upd H s.heap.objs.size (.tup [.int (i : Nat), x])) h2 s.heap.objs.size (.tup [.int (i : Nat), x]) :=
      ⟨by show 2 ≤ sizeLine; decide, [.int i tk, x'], .cons ⟨_, rfl⟩ (.cons ru .nil), ⟨_, hT2, rfl, _, rfl⟩⟩
    have I1 : Inv X pins σ (upd H s.heap.objs.size (.tup [.int (i : Nat), x])) { s with heap := h2, toks := tk + 1 } :=
      I.turnedNew (ch := [e, it]) (fun c o hb y => (sb.2 c (fun z => hb (by simp [z]))).trans (hk c o (fun z => hb (by simp [z])) (fun z => hb (by simp [z])) y)) hf (Nat.le_refl _) new
    refine ⟨.ref s.heap.objs.size, _, I1, rfl, ⟨_, x, rfl, I.hok.fresh (Nat.le_refl _), rfl, fun l' hl' => by rw [I.tuple_inj hl' hq]; exact hx⟩, ⟨⟨x', ?_⟩, st'.1.at fun o y => (sb.2 it (Ne.symm n1)).trans y, n1, n2, n3⟩, fun c hcm => ?_⟩
    · rw [show ((i + 1 : Nat) : Int) = (i : Int) + 1 by omega]
      exact he2
    · have lc : c < s.heap.objs.size := by
        have z : c = e ∨ c = it := by simpa using hcm
        rcases z with z | z
        · subst z; exact el
        · subst z; exact il
      rw [upd_ne (Nat.ne_of_lt lc)]
      exact (hf c hcm).1
  done := by
    intro X hP hw hK hc i pins s σ H E I hf st hg
    subst hP hw hK
    obtain ⟨⟨old, he⟩, hit, n1, n2, n3⟩ := st
    obtain ⟨l, hq, hx⟩ := hg
    obtain ⟨its, rv, p, _⟩ := I.tuple hq
    obtain ⟨f0, f1, f2, f3, f4, f5⟩ := hf it (by simp)
    have hl := rv.length
    exact next_enumT_end (I.ok.hd hc) he hit p (by simp; omega) fun h' eb => ⟨rfl, I.turned (t' := s.toks) (fun b o hb y => eb b o hb y) f0 f1 f3 f4 f5⟩
  self := fun A i s Q E st h => let ⟨⟨_, he⟩, _⟩ := st; wpAny_pyIter_enum he h
def iEnumA (K : PySem.W.Frag) (ta : TA) : TI := fun σ H R => ta σ H fun vs H1 => ∃ a l, vs = [.ref a] ∧ ((SqL K H1 a l ∧ R (Ite K a) H1) ∨ (SqT K H1 a l ∧ R (IteT K a) H1))
theorem pi_enumA {X : Cx} {e : Expr} {ta : TA} {p pos tpos : Pos} {elts : List Expr} {kk : Nat} (hg : Gl X "enumerate") (hm : X.mg "enumerate" = none) (ha : PA X [e] ta) (hs : starEach [e] X.env = [(false, eval e X.env)]) :
    PI X (.Tuple elts kk tpos) (.Call (.Name "enumerate" p) [e] [] pos) (iEnumA X.K ta) := by
  refine ⟨fun pins s σ H R I h => Call_ (ld_blt I hg hm boot_enumerate (PyProof.Rows.callWith_type1 (thn (ha.run pos pins s σ H _ I h) fun us s1 ⟨vs, H1, I1, r1, q1⟩ => ?_) hs rfl))⟩
  obtain ⟨a, l, ex, q1⟩ := q1
  subst ex
  cases r1 with
  | cons r rr =>
    cases rr
    cases r
    have fresh : ∀ b, b ∈ [s1.heap.objs.size + 1, s1.heap.objs.size] → FpOk X pins H1 b := fun b hb => by
      have z : b = s1.heap.objs.size + 1 ∨ b = s1.heap.objs.size := by simpa using hb
      have le : s1.heap.objs.size ≤ b := by omega
      exact I1.fpOk le (I1.hok.fresh le)
    rcases q1 with ⟨hq, q⟩ | ⟨hq, q⟩
    · obtain ⟨its, rv, p', _⟩ := I1.list hq
      exact call_enumerate_list p'.isList fun h' he hi _ hk => wpAny_pyIter_enum he ⟨s1.heap.objs.size + 1, [s1.heap.objs.size + 1, s1.heap.objs.size], _, _, H1, rfl, I1.kept (t' := s1.toks) hk, turn_enum a (s1.heap.objs.size + 1) s1.heap.objs.size, ⟨⟨.none, he⟩, hi, Nat.succ_ne_self _⟩, fresh, q⟩
    · obtain ⟨its, rv, p', _⟩ := I1.tuple hq
      have la : a < s1.heap.objs.size := by obtain ⟨o, ho, _⟩ := id p'; exact Heap.lt_size ho
      exact call_enumT p' fun h' he hi hk => wpAny_pyIter_enum he ⟨s1.heap.objs.size + 1, [s1.heap.objs.size + 1, s1.heap.objs.size], _, _, H1, rfl, I1.kept (t' := s1.toks) hk, turn_enumT a (s1.heap.objs.size + 1) s1.heap.objs.size, ⟨⟨.none, he⟩, hi, Nat.succ_ne_self _, Nat.ne_of_gt (Nat.lt_succ_of_lt la), Nat.ne_of_lt la⟩, fresh, q⟩

/-! ### zip over two lists, tuples, or one of each -/
def SqX (K : PySem.W.Frag) (H : Hp) (a : Addr) (l : List V) : Bool → Prop
  | true => SqL K H a l
  | false => SqT K H a l
def IterX (h : Heap) (it a : Addr) (i : Nat) : Bool → Prop
  | true => h.IsListIter it a i
  | false => h.IsTupleIter it a i
def SeqX (h : Heap) (a : Addr) (items : Array Value) : Bool → Prop
  | true => h.IsList a items
  | false => h.IsTuple a items
def obX (a : Addr) : Bool → Obj
  | true => { cls := .type "list_iterator", data := .fields #[.ref a, .int 0 0] }
  | false => tuO a
theorem drawsX {q : Program} {w : World} {A : Around} (hn : A.handled = none) (it a : Addr) (ne : a ≠ it) (items : Array Value) : ∀ k : Bool, Draws q w A it [it, a] items.size (fun i v => items[i]? = some v) fun i h => IterX h it a i k ∧ SeqX h a items k
  | true => Draws.list hn it a ne items
  | false => Draws.tuple hn it a ne items
theorem beginsX (a : Addr) (items : Array Value) : ∀ k : Bool, Begins (.ref a) (obX a k) fun h => SeqX h a items k
  | true => begins_list a items
  | false => begins_tuple a items
theorem IterX.at_ {h h' : Heap} {it a : Addr} {i : Nat} : ∀ {k : Bool}, IterX h it a i k → (∀ o, h.get? it = some o → h'.get? it = some o) → IterX h' it a i k
  | true, x, y => Heap.IsListIter.at x y
  | false, x, y => Heap.IsTupleIter.at x y
theorem IterX.ob {h : Heap} {it a : Addr} {i : Nat} {k : Bool} (x : IterX h it a i k) : ∃ o, h.get? it = some o ∧ ∀ v, o.data ≠ .cell v := by
  cases k with
  | true => obtain ⟨o, e, _, d⟩ := x; exact ⟨o, e, fun v y => by rw [d] at y; cases y⟩
  | false => obtain ⟨o, e, _, d⟩ := x; exact ⟨o, e, fun v y => by rw [d] at y; cases y⟩
theorem iterX0 {h : Heap} {it a : Addr} : ∀ {k : Bool}, h.get? it = some (obX a k) → IterX h it a 0 k
  | true, e => ⟨_, e, rfl, rfl⟩
  | false, e => ⟨_, e, rfl, rfl⟩
def ItzM (K : PySem.W.Frag) (k1 k2 : Bool) (a b : Addr) : It where
  go := fun i H => ∃ (l m : List V) (x y : V), SqX K H a l k1 ∧ SqX K H b m k2 ∧ l[i]? = some x ∧ m[i]? = some y
  yld := fun i H v H' => ∃ T x y, v = .ref T ∧ H T = none ∧ H' = upd H T (.tup [x, y]) ∧ (∀ l, SqX K H a l k1 → l[i]? = some x) ∧ ∀ m, SqX K H b m k2 → m[i]? = some y
  stop := fun i H => ∃ l m : List V, SqX K H a l k1 ∧ SqX K H b m k2 ∧ i ≤ l.length ∧ i ≤ m.length ∧ (i = l.length ∨ i = m.length)
theorem inv_seqX {X : Cx} {pins : List (Addr × Obj)} {σ : L2.St} {H : Hp} {s : Shared} (I : Inv X pins σ H s) {a : Addr} {l : List V} : ∀ {k : Bool}, SqX X.K H a l k → ∃ its, Vals l its ∧ SeqX s.heap a its.toArray k ∧ a < s.heap.objs.size
  | true, h => by
    obtain ⟨its, rv, p, _⟩ := I.list h
    exact ⟨its, rv, p.isList, p.lt⟩
  | false, h => by
    obtain ⟨its, rv, p, _⟩ := I.tuple h
    obtain ⟨o, ho, _⟩ := id p
    exact ⟨its, rv, p, Heap.lt_size ho⟩
theorem inv_injX {X : Cx} {pins : List (Addr × Obj)} {σ : L2.St} {H : Hp} {s : Shared} (I : Inv X pins σ H s) {a : Addr} {l m : List V} : ∀ {k : Bool}, SqX X.K H a l k → SqX X.K H a m k → l = m
  | true, h, h2 => I.list_inj h h2
  | false, h, h2 => I.tuple_inj h h2
theorem turn_zipM {P : Program} {w : World} {K : PySem.W.Frag} {k1 k2 : Bool} {elts : List Expr} {kk : Nat} {tpos : Pos} {a b z TI TO i1 i2 : Addr} (S : ZipSep2 z TI TO i1 i2 [i1, a] [i2, b]) (n1 : a ≠ i1) (n2 : b ≠ i2) :
    Turn P w K (.Tuple elts kk tpos) (ItzM K k1 k2 a b) [z, TI, TO, i1, i2] z (fun i h => IsZip h z TI TO .none ∧ IsTupOf2 h TI (.ref i1) (.ref i2) ∧ (∃ x y, IsTupOf2 h TO x y) ∧ IterX h i1 a i k1 ∧ IterX h i2 b i k2) where
  mem := by simp
  obj := fun i h st c hc => by
    obtain ⟨hz, hI, ⟨x, y, hO⟩, h1, h2⟩ := st
    have e' : c = z ∨ c = TI ∨ c = TO ∨ c = i1 ∨ c = i2 := by simpa using hc
    rcases e' with q | q | q | q | q
    · subst q; exact ⟨_, hz, fun v y => nomatch y⟩
    · subst q; exact ⟨_, hI, fun v y => nomatch y⟩
    · subst q; exact ⟨_, hO, fun v y => nomatch y⟩
    · subst q; exact h1.ob
    · subst q; exact h2.ob
  keep := fun i h h' st k => by
    obtain ⟨hz, hI, ⟨x, y, hO⟩, h1, h2⟩ := st
    exact ⟨k z (by simp) _ hz, k TI (by simp) _ hI, ⟨x, y, k TO (by simp) _ hO⟩, h1.at_ fun o e => k i1 (by simp) o e, h2.at_ fun o e => k i2 (by simp) o e⟩
  item := by
    intro X hP hw hK hc i pins s σ H E I hf st hg
    subst hP hw hK
    obtain ⟨hz, hI, ⟨x0, y0, hO⟩, h1, h2⟩ := st
    obtain ⟨l, m, x, y, hq1, hq2, hx, hy⟩ := hg
    obtain ⟨its1, rv1, p1, _⟩ := inv_seqX I hq1
    obtain ⟨its2, rv2, p2, _⟩ := inv_seqX I hq2
    obtain ⟨u1, hu1, ru1⟩ := rv1.get hx
    obtain ⟨u2, hu2, ru2⟩ := rv2.get hy
    have zl : z < s.heap.objs.size := Heap.lt_size hz
    have lt1 : i < its1.toArray.size := by have := (List.getElem?_eq_some_iff.mp hu1).1; simpa using this
    have lt2 : i < its2.toArray.size := by have := (List.getElem?_eq_some_iff.mp hu2).1; simpa using this
    have hn : X.A.in1.handled = none := I.ok.hd hc
    refine wpAny_pyNext_zipD2_item S (drawsX (q := X.prog) (w := X.w) hn i1 a n1 its1.toArray k1) (drawsX (q := X.prog) (w := X.w) hn i2 b n2 its2.toArray k2) hz hI hO ⟨h1, p1⟩ ⟨h2, p2⟩ lt1 lt2 fun v1 v2 h' tk e1 e2 z' O' s1' s2' hT _ hk => ?_
    obtain rfl : v1 = u1 := by
      have e1 : its1[i]? = some v1 := by simpa using e1
      rw [hu1] at e1
      exact (Option.some.inj e1).symm
    obtain rfl : v2 = u2 := by
      have e2 : its2[i]? = some v2 := by simpa using e2
      rw [hu2] at e2
      exact (Option.some.inj e2).symm
    refine ⟨_, rfl, wpAny_letOwnedTupleGo_zip (s := { s with heap := h', toks := tk }) z' fun g z2 sb => ?_⟩
    have hT2 := (sb.2 _ (Nat.ne_of_gt zl)).trans hT
    have new : ObjOk X.prog X.w (upd H s.heap.objs.size (.tup [x, y])) g s.heap.objs.size (.tup [x, y]) := ⟨by show 2 ≤ sizeLine; decide, [v1, v2], .cons ru1 (.cons ru2 .nil), ⟨_, hT2, rfl, _, rfl⟩⟩
    have I1 : Inv X pins σ (upd H s.heap.objs.size (.tup [x, y])) { s with heap := g, toks := tk } :=
      I.turnedNew (ch := [z, TI, TO, i1, i2]) (fun c o nb e => (sb.2 c (fun q => nb (by simp [q]))).trans (hk c o (fun q => nb (by simp [q])) (fun q => nb (by simp [q])) (fun q => nb (by simp [q])) (fun q => nb (by simp [q])) e)) hf (Nat.le_refl _) new
    have z1 : i1 ≠ z := fun q => S.zf1 (by rw [← q]; simp)
    have z3 : i2 ≠ z := fun q => S.zf2 (by rw [← q]; simp)
    refine ⟨.ref s.heap.objs.size, _, I1, rfl, ⟨_, x, y, rfl, I.hok.fresh (Nat.le_refl _), rfl, fun l' hl => by rw [inv_injX I hl hq1]; exact hx, fun l' hl => by rw [inv_injX I hl hq2]; exact hy⟩,
      ⟨z2, (sb.2 _ S.TIz).trans (hk _ _ S.TIz S.TITO S.TIi1 S.TIi2 hI), ⟨v1, v2, (sb.2 _ S.TOz).trans O'⟩, s1'.1.at_ fun o e => (sb.2 _ z1).trans e, s2'.1.at_ fun o e => (sb.2 _ z3).trans e⟩, fun c hcm => ?_⟩
    have lc : c < s.heap.objs.size := by
      have e' : c = z ∨ c = TI ∨ c = TO ∨ c = i1 ∨ c = i2 := by simpa using hcm
      rcases e' with q | q | q | q | q
      · subst q; exact zl
      · subst q; exact Heap.lt_size hI
      · subst q; exact Heap.lt_size hO
      · subst q; obtain ⟨_, e, _⟩ := h1.ob; exact Heap.lt_size e
      · subst q; obtain ⟨_, e, _⟩ := h2.ob; exact Heap.lt_size e
    rw [upd_ne (Nat.ne_of_lt lc)]
    exact (hf c hcm).1
  done := by
    intro X hP hw hK hc i pins s σ H E I hf st hg
    subst hP hw hK
    obtain ⟨hz, hI, ⟨x0, y0, hO⟩, h1, h2⟩ := st
    obtain ⟨l, m, hq1, hq2, le1, le2, hend⟩ := hg
    obtain ⟨its1, rv1, p1, _⟩ := inv_seqX I hq1
    obtain ⟨its2, rv2, p2, _⟩ := inv_seqX I hq2
    have l1 := rv1.length
    have l2 := rv2.length
    have hn : X.A.in1.handled = none := I.ok.hd hc
    exact wpAny_pyNext_zipD2_end S (drawsX (q := X.prog) (w := X.w) hn i1 a n1 its1.toArray k1) (drawsX (q := X.prog) (w := X.w) hn i2 b n2 its2.toArray k2) hz hI hO ⟨h1, p1⟩ ⟨h2, p2⟩ (by simp; omega) (by simp; omega) (by simp; omega) fun h' tk hk =>
      ⟨rfl, I.turnedL (t' := tk) (ch := [z, TI, TO, i1, i2]) (fun c o nb e => hk c o (fun q => nb (by simp [q])) (fun q => nb (by simp [q])) (fun q => nb (by simp [q])) (fun q => nb (by simp [q])) e) hf⟩
  self := fun A i s Q E st h => wpAny_pyIter_zip st.1 h
def iZipM (K : PySem.W.Frag) (ta : TA) : TI := fun σ H R => ta σ H fun vs H1 => ∃ (k1 k2 : Bool) (a b : Addr) (l m : List V), vs = [.ref a, .ref b] ∧ SqX K H1 a l k1 ∧ SqX K H1 b m k2 ∧ R (ItzM K k1 k2 a b) H1
theorem sepM {N a b : Nat} (ha : a < N) (hb : b < N) : ZipSep2 (N + 4) (N + 2) (N + 3) N (N + 1) [N, a] [N + 1, b] := zip_sep2 (fp1 := [a]) (fp2 := [b]) (fun c h => by rw [List.mem_singleton.mp h]; exact ha) (fun c h => by rw [List.mem_singleton.mp h]; exact hb)
theorem pi_zipM {X : Cx} {e e2 : Expr} {ta : TA} {p pos tpos : Pos} {elts : List Expr} {kk : Nat} (hg : Gl X "zip") (hm : X.mg "zip" = none) (ha : PA X [e, e2] ta)
    (hs : starEach [e, e2] X.env = (false, eval e X.env) :: starEach [e2] X.env) (hpl : (backTo pos (starEach [e2] X.env)).any (·.1) = false) : PI X (.Tuple elts kk tpos) (.Call (.Name "zip" p) [e, e2] [] pos) (iZipM X.K ta) := by
  refine ⟨fun pins s σ H R I h => Call_ (ld_blt I hg hm PyProof.Rows.boot_zip (PyProof.Rows.callWith_type1 (thn (ha.run pos pins s σ H _ I h) fun us s1 ⟨vs, H1, I1, r1, q1⟩ => ?_) hs hpl))⟩
  obtain ⟨k1, k2, a, b, l, m, ex, hq1, hq2, q⟩ := q1
  subst ex
  cases r1 with
  | cons r rr =>
    cases rr with
    | cons r' rr =>
      cases rr
      cases r
      cases r'
      obtain ⟨its1, rv1, p1, la⟩ := inv_seqX I1 hq1
      obtain ⟨its2, rv2, p2, lb⟩ := inv_seqX I1 hq2
      refine zip_begins2 (beginsX a its1.toArray k1) (beginsX b its2.toArray k2) p1 p2 fun h' hz hI hO o1 o2 _ hk => wpAny_pyIter_zip hz ?_
      refine ⟨s1.heap.objs.size + 4, [s1.heap.objs.size + 4, s1.heap.objs.size + 2, s1.heap.objs.size + 3, s1.heap.objs.size, s1.heap.objs.size + 1], _, _, H1, rfl, I1.kept (t' := s1.toks) hk, turn_zipM (sepM la lb) (Nat.ne_of_lt la) (Nat.ne_of_lt (Nat.lt_succ_of_lt lb)), ⟨hz, hI, ⟨_, _, hO⟩, iterX0 o1, iterX0 o2⟩, fun c hcm => ?_, q⟩
      have z : c = s1.heap.objs.size + 4 ∨ c = s1.heap.objs.size + 2 ∨ c = s1.heap.objs.size + 3 ∨ c = s1.heap.objs.size ∨ c = s1.heap.objs.size + 1 := by simpa using hcm
      have le : s1.heap.objs.size ≤ c := by
        rcases z with z | z | z | z | z <;> rw [z] <;> first | exact Nat.le_add_right _ _ | exact Nat.le_refl _
      exact I1.fpOk le (I1.hok.fresh le)

/-! ### what a loop walks -/
def Lay (H H' : Hp) : Prop := H' = H ∨ ∃ a vs, H a = none ∧ H' = upd H a (.tup vs)
/-- at every later state the iterator yields the items in their order -/
def Feed (T : Tc) (J : It) (l : List D) (σ : Sg) (H : Hp) (ρ : Env') (W : AS) : Prop :=
  ∀ σ2 H2 ρ2 W2, Rel T σ2 H2 ρ2 W2 → Step σ H ρ W σ2 H2 ρ2 W2 →
    (∀ (i : Nat) (d : D), l[i]? = some d → J.go i H2 ∧ ∀ x H3, J.yld i H2 x H3 → Lay H2 H3 ∧ RepD T.K H3 W2 x d) ∧ J.stop l.length H2
def tI (X : Cx) (T : Tc) (F : Fn) (Z : WX) (it : Ie) : TI := fun σ H R => ∃ ρ W, Rel T σ H ρ W ∧ Post X Z (evi F it ρ) σ H ρ fun lp ρ' => ∀ J H' W', Go T σ H ρ W H' ρ' W' → Feed T J lp.1 σ H' (lockP lp.2 ρ').2 W' → R J H'

section
variable {X : Cx} {Z : WX} {T : Tc} {F : Fn} {σ : Sg} {H H0 H1 H2 H' : Hp} {ρ ρ1 ρ2 ρ' : Env'} {W W1 W2 W' : AS} {K : PySem.W.Frag} {ds : List D}
theorem lock_own {p : P} {i : Nat} {a : Addr} (h : OwnU σ (lockP p ρ).2 i a) : OwnU σ ρ i a ∧ ∀ j b d, p = .at_ j → ρ[j]? = some (some (.own b d)) → i ≠ j := by
  unfold lockP at h
  split at h
  · rename_i k
    split at h
    · rename_i b d e
      obtain ⟨⟨c, x, h1⟩, h2⟩ := h
      rcases getq_set h1 with ⟨rfl, z, _⟩ | ⟨ne, z⟩
      · cases z
      · exact ⟨⟨⟨c, x, z⟩, h2⟩, fun j b d e1 _ e2 => by cases e1; exact ne e2.symm⟩
    · rename_i n
      exact ⟨h, fun j b d e1 e2 _ => by cases e1; exact n b d e2⟩
  · rename_i n
    exact ⟨h, fun j b d e1 e2 _ => n j e1⟩
theorem lock_go (R : Rel T σ H ρ W) (p : P) : Go T σ H ρ W H (lockP p ρ).2 W := by
  unfold lockP
  split
  · rename_i i
    split
    · rename_i b d e
      have hi : i < ρ.length := (List.getElem?_eq_some_iff.mp e).1
      have mon : Mon σ ρ (ρ.set i (some (.lck b d))) := fun j x ⟨h1, h2⟩ => by
        rcases h1 with ⟨c, z, h1⟩ | ⟨c, z, h1⟩
        · rcases getq_set h1 with ⟨rfl, k, _⟩ | ⟨_, k⟩
          · cases k
          · exact ⟨.inl ⟨c, z, k⟩, h2⟩
        · rcases getq_set h1 with ⟨rfl, k, _⟩ | ⟨_, k⟩
          · exact ⟨.inl ⟨b, d, e⟩, h2⟩
          · exact ⟨.inr ⟨c, z, k⟩, h2⟩
      refine ⟨⟨by simpa using R.len, fun j s h => ?_, fun j k x h1 h2 => R.sep j k x (mon j x h1) (mon k x h2), R.wl, fun j z x h1 h2 => ?_, R.fzk, fun j x h => ?_⟩, fun x o h n => ⟨h, fun j z => n j ?_, Iff.rfl⟩, mon, fun _ h => h, Lk.set fun b' d' z => by rw [e] at z; cases z⟩
      · rcases getq_set h with ⟨rfl, k, _⟩ | ⟨ne, k⟩
        · cases k
          obtain ⟨o, e1, q⟩ := R.at_ i _ e
          exact ⟨o, e1, q⟩
        · exact R.at_ j s k
      · rcases h1 with h1 | h1
        · rcases getq_set h1 with ⟨rfl, k, _⟩ | ⟨_, k⟩
          · cases k
          · exact R.fr j z x (.inl k) h2
        · rcases getq_set h1 with ⟨rfl, k, _⟩ | ⟨_, k⟩
          · cases k; exact R.fr i d x (.inl e) h2
          · exact R.fr j z x (.inr k) h2
      · obtain ⟨h1, s, h2, h3⟩ := R.bor j x h
        refine ⟨h1, ?_⟩
        by_cases ej : i = j
        · subst ej
          refine ⟨.lck b d, by rw [List.getElem?_set_self hi], ?_⟩
          rw [e] at h2; cases h2
          cases b with
          | true => trivial
          | false => exact h3.elim
        · exact ⟨s, by rw [List.getElem?_set_ne ej]; exact h2, h3⟩
      · obtain ⟨⟨c, y, h1⟩, h2⟩ := z
        rcases getq_set h1 with ⟨rfl, k, _⟩ | ⟨_, k⟩
        · cases k
        · exact ⟨⟨c, y, k⟩, h2⟩
    · exact Go.refl R
  · exact Go.refl R
/-- an object that nobody may change now -/
theorem still_list {a : Addr} {o : HO} (hx : H a = some o) (n : ∀ i, ¬ OwnU σ ρ i a) (s : Step σ H ρ W σ' H2 ρ2 W2) : H2 a = some o := (s a o hx n).1
theorem feed_list (R : Rel T σ H ρ W) {a : Addr} {vs : List V} {l : List D} (hx : H a = some (.lst vs)) (n : ∀ i, ¬ OwnU σ ρ i a) (r : RepDs T.K H W vs l) : Feed T (Itl T.K a) l σ H ρ W := fun σ2 H2 ρ2 W2 R2 s => by
  have e := still_list hx n s
  have r2 := r.adv R.wl (s.adv R)
  refine ⟨fun i d h => ?_, ⟨vs, .of e, by rw [r.length]; exact Nat.le_refl _⟩⟩
  obtain ⟨v, hv, q⟩ := r2.get h
  refine ⟨⟨vs, v, .of e, hv⟩, fun x H3 y => ?_⟩
  obtain ⟨rfl, y⟩ := y
  have := y vs (.of e)
  rw [hv] at this; cases this
  exact ⟨.inl rfl, q⟩
theorem feed_tup (R : Rel T σ H ρ W) {a : Addr} {vs : List V} {l : List D} (hx : TupL T.K H a vs) (r : RepDs T.K H W vs l) : Feed T (Itt T.K a) l σ H ρ W := fun σ2 H2 ρ2 W2 R2 s => by
  have e := (hx.adv R.wl (s.adv R)).sq
  have r2 := r.adv R.wl (s.adv R)
  refine ⟨fun i d h => ?_, ⟨vs, e, by rw [r.length]; exact Nat.le_refl _⟩⟩
  obtain ⟨v, hv, q⟩ := r2.get h
  refine ⟨⟨vs, v, e, hv⟩, fun x H3 y => ?_⟩
  obtain ⟨rfl, y⟩ := y
  have := y vs e
  rw [hv] at this; cases this
  exact ⟨.inl rfl, q⟩
theorem feed_scr (R : Rel T σ H ρ W) {a : Addr} {l : List Int} (hx : ScrL T.K H W a (l.map V.int)) : Feed T (Itl T.K a) (l.map .int) σ H ρ W := fun σ2 H2 ρ2 W2 R2 s => by
  have e := (hx.adv R.wl (s.adv R)).sq
  refine ⟨fun i d h => ?_, ⟨_, e, by simp⟩⟩
  rw [List.getElem?_map] at h
  cases z : l[i]? with
  | none => rw [z] at h; cases h
  | some k =>
    rw [z] at h; cases h
    refine ⟨⟨_, .int k, e, by rw [List.getElem?_map, z]; rfl⟩, fun x H3 y => ?_⟩
    obtain ⟨rfl, y⟩ := y
    have := y _ e
    rw [List.getElem?_map, z] at this; cases this
    exact ⟨.inl rfl, rfl⟩
theorem feed_str {x : Str} : Feed T (Its x) (x.cps.toList.map fun c => .str (chr1 c)) σ H ρ W := fun σ2 H2 ρ2 W2 R2 s => by
  refine ⟨fun i d h => ?_, ?_⟩
  · rw [List.getElem?_map] at h
    cases z : x.cps.toList[i]? with
    | none => rw [z] at h; cases h
    | some c =>
      rw [z] at h; cases h
      rw [Array.getElem?_toList] at z
      refine ⟨(Array.getElem?_eq_some_iff.mp z).1, fun v H3 y => ?_⟩
      obtain ⟨rfl, c2, e, rfl⟩ := y
      rw [z] at e; cases e
      exact ⟨.inl rfl, rfl⟩
  · show x.cps.size ≤ _
    simp
theorem feed_rng {lo : Int} {n : Nat} : Feed T (Itr lo n) (rng lo n) σ H ρ W := fun σ2 H2 ρ2 W2 R2 s => by
  refine ⟨fun i d h => ?_, ?_⟩
  · unfold rng at h
    rw [List.getElem?_map] at h
    by_cases hi : i < n
    · rw [List.getElem?_range hi] at h
      cases h
      refine ⟨hi, fun v H3 y => ?_⟩
      obtain ⟨rfl, rfl⟩ := y
      exact ⟨.inl rfl, rfl⟩
    · rw [List.getElem?_eq_none (by simpa using hi)] at h
      cases h
  · show n ≤ (rng lo n).length
    simp [rng]
/-- the object of a handed list is changed by nobody, once it is locked -/
theorem locked {p : P} {v : V} {l : List D} (R : Rel T σ H ρ W) (h : RepP T σ H ρ W v p) (e : peek p ρ = some (.lst l)) : ∃ a vs, v = .ref a ∧ H a = some (.lst vs) ∧ RepDs T.K H W vs l ∧ ∀ i, ¬ OwnU σ (lockP p ρ).2 i a := by
  obtain ⟨a, vs, rfl, ha, r⟩ := (peek_ok R h e).lst
  refine ⟨a, vs, rfl, ha, r, fun i z => ?_⟩
  obtain ⟨z1, z2⟩ := lock_own z
  cases p with
  | val d =>
    cases e
    obtain ⟨b, us, eb, _, nw, _⟩ := h
    cases eb
    exact nw (R.ownA z1.a).1
  | own d =>
    obtain ⟨b, o, eb, _, _, no, _⟩ := h
    cases eb
    exact no i z1.a
  | at_ j =>
    have h : σ[j]? = some (some (.ref a)) := h
    have nw : ∀ d : D, d = .lst l → (∃ o, σ[j]? = some o ∧ ∃ v, o = some v ∧ RepD T.K H W v d) → False := fun d ed ⟨o, e1, v, e2, q⟩ => by
      subst ed
      rw [h] at e1; cases e1; cases e2
      obtain ⟨b, us, eb, _, nw, _⟩ := q
      cases eb
      exact nw (R.ownA z1.a).1
    simp only [peek] at e
    split at e
    · rename_i d es; cases e
      exact nw _ rfl (R.at_ j _ es)
    · rename_i b d es; cases e
      exact z2 j b _ rfl es (R.sep _ _ _ z1.a ⟨.inl ⟨b, _, es⟩, h⟩)
    · rename_i b d es; cases e
      have := R.sep _ _ _ z1.a ⟨.inr ⟨b, _, es⟩, h⟩
      subst this
      obtain ⟨⟨c, d, z3⟩, _⟩ := z1
      rw [es] at z3; cases z3
    · rename_i d es; cases e
      exact nw _ rfl (R.at_ j _ es)
    · cases e
theorem peek_val {p : P} {v : V} {d : D} (R : Rel T σ H ρ W) (h : RepP T σ H ρ W v p) (e : peek p ρ = some d) (n : ∀ o, ¬ RepO T.K H W o d) : RepD T.K H W v d := by
  rcases peek_ok R h e with ⟨a, o, _, _, q⟩ | q
  · exact (n o q).elim
  · exact q
/-- for .. in e -/
theorem s_seq (tk : T.K = X.K) {e : Ex} {e' tg : Expr} (he : PE X e' (tE X T F Z e)) : PI X tg e' (tI X T F Z (.seq e)) := by
  refine ⟨fun pins s σ H R I q => ?_⟩
  obtain ⟨ρ, W, Rl, h⟩ := q
  have h := Post.bind h
  cases e0 : ev F e ρ with
  | bad => rw [e0] at h; exact h.elim
  | err x => exact (pi_list (tg := tg) he).run pins s σ H R I ⟨ρ, W, Rl, by rw [e0] at h ⊢; exact h⟩
  | ok r =>
    obtain ⟨p, ρ1⟩ := r
    rw [e0] at h
    have h : Post X Z ((pk p ρ1).bind fun x => (items x).bind fun l => .ok ((l, p), ρ1)) σ H ρ fun lp ρ' => ∀ J H' W', Go T σ H ρ W H' ρ' W' → Feed T J lp.1 σ H' (lockP lp.2 ρ').2 W' → R J H' := h
    obtain ⟨d, e1, h⟩ := Post.val .pk h
    obtain ⟨l, e2, h⟩ := Post.val .items h
    have e1 := pk_of e1
    cases d with
    | tup l =>
      cases e2
      refine (pi_tup (tg := tg) he).run pins s σ H R I ⟨ρ, W, Rl, ?_⟩
      rw [e0]
      intro v H1 W1 o
      obtain ⟨a, vs, rfl, t, r⟩ := peek_val o.go.rel o.rep e1 fun _ z => z
      refine ⟨a, rfl, ⟨vs, by rw [← tk]; exact t.sq⟩, ?_⟩
      have g := lock_go o.go.rel p
      rw [← tk]
      exact h _ _ _ o.go (feed_tup g.rel (t.adv o.go.rel.wl (g.step.adv o.go.rel)) (RepDs.adv o.go.rel.wl (g.step.adv o.go.rel) r))
    | str x =>
      cases e2
      refine (pi_str (tg := tg) he).run pins s σ H R I ⟨ρ, W, Rl, ?_⟩
      rw [e0]
      intro v H1 W1 o
      have ev1 : v = .str x := peek_val o.go.rel o.rep e1 fun _ z => z
      exact ⟨x, ev1, h _ _ _ o.go feed_str⟩
    | lst l =>
      cases e2
      refine (pi_list (tg := tg) he).run pins s σ H R I ⟨ρ, W, Rl, ?_⟩
      rw [e0]
      intro v H1 W1 o
      obtain ⟨a, vs, rfl, ha, r, n⟩ := locked o.go.rel o.rep e1
      have g := lock_go o.go.rel p
      refine ⟨a, rfl, ⟨vs, .of ha⟩, ?_⟩
      rw [← tk]
      exact h _ _ _ o.go (feed_list g.rel ha n (r.adv o.go.rel.wl (g.step.adv o.go.rel)))
    | scr l =>
      cases e2
      refine (pi_list (tg := tg) he).run pins s σ H R I ⟨ρ, W, Rl, ?_⟩
      rw [e0]
      intro v H1 W1 o
      obtain ⟨a, rfl, t⟩ := peek_val o.go.rel o.rep e1 fun _ z => z
      have g := lock_go o.go.rel p
      refine ⟨a, rfl, ⟨_, by rw [← tk]; exact t.sq⟩, ?_⟩
      rw [← tk]
      exact h _ _ _ o.go (feed_scr g.rel (t.adv o.go.rel.wl (g.step.adv o.go.rel)))
    | _ => cases e2
/-- for .. in range(a) -/
theorem s_rng {a : Ex} {a' tg : Expr} {p pos : Pos} (hg : Gl X "range") (hm : X.mg "range" = none) (hs : starEach [a'] X.env = [(false, eval a' X.env)]) (ha : PE X a' (tE X T F Z a)) : PI X tg (.Call (.Name "range" p) [a'] [] pos) (tI X T F Z (.rng a)) := by
  refine ⟨fun pins s σ H R I q => ?_⟩
  refine (pi_range1 (tg := tg) hg hm (pa_cons ha pa_nil hs) hs).run pins s σ H R I ?_
  obtain ⟨ρ, W, Rl, h⟩ := q
  refine ⟨ρ, W, Rl, (Post.bind h).imp fun p ρ1 h v H1 W1 o => ?_⟩
  dsimp only at h
  split at h
  · rename_i j
    obtain ⟨⟨c1, c2⟩, h⟩ := Post.need h
    have e : v = .int j := o.rep
    exact ⟨j, by rw [e], c1, c2, h _ _ _ o.go feed_rng⟩
  · exact h.elim
theorem s_rng2 {a b : Ex} {a' b' tg : Expr} {p pos : Pos} (hg : Gl X "range") (hm : X.mg "range" = none) (hs : starEach [a', b'] X.env = [(false, eval a' X.env), (false, eval b' X.env)]) (hs2 : starEach [b'] X.env = [(false, eval b' X.env)])
    (ha : PE X a' (tE X T F Z a)) (hb : PE X b' (tE X T F Z b)) : PI X tg (.Call (.Name "range" p) [a', b'] [] pos) (tI X T F Z (.rng2 a b)) := by
  refine ⟨fun pins s σ H R I q => ?_⟩
  refine (pi_range2 (tg := tg) hg hm (pa_cons ha (pa_cons hb pa_nil hs2) (by rw [hs, hs2])) hs hs2).run pins s σ H R I ?_
  obtain ⟨ρ, W, Rl, h⟩ := q
  refine ⟨ρ, W, Rl, (Post.bind h).imp fun p ρ1 h v H1 W1 o => ⟨ρ1, W1, o.go.rel, ((Post.bind h).move o.go.step).imp fun p2 ρ2 h v2 H2 W2 o2 => ?_⟩⟩
  cases p with
  | val d =>
    cases d with
    | int i =>
      cases p2 with
      | val d2 =>
        cases d2 with
        | int j =>
          obtain ⟨⟨⟨c1, c2⟩, c3, c4⟩, h⟩ := Post.need h
          have e : v = .int i := o.rep
          have e2 : v2 = .int j := o2.rep
          exact ⟨i, j, by rw [e, e2], ⟨c1, c2, c3, c4⟩, h _ _ _ (o.go.trans o2.go) feed_rng⟩
        | _ => exact h.elim
      | _ => exact h.elim
    | _ => exact h.elim
  | _ => exact h.elim
theorem lay_rep (wl : WL H W) {a : Addr} {vs : List V} {l : List D} (n : H a = none) (r : RepDs K H W vs l) : RepD K (upd H a (.tup vs)) W (.ref a) (.tup l) := ⟨a, vs, rfl, .of upd_same, r.adv wl (adv_new n)⟩
theorem enmD_get {l : List D} {i : Nat} {d : D} (h : (enmD l)[i]? = some d) : ∃ c, l[i]? = some c ∧ d = .tup [.int (i : Nat), c] := by
  unfold enmD at h
  rw [List.getElem?_map] at h
  cases z : ((List.range l.length).zip l)[i]? with
  | none => rw [z] at h; cases h
  | some q =>
    rw [z] at h; cases h
    rw [List.getElem?_zip_eq_some] at z
    obtain ⟨z1, z2⟩ := z
    have hi := (List.getElem?_eq_some_iff.mp z2).1
    rw [List.getElem?_range hi] at z1
    exact ⟨q.2, z2, by show D.tup [.int ((q.1 : Nat) : Int), q.2] = _; rw [← Option.some.inj z1]⟩
theorem enmD_len (l : List D) : (enmD l).length = l.length := by simp [enmD]
theorem feed_enum (R : Rel T σ H ρ W) {a : Addr} {vs : List V} {l : List D} (hx : H a = some (.lst vs)) (n : ∀ i, ¬ OwnU σ ρ i a) (r : RepDs T.K H W vs l) : Feed T (Ite T.K a) (enmD l) σ H ρ W := fun σ2 H2 ρ2 W2 R2 s => by
  have e := still_list hx n s
  have r2 := r.adv R.wl (s.adv R)
  refine ⟨fun i d h => ?_, ⟨vs, .of e, by rw [r.length, enmD_len]; exact Nat.le_refl _⟩⟩
  obtain ⟨c, hc, rfl⟩ := enmD_get h
  obtain ⟨v, hv, q⟩ := r2.get hc
  refine ⟨⟨vs, v, .of e, hv⟩, fun x H3 y => ?_⟩
  obtain ⟨A, z, rfl, nA, rfl, y⟩ := y
  have := y vs (.of e)
  rw [hv] at this; cases this
  exact ⟨.inr ⟨A, _, nA, rfl⟩, lay_rep R2.wl nA ⟨_, _, rfl, rfl, _, _, rfl, q, rfl⟩⟩
theorem feed_enumT (R : Rel T σ H ρ W) {a : Addr} {vs : List V} {l : List D} (hx : TupL T.K H a vs) (r : RepDs T.K H W vs l) : Feed T (IteT T.K a) (enmD l) σ H ρ W := fun σ2 H2 ρ2 W2 R2 s => by
  have e := (hx.adv R.wl (s.adv R)).sq
  have r2 := r.adv R.wl (s.adv R)
  refine ⟨fun i d h => ?_, ⟨vs, e, by rw [r.length, enmD_len]; exact Nat.le_refl _⟩⟩
  obtain ⟨c, hc, rfl⟩ := enmD_get h
  obtain ⟨v, hv, q⟩ := r2.get hc
  refine ⟨⟨vs, v, e, hv⟩, fun x H3 y => ?_⟩
  obtain ⟨A, z, rfl, nA, rfl, y⟩ := y
  have := y vs e
  rw [hv] at this; cases this
  exact ⟨.inr ⟨A, _, nA, rfl⟩, lay_rep R2.wl nA ⟨_, _, rfl, rfl, _, _, rfl, q, rfl⟩⟩
theorem s_enm (tk : T.K = X.K) {e : Ex} {e' : Expr} {elts : List Expr} {kk : Nat} {p pos tpos : Pos} (hg : Gl X "enumerate") (hm : X.mg "enumerate" = none) (hs : starEach [e'] X.env = [(false, eval e' X.env)]) (he : PE X e' (tE X T F Z e)) :
    PI X (.Tuple elts kk tpos) (.Call (.Name "enumerate" p) [e'] [] pos) (tI X T F Z (.enm e)) := by
  refine ⟨fun pins s σ H R I q => ?_⟩
  refine (pi_enumA hg hm (pa_cons he pa_nil hs) hs).run pins s σ H R I ?_
  obtain ⟨ρ, W, Rl, h⟩ := q
  refine ⟨ρ, W, Rl, (Post.bind h).imp fun p ρ1 h v H1 W1 o => ?_⟩
  obtain ⟨d, e1, h⟩ := Post.val .pk h
  obtain ⟨l, e2, h⟩ := Post.val .itemsL h
  cases d with
  | lst l =>
    cases e2
    obtain ⟨a, vs, rfl, ha, r, n⟩ := locked o.go.rel o.rep (pk_of e1)
    have g := lock_go o.go.rel p
    refine ⟨a, vs, rfl, .inl ⟨.of ha, ?_⟩⟩
    rw [← tk]
    exact h _ _ _ o.go (feed_enum g.rel ha n (r.adv o.go.rel.wl (g.step.adv o.go.rel)))
  | tup l =>
    cases e2
    obtain ⟨a, vs, rfl, ha, r⟩ := (peek_ok o.go.rel o.rep (pk_of e1)).tup
    have g := lock_go o.go.rel p
    refine ⟨a, vs, rfl, .inr ⟨by rw [← tk]; exact ha.sq, ?_⟩⟩
    rw [← tk]
    exact h _ _ _ o.go (feed_enumT g.rel (ha.adv o.go.rel.wl (g.step.adv o.go.rel)) (r.adv o.go.rel.wl (g.step.adv o.go.rel)))
  | _ => cases e2
theorem zip2_get {a b : List D} {i : Nat} {d : D} (h : (zipD [a, b])[i]? = some d) : ∃ x y, a[i]? = some x ∧ b[i]? = some y ∧ d = .tup [x, y] := by
  unfold zipD at h
  rw [List.getElem?_map] at h
  cases z : (a.zip b)[i]? with
  | none => rw [z] at h; cases h
  | some q =>
    rw [z] at h; cases h
    rw [List.getElem?_zip_eq_some] at z
    exact ⟨_, _, z.1, z.2, rfl⟩
/-- a list or a tuple that nobody changes -/
def SqW (K : PySem.W.Frag) (H : Hp) (W : AS) (a : Addr) (vs : List V) : Bool → Prop
  | true => H a = some (.lst vs) ∧ ¬ W a
  | false => TupL K H a vs
theorem SqW.x {a : Addr} {vs : List V} : ∀ {k : Bool}, SqW K H W a vs k → SqX K H a vs k
  | true, h => .of h.1
  | false, h => h.sq
theorem SqW.adv (wl : WL H W) (ad : Adv H W H' W2) {a : Addr} {vs : List V} : ∀ {k : Bool}, SqW K H W a vs k → SqW K H' W2 a vs k
  | true, h => ad _ _ h.1 h.2
  | false, h => TupL.adv wl ad h
theorem feed_zipM (R : Rel T σ H ρ W) {a b : Addr} {vs us : List V} {l m : List D} {k1 k2 : Bool} (hx : SqW T.K H W a vs k1) (r : RepDs T.K H W vs l) (hy : SqW T.K H W b us k2) (q : RepDs T.K H W us m) :
    Feed T (ItzM T.K k1 k2 a b) (zipD [l, m]) σ H ρ W := fun σ2 H2 ρ2 W2 R2 s => by
  have e1 := (hx.adv R.wl (s.adv R)).x
  have e2 := (hy.adv R.wl (s.adv R)).x
  have r2 := r.adv R.wl (s.adv R)
  have q2 := q.adv R.wl (s.adv R)
  refine ⟨fun i d h => ?_, ⟨vs, us, e1, e2, ?_⟩⟩
  · obtain ⟨x, y, hx, hy, rfl⟩ := zip2_get h
    obtain ⟨v, hv, qv⟩ := r2.get hx
    obtain ⟨u, hu, qu⟩ := q2.get hy
    refine ⟨⟨vs, us, v, u, e1, e2, hv, hu⟩, fun z H3 yl => ?_⟩
    obtain ⟨A, z1, z2, rfl, nA, rfl, y1, y2⟩ := yl
    have := y1 vs e1
    rw [hv] at this; cases this
    have := y2 us e2
    rw [hu] at this; cases this
    exact ⟨.inr ⟨A, _, nA, rfl⟩, lay_rep R2.wl nA ⟨_, _, rfl, qv, _, _, rfl, qu, rfl⟩⟩
  · rw [r.length, q.length]
    simp [zipD]
    omega
theorem s_zip2 (tk : T.K = X.K) {a b : Ex} {a' b' : Expr} {elts : List Expr} {kk : Nat} {p pos tpos : Pos} (hg : Gl X "zip") (hm : X.mg "zip" = none) (hs : starEach [a', b'] X.env = (false, eval a' X.env) :: starEach [b'] X.env)
    (hpl : (backTo pos (starEach [b'] X.env)).any (·.1) = false) (hp : PA X [a', b'] (tA X T F Z (.cons a (.cons b .nil)))) :
    PI X (.Tuple elts kk tpos) (.Call (.Name "zip" p) [a', b'] [] pos) (tI X T F Z (.zip (.cons a (.cons b .nil)))) := by
  refine ⟨fun pins s σ H R I q => ?_⟩
  refine (pi_zipM hg hm hp hs hpl).run pins s σ H R I ?_
  obtain ⟨ρ, W, Rl, h⟩ := q
  refine ⟨ρ, W, Rl, (Post.bind h).imp fun ps ρ1 h vs H1 W1 o => ?_⟩
  obtain ⟨⟨ds, ρ2⟩, ex, h⟩ := Post.val .of h
  obtain ⟨W2, g, q⟩ := o.data (of_ok ex)
  obtain ⟨t, et, h⟩ := Post.val .itemss h
  have et : itemss ds = .ok t := et
  unfold itemss at et
  rw [← tk]
  split at et
  · cases et
    obtain ⟨v, r, rfl, ⟨a, us, rfl, ea, na, ra⟩, v2, r2, rfl, ⟨b, ws, rfl, eb, nb, rb⟩, rfl⟩ := q
    exact ⟨true, true, a, b, us, ws, rfl, .of ea, .of eb, h _ _ _ g (feed_zipM g.rel (k1 := true) (k2 := true) ⟨ea, na⟩ ra ⟨eb, nb⟩ rb)⟩
  · cases et
    obtain ⟨v, r, rfl, ⟨a, us, rfl, ea, ra⟩, v2, r2, rfl, ⟨b, ws, rfl, eb, rb⟩, rfl⟩ := q
    exact ⟨false, false, a, b, us, ws, rfl, ea.sq, eb.sq, h _ _ _ g (feed_zipM g.rel (k1 := false) (k2 := false) ea ra eb rb)⟩
  · cases et
    obtain ⟨v, r, rfl, ⟨a, us, rfl, ea, na, ra⟩, v2, r2, rfl, ⟨b, ws, rfl, eb, rb⟩, rfl⟩ := q
    exact ⟨true, false, a, b, us, ws, rfl, .of ea, eb.sq, h _ _ _ g (feed_zipM g.rel (k1 := true) (k2 := false) ⟨ea, na⟩ ra eb rb)⟩
  · cases et
    obtain ⟨v, r, rfl, ⟨a, us, rfl, ea, ra⟩, v2, r2, rfl, ⟨b, ws, rfl, eb, nb, rb⟩, rfl⟩ := q
    exact ⟨false, true, a, b, us, ws, rfl, ea.sq, .of eb, h _ _ _ g (feed_zipM g.rel (k1 := false) (k2 := true) ea ra ⟨eb, nb⟩ rb)⟩
  · cases et
end
end Dv

set_option Elab.async false
set_option linter.all false
set_option maxRecDepth 100000
namespace Dv
open PySem PySem.Spec PyProof.Rows L2

section
variable {X : Cx} {Z : WX} {T : Tc} {F : Fn} {σ σ' : Sg} {H H0 H1 H2 H' : Hp} {ρ ρ1 ρ2 ρ' : Env'} {W W1 W2 W' : AS} {K : PySem.W.Frag} {ds : List D}

/-! ### slots stored -/
theorem free_bor {i : Nat} (h : freeSlot i ρ = true) : (∀ s, ρ[i]? = some (some s) → ¬ isBor s) ∧ (∀ b d, ρ[i]? ≠ some (some (.lck b d))) ∧ i < ρ.length := by
  unfold freeSlot at h
  split at h
  · rename_i e; exact ⟨fun s z => (by rw [e] at z; cases z), fun b d z => (by rw [e] at z; cases z), (List.getElem?_eq_some_iff.mp e).1⟩
  · rename_i d e; exact ⟨fun s z => (by rw [e] at z; cases z; exact fun k => k), fun b d z => (by rw [e] at z; cases z), (List.getElem?_eq_some_iff.mp e).1⟩
  · rename_i d e; exact ⟨fun s z => (by rw [e] at z; cases z; exact fun k => k), fun b d z => (by rw [e] at z; cases z), (List.getElem?_eq_some_iff.mp e).1⟩
  · cases h
def MonS (σ : Sg) (ρ : Env') (σ' : Sg) (ρ' : Env') : Prop := ∀ i a, OwnA σ' ρ' i a → OwnA σ ρ i a
theorem MonS.trans {σ1 : Sg} {σ2 : Sg} (a : MonS σ ρ σ1 ρ1) (b : MonS σ1 ρ1 σ2 ρ2) : MonS σ ρ σ2 ρ2 := fun i x h => a i x (b i x h)
/-- a slot stored with data, or emptied -/
theorem put_rel (R : Rel T σ H ρ W) {i : Nat} {v : V} {d : D} (hf : freeSlot i ρ = true) (r : RepD T.K H W v d) : Rel T (σ.set i (some v)) H (ρ.set i (some (.val d))) W ∧ Step σ H ρ W (σ.set i (some v)) H (ρ.set i (some (.val d))) W ∧ MonS σ ρ (σ.set i (some v)) (ρ.set i (some (.val d))) := by
  obtain ⟨nb, nl, hi⟩ := free_bor hf
  have hi2 : i < σ.length := by rw [← R.len]; exact hi
  have own : ∀ j a, OwnA (σ.set i (some v)) (ρ.set i (some (.val d))) j a → OwnA σ ρ j a ∧ j ≠ i := fun j a ⟨h1, h2⟩ => by
    have ne : j ≠ i := fun z => by
      subst z
      rcases h1 with ⟨b, x, h1⟩ | ⟨b, x, h1⟩ <;> (rw [List.getElem?_set_self hi] at h1; cases h1)
    rw [List.getElem?_set_ne (Ne.symm ne)] at h2
    refine ⟨⟨?_, h2⟩, ne⟩
    rcases h1 with ⟨b, x, h1⟩ | ⟨b, x, h1⟩
    · rw [List.getElem?_set_ne (Ne.symm ne)] at h1; exact .inl ⟨b, x, h1⟩
    · rw [List.getElem?_set_ne (Ne.symm ne)] at h1; exact .inr ⟨b, x, h1⟩
  refine ⟨⟨by simp [R.len], fun j s h => ?_, fun j k a h1 h2 => R.sep j k a (own j a h1).1 (own k a h2).1, R.wl, fun j x a h1 h2 => ?_, R.fzk, fun j a h => ?_⟩, fun b o h n => ⟨h, fun j z => ?_, Iff.rfl⟩, fun j a h => (own j a h).1⟩
  · rcases getq_set h with ⟨rfl, k, _⟩ | ⟨ne, k⟩
    · cases k
      exact ⟨some v, by rw [List.getElem?_set_self hi2], v, rfl, r⟩
    · obtain ⟨o, e, q⟩ := R.at_ j s k
      exact ⟨o, by rw [List.getElem?_set_ne ne]; exact e, q⟩
  · have ne : i ≠ j := fun z => by
      subst z
      rcases h1 with h1 | h1 <;> (rw [List.getElem?_set_self hi] at h1; cases h1)
    rw [List.getElem?_set_ne ne] at h2
    rw [List.getElem?_set_ne ne] at h1
    exact R.fr j x a h1 h2
  · obtain ⟨h1, s, h2, h3⟩ := R.bor j a h
    have ne : i ≠ j := fun z => by subst z; exact nb s h2 h3
    exact ⟨by rw [List.getElem?_set_ne ne]; exact h1, s, by rw [List.getElem?_set_ne ne]; exact h2, h3⟩
  · obtain ⟨⟨c, x, h1⟩, h2⟩ := z
    exact n j ⟨⟨c, x, by
      rcases getq_set h1 with ⟨rfl, k, _⟩ | ⟨ne, k⟩
      · cases k
      · exact k⟩, by
      rcases getq_set h1 with ⟨rfl, k, _⟩ | ⟨ne, k⟩
      · cases k
      · rw [List.getElem?_set_ne ne] at h2; exact h2⟩
theorem put_lk {i : Nat} {s : Option S} (hf : freeSlot i ρ = true) : Lk ρ (ρ.set i s) := Lk.set (free_bor hf).2.1

/-! ### from one statement to the next -/
structure GoS (T : Tc) (σ : Sg) (H : Hp) (ρ : Env') (W : AS) (σ' : Sg) (H' : Hp) (ρ' : Env') (W' : AS) : Prop where
  rel : Rel T σ' H' ρ' W'
  step : Step σ H ρ W σ' H' ρ' W'
  dom : ∀ a, H' a = none → H a = none
  own : ∀ i a, OwnA σ' ρ' i a → (∃ j, OwnA σ ρ j a) ∨ H a = none
  lk : ∀ (i : Nat) (b : Bool) (d : D), ρ[i]? = some (some (.lck b d)) → ρ'[i]? = some (some (.lck b d)) ∧ σ'[i]? = σ[i]?
theorem Go.s (g : Go T σ H ρ W H' ρ' W') : GoS T σ H ρ W σ H' ρ' W' := ⟨g.rel, g.step, g.dom, fun i a h => .inl ⟨i, g.mon i a h⟩, fun i b d h => ⟨g.lk i b d h, rfl⟩⟩
theorem GoS.refl (R : Rel T σ H ρ W) : GoS T σ H ρ W σ H ρ W := (Go.refl R).s
theorem GoS.trans {σ1 σ2 : Sg} (a : GoS T σ H ρ W σ1 H1 ρ1 W1) (b : GoS T σ1 H1 ρ1 W1 σ2 H2 ρ2 W2) : GoS T σ H ρ W σ2 H2 ρ2 W2 :=
  ⟨b.rel, a.step.trans b.step, fun x h => a.dom x (b.dom x h), fun i x h => by
    rcases b.own i x h with ⟨j, h⟩ | h
    · exact a.own j x h
    · exact .inr (a.dom x h), fun i c d h => by
    obtain ⟨h1, h2⟩ := a.lk i c d h
    obtain ⟨h3, h4⟩ := b.lk i c d h1
    exact ⟨h3, h4.trans h2⟩⟩
theorem put_go (R : Rel T σ H ρ W) {i : Nat} {v : V} {d : D} (e : putV i d ρ = .ok ρ') (r : RepD T.K H W v d) : GoS T σ H ρ W (σ.set i (some v)) H ρ' W ∧ MonS σ ρ (σ.set i (some v)) ρ' := by
  unfold putV at e
  split at e
  · rename_i hf
    cases e
    obtain ⟨a, b, m⟩ := put_rel R hf r
    refine ⟨⟨a, b, fun _ h => h, fun i a h => .inl ⟨i, m i a h⟩, fun j c x h => ⟨put_lk hf j c x h, ?_⟩⟩, m⟩
    have ne : i ≠ j := fun z => by subst z; exact (free_bor hf).2.1 c x h
    rw [List.getElem?_set_ne ne]
  · cases e
def sets (σ : Sg) : List Nat → List V → Sg
  | i :: is, v :: vs => sets (σ.set i (some v)) is vs
  | _, _ => σ
theorem puts_go : ∀ {is : List Nat} {ds : List D} {σ : Sg} {ρ ρ' : Env'} {vs : List V}, Rel T σ H ρ W → putVs is ds ρ = .ok ρ' → RepDs T.K H W vs ds → GoS T σ H ρ W (sets σ is vs) H ρ' W ∧ MonS σ ρ (sets σ is vs) ρ'
  | [], [], σ, ρ, ρ', vs, R, e, r => by
    cases e
    rw [show vs = [] from r]
    exact ⟨GoS.refl R, fun _ _ h => h⟩
  | i :: is, d :: ds, σ, ρ, ρ', vs, R, e, r => by
    obtain ⟨v, us, rfl, q, t⟩ := r
    have e : (putV i d ρ).bind (putVs is ds) = .ok ρ' := e
    cases e1 : putV i d ρ with
    | bad => rw [e1] at e; cases e
    | err x => rw [e1] at e; cases e
    | ok ρ1 =>
      rw [e1] at e
      obtain ⟨g, m⟩ := put_go R e1 q
      obtain ⟨g2, m2⟩ := puts_go g.rel e t
      exact ⟨g.trans g2, m.trans m2⟩
  | [], _ :: _, _, _, _, _, _, e, _ => by cases e
  | _ :: _, [], _, _, _, _, _, e, _ => by cases e
theorem putVs_len : ∀ {is : List Nat} {ds : List D} {ρ ρ' : Env'}, putVs is ds ρ = .ok ρ' → is.length = ds.length
  | [], [], _, _, _ => rfl
  | i :: is, d :: ds, ρ, ρ', e => by
    have e : (putV i d ρ).bind (putVs is ds) = .ok ρ' := e
    cases e1 : putV i d ρ with
    | bad => rw [e1] at e; cases e
    | err x => rw [e1] at e; cases e
    | ok ρ1 =>
      rw [e1] at e
      rw [List.length_cons, List.length_cons, putVs_len e]
  | [], _ :: _, _, _, e => by cases e
  | _ :: _, [], _, _, e => by cases e

/-! ### targets -/
def gNames : List Nat → TGs
  | [] => gNil
  | i :: is => gCons (gName i) (gNames is)
theorem gNames_ok : ∀ {is : List Nat} {vs : List V} {σ : Sg} {H : Hp} {Q : Sg → Hp → Prop}, is.length = vs.length → Q (sets σ is vs) H → gNames is vs σ H Q
  | [], [], _, _, _, _, h => ⟨rfl, h⟩
  | i :: is, v :: vs, σ, H, Q, e, h => ⟨v, vs, rfl, gNames_ok (is := is) (by simpa using e) h⟩
  | [], _ :: _, _, _, _, e, _ => by simp at e
  | _ :: _, [], _, _, _, e, _ => by simp at e
def gT (K : PySem.W.Frag) : Tg → TG
  | .nm i => gName i
  | .tp l => gTup K l.length (gNames l)
theorem gT_ok (R : Rel T σ H ρ W) {tg : Tg} {v : V} {d : D} {Q : Sg → Hp → Prop} (e : asgT tg d ρ = .ok ρ') (r : RepD T.K H W v d) (q : ∀ σ', GoS T σ H ρ W σ' H ρ' W → MonS σ ρ σ' ρ' → (∀ i, (match tg with | .nm j => i ≠ j | .tp l => i ∉ l) → σ'[i]? = σ[i]?) → Q σ' H) : gT T.K tg v σ H Q := by
  unfold asgT at e
  split at e
  · rename_i i d ρ
    refine q _ (put_go R e r).1 (put_go R e r).2 fun j hj => ?_
    rw [List.getElem?_set_ne (Ne.symm hj)]
  · rename_i is ds ρ
    obtain ⟨a, vs, rfl, t, r⟩ := r
    have el := putVs_len e
    refine ⟨a, vs, rfl, t.sq, by rw [r.length]; exact el.symm, gNames_ok (by rw [r.length]; exact el) (q _ (puts_go R e r).1 (puts_go R e r).2 fun j hj => ?_)⟩
    have : ∀ {is : List Nat} {vs : List V} {σ : Sg}, j ∉ is → (sets σ is vs)[j]? = σ[j]? := by
      intro is
      induction is with
      | nil => intro vs σ _; rfl
      | cons i is ih =>
        intro vs σ hn
        cases vs with
        | nil => rfl
        | cons v vs =>
          show (sets (σ.set i (some v)) is vs)[j]? = _
          rw [ih fun z => hn (List.mem_cons_of_mem _ z), List.getElem?_set_ne fun z => hn (by rw [z]; exact List.mem_cons_self)]
    exact this hj
  · cases e
end
end Dv

set_option Elab.async false
set_option linter.all false
set_option maxRecDepth 100000
namespace Dv
open PySem PySem.Spec PyProof.Rows L2

section
variable {X : Cx} {Z : WX} {T : Tc} {F : Fn} {σ σ' : Sg} {H H0 H1 H2 H' : Hp} {ρ ρ1 ρ2 ρ' ρf ρb ρq : Env'} {W W1 W2 W' : AS} {K : PySem.W.Frag} {ds : List D}

/-! ### a lock opened -/
theorem unlock_own {o : Option Nat} (e : unlock o ρf = .ok ρ') : (∀ i a, OwnA σ ρ' i a ↔ OwnA σ ρf i a) ∧ (o = none → ρ' = ρf) ∧ ∀ k, o = some k → ∃ b d, ρf[k]? = some (some (.lck b d)) ∧ ρ' = ρf.set k (some (.own b d)) := by
  unfold unlock at e
  split at e
  · cases e; exact ⟨fun _ _ => Iff.rfl, fun _ => rfl, fun k h => by cases h⟩
  · rename_i k
    split at e
    · rename_i b d es
      cases e
      have hi : k < ρf.length := (List.getElem?_eq_some_iff.mp es).1
      refine ⟨fun i a => ⟨fun ⟨h1, h2⟩ => ⟨?_, h2⟩, fun ⟨h1, h2⟩ => ⟨?_, h2⟩⟩, fun h => (by cases h), fun j h => (by cases h; exact ⟨b, d, es, rfl⟩)⟩
      · rcases h1 with ⟨c, z, h1⟩ | ⟨c, z, h1⟩
        · rcases getq_set h1 with ⟨rfl, _, _⟩ | ⟨_, q⟩
          · exact .inr ⟨b, d, es⟩
          · exact .inl ⟨c, z, q⟩
        · rcases getq_set h1 with ⟨rfl, q, _⟩ | ⟨_, q⟩
          · cases q
          · exact .inr ⟨c, z, q⟩
      · by_cases ei : k = i
        · subst ei
          exact .inl ⟨b, d, by rw [List.getElem?_set_self hi]⟩
        · rw [List.getElem?_set_ne ei]; exact h1
    · cases e
theorem unlock_rel {o : Option Nat} (R : Rel T σ H ρf W) (e : unlock o ρf = .ok ρ') : Rel T σ H ρ' W := by
  obtain ⟨ow, h0, h1⟩ := unlock_own (σ := σ) e
  cases o with
  | none => rw [h0 rfl]; exact R
  | some k =>
    obtain ⟨b, d, es, rfl⟩ := h1 k rfl
    have hi : k < ρf.length := (List.getElem?_eq_some_iff.mp es).1
    refine ⟨by simpa using R.len, fun j s h => ?_, fun i j a h1 h2 => R.sep i j a ((ow i a).mp h1) ((ow j a).mp h2), R.wl, fun j x a h1 h2 => ?_, R.fzk, fun j a h => ?_⟩
    · rcases getq_set h with ⟨rfl, q, _⟩ | ⟨_, q⟩
      · cases q
        obtain ⟨o, e1, q⟩ := R.at_ k _ es
        exact ⟨o, e1, q⟩
      · exact R.at_ j s q
    · rcases h1 with h1 | h1
      · rcases getq_set h1 with ⟨rfl, q, _⟩ | ⟨_, q⟩
        · cases q; exact R.fr k d a (.inr es) h2
        · exact R.fr j x a (.inl q) h2
      · rcases getq_set h1 with ⟨rfl, q, _⟩ | ⟨_, q⟩
        · cases q
        · exact R.fr j x a (.inr q) h2
    · obtain ⟨z1, s, z2, z3⟩ := R.bor j a h
      refine ⟨z1, ?_⟩
      by_cases ej : k = j
      · subst ej
        refine ⟨.own b d, by rw [List.getElem?_set_self hi], ?_⟩
        rw [es] at z2; cases z2
        cases b with
        | true => trivial
        | false => exact z3.elim
      · exact ⟨s, by rw [List.getElem?_set_ne ej]; exact z2, z3⟩
theorem lock_none {p : P} (h : (lockP p ρ).1 = none) : (lockP p ρ).2 = ρ := by
  unfold lockP at h ⊢
  split
  · rename_i i
    split
    · rename_i b d e
      simp only [e] at h
      cases h
    · rfl
  · rfl
theorem lock_some {p : P} {k : Nat} (h : (lockP p ρ).1 = some k) : ∃ b d, ρ[k]? = some (some (.own b d)) ∧ (lockP p ρ).2 = ρ.set k (some (.lck b d)) := by
  cases p with
  | val d => cases h
  | own d => cases h
  | at_ i =>
    simp only [lockP] at h ⊢
    split at h
    · rename_i b d e
      cases h
      exact ⟨b, d, e, rfl⟩
    · cases h
/-- from ahead of the lock to behind the opening -/
theorem unlock_step {p : P} (R : Rel T σ H1 ρ1 W1) (s : Step σ H1 (lockP p ρ1).2 W1 σ' H ρf W) (e : unlock (lockP p ρ1).1 ρf = .ok ρ')
    (hk : ∀ (k : Nat) (b : Bool) (d : D), (lockP p ρ1).2[k]? = some (some (S.lck b d)) → σ'[k]? = σ[k]?) : Step σ H1 ρ1 W1 σ' H ρ' W := fun x o h n => by
  have n1 : ∀ i, ¬ OwnU σ (lockP p ρ1).2 i x := fun i z => n i (lock_own z).1
  obtain ⟨h1, n2, w⟩ := s x o h n1
  refine ⟨h1, fun i z => ?_, w⟩
  obtain ⟨ow, h0, hs⟩ := unlock_own (σ := σ') e
  cases el : (lockP p ρ1).1 with
  | none => rw [h0 el] at z; exact n2 i z
  | some k =>
    obtain ⟨b, d, e1, rfl⟩ := hs k el
    obtain ⟨b2, d2, e2, e3⟩ := lock_some el
    obtain ⟨⟨c, y, z1⟩, z2⟩ := z
    rcases getq_set z1 with ⟨rfl, _, _⟩ | ⟨_, q⟩
    · have hi : k < ρ1.length := (List.getElem?_eq_some_iff.mp e2).1
      have := hk k b2 d2 (by rw [e3, List.getElem?_set_self hi])
      rw [this] at z2
      exact n k ⟨⟨b2, d2, e2⟩, z2⟩
    · exact n2 i ⟨⟨c, y, q⟩, z2⟩
theorem unlock_lk {p : P} {ρ3 : Env'} (l : Lk (lockP p ρ1).2 ρ3) (e : unlock (lockP p ρ1).1 ρ3 = .ok ρ') : Lk ρ1 ρ' := fun i b d h => by
  obtain ⟨_, h0, hs⟩ := unlock_own (σ := []) e
  cases el : (lockP p ρ1).1 with
  | none =>
    rw [h0 el]
    exact l i b d (by rw [lock_none el]; exact h)
  | some k =>
    obtain ⟨b1, d1, e1, rfl⟩ := hs k el
    obtain ⟨b2, d2, e2, e3⟩ := lock_some el
    have ne : k ≠ i := fun z => by subst z; rw [e2] at h; cases h
    rw [List.getElem?_set_ne ne]
    exact l i b d (by rw [e3, List.getElem?_set_ne ne]; exact h)

/-! ### a comprehension's own slots -/
theorem wipe_get : ∀ {vs : List Nat} {i : Nat}, i ∉ vs → (wipe σ vs)[i]? = σ[i]?
  | [], _, _ => rfl
  | v :: vs, i, h => by
    show ((wipe σ vs).set v none)[i]? = _
    rw [List.getElem?_set_ne fun z => h (by rw [z]; exact List.mem_cons_self), wipe_get fun z => h (List.mem_cons_of_mem _ z)]
theorem wipeR_get : ∀ {vs : List Nat} {i : Nat}, i ∉ vs → (wipeR ρ vs)[i]? = ρ[i]?
  | [], _, _ => rfl
  | v :: vs, i, h => by
    show ((wipeR ρ vs).set v none)[i]? = _
    rw [List.getElem?_set_ne fun z => h (by rw [z]; exact List.mem_cons_self), wipeR_get fun z => h (List.mem_cons_of_mem _ z)]
theorem wipeR_len : ∀ vs : List Nat, (wipeR ρ vs).length = ρ.length
  | [] => rfl
  | v :: vs => by
    show ((wipeR ρ vs).set v none).length = _
    rw [List.length_set, wipeR_len vs]
theorem wipeR_in : ∀ {vs : List Nat} {i : Nat} {s : S}, i ∈ vs → (wipeR ρ vs)[i]? ≠ some (some s)
  | v :: vs, i, s, h, e => by
    have e : ((wipeR ρ vs).set v none)[i]? = some (some s) := e
    rcases getq_set e with ⟨_, q, _⟩ | ⟨ne, q⟩
    · cases q
    · rcases List.mem_cons.mp h with z | z
      · exact ne z.symm
      · exact wipeR_in z q
theorem wipe_in : ∀ {vs : List Nat} {i : Nat}, i ∈ vs → (wipe σ vs)[i]? = if i < σ.length then some none else none
  | v :: vs, i, h => by
    show ((wipe σ vs).set v none)[i]? = _
    by_cases e : v = i
    · subst e
      by_cases z : v < σ.length
      · rw [List.getElem?_set_self (by rw [wipe_length]; exact z), if_pos z]
      · rw [if_neg z, List.getElem?_eq_none (by rw [List.length_set, wipe_length]; omega)]
    · rw [List.getElem?_set_ne e]
      rcases List.mem_cons.mp h with z | z
      · exact absurd z.symm e
      · exact wipe_in z
theorem wipe_eq {vs : List Nat} (hl : σ'.length = σ.length) (h : ∀ i, i ∉ vs → σ'[i]? = σ[i]?) : wipe σ' vs = wipe σ vs := by
  apply List.ext_getElem?
  intro i
  by_cases hm : i ∈ vs
  · rw [wipe_in hm, wipe_in hm, hl]
  · rw [wipe_get hm, wipe_get hm, h i hm]
theorem wipe_own {vs : List Nat} {i : Nat} {a : Addr} : OwnA (wipe σ vs) (wipeR ρ vs) i a ↔ OwnA σ ρ i a ∧ i ∉ vs := by
  constructor
  · rintro ⟨h1, h2⟩
    have hn : i ∉ vs := fun hm => by
      rcases h1 with ⟨b, d, h1⟩ | ⟨b, d, h1⟩ <;> exact wipeR_in hm h1
    rw [wipe_get hn] at h2
    rw [wipeR_get hn] at h1
    exact ⟨⟨h1, h2⟩, hn⟩
  · rintro ⟨⟨h1, h2⟩, hn⟩
    exact ⟨by rw [wipeR_get hn]; exact h1, by rw [wipe_get hn]; exact h2⟩
theorem wipe_ownU {vs : List Nat} {i : Nat} {a : Addr} : OwnU (wipe σ vs) (wipeR ρ vs) i a ↔ OwnU σ ρ i a ∧ i ∉ vs := by
  constructor
  · rintro ⟨⟨b, d, h1⟩, h2⟩
    have hn : i ∉ vs := fun hm => wipeR_in hm h1
    rw [wipe_get hn] at h2
    rw [wipeR_get hn] at h1
    exact ⟨⟨⟨b, d, h1⟩, h2⟩, hn⟩
  · rintro ⟨⟨⟨b, d, h1⟩, h2⟩, hn⟩
    exact ⟨⟨b, d, by rw [wipeR_get hn]; exact h1⟩, by rw [wipe_get hn]; exact h2⟩
theorem wipe_rel (R : Rel T σ H ρ W) {vs : List Nat} (hb : ∀ i ∈ vs, T.bm i = none) : Rel T (wipe σ vs) H (wipeR ρ vs) W := by
  refine ⟨by rw [wipeR_len, wipe_length, R.len], fun i s h => ?_, fun i j a h1 h2 => R.sep i j a (wipe_own.mp h1).1 (wipe_own.mp h2).1, R.wl, fun i d a h1 h2 => ?_, R.fzk, fun i a h => ?_⟩
  · have hn : i ∉ vs := fun hm => wipeR_in hm h
    rw [wipeR_get hn] at h
    rw [wipe_get hn]
    exact R.at_ i s h
  · have hn : i ∉ vs := fun hm => by
      rcases h1 with h1 | h1 <;> exact wipeR_in hm h1
    rw [wipe_get hn] at h2
    rw [wipeR_get hn] at h1
    exact R.fr i d a h1 h2
  · have hn : i ∉ vs := fun hm => by rw [hb i hm] at h; cases h
    rw [wipe_get hn, wipeR_get hn]
    exact R.bor i a h
theorem wipe_step {vs : List Nat} : Step σ H ρ W (wipe σ vs) H (wipeR ρ vs) W := fun b o h n => ⟨h, fun i z => n i (wipe_ownU.mp z).1, Iff.rfl⟩
theorem wipe_mon {vs : List Nat} : MonS σ ρ (wipe σ vs) (wipeR ρ vs) := fun i a h => (wipe_own.mp h).1
theorem wipe_wipe {vs : List Nat} : wipe (wipe σ vs) vs = wipe σ vs := wipe_eq (wipe_length _ _) fun i hi => wipe_get hi
/-! .. back -/
theorem backR_out : ∀ {vs : List Nat} {i : Nat}, i ∉ vs → (backR ρb ρ vs)[i]? = ρ[i]?
  | [], _, _ => rfl
  | v :: vs, i, h => by
    show ((backR ρb ρ vs).set v _)[i]? = _
    rw [List.getElem?_set_ne fun z => h (by rw [z]; exact List.mem_cons_self), backR_out fun z => h (List.mem_cons_of_mem _ z)]
theorem backR_len : ∀ vs : List Nat, (backR ρb ρ vs).length = ρ.length
  | [] => rfl
  | v :: vs => by
    show ((backR ρb ρ vs).set v _).length = _
    rw [List.length_set, backR_len vs]
theorem backR_in (hl : ρ.length = ρb.length) : ∀ {vs : List Nat} {i : Nat}, i ∈ vs → (backR ρb ρ vs)[i]? = ρb[i]?
  | v :: vs, i, h => by
    show ((backR ρb ρ vs).set v (ρb.getD v none))[i]? = _
    by_cases e : v = i
    · subst e
      by_cases z : v < ρb.length
      · rw [List.getElem?_set_self (by rw [backR_len, hl]; exact z), List.getD_eq_getElem?_getD, List.getElem?_eq_getElem z]; rfl
      · rw [List.getElem?_eq_none (by rw [List.length_set, backR_len, hl]; omega), List.getElem?_eq_none (by omega)]
    · rw [List.getElem?_set_ne e]
      rcases List.mem_cons.mp h with z | z
      · exact absurd z.symm e
      · exact backR_in hl z
theorem back_rel {vs : List Nat} (Rb : Rel T σ H1 ρb W1) (hb : ∀ i ∈ vs, T.bm i = none) (R : Rel T (wipe σ vs) H (wipeR ρq vs) W) (s : Step (wipe σ vs) H1 (wipeR ρb vs) W1 (wipe σ vs) H (wipeR ρq vs) W) (m : MonS (wipe σ vs) (wipeR ρb vs) (wipe σ vs) (wipeR ρq vs))
    (dom : ∀ a, H a = none → H1 a = none) (lk : Lk (wipeR ρb vs) (wipeR ρq vs)) : Rel T σ H (backR ρb ρq vs) W ∧ Step σ H1 ρb W1 σ H (backR ρb ρq vs) W ∧ Mon σ ρb (backR ρb ρq vs) ∧ Lk ρb (backR ρb ρq vs) := by
  have hl : ρq.length = ρb.length := by
    have h1 := R.len
    rw [wipeR_len, wipe_length] at h1
    rw [h1, Rb.len]
  have st : Step σ H1 ρb W1 (wipe σ vs) H (wipeR ρq vs) W := (wipe_step (vs := vs)).trans s
  have own : ∀ i a, OwnA σ (backR ρb ρq vs) i a → OwnA σ ρb i a ∧ (i ∉ vs → OwnA (wipe σ vs) (wipeR ρq vs) i a) := fun i a ⟨h1, h2⟩ => by
    by_cases hm : i ∈ vs
    · rw [backR_in hl hm] at h1
      exact ⟨⟨h1, h2⟩, fun z => absurd hm z⟩
    · rw [backR_out hm] at h1
      have : OwnA (wipe σ vs) (wipeR ρq vs) i a := wipe_own.mpr ⟨⟨h1, h2⟩, hm⟩
      exact ⟨(wipe_own.mp (m i a this)).1, fun _ => this⟩
  -- an own slot's old content still stands
  have old : ∀ (i : Nat) (s : S), i ∈ vs → ρb[i]? = some (some s) → ∃ o, σ[i]? = some o ∧ RelS T H W o s := fun i s hm e => by
    obtain ⟨o, e1, q⟩ := Rb.at_ i s e
    refine ⟨o, e1, ?_⟩
    have ad : Adv H1 W1 H W := st.adv Rb
    have nU : ∀ a, OwnA σ ρb i a → ∀ j, ¬ OwnU (wipe σ vs) (wipeR ρb vs) j a := fun a oa j z => by
      obtain ⟨z1, z2⟩ := wipe_ownU.mp z
      have := Rb.sep _ _ _ oa z1.a
      subst this
      exact z2 hm
    cases s with
    | val d => obtain ⟨v, e2, r⟩ := q; exact ⟨v, e2, r.adv Rb.wl ad⟩
    | brz d => obtain ⟨v, e2, r⟩ := q; exact ⟨v, e2, r.adv Rb.wl ad⟩
    | own b d =>
      obtain ⟨a, ob, rfl, e3, w, r⟩ := q
      obtain ⟨h1, _, h3⟩ := s a ob e3 (nU a ⟨.inl ⟨b, d, e⟩, e1⟩)
      exact ⟨a, ob, rfl, h1, h3.mpr w, r.adv Rb.wl ad⟩
    | lck b d =>
      obtain ⟨a, ob, rfl, e3, w, r⟩ := q
      obtain ⟨h1, _, h3⟩ := s a ob e3 (nU a ⟨.inr ⟨b, d, e⟩, e1⟩)
      exact ⟨a, ob, rfl, h1, h3.mpr w, r.adv Rb.wl ad⟩
  refine ⟨⟨by rw [backR_len, hl, Rb.len], fun i s h => ?_, fun i j a h1 h2 => Rb.sep i j a (own i a h1).1 (own j a h2).1, R.wl, fun i d a h1 h2 => ?_, R.fzk, fun i a h => ?_⟩, fun b o h n => ?_, fun i a h => (own i a h).1, fun i b d h => ?_⟩
  · by_cases hm : i ∈ vs
    · rw [backR_in hl hm] at h
      exact old i s hm h
    · rw [backR_out hm] at h
      have := R.at_ i s (by rw [wipeR_get hm]; exact h)
      rw [wipe_get hm] at this
      exact this
  · by_cases hm : i ∈ vs
    · rw [backR_in hl hm] at h1
      exact Rb.fr i d a h1 h2
    · rw [backR_out hm] at h1
      exact R.fr i d a (by rw [wipeR_get hm]; exact h1) (by rw [wipe_get hm]; exact h2)
  · have hm : i ∉ vs := fun hm => by rw [hb i hm] at h; cases h
    rw [backR_out hm]
    have := R.bor i a h
    rw [wipe_get hm, wipeR_get hm] at this
    exact this
  · obtain ⟨h1, n1, w⟩ := st b o h n
    refine ⟨h1, fun i z => ?_, w⟩
    by_cases hm : i ∈ vs
    · obtain ⟨⟨c, d, z1⟩, z2⟩ := z
      rw [backR_in hl hm] at z1
      exact n i ⟨⟨c, d, z1⟩, z2⟩
    · obtain ⟨⟨c, d, z1⟩, z2⟩ := z
      rw [backR_out hm] at z1
      exact n1 i (wipe_ownU.mpr ⟨⟨⟨c, d, z1⟩, z2⟩, hm⟩)
  · by_cases hm : i ∈ vs
    · rw [backR_in hl hm]; exact h
    · rw [backR_out hm]
      have := lk i b d (by rw [wipeR_get hm]; exact h)
      rw [wipeR_get hm] at this
      exact this
/-- an object that no slot bears, changed -/
theorem mut_tmp (R : Rel T σ H ρ W) {a : Addr} {o o' : HO} {d : D} (ha : H a = some o) (wa : W a) (no : ∀ i, ¬ OwnA σ ρ i a) (q : RepO T.K H W o' d) : Rel T σ (upd H a o') ρ W := by
  have ad : Adv H W (upd H a o') W := fun b u e w => ⟨by rw [upd_ne (fun z => w (by rw [z]; exact wa))]; exact e, w⟩
  refine ⟨R.len, fun i s e => ?_, R.sep, fun x w => ?_, R.fr, fun x h => R.fzk x ?_, R.bor⟩
  · obtain ⟨v, e1, z⟩ := R.at_ i s e
    refine ⟨v, e1, ?_⟩
    cases s with
    | val d => obtain ⟨v, e2, r⟩ := z; exact ⟨v, e2, r.adv R.wl ad⟩
    | brz d => obtain ⟨v, e2, r⟩ := z; exact ⟨v, e2, r.adv R.wl ad⟩
    | own b d =>
      obtain ⟨c, ob, rfl, e3, w, r⟩ := z
      have ne : c ≠ a := fun z => no i (by rw [← z]; exact ⟨.inl ⟨b, d, e⟩, e1⟩)
      exact ⟨c, ob, rfl, by rw [upd_ne ne]; exact e3, w, r.adv R.wl ad⟩
    | lck b d =>
      obtain ⟨c, ob, rfl, e3, w, r⟩ := z
      have ne : c ≠ a := fun z => no i (by rw [← z]; exact ⟨.inr ⟨b, d, e⟩, e1⟩)
      exact ⟨c, ob, rfl, by rw [upd_ne ne]; exact e3, w, r.adv R.wl ad⟩
  · by_cases e : x = a
    · subst e; exact ⟨o', upd_same, q.mk1⟩
    · obtain ⟨u, hu, m⟩ := R.wl x w
      exact ⟨u, by rw [upd_ne e]; exact hu, m⟩
  · by_cases e : x = a
    · subst e; rw [upd_same] at h; cases h
    · rw [upd_ne e] at h; exact h
end
end Dv

set_option Elab.async false
set_option linter.all false
set_option maxRecDepth 100000
namespace Dv
open PySem PySem.Spec PyProof.Rows L2

abbrev Z0 : WX := fun _ _ _ _ => False
def tCl (X : Cx) (T : Tc) (F : Fn) (Z : WX) (o : To) : TT := fun σ H Q => ∃ ρ W, Rel T σ H ρ W ∧ Post X Z (evc F o ρ) σ H ρ fun b ρ' => ∀ H' W', Go T σ H ρ W H' ρ' W' → Q b H'
/-- a comprehension's turn -/
noncomputable def turnF (F : Fn) (elt : Ex) (tg : Tg) (ifs : To) (own : List Nat) : D → Env' → Rs (Option D × Env') := fun d ρ1 => (asgT tg d (wipeR ρ1 own)).bind fun ρ2 => (evc F ifs ρ2).quiet.bind fun c => match c.1 with
  | true => (ev F elt c.2).quiet.bind fun p => (Rs.of (toD p.1 p.2)).bind fun y => .ok (some y.1, y.2)
  | false => .ok (none, c.2)
def tgs : Tg → List Nat
  | .nm i => [i]
  | .tp l => l
section
variable {X : Cx} {Z : WX} {T : Tc} {F : Fn} {σ σ' : Sg} {H H0 H1 H2 H' : Hp} {ρ ρ1 ρ2 ρ' ρf ρb ρq : Env'} {W W1 W2 W' : AS} {K : PySem.W.Frag} {ds : List D}
theorem s_cnone : PTs X [] (tCl X T F Z .none) := by
  refine ⟨fun pins s σ H Q I q => pts_nil.run pins s σ H Q I ?_⟩
  obtain ⟨ρ, W, R, h⟩ := q
  exact h H W (Go.refl R)
theorem s_csome {t : Tx} {c : Expr} (h : PT X c (tT X T F Z t)) : PTs X [c] (tCl X T F Z (.some t)) := pts_one h
theorem bind_ok {α β : Type} {r : Rs α} {f : α → Rs β} {b : β} (h : r.bind f = .ok b) : ∃ a, r = .ok a ∧ f a = .ok b := by
  cases r with
  | ok a => exact ⟨a, rfl, h⟩
  | err e => cases h
  | bad => cases h
theorem quiet_ok {α : Type} {r : Rs α} {a : α} (h : r.quiet = .ok a) : r = .ok a := by
  cases r with
  | ok b => exact h
  | err e => cases h
  | bad => cases h
/-- the heap of a step's items -/
theorem Lay.go (R : Rel T σ H ρ W) (l : Lay H H') : Go T σ H ρ W H' ρ W := by
  rcases l with rfl | ⟨a, vs, n, rfl⟩
  · exact Go.refl R
  · exact Go.tup R n
theorem drop_cons {α : Type} {l : List α} {i : Nat} {d : α} (h : l[i]? = some d) : l.drop i = d :: l.drop (i + 1) := by
  obtain ⟨hi, e⟩ := List.getElem?_eq_some_iff.mp h
  rw [List.drop_eq_getElem_cons hi, e]

structure CInv (T : Tc) (F : Fn) (elt : Ex) (tg : Tg) (ifs : To) (own : List Nat) (l fin : List D) (ρe : Env') (σ : Sg) (H1 : Hp) (ρb : Env') (W1 : AS) (Dl : Addr) (i : Nat) (H : Hp) : Prop where
  ex : ∃ (ρi : Env') (Wi : AS) (acc rest : List D) (va : List V), Rel T (wipe σ own) H (wipeR ρi own) Wi ∧ Step (wipe σ own) H1 (wipeR ρb own) W1 (wipe σ own) H (wipeR ρi own) Wi ∧ MonS (wipe σ own) (wipeR ρb own) (wipe σ own) (wipeR ρi own) ∧
    (∀ a, H a = none → H1 a = none) ∧ Lk (wipeR ρb own) (wipeR ρi own) ∧ H Dl = some (.lst va) ∧ Wi Dl ∧ (∀ j, ¬ OwnA (wipe σ own) (wipeR ρi own) j Dl) ∧ RepDs T.K H Wi va acc ∧
    mapR (turnF F elt tg ifs own) (l.drop i) ρi = .ok (rest, ρe) ∧ acc ++ rest = fin

theorem GoS.keepD {σ1 σ2 : Sg} (g : GoS T σ1 H1 ρ1 W1 σ2 H2 ρ2 W2) (m : MonS σ1 ρ1 σ2 ρ2) {a : Addr} {o : HO} (e : H1 a = some o) (w : W1 a) (n : ∀ j, ¬ OwnA σ1 ρ1 j a) : H2 a = some o ∧ W2 a ∧ ∀ j, ¬ OwnA σ2 ρ2 j a := by
  obtain ⟨h1, _, h3⟩ := g.step a o e fun i z => n i z.a
  exact ⟨h1, h3.mpr w, fun j z => n j (m j a z)⟩

/-- one turn -/
theorem comp_turn {elt : Ex} {tg : Tg} {ifs : To} {own : List Nat} {l fin : List D} {ρe : Env'} {Dl : Addr} {i : Nat} {d : D} (hb : ∀ i ∈ own, T.bm i = none) (htg : ∀ i ∈ tgs tg, i ∈ own) (hz : fin.length < sizeLine)
    (C : CInv T F elt tg ifs own l fin ρe σ H1 ρb W1 Dl i H) (hd : l[i]? = some d) {x : V} (ly : Lay H H') (rx : ∀ Wi ρi, Rel T (wipe σ own) H (wipeR ρi own) Wi → Step (wipe σ own) H1 (wipeR ρb own) W1 (wipe σ own) H (wipeR ρi own) Wi → RepD T.K H' Wi x d) {Nx : Hp → Prop}
    (hN : ∀ H, CInv T F elt tg ifs own l fin ρe σ H1 ρb W1 Dl (i + 1) H → Nx H) (nD : H1 Dl = none) :
    gT T.K tg x (wipe σ own) H' fun σ2 H2 => wipe σ2 own = wipe σ own ∧ tCl X T F Z0 ifs σ2 H2 fun b H3 =>
      if b = true then tE X T F Z0 elt σ2 H3 fun y H4 => ∃ acc, H4 Dl = some (.lst acc) ∧ acc.length < sizeLine ∧ Nx (upd H4 Dl (.lst (acc ++ [y]))) else Nx H3 := by
  obtain ⟨ρi, Wi, acc, rest, va, R, S, M, dom, lk, hD, wD, noD, ra, em, ef⟩ := C.ex
  have rd := rx Wi ρi R S
  rw [drop_cons hd] at em
  obtain ⟨⟨o, ρ3⟩, e1, em⟩ := bind_ok em
  obtain ⟨⟨rs, ρ4⟩, e2, em⟩ := bind_ok em
  cases em
  obtain ⟨ρ2, e3, e1⟩ := bind_ok e1
  obtain ⟨⟨c, ρ5⟩, e4, e1⟩ := bind_ok e1
  have e4 := quiet_ok e4
  have g0 := Lay.go R ly
  refine gT_ok g0.rel e3 rd fun σ2 g1 m1 same => ⟨?_, ?_⟩
  · have hl : σ2.length = σ.length := by
      have h1 := g1.rel.len
      have h2 := g0.rel.len
      rw [wipe_length] at h2
      have : ρ2.length = (wipeR ρi own).length := by
        have : ∀ {t : Tg} {d : D} {ρ ρ' : Env'}, asgT t d ρ = .ok ρ' → ρ'.length = ρ.length := by
          have p1 : ∀ {i : Nat} {d : D} {ρ ρ' : Env'}, putV i d ρ = .ok ρ' → ρ'.length = ρ.length := fun {i d ρ ρ'} e => by
            unfold putV at e
            split at e
            · cases e; simp
            · cases e
          have p2 : ∀ {is : List Nat} {ds : List D} {ρ ρ' : Env'}, putVs is ds ρ = .ok ρ' → ρ'.length = ρ.length := by
            intro is
            induction is with
            | nil => intro ds ρ ρ' e; cases ds <;> cases e; rfl
            | cons i is ih =>
              intro ds ρ ρ' e
              cases ds with
              | nil => cases e
              | cons d ds =>
                obtain ⟨ρ1, e1, e2⟩ := bind_ok (show (putV i d ρ).bind (putVs is ds) = .ok ρ' from e)
                rw [ih e2, p1 e1]
          intro t d ρ ρ' e
          unfold asgT at e
          split at e
          · exact p1 e
          · exact p2 e
          · cases e
        exact this e3
      rw [← h1, this, h2]
    rw [← wipe_wipe (σ := σ)]
    refine wipe_eq (by rw [wipe_length, hl]) fun j hj => same j ?_
    cases tg with
    | nm k => exact fun z => hj (by rw [z]; exact htg k (by simp [tgs]))
    | tp l => exact fun z => hj (htg j z)
  · have hlw : wipe σ2 own = wipe σ own → True := fun _ => trivial
    refine ⟨ρ2, Wi, g1.rel, ?_⟩
    rw [e4]
    intro H3 W3 g2
    have gS := (g0.s.trans g1).trans g2.s
    have mS : MonS (wipe σ own) (wipeR ρi own) σ2 ρ5 := fun j a h => m1 j a (g2.mon j a h)
    obtain ⟨hD3, wD3, noD3⟩ := gS.keepD mS hD wD noD
    have weq : wipe σ2 own = wipe σ own := by
      rw [← wipe_wipe (σ := σ)]
      have hl : σ2.length = (wipe σ own).length := by
        have h1 := g1.rel.len
        have h2 := g0.rel.len
        have : ρ2.length = (wipeR ρi own).length := by
          have p1 : ∀ {i : Nat} {d : D} {ρ ρ' : Env'}, putV i d ρ = .ok ρ' → ρ'.length = ρ.length := fun {i d ρ ρ'} e => by
            unfold putV at e
            split at e
            · cases e; simp
            · cases e
          have p2 : ∀ {is : List Nat} {ds : List D} {ρ ρ' : Env'}, putVs is ds ρ = .ok ρ' → ρ'.length = ρ.length := by
            intro is
            induction is with
            | nil => intro ds ρ ρ' e; cases ds <;> cases e; rfl
            | cons i is ih =>
              intro ds ρ ρ' e
              cases ds with
              | nil => cases e
              | cons d ds =>
                obtain ⟨ρ1, e1, e2⟩ := bind_ok (show (putV i d ρ).bind (putVs is ds) = .ok ρ' from e)
                rw [ih e2, p1 e1]
          unfold asgT at e3
          split at e3
          · exact p1 e3
          · exact p2 e3
          · cases e3
        omega
      refine wipe_eq hl fun j hj => same j ?_
      cases tg with
      | nm k => exact fun z => hj (by rw [z]; exact htg k (by simp [tgs]))
      | tp l => exact fun z => hj (htg j z)
    cases c with
    | false =>
      rw [if_neg (by simp)]
      cases e1
      refine hN H3 ⟨ρ5, W3, acc, rs, va, ?_, ?_, ?_, fun a h => dom a (gS.dom a h), ?_, hD3, wD3, ?_, ra.adv R.wl (gS.step.adv R), e2, ef⟩
      · rw [← weq]; exact wipe_rel gS.rel hb
      · rw [← weq]; rw [weq] ; exact S.trans (gS.step.trans (by rw [← weq]; exact wipe_step))
      · have := M.trans (mS.trans (wipe_mon (vs := own)))
        rw [weq] at this; exact this
      · intro j b x h
        have hn : j ∉ own := fun z => wipeR_in z h
        have h1 := (gS.lk j b x (lk j b x h)).1
        rw [wipeR_get hn]; exact h1
      · intro j z
        rw [← weq] at z
        exact noD3 j (wipe_own.mp z).1
    | true =>
      rw [if_pos rfl]
      obtain ⟨⟨p, ρ6⟩, e5, e1⟩ := bind_ok e1
      have e5 := quiet_ok e5
      obtain ⟨⟨y, ρ7⟩, e6, e1⟩ := bind_ok e1
      cases e1
      refine ⟨ρ5, W3, g2.rel, ?_⟩
      rw [e5]
      intro v H4 W4 o4
      obtain ⟨W5, g5, r5⟩ := o4.data (of_ok e6)
      have gS5 := gS.trans g5.s
      have mS5 : MonS (wipe σ own) (wipeR ρi own) σ2 ρ7 := fun j a h => mS j a (g5.mon j a h)
      obtain ⟨hD5, wD5, noD5⟩ := gS5.keepD mS5 hD wD noD
      have ra5 : RepDs T.K H4 W5 va acc := ra.adv R.wl (gS5.step.adv R)
      have lenv : va.length < sizeLine := by
        rw [ra.length]
        have := congrArg List.length ef
        rw [List.length_append] at this
        omega
      refine ⟨va, hD5, lenv, hN _ ?_⟩
      have q5 : RepO T.K H4 W5 (.lst (va ++ [v])) (.lst (acc ++ [y])) := ⟨_, rfl, ra5.append (RepDs.one r5)⟩
      have R6 := mut_tmp gS5.rel hD5 wD5 noD5 q5
      have ad6 : Adv H4 W5 (upd H4 Dl (.lst (va ++ [v]))) W5 := fun b u e w => ⟨by rw [upd_ne (fun z => w (by rw [z]; exact wD5))]; exact e, w⟩
      refine ⟨ρ7, W5, acc ++ [y], rs, va ++ [v], ?_, ?_, ?_, fun a h => ?_, ?_, upd_same, wD5, ?_, (ra5.append (RepDs.one r5)).adv gS5.rel.wl ad6, e2, by rw [List.append_assoc]; exact ef⟩
      · rw [← weq]; exact wipe_rel R6 hb
      · intro b u hbu nb
        have ne : b ≠ Dl := fun z => by rw [z, nD] at hbu; cases hbu
        obtain ⟨h1, n1, w1⟩ := S b u hbu nb
        obtain ⟨h2, n2, w2⟩ := gS5.step b u h1 n1
        refine ⟨by rw [upd_ne ne]; exact h2, fun j z => ?_, w2.trans w1⟩
        rw [← weq] at z
        exact n2 j (wipe_ownU.mp z).1
      · have := M.trans (mS5.trans (wipe_mon (vs := own)))
        rw [weq] at this; exact this
      · by_cases ea : a = Dl
        · subst ea; rw [upd_same] at h; cases h
        · rw [upd_ne ea] at h; exact dom a (gS5.dom a h)
      · intro j b x h
        have hn : j ∉ own := fun z => wipeR_in z h
        have h1 := (gS5.lk j b x (lk j b x h)).1
        rw [wipeR_get hn]; exact h1
      · intro j z
        rw [← weq] at z
        exact noD5 j (wipe_own.mp z).1
/-- a comprehension's reading -/
theorem comp_tLc (tk : T.K = X.K) {elt : Ex} {tg : Tg} {it : Ie} {ifs : To} {own : List Nat} (hb : ∀ i ∈ own, T.bm i = none) (htg : ∀ i ∈ tgs tg, i ∈ own) {Q : VK} (h : tE X T F Z (.comp elt tg it ifs own) σ H Q) :
    tLc (tI X T F Z it) (gT X.K tg) (tCl X T F Z0 ifs) (tE X T F Z0 elt) own σ H Q := by
  obtain ⟨ρ, W, R, h⟩ := h
  refine ⟨ρ, W, R, (Post.bind h).imp fun lp ρ1 h J H1 W1 g1 feed Dl nD => ?_⟩
  obtain ⟨l, p⟩ := lp
  dsimp only at h feed
  -- the turns
  have noerr : ∀ {ds : List D} {ρ : Env'}, NoErr (mapR (turnF F elt tg ifs own) ds ρ) := by
    intro ds
    induction ds with
    | nil => intro ρ; exact .ok
    | cons d ds ih =>
      intro ρ
      refine .bind ?_ fun _ => .bind ih fun _ => .ok
      refine .bind .asgT fun _ => .bind .quiet fun c => ?_
      split
      · exact .bind .quiet fun _ => .bind .of fun _ => .ok
      · exact .ok
  obtain ⟨⟨fin, ρe⟩, em, h⟩ := Post.val noerr h
  obtain ⟨ρ', eu, h⟩ := Post.val .unlock h
  obtain ⟨hz, h⟩ := Post.need h
  have gl := lock_go g1.rel p
  have Rb := gl.rel
  -- the new list is laid
  have o1 := Out.own Rb nD (d := .lst []) (o := .lst []) ⟨[], rfl, rfl⟩
  have nO : ∀ j, ¬ OwnA (wipe σ own) (wipeR (lockP p ρ1).2 own) j Dl := fun j z => by
    obtain ⟨_, u, e, _⟩ := Rb.ownA (wipe_own.mp z).1
    rw [nD] at e; cases e
  have idem : ∀ {ρ : Env'}, wipeR (wipeR ρ own) own = wipeR ρ own := fun {ρ} => by
    apply List.ext_getElem?
    intro i
    by_cases hm : i ∈ own
    · have h1 : ∀ ρ : Env', ρ.length = (wipeR ρ own).length := fun ρ => (wipeR_len own).symm
      have key : ∀ (ρ : Env') (s : S), (wipeR ρ own)[i]? ≠ some (some s) := fun ρ s => wipeR_in hm
      have a1 : (wipeR (wipeR ρ own) own)[i]? = if i < ρ.length then some none else none := by
        by_cases z : i < ρ.length
        · rw [if_pos z]
          have hl : i < (wipeR (wipeR ρ own) own).length := by rw [wipeR_len, wipeR_len]; exact z
          rw [List.getElem?_eq_getElem hl]
          cases q : (wipeR (wipeR ρ own) own)[i] with
          | none => rfl
          | some s => exact absurd (by rw [List.getElem?_eq_getElem hl, q]) (key (wipeR ρ own) s)
        · rw [if_neg z, List.getElem?_eq_none (by rw [wipeR_len, wipeR_len]; omega)]
      have a2 : (wipeR ρ own)[i]? = if i < ρ.length then some none else none := by
        by_cases z : i < ρ.length
        · rw [if_pos z]
          have hl : i < (wipeR ρ own).length := by rw [wipeR_len]; exact z
          rw [List.getElem?_eq_getElem hl]
          cases q : (wipeR ρ own)[i] with
          | none => rfl
          | some s => exact absurd (by rw [List.getElem?_eq_getElem hl, q]) (key ρ s)
        · rw [if_neg z, List.getElem?_eq_none (by rw [wipeR_len]; omega)]
      rw [a1, a2]
    · rw [wipeR_get hm]
  have start : CInv T F elt tg ifs own l fin ρe σ H1 (lockP p ρ1).2 W1 Dl 0 (upd H1 Dl (.lst [])) := by
    refine ⟨wipeR (lockP p ρ1).2 own, (fun x => W1 x ∨ x = Dl), [], fin, [], ?_, ?_, fun _ _ z => (by rw [idem] at z; exact z), o1.go.dom, by rw [idem]; exact .refl, upd_same, .inr rfl, by rw [idem]; exact nO, rfl, em, rfl⟩
    · rw [idem]; exact wipe_rel o1.go.rel hb
    · rw [idem]
      intro b u hbu nb
      have ne : b ≠ Dl := fun z => by rw [z, nD] at hbu; cases hbu
      exact ⟨by rw [upd_ne ne]; exact hbu, nb, ⟨fun z => z.elim id fun e => absurd e ne, .inl⟩⟩
  have tkk : gT X.K tg = gT T.K tg := by rw [tk]
  refine ⟨fun i m H => m = l.length - i ∧ i ≤ l.length ∧ CInv T F elt tg ifs own l fin ρe σ H1 (lockP p ρ1).2 W1 Dl i H, ⟨_, rfl, Nat.zero_le _, start⟩, ?_⟩
  rintro i m H2 ⟨rfl, hi, C⟩
  have feedAt : ∀ Wi ρi, Rel T (wipe σ own) H2 (wipeR ρi own) Wi → Step (wipe σ own) H1 (wipeR (lockP p ρ1).2 own) W1 (wipe σ own) H2 (wipeR ρi own) Wi →
      (∀ (i : Nat) (d : D), l[i]? = some d → J.go i H2 ∧ ∀ x H3, J.yld i H2 x H3 → Lay H2 H3 ∧ RepD T.K H3 Wi x d) ∧ J.stop l.length H2 := fun Wi ρi Ri Si =>
    feed _ _ _ _ Ri (Step.trans (σ := σ) (ρ := (lockP p ρ1).2) (wipe_step (vs := own)) Si)
  obtain ⟨ρi, Wi, acc, rest, va, Ri, Si, Mi, domi, lki, hD, wD, noD, ra, emi, ef⟩ := id C.ex
  by_cases hlt : i < l.length
  · have hd : l[i]? = some l[i] := List.getElem?_eq_getElem hlt
    refine .inr ⟨((feedAt Wi ρi Ri Si).1 i _ hd).1, CInv T F elt tg ifs own l fin ρe σ H1 (lockP p ρ1).2 W1 Dl (i + 1), fun H' c => ⟨l.length - (i + 1), by omega, rfl, hlt, c⟩, fun x H' y => ?_⟩
    rw [tkk]
    exact comp_turn hb htg hz C hd (((feedAt Wi ρi Ri Si).1 i _ hd).2 x H' y).1 (fun W' ρ' R' S' => (((feedAt W' ρ' R' S').1 i _ hd).2 x H' y).2) (fun _ c => c) nD
  · have e : i = l.length := by omega
    subst e
    refine .inl ⟨(feedAt Wi ρi Ri Si).2, ?_⟩
    rw [List.drop_length] at emi
    cases emi
    rw [List.append_nil] at ef
    subst ef
    obtain ⟨Rf, Sf, Mf, Lf⟩ := back_rel Rb hb Ri Si Mi domi lki
    have Ru := unlock_rel Rf eu
    obtain ⟨ow, _, _⟩ := unlock_own (σ := σ) eu
    have Su := unlock_step g1.rel Sf eu fun _ _ _ _ => rfl
    have Lu := unlock_lk Lf eu
    have noD2 : ∀ j, ¬ OwnA σ ρ' j Dl := fun j z => by
      have z1 := Mf j Dl ((ow j Dl).mp z)
      obtain ⟨_, u, e, _⟩ := Rb.ownA z1
      rw [nD] at e; cases e
    refine h _ _ Wi ⟨⟨Ru, g1.step.trans Su, fun j a z => g1.mon j a (gl.mon j a (Mf j a ((ow j a).mp z))), fun a z => g1.dom a (domi a z), g1.lk.trans Lu⟩, ⟨Dl, _, rfl, hD, wD, noD2, Rb.fzk Dl nD, _, rfl, ra⟩, fun _ _ a e => by cases e; exact g1.dom _ nD⟩
end
end Dv

set_option Elab.async false
set_option linter.all false
set_option maxRecDepth 100000
namespace Dv
open PySem PySem.Spec PyProof.Rows L2

/-! ### the text is what the tree says -/
/-- what is known of a module: free names, names of built-in functions, defs (parameters, least arguments); the number of parameters of the def at hand -/
structure Gn where
  free : List Str
  bt : List (Str × String)
  fs : List (Str × Nat × Nat)
structure Env1 (X : Cx) (T : Tc) (F : Fn) (Z : WX) (G : Gn) (np : Nat) : Prop where
  tk : T.K = X.K
  calm : X.calm = true
  nd : X.N.Nodup
  hu : X.A.units + 65 < cLine
  glo : ∀ x d, F.glo x = some d → ∃ u v, X.mg x = some u ∧ RelV v u ∧ ∀ H W, RepD X.K H W v d
  free : ∀ x ∈ G.free, X.mg x = none
  bt : ∀ p ∈ G.bt, X.mg p.1 = some (.builtin p.2)
  fs : ∀ p ∈ G.fs, Callee X F p.1 p.2.1 p.2.2
  tz : Takes X Z
  bm : ∀ i a, T.bm i = some a → i < np
def isVis (sc : Scope) (x : Str) : Bool := match sc.names.lookup x with
  | some .local => true
  | some .cell => true
  | some .free => true
  | _ => false
def isLoc (sc : Scope) (x : Str) : Bool := match sc.names.lookup x with
  | some .local => true
  | some .cell => true
  | _ => false
def isGl (sc : Scope) (x : Str) : Bool := match sc.names.lookup x with
  | some .globalImplicit => true
  | _ => false
def okName (x : Str) : Bool := !(x == ("__debug__" : Str)) && !(x == ("__classdict__" : Str)) && !(x == ("__name__" : Str))
def notStar : Expr → Bool
  | .Starred _ _ => false
  | _ => true
def notSlice : Expr → Bool
  | .Slice _ _ _ _ => false
  | _ => true
def notSet : Expr → Bool
  | .Set _ _ _ => false
  | _ => true
/-- an expression whose test is its value's truth -/
def plainTest : Expr → Bool
  | .UnaryOp .Not _ _ => false
  | .BoolOp _ _ _ => false
  | .IfExp _ _ _ _ => false
  | .Compare _ _ _ _ => false
  | _ => true
def notSuper : Expr → Bool
  | .Call _ _ _ _ => false
  | _ => true
def isName (x : Str) : Expr → Bool
  | .Name y _ => decide (x = y)
  | _ => false
def cstOk : D → Const → Bool
  | .int i, .int j => decide (i = j)
  | .bl b, .bool c => b == c
  | .non, .none => true
  | .str x, .str y => decide (x = y)
  | _, _ => false
def opEq : Operator → Operator → Bool
  | .Add, .Add => true | .Sub, .Sub => true | .Mult, .Mult => true | .FloorDiv, .FloorDiv => true | .Mod, .Mod => true | .Pow, .Pow => true | .LShift, .LShift => true
  | _, _ => false
def cmEq : CmpOp → CmpOp → Bool
  | .Eq, .Eq => true | .NotEq, .NotEq => true | .Lt, .Lt => true | .LtE, .LtE => true | .Gt, .Gt => true | .GtE, .GtE => true | .Is, .Is => true | .IsNot, .IsNot => true | .In, .In => true | .NotIn, .NotIn => true
  | _, _ => false
def Bl.nm : Bl → Str
  | .len => "len" | .abs => "abs" | .int => "int" | .tuple => "tuple" | .list => "list" | .all => "all" | .any => "any" | .sum => "sum" | .gcd => "gcd" | .min2 => "min" | .max2 => "max" | .str => "str"
def Ty.sn : Ty → Str
  | .tup => "tuple" | .lst => "list" | .int => "int" | .str => "str" | .bool => "bool"
def ckTg (N : List Str) (sc : Scope) : Tg → Expr → Bool
  | .nm i, .Name x _ => decide (N[i]? = some x) && isLoc sc x
  | .tp l, .Tuple es _ _ => l.length == es.length && (l.zip es).all fun p => match p.2 with
    | .Name x _ => decide (N[p.1]? = some x) && isLoc sc x
    | _ => false
  | _, _ => false

def asCall : Expr → Option (Str × List Expr)
  | .Call (.Name x _) l [] _ => some (x, l)
  | _ => none
def isTup : Expr → Bool
  | .Tuple _ _ _ => true
  | _ => false
def ckB (G : Gn) (b : Bl) (x : Str) : Bool := match b with
  | .gcd => decide ((x, "math.gcd") ∈ G.bt)
  | _ => decide (x ∈ G.free)
mutual
def ckE (G : Gn) (N : List Str) (np : Nat) (sc : Scope) : Ex → Expr → Bool
  | .var i, .Name x _ => decide (N[i]? = some x) && isVis sc x && okName x
  | .cst d, .Constant c _ _ => cstOk d c
  | .glo x, .Name y _ => decide (x = y) && isGl sc x && okName x
  | .bin op a b, .BinOp a' op' b' _ => opEq op op' && ckE G N np sc a a' && ckE G N np sc b b'
  | .neg a, .UnaryOp .USub a' _ => ckE G N np sc a a'
  | .cmp op a b, .Compare a' [op'] [b'] _ => cmEq op op' && notSet b' && ckE G N np sc a a' && ckE G N np sc b b'
  | .chn op o2 a b c, .Compare a' [op', o2'] [b', c'] _ => cmEq op op' && cmEq o2 o2' && notSet c' && ckE G N np sc a a' && ckE G N np sc b b' && ckE G N np sc c c'
  | .and_ l, .BoolOp .And l' _ => !l'.isEmpty && ckEs G N np sc l l'
  | .or_ l, .BoolOp .Or l' _ => !l'.isEmpty && ckEs G N np sc l l'
  | .not_ a, .UnaryOp .Not a' _ => ckE G N np sc a a'
  | .ite c a b, .IfExp c' a' b' _ => ckT G N np sc c c' && ckE G N np sc a a' && ckE G N np sc b b'
  | .tup l, .Tuple l' _ _ => ckEs G N np sc l l'
  | .lst l, .List l' _ => ckEs G N np sc l l'
  | .idx a b, .Subscript a' b' _ => notSlice b' && ckE G N np sc a a' && ckE G N np sc b b'
  | .slc a lo hi, .Subscript a' (.Slice lo' hi' none _) _ => ckE G N np sc a a' && ckO G N np sc lo lo' && ckO G N np sc hi hi'
  | .call f l, .Call (.Name x _) l' [] _ => decide (f = x) && isGl sc x && okName x && (G.fs.any fun p => decide (p.1 = f) && decide (p.2.2 ≤ l'.length) && decide (l'.length ≤ p.2.1)) && ckEs G N np sc l l'
  | .blt b l, .Call (.Name x _) l' [] _ => decide (x = b.nm) && isGl sc x && ckB G b x && !l'.isEmpty && ckEs G N np sc l l'
  | .isi t a, e' => (match asCall e' with
    | some (x, [a', .Name y _]) => decide (x = "isinstance") && isGl sc x && decide (y = t.sn) && isGl sc y && decide (x ∈ G.free) && decide (y ∈ G.free) && notStar a' && ckE G N np sc a a'
    | _ => false)
  | .met m o l, .Call (.Attribute o' x apos) l' [] pos => decide (x = m.nm) && notSuper o' && apos.endLine == pos.line && !l'.isEmpty && decide (l'.length < 28) && ckE G N np sc o o' && ckEs G N np sc l l'
  | .chg m i l, .Call (.Attribute (.Name y _) x apos) l' [] pos => decide (x = m.nm) && decide (N[i]? = some y) && isVis sc y && okName y && apos.endLine == pos.line && decide (l'.length < 28) && (match m, l' with
    | .pop, [] => true
    | .pop, _ => false
    | _, [] => false
    | _, _ => true) && ckEs G N np sc l l'
  | .comp elt tg it ifs own, .ListComp elt' [⟨tg', it', ifs', as⟩] scope _ => decide (as = 0) && ckI G N np sc it it' tg' && notSet it' && blkC N sc scope (own.map fun i => (N.getD i ⟨#[]⟩, i)) && (own.all fun i => decide (np ≤ i)) && ((tgs tg).all fun i => decide (i ∈ own)) &&
      ckTg N scope tg tg' && ckC G N np (relS scope sc) ifs ifs' && ckE G N np (relS scope sc) elt elt'
  | _, _ => false
def ckEs (G : Gn) (N : List Str) (np : Nat) (sc : Scope) : Exs → List Expr → Bool
  | .nil, [] => true
  | .cons e l, e' :: l' => notStar e' && ckE G N np sc e e' && ckEs G N np sc l l'
  | _, _ => false
def ckO (G : Gn) (N : List Str) (np : Nat) (sc : Scope) : Eo → Option Expr → Bool
  | .none, none => true
  | .some e, some e' => ckE G N np sc e e'
  | _, _ => false
def ckT (G : Gn) (N : List Str) (np : Nat) (sc : Scope) : Tx → Expr → Bool
  | .val e, e' => plainTest e' && ckE G N np sc e e'
  | .cmp op a b, .Compare a' [op'] [b'] _ => cmEq op op' && notSet b' && ckE G N np sc a a' && ckE G N np sc b b'
  | .and_ l, .BoolOp .And l' _ => !l'.isEmpty && ckTs G N np sc l l'
  | .or_ l, .BoolOp .Or l' _ => !l'.isEmpty && ckTs G N np sc l l'
  | .not_ t, .UnaryOp .Not t' _ => ckT G N np sc t t'
  | _, _ => false
def ckTs (G : Gn) (N : List Str) (np : Nat) (sc : Scope) : Txs → List Expr → Bool
  | .nil, [] => true
  | .cons e l, e' :: l' => ckT G N np sc e e' && ckTs G N np sc l l'
  | _, _ => false
def ckC (G : Gn) (N : List Str) (np : Nat) (sc : Scope) : To → List Expr → Bool
  | .none, [] => true
  | .some t, [t'] => ckT G N np sc t t'
  | _, _ => false
def ckI (G : Gn) (N : List Str) (np : Nat) (sc : Scope) : Ie → Expr → Expr → Bool
  | .seq e, e', _ => ckE G N np sc e e'
  | .rng a, e', _ => (match asCall e' with
    | some (x, [a']) => decide (x = "range") && isGl sc x && decide (x ∈ G.free) && notStar a' && ckE G N np sc a a'
    | _ => false)
  | .rng2 a b, e', _ => (match asCall e' with
    | some (x, [a', b']) => decide (x = "range") && isGl sc x && decide (x ∈ G.free) && notStar a' && notStar b' && ckE G N np sc a a' && ckE G N np sc b b'
    | _ => false)
  | .enm e, e', tg' => isTup tg' && (match asCall e' with
    | some (x, [a']) => decide (x = "enumerate") && isGl sc x && decide (x ∈ G.free) && notStar a' && ckE G N np sc e a'
    | _ => false)
  | .zip l, e', tg' => isTup tg' && (match asCall e' with
    | some (x, l') => decide (x = "zip") && isGl sc x && decide (x ∈ G.free) && l'.length == 2 && ckEs G N np sc l l'
    | _ => false)
end
end Dv

set_option Elab.async false
set_option linter.all false
set_option maxRecDepth 100000
namespace Dv
open PySem PySem.Spec PyProof.Rows L2

section
variable {X : Cx} {Z : WX} {T : Tc} {F : Fn} {G : Gn} {np : Nat} {σ σ' : Sg} {H H0 H1 H2 H' : Hp} {ρ ρ1 ρ2 ρ' ρf ρb ρq : Env'} {W W1 W2 W' : AS} {K : PySem.W.Frag} {ds : List D} {sc : Scope} {N : List Str}
theorem and2 {a b : Bool} (h : (a && b) = true) : a = true ∧ b = true := Bool.and_eq_true_iff.mp h
theorem not_f {a : Bool} (h : (!a) = true) : a = false := by cases a <;> simp_all
theorem vis_of {x : Str} (h : isVis sc x = true) : Vis sc x := by
  unfold isVis at h
  split at h <;> first | (rename_i e; exact .inl e) | (rename_i e; exact .inr (.inl e)) | (rename_i e; exact .inr (.inr e)) | cases h
theorem gl_of {x : Str} (h : isGl X.env.scope x = true) : Gl X x := by
  unfold isGl at h
  split at h
  · rename_i e; exact e
  · cases h
theorem name_of {x : Str} (h : okName x = true) : (x == ("__debug__" : Str)) = false ∧ (x == ("__classdict__" : Str)) = false ∧ x ≠ "__name__" := by
  obtain ⟨h1, h2⟩ := and2 h
  obtain ⟨h3, h4⟩ := and2 h1
  exact ⟨not_f h3, not_f h4, fun e => by rw [e] at h2; exact absurd (not_f h2) (by decide +kernel)⟩
theorem star_of {a : Expr} {l : List Expr} {env : Env} (h : notStar a = true) : starEach (a :: l) env = (false, eval a env) :: starEach l env := by
  cases a <;> first | rfl | cases h
theorem stars_of : ∀ {l : List Expr} {env : Env}, (∀ a ∈ l, notStar a = true) → starEach l env = l.map fun a => (false, eval a env)
  | [], _, _ => rfl
  | a :: l, env, h => by rw [star_of (h a List.mem_cons_self), stars_of fun b hb => h b (List.mem_cons_of_mem _ hb)]; rfl
theorem plain_of {l : List Expr} {env : Env} {pos : Pos} (h : ∀ a ∈ l, notStar a = true) : (backTo pos (starEach l env)).any (·.1) = false := by
  rw [stars_of h]
  unfold backTo
  induction l with
  | nil => rfl
  | cons a l ih =>
    rw [List.map_cons, List.map_cons, List.any_cons, ih fun b hb => h b (List.mem_cons_of_mem _ hb)]
    rfl
theorem few_of {l : List Expr} {env : Env} {pos : Pos} (h : ∀ a ∈ l, notStar a = true) (hl : l.length < 28) :
    ((backTo pos (starEach l env)).all (fun x => !x.1) && (backToKw pos (keywordEach [] env)).all (fun x => x.1.isSome) && decide (l.length + ([] : List Keyword).length + (if ([] : List Keyword).isEmpty then 0 else 1) < 30)) = true := by
  have h1 : (backTo pos (starEach l env)).all (fun x => !x.1) = true := by
    have := plain_of (env := env) (pos := pos) h
    rw [List.all_eq_not_any_not]
    simp only [Bool.not_not]
    rw [this]; rfl
  rw [h1]
  have h2 : (backToKw pos (keywordEach [] env)).all (fun x => x.1.isSome) = true := rfl
  rw [h2]
  simp
  omega
theorem ckEs_star : ∀ {l : Exs} {l' : List Expr}, ckEs G N np sc l l' = true → ∀ a ∈ l', notStar a = true
  | .nil, [], _, _, h => by cases h
  | .cons e l, e' :: l', h, a, ha => by
    obtain ⟨h1, h2⟩ := and2 h
    obtain ⟨h3, h4⟩ := and2 h1
    rcases List.mem_cons.mp ha with rfl | ha
    · exact h3
    · exact ckEs_star h2 a ha
  | .nil, _ :: _, h, _, _ => by cases h
  | .cons _ _, [], h, _, _ => by cases h
theorem evs_length : ∀ {l : Exs} {l' : List Expr} {ρ : Env'} {ps : List P} {ρ' : Env'}, ckEs G N np sc l l' = true → evs F l ρ = .ok (ps, ρ') → ps.length = l'.length
  | .nil, [], _, _, _, _, e => by cases e; rfl
  | .cons e l, e' :: l', ρ, ps, ρ', h, q => by
    obtain ⟨h1, h2⟩ := and2 h
    obtain ⟨⟨p, ρ1⟩, e1, q⟩ := bind_ok (show (ev F e ρ).bind (fun r => (evs F l r.2).bind fun q => .ok (r.1 :: q.1, q.2)) = .ok (ps, ρ') from q)
    obtain ⟨⟨ps2, ρ2⟩, e2, q⟩ := bind_ok q
    cases q
    rw [List.length_cons, List.length_cons, evs_length h2 e2]
  | .nil, _ :: _, _, _, _, h, _ => by cases h
  | .cons _ _, [], _, _, _, h, _ => by cases h
theorem true_of {a : Expr} {env : Env} (h : plainTest a = true) : ∀ whole, isTrue a env whole = (do let v ← whole; standAt a.pos; holding [v] (truthy v)) := by
  cases a with
  | UnaryOp op x p => cases op <;> first | (intro _; rfl) | cases h
  | _ => first | (intro _; rfl) | cases h
theorem base_of {a : Expr} {n : Str} {env : Env} (h : notSuper a = true) : attributeBase a n env (eval a env) = eval a env := by
  cases a <;> first | rfl | cases h
theorem marks_of {b : Expr} {op : CmpOp} (h : notSet b = true) : behindInMarks op b = false := by
  cases b <;> first | rfl | cases h
theorem fold_of {a : Expr} {env : Env} (h : notSet a = true) : ∀ x, foldedSetIterable a env x = pure x := by
  cases a <;> first | (intro _; rfl) | cases h
theorem ix_of {b : Expr} (h : notSlice b = true) : PlainIx b := by
  cases b <;> first | (intro _ _; rfl) | cases h
theorem cm_of {a b : CmpOp} (h : cmEq a b = true) : a = b := by cases a <;> cases b <;> first | rfl | cases h
theorem op_of {a b : Operator} (h : opEq a b = true) : a = b := by cases a <;> cases b <;> first | rfl | cases h

/-- a comprehension's block -/
theorem Env1.blk (E : Env1 X T F Z G np) (s : Shared) (H : Hp) (scope : Scope) (cenv : Env) (fp : List Addr) : Env1 (X.blk s H scope cenv fp) T F Z0 G np :=
  ⟨E.tk, E.calm, E.nd, E.hu, E.glo, E.free, E.bt, fun p hp => ⟨(E.fs p hp).ex⟩, takes0, E.bm⟩
/-- the targets -/
theorem tg_ok (hc : X.calm = true) (hN : X.N.Nodup) {tg : Tg} {tg' : Expr} (hl : ∀ x, isLoc sc x = true → Loc X.env.scope x ∧ (X.fn x = true ∨ X.env.scope.names.lookup x = some .local)) (h : ckTg X.N sc tg tg' = true) : PG X tg' (gT X.K tg) := by
  cases tg with
  | nm i =>
    cases tg' with
    | Name x pos =>
      obtain ⟨h1, h2⟩ := and2 h
      obtain ⟨a, b⟩ := hl x h2
      exact pg_name hN (of_decide_eq_true h1) a b
    | _ => cases h
  | tp l =>
    cases tg' with
    | Tuple es k pos =>
      obtain ⟨h1, h2⟩ := and2 h
      have key : ∀ {l : List Nat} {es : List Expr}, l.length = es.length → ((l.zip es).all fun p => match p.2 with
          | .Name x _ => decide (X.N[p.1]? = some x) && isLoc sc x
          | _ => false) = true → PGs X es (gNames l) ∧ (assignEach es X.env).length = l.length ∧ (assignEach es X.env).findIdx? (·.1) = none := by
        intro l
        induction l with
        | nil =>
          intro es e _
          cases es with
          | nil => exact ⟨pgs_nil, rfl, rfl⟩
          | cons _ _ => cases e
        | cons i l ih =>
          intro es e h
          cases es with
          | nil => cases e
          | cons a es =>
            rw [List.zip_cons_cons, List.all_cons] at h
            obtain ⟨h1, h2⟩ := and2 h
            obtain ⟨q1, q2, q3⟩ := ih (by simpa using e) h2
            cases a with
            | Name x p =>
              obtain ⟨h3, h4⟩ := and2 h1
              obtain ⟨a, b⟩ := hl x h4
              refine ⟨pgs_cons (pg_name hN (of_decide_eq_true h3) a b) q1, ?_, ?_⟩
              · show (assignEach es X.env).length + 1 = l.length + 1
                rw [q2]
              · show ((false, _) :: assignEach es X.env).findIdx? (·.1) = none
                rw [List.findIdx?_cons, q3]
                rfl
            | _ => cases h1
      obtain ⟨q1, q2, q3⟩ := key (by simpa using h1) h2
      exact pg_tup hc q1 q2 q3
    | _ => cases h
theorem bl_name (b : Bl) (ng : b ≠ .gcd) : (∃ id, b.f = .builtin id ∧ bootBuiltins b.nm = some (.builtin id)) ∨ ∃ t, b.f = .type t ∧ bootBuiltins b.nm = some (.type t) := by
  cases b with
  | gcd => exact absurd rfl ng
  | int => exact .inr ⟨_, rfl, by decide +kernel⟩
  | tuple => exact .inr ⟨_, rfl, by decide +kernel⟩
  | list => exact .inr ⟨_, rfl, by decide +kernel⟩
  | str => exact .inr ⟨_, rfl, by decide +kernel⟩
  | _ => exact .inl ⟨_, rfl, by decide +kernel⟩
theorem bl_ok_name (b : Bl) : okName b.nm = true := by
  cases b <;> decide +kernel
theorem ty_ok_name (b : Ty) : okName b.sn = true := by cases b <;> decide +kernel
theorem ty_boot (b : Ty) : bootBuiltins b.sn = some (.type b.nm) := by cases b <;> decide +kernel
theorem Mm.facts : ∀ m : Mm, Slot "list" m.nm m.id ∧ typeOf (.builtin m.id) = pure (.type "method_descriptor") := fun m => by
  cases m with
  | append => exact ⟨PySem.F.slot_list_append, PySem.F.type_list_append⟩
  | pop => exact ⟨PySem.F.slot_list_pop, PySem.F.type_list_pop⟩
  | popAt => exact ⟨PySem.F.slot_list_pop, PySem.F.type_list_pop⟩
  | insert => exact ⟨PySem.F.slot_list_insert, PySem.F.type_list_insert⟩
theorem Me.facts : ∀ m : Me, PlainAttrs m.ty ∧ Slot m.ty m.nm m.id ∧ typeOf (.builtin m.id) = pure (.type "method_descriptor") := fun m => by
  cases m with
  | join => exact ⟨PySem.F.plainAttrs_str, PySem.F.slot_str_join, PySem.F.type_str_join⟩
  | split => exact ⟨PySem.F.plainAttrs_str, PySem.F.slot_str_split, PySem.F.type_str_split⟩
  | index => exact ⟨PySem.F.plainAttrs_list, PySem.F.slot_list_index, PySem.F.type_list_index⟩
theorem asCall_of {e : Expr} {x : Str} {l : List Expr} (h : asCall e = some (x, l)) : ∃ p pos, e = .Call (.Name x p) l [] pos := by
  unfold asCall at h
  split at h
  · cases h; exact ⟨_, _, rfl⟩
  · cases h
/-- a call of a built-in by its name -/
theorem call_bl {E : Env1 X T F Z G np} {b : Bl} {x : Str} {p pos : Pos} {e' : Expr} {l' : List Expr} {t : TA} (hx : x = b.nm) (hg : isGl X.env.scope x = true) (hb : ckB G b x = true) (ha : PA X (e' :: l') t) (st : ∀ a ∈ e' :: l', notStar a = true) :
    PE X (.Call (.Name x p) (e' :: l') [] pos) (tCB (rBl X.K b) t) := by
  subst hx
  obtain ⟨n1, n2, n3⟩ := name_of (bl_ok_name b)
  have he : starEach (e' :: l') X.env = (false, eval e' X.env) :: starEach l' X.env := star_of (st e' List.mem_cons_self)
  have hpl : (backTo pos (starEach l' X.env)).any (·.1) = false := plain_of fun a h => st a (List.mem_cons_of_mem _ h)
  have cr := cr_bl (X := X) E.calm b
  have hm : if b = .gcd then (b.nm, "math.gcd") ∈ G.bt else b.nm ∈ G.free := by
    cases b with
    | gcd => rw [if_pos rfl]; exact of_decide_eq_true hb
    | _ => rw [if_neg (by intro z; cases z)]; exact of_decide_eq_true hb
  by_cases eg : b = .gcd
  · subst eg
    rw [if_pos rfl] at hm
    exact pe_callBfun cr (gl_of hg) (E.bt _ hm) ha n1 he hpl
  · rw [if_neg eg] at hm
    rcases bl_name b eg with ⟨id, h1, h2⟩ | ⟨id, h1, h2⟩
    · rw [h1] at cr
      exact pe_callB cr (gl_of hg) (E.free _ hm) h2 ha n3 n1 he hpl
    · rw [h1] at cr
      exact pe_callTy cr (gl_of hg) (E.free _ hm) h2 ha n3 n1 he hpl
end
end Dv

set_option Elab.async false
set_option linter.all false
set_option maxRecDepth 100000
set_option maxHeartbeats 4000000
namespace Dv
open PySem PySem.Spec PyProof.Rows L2

section
variable {T : Tc} {F : Fn} {G : Gn} {np : Nat}
theorem cst_ok {X : Cx} {d : D} {c : Const} {k : Nat} {pos : Pos} (h : cstOk d c = true) : ∃ v, PE X (.Constant c k pos) (tC v) ∧ ∀ H W, RepD X.K H W v d := by
  cases d with
  | int i =>
    cases c with
    | int j => rw [of_decide_eq_true h]; exact ⟨_, pe_int, fun _ _ => rfl⟩
    | _ => first | cases h | simp [ckE, ckI, ckT, ckC] at h
  | bl b =>
    cases c with
    | bool j => rw [eq_of_beq h]; exact ⟨_, pe_bl, fun _ _ => rfl⟩
    | _ => first | cases h | simp [ckE, ckI, ckT, ckC] at h
  | non =>
    cases c with
    | none => exact ⟨_, pe_non, fun _ _ => rfl⟩
    | _ => first | cases h | simp [ckE, ckI, ckT, ckC] at h
  | str x =>
    cases c with
    | str y => rw [of_decide_eq_true h]; exact ⟨_, pe_str, fun _ _ => rfl⟩
    | _ => first | cases h | simp [ckE, ckI, ckT, ckC] at h
  | _ => cases c <;> cases h

mutual
theorem snd_E : ∀ (e : Ex) {X : Cx} {Z : WX} (E : Env1 X T F Z G np) {e' : Expr}, ckE G X.N np X.env.scope e e' = true → PE X e' (tE X T F Z e)
  | .var i, X, Z, E, e', h => by
    cases e' with
    | Name x p =>
      obtain ⟨h1, h2⟩ := and2 h
      obtain ⟨h3, h4⟩ := and2 h1
      obtain ⟨n1, n2, n3⟩ := name_of h2
      exact s_var (pe_var (of_decide_eq_true h3) (vis_of h4) n1 n2)
    | _ => first | cases h | simp [ckE, ckI, ckT, ckC] at h
  | .cst d, X, Z, E, e', h => by
    cases e' with
    | Constant c k p =>
      obtain ⟨v, p, q⟩ := cst_ok (X := X) (k := k) (pos := p) h
      exact s_cst d v _ p (by rw [E.tk]; exact q)
    | _ => first | cases h | simp [ckE, ckI, ckT, ckC] at h
  | .glo x, X, Z, E, e', h => by
    cases e' with
    | Name y p =>
      obtain ⟨h1, h2⟩ := and2 h
      obtain ⟨h3, h4⟩ := and2 h1
      obtain ⟨n1, n2, n3⟩ := name_of h2
      have hx : x = y := of_decide_eq_true h3
      subst hx
      refine s_glo fun d hd => ?_
      obtain ⟨u, v, m, r, q⟩ := E.glo x d hd
      exact ⟨v, pe_glob (gl_of h4) m r n1, by rw [E.tk]; exact q⟩
    | _ => first | cases h | simp [ckE, ckI, ckT, ckC] at h
  | .bin op a b, X, Z, E, e', h => by
    cases e' with
    | BinOp a' op' b' p =>
      obtain ⟨h1, h2⟩ := and2 h
      obtain ⟨h3, h4⟩ := and2 h1
      have ho : op = op' := op_of h3
      subst ho
      exact s_bin E.tk (snd_E a E h4) (snd_E b E h2)
    | _ => first | cases h | simp [ckE, ckI, ckT, ckC] at h
  | .neg a, X, Z, E, e', h => by
    cases e' with
    | UnaryOp op a' p =>
      cases op with
      | USub => exact s_neg (snd_E a E h)
      | _ => first | cases h | simp [ckE, ckI, ckT, ckC] at h
    | _ => first | cases h | simp [ckE, ckI, ckT, ckC] at h
  | .cmp op a b, X, Z, E, e', h => by
    cases e' with
    | Compare a' ops bs p =>
      rcases ops with _ | ⟨op', _ | ⟨o2, r⟩⟩
      · first | cases h | simp [ckE, ckI, ckT, ckC] at h
      · rcases bs with _ | ⟨b', _ | ⟨c', r⟩⟩
        · first | cases h | simp [ckE, ckI, ckT, ckC] at h
        · obtain ⟨h1, h2⟩ := and2 h
          obtain ⟨h3, h4⟩ := and2 h1
          obtain ⟨h5, h6⟩ := and2 h3
          have ho : op = op' := cm_of h5
          subst ho
          exact s_cmp E.tk E.hu (marks_of h6) (snd_E a E h4) (snd_E b E h2)
        · first | cases h | simp [ckE, ckI, ckT, ckC] at h
      · first | cases h | simp [ckE, ckI, ckT, ckC] at h
    | _ => first | cases h | simp [ckE, ckI, ckT, ckC] at h
  | .chn op o2 a b c, X, Z, E, e', h => by
    cases e' with
    | Compare a' ops bs p =>
      rcases ops with _ | ⟨op', _ | ⟨o2', _ | ⟨_, _⟩⟩⟩
      · first | cases h | simp [ckE, ckI, ckT, ckC] at h
      · first | cases h | simp [ckE, ckI, ckT, ckC] at h
      · rcases bs with _ | ⟨b', _ | ⟨c', _ | ⟨_, _⟩⟩⟩
        · first | cases h | simp [ckE, ckI, ckT, ckC] at h
        · first | cases h | simp [ckE, ckI, ckT, ckC] at h
        · obtain ⟨h1, h2⟩ := and2 h
          obtain ⟨h3, h4⟩ := and2 h1
          obtain ⟨h5, h6⟩ := and2 h3
          obtain ⟨h7, h8⟩ := and2 h5
          obtain ⟨h9, h10⟩ := and2 h7
          have ho : op = op' := cm_of h9
          have ho2 : o2 = o2' := cm_of h10
          subst ho ho2
          exact s_chn E.tk E.hu (marks_of h8) (snd_E a E h6) (snd_E b E h4) (snd_E c E h2)
        · first | cases h | simp [ckE, ckI, ckT, ckC] at h
      · first | cases h | simp [ckE, ckI, ckT, ckC] at h
    | _ => first | cases h | simp [ckE, ckI, ckT, ckC] at h
  | .and_ l, X, Z, E, e', h => by
    cases e' with
    | BoolOp op l' p =>
      cases op with
      | And =>
        obtain ⟨h1, h2⟩ := and2 h
        cases l' with
        | nil => cases h1
        | cons a' r => exact s_and ((snd_Bs l E h2).1 p)
      | Or => cases h
    | _ => first | cases h | simp [ckE, ckI, ckT, ckC] at h
  | .or_ l, X, Z, E, e', h => by
    cases e' with
    | BoolOp op l' p =>
      cases op with
      | Or =>
        obtain ⟨h1, h2⟩ := and2 h
        cases l' with
        | nil => cases h1
        | cons a' r => exact s_or ((snd_Bs l E h2).2 p)
      | And => cases h
    | _ => first | cases h | simp [ckE, ckI, ckT, ckC] at h
  | .not_ a, X, Z, E, e', h => by
    cases e' with
    | UnaryOp op a' p =>
      cases op with
      | Not => exact s_not (snd_E a E h)
      | _ => first | cases h | simp [ckE, ckI, ckT, ckC] at h
    | _ => first | cases h | simp [ckE, ckI, ckT, ckC] at h
  | .ite c a b, X, Z, E, e', h => by
    cases e' with
    | IfExp c' a' b' p =>
      obtain ⟨h1, h2⟩ := and2 h
      obtain ⟨h3, h4⟩ := and2 h1
      exact s_ite (snd_T c E h3) (snd_E a E h4) (snd_E b E h2)
    | _ => first | cases h | simp [ckE, ckI, ckT, ckC] at h
  | .tup l, X, Z, E, e', h => by
    cases e' with
    | Tuple l' k p => exact s_tup (snd_Es l E h)
    | _ => first | cases h | simp [ckE, ckI, ckT, ckC] at h
  | .lst l, X, Z, E, e', h => by
    cases e' with
    | List l' p => exact s_lst (snd_Es l E h)
    | _ => first | cases h | simp [ckE, ckI, ckT, ckC] at h
  | .idx a b, X, Z, E, e', h => by
    cases e' with
    | Subscript a' b' p =>
      obtain ⟨h1, h2⟩ := and2 (show (notSlice b' && ckE G X.N np X.env.scope a a' && ckE G X.N np X.env.scope b b') = true from h)
      obtain ⟨h3, h4⟩ := and2 h1
      exact s_idx E.tk (ix_of h3) (snd_E a E h4) (snd_E b E h2)
    | _ => first | cases h | simp [ckE, ckI, ckT, ckC] at h
  | .slc a lo hi, X, Z, E, e', h => by
    cases e' with
    | Subscript a' s p =>
      cases s with
      | Slice lo' hi' st p2 =>
        cases st with
        | none =>
          obtain ⟨h1, h2⟩ := and2 h
          obtain ⟨h3, h4⟩ := and2 h1
          exact s_slc E.tk (snd_E a E h3) (snd_O lo E h4) (snd_O hi E h2)
        | some _ => cases h
      | _ => first | cases h | simp [ckE, ckI, ckT, ckC] at h
    | _ => first | cases h | simp [ckE, ckI, ckT, ckC] at h
  | .call f l, X, Z, E, e', h => by
    cases e' with
    | Call g l' kw pos =>
      cases g with
      | Name x p =>
        cases kw with
        | nil =>
          obtain ⟨h1, h2⟩ := and2 h
          obtain ⟨h3, h4⟩ := and2 h1
          obtain ⟨h5, h6⟩ := and2 h3
          obtain ⟨h7, h8⟩ := and2 h5
          have hx : f = x := of_decide_eq_true h7
          subst hx
          obtain ⟨n1, _, _⟩ := name_of h6
          rw [List.any_eq_true] at h4
          obtain ⟨⟨q, qn, qm⟩, qi, qh⟩ := h4
          obtain ⟨q1, q2⟩ := and2 qh
          obtain ⟨q3, q4⟩ := and2 q1
          have hq : q = f := of_decide_eq_true q3
          subst hq
          have cal := E.fs _ qi
          have ha := snd_Es l E h2
          have st := ckEs_star h2
          cases l with
          | nil =>
            cases l' with
            | nil => exact s_call0 E.tk E.tz cal (gl_of h8) (of_decide_eq_true q4) n1
            | cons _ _ => cases h2
          | cons e l =>
            cases l' with
            | nil => cases h2
            | cons e2 l' =>
              exact s_call E.tk E.tz cal (gl_of h8) ha (of_decide_eq_true q4) (of_decide_eq_true q2) (fun {ρ ps ρ'} z => evs_length h2 z) n1 (star_of (st e2 List.mem_cons_self)) (plain_of fun a z => st a (List.mem_cons_of_mem _ z))
        | cons _ _ => first | cases h | simp [ckE, ckI, ckT, ckC, ckEs, ckTs] at h
      | _ => first | cases h | simp [ckE, ckI, ckT, ckC] at h
    | _ => first | cases h | simp [ckE, ckI, ckT, ckC] at h
  | .blt b l, X, Z, E, e', h => by
    cases e' with
    | Call g l' kw pos =>
      cases g with
      | Name x p =>
        cases kw with
        | nil =>
          obtain ⟨h1, h2⟩ := and2 h
          obtain ⟨h3, h4⟩ := and2 h1
          obtain ⟨h5, h6⟩ := and2 h3
          obtain ⟨h7, h8⟩ := and2 h5
          have ha := snd_Es l E h2
          have st := ckEs_star h2
          cases l' with
          | nil => cases h4
          | cons e2 l' =>
            refine s_blt E.calm E.tk fun t ht => ?_
            subst ht
            exact call_bl (E := E) (of_decide_eq_true h7) h8 h6 ha st
        | cons _ _ => first | cases h | simp [ckE, ckI, ckT, ckC, ckEs, ckTs] at h
      | _ => first | cases h | simp [ckE, ckI, ckT, ckC] at h
    | _ => first | cases h | simp [ckE, ckI, ckT, ckC] at h
  | .isi t a, X, Z, E, e', h => by
    simp only [ckE] at h
    split at h
    · rename_i x a' y py hc
      obtain ⟨p, pos, rfl⟩ := asCall_of hc
      obtain ⟨g1, g2⟩ := and2 h
      obtain ⟨g3, g4⟩ := and2 g1
      obtain ⟨g5, g6⟩ := and2 g3
      obtain ⟨g7, g8⟩ := and2 g5
      obtain ⟨g9, g10⟩ := and2 g7
      obtain ⟨g11, g12⟩ := and2 g9
      obtain ⟨g13, g14⟩ := and2 g11
      have hy : y = t.sn := of_decide_eq_true g12
      have hx : x = "isinstance" := of_decide_eq_true g13
      subst hy
      subst hx
      obtain ⟨n1, n2, n3⟩ := name_of (ty_ok_name t)
      have pa := snd_E a E g2
      have py : PE X (.Name t.sn py) (tC (.ty t.nm)) := pe_bltn (gl_of g10) (E.free _ (of_decide_eq_true g6)) (ty_boot t) rfl n3 n1
      refine s_isi E.tk fun u hu => ?_
      subst hu
      exact pe_callB call_isi (gl_of g14) (E.free _ (of_decide_eq_true g8)) PyProof.Rows.boot_isinstance (pa_cons pa (pa_cons py pa_nil (star_of rfl)) (star_of g4)) (by decide +kernel) (by decide +kernel) (star_of g4) (plain_of fun c hc => by
        rcases List.mem_cons.mp hc with rfl | hc
        · rfl
        · cases hc)
    · cases h
  | .met m o l, X, Z, E, e', h => by
    cases e' with
    | Call g l' kw pos =>
      cases g with
      | Attribute o' x apos =>
        cases kw with
        | nil =>
          obtain ⟨h1, h2⟩ := and2 h
          obtain ⟨h3, h4⟩ := and2 h1
          obtain ⟨h5, h6⟩ := and2 h3
          obtain ⟨h7, h8⟩ := and2 h5
          obtain ⟨h9, h10⟩ := and2 h7
          obtain ⟨h11, h12⟩ := and2 h9
          have hx : x = m.nm := of_decide_eq_true h11
          subst hx
          have ho := snd_E o E h4
          have ha := snd_Es l E h2
          have st := ckEs_star h2
          obtain ⟨f1, f2, f3⟩ := Me.facts m
          cases l' with
          | nil => cases h8
          | cons e2 l' =>
            refine s_met E.tk fun u t hu ht => ?_
            subst hu ht
            exact pe_bm f1 f2 f3 (mt_Me E.hu m) ho ha (base_of h12) (few_of st (of_decide_eq_true h6)) h10 (star_of (st e2 List.mem_cons_self)) (plain_of fun a z => st a (List.mem_cons_of_mem _ z))
        | cons _ _ => first | cases h | simp [ckE, ckI, ckT, ckC, ckEs, ckTs] at h
      | _ => first | cases h | simp [ckE, ckI, ckT, ckC] at h
    | _ => first | cases h | simp [ckE, ckI, ckT, ckC] at h
  | .chg m i l, X, Z, E, e', h => by
    cases e' with
    | Call g l' kw pos =>
      cases g with
      | Attribute o' x apos =>
        cases o' with
        | Name y py =>
          cases kw with
          | nil =>
            obtain ⟨h1, h2⟩ := and2 h
            obtain ⟨h3, h4⟩ := and2 h1
            obtain ⟨h5, h6⟩ := and2 h3
            obtain ⟨h7, h8⟩ := and2 h5
            obtain ⟨h9, h10⟩ := and2 h7
            obtain ⟨h11, h12⟩ := and2 h9
            obtain ⟨h13, h14⟩ := and2 h11
            have hx : x = m.nm := of_decide_eq_true h13
            subst hx
            have ha := snd_Es l E h2
            have st := ckEs_star h2
            obtain ⟨n1, n2, n3⟩ := name_of h10
            have pv : PE X (.Name y py) (tVar i) := pe_var (of_decide_eq_true h14) (vis_of h12) n1 n2
            obtain ⟨f2, f3⟩ := Mm.facts m
            cases l' with
            | nil =>
              cases m with
              | pop =>
                cases l with
                | nil =>
                  refine s_chg E.tk fun t ht => ?_
                  subst ht
                  refine wkE (pe_bm0 PySem.F.plainAttrs_list f2 f3 (mt_Mm .pop) pv rfl h8) ?_
                  rintro σ H Q ⟨v, e1, ty, ρ, W, R, q⟩
                  exact ⟨v, e1, ty, q [] H W ⟨Go.refl R, rfl⟩⟩
                | cons _ _ => cases h2
              | _ => cases h4
            | cons e2 l' =>
              refine s_chg E.tk fun t ht => ?_
              subst ht
              exact pe_bm PySem.F.plainAttrs_list f2 f3 (mt_Mm m) pv ha rfl (few_of st (of_decide_eq_true h6)) h8 (star_of (st e2 List.mem_cons_self)) (plain_of fun a z => st a (List.mem_cons_of_mem _ z))
          | cons _ _ => first | cases h | simp [ckE, ckI, ckT, ckC, ckEs, ckTs] at h
        | _ => first | cases h | simp [ckE, ckI, ckT, ckC] at h
      | _ => first | cases h | simp [ckE, ckI, ckT, ckC] at h
    | _ => first | cases h | simp [ckE, ckI, ckT, ckC] at h
  | .comp elt tg it ifs own, X, Z, E, e', h => by
    cases e' with
    | ListComp elt' gs scope pos =>
      rcases gs with _ | ⟨⟨tg', it', ifs', as⟩, _ | ⟨_, _⟩⟩
      · first | cases h | simp [ckE, ckI, ckT, ckC] at h
      · skip
        · obtain ⟨h1, h2⟩ := and2 h
          obtain ⟨h3, h4⟩ := and2 h1
          obtain ⟨h5, h6⟩ := and2 h3
          obtain ⟨h7, h8⟩ := and2 h5
          obtain ⟨h9, h10⟩ := and2 h7
          obtain ⟨h11, h12⟩ := and2 h9
          obtain ⟨h13, h14⟩ := and2 h11
          obtain ⟨h15, h16⟩ := and2 h13
          have h0 : as = 0 := of_decide_eq_true h15
          subst h0
          have ok := blkOk_by h12
          have ow : (own.map fun i => (X.N.getD i ⟨#[]⟩, i)).map (·.2) = own := by rw [List.map_map]; exact List.map_id' own
          have pc := pe_lc (pos := pos) (g := gT X.K tg) (wi := tI X T F Z it) (tt := tCl X T F Z0 ifs) (te := tE X T F Z0 elt) E.calm E.nd (snd_I it E h16) ok
            (fun s H C cl fp => tg_ok (X := X.blk s H scope (compEnvC scope cl C X.env) fp) (sc := scope) E.calm E.nd (fun x hx => by
              unfold isLoc at hx
              split at hx
              · rename_i e
                have : (relS scope X.env.scope).names.lookup x = some .local := lookup_relS_keep (by decide) e
                exact ⟨.inl this, .inr this⟩
              · rename_i e
                have : (relS scope X.env.scope).names.lookup x = some .cell := lookup_relS_keep (by decide) e
                exact ⟨.inr this, .inl (by show (scope.names.lookup x == some .cell) = true; rw [e]; rfl)⟩
              · cases hx) h6)
            (fun s H C cl fp => snd_C ifs (E.blk s H scope (compEnvC scope cl C X.env) fp) h4)
            (fun s H C cl fp => snd_E elt (E.blk s H scope (compEnvC scope cl C X.env) fp) h2) (fold_of h14)
          rw [ow] at pc
          refine wkE pc fun σ H Q q => ?_
          refine comp_tLc E.tk (fun i hi => ?_) (fun i hi => ?_) q
          · cases hb : T.bm i with
            | none => rfl
            | some a =>
              have := E.bm i a hb
              rw [List.all_eq_true] at h10
              have h3 := of_decide_eq_true (h10 i hi)
              omega
          · rw [List.all_eq_true] at h8
            exact of_decide_eq_true (h8 i hi)
      · simp [ckE] at h
    | _ => first | cases h | simp [ckE, ckI, ckT, ckC] at h
theorem snd_Es : ∀ (l : Exs) {X : Cx} {Z : WX} (E : Env1 X T F Z G np) {l' : List Expr}, ckEs G X.N np X.env.scope l l' = true → PA X l' (tA X T F Z l)
  | .nil, X, Z, E, l', h => by
    cases l' with
    | nil => exact s_nil
    | cons _ _ => first | cases h | simp [ckE, ckI, ckT, ckC, ckEs, ckTs] at h
  | .cons e l, X, Z, E, l', h => by
    cases l' with
    | nil => cases h
    | cons e' l' =>
      obtain ⟨h1, h2⟩ := and2 h
      obtain ⟨h3, h4⟩ := and2 h1
      exact s_cons (snd_E e E h4) (snd_Es l E h2) (star_of h3)
/-- and, or of values -/
theorem snd_Bs : ∀ (l : Exs) {X : Cx} {Z : WX} (E : Env1 X T F Z G np) {a' : Expr} {r' : List Expr}, ckEs G X.N np X.env.scope l (a' :: r') = true →
    (∀ pos, PE X (.BoolOp .And (a' :: r') pos) (tVAnd X T F Z l)) ∧ ∀ pos, PE X (.BoolOp .Or (a' :: r') pos) (tVOr X T F Z l)
  | .nil, X, Z, E, _, _, h => by cases h
  | .cons e l, X, Z, E, a', r', h => by
    obtain ⟨h1, h2⟩ := and2 h
    obtain ⟨h3, h4⟩ := and2 h1
    have pe := snd_E e E h4
    cases r' with
    | nil =>
      cases l with
      | nil => exact ⟨fun pos => s_vand1 pe, fun pos => s_vor1 pe⟩
      | cons _ _ => cases h2
    | cons b' r' =>
      obtain ⟨q1, q2⟩ := snd_Bs l E h2
      exact ⟨fun pos => s_vand pe (q1 pos), fun pos => s_vor pe (q2 pos)⟩
theorem snd_O : ∀ (o : Eo) {X : Cx} {Z : WX} (E : Env1 X T F Z G np) {o' : Option Expr}, ckO G X.N np X.env.scope o o' = true → PO X o' (tO X T F Z o)
  | .none, X, Z, E, o', h => by
    cases o' with
    | none => exact s_onone
    | some _ => cases h
  | .some e, X, Z, E, o', h => by
    cases o' with
    | none => cases h
    | some e' => exact s_osome (snd_E e E h)
theorem snd_T : ∀ (t : Tx) {X : Cx} {Z : WX} (E : Env1 X T F Z G np) {e' : Expr}, ckT G X.N np X.env.scope t e' = true → PT X e' (tT X T F Z t)
  | .val e, X, Z, E, e', h => by
    obtain ⟨h1, h2⟩ := and2 h
    exact s_tval E.tk (true_of h1) (snd_E e E h2)
  | .cmp op a b, X, Z, E, e', h => by
    cases e' with
    | Compare a' ops bs p =>
      rcases ops with _ | ⟨op', _ | ⟨o2, r⟩⟩
      · first | cases h | simp [ckE, ckI, ckT, ckC] at h
      · rcases bs with _ | ⟨b', _ | ⟨c', r⟩⟩
        · first | cases h | simp [ckE, ckI, ckT, ckC] at h
        · obtain ⟨h1, h2⟩ := and2 h
          obtain ⟨h3, h4⟩ := and2 h1
          obtain ⟨h5, h6⟩ := and2 h3
          have ho : op = op' := cm_of h5
          subst ho
          exact s_tcmp E.tk E.hu (marks_of h6) (snd_E a E h4) (snd_E b E h2)
        · first | cases h | simp [ckE, ckI, ckT, ckC] at h
      · first | cases h | simp [ckE, ckI, ckT, ckC] at h
    | _ => first | cases h | simp [ckE, ckI, ckT, ckC] at h
  | .and_ l, X, Z, E, e', h => by
    cases e' with
    | BoolOp op l' p =>
      cases op with
      | And =>
        obtain ⟨h1, h2⟩ := and2 h
        cases l' with
        | nil => cases h1
        | cons a' r => exact wkT ((snd_Ts l E h2).1 p).pt fun σ H Q q => q
      | Or => cases h
    | _ => first | cases h | simp [ckE, ckI, ckT, ckC] at h
  | .or_ l, X, Z, E, e', h => by
    cases e' with
    | BoolOp op l' p =>
      cases op with
      | Or =>
        obtain ⟨h1, h2⟩ := and2 h
        cases l' with
        | nil => cases h1
        | cons a' r => exact wkT ((snd_Ts l E h2).2 p).pt fun σ H Q q => q
      | And => cases h
    | _ => first | cases h | simp [ckE, ckI, ckT, ckC] at h
  | .not_ t, X, Z, E, e', h => by
    cases e' with
    | UnaryOp op a' p =>
      cases op with
      | Not => exact s_tnot (snd_T t E h)
      | _ => first | cases h | simp [ckE, ckI, ckT, ckC] at h
    | _ => first | cases h | simp [ckE, ckI, ckT, ckC] at h
theorem snd_Ts : ∀ (l : Txs) {X : Cx} {Z : WX} (E : Env1 X T F Z G np) {a' : Expr} {r' : List Expr}, ckTs G X.N np X.env.scope l (a' :: r') = true →
    (∀ pos, PW X (.BoolOp .And (a' :: r') pos) (tTAnd X T F Z l)) ∧ ∀ pos, PW X (.BoolOp .Or (a' :: r') pos) (tTOr X T F Z l)
  | .nil, X, Z, E, _, _, h => by cases h
  | .cons t l, X, Z, E, a', r', h => by
    obtain ⟨h1, h2⟩ := and2 h
    have pt := snd_T t E h1
    cases r' with
    | nil =>
      cases l with
      | nil => exact ⟨fun pos => s_tand1 pt, fun pos => s_tor1 pt⟩
      | cons _ _ => cases h2
    | cons b' r' =>
      obtain ⟨q1, q2⟩ := snd_Ts l E h2
      exact ⟨fun pos => s_tand pt (q1 pos), fun pos => s_tor pt (q2 pos)⟩
theorem snd_C : ∀ (o : To) {X : Cx} {Z : WX} (E : Env1 X T F Z G np) {l' : List Expr}, ckC G X.N np X.env.scope o l' = true → PTs X l' (tCl X T F Z o)
  | .none, X, Z, E, l', h => by
    cases l' with
    | nil => exact s_cnone
    | cons _ _ => first | cases h | simp [ckE, ckI, ckT, ckC, ckEs, ckTs] at h
  | .some t, X, Z, E, l', h => by
    rcases l' with _ | ⟨t', _ | ⟨_, _⟩⟩
    · first | cases h | simp [ckE, ckI, ckT, ckC] at h
    · exact s_csome (snd_T t E h)
    · first | cases h | simp [ckE, ckI, ckT, ckC] at h
theorem snd_I : ∀ (it : Ie) {X : Cx} {Z : WX} (E : Env1 X T F Z G np) {e' tg' : Expr}, ckI G X.N np X.env.scope it e' tg' = true → PI X tg' e' (tI X T F Z it)
  | .seq e, X, Z, E, e', tg', h => s_seq E.tk (snd_E e E h)
  | .rng a, X, Z, E, e', tg', h => by
    simp only [ckI] at h
    split at h
    · rename_i x a' hc
      obtain ⟨p, pos, rfl⟩ := asCall_of hc
      obtain ⟨h1, h2⟩ := and2 h
      obtain ⟨h3, h4⟩ := and2 h1
      obtain ⟨h5, h6⟩ := and2 h3
      obtain ⟨h7, h8⟩ := and2 h5
      have hx : x = "range" := of_decide_eq_true h7
      subst hx
      exact s_rng (gl_of h8) (E.free _ (of_decide_eq_true h6)) (star_of h4) (snd_E a E h2)
    · cases h
  | .rng2 a b, X, Z, E, e', tg', h => by
    simp only [ckI] at h
    split at h
    · rename_i x a' b' hc
      obtain ⟨p, pos, rfl⟩ := asCall_of hc
      obtain ⟨h1, h2⟩ := and2 h
      obtain ⟨h3, h4⟩ := and2 h1
      obtain ⟨h5, h6⟩ := and2 h3
      obtain ⟨h7, h8⟩ := and2 h5
      obtain ⟨h9, h10⟩ := and2 h7
      obtain ⟨h11, h12⟩ := and2 h9
      have hx : x = "range" := of_decide_eq_true h11
      subst hx
      exact s_rng2 (gl_of h12) (E.free _ (of_decide_eq_true h10)) (by rw [star_of h8, star_of h6]; rfl) (star_of h6) (snd_E a E h4) (snd_E b E h2)
    · cases h
  | .enm e, X, Z, E, e', tg', h => by
    simp only [ckI] at h
    obtain ⟨ht, h⟩ := and2 h
    cases tg' with
    | Tuple es k tp =>
      split at h
      · rename_i x a' hc
        obtain ⟨p, pos, rfl⟩ := asCall_of hc
        obtain ⟨h1, h2⟩ := and2 h
        obtain ⟨h3, h4⟩ := and2 h1
        obtain ⟨h5, h6⟩ := and2 h3
        obtain ⟨h7, h8⟩ := and2 h5
        have hx : x = "enumerate" := of_decide_eq_true h7
        subst hx
        exact s_enm E.tk (gl_of h8) (E.free _ (of_decide_eq_true h6)) (star_of h4) (snd_E e E h2)
      · cases h
    | _ => cases ht
  | .zip l, X, Z, E, e', tg', h => by
    simp only [ckI] at h
    obtain ⟨ht, h⟩ := and2 h
    cases tg' with
    | Tuple es k tp =>
      split at h
      · rename_i x l' hc
        obtain ⟨p, pos, rfl⟩ := asCall_of hc
        obtain ⟨h1, h2⟩ := and2 h
        obtain ⟨h3, h4⟩ := and2 h1
        obtain ⟨h5, h6⟩ := and2 h3
        obtain ⟨h7, h8⟩ := and2 h5
        have hx : x = "zip" := of_decide_eq_true h7
        subst hx
        have ha := snd_Es l E h2
        have st := ckEs_star h2
        rcases l' with _ | ⟨a', _ | ⟨b', _ | ⟨_, _⟩⟩⟩
        · simp at h4
        · simp at h4
        · cases l with
          | nil => cases h2
          | cons a l =>
            cases l with
            | nil => obtain ⟨_, z⟩ := and2 h2; cases z
            | cons b l =>
              cases l with
              | nil => exact s_zip2 E.tk (gl_of h8) (E.free _ (of_decide_eq_true h6)) (star_of (st a' (by simp))) (plain_of fun c z => st c (List.mem_cons_of_mem _ z)) ha
              | cons _ _ =>
                obtain ⟨_, z⟩ := and2 h2
                obtain ⟨_, z⟩ := and2 z
                cases z
        · simp at h4
      · cases h
    | _ => cases ht
end
end
end Dv

set_option Elab.async false
set_option linter.all false
set_option maxRecDepth 100000
set_option maxHeartbeats 1000000
namespace Dv
open PySem PySem.Spec PyProof.Rows L2

structure OutS (T : Tc) (σ : Sg) (H : Hp) (ρ : Env') (W : AS) (p : P) (σ' : Sg) (ρ' : Env') (v : V) (H' : Hp) (W' : AS) : Prop where
  go : GoS T σ H ρ W σ' H' ρ' W'
  rep : RepP T σ' H' ρ' W' v p
  new : ∀ d, p = .own d → ∀ a, v = .ref a → H a = none
def EndS (T : Tc) (σ : Sg) (H : Hp) (ρ : Env') (W : AS) (D : Ends) (f : Fl) (ρ' : Env') : Prop := match f with
  | .nx => ∀ σ' H' W', GoS T σ H ρ W σ' H' ρ' W' → D.nx σ' H'
  | .bk => ∀ σ' H' W', GoS T σ H ρ W σ' H' ρ' W' → D.bk σ' H'
  | .ct => ∀ σ' H' W', GoS T σ H ρ W σ' H' ρ' W' → D.ct σ' H'
  | .rt p => ∀ v σ' H' W', OutS T σ H ρ W p σ' ρ' v H' W' → D.rt v H'
/-- the error is welcome, wherever it is raised from here on -/
def ErrS (X : Cx) (Z : WX) (T : Tc) (er : Er) (σ : Sg) (H : Hp) (ρ : Env') (W : AS) : Prop := ∀ σ1 H1 ρ1 W1, GoS T σ H ρ W σ1 H1 ρ1 W1 → ErrOk X Z er σ1 H1 ρ1
def PostS (X : Cx) (Z : WX) (T : Tc) (r : Rs (Fl × Env')) (σ : Sg) (H : Hp) (ρ : Env') (W : AS) (D : Ends) : Prop := match r with
  | .ok q => EndS T σ H ρ W D q.1 q.2
  | .err er => ErrS X Z T er σ H ρ W
  | .bad => False
/-- a step's error, seen as a statement's -/
def PostE (X : Cx) (Z : WX) (T : Tc) {α : Type} (r : Rs (α × Env')) (σ : Sg) (H : Hp) (ρ : Env') (W : AS) (k : α → Env' → Prop) : Prop := match r with
  | .ok a => k a.1 a.2
  | .err er => ErrS X Z T er σ H ρ W
  | .bad => False
def tS (X : Cx) (T : Tc) (Z : WX) (f : Env' → Rs (Fl × Env')) : TS := fun D σ H => ∃ ρ W, Rel T σ H ρ W ∧ PostS X Z T (f ρ) σ H ρ W D

section
variable {X : Cx} {Z : WX} {T : Tc} {F : Fn} {G : Gn} {np : Nat} {σ σ' σ1 : Sg} {H H0 H1 H2 H' : Hp} {ρ ρ1 ρ2 ρ' ρf ρb ρq : Env'} {W W1 W2 W' : AS} {K : PySem.W.Frag} {ds : List D} {sc : Scope} {N : List Str} {En : Ends}
theorem PostE.bind {α : Type} {r : Rs (α × Env')} {f : α × Env' → Rs (Fl × Env')} (h : PostS X Z T (r.bind f) σ H ρ W En) : PostE X Z T r σ H ρ W fun a ρ' => PostS X Z T (f (a, ρ')) σ H ρ W En := by
  cases r <;> exact h
/-- to an expression's reading -/
theorem PostE.post {α : Type} {r : Rs (α × Env')} {k k' : α → Env' → Prop} (h : PostE X Z T r σ H ρ W k) (R : Rel T σ H ρ W) (g : ∀ a ρ', k a ρ' → k' a ρ') : Post X Z r σ H ρ k' := by
  cases r with
  | ok a => exact g _ _ h
  | err er => exact h σ H ρ W (GoS.refl R)
  | bad => exact h
theorem PostE.move {α : Type} {r : Rs (α × Env')} {k : α → Env' → Prop} (h : PostE X Z T r σ H ρ W k) (g : GoS T σ H ρ W σ1 H1 ρ1 W1) : PostE X Z T r σ1 H1 ρ1 W1 k := by
  cases r with
  | ok a => exact h
  | err er => exact fun σ2 H2 ρ2 W2 g2 => h _ _ _ _ (g.trans g2)
  | bad => exact h
theorem PostS.val {α : Type} {r : Rs α} {f : α → Rs (Fl × Env')} (n : NoErr r) (h : PostS X Z T (r.bind f) σ H ρ W En) : ∃ a, r = .ok a ∧ PostS X Z T (f a) σ H ρ W En := by
  cases r with
  | ok a => exact ⟨a, rfl, h⟩
  | err er => exact absurd rfl (n er)
  | bad => exact h.elim
theorem GoS.out {σ2 : Sg} {p : P} {v : V} (a : GoS T σ H ρ W σ1 H1 ρ1 W1) (b : OutS T σ1 H1 ρ1 W1 p σ2 ρ2 v H2 W2) : OutS T σ H ρ W p σ2 ρ2 v H2 W2 := ⟨a.trans b.go, b.rep, fun d e x h => a.dom x (b.new d e x h)⟩
theorem EndS.move {f : Fl} (h : EndS T σ H ρ W En f ρ') (g : GoS T σ H ρ W σ1 H1 ρ1 W1) : EndS T σ1 H1 ρ1 W1 En f ρ' := by
  cases f with
  | nx => exact fun σ2 H2 W2 g2 => h _ _ _ (g.trans g2)
  | bk => exact fun σ2 H2 W2 g2 => h _ _ _ (g.trans g2)
  | ct => exact fun σ2 H2 W2 g2 => h _ _ _ (g.trans g2)
  | rt p => exact fun v σ2 H2 W2 g2 => h _ _ _ _ (g.out g2)
theorem PostS.move {r : Rs (Fl × Env')} (h : PostS X Z T r σ H ρ W En) (g : GoS T σ H ρ W σ1 H1 ρ1 W1) : PostS X Z T r σ1 H1 ρ1 W1 En := by
  cases r with
  | ok a => exact EndS.move h g
  | err er => exact fun σ2 H2 ρ2 W2 g2 => h _ _ _ _ (g.trans g2)
  | bad => exact h
theorem wkS {st : Stmt} {t t' : TS} (h : PS X st t) (w : ∀ D σ H, t' D σ H → t D σ H) : PS X st t' := ⟨fun pins s σ H D I q => h.run pins s σ H D I (w D σ H q)⟩
theorem wkSs {st : List Stmt} {t t' : TS} (h : PSs X st t) (w : ∀ D σ H, t' D σ H → t D σ H) : PSs X st t' := ⟨fun pins s σ H D I q => h.run pins s σ H D I (w D σ H q)⟩

/-! ### a name stored -/
theorem own_go {i : Nat} {v : V} {d : D} (o : Out T σ H ρ W (.own d) ρ1 v H1 W1) (hf : freeSlot i ρ1 = true) : GoS T σ H ρ W (σ.set i (some v)) H1 (ρ1.set i (some (.own false d))) W1 := by
  obtain ⟨nb, nl, hi⟩ := free_bor hf
  have R := o.go.rel
  have hi2 : i < σ.length := by rw [← R.len]; exact hi
  obtain ⟨a, ob, rfl, ha, wa, no, fz, q⟩ := o.rep
  have n0 : H a = none := o.new d rfl a rfl
  have own : ∀ j b, OwnA (σ.set i (some (.ref a))) (ρ1.set i (some (.own false d))) j b → (j = i ∧ b = a) ∨ (j ≠ i ∧ OwnA σ ρ1 j b) := fun j b ⟨h1, h2⟩ => by
    by_cases e : i = j
    · subst e
      rw [List.getElem?_set_self hi2] at h2
      cases h2
      exact .inl ⟨rfl, rfl⟩
    · rw [List.getElem?_set_ne e] at h2
      refine .inr ⟨Ne.symm e, ?_, h2⟩
      rcases h1 with ⟨c, x, h1⟩ | ⟨c, x, h1⟩
      · rw [List.getElem?_set_ne e] at h1; exact .inl ⟨c, x, h1⟩
      · rw [List.getElem?_set_ne e] at h1; exact .inr ⟨c, x, h1⟩
  refine ⟨⟨by simp [R.len], fun j s h => ?_, fun j k b h1 h2 => ?_, R.wl, fun j x b h1 h2 => ?_, R.fzk, fun j b h => ?_⟩, fun b u h n => ?_, o.go.dom, fun j b h => ?_, fun j c x h => ?_⟩
  · rcases getq_set h with ⟨rfl, k, _⟩ | ⟨ne, k⟩
    · cases k
      exact ⟨_, by rw [List.getElem?_set_self hi2], a, ob, rfl, ha, wa, q⟩
    · obtain ⟨o, e, q⟩ := R.at_ j s k
      exact ⟨o, by rw [List.getElem?_set_ne ne]; exact e, q⟩
  · rcases own j b h1 with ⟨e1, e2⟩ | ⟨_, q1⟩
    · rcases own k b h2 with ⟨e3, _⟩ | ⟨_, q2⟩
      · rw [e1, e3]
      · rw [e2] at q2
        exact absurd q2 (no k)
    · rcases own k b h2 with ⟨e3, e4⟩ | ⟨_, q2⟩
      · rw [e4] at q1
        exact absurd q1 (no j)
      · exact R.sep j k b q1 q2
  · by_cases e : i = j
    · subst e
      rw [List.getElem?_set_self hi2] at h2
      cases h2
      exact fz
    · rw [List.getElem?_set_ne e] at h2
      rw [List.getElem?_set_ne e] at h1
      exact R.fr j x b h1 h2
  · obtain ⟨h1, s, h2, h3⟩ := R.bor j b h
    have ne : i ≠ j := fun z => by subst z; exact nb s h2 h3
    exact ⟨by rw [List.getElem?_set_ne ne]; exact h1, s, by rw [List.getElem?_set_ne ne]; exact h2, h3⟩
  · obtain ⟨h1, n1, w⟩ := o.go.step b u h n
    refine ⟨h1, fun j z => ?_, w⟩
    have hba : b ≠ a := fun e => by rw [e, n0] at h; cases h
    obtain ⟨⟨c, x, z1⟩, z2⟩ := z
    rcases getq_set z1 with ⟨rfl, k, _⟩ | ⟨ne, k⟩
    · rw [List.getElem?_set_self hi2] at z2; cases z2; exact hba rfl
    · rw [List.getElem?_set_ne ne] at z2
      exact n1 j ⟨⟨c, x, k⟩, z2⟩
  · rcases own j b h with ⟨_, rfl⟩ | ⟨_, h⟩
    · exact .inr n0
    · exact .inl ⟨j, o.go.mon j b h⟩
  · have h1 := o.go.lk j c x h
    have ne : i ≠ j := fun z => by subst z; exact nl c x h1
    exact ⟨by rw [List.getElem?_set_ne ne]; exact h1, by rw [List.getElem?_set_ne ne]⟩
theorem asgP_ok {i : Nat} {p : P} {v : V} (o : Out T σ H ρ W p ρ1 v H1 W1) (e : asgP i p ρ1 = .ok ρ') : ∃ W', GoS T σ H ρ W (σ.set i (some v)) H1 ρ' W' := by
  cases p with
  | val d =>
    obtain ⟨g, _⟩ := put_go o.go.rel e o.rep
    exact ⟨W1, o.go.s.trans g⟩
  | own d =>
    simp only [asgP] at e
    split at e
    · rename_i hf
      cases e
      exact ⟨W1, own_go o hf⟩
    · cases e
  | at_ j =>
    simp only [asgP] at e
    obtain ⟨⟨d, ρ2⟩, e1, e⟩ := bind_ok e
    obtain ⟨W2, g, r⟩ := o.data (of_ok e1)
    obtain ⟨g2, _⟩ := put_go g.rel e r
    exact ⟨W2, g.s.trans g2⟩
theorem NoErr.asgP {i : Nat} {p : P} {ρ : Env'} : NoErr (Dv.asgP i p ρ) := by
  unfold Dv.asgP
  split
  · exact .putV
  · split <;> first | exact .ok | exact .bad
  · exact .bind .of fun _ => .putV
/-- x = e, by the reading of e -/
theorem set_read {i : Nat} {e : Ex} (h : tS X T Z (ex F 0 (.set i e)) En σ H) : tE X T F Z e σ H fun x H1 => gName i x σ H1 En.nx := by
  obtain ⟨ρ, W, R, h⟩ := h
  refine ⟨ρ, W, R, (PostE.bind h).post R fun p ρ1 h1 v H1 W1 o => ?_⟩
  obtain ⟨ρ', e1, h2⟩ := PostS.val .asgP h1
  obtain ⟨W', g⟩ := asgP_ok o e1
  exact h2 _ _ _ g
end
end Dv

set_option Elab.async false
set_option linter.all false
set_option maxRecDepth 100000
set_option maxHeartbeats 1000000
namespace Dv
open PySem PySem.Spec PyProof.Rows L2

/-! ### the text of statements -/
def notComp : Expr → Bool
  | .ListComp _ _ _ _ => false
  | .SetComp _ _ _ _ => false
  | .DictComp _ _ _ _ _ => false
  | _ => true
def notTuple : Expr → Bool
  | .Tuple _ _ _ => false
  | _ => true
/-- name = value: the plain way, or a comprehension at a local name on its line -/
def setOk (sc : Scope) (y : Str) (py : Pos) (v : Expr) : Bool := notComp v || (match v with
  | .ListComp _ _ scope pos => (match sc.names.lookup y with
    | some .local => (py.line == pos.line) && !(scope.names.any fun p => p.1 == y && (p.2 == .local || p.2 == .cell))
    | some .cell => true
    | _ => false)
  | _ => false)
def isLocal (sc : Scope) (x : Str) : Bool := match sc.names.lookup x with
  | some .local => true
  | _ => false
def parOk (sc : Scope) (x y : Str) (px py : Pos) (a b : Expr) : Bool :=
  isLocal sc x && isLocal sc y && py.line == px.line && decide (x ≠ y) && notStar a && notStar b && !([a, b].all (foldedForSure 8)) && !([a, b].all (constantsAlone 8))
def augEq : Operator → Operator → Bool
  | .Add, .Add => true
  | .Sub, .Sub => true
  | _, _ => false
mutual
def ckS (G : Gn) (N : List Str) (np : Nat) (sc : Scope) : Sx → Stmt → Bool
  | .set i e, .Assign [.Name y py] v _ => decide (N[i]? = some y) && isLoc sc y && setOk sc y py v && ckE G N np sc e v
  | .setT l e, .Assign [.Tuple es k tp] v _ => notTuple v && notComp v && ckTg N sc (.tp l) (.Tuple es k tp) && ckE G N np sc e v
  | .par i j a b, .Assign [.Tuple [.Name x px, .Name y py] _ _] (.Tuple [a', b'] _ _) _ => decide (N[i]? = some x) && decide (N[j]? = some y) && decide (i ≠ j) && parOk sc x y px py a' b' && ckE G N np sc a a' && ckE G N np sc b b'
  | .setI i ix e, .Assign [.Subscript (.Name y _) ix' _] v _ => decide (N[i]? = some y) && isVis sc y && okName y && notSlice ix' && ckE G N np sc ix ix' && ckE G N np sc e v
  | .aug i op e, .AugAssign (.Name y _) op' v _ => augEq op op' && decide (N[i]? = some y) && isLoc sc y && ckE G N np sc e v
  | .augI i op ix e, .AugAssign (.Subscript (.Name y _) ix' _) op' v _ => augEq op op' && decide (N[i]? = some y) && isVis sc y && okName y && notSlice ix' && ckE G N np sc ix ix' && ckE G N np sc e v
  | .expr e, .Expr v _ => notComp v && ckE G N np sc e v
  | .ret e, .Return (some v) _ => ckE G N np sc e v
  | .retN, .Return none _ => true
  | .ite c a b, .If c' a' b' _ => ckT G N np sc c c' && ckSs G N np sc a a' && ckSs G N np sc b b'
  | .whl c b, .While c' b' [] _ => ckT G N np sc c c' && ckSs G N np sc b b'
  | .for_ tg it b, .For tg' it' b' [] _ => ckI G N np sc it it' tg' && notSet it' && ckTg N sc tg tg' && ckSs G N np sc b b'
  | .brk, .Break _ => true
  | .cnt, .Continue _ => true
  | .pass, .Pass _ => true
  | _, _ => false
def ckSs (G : Gn) (N : List Str) (np : Nat) (sc : Scope) : Sxs → List Stmt → Bool
  | .nil, [] => true
  | .cons s l, s' :: l' => ckS G N np sc s s' && ckSs G N np sc l l'
  | _, _ => false
end

section
variable {X : Cx} {Z : WX} {T : Tc} {F : Fn} {G : Gn} {np : Nat} {σ σ' σ1 : Sg} {H H0 H1 H2 H' : Hp} {ρ ρ1 ρ2 ρ' ρf ρb ρq : Env'} {W W1 W2 W' : AS} {K : PySem.W.Frag} {ds : List D} {sc : Scope} {N : List Str} {En : Ends} {M : Nat}
theorem Out.later {p : P} {v : V} (o : Out T σ H ρ W p ρ1 v H1 W1) (g : Go T σ H1 ρ1 W1 H2 ρ2 W2) : Out T σ H ρ W p ρ2 v H2 W2 := ⟨o.go.trans g, o.rep.step o.go.rel g.step g.mon, o.new⟩
theorem OutS.of {p : P} {v : V} (o : Out T σ H ρ W p ρ1 v H1 W1) : OutS T σ H ρ W p σ ρ1 v H1 W1 := ⟨o.go.s, o.rep, o.new⟩
theorem swap_no {v : Expr} {t : Option Expr} {n : Nat} {env : Env} (h : notComp v = true) : swapsWith v t n env = pure false := by
  cases v <;> first | rfl | cases h
theorem set_ok {i : Nat} {e : Ex} {y : Str} {py pos : Pos} {v : Expr} (hN : X.N.Nodup) (hi : X.N[i]? = some y) (hl : Loc X.env.scope y) (hf : X.fn y = true) (hk : X.env.scope.kind = .function) (hs : setOk X.env.scope y py v = true) (pe : PE X v (tE X T F Z e))
    (pc : notComp v = false → isLocal X.env.scope y = true → ∀ (hsw : swapsWith v (some (.Name y py)) pos.line X.env = pure true), PS X (.Assign [.Name y py] v pos) (tAsg (tE X T F Z e) (gName i))) : PS X (.Assign [.Name y py] v pos) (tAsg (tE X T F Z e) (gName i)) := by
  unfold setOk at hs
  rcases Bool.or_eq_true_iff.mp hs with h | h
  · exact ps_set hN hi hl pe (swap_no h) (.inl hf)
  · split at h
    · rename_i scope cpos
      split at h
      · rename_i e1
        obtain ⟨h1, h2⟩ := and2 h
        exact pc rfl (by unfold isLocal; rw [e1]) (sw_true hk e1 h1 (not_f h2))
      · rename_i e1
        refine ps_set hN hi hl pe ?_ (.inl hf)
        have e2 : (X.env.kindOf y == some NameKind.local) = false := by
          rw [show X.env.kindOf y = X.env.scope.names.lookup y from rfl, e1]
          rfl
        unfold swapsWith
        simp only [e2, Bool.and_false, Bool.false_and]
      · cases h
    · cases h
theorem par_swap {x y : Str} {px py pt pt2 : Pos} {kt k2 : Nat} {a b : Expr} (hk : X.env.scope.kind = .function) (h : parOk X.env.scope x y px py a b = true) : swappedStores [.Tuple [.Name x px, .Name y py] kt pt] (.Tuple [a, b] k2 pt2) X.env = pure (some [x, y]) := by
  obtain ⟨h1, h2⟩ := and2 h
  obtain ⟨h3, h4⟩ := and2 h1
  obtain ⟨h5, h6⟩ := and2 h3
  obtain ⟨h7, h8⟩ := and2 h5
  obtain ⟨h9, h10⟩ := and2 h7
  obtain ⟨h11, h12⟩ := and2 h9
  obtain ⟨h13, h14⟩ := and2 h11
  have hb : X.env.blockKind = .function := by unfold Env.blockKind; rw [hk]; rfl
  have kx : X.env.kindOf x = some .local := by
    unfold isLocal at h13
    split at h13
    · rename_i e; exact e
    · cases h13
  have ky : X.env.kindOf y = some .local := by
    unfold isLocal at h14
    split at h14
    · rename_i e; exact e
    · cases h14
  have hne : x ≠ y := of_decide_eq_true h10
  have sa : (match a with | .Starred .. => true | _ => false) = false := by cases a <;> first | rfl | cases h8
  have sb : (match b with | .Starred .. => true | _ => false) = false := by cases b <;> first | rfl | cases h6
  have el : py.line = px.line := by simpa using h12
  have hyx : (y == x) = false := by simpa using fun z => hne z.symm
  have hxy : (x == y) = false := by simpa using hne
  have f1 := not_f h4
  have f2 := not_f h2
  simp only [List.all_cons, List.all_nil, Bool.and_true] at f1 f2
  unfold swappedStores
  simp [hb, kx, ky, el, f1, f2, Expr.pos, List.eraseDups, List.eraseDupsBy, List.eraseDupsBy.loop, hyx, hxy]
  cases a <;> cases b <;> first | (simp at sa; done) | (simp at sb; done) | simp_all
end
end Dv

set_option Elab.async false
set_option linter.all false
set_option maxRecDepth 100000
set_option maxHeartbeats 2000000
namespace Dv
open PySem PySem.Spec PyProof.Rows L2

section
variable {X : Cx} {Z : WX} {T : Tc} {F : Fn} {G : Gn} {np : Nat} {σ σ' σ1 : Sg} {H H0 H1 H2 H' : Hp} {ρ ρ1 ρ2 ρ' ρf ρb ρq : Env'} {W W1 W2 W' : AS} {K : PySem.W.Frag} {ds : List D} {sc : Scope} {N : List Str} {En : Ends} {M : Nat}
/-- from ahead of a lock to behind its opening -/
theorem unlock_go {p : P} (R : Rel T σ H1 ρ1 W1) (g : GoS T σ H1 (lockP p ρ1).2 W1 σ' H' ρf W') (e : unlock (lockP p ρ1).1 ρf = .ok ρ') : GoS T σ H1 ρ1 W1 σ' H' ρ' W' := by
  obtain ⟨ow, h0, hs⟩ := unlock_own (σ := σ') e
  refine ⟨unlock_rel g.rel e, unlock_step R g.step e fun k b d z => (g.lk k b d z).2, g.dom, fun i a z => ?_, fun i b d h => ?_⟩
  · rcases g.own i a ((ow i a).mp z) with ⟨j, q⟩ | q
    · exact .inl ⟨j, (lock_go R p).mon j a q⟩
    · exact .inr q
  · have hl := (lock_go R p).lk i b d h
    obtain ⟨q1, q2⟩ := g.lk i b d hl
    refine ⟨?_, q2⟩
    cases el : (lockP p ρ1).1 with
    | none => rw [h0 el]; exact q1
    | some k =>
      obtain ⟨b1, d1, e1, rfl⟩ := hs k el
      obtain ⟨b2, d2, e2, e3⟩ := lock_some el
      have ne : k ≠ i := fun z => by subst z; rw [e2] at h; cases h
      rw [List.getElem?_set_ne ne]
      exact q1
/-- a slot's list changed -/
theorem mut_slot {i : Nat} {f : D → Rs D} {v : V} (R : Rel T σ H ρ W) (hv : σ[i]? = some (some v)) (nf : ∀ d, NoErr (f d)) (e : mutSlot i ρ f = .ok ρ') : ∃ b d d' a o, ρ[i]? = some (some (.own b d)) ∧ v = .ref a ∧ H a = some o ∧ RepO T.K H W o d ∧ f d = .ok d' ∧ ρ' = ρ.set i (some (.own b d')) := by
  unfold mutSlot at e
  split at e
  · rename_i b d es
    obtain ⟨d', e1, e⟩ := bind_ok e
    cases e
    obtain ⟨o, z, a, ob, rfl, ha, _, q⟩ := R.at_ i _ es
    rw [hv] at z; cases z
    exact ⟨b, d, d', a, ob, es, rfl, ha, q, e1, rfl⟩
  · cases e
theorem NoErr.mutSlot {i : Nat} {ρ : Env'} {f : D → Rs D} (nf : ∀ d, NoErr (f d)) : NoErr (Dv.mutSlot i ρ f) := by
  unfold Dv.mutSlot
  split
  · exact .bind (nf _) fun _ => .ok
  · exact .bad
theorem NoErr.dSet {d k x : D} : NoErr (Dv.dSet d k x) := by
  unfold Dv.dSet
  split
  · exact .bind .of fun _ => .ok
  · exact .bad
theorem NoErr.dAug {op : Operator} {x y : D} : NoErr (Dv.dAug op x y) := by
  unfold Dv.dAug
  split <;> first | exact .ok | exact .bad | exact .need .ok
/-- o[k] = x of a slot's list -/
theorem set_slot {i : Nat} {v kv xv : V} {k x : D} {Q : Hp → Prop} (R : Rel T σ H ρ W) (hv : σ[i]? = some (some v)) (hk : RepK T.K H W kv k) (hx : RepD T.K H W xv x) (e : mutSlot i ρ (fun d => dSet d k x) = .ok ρ')
    (q : ∀ H', Go T σ H ρ W H' ρ' W → Q H') : rSetL v kv xv H Q := by
  obtain ⟨b, d, d', a, o, es, rfl, ha, r, e1, rfl⟩ := mut_slot R hv (fun _ => .dSet) e
  unfold dSet at e1
  split at e1
  · rename_i l n
    obtain ⟨j, e2, e1⟩ := bind_ok e1
    cases e1
    obtain ⟨us, rfl, r⟩ := r
    refine ⟨a, us, n, j, rfl, hk.int, ha, by rw [r.length]; exact of_ok e2, q _ (mut_at R es hv ⟨_, rfl, r.set hx j⟩)⟩
  · cases e1
theorem get_listP : PGet X (rIxL X.K) := by
  intro pins s σ H o i ov iv Q I ro ri h
  obtain ⟨p, xs, n, z, rfl, rfl, hq, he, q⟩ := h
  cases ro
  obtain ⟨t, rfl⟩ := ri
  obtain ⟨its, r, pl, hz⟩ := I.list hq
  obtain ⟨j, h1, h2, h3, h4, h5⟩ := atI_get he
  obtain ⟨w, ew, rw'⟩ := r.get h2
  have hl := r.length
  have hn := line63
  have fin : EP X pins σ Q w s := ⟨z, H, I, rw', q⟩
  by_cases h0 : 0 ≤ n
  · have hj : n.toNat = j := by
      rw [seqIndex_of h0 h5] at h1
      exact Option.some.inj h1
    exact wpAny_getItem_list pl.isList h0 (by omega) (by rw [hj]; simpa using ew) fin
  · have hj : (n + (its.toArray.size : Int)).toNat = j := by
      rw [seqIndex_neg (by omega) h4] at h1
      rw [List.size_toArray, ← hl]
      exact Option.some.inj h1
    exact wpAny_getItem_list_neg pl.isList (by omega) (by rw [List.size_toArray] <;> omega) (by omega) (by rw [hj]; simpa using ew) fin
def rAug : Operator → TIp
  | .Add => fun x y H Q => rI0 (fun i j => .int (i + j)) x y H Q ∨ ∃ i j, x = .str i ∧ y = .str j ∧ i.length + j.length ≤ sizeLine ∧ Q (.str (i ++ j)) H
  | .Sub => rI0 fun i j => .int (i - j)
  | _ => fun _ _ _ _ => False
theorem ip_aug : ∀ op, PIp X op (rAug op) := fun op => by
  cases op with
  | Add => exact iop_add.or iop_add_str
  | Sub => exact iop_sub
  | _ => exact fun _ _ _ _ _ _ _ _ _ _ _ _ h => h.elim
theorem aug_ok {op : Operator} {x y : V} {d e z : D} {Q : VK} (hd : RepK K H W x d) (he : RepK K H W y e) (h : dAug op d e = .ok z) (q : ∀ v, RepD K H W v z → Q v H) : rAug op x y H Q := by
  unfold dAug at h
  split at h
  · cases h; exact .inl ⟨_, _, hd.int, he.int, q _ rfl⟩
  · cases h; exact ⟨_, _, hd.int, he.int, q _ rfl⟩
  · obtain ⟨c, h⟩ := need_ok h
    cases h; exact .inr ⟨_, _, hd.str, he.str, c, q _ rfl⟩
  · cases h

/-! ### statements -/
theorem st_setT {l : List Nat} {e : Ex} {tg v : Expr} {pos : Pos} (tk : T.K = X.K) (he : PE X v (tE X T F Z e)) (hg : PG X tg (gT X.K (.tp l))) (hs : swapsWithSole [tg] v pos.line X.env = pure false) (hw : swappedStores [tg] v X.env = pure none)
    (h1 : (assignEach [tg] X.env).map (·.2) = [assign tg X.env]) : PS X (.Assign [tg] v pos) (tS X T Z (ex F M (.setT l e))) := by
  refine wkS (ps_asg he hg hs hw h1) ?_
  rintro En σ H ⟨ρ, W, R, h⟩
  refine ⟨ρ, W, R, (PostE.bind h).post R fun p ρ1 h1 v H1 W1 o => ?_⟩
  dsimp only at h1
  split at h1
  · rename_i ds
    obtain ⟨ρ', e1, h2⟩ := PostS.val .putVs h1
    have r : RepD T.K H1 W1 v (.tup ds) := o.rep
    rw [← tk]
    exact gT_ok (tg := .tp l) o.go.rel (show asgT (.tp l) (.tup ds) ρ1 = .ok ρ' from e1) r fun σ' g _ _ => h2 _ _ _ (o.go.s.trans g)
  · exact h1.elim
theorem st_par {i j : Nat} {a b : Ex} {a' b' : Expr} {x y : Str} {px py pt pt2 pos : Pos} {kt k2 : Nat} (hc : X.calm = true) (hN : X.N.Nodup) (hi : X.N[i]? = some x) (hj : X.N[j]? = some y) (hij : i ≠ j)
    (hx : X.env.scope.names.lookup x = some .local) (hy : X.env.scope.names.lookup y = some .local) (ha : PE X a' (tE X T F Z a)) (hb : PE X b' (tE X T F Z b)) (sa : notStar a' = true) (sb : notStar b' = true)
    (hw : swappedStores [.Tuple [.Name x px, .Name y py] kt pt] (.Tuple [a', b'] k2 pt2) X.env = pure (some [x, y])) :
    PS X (.Assign [.Tuple [.Name x px, .Name y py] kt pt] (.Tuple [a', b'] k2 pt2) pos) (tS X T Z (ex F M (.par i j a b))) := by
  refine wkS (ps_par hc hN hi hj hij hx hy (pa_cons ha (pa_cons hb pa_nil (star_of sb)) (star_of sa)) hw) ?_
  rintro En σ H ⟨ρ, W, R, h⟩
  refine ⟨ρ, W, R, (PostE.bind h).post R fun p1 ρ1 h1 v H1 W1 o1 => ⟨ρ1, W1, o1.go.rel, (((PostE.bind h1).move o1.go.s).post o1.go.rel fun p2 ρ2 h2 u H2 W2 o2 => ?_)⟩⟩
  dsimp only at h2
  split at h2
  · rename_i x y
    obtain ⟨ρ', e1, h3⟩ := PostS.val .putVs h2
    refine ⟨v, u, rfl, ?_⟩
    have rx : RepD T.K H2 W2 v x := RepD.adv o1.go.rel.wl (o2.go.step.adv o1.go.rel) (show RepD T.K H1 W1 v x from o1.rep)
    have ry : RepD T.K H2 W2 u y := o2.rep
    obtain ⟨g, _⟩ := puts_go (vs := [v, u]) o2.go.rel e1 ⟨v, [u], rfl, rx, u, [], rfl, ry, rfl⟩
    exact h3 _ _ _ ((o1.go.trans o2.go).s.trans g)
  · exact h2.elim
theorem st_setI {i : Nat} {ix e : Ex} {y : Str} {yp ip pos : Pos} {ix' v : Expr} (hsl : notSlice ix' = true) (hv : PE X (.Name y yp) (tVar i)) (hi : PE X ix' (tE X T F Z ix)) (he : PE X v (tE X T F Z e)) : PS X (.Assign [.Subscript (.Name y yp) ix' ip] v pos) (tS X T Z (ex F M (.setI i ix e))) := by
  have hs : swapsWithSole [.Subscript (.Name y yp) ix' ip] v pos.line X.env = pure false := by
    show swapsWith v (some (.Subscript (.Name y yp) ix' ip)) pos.line X.env = pure false
    cases v <;> rfl
  refine wkS (ps_asg he (pg_sub hv hi set_list (by cases ix' <;> first | (intro _; rfl) | cases hsl)) hs rfl rfl) ?_
  rintro En σ H ⟨ρ, W, R, h⟩
  refine ⟨ρ, W, R, (PostE.bind h).post R fun p1 ρ1 h1 v H1 W1 o1 => ?_⟩
  obtain ⟨⟨p0, ρ0⟩, e0, h1⟩ := PostS.val .evVar h1
  obtain ⟨e00, v0, s0, q0⟩ := slot_peek e0 o1.go.rel
  subst e00
  refine ⟨v0, s0, ρ0, W1, o1.go.rel, ((PostE.bind h1).move o1.go.s).post o1.go.rel fun p2 ρ2 h2 u H2 W2 o2 => ?_⟩
  have o1' := o1.later o2.go
  obtain ⟨⟨d, ρ3⟩, e3, h2⟩ := PostS.val .of h2
  obtain ⟨W3, g3, r3⟩ := o1'.data (of_ok e3)
  obtain ⟨k, e4, h2⟩ := PostS.val .pk h2
  obtain ⟨ρ', e5, h2⟩ := PostS.val (.mutSlot fun _ => .dSet) h2
  -- the index stands behind the freezing
  obtain ⟨W3', R3', r3', s3', m3', l3'⟩ := toD_ok o1'.go.rel o1'.rep (of_ok e3)
  have rp2 : RepP T σ H2 ρ3 W3' u p2 := o2.rep.stepX o2.go.rel s3' m3' (tmp_w o1'.rep) fun d a e1 e2 z => by
    subst e1
    cases p1 with
    | val d => exact z
    | at_ j => exact z
    | own d1 =>
      have n2 := o2.new d rfl a e2
      obtain ⟨a', o', ea, ha, _⟩ := o1.rep
      rw [show v = .ref a from z] at ea
      cases ea
      rw [n2] at ha; cases ha
  have kk := peek_ok R3' rp2 (pk_of e4)
  have rel3 : Go T σ H ρ W H2 ρ3 W3' := ⟨R3', o1'.go.step.then s3' fun a z => by
    cases p1 with
    | val d => exact z.elim
    | at_ j => exact z.elim
    | own d1 => exact o1.new d1 rfl a z, o1'.go.mon.trans m3', o1'.go.dom, o1'.go.lk.trans l3'⟩
  exact set_slot R3' s0 kk r3' e5 fun H' g => h2 _ _ _ (rel3.trans g).s
theorem st_aug {i : Nat} {op : Operator} {e : Ex} {y : Str} {yp pos : Pos} {v : Expr} (hN : X.N.Nodup) (hi : X.N[i]? = some y) (hl : Loc X.env.scope y) (hf : X.fn y = true) (he : PE X v (tE X T F Z e)) : PS X (.AugAssign (.Name y yp) op v pos) (tS X T Z (ex F M (.aug i op e))) := by
  refine wkS (ps_aug hN hi hl he (ip_aug op) (.inl hf)) ?_
  rintro En σ H ⟨ρ, W, R, h⟩
  simp only [ex] at h
  split at h
  · rename_i x es
    obtain ⟨o, e1, v0, rfl, r0⟩ := R.at_ i _ es
    refine ⟨v0, e1, ρ, W, R, (PostE.bind h).post R fun p1 ρ1 h1 u H1 W1 o1 => ?_⟩
    obtain ⟨y, ey, h1⟩ := PostS.val .pk h1
    obtain ⟨z, ez, h1⟩ := PostS.val .dAug h1
    obtain ⟨ρ', e5, h1⟩ := PostS.val .putV h1
    refine aug_ok (K := T.K) (W := W1) (RepD.k (r0.adv R.wl (o1.go.step.adv R))) (peek_ok o1.go.rel o1.rep (pk_of ey)) ez fun w rw' => ?_
    obtain ⟨g, _⟩ := put_go o1.go.rel e5 rw'
    exact h1 _ _ _ (o1.go.s.trans g)
  · exact h.elim
theorem st_augI {i : Nat} {op : Operator} {ix e : Ex} {y : Str} {yp ip pos : Pos} {ix' v : Expr} (hsl : notSlice ix' = true) (tk : T.K = X.K) (hv : PE X (.Name y yp) (tVar i)) (hi : PE X ix' (tE X T F Z ix)) (he : PE X v (tE X T F Z e)) : PS X (.AugAssign (.Subscript (.Name y yp) ix' ip) op v pos) (tS X T Z (ex F M (.augI i op ix e))) := by
  refine wkS (ps_augS hv hi get_listP he (ip_aug op) set_list (by cases ix' <;> first | (intros; rfl) | cases hsl)) ?_
  rintro En σ H ⟨ρ, W, R, h⟩
  obtain ⟨⟨p0, ρ0⟩, e0, h⟩ := PostS.val (r := evVar i ρ) .evVar h
  obtain ⟨e00, v0, s0, q0⟩ := slot_peek e0 R
  subst e00
  refine ⟨v0, s0, ρ0, W, R, (PostE.bind h).post R fun p1 ρ1 h1 u H1 W1 o1 => ?_⟩
  obtain ⟨x, ex0, h1⟩ := PostS.val .pk h1
  have h1' : isLst x = true ∧ PostS X Z T ((pk p1 ρ1).bind fun k => (dIdx x k).bind fun u => (ev F e ρ1).bind fun r => (pk r.1 r.2).bind fun y => (dAug op u y).bind fun z => (mutSlot i r.2 fun d => dSet d k z).bind fun ρ' => .ok (.nx, ρ')) σ H ρ0 W En := by
    dsimp only at h1
    unfold need at h1
    split at h1
    · exact ⟨by assumption, h1⟩
    · exact h1.elim
  obtain ⟨lx, h1⟩ := h1'
  obtain ⟨k, ek, h1⟩ := PostS.val .pk h1
  obtain ⟨w, ew, h1w⟩ := PostS.val .dIdx h1
  clear h1
  have kx := peek_ok o1.go.rel (q0.step R o1.go.step o1.go.mon) (pk_of ex0)
  have kk := peek_ok o1.go.rel o1.rep (pk_of ek)
  cases x with
  | lst l =>
    obtain ⟨a, us, ea, ha, r⟩ := kx.lst
    cases k with
    | int n =>
      obtain ⟨vw, e2, rw2⟩ := atI_rep r (of_ok (show Rs.of (atI l n) = .ok w from ew))
      refine ⟨a, us, n, vw, ea, kk.int, by rw [← tk]; exact .of ha, e2, ρ1, W1, o1.go.rel, ((PostE.bind h1w).move o1.go.s).post o1.go.rel fun p2 ρ2 h2 u2 H2 W2 o2 => ?_⟩
      obtain ⟨y, ey, h2⟩ := PostS.val .pk h2
      obtain ⟨z, ez, h2⟩ := PostS.val .dAug h2
      obtain ⟨ρ', e5, h2⟩ := PostS.val (.mutSlot fun _ => .dSet) h2
      refine aug_ok (K := T.K) (W := W2) (RepD.k (rw2.adv o1.go.rel.wl (o2.go.step.adv o1.go.rel))) (peek_ok o2.go.rel o2.rep (pk_of ey)) ez fun w' rw' => ?_
      refine set_slot o2.go.rel s0 (k := .int n) (.inr kk.int) rw' e5 fun H' g => h2 _ _ _ ((o1.go.trans o2.go).trans g).s
    | _ => cases ew
  | _ => cases lx
theorem st_expr {e : Ex} {v : Expr} {pos : Pos} (hn : notComp v = true) (he : PE X v (tE X T F Z e)) : PS X (.Expr v pos) (tS X T Z (ex F M (.expr e))) := by
  refine wkS (ps_expr he (swap_no hn)) ?_
  rintro En σ H ⟨ρ, W, R, h⟩
  exact ⟨ρ, W, R, (PostE.bind h).post R fun p1 ρ1 h1 v H1 W1 o1 => h1 _ _ _ o1.go.s⟩
theorem st_ret {e : Ex} {v : Expr} {pos : Pos} (he : PE X v (tE X T F Z e)) : PS X (.Return (some v) pos) (tS X T Z (ex F M (.ret e))) := by
  refine wkS (ps_ret he) ?_
  rintro En σ H ⟨ρ, W, R, h⟩
  exact ⟨ρ, W, R, (PostE.bind h).post R fun p1 ρ1 h1 v H1 W1 o1 => h1 _ _ _ _ (OutS.of o1)⟩
theorem st_retN {pos : Pos} : PS X (.Return none pos) (tS X T Z (ex F M .retN)) := by
  refine wkS ps_retN ?_
  rintro En σ H ⟨ρ, W, R, h⟩
  exact h .non σ H W ⟨GoS.refl R, rfl, fun _ e => by cases e⟩
theorem st_ite {c : Tx} {a b : Sxs} {c' : Expr} {a' b' : List Stmt} {pos : Pos} (hc : PT X c' (tT X T F Z c)) (ha : PSs X a' (tS X T Z (exs F M a))) (hb : PSs X b' (tS X T Z (exs F M b))) : PS X (.If c' a' b' pos) (tS X T Z (ex F M (.ite c a b))) := by
  refine wkS (ps_if hc ha hb) ?_
  rintro En σ H ⟨ρ, W, R, h⟩
  refine ⟨ρ, W, R, (PostE.bind h).post R fun k ρ1 h1 H1 W1 g1 => ?_⟩
  cases k with
  | true => rw [if_pos rfl]; exact ⟨ρ1, W1, g1.rel, PostS.move h1 g1.s⟩
  | false => rw [if_neg (by simp)]; exact ⟨ρ1, W1, g1.rel, PostS.move h1 g1.s⟩
theorem st_whl {c : Tx} {b : Sxs} {c' : Expr} {b' : List Stmt} {pos : Pos} (hp : PassesOwn (model X.prog X.w) X.A X.env X.xe) (hc : PT X c' (tT X T F Z c)) (hb : PSs X b' (tS X T Z (exs F M b))) : PS X (.While c' b' [] pos) (tS X T Z (ex F M (.whl c b))) := by
  refine wkS (ps_while hp hc hb) ?_
  rintro En σ H ⟨ρ, W, R, h⟩
  refine ⟨fun m σ H => ∃ ρ W, Rel T σ H ρ W ∧ PostS X Z T (whileR (evT F c) (exs F M b) m ρ) σ H ρ W En, ⟨M, ρ, W, R, h⟩, ?_⟩
  rintro m σ H ⟨ρ, W, R, h⟩
  cases m with
  | zero => exact h.elim
  | succ m =>
    refine ⟨ρ, W, R, (PostE.bind (r := evT F c ρ) h).post R fun k ρ1 h1 H1 W1 g1 => ?_⟩
    cases k with
    | false => rw [if_neg (by simp)]; exact h1 _ _ _ g1.s
    | true =>
      rw [if_pos rfl]
      refine ⟨fun σ H => ∃ ρ W, Rel T σ H ρ W ∧ PostS X Z T (whileR (evT F c) (exs F M b) m ρ) σ H ρ W En, fun σ' H' q => ⟨m, Nat.lt_succ_self m, q⟩, ρ1, W1, g1.rel, ?_⟩
      have h2 : PostS X Z T ((exs F M b ρ1).bind fun q => match q.1 with
        | .nx => whileR (evT F c) (exs F M b) m q.2
        | .ct => whileR (evT F c) (exs F M b) m q.2
        | .bk => .ok (.nx, q.2)
        | .rt p => .ok (.rt p, q.2)) σ H1 ρ1 W1 En := PostS.move h1 g1.s
      cases e : exs F M b ρ1 with
      | bad => rw [e] at h2; exact h2
      | err er => rw [e] at h2; exact h2
      | ok q =>
        obtain ⟨f, ρ2⟩ := q
        rw [e] at h2
        cases f with
        | nx => exact fun σ' H' W' g => ⟨ρ2, W', g.rel, PostS.move h2 g⟩
        | ct => exact fun σ' H' W' g => ⟨ρ2, W', g.rel, PostS.move h2 g⟩
        | bk => exact h2
        | rt p => exact h2
theorem st_for {tg : Tg} {it : Ie} {b : Sxs} {tg' it' : Expr} {b' : List Stmt} {pos : Pos} (tk : T.K = X.K) (hp : PassesOwn (model X.prog X.w) X.A X.env X.xe) (hc : X.calm = true) (hi : PI X tg' it' (tI X T F Z it)) (hg : PG X tg' (gT X.K tg)) (hb : PSs X b' (tS X T Z (exs F M b)))
    (hs : ∀ x, foldedSetIterable it' X.env x = pure x) : PS X (.For tg' it' b' [] pos) (tS X T Z (ex F M (.for_ tg it b))) := by
  refine wkS (ps_for hp hc hi hg hb hs) ?_
  rintro En σ H ⟨ρ, W, R, h⟩
  refine ⟨ρ, W, R, (PostE.bind h).post R fun lp ρ1 h1 J H1 W1 g1 feed => ?_⟩
  obtain ⟨l, p⟩ := lp
  dsimp only at h1 feed
  generalize hbody : (fun (d : D) (ρ1 : Env') => (asgT tg d ρ1).bind (exs F M b)) = body at h1
  have h1 : PostS X Z T ((forR body l (lockP p ρ1).2).bind (endFor (lockP p ρ1).1)) σ H1 ρ1 W1 En := PostS.move h1 g1.s
  have gl := lock_go g1.rel p
  refine ⟨fun i m σ' H' => m = l.length - i ∧ i ≤ l.length ∧ ∃ ρi Wi, Rel T σ' H' ρi Wi ∧ GoS T σ H1 (lockP p ρ1).2 W1 σ' H' ρi Wi ∧ forR body l (lockP p ρ1).2 = forR body (l.drop i) ρi,
    ⟨_, rfl, Nat.zero_le _, _, _, gl.rel, GoS.refl gl.rel, rfl⟩, ?_⟩
  rintro i m σ' H' ⟨rfl, hil, ρi, Wi, Ri, gi, ei⟩
  obtain ⟨fd, fs⟩ := feed _ _ _ _ Ri gi.step
  by_cases hlt : i < l.length
  · have hd : l[i]? = some l[i] := List.getElem?_eq_getElem hlt
    refine .inr ⟨(fd i _ hd).1, fun σ' H' => ∃ ρi Wi, Rel T σ' H' ρi Wi ∧ GoS T σ H1 (lockP p ρ1).2 W1 σ' H' ρi Wi ∧ forR body l (lockP p ρ1).2 = forR body (l.drop (i + 1)) ρi, fun σ2 H2 q => ⟨_, by omega, rfl, hlt, q⟩, fun x H2 y => ?_⟩
    obtain ⟨ly, rx⟩ := (fd i _ hd).2 x H2 y
    rw [drop_cons hd] at ei
    have ei : forR body l (lockP p ρ1).2 = (body l[i] ρi).bind fun q => match q.1 with
      | .nx => forR body (l.drop (i + 1)) q.2
      | .ct => forR body (l.drop (i + 1)) q.2
      | .bk => .ok (.nx, q.2)
      | .rt p => .ok (.rt p, q.2) := ei
    rw [ei] at h1
    have hbi : body l[i] ρi = (asgT tg l[i] ρi).bind (exs F M b) := by rw [← hbody]
    rw [hbi] at h1 ei
    have gy := Lay.go Ri ly
    cases ea : asgT tg l[i] ρi with
    | bad => rw [ea] at h1; exact h1.elim
    | err x => exact absurd ea (NoErr.asgT x)
    | ok ρ2 =>
      rw [ea] at h1 ei
      rw [← tk]
      refine gT_ok gy.rel ea rx fun σ3 g3 _ _ => ?_
      have gg := (gi.trans gy.s).trans g3
      refine ⟨ρ2, Wi, g3.rel, ?_⟩
      cases e : exs F M b ρ2 with
      | bad =>
        rw [show (Rs.ok ρ2).bind (exs F M b) = exs F M b ρ2 from rfl, e] at h1
        exact h1.elim
      | err er =>
        rw [show (Rs.ok ρ2).bind (exs F M b) = exs F M b ρ2 from rfl, e] at h1
        have h1 : ErrS X Z T er σ H1 ρ1 W1 := h1
        exact fun σ4 H4 ρ4 W4 g4 => h1 _ _ _ _ (gl.s.trans (gg.trans g4))
      | ok q =>
        obtain ⟨f, ρ4⟩ := q
        rw [show (Rs.ok ρ2).bind (exs F M b) = exs F M b ρ2 from rfl, e] at h1 ei
        cases f with
        | nx => exact fun σ4 H4 W4 g4 => ⟨ρ4, W4, g4.rel, gg.trans g4, ei⟩
        | ct => exact fun σ4 H4 W4 g4 => ⟨ρ4, W4, g4.rel, gg.trans g4, ei⟩
        | bk =>
          intro σ4 H4 W4 g4
          have h1 : PostS X Z T ((unlock (lockP p ρ1).1 ρ4).bind fun ρ => .ok (.nx, ρ)) σ H1 ρ1 W1 En := h1
          obtain ⟨ρ5, e5, h1⟩ := PostS.val .unlock h1
          exact h1 _ _ _ (unlock_go g1.rel (gg.trans g4) e5)
        | rt p2 =>
          intro v σ4 H4 W4 o4
          have h1 : EndS T σ H1 ρ1 W1 En (.rt p2) ρ4 := h1
          exact h1 v _ _ _ ((gl.s.trans gg).out o4)
  · have e : i = l.length := by omega
    subst e
    refine .inl ⟨fs, ?_⟩
    rw [List.drop_length] at ei
    rw [ei] at h1
    have h1 : PostS X Z T ((unlock (lockP p ρ1).1 ρi).bind fun ρ => .ok (.nx, ρ)) σ H1 ρ1 W1 En := h1
    obtain ⟨ρ5, e5, h1⟩ := PostS.val .unlock h1
    exact h1 _ _ _ (unlock_go g1.rel gi e5)
end
end Dv

set_option Elab.async false
set_option linter.all false
set_option maxRecDepth 100000
set_option maxHeartbeats 2000000
namespace Dv
open PySem PySem.Spec PyProof.Rows L2

section
variable {T : Tc} {F : Fn} {G : Gn} {np : Nat} {M : Nat}
theorem loc_of {sc : Scope} {x : Str} (h : isLoc sc x = true) : Loc sc x := by
  unfold isLoc at h
  split at h
  · rename_i e; exact .inl e
  · rename_i e; exact .inr e
  · cases h
theorem local_of {sc : Scope} {x : Str} (h : isLocal sc x = true) : sc.names.lookup x = some .local := by
  unfold isLocal at h
  split at h
  · rename_i e; exact e
  · cases h
theorem aug_of {a b : Operator} (h : augEq a b = true) : a = b := by cases a <;> cases b <;> first | rfl | cases h
/-- what a def's body runs in -/
structure Env2 (X : Cx) (T : Tc) (F : Fn) (Z : WX) (G : Gn) (np : Nat) : Prop extends Env1 X T F Z G np where
  fnT : ∀ x, X.fn x = true
  kind : X.env.scope.kind = .function
  po : PassesOwn (model X.prog X.w) X.A X.env X.xe
/-- a comprehension stored at once -/
theorem comp_set {X : Cx} {Z : WX} (E : Env1 X T F Z G np) {e : Ex} {v : Expr} {i : Nat} {y : Str} {py pos : Pos} (hy : X.N[i]? = some y) (h : ckE G X.N np X.env.scope e v = true) (hn : notComp v = false) (hl : isLocal X.env.scope y = true) (hsw : swapsWith v (some (.Name y py)) pos.line X.env = pure true) :
    PS X (.Assign [.Name y py] v pos) (tAsg (tE X T F Z e) (gName i)) := by
  cases v with
  | ListComp elt' gs scope cpos =>
    cases e with
    | comp elt tg it ifs own =>
      rcases gs with _ | ⟨⟨tg', it', ifs', as⟩, _ | ⟨_, _⟩⟩
      · cases h
      · obtain ⟨h1, h2⟩ := and2 h
        obtain ⟨h3, h4⟩ := and2 h1
        obtain ⟨h5, h6⟩ := and2 h3
        obtain ⟨h7, h8⟩ := and2 h5
        obtain ⟨h9, h10⟩ := and2 h7
        obtain ⟨h11, h12⟩ := and2 h9
        obtain ⟨h13, h14⟩ := and2 h11
        obtain ⟨h15, h16⟩ := and2 h13
        have h0 : as = 0 := of_decide_eq_true h15
        subst h0
        have ok := blkOk_by h12
        have ow : (own.map fun i => (X.N.getD i ⟨#[]⟩, i)).map (·.2) = own := by rw [List.map_map]; exact List.map_id' own
        have pc := ps_setLc (py := py) (spos := pos) (g := gT X.K tg) (wi := tI X T F Z it) (tt := tCl X T F Z0 ifs) (te := tE X T F Z0 elt) E.calm E.nd hy (local_of hl) hsw (snd_I it E h16) ok
          (fun s H C cl fp => tg_ok (X := X.blk s H scope (compEnvC scope cl C X.env) fp) (sc := scope) E.calm E.nd (fun x hx => by
            unfold isLoc at hx
            split at hx
            · rename_i e
              have : (relS scope X.env.scope).names.lookup x = some .local := lookup_relS_keep (by decide) e
              exact ⟨.inl this, .inr this⟩
            · rename_i e
              have : (relS scope X.env.scope).names.lookup x = some .cell := lookup_relS_keep (by decide) e
              exact ⟨.inr this, .inl (by show (scope.names.lookup x == some .cell) = true; rw [e]; rfl)⟩
            · cases hx) h6)
          (fun s H C cl fp => snd_C ifs (E.blk s H scope (compEnvC scope cl C X.env) fp) h4)
          (fun s H C cl fp => snd_E elt (E.blk s H scope (compEnvC scope cl C X.env) fp) h2) (fold_of h14)
        rw [ow] at pc
        refine wkS pc fun D σ H q => ?_
        refine comp_tLc E.tk (fun i hi => ?_) (fun i hi => ?_) q
        · cases hb : T.bm i with
          | none => rfl
          | some a =>
            have := E.bm i a hb
            rw [List.all_eq_true] at h10
            have h3 := of_decide_eq_true (h10 i hi)
            omega
        · rw [List.all_eq_true] at h8
          exact of_decide_eq_true (h8 i hi)
      · simp [ckE] at h
    | _ => simp [ckE, asCall] at h
  | SetComp _ _ _ _ => cases e <;> simp [ckE, asCall] at h
  | DictComp _ _ _ _ _ => cases e <;> simp [ckE, asCall] at h
  | _ => cases hn

theorem sole_no {v t : Expr} {n : Nat} {env : Env} (h : notComp v = true) : swapsWithSole [t] v n env = pure false := by
  unfold swapsWithSole
  exact swap_no h
theorem ck_two {s : Sx} {t u : Expr} {r : List Expr} {v : Expr} {pos : Pos} {N : List Str} {sc : Scope} (h : ckS G N np sc s (.Assign (t :: u :: r) v pos) = true) : False := by
  cases s <;> cases t <;> first | (cases h; done) | (rename_i es _ _; rcases es with _ | ⟨x, _ | ⟨y, _ | ⟨_, _⟩⟩⟩ <;> first | (cases h; done) | (cases x <;> first | (cases h; done) | (cases y <;> cases h))) | (rename_i o _ _; cases o <;> cases h)
theorem par_of {i j : Nat} {a b : Ex} {s' : Stmt} {N : List Str} {sc : Scope} (h : ckS G N np sc (.par i j a b) s' = true) : ∃ x px y py kt pt a' b' k2 pt2 pos, s' = .Assign [.Tuple [.Name x px, .Name y py] kt pt] (.Tuple [a', b'] k2 pt2) pos := by
  unfold ckS at h
  split at h
  all_goals first | (rename_i e _; cases e; done) | (cases h; done) | skip
  all_goals first | (simp_all; done) | skip
mutual
theorem snd_S : ∀ (s : Sx) {X : Cx} {Z : WX} (E : Env2 X T F Z G np) {s' : Stmt}, ckS G X.N np X.env.scope s s' = true → PS X s' (tS X T Z (ex F M s))
  | .set i e, X, Z, E, s', h => by
    cases s' with
    | Assign ts v pos =>
      rcases ts with _ | ⟨t, _ | ⟨_, _⟩⟩
      · cases h
      · cases t with
        | Name y py =>
          obtain ⟨h1, h2⟩ := and2 h
          obtain ⟨h3, h4⟩ := and2 h1
          obtain ⟨h5, h6⟩ := and2 h3
          have hy := of_decide_eq_true h5
          exact wkS (set_ok E.nd hy (loc_of h6) (E.fnT _) E.kind h4 (snd_E e E.toEnv1 h2) fun hn hl hsw => comp_set E.toEnv1 hy h2 hn hl hsw) fun D σ H q => set_read (F := F) q
        | _ => cases h
      · exact (ck_two h).elim
    | _ => cases h
  | .setT l e, X, Z, E, s', h => by
    cases s' with
    | Assign ts v pos =>
      rcases ts with _ | ⟨t, _ | ⟨_, _⟩⟩
      · cases h
      · cases t with
        | Tuple es k tp =>
          obtain ⟨h1, h2⟩ := and2 h
          obtain ⟨h3, h4⟩ := and2 h1
          obtain ⟨h5, h6⟩ := and2 h3
          have hg := tg_ok (X := X) (sc := X.env.scope) E.calm E.nd (fun x hx => ⟨loc_of hx, .inl (E.fnT x)⟩) h4
          exact st_setT E.tk (snd_E e E.toEnv1 h2) hg (sole_no h6) (by cases v <;> first | rfl | cases h5) rfl
        | _ => cases h
      · exact (ck_two h).elim
    | _ => cases h
  | .par i j a b, X, Z, E, s', h => by
    obtain ⟨x, px, y, py, kt, pt, a', b', k2, pt2, pos, rfl⟩ := par_of h
    obtain ⟨h1, h2⟩ := and2 h
    obtain ⟨h3, h4⟩ := and2 h1
    obtain ⟨h5, h6⟩ := and2 h3
    obtain ⟨h7, h8⟩ := and2 h5
    obtain ⟨h9, h10⟩ := and2 h7
    have hw := par_swap (pt := pt) (pt2 := pt2) (kt := kt) (k2 := k2) E.kind h6
    obtain ⟨g1, g2⟩ := and2 h6
    obtain ⟨g3, g4⟩ := and2 g1
    obtain ⟨g5, g6⟩ := and2 g3
    obtain ⟨g7, g8⟩ := and2 g5
    obtain ⟨g9, g10⟩ := and2 g7
    obtain ⟨g11, g12⟩ := and2 g9
    obtain ⟨g13, g14⟩ := and2 g11
    exact st_par E.calm E.nd (of_decide_eq_true h9) (of_decide_eq_true h10) (of_decide_eq_true h8) (local_of g13) (local_of g14) (snd_E a E.toEnv1 h4) (snd_E b E.toEnv1 h2) g8 g6 hw
  | .setI i ix e, X, Z, E, s', h => by
    cases s' with
    | Assign ts v pos =>
      rcases ts with _ | ⟨t, _ | ⟨_, _⟩⟩
      · cases h
      · cases t with
        | Subscript o ix' ip =>
          cases o with
          | Name y yp =>
            obtain ⟨h1, h2⟩ := and2 h
            obtain ⟨h3, h4⟩ := and2 h1
            obtain ⟨h5, h6⟩ := and2 h3
            obtain ⟨h7, h8⟩ := and2 h5
            obtain ⟨h9, h10⟩ := and2 h7
            obtain ⟨n1, n2, n3⟩ := name_of h8
            exact st_setI h6 (pe_var (of_decide_eq_true h9) (vis_of h10) n1 n2) (snd_E ix E.toEnv1 h4) (snd_E e E.toEnv1 h2)
          | _ => cases h
        | _ => cases h
      · exact (ck_two h).elim
    | _ => cases h
  | .aug i op e, X, Z, E, s', h => by
    cases s' with
    | AugAssign t op' v pos =>
      cases t with
      | Name y yp =>
        obtain ⟨h1, h2⟩ := and2 h
        obtain ⟨h3, h4⟩ := and2 h1
        obtain ⟨h5, h6⟩ := and2 h3
        have ho : op = op' := aug_of h5
        subst ho
        exact st_aug E.nd (of_decide_eq_true h6) (loc_of h4) (E.fnT _) (snd_E e E.toEnv1 h2)
      | _ => cases h
    | _ => cases h
  | .augI i op ix e, X, Z, E, s', h => by
    cases s' with
    | AugAssign t op' v pos =>
      cases t with
      | Subscript o ix' ip =>
        cases o with
        | Name y yp =>
          obtain ⟨h1, h2⟩ := and2 h
          obtain ⟨h3, h4⟩ := and2 h1
          obtain ⟨h5, h6⟩ := and2 h3
          obtain ⟨h7, h8⟩ := and2 h5
          obtain ⟨h9, h10⟩ := and2 h7
          obtain ⟨h11, h12⟩ := and2 h9
          have ho : op = op' := aug_of h11
          subst ho
          obtain ⟨n1, n2, n3⟩ := name_of h8
          exact st_augI h6 E.tk (pe_var (of_decide_eq_true h12) (vis_of h10) n1 n2) (snd_E ix E.toEnv1 h4) (snd_E e E.toEnv1 h2)
        | _ => cases h
      | _ => cases h
    | _ => cases h
  | .expr e, X, Z, E, s', h => by
    cases s' with
    | Expr v pos =>
      obtain ⟨h1, h2⟩ := and2 h
      exact st_expr h1 (snd_E e E.toEnv1 h2)
    | _ => cases h
  | .ret e, X, Z, E, s', h => by
    cases s' with
    | Return v pos =>
      cases v with
      | some v => exact st_ret (snd_E e E.toEnv1 h)
      | none => cases h
    | _ => cases h
  | .retN, X, Z, E, s', h => by
    cases s' with
    | Return v pos =>
      cases v with
      | some v => cases h
      | none => exact st_retN
    | _ => cases h
  | .ite c a b, X, Z, E, s', h => by
    cases s' with
    | If c' a' b' pos =>
      obtain ⟨h1, h2⟩ := and2 h
      obtain ⟨h3, h4⟩ := and2 h1
      exact st_ite (snd_T c E.toEnv1 h3) (snd_Ss a E h4) (snd_Ss b E h2)
    | _ => cases h
  | .whl c b, X, Z, E, s', h => by
    cases s' with
    | While c' b' el pos =>
      cases el with
      | nil =>
        obtain ⟨h1, h2⟩ := and2 h
        exact st_whl E.po (snd_T c E.toEnv1 h1) (snd_Ss b E h2)
      | cons _ _ => cases h
    | _ => cases h
  | .for_ tg it b, X, Z, E, s', h => by
    cases s' with
    | For tg' it' b' el pos =>
      cases el with
      | nil =>
        obtain ⟨h1, h2⟩ := and2 h
        obtain ⟨h3, h4⟩ := and2 h1
        obtain ⟨h5, h6⟩ := and2 h3
        have hg := tg_ok (X := X) (sc := X.env.scope) E.calm E.nd (fun x hx => ⟨loc_of hx, .inl (E.fnT x)⟩) h4
        exact st_for E.tk E.po E.calm (snd_I it E.toEnv1 h5) hg (snd_Ss b E h2) (fold_of h6)
      | cons _ _ => cases h
    | _ => cases h
  | .brk, X, Z, E, s', h => by
    cases s' with
    | Break pos =>
      refine wkS ps_break ?_
      rintro En σ H ⟨ρ, W, R, h⟩
      exact h _ _ _ (GoS.refl R)
    | _ => cases h
  | .cnt, X, Z, E, s', h => by
    cases s' with
    | Continue pos =>
      refine wkS ps_continue ?_
      rintro En σ H ⟨ρ, W, R, h⟩
      exact h _ _ _ (GoS.refl R)
    | _ => cases h
  | .pass, X, Z, E, s', h => by
    cases s' with
    | Pass pos =>
      refine wkS ps_pass ?_
      rintro En σ H ⟨ρ, W, R, h⟩
      exact h _ _ _ (GoS.refl R)
    | _ => cases h
theorem snd_Ss : ∀ (l : Sxs) {X : Cx} {Z : WX} (E : Env2 X T F Z G np) {l' : List Stmt}, ckSs G X.N np X.env.scope l l' = true → PSs X l' (tS X T Z (exs F M l))
  | .nil, X, Z, E, l', h => by
    cases l' with
    | nil =>
      refine wkSs pss_nil ?_
      rintro En σ H ⟨ρ, W, R, h⟩
      exact h _ _ _ (GoS.refl R)
    | cons _ _ => cases h
  | .cons s l, X, Z, E, l', h => by
    cases l' with
    | nil => cases h
    | cons s' l' =>
      obtain ⟨h1, h2⟩ := and2 h
      refine wkSs (pss_cons (snd_S s E h1) (snd_Ss l E h2)) ?_
      rintro En σ H ⟨ρ, W, R, h⟩
      refine ⟨ρ, W, R, ?_⟩
      have h : PostS X Z T ((ex F M s ρ).bind fun q => match q.1 with
        | .nx => exs F M l q.2
        | _ => .ok q) σ H ρ W En := h
      cases e : ex F M s ρ with
      | bad => rw [e] at h; exact h
      | err er => rw [e] at h; exact h
      | ok q =>
        obtain ⟨f, ρ1⟩ := q
        rw [e] at h
        cases f with
        | nx => exact fun σ' H' W' g => ⟨ρ1, W', g.rel, PostS.move h g⟩
        | bk => exact h
        | ct => exact h
        | rt p => exact h
end
end
end Dv

set_option Elab.async false
set_option linter.all false
set_option maxRecDepth 100000
set_option maxHeartbeats 1000000
namespace Dv
open PySem PySem.Spec PyProof.Rows L2

/-! ### a def keeps its promise -/
/-- what is known of a def, wherever it is called from -/
structure DefK (P : Program) (w : World) (K : PySem.W.Frag) (mg : Str → Option Value) (base : Heap) (F : Fn) (k : Nat) (f : Str) (np mn : Nat) : Prop where
  ex : ∃ (fa : Addr) (fd : FuncData) (ps : List Str), FnOk P w K mg base (L2.CX P w) k fa fd ps (spOf F mg K ps.length f) ∧ mg f = some (.ref fa) ∧ PySem.W.keepIn K (.ref fa) = true ∧
    ps.length = np ∧ (∀ as, F.call f as ≠ .bad → as.length = np) ∧
    ∀ n, mn ≤ n → n ≤ np → ∃ (ds : List Value) (dvs : List V), Binds K fd ps ds ∧ Vals dvs ds ∧ ∀ H W, RepDs K H W dvs (F.dfl f n)
theorem DefK.mono {P : Program} {w : World} {K : PySem.W.Frag} {mg : Str → Option Value} {base : Heap} {F : Fn} {j k : Nat} {f : Str} {np mn : Nat} (h : DefK P w K mg base F j f np mn) (le : j ≤ k) : DefK P w K mg base F k f np mn := by
  obtain ⟨fa, fd, ps, h1, h2⟩ := h.ex
  exact ⟨fa, fd, ps, h1.mono le, h2⟩
/-- what is known of the module's names -/
structure GloK (K : PySem.W.Frag) (mg : Str → Option Value) (F : Fn) (G : Gn) : Prop where
  glo : ∀ x d, F.glo x = some d → ∃ u v, mg x = some u ∧ RelV v u ∧ ∀ H W, RepD K H W v d
  free : ∀ x ∈ G.free, mg x = none
  bt : ∀ p ∈ G.bt, mg p.1 = some (.builtin p.2)

theorem rs_bind {α β : Type} {r : Rs α} {f : α → Rs β} {y : β} (h : r.bind f = .ok y) : ∃ x, r = .ok x ∧ f x = .ok y := by
  cases r with
  | ok a => exact ⟨a, rfl, h⟩
  | err _ => cases h
  | bad => cases h

def bmOf (vs : List V) (as : List A) (i : Nat) : Option Addr := match as[i]?, vs[i]? with
  | some (.own _), some (.ref a) => some a
  | some (.rd _), some (.ref a) => some a
  | _, _ => none

section
variable {K : PySem.W.Frag} {H : Hp} {W : AS} {vs : List V} {as : List A} {N : List Str}
theorem env_get {i n : Nat} {s : S} (h : (envOf n as)[i]? = some (some s)) : ∃ a, as[i]? = some a ∧ s = a.slot := by
  unfold envOf at h
  by_cases hi : i < as.length
  · rw [List.getElem?_append_left (by simpa using hi), List.getElem?_map] at h
    cases e : as[i]? with
    | none => rw [e] at h; cases h
    | some a => rw [e] at h; cases h; exact ⟨a, rfl, rfl⟩
  · rw [List.getElem?_append_right (by simpa using hi), List.getElem?_replicate] at h
    split at h <;> cases h
theorem env_at {i n : Nat} {a : A} (h : as[i]? = some a) : (envOf n as)[i]? = some (some a.slot) := by
  have hi := (List.getElem?_eq_some_iff.mp h).1
  unfold envOf
  rw [List.getElem?_append_left (by simpa using hi), List.getElem?_map, h]
  rfl
theorem start_at {i : Nat} {v : V} (h : vs[i]? = some v) : (L2.start N vs)[i]? = some (some v) := by
  have hi := (List.getElem?_eq_some_iff.mp h).1
  unfold L2.start
  rw [List.getElem?_append_left (by simpa using hi), List.getElem?_map, h]
  rfl
theorem start_get {i : Nat} {v : V} (h : (L2.start N vs)[i]? = some (some v)) : vs[i]? = some v := by
  unfold L2.start at h
  by_cases hi : i < vs.length
  · rw [List.getElem?_append_left (by simpa using hi), List.getElem?_map] at h
    cases e : vs[i]? with
    | none => rw [e] at h; cases h
    | some a => rw [e] at h; cases h; rfl
  · rw [List.getElem?_append_right (by simpa using hi), List.getElem?_replicate] at h
    split at h <;> cases h
theorem bm_mut {i : Nat} {b : Addr} (h : bmOf vs as i = some b) : vs[i]? = some (.ref b) ∧ ∃ a, as[i]? = some a ∧ isMut a ∧ isBor a.slot := by
  unfold bmOf at h
  split at h
  · rename_i e1 e2; cases h; exact ⟨e2, _, e1, trivial, trivial⟩
  · rename_i e1 e2; cases h; exact ⟨e2, _, e1, trivial, trivial⟩
  · cases h
theorem own_arg {i n : Nat} {b : Addr} (h : OwnA (L2.start N vs) (envOf n as) i b) : vs[i]? = some (.ref b) ∧ ∃ a, as[i]? = some a ∧ isMut a := by
  obtain ⟨h1, h2⟩ := h
  refine ⟨start_get h2, ?_⟩
  rcases h1 with ⟨c, d, e⟩ | ⟨c, d, e⟩
  all_goals
    obtain ⟨a, e1, e2⟩ := env_get e
    refine ⟨a, e1, ?_⟩
    cases a <;> first | trivial | cases e2
theorem rel_start (wl : WL H W) (ar : ArgR K H W vs as) : Rel ⟨K, fun a => H a = none, bmOf vs as⟩ (L2.start N vs) H (envOf N.length as) W := by
  have hl := ar.length
  refine ⟨?_, fun i s h => ?_, fun i j b h1 h2 => ?_, wl, fun i d a h _ => ?_, fun _ h => h, fun i b h => ?_⟩
  · unfold envOf L2.start
    simp [hl]
  · obtain ⟨a, e1, rfl⟩ := env_get h
    obtain ⟨v, e2, q⟩ := ar.get e1
    refine ⟨_, start_at e2, ?_⟩
    cases a with
    | val d => exact ⟨v, rfl, q⟩
    | own d => obtain ⟨b, o, rfl, x, y, z⟩ := q; exact ⟨b, o, rfl, x, y, z⟩
    | rd d => obtain ⟨b, o, rfl, x, y, z⟩ := q; exact ⟨b, o, rfl, x, y, z⟩
  · obtain ⟨v1, a1, x1, m1⟩ := own_arg h1
    obtain ⟨v2, a2, x2, m2⟩ := own_arg h2
    exact ar.dst x1 x2 m1 m2 v1 v2
  · rcases h with h | h
    all_goals
      obtain ⟨x, _, e⟩ := env_get h
      cases x <;> cases e
  · obtain ⟨e, a, e1, _, e2⟩ := bm_mut h
    exact ⟨start_at e, a.slot, env_at e1, e2⟩

theorem outs_get : ∀ {as r : List A} {ρ : Env'}, outArgs as ρ = .ok r → ∀ (j : Nat) (a x : A), as[j]? = some a → r[j]? = some x → outArg a ρ[j]? = .ok x
  | [], _, _, _, _, _, _, e, _ => by simp at e
  | b :: as, r, ρ, h, j, a, x, e1, e2 => by
    unfold outArgs at h
    cases h1 : outArg b ρ.head? with
    | bad => rw [h1] at h; cases h
    | err _ => rw [h1] at h; cases h
    | ok y =>
      rw [h1] at h
      change (outArgs as ρ.tail).bind _ = _ at h
      cases h2 : outArgs as ρ.tail with
      | bad => rw [h2] at h; cases h
      | err _ => rw [h2] at h; cases h
      | ok t =>
        rw [h2] at h
        cases h
        cases j with
        | zero =>
          cases e1; cases e2
          rw [← List.head?_eq_getElem?]
          exact h1
        | succ j =>
          have := outs_get h2 j a x (by simpa using e1) (by simpa using e2)
          cases ρ <;> simpa using this

theorem outs_same : ∀ {as r : List A} {ρ ρ2 : Env'}, outArgs as ρ2 = .ok r → (∀ (j : Nat) (x : A), as[j]? = some x → (∃ d, x = .val d) ∨ ρ2[j]? = ρ[j]?) → outArgs as ρ = .ok r
  | [], _, _, _, h, _ => h
  | b :: as, r, ρ, ρ2, h, w => by
    unfold outArgs at h ⊢
    obtain ⟨y, h1, h2⟩ := rs_bind h
    obtain ⟨t, h3, h4⟩ := rs_bind h2
    have e1 : outArg b ρ.head? = .ok y := by
      rcases w 0 b rfl with ⟨d, rfl⟩ | e
      · exact h1
      · rw [List.head?_eq_getElem?, ← e, ← List.head?_eq_getElem?]; exact h1
    have e2 : outArgs as ρ.tail = .ok t := outs_same h3 fun j x hj => by
      have := w (j + 1) x (by simpa using hj)
      rw [List.getElem?_tail, List.getElem?_tail]
      exact this
    rw [e1]
    show (outArgs as ρ.tail).bind _ = _
    rw [e2]
    exact h4

theorem end_ok {T : Tc} {H' : Hp} {W' : AS} {σ' : Sg} {ρ' : Env'} {r : Re} {as' : List A} {v : V} (hT : T = ⟨K, fun a => H a = none, bmOf vs as⟩) (ar : ArgR K H W vs as) (g : GoS T (L2.start N vs) H (envOf N.length as) W σ' H' ρ' W') (ho : outArgs as ρ' = .ok as')
    (hr : ResR K H H' W' v r) : CallEnd K H W vs as r as' v H' W' := by
  subst hT
  refine ⟨fun b o h n => ?_, g.dom, g.rel.wl, fun j v a x e1 e2 e3 => ?_, hr⟩
  · obtain ⟨h1, _, h2⟩ := g.step b o h fun i ⟨⟨c, d, e⟩, q⟩ => by
      obtain ⟨a, e1, e2⟩ := env_get e
      cases a with
      | own d => exact n ⟨i, d, e1, start_get q⟩
      | _ => cases e2
    exact ⟨h1, h2⟩
  · have ho := outs_get ho j a x e2 e3
    cases a with
    | val d => cases x <;> trivial
    | rd d => cases x <;> trivial
    | own d =>
      obtain ⟨v', e4, b, o, rfl, _⟩ := ar.get e2
      rw [e1] at e4; cases e4
      have hb : bmOf vs as j = some b := by unfold bmOf; rw [e2, e1]
      obtain ⟨hs, s, hs2, _⟩ := g.rel.bor j b hb
      rw [hs2] at ho
      obtain ⟨o', e5, q⟩ := g.rel.at_ j s hs2
      rw [hs] at e5; cases e5
      cases s with
      | val d => cases ho
      | own c d => cases c with
        | true => cases ho; obtain ⟨b', o', z, q⟩ := q; cases z; exact ⟨b, o', rfl, q⟩
        | false => cases ho
      | lck c d => cases c with
        | true => cases ho; obtain ⟨b', o', z, q⟩ := q; cases z; exact ⟨b, o', rfl, q⟩
        | false => cases ho
      | brz d => cases ho; obtain ⟨v', z, q⟩ := q; cases z; exact q
end

theorem NoErr.outArgs : ∀ {as : List A} {ρ : Env'} {e : Er}, outArgs as ρ ≠ .err e
  | [], _, _, h => by cases h
  | a :: as, ρ, e, h => by
    unfold Dv.outArgs at h
    cases h1 : outArg a ρ.head? with
    | bad => rw [h1] at h; cases h
    | err _ =>
      unfold outArg at h1
      split at h1 <;> first | cases h1 | (split at h1 <;> cases h1)
    | ok y =>
      rw [h1] at h
      change (Dv.outArgs as ρ.tail).bind _ = _ at h
      cases h2 : Dv.outArgs as ρ.tail with
      | bad => rw [h2] at h; cases h
      | err _ => exact NoErr.outArgs h2
      | ok t => rw [h2] at h; cases h
theorem fin_noerr {as : List A} {q : Fl × Env'} {e : Er} : finish as q ≠ .err e := fun h => by
  obtain ⟨f, ρ⟩ := q
  cases f with
  | nx =>
    change (outArgs as ρ).bind _ = _ at h
    cases h2 : outArgs as ρ with
    | bad => rw [h2] at h; cases h
    | err _ => exact NoErr.outArgs h2
    | ok t => rw [h2] at h; cases h
  | rt p =>
    change (retOf p ρ).bind _ = _ at h
    cases h1 : retOf p ρ with
    | bad => rw [h1] at h; cases h
    | err _ =>
      unfold retOf at h1
      split at h1 <;> first | cases h1 | (split at h1 <;> cases h1)
    | ok t =>
      rw [h1] at h
      change (outArgs as t.2).bind _ = _ at h
      cases h2 : outArgs as t.2 with
      | bad => rw [h2] at h; cases h
      | err _ => exact NoErr.outArgs h2
      | ok t => rw [h2] at h; cases h
  | bk => cases h
  | ct => cases h

/-- THE RULE: a def, by its body's value -/
theorem def_ok {P : Program} {w : World} {K : PySem.W.Frag} {mg : Str → Option Value} {base : Heap} {k : Nat} {fa : Addr} {name qual : Str} {params : Arguments} {body : List Stmt} {scope : Scope} {dV kV doc pm cdv ct oc : Value} {an od : Option Addr}
    {osl : Array (Option Value)} {N ps : List Str} {F F2 : Fn} {G : Gn} {f : Str} {b : Sxs} (lk : K.lookup fa = some ⟨oc, od, .func (PySem.W.fnOf name qual params body scope dV kV doc pm an cdv ct), osl⟩) (hcd : PySem.W.codeIn K cdv qual = true) (S : FnScope N ps scope)
    (gk : GloK K mg F G) (hfs : ∀ p ∈ G.fs, DefK P w K mg base F k p.1 p.2.1 p.2.2) (hc : ckSs G N ps.length scope b body = true)
    (hF : ∀ as, F2.call f as ≠ .bad → as.length = ps.length ∧ ∃ M, runDef F M N.length b as = F2.call f as) :
    FnOk P w K mg base (L2.CX P w) (k + 1) fa (PySem.W.fnOf name qual params body scope dV kV doc pm an cdv ct) ps (spOf F2 mg K ps.length f) := by
  refine fn_of lk hcd S (fun vs H Q E h => h.1) fun A outer s H vs Q E hr ⟨hl, W, as, wl, ar, q⟩ => ?_
  have nb : F2.call f as ≠ .bad := fun e => by rw [e] at q; exact q
  obtain ⟨_, M, hM⟩ := hF as nb
  have E2 : Env2 (cxOf (L2.CX P w) P w K mg base N qual scope fa cdv A outer s H E) ⟨K, fun a => H a = none, bmOf vs as⟩ F (fun cls d _ H => E cls d H) G ps.length := by
    refine ⟨⟨rfl, rfl, S.nd, ?_, gk.glo, gk.free, gk.bt, fun p hp => ?_, takes_of rfl rfl rfl rfl, fun i a h => ?_⟩, fun _ => rfl, S.kind, passes_of rfl⟩
    · have := hr.un
      show (A.deeper (envOfC qual scope s.heap.objs.size fa cdv)).units + 65 < cLine
      omega
    · obtain ⟨fa', fd', ps', h1, h2, h3, h4, h5, h6⟩ := (hfs p hp).ex
      exact ⟨k, fa', fd', ps', h1, hr, h2, h3, h4, h5, h6⟩
    · obtain ⟨h1, _⟩ := bm_mut h
      have := (List.getElem?_eq_some_iff.mp h1).1
      omega
  have R := rel_start (N := N) wl ar
  refine ⟨_, snd_Ss (M := M) b E2 hc, envOf N.length as, W, R, ?_⟩
  unfold runDef at hM
  cases hx : exs F M b (envOf N.length as) with
  | bad =>
    rw [hx] at hM
    exact nb hM.symm
  | err er =>
    rw [hx] at hM
    rw [← hM] at q
    intro σ1 H1 ρ1 W1 g cls d H' e kp
    refine q cls d H' e fun x o h n => ?_
    obtain ⟨h1, n1, _⟩ := g.step x o h fun i ⟨⟨c, d, e⟩, z⟩ => by
      obtain ⟨a, e1, e2⟩ := env_get e
      cases a with
      | own d => exact n ⟨i, d, e1, start_get z⟩
      | _ => cases e2
    exact kp x o h1 n1
  | ok y =>
    obtain ⟨fl, ρ'⟩ := y
    rw [hx] at hM
    change finish as (fl, ρ') = F2.call f as at hM
    cases hcall : F2.call f as with
    | bad => exact absurd hcall nb
    | err er => rw [hcall] at hM; exact absurd hM fin_noerr
    | ok ra =>
      obtain ⟨r, as'⟩ := ra
      rw [hcall] at q hM
      change ∀ v H' W', CallEnd K H W vs as r as' v H' W' → Q v H' at q
      cases fl with
      | bk => cases hM
      | ct => cases hM
      | nx =>
        obtain ⟨t, h1, h2⟩ := rs_bind (show (outArgs as ρ').bind _ = _ from hM)
        cases h2
        intro σ' H' W' g
        exact q _ _ _ (end_ok rfl ar g h1 rfl)
      | rt p =>
        obtain ⟨⟨r', ρ2⟩, h1, h2⟩ := rs_bind (show (retOf p ρ').bind _ = _ from hM)
        obtain ⟨t, h3, h4⟩ := rs_bind (show (outArgs as ρ2).bind _ = _ from h2)
        cases h4
        intro v σ' H' W' o
        cases p with
        | val d =>
          cases h1
          exact q _ _ _ (end_ok rfl ar o.go h3 o.rep)
        | own d =>
          cases h1
          obtain ⟨a, ob, rfl, h5, h6, _, h7, h8⟩ := o.rep
          exact q _ _ _ (end_ok rfl ar o.go h3 ⟨a, ob, rfl, h7, h5, h6, h8⟩)
        | at_ i =>
          have hv : σ'[i]? = some (some v) := o.rep
          unfold retOf at h1
          dsimp only at h1
          split at h1
          · rename_i d e
            cases h1
            obtain ⟨ov, e1, a, ob, e2, h5, h6, h8⟩ := o.go.rel.at_ i _ e
            rw [hv] at e1; cases e1; cases e2
            have h7 := o.go.rel.fr i d a (.inl e) hv
            have hn : ∀ j x, as[j]? = some x → isMut x → j ≠ i := fun j x hj hm e5 => by
              subst e5
              cases x with
              | val d => exact hm
              | rd d =>
                obtain ⟨v', e6, b', _, rfl, _⟩ := ar.get hj
                have hb : bmOf vs as j = some b' := by unfold bmOf; rw [hj, e6]
                obtain ⟨_, s, e7, e8⟩ := o.go.rel.bor j b' hb
                rw [e] at e7; cases e7; exact e8
              | own d =>
                obtain ⟨v', e6, b', _, rfl, _⟩ := ar.get hj
                have hb : bmOf vs as j = some b' := by unfold bmOf; rw [hj, e6]
                obtain ⟨_, s, e7, e8⟩ := o.go.rel.bor j b' hb
                rw [e] at e7; cases e7; exact e8
            have h9 : outArgs as ρ' = .ok as' := outs_same h3 fun j x hj => by
              by_cases hm : isMut x
              · exact .inr (by rw [List.getElem?_set_ne (Ne.symm (hn j x hj hm))])
              · cases x with
                | val d => exact .inl ⟨d, rfl⟩
                | _ => exact absurd trivial hm
            exact q _ _ _ (end_ok rfl ar o.go h9 ⟨a, ob, rfl, h7, h5, h6, h8⟩)
          · rename_i d e
            cases h1
            obtain ⟨W2, R2, rd, st, mo⟩ := freeze_at o.go.rel e hv
            have g2 : GoS ⟨K, fun a => H a = none, bmOf vs as⟩ σ' H' ρ' W' σ' H' (ρ'.set i (some (thaw true d))) W2 := ⟨R2, st, fun _ h => h, fun j b hb => .inl ⟨j, mo j b hb⟩, fun j b d hj => ⟨by
              have ne : i ≠ j := fun z => by subst z; rw [e] at hj; cases hj
              rw [List.getElem?_set_ne ne]; exact hj, rfl⟩⟩
            exact q _ _ _ (end_ok rfl ar (o.go.trans g2) h3 rd)
          · cases h1
end Dv

set_option Elab.async false
set_option linter.all false
set_option maxRecDepth 100000
set_option maxHeartbeats 1000000
namespace Dv
open PySem PySem.Spec PyProof.Rows L2

/-! ### a module's defs, one behind another -/
/-- a def: its name, how many parameters, how few arguments, how many slots, its text, what fills up a call with n arguments -/
structure Dm where
  f : Str
  np : Nat
  mn : Nat
  n : Nat
  body : Sxs
  dfl : Nat → List D := fun _ => []
/-- what the defs compute; each one calls only those behind it -/
noncomputable def mkF (glo : Str → Option D) (M : Nat) : List Dm → Fn
  | [] => ⟨fun _ _ => .bad, glo, fun _ _ => []⟩
  | d :: ds => ⟨fun f as => if f = d.f then (if as.length = d.np then runDef (mkF glo M ds) M d.n d.body as else .bad) else (mkF glo M ds).call f as, glo, fun f n => if f = d.f then d.dfl n else (mkF glo M ds).dfl f n⟩
def gnOf (free : List Str) (bt : List (Str × String)) (ds : List Dm) : Gn := ⟨free, bt, ds.map fun e => (e.f, e.np, e.mn)⟩
structure GloF (K : PySem.W.Frag) (mg : Str → Option Value) (glo : Str → Option D) (free : List Str) (bt : List (Str × String)) : Prop where
  glo : ∀ x d, glo x = some d → ∃ u v, mg x = some u ∧ RelV v u ∧ ∀ H W, RepD K H W v d
  free : ∀ x ∈ free, mg x = none
  bt : ∀ p ∈ bt, mg p.1 = some (.builtin p.2)
section
variable {P : Program} {w : World} {K : PySem.W.Frag} {mg : Str → Option Value} {base : Heap} {glo : Str → Option D} {M : Nat} {ds : List Dm} {k : Nat} {free : List Str} {bt : List (Str × String)}
theorem mkF_glo : (mkF glo M ds).glo = glo := by cases ds <;> rfl
theorem GloF.gk (g : GloF K mg glo free bt) : GloK K mg (mkF glo M ds) (gnOf free bt ds) := ⟨by rw [mkF_glo]; exact g.glo, g.free, g.bt⟩
def AllK (P : Program) (w : World) (K : PySem.W.Frag) (mg : Str → Option Value) (base : Heap) (glo : Str → Option D) (M : Nat) (ds : List Dm) (k : Nat) : Prop := ∀ d ∈ ds, DefK P w K mg base (mkF glo M ds) k d.f d.np d.mn
theorem all_nil : AllK P w K mg base glo M [] k := fun d h => by cases h
theorem spOf_congr {F F' : Fn} {n : Nat} {f : Str} (h : F'.call f = F.call f) : spOf F' mg K n f = spOf F mg K n f := by
  funext vs H Q E
  unfold spOf
  rw [h]
/-- what a def needs to be called with fewer arguments -/
def BindsD (K : PySem.W.Frag) (fd : FuncData) (ps : List Str) (d : Dm) : Prop := ∀ n, d.mn ≤ n → n ≤ d.np → ∃ (ds' : List Value) (dvs' : List V), Binds K fd ps ds' ∧ Vals dvs' ds' ∧ ∀ H W, RepDs K H W dvs' (d.dfl n)
theorem mkF_self {d : Dm} (as : List A) : (mkF glo M (d :: ds)).call d.f as = if as.length = d.np then runDef (mkF glo M ds) M d.n d.body as else .bad := if_pos rfl
theorem law_fn {d : Dm} {x qual : Str} {params : Arguments} {body : List Stmt} {scope : Scope} {dvs : List V} {kws : List (Str × V)} {fa : Addr} {fd : FuncData} {N ps : List Str} (A : AllK P w K mg base glo M ds k) (g : GloF K mg glo free bt)
    (FD : FunD K x qual params body scope dvs kws fa fd) (S : FnScope N ps scope) (hN : N.length = d.n) (hp : ps.length = d.np) (hc : ckSs (gnOf free bt ds) N d.np scope d.body body = true) :
    FnOk P w K mg base (L2.CX P w) (k + 1) fa fd ps (spOf (mkF glo M (d :: ds)) mg K ps.length d.f) := by
  obtain ⟨oc, od, dV, kV, doc, pm, an, cdv, ct, osl, rfl, lk, hcd, _, _⟩ := FD.ex
  refine def_ok (F := mkF glo M ds) (b := d.body) lk hcd S g.gk (fun p hp => ?_) (by rw [hp]; exact hc) fun as h => ?_
  · obtain ⟨e, he, rfl⟩ := List.mem_map.mp hp
    exact A e he
  · rw [mkF_self] at h ⊢
    split at h
    · rename_i hl
      rw [if_pos hl, hp, hN]
      exact ⟨hl, M, rfl⟩
    · exact absurd rfl h
theorem all_cons {d : Dm} {x qual : Str} {params : Arguments} {body : List Stmt} {scope : Scope} {dvs : List V} {kws : List (Str × V)} {fa : Addr} {fd : FuncData} {N ps : List Str} (A : AllK P w K mg base glo M ds k) (g : GloF K mg glo free bt)
    (FD : FunD K x qual params body scope dvs kws fa fd) (S : FnScope N ps scope) (hn : (ds.all fun e => decide (e.f ≠ d.f)) = true) (hN : N.length = d.n) (hp : ps.length = d.np) (hc : ckSs (gnOf free bt ds) N d.np scope d.body body = true) (hm : mg d.f = some (.ref fa))
    (hb : BindsD K fd ps d) : AllK P w K mg base glo M (d :: ds) (k + 1) := by
  have hself := mkF_self (glo := glo) (M := M) (ds := ds) (d := d)
  have fn : FnOk P w K mg base (L2.CX P w) (k + 1) fa fd ps (spOf (mkF glo M (d :: ds)) mg K ps.length d.f) := law_fn A g FD S hN hp hc
  have one : DefK P w K mg base (mkF glo M (d :: ds)) (k + 1) d.f d.np d.mn := by
    refine ⟨fa, fd, ps, fn, hm, FD.kp, hp, fun as h => ?_, fun n h1 h2 => ?_⟩
    · rw [hself] at h
      split at h
      · assumption
      · exact absurd rfl h
    · obtain ⟨ds', dvs', b1, b2, b3⟩ := hb n h1 h2
      refine ⟨ds', dvs', b1, b2, fun H W => ?_⟩
      have : (mkF glo M (d :: ds)).dfl d.f n = d.dfl n := if_pos rfl
      rw [this]
      exact b3 H W
  intro e he
  rcases List.mem_cons.mp he with rfl | he
  · exact one
  · have ne : e.f ≠ d.f := of_decide_eq_true (List.all_eq_true.mp hn e he)
    have c1 : (mkF glo M (d :: ds)).call e.f = (mkF glo M ds).call e.f := funext fun as => if_neg ne
    have c2 : (mkF glo M (d :: ds)).dfl e.f = (mkF glo M ds).dfl e.f := funext fun n => if_neg ne
    obtain ⟨fa', fd', ps', h1, h2, h3, h4, h5, h6⟩ := (A e he).ex
    refine ⟨fa', fd', ps', ?_, h2, h3, h4, fun as h => h5 as (by rw [← c1]; exact h), fun n h7 h8 => ?_⟩
    · rw [spOf_congr c1]
      exact h1.mono (Nat.le_succ k)
    · rw [c2]
      exact h6 n h7 h8
/-- no defaults -/
theorem binds_all {d : Dm} {x qual : Str} {params : Arguments} {body : List Stmt} {scope : Scope} {kws : List (Str × V)} {fa : Addr} {fd : FuncData} {ps : List Str} (FD : FunD K x qual params body scope [] kws fa fd) (h1 : d.mn = d.np) (h2 : d.dfl d.np = [])
    (h : ∀ (kV doc pm : Value) (an : Option Addr) (cdv ct : Value) (us : List Value), us.length = ps.length → bindArgs (PySem.W.fnOf x qual params body scope .none kV doc pm an cdv ct) ⟨us, []⟩ = pure (ps.zip us)) : BindsD K fd ps d := fun n a b => by
  obtain rfl : n = d.np := Nat.le_antisymm b (h1 ▸ a)
  exact ⟨[], [], FD.bindsN h, .nil, fun H W => by rw [h2]; rfl⟩

/-! ### the law's end -/
theorem FnOk.ex {ι : Type} {CX : CXT} {f : Addr} {fd : FuncData} {ps : List Str} {sp : ι → Sp} (h : ∀ i, FnOk P w K mg base CX k f fd ps (sp i)) : FnOk P w K mg base CX k f fd ps fun vs H Q E => ∃ i, sp i vs H Q E :=
  ⟨fun vs H Q E ⟨i, z⟩ => (h i).len vs H Q E z, fun A outer s H args us vs Q E hr he hb hv ⟨i, z⟩ => (h i).run A outer s H args us vs Q E hr he hb hv z⟩
theorem walk_ofEB {l : PySem.W.OpenLaw} {n k : Nat} {q : Program} {loose : List Str} {XP : (Str → Option Value) → Heap → Prop} {YP : World → Heap → Prop} {d : DefRec} {CX : World → CXT} {x : Str}
    (hn : l.most = some n) (hn2 : n ≤ sizeLine) (hdf : d.params.defaults = []) (hr : Room k callerA)
    (F : ∀ (w : World) (mg : Str → Option Value) (fa : Addr) (h : Heap), YP w h → h.Ns mainGlobals mg → mg d.name = some (.ref fa) →
      ∃ (K : PySem.W.Frag) (fd : FuncData) (sp : Sp), K.In h ∧ (∀ (s : Shared) (u : Value), BindsTo s fd ⟨[u], []⟩ [(x, u)]) ∧
        (∀ (H : Hp) (a : Addr) (ns : List Int), ns.length ≤ n → (∀ z ∈ ns, Builtin.Int.intBits z ≤ 1048576) → SqL K H a (ns.map V.int) → sp [.ref a] H (fun v _ => v = .bl true) fun _ _ _ => False) ∧
        ∀ base : Heap, K.In base → base.Ns mainGlobals mg → FnOk l.prog w K mg base (CX w) k fa fd [x] sp)
    (hCX : ∀ (w : World) (H : Hp) (s : Shared) (e : Value) (s' : Shared), CX w [] H s (fun _ _ _ => False) e s' → False) :
    PySem.W.WalkO q loose XP YP l.row.toRowW d [] (fun f vs => PySem.call f vs) := by
  refine Att.attach_callB hn hdf fun w s₀ s₁ mg mb fa o pm cd doc a vs ns G Y ho hd hcd hmg hobj hints hlen hbits hg => ?_
  obtain ⟨K, fd, sp, KX, hb, hsp, hF⟩ := F w mg fa _ Y G.T.g hmg
  exact law_call KX G.T.g G.T.b G.T.builtins G.T.nolimit hg hobj hints (Nat.le_trans hlen hn2) hr hF hb (fun H hO hS => hsp H a ns hlen hbits hS) fun H e s' => hCX w H s₁ e s'
theorem cx_none (P : Program) (w : World) (H : Hp) (s : Shared) (e : Value) (s' : Shared) (h : L2.CX P w [] H s (fun _ _ _ => False) e s') : False := by
  obtain ⟨_, _, _, _, _, _, _, _, _, _, _, _, z⟩ := h
  exact z
theorem sp_law {F : Fn} {f : Str} {H : Hp} {a : Addr} {ns : List Int} {as' : List A} (hS : SqL K H a (ns.map V.int)) (h : F.call f [.val (.scr ns)] = .ok (.val (.bl true), as')) :
    spOf F mg K 1 f [.ref a] H (fun v _ => v = .bl true) fun _ _ _ => False := by
  refine ⟨rfl, fun _ => False, [.val (.scr ns)], fun _ z => z.elim, ⟨.ref a, [], rfl, ⟨a, rfl, ?_⟩, fun z => z.elim, rfl⟩, ?_⟩
  · rcases hS with (h | h) | h
    · exact .inl ⟨h, fun z => z⟩
    · exact .inr (.inl h)
    · exact .inr (.inr h)
  · rw [h]
    exact fun v H' W' ce => ce.res
end
end Dv

set_option Elab.async false
set_option linter.all false
set_option maxRecDepth 100000
set_option maxHeartbeats 1000000
namespace Dv
open PySem PySem.Spec PyProof.Rows L2


/-- an equation that is not looked through -/
theorem nd {α : Sort _} {a b : α} (h : a = b) : a = b := h
noncomputable def nxt (F : Fn) (N : Nat) (l : Sxs) (q : Fl × Env') : Rs (Fl × Env') := match q.1 with
    | .nx => exs F N l q.2
    | _ => .ok q
noncomputable def brn (F : Fn) (N : Nat) (a b : Sxs) (r : Bool × Env') : Rs (Fl × Env') := match r.1 with
    | true => exs F N a r.2
    | false => exs F N b r.2
noncomputable def brE (F : Fn) (a b : Ex) (r : Bool × Env') : Rs (P × Env') := match r.1 with
    | true => ev F a r.2
    | false => ev F b r.2
noncomputable def nAnd (F : Fn) (l : Exs) (r : Bool × Env') : Rs (Bool × Env') := match r.1 with
    | true => evAnd F l r.2
    | false => .ok (false, r.2)
noncomputable def nOr (F : Fn) (l : Exs) (r : Bool × Env') : Rs (Bool × Env') := match r.1 with
    | true => .ok (true, r.2)
    | false => evOr F l r.2
noncomputable def nTAnd (F : Fn) (l : Txs) (r : Bool × Env') : Rs (Bool × Env') := match r.1 with
    | true => evTAnd F l r.2
    | false => .ok (false, r.2)
noncomputable def nTOr (F : Fn) (l : Txs) (r : Bool × Env') : Rs (Bool × Env') := match r.1 with
    | true => .ok (true, r.2)
    | false => evTOr F l r.2
section
variable {F : Fn} {N : Nat} {ρ : Env'}
@[simp] theorem nxt_nx {l : Sxs} : nxt F N l (.nx, ρ) = exs F N l ρ := nd rfl
@[simp] theorem nxt_rt {l : Sxs} {p : P} : nxt F N l (.rt p, ρ) = .ok (.rt p, ρ) := nd rfl
@[simp] theorem nxt_bk {l : Sxs} : nxt F N l (.bk, ρ) = .ok (.bk, ρ) := nd rfl
@[simp] theorem nxt_ct {l : Sxs} : nxt F N l (.ct, ρ) = .ok (.ct, ρ) := nd rfl
@[simp] theorem brn_t {a b : Sxs} : brn F N a b (true, ρ) = exs F N a ρ := nd rfl
@[simp] theorem brn_f {a b : Sxs} : brn F N a b (false, ρ) = exs F N b ρ := nd rfl
@[simp] theorem brE_t {a b : Ex} : brE F a b (true, ρ) = ev F a ρ := nd rfl
@[simp] theorem brE_f {a b : Ex} : brE F a b (false, ρ) = ev F b ρ := nd rfl
@[simp] theorem nAnd_t {l : Exs} : nAnd F l (true, ρ) = evAnd F l ρ := nd rfl
@[simp] theorem nAnd_f {l : Exs} : nAnd F l (false, ρ) = .ok (false, ρ) := nd rfl
@[simp] theorem nOr_t {l : Exs} : nOr F l (true, ρ) = .ok (true, ρ) := nd rfl
@[simp] theorem nOr_f {l : Exs} : nOr F l (false, ρ) = evOr F l ρ := nd rfl
@[simp] theorem nTAnd_t {l : Txs} : nTAnd F l (true, ρ) = evTAnd F l ρ := nd rfl
@[simp] theorem nTAnd_f {l : Txs} : nTAnd F l (false, ρ) = .ok (false, ρ) := nd rfl
@[simp] theorem nTOr_t {l : Txs} : nTOr F l (true, ρ) = .ok (true, ρ) := nd rfl
@[simp] theorem nTOr_f {l : Txs} : nTOr F l (false, ρ) = evTOr F l ρ := nd rfl
end
/-- what follows is looked at only when its turn comes -/
theorem rs_bind_congr {α β : Type} {x y : Rs α} {f : α → Rs β} (h : x = y) : x.bind f = y.bind f := by rw [h]

/-! ### running by simp -/
section
variable {F : Fn} {N : Nat} {ρ : Env'} {α β : Type}
@[simp] theorem r_bind_ok {a : α} {f : α → Rs β} : (Rs.ok a).bind f = f a := nd rfl
@[simp] theorem bind_err {e : Er} {f : α → Rs β} : (Rs.err e : Rs α).bind f = .err e := nd rfl
@[simp] theorem bind_bad {f : α → Rs β} : (Rs.bad : Rs α).bind f = .bad := nd rfl
@[simp] theorem of_some {a : α} : Rs.of (some a) = .ok a := nd rfl
@[simp] theorem r_quiet_ok {a : α} : (Rs.ok a).quiet = .ok a := nd rfl
@[simp] theorem need_true {p : Prop} {x : Rs α} (h : p) : need p x = x := if_pos h

@[simp] theorem r_ev_var {i : Nat} : ev F (.var i) ρ = evVar i ρ := nd rfl
@[simp] theorem r_ev_cst {d : D} : ev F (.cst d) ρ = .ok (.val d, ρ) := nd rfl
@[simp] theorem r_ev_glo {x : Str} : ev F (.glo x) ρ = (Rs.of (F.glo x)).bind fun d => .ok (.val d, ρ) := nd rfl
@[simp] theorem r_ev_bin {op : Operator} {a b : Ex} : ev F (.bin op a b) ρ = (ev F a ρ).bind fun r => (ev F b r.2).bind fun q => (pk r.1 q.2).bind fun x => (pk q.1 q.2).bind fun y => (dBin op x y).bind fun p => .ok (p, q.2) := nd rfl
@[simp] theorem r_ev_neg {a : Ex} : ev F (.neg a) ρ = (ev F a ρ).bind fun r => (pk r.1 r.2).bind fun x => match x with
    | .int i => .ok (.val (.int (-i)), r.2)
    | _ => .bad := nd rfl
@[simp] theorem r_ev_cmp {op : CmpOp} {a b : Ex} : ev F (.cmp op a b) ρ = (ev F a ρ).bind fun r => (ev F b r.2).bind fun q => (pk r.1 q.2).bind fun x => (pk q.1 q.2).bind fun y => (dCmp op x y).bind fun c => .ok (.val (.bl c), q.2) := nd rfl
@[simp] theorem r_ev_chn {op op' : CmpOp} {a b c : Ex} : ev F (.chn op op' a b c) ρ = (ev F a ρ).bind fun r => (ev F b r.2).bind fun q => (pk r.1 q.2).bind fun x => (pk q.1 q.2).bind fun y => (dCmp op x y).bind fun k =>
      match k with
      | false => .ok (.val (.bl false), q.2)
      | true => (ev F c q.2).bind fun u => (pk q.1 u.2).bind fun y' => (pk u.1 u.2).bind fun z => (dCmp op' y' z).bind fun k' => .ok (.val (.bl k'), u.2) := nd rfl
@[simp] theorem r_ev_and_ {l : Exs} : ev F (.and_ l) ρ = (evAnd F l ρ).bind fun r => .ok (.val (.bl r.1), r.2) := nd rfl
@[simp] theorem r_ev_or_ {l : Exs} : ev F (.or_ l) ρ = (evOr F l ρ).bind fun r => .ok (.val (.bl r.1), r.2) := nd rfl
@[simp] theorem r_ev_not_ {a : Ex} : ev F (.not_ a) ρ = (ev F a ρ).bind fun r0 => (asB r0).bind fun r => .ok (.val (.bl (!r.1)), r.2) := nd rfl
@[simp] theorem r_ev_ite {c : Tx} {a b : Ex} : ev F (.ite c a b) ρ = (evT F c ρ).bind (brE F a b) := nd rfl
@[simp] theorem r_ev_tup {l : Exs} : ev F (.tup l) ρ = (evs F l ρ).bind fun r => (Rs.of (toDs r.1 r.2)).bind fun q => need (q.1.length ≤ sizeLine) (.ok (.val (.tup q.1), q.2)) := nd rfl
@[simp] theorem r_ev_lst {l : Exs} : ev F (.lst l) ρ = (evs F l ρ).bind fun r => (Rs.of (toDs r.1 r.2)).bind fun q => need (q.1.length ≤ sizeLine) (.ok (.own (.lst q.1), q.2)) := nd rfl
@[simp] theorem r_ev_idx {a i : Ex} : ev F (.idx a i) ρ = (ev F a ρ).bind fun r => (ev F i r.2).bind fun q => (pk r.1 q.2).bind fun x => (pk q.1 q.2).bind fun y => (dIdx x y).bind fun d => .ok (.val d, q.2) := nd rfl
@[simp] theorem r_ev_slc {a : Ex} {lo hi : Eo} : ev F (.slc a lo hi) ρ = (ev F a ρ).bind fun r => (evo F lo r.2).bind fun u => (evo F hi u.2).bind fun w => (pk r.1 w.2).bind fun x => (dSlc x u.1 w.1).bind fun p => .ok (p, w.2) := nd rfl
@[simp] theorem r_ev_call {f : Str} {l : Exs} : ev F (.call f l) ρ = (evs F l ρ).bind fun r => doCall F f r.1 r.2 := nd rfl
@[simp] theorem r_ev_blt {b : Bl} {l : Exs} : ev F (.blt b l) ρ = (evs F l ρ).bind fun r => (pks r.1 r.2).bind fun ds => (dBl b ds).bind fun p => .ok (p, r.2) := nd rfl
@[simp] theorem r_ev_isi {t : Ty} {a : Ex} : ev F (.isi t a) ρ = (ev F a ρ).bind fun r => (pk r.1 r.2).bind fun x => (isTy t x).bind fun b => .ok (.val (.bl b), r.2) := nd rfl
@[simp] theorem r_ev_met {m : Me} {o : Ex} {l : Exs} : ev F (.met m o l) ρ = (ev F o ρ).bind fun r => (pk r.1 r.2).bind fun d0 => need (hasTy m d0 = true) <| (evs F l r.2).bind fun q => (pk r.1 q.2).bind fun x => (pks q.1 q.2).bind fun ds => (dMe m x ds).bind fun p => .ok (p, q.2) := nd rfl
theorem r_ev_chg {m : Mm} {i : Nat} {l : Exs} : ev F (.chg m i l) ρ = (evVar i ρ).bind fun r => (pk r.1 r.2).bind fun d0 => need (isLst d0 = true) <| (evs F l r.2).bind fun q => (Rs.of (toDs q.1 q.2)).bind fun t => match t.2[i]? with
    | some (some (.own b d)) => (dMm m d t.1).bind fun y => .ok (.val y.1, t.2.set i (some (.own b y.2)))
    | _ => .bad := rfl
@[simp] theorem r_ev_comp {elt : Ex} {tg : Tg} {it : Ie} {ifs : To} {own : List Nat} : ev F (.comp elt tg it ifs own) ρ = (evi F it ρ).bind fun r =>
      (mapR (fun d ρ1 => (asgT tg d (wipeR ρ1 own)).bind fun ρ2 => (evc F ifs ρ2).quiet.bind fun c => match c.1 with
        | true => (ev F elt c.2).quiet.bind fun p => (Rs.of (toD p.1 p.2)).bind fun y => .ok (some y.1, y.2)
        | false => .ok (none, c.2)) r.1.1 (wipeR (lockP r.1.2 r.2).2 own)).bind fun q =>
      (unlock (lockP r.1.2 r.2).1 (backR (lockP r.1.2 r.2).2 q.2 own)).bind fun ρ' => need (q.1.length < sizeLine) (.ok (.own (.lst q.1), ρ')) := nd rfl
@[simp] theorem r_evs_nil  : evs F (.nil) ρ = .ok ([], ρ) := nd rfl
@[simp] theorem r_evs_cons {e : Ex} {l : Exs} : evs F (.cons e l) ρ = (ev F e ρ).bind fun r => (evs F l r.2).bind fun q => .ok (r.1 :: q.1, q.2) := nd rfl
@[simp] theorem r_evo_none  : evo F (.none) ρ = .ok (none, ρ) := nd rfl
@[simp] theorem r_evo_some {e : Ex} : evo F (.some e) ρ = (ev F e ρ).bind fun r => (pk r.1 r.2).bind fun x => match x with
    | .int i => .ok (some i, r.2)
    | _ => .bad := nd rfl
@[simp] theorem r_evc_none  : evc F (.none) ρ = .ok (true, ρ) := nd rfl
@[simp] theorem r_evc_some {t : Tx} : evc F (.some t) ρ = evT F t ρ := nd rfl
@[simp] theorem r_evT_val {e : Ex} : evT F (.val e) ρ = (ev F e ρ).bind fun r => (pk r.1 r.2).bind fun x => (truth x).bind fun b => .ok (b, r.2) := nd rfl
@[simp] theorem r_evT_cmp {op : CmpOp} {a b : Ex} : evT F (.cmp op a b) ρ = (ev F a ρ).bind fun r => (ev F b r.2).bind fun q => (pk r.1 q.2).bind fun x => (pk q.1 q.2).bind fun y => (dCmp op x y).bind fun c => .ok (c, q.2) := nd rfl
@[simp] theorem r_evT_and_ {l : Txs} : evT F (.and_ l) ρ = evTAnd F l ρ := nd rfl
@[simp] theorem r_evT_or_ {l : Txs} : evT F (.or_ l) ρ = evTOr F l ρ := nd rfl
@[simp] theorem r_evT_not_ {a : Tx} : evT F (.not_ a) ρ = (evT F a ρ).bind fun r => .ok (!r.1, r.2) := nd rfl
@[simp] theorem r_evAnd_nil  : evAnd F (.nil) ρ = .ok (true, ρ) := nd rfl
@[simp] theorem r_evAnd_cons {e : Ex} {l : Exs} : evAnd F (.cons e l) ρ = (ev F e ρ).bind fun r0 => (asB r0).bind (nAnd F l) := nd rfl
@[simp] theorem r_evOr_nil  : evOr F (.nil) ρ = .ok (false, ρ) := nd rfl
@[simp] theorem r_evOr_cons {e : Ex} {l : Exs} : evOr F (.cons e l) ρ = (ev F e ρ).bind fun r0 => (asB r0).bind (nOr F l) := nd rfl
@[simp] theorem r_evTAnd_nil  : evTAnd F (.nil) ρ = .ok (true, ρ) := nd rfl
@[simp] theorem r_evTAnd_cons {e : Tx} {l : Txs} : evTAnd F (.cons e l) ρ = (evT F e ρ).bind (nTAnd F l) := nd rfl
@[simp] theorem r_evTOr_nil  : evTOr F (.nil) ρ = .ok (false, ρ) := nd rfl
@[simp] theorem r_evTOr_cons {e : Tx} {l : Txs} : evTOr F (.cons e l) ρ = (evT F e ρ).bind (nTOr F l) := nd rfl
@[simp] theorem r_evi_seq {e : Ex} : evi F (.seq e) ρ = (ev F e ρ).bind fun r => (pk r.1 r.2).bind fun x => (items x).bind fun l => .ok ((l, r.1), r.2) := nd rfl
@[simp] theorem r_evi_rng {a : Ex} : evi F (.rng a) ρ = (ev F a ρ).bind fun r => match r.1 with
    | .val (.int j) => need (inR j) (.ok ((rng 0 j.toNat, .val .non), r.2))
    | _ => .bad := nd rfl
@[simp] theorem r_evi_rng2 {a b : Ex} : evi F (.rng2 a b) ρ = (ev F a ρ).bind fun r => (ev F b r.2).bind fun q => match r.1, q.1 with
    | .val (.int i), .val (.int j) => need (inR i ∧ inR j) (.ok ((rng i (j - i).toNat, .val .non), q.2))
    | _, _ => .bad := nd rfl
@[simp] theorem r_evi_enm {e : Ex} : evi F (.enm e) ρ = (ev F e ρ).bind fun r => (pk r.1 r.2).bind fun x => (itemsL x).bind fun l => .ok ((enmD l, r.1), r.2) := nd rfl
@[simp] theorem r_evi_zip {l : Exs} : evi F (.zip l) ρ = (evs F l ρ).bind fun r => (Rs.of (toDs r.1 r.2)).bind fun q => (itemss q.1).bind fun t => .ok ((zipD t, .val .non), q.2) := nd rfl
@[simp] theorem r_ex_set {i : Nat} {e : Ex} : ex F N (.set i e) ρ = (ev F e ρ).bind fun r => (asgP i r.1 r.2).bind fun ρ' => .ok (.nx, ρ') := nd rfl
@[simp] theorem r_ex_setT {l : List Nat} {e : Ex} : ex F N (.setT l e) ρ = (ev F e ρ).bind fun r => match r.1 with
    | .val (.tup ds) => (putVs l ds r.2).bind fun ρ' => .ok (.nx, ρ')
    | _ => .bad := nd rfl
@[simp] theorem r_ex_par {i j : Nat} {a b : Ex} : ex F N (.par i j a b) ρ = (ev F a ρ).bind fun r => (ev F b r.2).bind fun q => match r.1, q.1 with
    | .val x, .val y => (putVs [i, j] [x, y] q.2).bind fun ρ' => .ok (.nx, ρ')
    | _, _ => .bad := nd rfl
@[simp] theorem r_ex_setI {i : Nat} {ix e : Ex} : ex F N (.setI i ix e) ρ = (ev F e ρ).bind fun r => (evVar i r.2).bind fun o => (ev F ix o.2).bind fun q => (Rs.of (toD r.1 q.2)).bind fun t => (pk q.1 t.2).bind fun k =>
      (mutSlot i t.2 fun d => dSet d k t.1).bind fun ρ' => .ok (.nx, ρ') := nd rfl
theorem r_ex_aug {i : Nat} {op : Operator} {e : Ex} : ex F N (.aug i op e) ρ = match ρ[i]? with
    | some (some (.val x)) => (ev F e ρ).bind fun r => (pk r.1 r.2).bind fun y => (dAug op x y).bind fun z => (putV i z r.2).bind fun ρ' => .ok (.nx, ρ')
    | _ => .bad := rfl
@[simp] theorem r_ex_augI {i : Nat} {op : Operator} {ix e : Ex} : ex F N (.augI i op ix e) ρ = (evVar i ρ).bind fun o => (ev F ix o.2).bind fun q => (pk o.1 q.2).bind fun x => need (isLst x = true) <| (pk q.1 q.2).bind fun k => (dIdx x k).bind fun u => (ev F e q.2).bind fun r => (pk r.1 r.2).bind fun y =>
      (dAug op u y).bind fun z => (mutSlot i r.2 fun d => dSet d k z).bind fun ρ' => .ok (.nx, ρ') := nd rfl
@[simp] theorem r_ex_expr {e : Ex} : ex F N (.expr e) ρ = (ev F e ρ).bind fun r => .ok (.nx, r.2) := nd rfl
@[simp] theorem r_ex_ret {e : Ex} : ex F N (.ret e) ρ = (ev F e ρ).bind fun r => .ok (.rt r.1, r.2) := nd rfl
@[simp] theorem r_ex_retN  : ex F N (.retN) ρ = .ok (.rt (.val .non), ρ) := nd rfl
@[simp] theorem r_ex_ite {c : Tx} {a b : Sxs} : ex F N (.ite c a b) ρ = (evT F c ρ).bind (brn F N a b) := nd rfl
@[simp] theorem r_ex_whl {c : Tx} {b : Sxs} : ex F N (.whl c b) ρ = whileR (evT F c) (exs F N b) N ρ := nd rfl
@[simp] theorem r_ex_for_ {tg : Tg} {it : Ie} {b : Sxs} : ex F N (.for_ tg it b) ρ = (evi F it ρ).bind fun r => (forR (fun d ρ1 => (asgT tg d ρ1).bind (exs F N b)) r.1.1 (lockP r.1.2 r.2).2).bind (endFor (lockP r.1.2 r.2).1) := nd rfl
@[simp] theorem r_ex_brk  : ex F N (.brk) ρ = .ok (.bk, ρ) := nd rfl
@[simp] theorem r_ex_cnt  : ex F N (.cnt) ρ = .ok (.ct, ρ) := nd rfl
@[simp] theorem r_ex_pass  : ex F N (.pass) ρ = .ok (.nx, ρ) := nd rfl
@[simp] theorem r_exs_nil  : exs F N (.nil) ρ = .ok (.nx, ρ) := nd rfl
@[simp] theorem r_exs_cons {s : Sx} {l : Sxs} : exs F N (.cons s l) ρ = (ex F N s ρ).bind (nxt F N l) := nd rfl

@[simp] theorem pk_val {d : D} : pk (.val d) ρ = .ok d := nd rfl
@[simp] theorem pk_own {d : D} : pk (.own d) ρ = .ok d := nd rfl
@[simp] theorem pks_nil : pks [] ρ = .ok [] := nd rfl
@[simp] theorem pks_cons {p : P} {ps : List P} : pks (p :: ps) ρ = (pk p ρ).bind fun d => (pks ps ρ).bind fun ds => .ok (d :: ds) := nd rfl
@[simp] theorem toD_val {d : D} : toD (.val d) ρ = some (d, ρ) := nd rfl
@[simp] theorem toD_own {d : D} : toD (.own d) ρ = some (d, ρ) := nd rfl
@[simp] theorem thaw_t {d : D} : thaw true d = .brz d := nd rfl
@[simp] theorem thaw_f {d : D} : thaw false d = .val d := nd rfl
@[simp] theorem toDs_nil : toDs [] ρ = some ([], ρ) := nd rfl
@[simp] theorem toDs_cons {p : P} {ps : List P} : toDs (p :: ps) ρ = (toD p ρ).bind fun r => (toDs ps r.2).bind fun q => some (r.1 :: q.1, q.2) := nd rfl
@[simp] theorem asgP_val {i : Nat} {d : D} : asgP i (.val d) ρ = putV i d ρ := nd rfl
@[simp] theorem asgP_own {i : Nat} {d : D} : asgP i (.own d) ρ = if freeSlot i ρ = true then .ok (ρ.set i (some (.own false d))) else .bad := nd rfl
@[simp] theorem asgP_at {i j : Nat} : asgP i (.at_ j) ρ = (Rs.of (toD (.at_ j) ρ)).bind fun r => putV i r.1 r.2 := nd rfl
@[simp] theorem putV_d {i : Nat} {d : D} : putV i d ρ = if freeSlot i ρ = true then .ok (ρ.set i (some (.val d))) else .bad := nd rfl
@[simp] theorem putVs_nil : putVs [] [] ρ = .ok ρ := nd rfl
@[simp] theorem putVs_cons {i : Nat} {is : List Nat} {d : D} {ds : List D} : putVs (i :: is) (d :: ds) ρ = (putV i d ρ).bind (putVs is ds) := nd rfl
@[simp] theorem asgT_nm {i : Nat} {d : D} : asgT (.nm i) d ρ = putV i d ρ := nd rfl
@[simp] theorem asgT_tp {is : List Nat} {ds : List D} : asgT (.tp is) (.tup ds) ρ = putVs is ds ρ := nd rfl
@[simp] theorem lockP_val {d : D} : lockP (.val d) ρ = (none, ρ) := nd rfl
@[simp] theorem lockP_owned {d : D} : lockP (.own d) ρ = (none, ρ) := nd rfl
@[simp] theorem unlock_none : unlock none ρ = .ok ρ := nd rfl
@[simp] theorem wipe_nil : wipeR ρ [] = ρ := nd rfl
@[simp] theorem wipe_cons {v : Nat} {vs : List Nat} : wipeR ρ (v :: vs) = (wipeR ρ vs).set v none := nd rfl
@[simp] theorem back_nil {ρ0 : Env'} : backR ρ0 ρ [] = ρ := nd rfl
@[simp] theorem back_cons {ρ0 : Env'} {v : Nat} {vs : List Nat} : backR ρ0 ρ (v :: vs) = (backR ρ0 ρ vs).set v (ρ0.getD v none) := nd rfl
@[simp] theorem toArgs_nil : toArgs [] ρ = .ok [] := nd rfl
@[simp] theorem toArgs_cons {p : P} {ps : List P} : toArgs (p :: ps) ρ = (toArg p ρ).bind fun a => (toArgs ps ρ).bind fun as => .ok (a :: as) := nd rfl
@[simp] theorem toArg_val {d : D} : toArg (.val d) ρ = .ok (.val d) := nd rfl
@[simp] theorem toArg_owned {d : D} : toArg (.own d) ρ = .ok (.own d) := nd rfl
@[simp] theorem ats_nil : ats [] = [] := nd rfl
@[simp] theorem ats_at {i : Nat} {ps : List P} : ats (.at_ i :: ps) = i :: ats ps := nd rfl
@[simp] theorem ats_val {d : D} {ps : List P} : ats (.val d :: ps) = ats ps := nd rfl
@[simp] theorem ats_own {d : D} {ps : List P} : ats (.own d :: ps) = ats ps := nd rfl
@[simp] theorem backArgs_nil {as : List A} : backArgs [] as ρ = .ok ρ := nd rfl
@[simp] theorem backArgs_cons {p : P} {ps : List P} {a : A} {as : List A} : backArgs (p :: ps) (a :: as) ρ = (backArg p a ρ).bind (backArgs ps as) := nd rfl
@[simp] theorem backArg_val {d : D} {a : A} : backArg (.val d) a ρ = .ok ρ := nd rfl
@[simp] theorem backArg_owned {d : D} {a : A} : backArg (.own d) a ρ = .ok ρ := nd rfl
@[simp] theorem re_val {d : D} : (Re.val d).p = .val d := nd rfl
@[simp] theorem re_own {d : D} : (Re.own d).p = .own d := nd rfl
@[simp] theorem doCall_d {f : Str} {ps : List P} : doCall F f ps ρ = need ((ats ps).Nodup) ((toArgs ps ρ).bind fun as => (F.call f (as ++ (F.dfl f ps.length).map .val)).bind fun r => (backArgs ps r.2 ρ).bind fun ρ' => .ok (r.1.p, ρ')) := nd rfl
@[simp] theorem mapR_nil {f : D → Env' → Rs (Option D × Env')} : mapR f [] ρ = .ok ([], ρ) := nd rfl
@[simp] theorem forR_nil {f : D → Env' → Rs (Fl × Env')} : forR f [] ρ = .ok (.nx, ρ) := nd rfl
@[simp] theorem asB_bl {b : Bool} {ρ : Env'} : asB (.val (.bl b), ρ) = .ok (b, ρ) := nd rfl
@[simp] theorem endFor_nx {o : Option Nat} : endFor o (.nx, ρ) = (unlock o ρ).bind fun ρ => .ok (.nx, ρ) := nd rfl
@[simp] theorem endFor_rt {o : Option Nat} {p : P} : endFor o (.rt p, ρ) = .ok (.rt p, ρ) := nd rfl
@[simp] theorem isLst_l {l : List D} : isLst (.lst l) = true := nd rfl
@[simp] theorem slot_val {d : D} : (A.val d).slot = .val d := nd rfl
@[simp] theorem slot_own {d : D} : (A.own d).slot = .own true d := nd rfl
@[simp] theorem slot_rd {d : D} : (A.rd d).slot = .lck true d := nd rfl
@[simp] theorem runDef_d {n : Nat} {b : Sxs} {as : List A} : runDef F N n b as = (exs F N b (envOf n as)).bind (finish as) := nd rfl
@[simp] theorem finish_nx {as : List A} : finish as (.nx, ρ) = (outArgs as ρ).bind fun r => .ok (.val .non, r) := nd rfl
@[simp] theorem finish_rt {as : List A} {p : P} : finish as (.rt p, ρ) = (retOf p ρ).bind fun t => (outArgs as t.2).bind fun r => .ok (t.1, r) := nd rfl
@[simp] theorem retOf_val {d : D} : retOf (.val d) ρ = .ok (.val d, ρ) := nd rfl
@[simp] theorem retOf_own {d : D} : retOf (.own d) ρ = .ok (.own d, ρ) := nd rfl
@[simp] theorem outArgs_nil : outArgs [] ρ = .ok [] := nd rfl
@[simp] theorem outArgs_cons {a : A} {as : List A} : outArgs (a :: as) ρ = (outArg a ρ.head?).bind fun x => (outArgs as ρ.tail).bind fun r => .ok (x :: r) := nd rfl
@[simp] theorem outArg_val {d : D} {o : Option (Option S)} : outArg (.val d) o = .ok (.val d) := nd rfl
@[simp] theorem outArg_rd {d : D} {o : Option (Option S)} : outArg (.rd d) o = .ok (.rd d) := nd rfl
@[simp] theorem outArg_own {d d' : D} : outArg (.own d) (some (some (.own true d'))) = .ok (.own d') := nd rfl
@[simp] theorem outArg_lck {d d' : D} : outArg (.own d) (some (some (.lck true d'))) = .ok (.own d') := nd rfl
@[simp] theorem outArg_brz {d d' : D} : outArg (.own d) (some (some (.brz d'))) = .ok (.val d') := nd rfl
/-! a slot looked at -/
noncomputable def gVar (i : Nat) (ρ : Env') : Option (Option S) → Rs (P × Env')
  | some (some (.val d)) => .ok (.val d, ρ)
  | some (some (.brz d)) => .ok (.val d, ρ)
  | some (some (.own b d)) => .ok (.at_ i, ρ)
  | some (some (.lck b d)) => .ok (.at_ i, ρ)
  | _ => .bad
def gPk  : Option (Option S) → Rs D
  | some (some (.val d)) => .ok d
  | some (some (.own b d)) => .ok d
  | some (some (.lck b d)) => .ok d
  | some (some (.brz d)) => .ok d
  | _ => .bad
def gD (i : Nat) (ρ : Env') : Option (Option S) → Option (D × Env')
  | some (some (.val d)) => some (d, ρ)
  | some (some (.brz d)) => some (d, ρ)
  | some (some (.own b d)) => some (d, ρ.set i (some (thaw b d)))
  | _ => none
def gLock (i : Nat) (ρ : Env') : Option (Option S) → Option Nat × Env'
  | some (some (.own b d)) => (some i, ρ.set i (some (.lck b d)))
  | _ => (none, ρ)
def gUn (i : Nat) (ρ : Env') : Option (Option S) → Rs Env'
  | some (some (.lck b d)) => .ok (ρ.set i (some (.own b d)))
  | _ => .bad
def gArg  : Option (Option S) → Rs A
  | some (some (.val d)) => .ok (.val d)
  | some (some (.brz d)) => .ok (.val d)
  | some (some (.own b d)) => .ok (.own d)
  | some (some (.lck b d)) => .ok (.rd d)
  | _ => .bad
noncomputable def gMut (i : Nat) (ρ : Env') (f : D → Rs D) : Option (Option S) → Rs Env'
  | some (some (.own b d)) => (f d).bind fun d' => .ok (ρ.set i (some (.own b d')))
  | _ => .bad
def gRet (i : Nat) (ρ : Env') : Option (Option S) → Rs (Re × Env')
  | some (some (.own false d)) => .ok (.own d, ρ.set i none)
  | some (some (.own true d)) => .ok (.val d, ρ.set i (some (.brz d)))
  | _ => .bad
noncomputable def gAug (F : Fn) (i : Nat) (op : Operator) (e : Ex) (ρ : Env') : Option (Option S) → Rs (Fl × Env')
  | some (some (.val d)) => (ev F e ρ).bind fun r => (pk r.1 r.2).bind fun y => (dAug op d y).bind fun z => (putV i z r.2).bind fun ρ' => .ok (.nx, ρ')
  | _ => .bad
noncomputable def gChg (m : Mm) (i : Nat) (t : List D × Env') : Option (Option S) → Rs (P × Env')
  | some (some (.own b d)) => (dMm m d t.1).bind fun y => .ok (.val y.1, t.2.set i (some (.own b y.2)))
  | _ => .bad
def gFree : Option (Option S) → Bool
  | some none => true
  | some (some (.val _)) => true
  | some (some (.own false _)) => true
  | _ => false
def gBack (i : Nat) (ρ : Env') : Option (Option S) → A → Rs Env'
  | some (some (.own b _)), .own d => .ok (ρ.set i (some (.own b d)))
  | some (some (.own b _)), .val d => .ok (ρ.set i (some (thaw b d)))
  | some (some (.own _ _)), .rd _ => .bad
  | _, _ => .ok ρ
@[simp] theorem c1_gVar {i : Nat} {d : D} : gVar i ρ (some (some (.val d))) = .ok (.val d, ρ) := nd rfl
@[simp] theorem c2_gVar {i : Nat} {d : D} : gVar i ρ (some (some (.brz d))) = .ok (.val d, ρ) := nd rfl
@[simp] theorem c3_gVar {i : Nat} {b : Bool} {d : D} : gVar i ρ (some (some (.own b d))) = .ok (.at_ i, ρ) := nd rfl
@[simp] theorem c4_gVar {i : Nat} {b : Bool} {d : D} : gVar i ρ (some (some (.lck b d))) = .ok (.at_ i, ρ) := nd rfl
@[simp] theorem c5_gPk  {d : D} : gPk  (some (some (.val d))) = .ok d := nd rfl
@[simp] theorem c6_gPk  {b : Bool} {d : D} : gPk  (some (some (.own b d))) = .ok d := nd rfl
@[simp] theorem c7_gPk  {b : Bool} {d : D} : gPk  (some (some (.lck b d))) = .ok d := nd rfl
@[simp] theorem c8_gPk  {d : D} : gPk  (some (some (.brz d))) = .ok d := nd rfl
@[simp] theorem c9_gD {i : Nat} {d : D} : gD i ρ (some (some (.val d))) = some (d, ρ) := nd rfl
@[simp] theorem c10_gD {i : Nat} {d : D} : gD i ρ (some (some (.brz d))) = some (d, ρ) := nd rfl
@[simp] theorem c11_gD {i : Nat} {b : Bool} {d : D} : gD i ρ (some (some (.own b d))) = some (d, ρ.set i (some (thaw b d))) := nd rfl
@[simp] theorem c12_gLock {i : Nat} {b : Bool} {d : D} : gLock i ρ (some (some (.own b d))) = (some i, ρ.set i (some (.lck b d))) := nd rfl
@[simp] theorem c13_gUn {i : Nat} {b : Bool} {d : D} : gUn i ρ (some (some (.lck b d))) = .ok (ρ.set i (some (.own b d))) := nd rfl
@[simp] theorem c14_gArg  {d : D} : gArg  (some (some (.val d))) = .ok (.val d) := nd rfl
@[simp] theorem c15_gArg  {d : D} : gArg  (some (some (.brz d))) = .ok (.val d) := nd rfl
@[simp] theorem c16_gArg  {b : Bool} {d : D} : gArg  (some (some (.own b d))) = .ok (.own d) := nd rfl
@[simp] theorem c17_gArg  {b : Bool} {d : D} : gArg  (some (some (.lck b d))) = .ok (.rd d) := nd rfl
@[simp] theorem c18_gMut {i : Nat} {f : D → Rs D} {b : Bool} {d : D} : gMut i ρ f (some (some (.own b d))) = (f d).bind fun d' => .ok (ρ.set i (some (.own b d'))) := nd rfl
@[simp] theorem c19_gRet {i : Nat} {d : D} : gRet i ρ (some (some (.own false d))) = .ok (.own d, ρ.set i none) := nd rfl
@[simp] theorem c20_gRet {i : Nat} {d : D} : gRet i ρ (some (some (.own true d))) = .ok (.val d, ρ.set i (some (.brz d))) := nd rfl
@[simp] theorem c21_gAug {i : Nat} {op : Operator} {e : Ex} {d : D} : gAug F i op e ρ (some (some (.val d))) = (ev F e ρ).bind fun r => (pk r.1 r.2).bind fun y => (dAug op d y).bind fun z => (putV i z r.2).bind fun ρ' => .ok (.nx, ρ') := nd rfl
@[simp] theorem c22_gChg {m : Mm} {i : Nat} {t : List D × Env'} {b : Bool} {d : D} : gChg m i t (some (some (.own b d))) = (dMm m d t.1).bind fun y => .ok (.val y.1, t.2.set i (some (.own b y.2))) := nd rfl
@[simp] theorem c_lck {i : Nat} {b : Bool} {d : D} : gLock i ρ (some (some (.lck b d))) = (none, ρ) := nd rfl
@[simp] theorem f1 : gFree (some none) = true := nd rfl
@[simp] theorem f2 {d : D} : gFree (some (some (.val d))) = true := nd rfl
@[simp] theorem f3 {d : D} : gFree (some (some (.own false d))) = true := nd rfl
@[simp] theorem b1 {i : Nat} {b : Bool} {d d2 : D} : gBack i ρ (some (some (.own b d))) (.own d2) = .ok (ρ.set i (some (.own b d2))) := nd rfl
@[simp] theorem b2 {i : Nat} {b : Bool} {d d2 : D} : gBack i ρ (some (some (.own b d))) (.val d2) = .ok (ρ.set i (some (thaw b d2))) := nd rfl
@[simp] theorem b3 {i : Nat} {b : Bool} {d : D} {a : A} : gBack i ρ (some (some (.lck b d))) a = .ok ρ := by cases a <;> rfl
@[simp] theorem evVar_d {i : Nat} : evVar i ρ = gVar i ρ ρ[i]? := by
  unfold evVar gVar
  rcases ρ[i]? with _ | _ | s
  all_goals first | rfl | (cases s <;> first | rfl | (rename_i b _; cases b <;> rfl))
@[simp] theorem pk_at {i : Nat} : pk (.at_ i) ρ = gPk ρ[i]? := by
  unfold pk peek gPk
  dsimp only <;> rcases ρ[i]? with _ | _ | s
  all_goals first | rfl | (cases s <;> first | rfl | (rename_i b _; cases b <;> rfl))
@[simp] theorem toD_at {i : Nat} : toD (.at_ i) ρ = gD i ρ ρ[i]? := by
  unfold toD gD
  dsimp only <;> rcases ρ[i]? with _ | _ | s
  all_goals first | rfl | (cases s <;> first | rfl | (rename_i b _; cases b <;> rfl))
@[simp] theorem free_d {i : Nat} : freeSlot i ρ = gFree ρ[i]? := by
  unfold freeSlot gFree
  rcases ρ[i]? with _ | _ | s
  all_goals first | rfl | (cases s <;> first | rfl | (rename_i b _; cases b <;> rfl))
@[simp] theorem lock_at {i : Nat} : lockP (.at_ i) ρ = gLock i ρ ρ[i]? := by
  unfold lockP gLock
  dsimp only <;> rcases ρ[i]? with _ | _ | s
  all_goals first | rfl | (cases s <;> first | rfl | (rename_i b _; cases b <;> rfl))
@[simp] theorem unlock_at {i : Nat} : unlock (some i) ρ = gUn i ρ ρ[i]? := by
  unfold unlock gUn
  dsimp only <;> rcases ρ[i]? with _ | _ | s
  all_goals first | rfl | (cases s <;> first | rfl | (rename_i b _; cases b <;> rfl))
@[simp] theorem toArg_at {i : Nat} : toArg (.at_ i) ρ = gArg ρ[i]? := by
  unfold toArg gArg
  dsimp only <;> rcases ρ[i]? with _ | _ | s
  all_goals first | rfl | (cases s <;> first | rfl | (rename_i b _; cases b <;> rfl))
@[simp] theorem backArg_at {i : Nat} {a : A} : backArg (.at_ i) a ρ = gBack i ρ ρ[i]? a := by
  unfold backArg gBack
  dsimp only <;> rcases ρ[i]? with _ | _ | s
  all_goals first | rfl | (cases s <;> first | rfl | (rename_i b _; cases b <;> rfl) | (cases a <;> rfl))
@[simp] theorem mutSlot_d {i : Nat} {f : D → Rs D} : mutSlot i ρ f = gMut i ρ f ρ[i]? := by
  unfold mutSlot gMut
  rcases ρ[i]? with _ | _ | s
  all_goals first | rfl | (cases s <;> first | rfl | (rename_i b _; cases b <;> rfl))
@[simp] theorem retOf_at {i : Nat} : retOf (.at_ i) ρ = gRet i ρ ρ[i]? := by
  unfold retOf gRet
  dsimp only <;> rcases ρ[i]? with _ | _ | s
  all_goals first | rfl | (cases s <;> first | rfl | (rename_i b _; cases b <;> rfl))
@[simp] theorem g_aug {i : Nat} {op : Operator} {e : Ex} : ex F N (.aug i op e) ρ = gAug F i op e ρ ρ[i]? := by
  rw [r_ex_aug]
  unfold gAug
  rcases ρ[i]? with _ | _ | s
  all_goals first | rfl | (cases s <;> rfl)
@[simp] theorem g_chg {m : Mm} {i : Nat} {l : Exs} : ev F (.chg m i l) ρ = (evVar i ρ).bind fun r => (pk r.1 r.2).bind fun d0 => need (isLst d0 = true) <| (evs F l r.2).bind fun q => (Rs.of (toDs q.1 q.2)).bind fun t => gChg m i t t.2[i]? := by
  rw [r_ev_chg]
  refine congrArg _ (funext fun r => congrArg _ (funext fun d0 => congrArg _ (congrArg _ (funext fun q => congrArg _ (funext fun t => ?_)))))
  unfold gChg
  rcases t.2[i]? with _ | _ | s
  all_goals first | rfl | (cases s <;> rfl)
@[simp] theorem c24_dBin {i : Int} {j : Int} : dBin (.Add) (.int i) (.int j) = .ok (.val (.int (i + j))) := nd rfl
@[simp] theorem c25_dBin {x : Str} {y : Str} : dBin (.Add) (.str x) (.str y) = need (x.length + y.length ≤ sizeLine) (.ok (.val (.str (x ++ y)))) := nd rfl
@[simp] theorem c26_dBin {a : List D} {b : List D} : dBin (.Add) (.lst a) (.lst b) = need (a.length + b.length ≤ sizeLine) (.ok (.own (.lst (a ++ b)))) := nd rfl
@[simp] theorem c27_dBin {a : List D} {b : List D} : dBin (.Add) (.tup a) (.tup b) = need (a.length + b.length ≤ sizeLine) (.ok (.val (.tup (a ++ b)))) := nd rfl
@[simp] theorem c28_dBin {i : Int} {j : Int} : dBin (.Sub) (.int i) (.int j) = .ok (.val (.int (i - j))) := nd rfl
@[simp] theorem c29_dBin {i : Int} {j : Int} : dBin (.Mult) (.int i) (.int j) = need (CMulX i j) (.ok (.val (.int (i * j)))) := nd rfl
@[simp] theorem c30_dBin {k : Int} {l : List D} : dBin (.Mult) (.lst l) (.int k) = need (-(2 ^ 63) ≤ k ∧ k < 2 ^ 63 ∧ l.length * k.toNat ≤ sizeLine) (.ok (.own (.lst (List.replicate k.toNat l).flatten))) := nd rfl
@[simp] theorem c31_dBin {n : Int} {x : Str} : dBin (.Mult) (.str x) (.int n) = need (MulOk x n) (.ok (.val (.str (Txt.mul x n)))) := nd rfl
@[simp] theorem c32_dBin {i : Int} {j : Int} : dBin (.FloorDiv) (.int i) (.int j) = need (CDvX i j) (.ok (.val (.int (i.fdiv j)))) := nd rfl
@[simp] theorem c33_dBin {i : Int} {j : Int} : dBin (.Mod) (.int i) (.int j) = need (j ≠ 0) (.ok (.val (.int (i.fmod j)))) := nd rfl
@[simp] theorem c34_dBin {i : Int} {j : Int} : dBin (.Pow) (.int i) (.int j) = need (CPow i j) (.ok (.val (.int (i ^ j.toNat)))) := nd rfl
@[simp] theorem c35_dBin {i : Int} {j : Int} : dBin (.LShift) (.int i) (.int j) = need (CShl i j) (.ok (.val (.int (i * 2 ^ j.toNat)))) := nd rfl
@[simp] theorem c36_dCmp {a : D} {b : D} : dCmp (.Eq) (a) (b) = need (shp a = true ∧ shp b = true) (.ok (deq a b)) := nd rfl
@[simp] theorem c37_dCmp {a : D} {b : D} : dCmp (.NotEq) (a) (b) = need (shp a = true ∧ shp b = true) (.ok (!deq a b)) := nd rfl
@[simp] theorem c38_dCmp {i : Int} {j : Int} : dCmp (.Lt) (.int i) (.int j) = .ok (decide (i < j)) := nd rfl
@[simp] theorem c39_dCmp {i : Int} {j : Int} : dCmp (.LtE) (.int i) (.int j) = .ok (decide (i ≤ j)) := nd rfl
@[simp] theorem c40_dCmp {i : Int} {j : Int} : dCmp (.Gt) (.int i) (.int j) = .ok (decide (j < i)) := nd rfl
@[simp] theorem c41_dCmp {i : Int} {j : Int} : dCmp (.GtE) (.int i) (.int j) = .ok (decide (j ≤ i)) := nd rfl
@[simp] theorem c42_dCmp {a : D} : dCmp (.Is) (a) (.non) = .ok (match a with | .non => true | _ => false) := nd rfl
@[simp] theorem c43_dCmp {a : D} : dCmp (.IsNot) (a) (.non) = .ok (match a with | .non => false | _ => true) := nd rfl
@[simp] theorem c44_dCmp {a : D} {b : D} : dCmp (.In) (a) (b) = dIn a b := nd rfl
@[simp] theorem c45_dCmp {a : D} {b : D} : dCmp (.NotIn) (a) (b) = (dIn a b).bind fun c => .ok (!c) := nd rfl
@[simp] theorem c46_dIdx {i : Int} {l : List D} : dIdx (.tup l) (.int i) = .of (atI l i) := nd rfl
@[simp] theorem c47_dIdx {i : Int} {l : List D} : dIdx (.lst l) (.int i) = .of (atI l i) := nd rfl
@[simp] theorem c48_dIdx {i : Int} {l : List Int} : dIdx (.scr l) (.int i) = (Rs.of (atI l i)).bind fun k => .ok (.int k) := nd rfl
@[simp] theorem c49_dIdx {i : Int} {z : Str} : dIdx (.str z) (.int i) = need (z.length ≤ sizeLine) ((Rs.of (atI z.cps.toList i)).bind fun c => .ok (.str (chr1 c))) := nd rfl
@[simp] theorem c50_items {l : List D} : items (.tup l) = .ok l := nd rfl
@[simp] theorem c51_items {l : List D} : items (.lst l) = .ok l := nd rfl
@[simp] theorem c52_items {l : List Int} : items (.scr l) = .ok (l.map .int) := nd rfl
@[simp] theorem c53_items {x : Str} : items (.str x) = .ok (x.cps.toList.map fun c => .str (chr1 c)) := nd rfl
@[simp] theorem c54_itemsL {l : List D} : itemsL (.lst l) = .ok l := nd rfl
@[simp] theorem c54b_itemsL {l : List D} : itemsL (.tup l) = .ok l := nd rfl
@[simp] theorem c55_dLen {l : List D} : dLen (.tup l) = .ok l.length := nd rfl
@[simp] theorem c56_dLen {l : List D} : dLen (.lst l) = .ok l.length := nd rfl
@[simp] theorem c57_dLen {l : List Int} : dLen (.scr l) = .ok l.length := nd rfl
@[simp] theorem c58_dLen {x : Str} : dLen (.str x) = need (x.length ≤ sizeLine) (.ok x.length) := nd rfl
@[simp] theorem c59_dBl {d : D} : dBl (.len) ([d]) = (dLen d).bind fun n => .ok (.val (.int n)) := nd rfl
@[simp] theorem c60_dBl {i : Int} : dBl (.abs) ([.int i]) = .ok (.val (.int (if i < 0 then -i else i))) := nd rfl
@[simp] theorem c61_dBl {i : Int} : dBl (.int) ([.int i]) = .ok (.val (.int i)) := nd rfl
@[simp] theorem c62_dBl {k : Bool} : dBl (.int) ([.bl k]) = .ok (.val (.int (if k then 1 else 0))) := nd rfl
@[simp] theorem c63_dBl {l : List D} : dBl (.tuple) ([.tup l]) = .ok (.val (.tup l)) := nd rfl
@[simp] theorem c64_dBl {l : List D} : dBl (.tuple) ([.lst l]) = .ok (.val (.tup l)) := nd rfl
@[simp] theorem c65_dBl {l : List Int} : dBl (.tuple) ([.scr l]) = .ok (.val (.tup (l.map .int))) := nd rfl
@[simp] theorem c66_dBl {l : List D} : dBl (.list) ([.tup l]) = .ok (.own (.lst l)) := nd rfl
@[simp] theorem c67_dBl {l : List D} : dBl (.list) ([.lst l]) = .ok (.own (.lst l)) := nd rfl
@[simp] theorem c68_dBl {l : List Int} : dBl (.list) ([.scr l]) = .ok (.own (.lst (l.map .int))) := nd rfl
@[simp] theorem c69_dBl {l : List D} : dBl (.all) ([.lst l]) = (Rs.of (bls l)).bind fun bs => .ok (.val (.bl (bs.all id))) := nd rfl
@[simp] theorem c70_dBl {l : List D} : dBl (.any) ([.lst l]) = (Rs.of (bls l)).bind fun bs => .ok (.val (.bl (bs.any id))) := nd rfl
@[simp] theorem c71_dBl {l : List D} : dBl (.sum) ([.lst l]) = (Rs.of (intsD l)).bind fun is => .ok (.val (.int is.sum)) := nd rfl
@[simp] theorem c72_dBl {i : Int} {j : Int} : dBl (.gcd) ([.int i, .int j]) = .ok (.val (.int ((Nat.gcd i.natAbs j.natAbs : Nat) : Int))) := nd rfl
@[simp] theorem c73_dBl {i : Int} {j : Int} : dBl (.min2) ([.int i, .int j]) = .ok (.val (.int (if j < i then j else i))) := nd rfl
@[simp] theorem c74_dBl {i : Int} {j : Int} : dBl (.max2) ([.int i, .int j]) = .ok (.val (.int (if j > i then j else i))) := nd rfl
@[simp] theorem c75_truth  : truth (.non) = .ok false := nd rfl
@[simp] theorem c76_truth {b : Bool} : truth (.bl b) = .ok b := nd rfl
@[simp] theorem c77_truth {i : Int} : truth (.int i) = .ok (i != 0) := nd rfl
@[simp] theorem c78_truth {x : Str} : truth (.str x) = need (x.length ≤ sizeLine) (.ok ((x.length : Int) != 0)) := nd rfl
@[simp] theorem c79_truth {l : List D} : truth (.tup l) = .ok (!l.isEmpty) := nd rfl
@[simp] theorem c80_truth {l : List D} : truth (.lst l) = .ok (!l.isEmpty) := nd rfl
@[simp] theorem c81_truth {l : List Int} : truth (.scr l) = .ok (!l.isEmpty) := nd rfl
@[simp] theorem c82_dMe {a : Str} {l : List D} : dMe (.join) (.str a) ([.lst l]) = (Rs.of (strsD l)).bind fun ys => need ((ys.map (·.length)).sum + ys.length * a.length ≤ 16777216) (.ok (.val (.str (Txt.join a ys)))) := nd rfl
@[simp] theorem c83_dMe {a : Str} {l : List D} : dMe (.join) (.str a) ([.tup l]) = (Rs.of (strsD l)).bind fun ys => need ((ys.map (·.length)).sum + ys.length * a.length ≤ 16777216) (.ok (.val (.str (Txt.join a ys)))) := nd rfl
@[simp] theorem c84_dMe {a : Str} {b : Str} : dMe (.split) (.str a) ([.str b]) = need ((b.length == 0) = false ∧ a.length + 2 ≤ sizeLine) (.ok (.own (.lst ((Txt.split a b).map .str)))) := nd rfl
@[simp] theorem c85_dMe {l : List D} {x : D} : dMe (.index) (.lst l) ([x]) = need (shp x = true ∧ shp (.lst l) = true) (match l.findIdx? fun z => deq z x with | some j => .ok (.val (.int (j : Nat))) | none => .bad) := nd rfl
@[simp] theorem c86_dMm {l : List D} {d : D} : dMm (.append) (.lst l) ([d]) = need (l.length < sizeLine) (.ok (.non, .lst (l ++ [d]))) := nd rfl
@[simp] theorem c87_dMm {l : List D} : dMm (.pop) (.lst l) ([]) = (Rs.of (l[l.length - 1]?)).bind fun y => .ok (y, .lst l.dropLast) := nd rfl
@[simp] theorem c88_dMm {i : Int} {l : List D} {d : D} : dMm (.insert) (.lst l) ([.int i, d]) = need (l.length < sizeLine ∧ 0 ≤ i ∧ i < 2 ^ 63) (.ok (.non, .lst (l.take i.toNat ++ [d] ++ l.drop i.toNat))) := nd rfl
@[simp] theorem c89_dMm {i : Int} {l : List D} : dMm (.popAt) (.lst l) ([.int i]) = need (-(2 ^ 63) ≤ i ∧ i < 2 ^ 63) ((Rs.of (seqIndex? i l.length)).bind fun k => (Rs.of l[k]?).bind fun y => .ok (y, .lst (l.eraseIdx k))) := nd rfl
@[simp] theorem c90_dAug {i : Int} {j : Int} : dAug (.Add) (.int i) (.int j) = .ok (.int (i + j)) := nd rfl
@[simp] theorem c91_dAug {i : Int} {j : Int} : dAug (.Sub) (.int i) (.int j) = .ok (.int (i - j)) := nd rfl
@[simp] theorem c92_dAug {x : Str} {y : Str} : dAug (.Add) (.str x) (.str y) = need (x.length + y.length ≤ sizeLine) (.ok (.str (x ++ y))) := nd rfl
@[simp] theorem c93_dSet {k : Int} {l : List D} {d : D} : dSet (.lst l) (.int k) (d) = (Rs.of (ixN l.length k)).bind fun j => .ok (.lst (l.set j d)) := nd rfl
@[simp] theorem c94_itemss {a : List D} {b : List D} : itemss ([.lst a, .lst b]) = .ok [a, b] := nd rfl
@[simp] theorem c95_itemss {a : List D} {b : List D} : itemss ([.tup a, .tup b]) = .ok [a, b] := nd rfl
@[simp] theorem c95b_itemss {a b : List D} : itemss ([.lst a, .tup b]) = .ok [a, b] := nd rfl
@[simp] theorem c95c_itemss {a b : List D} : itemss ([.tup a, .lst b]) = .ok [a, b] := nd rfl
@[simp] theorem c96_dSlc {z : Str} {lo : Option Int} {hi : Option Int} : dSlc (.str z) (lo) (hi) = need (z.length ≤ sizeLine) (.ok (.val (.str (cutS z lo hi)))) := nd rfl
@[simp] theorem c97_dSlc {l : List D} {lo : Option Int} {hi : Option Int} : dSlc (.lst l) (lo) (hi) = .ok (.own (.lst ((l.drop (HT.sIx l.length 0 lo)).take (HT.sIx l.length l.length hi - HT.sIx l.length 0 lo)))) := nd rfl
@[simp] theorem c98_dSlc {l : List D} {lo : Option Int} {hi : Option Int} : dSlc (.tup l) (lo) (hi) = .ok (.val (.tup ((l.drop (HT.sIx l.length 0 lo)).take (HT.sIx l.length l.length hi - HT.sIx l.length 0 lo)))) := nd rfl
@[simp] theorem c99_bls : bls ([]) = some [] := nd rfl
@[simp] theorem c100_bls {b : Bool} {ds : List D} : bls (.bl b :: ds) = (bls ds).map (b :: ·) := nd rfl
@[simp] theorem c101_intsD : intsD ([]) = some [] := nd rfl
@[simp] theorem c102_intsD {b : Int} {ds : List D} : intsD (.int b :: ds) = (intsD ds).map (b :: ·) := nd rfl
@[simp] theorem c103_strsD : strsD ([]) = some [] := nd rfl
@[simp] theorem c104_strsD {b : Str} {ds : List D} : strsD (.str b :: ds) = (strsD ds).map (b :: ·) := nd rfl
@[simp] theorem dIn_str {i j : Str} : dIn (.str i) (.str j) = .ok (strIn i j) := nd rfl
@[simp] theorem dIn_lst {x : D} {l : List D} : dIn x (.lst l) = need (shp x = true ∧ shp (.lst l) = true) (.ok (l.any fun z => deq z x)) := nd rfl
@[simp] theorem dIn_tup {x : D} {l : List D} : dIn x (.tup l) = need (shp x = true ∧ shp (.tup l) = true) (.ok (l.any fun z => deq z x)) := nd rfl
@[simp] theorem isTy_tt {l : List D} : isTy .tup (.tup l) = .ok true := nd rfl
@[simp] theorem isTy_tl {l : List D} : isTy .tup (.lst l) = .ok false := nd rfl
@[simp] theorem isTy_ll {l : List D} : isTy .lst (.lst l) = .ok true := nd rfl
@[simp] theorem isTy_ss {x : Str} : isTy .str (.str x) = .ok true := nd rfl
@[simp] theorem isTy_ii {x : Int} : isTy .int (.int x) = .ok true := nd rfl
@[simp] theorem isTy_ib {x : Bool} : isTy .int (.bl x) = .ok true := nd rfl
@[simp] theorem isTy_bb {x : Bool} : isTy .bool (.bl x) = .ok true := nd rfl
@[simp] theorem isTy_bi {x : Int} : isTy .bool (.int x) = .ok false := nd rfl
@[simp] theorem isLst_i {l : List D} : isLst (.lst l) = true := nd rfl
@[simp] theorem hasTy_j {x : Str} : hasTy .join (.str x) = true := nd rfl
@[simp] theorem hasTy_s {x : Str} : hasTy .split (.str x) = true := nd rfl
@[simp] theorem atI_0 {α : Type} {x : α} {l : List α} : atI (x :: l) 0 = some x := by simp [atI, ixN]
@[simp] theorem atI_1 {α : Type} {x y : α} {l : List α} : atI (x :: y :: l) 1 = some y := by
  unfold atI ixN
  rw [if_pos (by decide), if_pos (by simp; omega)]
  rfl
@[simp] theorem atI_2 {α : Type} {x y z : α} {l : List α} : atI (x :: y :: z :: l) 2 = some z := by
  unfold atI ixN
  rw [if_pos (by decide), if_pos (by simp; omega)]
  rfl
@[simp] theorem atI_3 {α : Type} {x y z w : α} {l : List α} : atI (x :: y :: z :: w :: l) 3 = some w := by
  unfold atI ixN
  rw [if_pos (by decide), if_pos (by simp; omega)]
  rfl
@[simp] theorem mkF_glo2 {glo : Str → Option D} {M : Nat} {ds : List Dm} : (mkF glo M ds).glo = glo := mkF_glo
theorem dfl_cons {glo : Str → Option D} {M : Nat} {d : Dm} {ds : List Dm} (h1 : d.dfl = fun _ => []) (h2 : ∀ f n, (mkF glo M ds).dfl f n = []) (f : Str) (n : Nat) : (mkF glo M (d :: ds)).dfl f n = [] := by
  show (if f = d.f then d.dfl n else (mkF glo M ds).dfl f n) = []
  split
  · rw [h1]
  · exact h2 f n
/-- a table's def, seen from a larger one -/
theorem lift {glo : Str → Option D} {M : Nat} {f : Str} {ds : List Dm} : ∀ (l : List Dm), (l.all fun e => decide (f ≠ e.f)) = true → (mkF glo M (l ++ ds)).call f = (mkF glo M ds).call f
  | [], _ => rfl
  | d :: l, h => by
    rw [List.all_cons, Bool.and_eq_true] at h
    exact (show (mkF glo M (d :: (l ++ ds))).call f = _ from funext fun as => if_neg (of_decide_eq_true h.1)).trans (lift l h.2)
theorem nodfl {glo : Str → Option D} {M : Nat} {f : Str} {n : Nat} : ∀ {ds : List Dm}, (∀ d ∈ ds, d.dfl = fun _ => []) → (mkF glo M ds).dfl f n = []
  | [], _ => rfl
  | d :: l, h => by
    show (if f = d.f then d.dfl n else (mkF glo M l).dfl f n) = []
    split
    · rw [h d List.mem_cons_self]
    · exact nodfl fun e he => h e (List.mem_cons_of_mem _ he)
end
end Dv

set_option Elab.async false
set_option linter.all false
set_option maxRecDepth 100000
set_option maxHeartbeats 1000000
namespace Dv
open PySem PySem.Spec PyProof.Rows L2

/-! ### loops by what holds -/
theorem mapR_gen {f : D → Env' → Rs (Option D × Env')} : ∀ {l : List D} {I : Nat → List D → Env' → Prop} {ρ : Env'} {k : Nat} {out : List D},
    (∀ (i : Nat) (d : D) (out : List D) (ρ : Env'), l[i]? = some d → I (k + i) out ρ → ∃ y ρ', f d ρ = .ok (y, ρ') ∧ I (k + i + 1) (out ++ y.toList) ρ') → I k out ρ →
    ∃ o ρ', mapR f l ρ = .ok (o, ρ') ∧ I (k + l.length) (out ++ o) ρ'
  | [], I, ρ, k, out, _, h => ⟨[], ρ, rfl, by simpa using h⟩
  | d :: l, I, ρ, k, out, step, h => by
    obtain ⟨y, ρ1, e1, h1⟩ := step 0 d out ρ rfl h
    obtain ⟨o, ρ2, e2, h2⟩ := mapR_gen (l := l) (I := I) (ρ := ρ1) (k := k + 1) (out := out ++ y.toList) (fun i d out ρ e hi => by
      have := step (i + 1) d out ρ (by simpa using e) (by rw [show k + (i + 1) = k + 1 + i by omega]; exact hi)
      rw [show k + (i + 1) = k + 1 + i by omega] at this
      exact this) h1
    rw [List.length_cons, show k + (l.length + 1) = k + 1 + l.length by omega]
    cases y with
    | none =>
      refine ⟨o, ρ2, ?_, by simpa using h2⟩
      show (f d ρ).bind _ = _
      rw [e1]
      show (mapR f l ρ1).bind _ = _
      rw [e2]
      rfl
    | some y =>
      refine ⟨y :: o, ρ2, ?_, by simpa using h2⟩
      show (f d ρ).bind _ = _
      rw [e1]
      show (mapR f l ρ1).bind _ = _
      rw [e2]
      rfl
theorem forR_gen {f : D → Env' → Rs (Fl × Env')} : ∀ {l : List D} {I : Nat → Env' → Prop} {ρ : Env'} {k : Nat},
    (∀ (i : Nat) (d : D) (ρ : Env'), l[i]? = some d → I (k + i) ρ → ∃ ρ', f d ρ = .ok (.nx, ρ') ∧ I (k + i + 1) ρ') → I k ρ → ∃ ρ', forR f l ρ = .ok (.nx, ρ') ∧ I (k + l.length) ρ'
  | [], I, ρ, k, _, h => ⟨ρ, rfl, h⟩
  | d :: l, I, ρ, k, step, h => by
    obtain ⟨ρ1, e1, h1⟩ := step 0 d ρ rfl h
    obtain ⟨ρ2, e2, h2⟩ := forR_gen (l := l) (I := I) (ρ := ρ1) (k := k + 1) (fun i d ρ e hi => by
      have := step (i + 1) d ρ (by simpa using e) (by rw [show k + (i + 1) = k + 1 + i by omega]; exact hi)
      rw [show k + (i + 1) = k + 1 + i by omega] at this
      exact this) h1
    refine ⟨ρ2, ?_, ?_⟩
    · show (f d ρ).bind _ = _
      rw [e1]
      exact e2
    · rw [List.length_cons, show k + (l.length + 1) = k + 1 + l.length by omega]
      exact h2
theorem whileR_gen {t : Env' → Rs (Bool × Env')} {b : Env' → Rs (Fl × Env')} {I : Env' → Prop} {Q : Env' → Prop} (μ : Env' → Nat)
    (step : ∀ ρ, I ρ → (∃ ρ', t ρ = .ok (false, ρ') ∧ Q ρ') ∨ ∃ ρ1 ρ2, t ρ = .ok (true, ρ1) ∧ b ρ1 = .ok (.nx, ρ2) ∧ I ρ2 ∧ μ ρ2 < μ ρ) :
    ∀ {N : Nat} {ρ : Env'}, μ ρ < N → I ρ → ∃ ρ', whileR t b N ρ = .ok (.nx, ρ') ∧ Q ρ'
  | 0, ρ, h, _ => by omega
  | N + 1, ρ, h, hi => by
    rcases step ρ hi with ⟨ρ', e, q⟩ | ⟨ρ1, ρ2, e1, e2, h2, lt⟩
    · refine ⟨ρ', ?_, q⟩
      show (t ρ).bind _ = _
      rw [e]
      rfl
    · obtain ⟨ρ', e3, q⟩ := whileR_gen μ step (N := N) (ρ := ρ2) (by omega) h2
      refine ⟨ρ', ?_, q⟩
      show (t ρ).bind _ = _
      rw [e1]
      show (b ρ1).bind _ = _
      rw [e2]
      exact e3
theorem wR_len : ∀ (own : List Nat) (ρ : Env'), (wipeR ρ own).length = ρ.length
  | [], _ => rfl
  | v :: vs, ρ => by rw [wipe_cons, List.length_set, wR_len vs ρ]
theorem bR_len {ρ0 : Env'} : ∀ (own : List Nat) (ρ : Env'), (backR ρ0 ρ own).length = ρ.length
  | [], _ => rfl
  | v :: vs, ρ => by rw [back_cons, List.length_set, bR_len vs ρ]
theorem wR_get : ∀ (own : List Nat) (ρ : Env') (j : Nat), (wipeR ρ own)[j]? = if j ∈ own then (if j < ρ.length then some none else none) else ρ[j]?
  | [], _, _ => rfl
  | v :: vs, ρ, j => by
    rw [wipe_cons]
    by_cases e : v = j
    · subst e
      rw [if_pos List.mem_cons_self]
      by_cases lt : v < ρ.length
      · rw [if_pos lt, List.getElem?_set_self (by rw [wR_len]; exact lt)]
      · rw [if_neg lt, List.getElem?_eq_none (by rw [List.length_set, wR_len]; omega)]
    · rw [List.getElem?_set_ne e, wR_get vs ρ j]
      by_cases h : j ∈ vs
      · rw [if_pos h, if_pos (List.mem_cons_of_mem _ h)]
      · rw [if_neg h, if_neg (by simp [h, Ne.symm e])]
theorem bR_get {ρ0 : Env'} : ∀ (own : List Nat) (ρ : Env') (j : Nat), (backR ρ0 ρ own)[j]? = if j ∈ own then (if j < ρ.length then some (ρ0.getD j none) else none) else ρ[j]?
  | [], _, _ => rfl
  | v :: vs, ρ, j => by
    rw [back_cons]
    by_cases e : v = j
    · subst e
      rw [if_pos List.mem_cons_self]
      by_cases lt : v < ρ.length
      · rw [if_pos lt, List.getElem?_set_self (by rw [bR_len]; exact lt)]
      · rw [if_neg lt, List.getElem?_eq_none (by rw [List.length_set, bR_len]; omega)]
    · rw [List.getElem?_set_ne e, bR_get vs ρ j]
      by_cases h : j ∈ vs
      · rw [if_pos h, if_pos (List.mem_cons_of_mem _ h)]
      · rw [if_neg h, if_neg (by simp [h, Ne.symm e])]
theorem wipe_idem {own : List Nat} {ρ : Env'} : wipeR (wipeR ρ own) own = wipeR ρ own := List.ext_getElem? fun j => by
  rw [wR_get, wR_get, wR_len]
  by_cases h : j ∈ own
  · rw [if_pos h, if_pos h]
  · rw [if_neg h, if_neg h]
theorem back_wipe {ρ0 : Env'} {own : List Nat} {ρ : Env'} : backR ρ0 (wipeR ρ own) own = backR ρ0 ρ own := List.ext_getElem? fun j => by
  rw [bR_get, bR_get, wR_get, wR_len]
  by_cases h : j ∈ own
  · rw [if_pos h, if_pos h]
  · rw [if_neg h, if_neg h, if_neg h]
/-- a turn of a comprehension -/
noncomputable def turnR (F : Fn) (elt : Ex) (tg : Tg) (ifs : To) (d : D) (ρ : Env') : Rs (Option D × Env') := (asgT tg d ρ).bind fun ρ2 => (evc F ifs ρ2).quiet.bind fun c => match c.1 with
        | true => (ev F elt c.2).quiet.bind fun p => (Rs.of (toD p.1 p.2)).bind fun y => .ok (some y.1, y.2)
        | false => .ok (none, c.2)
/-- a comprehension, by what holds of the made items and of the other slots -/
theorem comp_gen {F : Fn} {elt : Ex} {tg : Tg} {it : Ie} {ifs : To} {own : List Nat} {ρ ρ1 : Env'} {l : List D} {p : P} (hi : evi F it ρ = .ok ((l, p), ρ1)) (I : Nat → List D → Env' → Prop)
    (step : ∀ (i : Nat) (d : D) (out : List D) (ρ : Env'), l[i]? = some d → wipeR ρ own = ρ → I i out ρ → ∃ y ρ', turnR F elt tg ifs d ρ = .ok (y, ρ') ∧ I (i + 1) (out ++ y.toList) (wipeR ρ' own)) (h0 : I 0 [] (wipeR (lockP p ρ1).2 own)) :
    ∃ out ρ2, I l.length out ρ2 ∧ ev F (.comp elt tg it ifs own) ρ = (unlock (lockP p ρ1).1 (backR (lockP p ρ1).2 ρ2 own)).bind fun ρ' => need (out.length < sizeLine) (.ok (.own (.lst out), ρ')) := by
  obtain ⟨o, ρ', e, h⟩ := mapR_gen (f := fun d ρ => turnR F elt tg ifs d (wipeR ρ own)) (l := l) (I := fun i out ρ => I i out (wipeR ρ own)) (k := 0) (out := []) (ρ := wipeR (lockP p ρ1).2 own) (fun i d out ρ e h => by
    rw [Nat.zero_add] at h ⊢
    exact step i d out (wipeR ρ own) e wipe_idem h) (by rw [wipe_idem]; exact h0)
  rw [Nat.zero_add, List.nil_append] at h
  refine ⟨o, wipeR ρ' own, h, ?_⟩
  rw [r_ev_comp, hi]
  show (mapR (fun d ρ => turnR F elt tg ifs d (wipeR ρ own)) l (wipeR (lockP p ρ1).2 own)).bind _ = _
  rw [e, back_wipe]
  rfl
end Dv

set_option Elab.async false
set_option linter.all false
set_option maxRecDepth 100000
set_option maxHeartbeats 1000000
namespace Dv
open PySem PySem.Spec PyProof.Rows L2

/-! ### the draws that all laws share -/
def bBegin : Sxs := (.cons 
    (.ret (.lst (.cons (.comp (.blt .int (.cons (.var 1) .nil)) (.nm 1) (.seq (.var 0)) .none [1]) (.cons (.cst (.int 0)) (.cons (.cst (.int 0)) (.cons (.cst (.int 7)) (.cons (.cst (.int 3)) .nil))))))) .nil)
def bDraw : Sxs := (.cons 
    (.ite (.cmp .Gt (.idx (.var 0) (.cst (.int 2))) (.cst (.int 0))) (.cons 
    (.set 3 (.idx (.var 0) (.cst (.int 2)))) (.cons 
    (.setI 0 (.cst (.int 2)) (.bin .FloorDiv (.var 3) (.var 1))) (.cons 
    (.ret (.bin .Mod (.blt .int (.cons (.var 3) .nil)) (.var 1))) .nil))) .nil) (.cons 
    (.set 2 (.cst (.int 0))) (.cons 
    (.ite (.cmp .Lt (.idx (.var 0) (.cst (.int 1))) (.blt .len (.cons (.idx (.var 0) (.cst (.int 0))) .nil))) (.cons 
    (.set 4 (.idx (.idx (.var 0) (.cst (.int 0))) (.idx (.var 0) (.cst (.int 1))))) (.cons 
    (.set 2 (.bin .Add (.bin .Mult (.cst (.int 2)) (.blt .abs (.cons (.var 4) .nil))) (.blt .int (.cons (.cmp .Lt (.var 4) (.cst (.int 0))) .nil)))) .nil)) .nil) (.cons 
    (.augI 0 .Add (.cst (.int 1)) (.cst (.int 1))) (.cons 
    (.ite (.cmp .GtE (.var 2) (.bin .Mult (.cst (.int 2)) (.bin .Pow (.cst (.int 10)) (.cst (.int 18))))) (.cons 
    (.set 3 (.bin .Mod (.blt .int (.cons (.bin .FloorDiv (.var 2) (.cst (.int 2))) .nil)) (.bin .LShift (.cst (.int 1)) (.cst (.int 6000))))) (.cons 
    (.setI 0 (.cst (.int 2)) (.bin .FloorDiv (.var 3) (.var 1))) (.cons 
    (.ret (.bin .Mod (.blt .int (.cons (.var 3) .nil)) (.var 1))) .nil))) .nil) (.cons 
    (.setI 0 (.cst (.int 3)) (.bin .Mod (.blt .int (.cons (.bin .Add (.bin .Add (.bin .Add (.bin .Mult (.idx (.var 0) (.cst (.int 3))) (.cst (.int 48271))) (.bin .Mult (.bin .Mod (.blt .int (.cons (.var 2) .nil)) (.cst (.int 2147483629))) (.cst (.int 16807)))) (.bin .Mult (.idx (.var 0) (.cst (.int 1))) (.cst (.int 69621)))) (.cst (.int 11))) .nil)) (.cst (.int 2147483647)))) (.cons 
    (.ret (.bin .Mod (.blt .int (.cons (.bin .FloorDiv (.idx (.var 0) (.cst (.int 3))) (.cst (.int 16))) .nil)) (.var 1))) .nil)))))))
def dS1 : Sx := (.ite (.cmp .Gt (.idx (.var 0) (.cst (.int 2))) (.cst (.int 0))) (.cons 
    (.set 3 (.idx (.var 0) (.cst (.int 2)))) (.cons 
    (.setI 0 (.cst (.int 2)) (.bin .FloorDiv (.var 3) (.var 1))) (.cons 
    (.ret (.bin .Mod (.blt .int (.cons (.var 3) .nil)) (.var 1))) .nil))) .nil)
def dS3 : Sx := (.ite (.cmp .Lt (.idx (.var 0) (.cst (.int 1))) (.blt .len (.cons (.idx (.var 0) (.cst (.int 0))) .nil))) (.cons 
    (.set 4 (.idx (.idx (.var 0) (.cst (.int 0))) (.idx (.var 0) (.cst (.int 1))))) (.cons 
    (.set 2 (.bin .Add (.bin .Mult (.cst (.int 2)) (.blt .abs (.cons (.var 4) .nil))) (.blt .int (.cons (.cmp .Lt (.var 4) (.cst (.int 0))) .nil)))) .nil)) .nil)
def bDraw2 : Sxs := (.cons 
    (.augI 0 .Add (.cst (.int 1)) (.cst (.int 1))) (.cons 
    (.ite (.cmp .GtE (.var 2) (.bin .Mult (.cst (.int 2)) (.bin .Pow (.cst (.int 10)) (.cst (.int 18))))) (.cons 
    (.set 3 (.bin .Mod (.blt .int (.cons (.bin .FloorDiv (.var 2) (.cst (.int 2))) .nil)) (.bin .LShift (.cst (.int 1)) (.cst (.int 6000))))) (.cons 
    (.setI 0 (.cst (.int 2)) (.bin .FloorDiv (.var 3) (.var 1))) (.cons 
    (.ret (.bin .Mod (.blt .int (.cons (.var 3) .nil)) (.var 1))) .nil))) .nil) (.cons 
    (.setI 0 (.cst (.int 3)) (.bin .Mod (.blt .int (.cons (.bin .Add (.bin .Add (.bin .Add (.bin .Mult (.idx (.var 0) (.cst (.int 3))) (.cst (.int 48271))) (.bin .Mult (.bin .Mod (.blt .int (.cons (.var 2) .nil)) (.cst (.int 2147483629))) (.cst (.int 16807)))) (.bin .Mult (.idx (.var 0) (.cst (.int 1))) (.cst (.int 69621)))) (.cst (.int 11))) .nil)) (.cst (.int 2147483647)))) (.cons 
    (.ret (.bin .Mod (.blt .int (.cons (.bin .FloorDiv (.idx (.var 0) (.cst (.int 3))) (.cst (.int 16))) .nil)) (.var 1))) .nil))))
def dS4 : Sx := (.augI 0 .Add (.cst (.int 1)) (.cst (.int 1)))
def dS5 : Sx := (.ite (.cmp .GtE (.var 2) (.bin .Mult (.cst (.int 2)) (.bin .Pow (.cst (.int 10)) (.cst (.int 18))))) (.cons 
    (.set 3 (.bin .Mod (.blt .int (.cons (.bin .FloorDiv (.var 2) (.cst (.int 2))) .nil)) (.bin .LShift (.cst (.int 1)) (.cst (.int 6000))))) (.cons 
    (.setI 0 (.cst (.int 2)) (.bin .FloorDiv (.var 3) (.var 1))) (.cons 
    (.ret (.bin .Mod (.blt .int (.cons (.var 3) .nil)) (.var 1))) .nil))) .nil)
def dS6 (A B C E G Q : Int) : Sx := (.setI 0 (.cst (.int 3)) (.bin .Mod (.blt .int (.cons (.bin .Add (.bin .Add (.bin .Add (.bin .Mult (.idx (.var 0) (.cst (.int 3))) (.cst (.int A))) (.bin .Mult (.bin .Mod (.blt .int (.cons (.var 2) .nil)) (.cst (.int B))) (.cst (.int C)))) (.bin .Mult (.idx (.var 0) (.cst (.int 1))) (.cst (.int E)))) (.cst (.int G))) .nil)) (.cst (.int Q))))
def bDraw3 : Sxs := (.cons 
    (.ret (.bin .Mod (.blt .int (.cons (.bin .FloorDiv (.idx (.var 0) (.cst (.int 3))) (.cst (.int 16))) .nil)) (.var 1))) .nil)
def bPick : Sxs := (.cons 
    (.ret (.idx (.var 1) (.call "_law_draw" (.cons (.var 0) (.cons (.blt .len (.cons (.var 1) .nil)) .nil))))) .nil)
def bRare : Sxs := (.cons 
    (.ret (.cmp .Eq (.call "_law_draw" (.cons (.var 0) (.cons (.var 1) .nil))) (.bin .FloorDiv (.var 1) (.cst (.int 2))))) .nil)
theorem bits_lt {x : Int} {k : Nat} (h : x.natAbs < 2 ^ k) : Builtin.Int.intBits x ≤ k := by
  unfold Builtin.Int.intBits
  split
  · omega
  · rename_i hx
    have : x.natAbs ≠ 0 := by simpa using hx
    exact (Nat.log2_lt this).mpr h
theorem bits_neg {x : Int} : Builtin.Int.intBits (-x) = Builtin.Int.intBits x := by
  unfold Builtin.Int.intBits
  rw [Int.natAbs_neg]
  by_cases h : x = 0
  · subst h; rfl
  · have h1 : (-x == 0) = false := by simpa using h
    have h2 : (x == 0) = false := by simpa using h
    rw [h1, h2]
theorem bits_nn {x : Int} {k : Nat} (h0 : 0 ≤ x) (h : x < 2 ^ k) : Builtin.Int.intBits x ≤ k := bits_lt (by
  have e : ((2 : Int) ^ k) = ((2 ^ k : Nat) : Int) := by push_cast; rfl
  rw [e] at h
  omega)
theorem ofb_lt {x : Int} {k : Nat} (h : Builtin.Int.intBits x ≤ k) : x.natAbs < 2 ^ k := by
  unfold Builtin.Int.intBits at h
  split at h
  · rename_i hx
    have : x = 0 := by simpa using hx
    subst this
    exact Nat.two_pow_pos k
  · rename_i hx
    have : x.natAbs ≠ 0 := by simpa using hx
    exact (Nat.log2_lt this).mp h
/-- a divisor of one digit or few -/
theorem dv_ok {i j : Int} (h : 0 < j) (h2 : j < 2 ^ 64) : CDvX i j := by
  refine ⟨by omega, ?_⟩
  unfold Builtin.divisionGoesByPylong
  have : j.natAbs.log2 < 64 := (Nat.log2_lt (by omega)).mpr (by omega)
  have e : (j == 0) = false := by simpa using (by omega : j ≠ 0)
  simp only [e]
  have q : ¬ (j.natAbs.log2 / 30 + 1 > 300) := by omega
  simp [q]

/-- 1 << 6000 -/
def big : Int := ((2 ^ 6000 : Nat) : Int)
theorem big_pos : 0 < big := by
  unfold big
  have : 0 < 2 ^ 6000 := Nat.two_pow_pos 6000
  omega
theorem pow_nat (n : Nat) : (1 : Int) * 2 ^ n = ((2 ^ n : Nat) : Int) := by
  rw [Int.one_mul]
  push_cast
  rfl
theorem sh_ok : CShl 1 ((6000 : Nat) : Int) := by decide +kernel
theorem sh_big (n : Nat) (h : CShl 1 (n : Int)) : dBin .LShift (.int 1) (.int (n : Int)) = .ok (.val (.int ((2 ^ n : Nat) : Int))) := by
  show need (CShl 1 (n : Int)) _ = _
  rw [need_true h, Int.toNat_natCast, pow_nat]
@[simp high] theorem sh_big2 : dBin .LShift (.int 1) (.int 6000) = .ok (.val (.int big)) := sh_big 6000 sh_ok
theorem fdiv_le {f m : Int} (h0 : 0 ≤ f) (hm : 0 < m) : f.fdiv m ≤ f := by
  rw [Int.fdiv_eq_ediv_of_nonneg _ (by omega)]
  exact Int.ediv_le_self _ h0
/-- the state of the draws, behind at most n of them -/
structure DS (n : Nat) (d : D) : Prop where
  ex : ∃ (cs : List Int) (p f s : Int), d = .lst [.lst (cs.map .int), .int p, .int f, .int s, .int 3] ∧ (∀ c ∈ cs, Builtin.Int.intBits c ≤ 1048576) ∧ cs.length ≤ 63 ∧ 0 ≤ p ∧ p ≤ n ∧ 0 ≤ f ∧ f < big ∧ 0 ≤ s ∧ s < 2 ^ 31
theorem DS.mono {n m : Nat} {d : D} (h : DS n d) (le : n ≤ m) : DS m d := by
  obtain ⟨cs, p, f, s, e, h1, h2, h3, h4, h5⟩ := h.ex
  exact ⟨cs, p, f, s, e, h1, h2, h3, by omega, h5⟩

theorem begin_ok {F : Fn} {M : Nat} {ns : List Int} (hl : ns.length ≤ 63) : runDef F M 2 bBegin [.val (.scr ns)] = .ok (.own (.lst [.lst (ns.map .int), .int 0, .int 0, .int 7, .int 3]), [.val (.scr ns)]) := by
  obtain ⟨o, ρ2, ⟨h1, h2⟩, e⟩ := comp_gen (F := F) (elt := .blt .int (.cons (.var 1) .nil)) (tg := .nm 1) (it := .seq (.var 0)) (ifs := .none) (own := [1]) (ρ := [some (.val (.scr ns)), none]) (l := ns.map .int) (p := .val (.scr ns)) (ρ1 := [some (.val (.scr ns)), none]) (by simp [items])
    (I := fun i out ρ => out = (ns.map D.int).take i ∧ ρ = [some (.val (.scr ns)), none])
      (fun i d out ρ e _ ⟨h1, h2⟩ => by
        obtain ⟨z, hz, rfl⟩ := List.mem_map.mp (List.mem_of_getElem? e)
        refine ⟨some (.int z), [some (.val (.scr ns)), some (.val (.int z))], ?_, ?_, ?_⟩
        · rw [h2]
          simp [turnR, dBl]
        · rw [h1, List.take_succ, e]
        · simp) ⟨rfl, by simp⟩
  rw [List.take_length] at h1
  subst h1 h2
  have hq : ns.length < 16777216 := by omega
  simp [bBegin, envOf, -r_ev_comp, e, sizeLine, hq]

theorem fdiv_lt {f m : Int} {k : Nat} (h0 : 0 ≤ f) (h : f < 2 ^ k) (hm : 0 < m) : f.fdiv m < 2 ^ k := by
  have h1 : f.fdiv m ≤ f := by
    rw [Int.fdiv_eq_ediv_of_nonneg _ (by omega)]
    exact Int.ediv_le_self _ h0
  omega
theorem exs_nx {F : Fn} {M : Nat} {t : Sx} {l : Sxs} {ρ ρ' : Env'} (h : ex F M t ρ = .ok (.nx, ρ')) : exs F M (.cons t l) ρ = exs F M l ρ' := by
  rw [r_exs_cons, h]
  rfl
theorem dS6_ok {F : Fn} {M : Nat} {A B C E G Q p f s sz m : Int} {x : D} {o3 o4 : Option S} (hB : B ≠ 0) (hQ : Q ≠ 0) (m2 : CMulX s A) (m3 : CMulX (sz.fmod B) C) (m4 : CMulX p E) :
    ex F M (dS6 A B C E G Q) [some (.own true (.lst [x, .int p, .int f, .int s, .int 3])), some (.val (.int m)), some (.val (.int sz)), o3, o4] =
    .ok (.nx, [some (.own true (.lst [x, .int p, .int f, .int ((s * A + sz.fmod B * C + p * E + G).fmod Q), .int 3])), some (.val (.int m)), some (.val (.int sz)), o3, o4]) := by
  simp [dS6, ixN, hB, hQ, m2, m3, m4]
theorem draw_ok {F : Fn} {M : Nat} {n : Nat} {d : D} {m : Int} (hd : DS n d) (hn : n < 2 ^ 60) (h0 : 0 < m) (h1 : m < 2 ^ 64) :
    ∃ r d', runDef F M 5 bDraw [.own d, .val (.int m)] = .ok (.val (.int r), [.own d', .val (.int m)]) ∧ 0 ≤ r ∧ r < m ∧ DS (n + 1) d' := by
  obtain ⟨cs, p, f, s, rfl, hb, hl, hp0, hpn, hf0, hf1, hs0, hs1⟩ := hd.ex
  have dv : ∀ i, CDvX i m := fun i => dv_ok h0 h1
  have hm : m ≠ 0 := by omega
  have fm : ∀ x : Int, 0 ≤ x.fmod m ∧ x.fmod m < m := fun x => ⟨Int.fmod_nonneg_of_pos _ h0, Int.fmod_lt_of_pos _ h0⟩
  by_cases hf : 0 < f
  · refine ⟨f.fmod m, .lst [.lst (cs.map .int), .int p, .int (f.fdiv m), .int s, .int 3], ?_, (fm f).1, (fm f).2, ⟨cs, p, f.fdiv m, s, rfl, hb, hl, hp0, by omega, Int.fdiv_nonneg hf0 (by omega), Int.lt_of_le_of_lt (fdiv_le hf0 h0) hf1, hs0, hs1⟩⟩
    simp [bDraw, envOf, ixN, hf, dv, hm]
  · have mx : ∀ (a b : Int), Builtin.Int.intBits a ≤ 2000000 → Builtin.Int.intBits b ≤ 2000000 → CMulX a b := fun a b h1 h2 => by
      unfold CMulX
      omega
    have b2 : Builtin.Int.intBits 2 ≤ 2000000 := by decide +kernel
    have pw : CPow 10 18 := by decide +kernel
    have m1 : CMulX 2 1000000000000000000 := by decide +kernel
    have m2 : CMulX s 48271 := mx _ _ (Nat.le_trans (bits_nn (k := 31) hs0 (by omega)) (by omega)) (by decide +kernel)
    have m3 : ∀ x : Int, CMulX (x.fmod 2147483629) 16807 := fun x => mx _ _ (Nat.le_trans (bits_nn (k := 31) (Int.fmod_nonneg_of_pos _ (by omega)) (Int.lt_trans (Int.fmod_lt_of_pos _ (by omega)) (by omega))) (by omega)) (by decide +kernel)
    have m4 : CMulX (p + 1) 69621 := mx _ _ (Nat.le_trans (bits_nn (k := 62) (by omega) (by omega)) (by omega)) (by decide +kernel)
    have dv2 : ∀ i, CDvX i 2 := fun i => dv_ok (by decide) (by decide)
    have dv16 : ∀ i, CDvX i 16 := fun i => dv_ok (by decide) (by decide)
    -- the cell's size
    obtain ⟨sz, hsz⟩ : ∃ sz : Int, sz = if p < cs.length then 2 * (if (cs.getD p.toNat 0) < 0 then -(cs.getD p.toNat 0) else cs.getD p.toNat 0) + (if decide ((cs.getD p.toNat 0) < 0) = true then 1 else 0) else 0 := ⟨_, rfl⟩
    have key : ex F M ((.ite (.cmp .Lt (.idx (.var 0) (.cst (.int 1))) (.blt .len (.cons (.idx (.var 0) (.cst (.int 0))) .nil))) (.cons
        (.set 4 (.idx (.idx (.var 0) (.cst (.int 0))) (.idx (.var 0) (.cst (.int 1))))) (.cons
        (.set 2 (.bin .Add (.bin .Mult (.cst (.int 2)) (.blt .abs (.cons (.var 4) .nil))) (.blt .int (.cons (.cmp .Lt (.var 4) (.cst (.int 0))) .nil)))) .nil)) .nil))
        [some (.own true (.lst [.lst (cs.map .int), .int p, .int f, .int s, .int 3])), some (.val (.int m)), some (.val (.int 0)), none, none] =
        .ok (.nx, [some (.own true (.lst [.lst (cs.map .int), .int p, .int f, .int s, .int 3])), some (.val (.int m)), some (.val (.int sz)), none, if p < cs.length then some (.val (.int (cs.getD p.toNat 0))) else none]) := by
      by_cases hp : p < cs.length
      · have hp2 : p.toNat < cs.length := by omega
        have ha : atI (cs.map D.int) p = some (.int (cs.getD p.toNat 0)) := by
          unfold atI ixN
          rw [if_pos hp0, if_pos (by simpa using hp)]
          simp [List.getElem?_eq_getElem hp2]
        have mc : CMulX 2 (if (cs.getD p.toNat 0) < 0 then -(cs.getD p.toNat 0) else cs.getD p.toNat 0) := mx _ _ b2 (by
          have h := hb _ (List.getElem_mem hp2)
          have e : cs.getD p.toNat 0 = cs[p.toNat] := by simp [List.getElem?_eq_getElem hp2]
          rw [e]
          split
          · rw [bits_neg]; omega
          · omega)
        rw [if_pos hp] at hsz ⊢
        subst hsz
        generalize cs.getD p.toNat 0 = c at *
        simp [ha, hp, mc]
      · rw [if_neg hp] at hsz ⊢
        subst hsz
        simp [hp]
    have e3 : exs F M bDraw (envOf 5 [.own (.lst [.lst (cs.map .int), .int p, .int f, .int s, .int 3]), .val (.int m)]) = exs F M bDraw2 [some (.own true (.lst [.lst (cs.map .int), .int p, .int f, .int s, .int 3])), some (.val (.int m)), some (.val (.int sz)), none, if p < cs.length then some (.val (.int (cs.getD p.toNat 0))) else none] := by
      rw [show bDraw = .cons dS1 (.cons (.set 2 (.cst (.int 0))) (.cons dS3 bDraw2)) from rfl]
      have h1 : ex F M dS1 [some (.own true (.lst [.lst (cs.map .int), .int p, .int f, .int s, .int 3])), some (.val (.int m)), none, none, none] = .ok (.nx, [some (.own true (.lst [.lst (cs.map .int), .int p, .int f, .int s, .int 3])), some (.val (.int m)), none, none, none]) := by
        simp [dS1, hf]
      have h2 : ex F M (.set 2 (.cst (.int 0))) [some (.own true (.lst [.lst (cs.map .int), .int p, .int f, .int s, .int 3])), some (.val (.int m)), none, none, none] = .ok (.nx, [some (.own true (.lst [.lst (cs.map .int), .int p, .int f, .int s, .int 3])), some (.val (.int m)), some (.val (.int 0)), none, none]) := by
        simp
      rw [r_exs_cons, show envOf 5 [A.own (.lst [.lst (cs.map .int), .int p, .int f, .int s, .int 3]), .val (.int m)] = [some (.own true (.lst [.lst (cs.map .int), .int p, .int f, .int s, .int 3])), some (.val (.int m)), none, none, none] from rfl, h1]
      show exs F M _ _ = _
      rw [r_exs_cons, h2]
      show exs F M _ _ = _
      rw [r_exs_cons]
      rw [show ex F M dS3 _ = _ from key]
      rfl
    rw [runDef_d, e3]
    clear e3 key hsz
    generalize (if p < cs.length then some (S.val (.int (cs.getD p.toNat 0))) else none) = o4
    by_cases hz : 2000000000000000000 ≤ sz
    · refine ⟨((sz.fdiv 2).fmod big).fmod m, .lst [.lst (cs.map .int), .int (p + 1), .int (((sz.fdiv 2).fmod big).fdiv m), .int s, .int 3], ?_, (fm _).1, (fm _).2,
        ⟨cs, p + 1, ((sz.fdiv 2).fmod big).fdiv m, s, rfl, hb, hl, by omega, by omega, Int.fdiv_nonneg (Int.fmod_nonneg_of_pos _ big_pos) (by omega), Int.lt_of_le_of_lt (fdiv_le (Int.fmod_nonneg_of_pos _ big_pos) h0) (Int.fmod_lt_of_pos _ big_pos), hs0, hs1⟩⟩
      have n0 : big ≠ 0 := by have := big_pos; omega
      simp [bDraw2, ixN, hz, dv, hm, pw, m1, dv2, n0]
    · have g := fun x : Int => Int.fmod_nonneg_of_pos x (b := 2147483647) (by decide)
      have g2 := fun x : Int => Int.fmod_lt_of_pos x (b := 2147483647) (by decide)
      have c4 : ex F M dS4 [some (.own true (.lst [.lst (cs.map .int), .int p, .int f, .int s, .int 3])), some (.val (.int m)), some (.val (.int sz)), none, o4] = .ok (.nx, [some (.own true (.lst [.lst (cs.map .int), .int (p + 1), .int f, .int s, .int 3])), some (.val (.int m)), some (.val (.int sz)), none, o4]) := by
        simp [dS4, ixN]
      have c5 : ex F M dS5 [some (.own true (.lst [.lst (cs.map .int), .int (p + 1), .int f, .int s, .int 3])), some (.val (.int m)), some (.val (.int sz)), none, o4] = .ok (.nx, [some (.own true (.lst [.lst (cs.map .int), .int (p + 1), .int f, .int s, .int 3])), some (.val (.int m)), some (.val (.int sz)), none, o4]) := by
        simp [dS5, hz, pw, m1]
      have c6 := dS6_ok (F := F) (M := M) (m := m) (x := .lst (cs.map .int)) (f := f) (o3 := none) (o4 := o4) (G := 11) (Q := 2147483647) (by decide) (by decide) m2 (m3 sz) m4
      have g3 := g (s * 48271 + sz.fmod 2147483629 * 16807 + (p + 1) * 69621 + 11)
      have g4 := g2 (s * 48271 + sz.fmod 2147483629 * 16807 + (p + 1) * 69621 + 11)
      generalize (s * 48271 + sz.fmod 2147483629 * 16807 + (p + 1) * 69621 + 11).fmod 2147483647 = s' at c6 g3 g4
      refine ⟨(s'.fdiv 16).fmod m, .lst [.lst (cs.map .int), .int (p + 1), .int f, .int s', .int 3], ?_, (fm _).1, (fm _).2,
        ⟨cs, p + 1, f, s', rfl, hb, hl, by omega, by omega, hf0, hf1, g3, by omega⟩⟩
      have c7 : (exs F M bDraw3 [some (.own true (.lst [.lst (cs.map .int), .int (p + 1), .int f, .int s', .int 3])), some (.val (.int m)), some (.val (.int sz)), none, o4]).bind (finish [.own (.lst [.lst (cs.map .int), .int p, .int f, .int s, .int 3]), .val (.int m)]) =
          .ok (.val (.int ((s'.fdiv 16).fmod m)), [.own (.lst [.lst (cs.map .int), .int (p + 1), .int f, .int s', .int 3]), .val (.int m)]) := by
        simp [bDraw3, ixN, dv, hm, dv16]
      have c8 : exs F M bDraw2 [some (.own true (.lst [.lst (cs.map .int), .int p, .int f, .int s, .int 3])), some (.val (.int m)), some (.val (.int sz)), none, o4] = exs F M bDraw3 [some (.own true (.lst [.lst (cs.map .int), .int (p + 1), .int f, .int s', .int 3])), some (.val (.int m)), some (.val (.int sz)), none, o4] :=
        (exs_nx c4).trans ((exs_nx c5).trans (exs_nx c6))
      rw [c8]
      exact c7
end Dv

set_option Elab.async false
set_option linter.all false
set_option maxRecDepth 100000
set_option maxHeartbeats 1000000
namespace Dv
open PySem PySem.Spec PyProof.Rows L2

/-! ### texts as lists of characters -/
def st (l : List Nat) : Str := ⟨l.toArray⟩
theorem st_of (x : Str) : x = st x.cps.toList := by
  unfold st
  rw [Array.toArray_toList]
@[simp] theorem st_cps {l : List Nat} : (st l).cps.toList = l := rfl
@[simp] theorem st_len {l : List Nat} : (st l).length = l.length := rfl
theorem chr1_st {c : Nat} : chr1 c = st [c] := rfl
@[simp] theorem st_app {a b : List Nat} : st a ++ st b = st (a ++ b) := by
  show Str.append (st a) (st b) = _
  unfold Str.append st
  simp
theorem st_inj {a b : List Nat} : st a = st b ↔ a = b := ⟨fun h => by
  have := congrArg (fun x : Str => x.cps.toList) h
  simpa using this, fun h => by rw [h]⟩
theorem shp_st {l : List Nat} (h : ∀ c ∈ l, c < 128) : shp (.str (st l)) = true := by
  have e : PyData.strOk (st l) = true := by
    show l.toArray.all (fun x => decide (x < 1114112)) = true
    rw [List.all_toArray, List.all_eq_true]
    exact fun c hc => decide_eq_true (by have := h c hc; omega)
  show (PyData.strOk (st l) && decide (PyData.depth (.str (st l)) ≤ 64)) = true
  rw [e]
  rfl
@[simp] theorem deq_str {x y : Str} : deq (.str x) (.str y) = decide (x = y) := by
  show PyData.eqv (.str x) (.str y) = _
  unfold PyData.eqv
  by_cases h : x = y
  · simp [h]
  · simp [h]
@[simp] theorem shp_int {x : Int} : shp (.int x) = true := rfl
@[simp] theorem deq_int {x y : Int} : deq (.int x) (.int y) = decide (x = y) := by
  show PyData.eqv (.int x) (.int y) = _
  unfold PyData.eqv
  by_cases h : x = y
  · simp [h]
  · simp [h]
theorem items_st {l : List Nat} : items (.str (st l)) = .ok (l.map fun c => .str (st [c])) := rfl
theorem empty_st : (Str.empty) = st [] := rfl
theorem join_st : ∀ (ls : List (List Nat)), Txt.join (st []) (ls.map st) = st ls.flatten := by
  intro ls
  rw [show Txt.join (st []) (ls.map st) = Builtin.Str.glued (st []) (ls.map st) from rfl, PySem.StrLaws.glued_eq_join]
  induction ls with
  | nil => rfl
  | cons a r ih =>
    cases r with
    | nil => simp [Str.join]
    | cons b r =>
      show st a ++ st [] ++ Str.join (st []) ((b :: r).map st) = _
      rw [ih]
      simp
theorem strs_st : ∀ (ls : List (List Nat)), strsD (ls.map fun l => D.str (st l)) = some (ls.map st)
  | [] => rfl
  | a :: r => by
    show (strsD (r.map fun l => D.str (st l))).map _ = _
    rw [strs_st r]
    rfl
theorem atI_nat {α : Type} {l : List α} {i : Int} (h0 : 0 ≤ i) (h : i < l.length) : atI l i = l[i.toNat]? := by
  unfold atI ixN
  rw [if_pos h0, if_pos h]
  rfl
theorem cut_st {l : List Nat} {a b : Nat} (h : a ≤ b) (hb : b ≤ l.length) : cutS (st l) (some (a : Int)) (some (b : Int)) = st ((l.drop a).take (b - a)) := by
  unfold cutS
  rw [HT.sIx_nat, HT.sIx_nat, st_len, Nat.min_eq_left hb, Nat.min_eq_left (Nat.le_trans h hb)]
  rfl
theorem mul_st {l : List Nat} {n : Nat} (h : 0 < n) : Txt.mul (st l) (n : Int) = st (List.replicate n l).flatten := by
  unfold Txt.mul
  rw [if_neg (by omega)]
  by_cases h1 : ((n : Int) == 1 || (st l).length == 0) = true
  · rw [if_pos h1]
    rw [Bool.or_eq_true] at h1
    rcases h1 with h1 | h1
    · have : n = 1 := by have := beq_iff_eq.mp h1; omega
      subst this
      simp
    · have : l = [] := by
        have := beq_iff_eq.mp h1
        rw [st_len] at this
        exact List.length_eq_zero_iff.mp this
      subst this
      simp
  · rw [if_neg h1]
    have g : ∀ (k : Nat) (acc : Array Nat), (List.replicate k (st l).cps).foldl (· ++ ·) acc = acc ++ ((List.replicate k l).flatten).toArray := by
      intro k
      induction k with
      | zero => intro acc; simp
      | succ k ih =>
        intro acc
        rw [List.replicate_succ, List.foldl_cons, ih, List.replicate_succ, List.flatten_cons]
        show acc ++ l.toArray ++ _ = _
        simp
    have e := g n #[]
    rw [Int.toNat_natCast, e]
    unfold st
    simp
theorem mulOk_st {l : List Nat} {n : Nat} (h : n ≤ 1000) (hl : l.length ≤ 1000) : MulOk (st l) (n : Int) := by
  refine ⟨?_, fun h1 _ => ?_, fun _ _ => ?_⟩
  · simp; omega
  · rw [st_len]
    have : (9223372036854775807 : Int) / n ≥ 1000000000 := by
      apply Int.le_ediv_of_mul_le (by omega)
      omega
    have e : (2 : Int) ^ 63 - 1 = 9223372036854775807 := by decide
    rw [e]
    omega
  · unfold Builtin.Str.tooLong
    rw [st_len, Int.toNat_natCast]
    have : l.length * n ≤ 1000 * 1000 := Nat.mul_le_mul hl h
    simp [sizeLine]
    omega
end Dv
namespace Dv
open PySem PySem.Spec PyProof.Rows L2
theorem nil_st : (Str.ofString "") = st [] := by decide +kernel
theorem join_ok {ls : List (List Nat)} (h : ls.flatten.length ≤ 16777216) : dMe .join (.str (Str.ofString "")) [.lst (ls.map fun l => .str (st l))] = .ok (.val (.str (st ls.flatten))) := by
  rw [nil_st]
  show (Rs.of (strsD (ls.map fun l => .str (st l)))).bind _ = _
  rw [strs_st]
  show need _ _ = _
  have e : ((ls.map st).map (·.length)).sum = ls.flatten.length := by
    rw [List.map_map, List.length_flatten]
    rfl
  rw [need_true (by rw [e, st_len]; simpa using h), join_st]
end Dv
namespace Dv
open PySem PySem.Spec PyProof.Rows L2
/-- a for loop that ends by itself -/
theorem for_ok {F : Fn} {N : Nat} {tg : Tg} {it : Ie} {b : Sxs} {ρ ρ1 ρ' : Env'} {l : List D} {p : P} (hi : evi F it ρ = .ok ((l, p), ρ1)) (h : forR (fun d ρ1 => (asgT tg d ρ1).bind (exs F N b)) l (lockP p ρ1).2 = .ok (.nx, ρ')) :
    ex F N (.for_ tg it b) ρ = (unlock (lockP p ρ1).1 ρ').bind fun ρ => .ok (.nx, ρ) := by
  rw [r_ex_for_, hi]
  show (forR _ _ _).bind _ = _
  rw [h]
  rfl
end Dv

set_option Elab.async false
set_option linter.all false
set_option maxRecDepth 100000
set_option maxHeartbeats 1000000
namespace Dv
open PySem PySem.Spec PyProof.Rows L2

/-! ### plain data -/
def nice : Nat → D → Prop
  | 0, d => match d with | .non => True | .int _ => True | .str x => PyData.strOk x = true | _ => False
  | k + 1, d => match d with | .non => True | .int _ => True | .str x => PyData.strOk x = true | .tup l => ∀ e ∈ l, nice k e | .lst l => ∀ e ∈ l, nice k e | _ => False
@[simp] theorem nice_int {k : Nat} {i : Int} : nice k (.int i) := by cases k <;> trivial
@[simp] theorem nice_non {k : Nat} : nice k .non := by cases k <;> trivial
theorem nice_str {k : Nat} {x : Str} (h : PyData.strOk x = true) : nice k (.str x) := by cases k <;> exact h
@[simp] theorem nice_tup {k : Nat} {l : List D} : nice (k + 1) (.tup l) ↔ ∀ e ∈ l, nice k e := Iff.rfl
@[simp] theorem nice_lst {k : Nat} {l : List D} : nice (k + 1) (.lst l) ↔ ∀ e ∈ l, nice k e := Iff.rfl
theorem nice_up : ∀ {k : Nat} {d : D}, nice k d → nice (k + 1) d
  | 0, d, h => by
    cases d <;> first | trivial | exact h | exact h.elim
  | k + 1, d, h => by
    cases d <;> first | trivial | exact h | exact h.elim | (intro e he; exact nice_up (h e he))
theorem canLayAll_map {l : List PyData} (h : ∀ d ∈ l, d.canLay0 = true) : PyData.canLayAll0 l = true := by
  induction l with
  | nil => rfl
  | cons a t ih =>
    rw [PyData.canLayAll0, h a List.mem_cons_self, ih fun d hd => h d (List.mem_cons_of_mem _ hd)]
    rfl
theorem depthAll_map {l : List PyData} {k : Nat} (h : ∀ d ∈ l, d.depth ≤ k) : PyData.depthAll l ≤ k := by
  induction l with
  | nil => exact Nat.zero_le _
  | cons a t ih =>
    rw [PyData.depthAll]
    exact Nat.max_le.mpr ⟨h a List.mem_cons_self, ih fun d hd => h d (List.mem_cons_of_mem _ hd)⟩
theorem nice_lay : ∀ {k : Nat} {d : D}, nice k d → (toPy d).canLay0 = true ∧ (toPy d).depth ≤ k
  | 0, d, h => by
    cases d with
    | non => exact ⟨rfl, Nat.le_refl 0⟩
    | int i => exact ⟨rfl, Nat.le_refl 0⟩
    | str x => exact ⟨h, Nat.le_refl 0⟩
    | _ => exact h.elim
  | k + 1, d, h => by
    have key : ∀ l : List D, (∀ e ∈ l, nice k e) → PyData.canLayAll0 (toPys l) = true ∧ PyData.depthAll (toPys l) ≤ k := fun l hl => by
      rw [toPys_map]
      refine ⟨canLayAll_map fun d hd => ?_, depthAll_map fun d hd => ?_⟩
      all_goals
        obtain ⟨e, he, rfl⟩ := List.mem_map.mp hd
      · exact (nice_lay (hl e he)).1
      · exact (nice_lay (hl e he)).2
    cases d with
    | non => exact ⟨rfl, Nat.zero_le _⟩
    | int i => exact ⟨rfl, Nat.zero_le _⟩
    | str x => exact ⟨h, Nat.zero_le _⟩
    | tup l => exact ⟨(key l h).1, Nat.succ_le_succ (key l h).2⟩
    | lst l => exact ⟨(key l h).1, Nat.succ_le_succ (key l h).2⟩
    | _ => exact h.elim
theorem nice_shp {k : Nat} {d : D} (h : nice k d) (hk : k ≤ 64) : shp d = true := by
  obtain ⟨h1, h2⟩ := nice_lay h
  show SeqAt.shaped (toPy d) = true
  unfold SeqAt.shaped
  rw [h1, Bool.true_and]
  exact decide_eq_true (Nat.le_trans h2 hk)
theorem nice_eq : ∀ {k : Nat} {d e : D}, nice k d → nice k e → (PyData.eqv (toPy d) (toPy e) = true ↔ d = e) := by
  have key : ∀ {k : Nat}, (∀ {d e : D}, nice k d → nice k e → (PyData.eqv (toPy d) (toPy e) = true ↔ d = e)) → ∀ l m : List D, (∀ e ∈ l, nice k e) → (∀ e ∈ m, nice k e) → (PyData.eqvAll (toPys l) (toPys m) = true ↔ l = m) := by
    intro k ih l
    induction l with
    | nil =>
      intro m _ _
      cases m with
      | nil => simp [toPys, PyData.eqvAll]
      | cons b m => simp [toPys, PyData.eqvAll]
    | cons a l il =>
      intro m hl hm
      cases m with
      | nil => simp [toPys, PyData.eqvAll]
      | cons b m =>
        rw [toPys, toPys, PyData.eqvAll, Bool.and_eq_true, ih (hl a List.mem_cons_self) (hm b List.mem_cons_self), il m (fun d hd => hl d (List.mem_cons_of_mem _ hd)) (fun d hd => hm d (List.mem_cons_of_mem _ hd)), List.cons.injEq]
  intro k
  induction k with
  | zero =>
    intro d e hd he
    cases d <;> first | exact hd.elim | (cases e <;> first | exact he.elim | simp [toPy, PyData.eqv])
  | succ k ih =>
    intro d e hd he
    cases d <;> first | exact hd.elim | (cases e <;> first | exact he.elim | (rename_i l m; rw [toPy, toPy, PyData.eqv, key ih l m hd he]; simp) | simp [toPy, PyData.eqv])
noncomputable instance : DecidableEq D := fun _ _ => Classical.propDecidable _
theorem deq_nice {k : Nat} {d e : D} (h1 : nice k d) (h2 : nice k e) : deq d e = decide (d = e) := by
  by_cases h : d = e
  · rw [decide_eq_true h]
    exact (nice_eq h1 h2).mpr h
  · rw [decide_eq_false h]
    cases hb : deq d e with
    | false => rfl
    | true => exact absurd ((nice_eq h1 h2).mp hb) h
theorem eq_nice {k : Nat} {d e : D} (h1 : nice k d) (h2 : nice k e) (hk : k ≤ 64) : dCmp .Eq d e = .ok (decide (d = e)) := by
  rw [c36_dCmp, need_true ⟨nice_shp h1 hk, nice_shp h2 hk⟩, deq_nice h1 h2]
theorem ne_nice {k : Nat} {d e : D} (h1 : nice k d) (h2 : nice k e) (hk : k ≤ 64) : dCmp .NotEq d e = .ok (!decide (d = e)) := by
  rw [c37_dCmp, need_true ⟨nice_shp h1 hk, nice_shp h2 hk⟩, deq_nice h1 h2]

/-! ### amounts -/
def oB : Nat := 2 ^ 4000
def oC : Nat := 2 ^ 8002
theorem lt_oB {n : Nat} (h : n < 2 ^ 2000) : n < oB := Nat.lt_of_lt_of_le h (Nat.pow_le_pow_right (by decide) (by decide))
theorem oB_oC : oB * oB + oB * oB < oC := by
  have e : oB * oB = 2 ^ 8000 := by unfold oB; rw [← Nat.pow_add]
  have e2 : oC = 2 ^ 8000 * 2 ^ 2 := by unfold oC; rw [← Nat.pow_add]
  have h : 0 < 2 ^ 8000 := Nat.two_pow_pos _
  rw [e, e2]
  generalize 2 ^ 8000 = x at *
  omega
theorem oB_pos : 0 < oB := Nat.two_pow_pos _
/-- an amount -/
def am (q : Rat) : D := .tup [.int q.num, .int (q.den : Nat)]
theorem am_inj {p q : Rat} : am p = am q ↔ p = q := by
  refine ⟨fun h => ?_, fun h => by rw [h]⟩
  unfold am at h
  injection h with h
  injection h with h1 h2
  injection h2 with h2 _
  injection h1 with h1
  injection h2 with h2
  exact Rat.ext h1 (by omega)
@[simp] theorem am_eq {p q : Rat} : (am p = am q) = (p = q) := propext am_inj
@[simp] theorem am0 : D.tup [.int 0, .int 1] = am 0 := rfl
@[simp] theorem am1 : D.tup [.int 1, .int 1] = am 1 := rfl
theorem am_int (i : Int) : D.tup [.int i, .int 1] = am (i : Rat) := rfl
@[simp] theorem am_i0 {q : Rat} : dIdx (am q) (.int 0) = .ok (.int q.num) := rfl
@[simp] theorem am_i1 {q : Rat} : dIdx (am q) (.int 1) = .ok (.int (q.den : Nat)) := by
  unfold am
  simp
@[simp] theorem nice_am {k : Nat} {q : Rat} : nice (k + 1) (am q) := by
  intro e he
  simp at he
  rcases he with rfl | rfl <;> exact nice_int
@[simp] theorem am_not_non {q : Rat} : ¬ (am q = .non) := by intro h; unfold am at h; cases h
/-- an amount of which the program may do sums -/
def Ok (q : Rat) : Prop := q.num.natAbs < oB ∧ q.den < oB
theorem mulX_B {i j : Int} (h1 : i.natAbs < oB) (h2 : j.natAbs < oB) : CMulX i j := by
  have a := bits_lt (k := 4000) h1
  have b := bits_lt (k := 4000) h2
  unfold CMulX
  omega
theorem mul_B {i j : Int} (h1 : i.natAbs < oB) (h2 : j.natAbs < oB) : (i * j).natAbs ≤ oB * oB := by
  rw [Int.natAbs_mul]
  exact Nat.mul_le_mul (Nat.le_of_lt h1) (Nat.le_of_lt h2)
theorem dvX {i j : Int} (h0 : j ≠ 0) (h : j.natAbs < oC) : CDvX i j := by
  refine ⟨h0, PyProof.noPylong_of_log2 ?_⟩
  have : j.natAbs.log2 < 8002 := (Nat.log2_lt (by omega)).mpr h
  omega
theorem red_pos {n d : Int} (hd : 0 < d) : n.fdiv ((Nat.gcd n.natAbs d.natAbs : Nat) : Int) = (Rat.divInt n d).num ∧ d.fdiv ((Nat.gcd n.natAbs d.natAbs : Nat) : Int) = ((Rat.divInt n d).den : Int) := by
  rw [Rat.num_divInt, Rat.den_divInt, if_neg (by omega), Int.sign_eq_one_of_pos hd, Int.one_mul]
  have e : Int.gcd d n = Nat.gcd n.natAbs d.natAbs := Nat.gcd_comm _ _
  rw [e]
  refine ⟨Int.fdiv_eq_ediv_of_nonneg _ (by omega), ?_⟩
  rw [Int.fdiv_eq_ediv_of_nonneg _ (by omega), Int.natCast_ediv]
  congr 1
  omega
theorem red_neg {n d : Int} (hd : d < 0) : n.fdiv (-((Nat.gcd n.natAbs d.natAbs : Nat) : Int)) = (Rat.divInt n d).num ∧ d.fdiv (-((Nat.gcd n.natAbs d.natAbs : Nat) : Int)) = ((Rat.divInt n d).den : Int) := by
  have h := red_pos (n := -n) (d := -d) (by omega)
  rw [Int.natAbs_neg, Int.natAbs_neg, Rat.neg_divInt_neg] at h
  rw [← h.1, ← h.2]
  refine ⟨?_, ?_⟩
  · rw [← Int.neg_fdiv_neg, Int.neg_neg]
  · rw [← Int.neg_fdiv_neg, Int.neg_neg]
theorem gcd_lt {n d : Int} (h0 : d ≠ 0) (h : d.natAbs < oC) : ((Nat.gcd n.natAbs d.natAbs : Nat) : Int).natAbs < oC ∧ 0 < Nat.gcd n.natAbs d.natAbs := by
  have h1 : Nat.gcd n.natAbs d.natAbs ≤ d.natAbs := Nat.gcd_le_right _ (by omega)
  refine ⟨by omega, Nat.gcd_pos_of_pos_right _ (by omega)⟩

/-! the law's own -/
def bGcdB : Sxs := (.cons 
    (.par 2 3 (.var 3) (.bin .Mod (.blt .int (.cons (.var 2) .nil)) (.var 3))) .nil)
def bGcdS : Sx := (.whl (.cmp .Gt (.var 3) (.cst (.int 0))) bGcdB)
def bGcd : Sxs := (.cons 
    (.set 2 (.blt .abs (.cons (.var 0) .nil))) (.cons 
    (.set 3 (.blt .abs (.cons (.var 1) .nil))) (.cons 
    bGcdS (.cons 
    (.ret (.var 2)) .nil))))
def bAmount : Sxs := (.cons 
    (.set 2 (.call "_law_gcd" (.cons (.var 0) (.cons (.var 1) .nil)))) (.cons 
    (.ite (.cmp .Lt (.var 1) (.cst (.int 0))) (.cons 
    (.set 2 (.neg (.var 2))) .nil) .nil) (.cons 
    (.ret (.tup (.cons (.bin .FloorDiv (.var 0) (.var 2)) (.cons (.bin .FloorDiv (.var 1) (.var 2)) .nil)))) .nil)))
def bLPlus : Sxs := (.cons 
    (.ret (.call "_law_amount" (.cons (.bin .Add (.bin .Mult (.idx (.var 0) (.cst (.int 0))) (.idx (.var 1) (.cst (.int 1)))) (.bin .Mult (.idx (.var 1) (.cst (.int 0))) (.idx (.var 0) (.cst (.int 1))))) (.cons (.bin .Mult (.idx (.var 0) (.cst (.int 1))) (.idx (.var 1) (.cst (.int 1)))) .nil)))) .nil)
def bLMinus : Sxs := (.cons 
    (.ret (.call "_law_amount" (.cons (.bin .Sub (.bin .Mult (.idx (.var 0) (.cst (.int 0))) (.idx (.var 1) (.cst (.int 1)))) (.bin .Mult (.idx (.var 1) (.cst (.int 0))) (.idx (.var 0) (.cst (.int 1))))) (.cons (.bin .Mult (.idx (.var 0) (.cst (.int 1))) (.idx (.var 1) (.cst (.int 1)))) .nil)))) .nil)
def bLTimes : Sxs := (.cons 
    (.ret (.call "_law_amount" (.cons (.bin .Mult (.idx (.var 0) (.cst (.int 0))) (.idx (.var 1) (.cst (.int 0)))) (.cons (.bin .Mult (.idx (.var 0) (.cst (.int 1))) (.idx (.var 1) (.cst (.int 1)))) .nil)))) .nil)
/-- also the program's is_less -/
def bLess : Sxs := (.cons 
    (.ret (.cmp .Lt (.bin .Mult (.idx (.var 0) (.cst (.int 0))) (.idx (.var 1) (.cst (.int 1)))) (.bin .Mult (.idx (.var 1) (.cst (.int 0))) (.idx (.var 0) (.cst (.int 1)))))) .nil)
theorem gcd_loop {F : Fn} {M : Nat} {a b : Option S} : ∀ (N x y : Nat), y < N → whileR (evT F (.cmp .Gt (.var 3) (.cst (.int 0)))) (exs F M bGcdB) N [a, b, some (.val (.int (x : Nat))), some (.val (.int (y : Nat)))] =
    .ok (.nx, [a, b, some (.val (.int ((Nat.gcd x y : Nat) : Int))), some (.val (.int 0))])
  | 0, _, _, h => by omega
  | N + 1, x, y, h => by
    show (evT F _ _).bind _ = _
    by_cases hy : y = 0
    · subst hy
      simp
    · have hp : 0 < y := by omega
      have eb : exs F M bGcdB [a, b, some (.val (.int (x : Nat))), some (.val (.int (y : Nat)))] = .ok (.nx, [a, b, some (.val (.int (y : Nat))), some (.val (.int ((x % y : Nat) : Int)))]) := by
        have e : (x : Int).fmod (y : Int) = ((x % y : Nat) : Int) := by
          rw [Int.fmod_eq_emod_of_nonneg _ (by omega)]
          rfl
        rw [← e]
        simp [bGcdB, hy]
      have ih := gcd_loop (F := F) (M := M) (a := a) (b := b) N y (x % y) (by have := Nat.mod_lt x (Nat.pos_of_ne_zero hy); omega)
      have g : Nat.gcd y (x % y) = Nat.gcd x y := by rw [Nat.gcd_comm, ← Nat.gcd_rec, Nat.gcd_comm]
      rw [g] at ih
      simp only [r_evT_cmp, r_ev_var, evVar_d, List.getElem?_cons_succ, List.getElem?_cons_zero, c1_gVar, r_bind_ok, r_ev_cst, pk_val, c40_dCmp, decide_eq_true (show (0 : Int) < (y : Int) by omega), eb, ih]
theorem gcd_run {F : Fn} {M : Nat} {a b : Int} (h : b.natAbs < M) : runDef F M 4 bGcd [.val (.int a), .val (.int b)] = .ok (.val (.int ((Nat.gcd a.natAbs b.natAbs : Nat) : Int)), [.val (.int a), .val (.int b)]) := by
  have ab : ∀ x : Int, (if x < 0 then -x else x) = (x.natAbs : Int) := fun x => by split <;> omega
  have e := gcd_loop (F := F) (M := M) (a := some (.val (.int a))) (b := some (.val (.int b))) M a.natAbs b.natAbs h
  simp [bGcd, Dv.envOf, ab, bGcdS, e]
def AmountS (c : List A → Rs (Re × List A)) : Prop := ∀ n d : Int, d ≠ 0 → d.natAbs < oC → c [.val (.int n), .val (.int d)] = .ok (.val (am (Rat.divInt n d)), [.val (.int n), .val (.int d)])
theorem amount_run {F : Fn} {M : Nat} (hg : ∀ n d : Int, d.natAbs < oC → F.call "_law_gcd" [.val (.int n), .val (.int d)] = .ok (.val (.int ((Nat.gcd n.natAbs d.natAbs : Nat) : Int)), [.val (.int n), .val (.int d)])) (hdfl : ∀ f n, F.dfl f n = []) : AmountS (runDef F M 3 bAmount) := fun n d h0 h => by
  obtain ⟨g1, g2⟩ := gcd_lt (n := n) h0 h
  have hg := hg n d h
  have k2 : 2 ≤ sizeLine := by decide
  unfold am
  by_cases hd : d < 0
  · obtain ⟨r1, r2⟩ := red_neg (n := n) hd
    generalize Nat.gcd n.natAbs d.natAbs = g at *
    have dv : ∀ i, CDvX i (-(g : Int)) := fun i => dvX (by omega) (by omega)
    simp [bAmount, Dv.envOf, hdfl, hg, hd, dv, r1, r2, k2]
  · obtain ⟨r1, r2⟩ := red_pos (n := n) (d := d) (by omega)
    generalize Nat.gcd n.natAbs d.natAbs = g at *
    have dv : ∀ i, CDvX i (g : Int) := fun i => dvX (by omega) (by omega)
    simp [bAmount, Dv.envOf, hdfl, hg, hd, dv, r1, r2, k2]
def BinS (f : Rat → Rat → Rat) (c : List A → Rs (Re × List A)) : Prop := ∀ a b : Rat, Ok a → Ok b → c [.val (am a), .val (am b)] = .ok (.val (am (f a b)), [.val (am a), .val (am b)])
theorem den_lt {a b : Rat} (ha : Ok a) (hb : Ok b) : ((a.den : Int) * (b.den : Int)).natAbs < oC ∧ (a.den : Int) * (b.den : Int) ≠ 0 ∧ CMulX a.num b.den ∧ CMulX b.num a.den ∧ CMulX a.den b.den ∧ CMulX a.num b.num := by
  have h1 : (a.den : Int).natAbs < oB := ha.2
  have h2 : (b.den : Int).natAbs < oB := hb.2
  have h3 := mul_B h1 h2
  have h4 := oB_oC
  have p1 := a.den_pos
  have p2 := b.den_pos
  exact ⟨by omega, Int.ne_of_gt (Int.mul_pos (by omega) (by omega)), mulX_B ha.1 h2, mulX_B hb.1 h1, mulX_B h1 h2, mulX_B ha.1 hb.1⟩
theorem add_divInt (a b : Rat) : a + b = Rat.divInt (a.num * b.den + b.num * a.den) ((a.den : Int) * b.den) := by
  rw [Rat.add_def', ← Int.natCast_mul, Rat.divInt_ofNat]
theorem sub_divInt (a b : Rat) : a - b = Rat.divInt (a.num * b.den - b.num * a.den) ((a.den : Int) * b.den) := by
  rw [Rat.sub_def', ← Int.natCast_mul, Rat.divInt_ofNat]
theorem mul_divInt (a b : Rat) : a * b = Rat.divInt (a.num * b.num) ((a.den : Int) * b.den) := by
  rw [Rat.mul_def', ← Int.natCast_mul, Rat.divInt_ofNat]
section
variable {F : Fn} {M : Nat}
theorem lplus_run (hA : AmountS (F.call "_law_amount")) (hdfl : ∀ f n, F.dfl f n = []) : BinS (· + ·) (runDef F M 2 bLPlus) := fun a b ha hb => by
  obtain ⟨h1, h2, m1, m2, m3, m4⟩ := den_lt ha hb
  have e := hA (a.num * b.den + b.num * a.den) (a.den * b.den) h2 h1
  rw [← add_divInt] at e
  simp [bLPlus, Dv.envOf, hdfl, m1, m2, m3, e]
theorem lminus_run (hA : AmountS (F.call "_law_amount")) (hdfl : ∀ f n, F.dfl f n = []) : BinS (· - ·) (runDef F M 2 bLMinus) := fun a b ha hb => by
  obtain ⟨h1, h2, m1, m2, m3, m4⟩ := den_lt ha hb
  have e := hA (a.num * b.den - b.num * a.den) (a.den * b.den) h2 h1
  rw [← sub_divInt] at e
  simp [bLMinus, Dv.envOf, hdfl, m1, m2, m3, e]
theorem ltimes_run (hA : AmountS (F.call "_law_amount")) (hdfl : ∀ f n, F.dfl f n = []) : BinS (· * ·) (runDef F M 2 bLTimes) := fun a b ha hb => by
  obtain ⟨h1, h2, m1, m2, m3, m4⟩ := den_lt ha hb
  have e := hA (a.num * b.num) (a.den * b.den) h2 h1
  rw [← mul_divInt] at e
  simp [bLTimes, Dv.envOf, hdfl, m3, m4, e]
def LessS (c : List A → Rs (Re × List A)) : Prop := ∀ a b : Rat, Ok a → Ok b → c [.val (am a), .val (am b)] = .ok (.val (.bl (decide (a < b))), [.val (am a), .val (am b)])
theorem less_run : LessS (runDef F M 2 bLess) := fun a b ha hb => by
  obtain ⟨h1, h2, m1, m2, m3, m4⟩ := den_lt ha hb
  simp [bLess, Dv.envOf, m1, m2, Rat.lt_iff]
end

/-! the program's -/
def bReduced : Sxs := (.cons 
    (.ite (.cmp .Eq (.var 1) (.cst (.int 1))) (.cons 
    (.ret (.tup (.cons (.var 0) (.cons (.cst (.int 1)) .nil)))) .nil) .nil) (.cons 
    (.set 2 (.blt .gcd (.cons (.var 0) (.cons (.var 1) .nil)))) (.cons 
    (.ret (.tup (.cons (.bin .FloorDiv (.var 0) (.var 2)) (.cons (.bin .FloorDiv (.var 1) (.var 2)) .nil)))) .nil)))
def bPlus : Sxs := (.cons 
    (.ite (.cmp .Eq (.idx (.var 0) (.cst (.int 1))) (.idx (.var 1) (.cst (.int 1)))) (.cons 
    (.ret (.call "reduced" (.cons (.bin .Add (.idx (.var 0) (.cst (.int 0))) (.idx (.var 1) (.cst (.int 0)))) (.cons (.idx (.var 0) (.cst (.int 1))) .nil)))) .nil) .nil) (.cons 
    (.ret (.call "reduced" (.cons (.bin .Add (.bin .Mult (.idx (.var 0) (.cst (.int 0))) (.idx (.var 1) (.cst (.int 1)))) (.bin .Mult (.idx (.var 1) (.cst (.int 0))) (.idx (.var 0) (.cst (.int 1))))) (.cons (.bin .Mult (.idx (.var 0) (.cst (.int 1))) (.idx (.var 1) (.cst (.int 1)))) .nil)))) .nil))
def bMinus : Sxs := (.cons 
    (.ite (.cmp .Eq (.idx (.var 0) (.cst (.int 1))) (.idx (.var 1) (.cst (.int 1)))) (.cons 
    (.ret (.call "reduced" (.cons (.bin .Sub (.idx (.var 0) (.cst (.int 0))) (.idx (.var 1) (.cst (.int 0)))) (.cons (.idx (.var 0) (.cst (.int 1))) .nil)))) .nil) .nil) (.cons 
    (.ret (.call "reduced" (.cons (.bin .Sub (.bin .Mult (.idx (.var 0) (.cst (.int 0))) (.idx (.var 1) (.cst (.int 1)))) (.bin .Mult (.idx (.var 1) (.cst (.int 0))) (.idx (.var 0) (.cst (.int 1))))) (.cons (.bin .Mult (.idx (.var 0) (.cst (.int 1))) (.idx (.var 1) (.cst (.int 1)))) .nil)))) .nil))
def bTimes : Sxs := (.cons 
    (.ret (.call "reduced" (.cons (.bin .Mult (.idx (.var 0) (.cst (.int 0))) (.idx (.var 1) (.cst (.int 0)))) (.cons (.bin .Mult (.idx (.var 0) (.cst (.int 1))) (.idx (.var 1) (.cst (.int 1)))) .nil)))) .nil)
def bSign : Sxs := (.cons 
    (.ite (.cmp .Lt (.idx (.var 0) (.cst (.int 0))) (.cst (.int 0))) (.cons 
    (.ret (.neg (.cst (.int 1)))) .nil) .nil) (.cons 
    (.ite (.cmp .Gt (.idx (.var 0) (.cst (.int 0))) (.cst (.int 0))) (.cons 
    (.ret (.cst (.int 1))) .nil) .nil) (.cons 
    (.ret (.cst (.int 0))) .nil)))
section
variable {F : Fn} {M : Nat}
def RedS (c : List A → Rs (Re × List A)) : Prop := ∀ n d : Int, 0 < d → d.natAbs < oC → c [.val (.int n), .val (.int d)] = .ok (.val (am (Rat.divInt n d)), [.val (.int n), .val (.int d)])
theorem divInt_one (n : Int) : Rat.divInt n 1 = (n : Rat) := by
  rw [Rat.divInt_eq_div]
  grind
theorem reduced_run : RedS (runDef F M 3 bReduced) := fun n d h0 h => by
  have k2 : 2 ≤ sizeLine := by decide
  have eq1 := eq_nice (k := 0) (d := .int d) (e := .int 1) nice_int nice_int (by decide)
  by_cases h1 : d = 1
  · subst h1
    rw [divInt_one]
    simp [bReduced, Dv.envOf, -c36_dCmp, eq1, k2, am_int]
  · obtain ⟨r1, r2⟩ := red_pos (n := n) (d := d) h0
    obtain ⟨g1, g2⟩ := gcd_lt (n := n) (d := d) (by omega) h
    unfold am
    have dv : ∀ i, CDvX i ((Nat.gcd n.natAbs d.natAbs : Nat) : Int) := fun i => dvX (by omega) (by omega)
    have ne : ¬ (D.int d = D.int 1) := fun e => h1 (by injection e)
    simp only [decide_eq_false ne] at eq1
    simp [bReduced, Dv.envOf, -c36_dCmp, eq1, k2, dv, r1, r2]
theorem same_den {a b : Rat} (h : (a.den : Int) = b.den) : Rat.divInt (a.num + b.num) a.den = a + b ∧ Rat.divInt (a.num - b.num) a.den = a - b := by
  have ea := Rat.num_divInt_den a
  have eb := Rat.num_divInt_den b
  have hz : (a.den : Int) ≠ 0 := by have := a.den_pos; omega
  have hq : ((a.den : Int) : Rat) ≠ 0 := fun e => hz (Rat.intCast_eq_zero_iff.mp e)
  rw [← h] at eb
  rw [Rat.divInt_eq_div] at ea eb ⊢
  rw [Rat.divInt_eq_div, Rat.intCast_add, Rat.intCast_sub]
  constructor <;> grind
theorem plus_run (hR : RedS (F.call "reduced")) (hdfl : ∀ f n, F.dfl f n = []) : BinS (· + ·) (runDef F M 2 bPlus) := fun a b ha hb => by
  obtain ⟨h1, h2, m1, m2, m3, m4⟩ := den_lt ha hb
  have p1 := a.den_pos
  have p2 := b.den_pos
  have eq1 := eq_nice (k := 0) (d := .int (a.den : Int)) (e := .int (b.den : Int)) nice_int nice_int (by decide)
  by_cases hs : (a.den : Int) = b.den
  · have hl : a.den < oB := ha.2
    have hx := oB_oC
    have hy : oB ≤ oB * oB := Nat.le_mul_of_pos_left _ oB_pos
    have e := hR (a.num + b.num) a.den (by omega) (by omega)
    rw [(same_den hs).1] at e
    simp only [decide_eq_true (congrArg D.int hs)] at eq1
    simp [bPlus, Dv.envOf, -c36_dCmp, eq1, hdfl, e]
  · have e := hR (a.num * b.den + b.num * a.den) (a.den * b.den) (by have := Int.mul_pos (a := a.den) (b := b.den) (by omega) (by omega); omega) h1
    rw [← add_divInt] at e
    have ne : ¬ (D.int (a.den : Int) = D.int (b.den : Int)) := fun e => hs (by injection e)
    simp only [decide_eq_false ne] at eq1
    simp [bPlus, Dv.envOf, -c36_dCmp, eq1, hdfl, m1, m2, m3, e]
theorem minus_run (hR : RedS (F.call "reduced")) (hdfl : ∀ f n, F.dfl f n = []) : BinS (· - ·) (runDef F M 2 bMinus) := fun a b ha hb => by
  obtain ⟨h1, h2, m1, m2, m3, m4⟩ := den_lt ha hb
  have p1 := a.den_pos
  have p2 := b.den_pos
  have eq1 := eq_nice (k := 0) (d := .int (a.den : Int)) (e := .int (b.den : Int)) nice_int nice_int (by decide)
  by_cases hs : (a.den : Int) = b.den
  · have hl : a.den < oB := ha.2
    have hx := oB_oC
    have hy : oB ≤ oB * oB := Nat.le_mul_of_pos_left _ oB_pos
    have e := hR (a.num - b.num) a.den (by omega) (by omega)
    rw [(same_den hs).2] at e
    simp only [decide_eq_true (congrArg D.int hs)] at eq1
    simp [bMinus, Dv.envOf, -c36_dCmp, eq1, hdfl, e]
  · have e := hR (a.num * b.den - b.num * a.den) (a.den * b.den) (by have := Int.mul_pos (a := a.den) (b := b.den) (by omega) (by omega); omega) h1
    rw [← sub_divInt] at e
    have ne : ¬ (D.int (a.den : Int) = D.int (b.den : Int)) := fun e => hs (by injection e)
    simp only [decide_eq_false ne] at eq1
    simp [bMinus, Dv.envOf, -c36_dCmp, eq1, hdfl, m1, m2, m3, e]
theorem times_run (hR : RedS (F.call "reduced")) (hdfl : ∀ f n, F.dfl f n = []) : BinS (· * ·) (runDef F M 2 bTimes) := fun a b ha hb => by
  obtain ⟨h1, h2, m1, m2, m3, m4⟩ := den_lt ha hb
  have p1 := a.den_pos
  have p2 := b.den_pos
  have e := hR (a.num * b.num) (a.den * b.den) (by have := Int.mul_pos (a := a.den) (b := b.den) (by omega) (by omega); omega) h1
  rw [← mul_divInt] at e
  simp [bTimes, Dv.envOf, hdfl, m3, m4, e]
theorem sign_run (a : Rat) : runDef F M 1 bSign [.val (am a)] = .ok (.val (.int (if a < 0 then -1 else if 0 < a then 1 else 0)), [.val (am a)]) := by
  have e1 : a < 0 ↔ a.num < 0 := by rw [Rat.lt_iff]; simp
  have e2 : 0 < a ↔ 0 < a.num := by rw [Rat.lt_iff]; simp
  by_cases h1 : a.num < 0
  · simp [bSign, Dv.envOf, h1, e1]
  · by_cases h2 : 0 < a.num
    · simp [bSign, Dv.envOf, h1, e1, h2, e2]
    · simp [bSign, Dv.envOf, h1, e1, h2, e2]
end
end Dv

set_option Elab.async false
set_option linter.all false
set_option maxRecDepth 100000
set_option maxHeartbeats 1000000
set_option exponentiation.threshold 20
namespace Dv
open PySem PySem.Spec PyProof.Rows L2

/-! ### sizes of amounts -/
/-- n bits above, n bits below -/
def K (n : Nat) (q : Rat) : Prop := q.num.natAbs < 2 ^ n ∧ q.den < 2 ^ n
theorem K.ok {n : Nat} {q : Rat} (h : K n q) (hn : n ≤ 4000) : Ok q := ⟨Nat.lt_of_lt_of_le h.1 (Nat.pow_le_pow_right (by decide) hn), Nat.lt_of_lt_of_le h.2 (Nat.pow_le_pow_right (by decide) hn)⟩
theorem K.mono {n m : Nat} {q : Rat} (h : K n q) (hn : n ≤ m) : K m q := ⟨Nat.lt_of_lt_of_le h.1 (Nat.pow_le_pow_right (by decide) hn), Nat.lt_of_lt_of_le h.2 (Nat.pow_le_pow_right (by decide) hn)⟩
theorem K.divInt {n d : Int} {k : Nat} (h1 : n.natAbs < 2 ^ k) (h2 : d.natAbs < 2 ^ k) (h3 : 1 ≤ k) : K k (Rat.divInt n d) := by
  refine ⟨?_, ?_⟩
  · rw [Rat.num_divInt, Int.natAbs_ediv_of_dvd]
    · refine Nat.lt_of_le_of_lt (Nat.div_le_self _ _) ?_
      rw [Int.natAbs_mul]
      refine Nat.lt_of_le_of_lt (Nat.mul_le_mul_right _ ?_) (by rw [Nat.one_mul]; exact h1)
      rw [Int.natAbs_sign]
      split <;> omega
    · exact Int.dvd_trans (by rw [Int.gcd_comm]; exact Int.gcd_dvd_left ..) (Int.dvd_mul_left _ _)
  · rw [Rat.den_divInt]
    split
    · exact Nat.one_lt_two_pow (by omega)
    · exact Nat.lt_of_le_of_lt (Nat.div_le_self _ _) h2
theorem two_mul_pow (n : Nat) : 2 ^ n + 2 ^ n = 2 ^ (n + 1) := by rw [Nat.pow_succ]; omega
theorem K.sum {a b : Rat} {n m : Nat} (ha : K n a) (hb : K m b) (s : Int) (hs : s = a.num * b.den + b.num * a.den ∨ s = a.num * b.den - b.num * a.den) : s.natAbs < 2 ^ (n + m + 1) ∧ ((a.den : Int) * b.den).natAbs < 2 ^ (n + m + 1) := by
  have x1 : a.num.natAbs * b.den < 2 ^ n * 2 ^ m := Nat.mul_lt_mul_of_lt_of_le ha.1 (Nat.le_of_lt hb.2) (Nat.two_pow_pos _)
  have x2 : b.num.natAbs * a.den < 2 ^ m * 2 ^ n := Nat.mul_lt_mul_of_lt_of_le hb.1 (Nat.le_of_lt ha.2) (Nat.two_pow_pos _)
  have x3 : a.den * b.den < 2 ^ n * 2 ^ m := Nat.mul_lt_mul_of_lt_of_le ha.2 (Nat.le_of_lt hb.2) (Nat.two_pow_pos _)
  rw [Nat.mul_comm (2 ^ m)] at x2
  rw [← Nat.pow_add] at x1 x2 x3
  rw [← two_mul_pow]
  have y1 : (a.num * b.den).natAbs = a.num.natAbs * b.den := Int.natAbs_mul ..
  have y2 : (b.num * a.den).natAbs = b.num.natAbs * a.den := Int.natAbs_mul ..
  have y3 : ((a.den : Int) * b.den).natAbs = a.den * b.den := Int.natAbs_mul ..
  rw [y3]
  generalize 2 ^ (n + m) = z at *
  generalize a.num * b.den = u at *
  generalize b.num * a.den = v at *
  rcases hs with rfl | rfl <;> omega
theorem K.add {a b : Rat} {n m : Nat} (ha : K n a) (hb : K m b) : K (n + m + 1) (a + b) := by
  rw [add_divInt]
  obtain ⟨h1, h2⟩ := K.sum ha hb _ (.inl rfl)
  exact K.divInt h1 h2 (by omega)
theorem K.sub {a b : Rat} {n m : Nat} (ha : K n a) (hb : K m b) : K (n + m + 1) (a - b) := by
  rw [sub_divInt]
  obtain ⟨h1, h2⟩ := K.sum ha hb _ (.inr rfl)
  exact K.divInt h1 h2 (by omega)
theorem K.mul {a b : Rat} {n m : Nat} (ha : K n a) (hb : K m b) : K (n + m + 1) (a * b) := by
  rw [mul_divInt]
  have x1 : a.num.natAbs * b.num.natAbs < 2 ^ n * 2 ^ m := Nat.mul_lt_mul_of_lt_of_le ha.1 (Nat.le_of_lt hb.1) (Nat.two_pow_pos _)
  rw [← Nat.pow_add] at x1
  obtain ⟨h1, h2⟩ := K.sum ha hb _ (.inl rfl)
  refine K.divInt ?_ h2 (by omega)
  rw [Int.natAbs_mul, ← two_mul_pow]
  omega
theorem K.int {i : Int} {n : Nat} (h : i.natAbs < 2 ^ n) (h1 : 1 ≤ n) : K n (i : Rat) := ⟨h, Nat.one_lt_two_pow (by omega)⟩
theorem K.zero : K 1 0 := K.int (i := 0) (by decide) (by decide)
theorem K.one : K 1 1 := K.int (i := 1) (by decide) (by decide)
/-- a multiple of 1/L, of at most N of them -/
def Bd (L N : Nat) (q : Rat) : Prop := ∃ n : Int, q * (L : Rat) = (n : Rat) ∧ n.natAbs ≤ N
theorem Bd.k {L N k : Nat} {q : Rat} (h : Bd L N q) (h0 : 0 < L) (h1 : L < 2 ^ k) (h2 : N < 2 ^ k) (h3 : 1 ≤ k) : K k q := by
  obtain ⟨n, e, hn⟩ := h
  have hL : (L : Rat) ≠ 0 := by
    intro z
    have := Rat.natCast_eq_zero_iff.mp z
    omega
  have e2 : q = Rat.divInt n (L : Int) := by
    rw [Rat.divInt_eq_div, ← e, Rat.intCast_natCast]
    grind
  rw [e2]
  exact K.divInt (by omega) (by simpa using h1) h3
theorem Bd.mono {L N M : Nat} {q : Rat} (h : Bd L N q) (hn : N ≤ M) : Bd L M q := by
  obtain ⟨n, e, h1⟩ := h
  exact ⟨n, e, by omega⟩
theorem Bd.add {L N M : Nat} {a b : Rat} (ha : Bd L N a) (hb : Bd L M b) : Bd L (N + M) (a + b) := by
  obtain ⟨n, e, h1⟩ := ha
  obtain ⟨m, e2, h2⟩ := hb
  exact ⟨n + m, by rw [Rat.intCast_add, ← e, ← e2]; grind, by omega⟩
theorem Bd.sub {L N M : Nat} {a b : Rat} (ha : Bd L N a) (hb : Bd L M b) : Bd L (N + M) (a - b) := by
  obtain ⟨n, e, h1⟩ := ha
  obtain ⟨m, e2, h2⟩ := hb
  exact ⟨n - m, by rw [Rat.intCast_sub, ← e, ← e2]; grind, by omega⟩
theorem Bd.mul {L N L' M : Nat} {a b : Rat} (ha : Bd L N a) (hb : Bd L' M b) : Bd (L * L') (N * M) (a * b) := by
  obtain ⟨n, e, h1⟩ := ha
  obtain ⟨m, e2, h2⟩ := hb
  refine ⟨n * m, by rw [Rat.intCast_mul, ← e, ← e2, Rat.natCast_mul]; grind, ?_⟩
  rw [Int.natAbs_mul]
  exact Nat.mul_le_mul h1 h2
theorem Bd.lift {L N : Nat} {a : Rat} (c : Nat) (ha : Bd L N a) : Bd (L * c) (N * c) a := by
  obtain ⟨n, e, h1⟩ := ha
  refine ⟨n * c, by rw [Rat.intCast_mul, ← e, Rat.natCast_mul, Rat.intCast_natCast]; grind, ?_⟩
  rw [Int.natAbs_mul]
  exact Nat.mul_le_mul h1 (by simp)
theorem Bd.int {L N : Nat} {i : Int} (h : i.natAbs * L ≤ N) : Bd L N (i : Rat) := ⟨i * L, by rw [Rat.intCast_mul, Rat.intCast_natCast], by rw [Int.natAbs_mul]; simpa using h⟩
theorem Bd.zero {L N : Nat} : Bd L N 0 := ⟨0, by grind, by simp⟩
theorem Bd.divInt {n d : Int} {L N : Nat} (c : Int) (hd : d ≠ 0) (hL : (L : Int) = d * c) (hN : (n * c).natAbs ≤ N) : Bd L N (Rat.divInt n d) := by
  have hq : (d : Rat) ≠ 0 := fun e => hd (Rat.intCast_eq_zero_iff.mp e)
  refine ⟨n * c, ?_, hN⟩
  have e : (L : Rat) = (d : Rat) * (c : Rat) := by rw [← Rat.intCast_mul, ← hL, Rat.intCast_natCast]
  rw [Rat.divInt_eq_div, e, Rat.intCast_mul]
  grind

/-! ### comprehensions -/
noncomputable def turnW (F : Fn) (elt : Ex) (tg : Tg) (ifs : To) (own : List Nat) (d : D) (ρ : Env') : Rs (Option D × Env') := (turnR F elt tg ifs d ρ).bind fun r => .ok (r.1, wipeR r.2 own)
theorem turnW_ok {F : Fn} {elt : Ex} {tg : Tg} {ifs : To} {own : List Nat} {d : D} {ρ ρ2 : Env'} {y : Option D} (h : turnW F elt tg ifs own d ρ = .ok (y, ρ2)) : ∃ ρ', turnR F elt tg ifs d ρ = .ok (y, ρ') ∧ wipeR ρ' own = ρ2 := by
  unfold turnW at h
  cases e : turnR F elt tg ifs d ρ with
  | bad => rw [e] at h; cases h
  | err x => rw [e] at h; cases h
  | ok r =>
    rw [e] at h
    have h : Rs.ok (r.1, wipeR r.2 own) = Rs.ok (y, ρ2) := h
    injection h with h
    injection h with h1 h2
    exact ⟨r.2, by rw [← h1], h2⟩
section
variable {F : Fn} {elt : Ex} {tg : Tg} {it : Ie} {ifs : To} {own : List Nat} {ρ ρ1 ρw : Env'} {p : P} {α β : Type} {xs : List α} {f : α → D}
/-- what a comprehension hands on -/
noncomputable def compEnd (p : P) (ρ1 ρw : Env') (own : List Nat) (out : List D) : Rs (P × Env') := (unlock (lockP p ρ1).1 (backR (lockP p ρ1).2 ρw own)).bind fun ρ' => .ok (.own (.lst out), ρ')
theorem comp_fm {g : α → Option D} (hi : evi F it ρ = .ok ((xs.map f, p), ρ1)) (hw : wipeR (lockP p ρ1).2 own = ρw) (hl : xs.length < sizeLine)
    (step : ∀ x ∈ xs, turnW F elt tg ifs own (f x) ρw = .ok (g x, ρw)) : ev F (.comp elt tg it ifs own) ρ = compEnd p ρ1 ρw own (xs.filterMap g) := by
  obtain ⟨out, ρ2, ⟨h1, h2⟩, e⟩ := comp_gen (F := F) (elt := elt) (tg := tg) (ifs := ifs) (own := own) hi (fun i out ρ => out = (xs.take i).filterMap g ∧ ρ = ρw) (fun i d out ρ ed _ ⟨h1, h2⟩ => by
    rw [List.getElem?_map] at ed
    cases hx : xs[i]? with
    | none => rw [hx] at ed; cases ed
    | some x =>
      rw [hx] at ed
      cases ed
      obtain ⟨ρ', e1, e2⟩ := turnW_ok (step x (List.mem_of_getElem? hx))
      subst h2
      refine ⟨g x, ρ', e1, ?_, e2⟩
      rw [h1, List.take_succ, hx, List.filterMap_append]
      cases hg : g x <;> simp [hg]) ⟨rfl, hw⟩
  rw [List.length_map, List.take_of_length_le (Nat.le_refl _)] at h1
  subst h1 h2
  rw [e]
  exact congrArg _ (funext fun _ => need_true (Nat.lt_of_le_of_lt (List.length_filterMap_le _ _) hl))
theorem comp_map {g : α → D} (hi : evi F it ρ = .ok ((xs.map f, p), ρ1)) (hw : wipeR (lockP p ρ1).2 own = ρw) (hl : xs.length < sizeLine)
    (step : ∀ x ∈ xs, turnW F elt tg ifs own (f x) ρw = .ok (some (g x), ρw)) : ev F (.comp elt tg it ifs own) ρ = compEnd p ρ1 ρw own (xs.map g) := by
  rw [comp_fm (g := fun x => some (g x)) hi hw hl step]
  exact congrArg _ (by induction xs <;> simp_all)
/-- with draws -/
theorem comp_dr {E : D → Env'} {h : β → D} {Q : Nat → β → Prop} {d : D} {n : Nat} (c : Nat) (hi : evi F it ρ = .ok ((xs.map f, p), ρ1)) (hw : wipeR (lockP p ρ1).2 own = E d) (hl : xs.length < sizeLine) (hd : DS n d)
    (step : ∀ i x d, xs[i]? = some x → DS (n + c * i) d → ∃ z d', turnW F elt tg ifs own (f x) (E d) = .ok (some (h z), E d') ∧ Q i z ∧ DS (n + c * i + c) d') :
    ∃ (zs : List β) (d' : D), zs.length = xs.length ∧ (∀ i z, zs[i]? = some z → Q i z) ∧ DS (n + c * xs.length) d' ∧ ev F (.comp elt tg it ifs own) ρ = compEnd p ρ1 (E d') own (zs.map h) := by
  obtain ⟨out, ρ2, ⟨zs, d', h1, h2, h3, h4, h5⟩, e⟩ := comp_gen (F := F) (elt := elt) (tg := tg) (ifs := ifs) (own := own) hi (fun i out ρ => ∃ (zs : List β) (d' : D), out = zs.map h ∧ zs.length = i ∧ (∀ i z, zs[i]? = some z → Q i z) ∧ DS (n + c * i) d' ∧ ρ = E d') (fun i d out ρ ed _ ⟨zs, d', h1, h2, h3, h4, h5⟩ => by
    rw [List.getElem?_map] at ed
    cases hx : xs[i]? with
    | none => rw [hx] at ed; cases ed
    | some x =>
      rw [hx] at ed
      cases ed
      obtain ⟨z, d2, t, q, hd2⟩ := step i x d' hx h4
      obtain ⟨ρ', e1, e2⟩ := turnW_ok t
      subst h5
      refine ⟨some (h z), ρ', e1, zs ++ [z], d2, by rw [h1]; simp, by simp [h2], fun j y hy => ?_, by rw [Nat.mul_succ, ← Nat.add_assoc]; exact hd2, e2⟩
      by_cases hj : j < zs.length
      · rw [List.getElem?_append_left hj] at hy
        exact h3 j y hy
      · rw [List.getElem?_append_right (by omega)] at hy
        have : j - zs.length = 0 := by
          rcases Nat.eq_zero_or_pos (j - zs.length) with k | k
          · exact k
          · rw [List.getElem?_eq_none (by simp; omega)] at hy; cases hy
        rw [this] at hy
        cases hy
        obtain rfl : j = i := by omega
        exact q) ⟨[], d, rfl, rfl, fun i z hz => by simp at hz, hd, hw⟩
  rw [List.length_map] at h2 h4
  subst h1 h5
  refine ⟨zs, d', h2, h3, h4, ?_⟩
  rw [e]
  exact congrArg _ (funext fun _ => need_true (by rw [List.length_map, h2]; exact hl))
end
theorem rng_map {n : Nat} : rng 0 n = (List.range n).map fun k => D.int (k : Nat) := List.map_congr_left fun k _ => by rw [Int.zero_add]
theorem evi_rng {F : Fn} {a : Ex} {ρ ρ' : Env'} {n : Nat} (h : ev F a ρ = .ok (.val (.int (n : Nat)), ρ')) (hn : n < 2 ^ 62) : evi F (.rng a) ρ = .ok (((List.range n).map fun k => D.int (k : Nat), .val .non), ρ') := by
  have : inR (n : Int) := by
    unfold inR
    constructor
    · omega
    · have : ((2 : Int) ^ 62) = ((2 ^ 62 : Nat) : Int) := by push_cast; rfl
      rw [this]
      omega
  rw [r_evi_rng, h]
  show need (inR n) _ = _
  rw [need_true this, Int.toNat_natCast, rng_map]
theorem rng2_map {a n : Nat} (h : a ≤ n) : rng (a : Nat) ((n : Int) - (a : Int)).toNat = (List.range (n - a)).map fun k => D.int ((a + k : Nat) : Int) := by
  have : ((n : Int) - (a : Int)).toNat = n - a := by omega
  rw [this]
  exact List.map_congr_left fun k _ => by push_cast; rfl
theorem evi_seq {F : Fn} {a : Ex} {ρ ρ' : Env'} {p : P} {x : D} {l : List D} (h : ev F a ρ = .ok (p, ρ')) (h2 : pk p ρ' = .ok x) (h3 : items x = .ok l) : evi F (.seq a) ρ = .ok ((l, p), ρ') := by
  rw [r_evi_seq, h]
  show (pk p ρ').bind _ = _
  rw [h2]
  show (items x).bind _ = _
  rw [h3]
  rfl

/-! ### for loops -/
section
variable {F : Fn} {N : Nat} {tg : Tg} {it : Ie} {b : Sxs} {ρ ρ1 ρ' : Env'} {p : P} {α β : Type} {xs : List α} {f : α → D}
noncomputable def turnX (F : Fn) (N : Nat) (tg : Tg) (b : Sxs) (d : D) (ρ : Env') : Rs (Fl × Env') := (asgT tg d ρ).bind (exs F N b)
theorem forR_ct {f : D → Env' → Rs (Fl × Env')} : ∀ {l : List D} {I : Nat → Env' → Prop} {ρ : Env'} {k : Nat},
    (∀ (i : Nat) (d : D) (ρ : Env'), l[i]? = some d → I (k + i) ρ → ∃ ρ', (f d ρ = .ok (.nx, ρ') ∨ f d ρ = .ok (.ct, ρ')) ∧ I (k + i + 1) ρ') → I k ρ → ∃ ρ', forR f l ρ = .ok (.nx, ρ') ∧ I (k + l.length) ρ'
  | [], I, ρ, k, _, h => ⟨ρ, rfl, h⟩
  | d :: l, I, ρ, k, step, h => by
    obtain ⟨ρ1, e1, h1⟩ := step 0 d ρ rfl h
    obtain ⟨ρ2, e2, h2⟩ := forR_ct (l := l) (I := I) (ρ := ρ1) (k := k + 1) (fun i d ρ e hi => by
      have := step (i + 1) d ρ (by simpa using e) (by rw [show k + (i + 1) = k + 1 + i by omega]; exact hi)
      rw [show k + (i + 1) = k + 1 + i by omega] at this
      exact this) h1
    refine ⟨ρ2, ?_, ?_⟩
    · show (f d ρ).bind _ = _
      rcases e1 with e1 | e1 <;> rw [e1] <;> exact e2
    · rw [List.length_cons, show k + (l.length + 1) = k + 1 + l.length by omega]
      exact h2
/-- a loop that ends by itself, by what holds -/
theorem for_st (I : Nat → Env' → Prop) (hi : evi F it ρ = .ok ((xs.map f, p), ρ1)) (h0 : I 0 (lockP p ρ1).2)
    (step : ∀ i x ρ, xs[i]? = some x → I i ρ → ∃ ρ', (turnX F N tg b (f x) ρ = .ok (.nx, ρ') ∨ turnX F N tg b (f x) ρ = .ok (.ct, ρ')) ∧ I (i + 1) ρ') :
    ∃ ρ', I xs.length ρ' ∧ ex F N (.for_ tg it b) ρ = (unlock (lockP p ρ1).1 ρ').bind fun ρ => .ok (.nx, ρ) := by
  obtain ⟨ρ', e, h⟩ := forR_ct (f := turnX F N tg b) (l := xs.map f) (I := I) (k := 0) (ρ := (lockP p ρ1).2) (fun i d ρ ed h => by
    rw [Nat.zero_add] at h ⊢
    rw [List.getElem?_map] at ed
    cases hx : xs[i]? with
    | none => rw [hx] at ed; cases ed
    | some x =>
      rw [hx] at ed
      cases ed
      exact step i x ρ hx h) h0
  rw [Nat.zero_add, List.length_map] at h
  exact ⟨ρ', h, for_ok hi e⟩
/-- .. of a state s: what is computed in plain words -/
theorem for_fd {σ : Type} (E : σ → Env' → Prop) (Inv : Nat → σ → Prop) {s0 : σ} (hi : evi F it ρ = .ok ((xs.map f, p), ρ1)) (h0 : E s0 (lockP p ρ1).2) (i0 : Inv 0 s0)
    (step : ∀ i x s ρ, xs[i]? = some x → Inv i s → E s ρ → ∃ s' ρ', (turnX F N tg b (f x) ρ = .ok (.nx, ρ') ∨ turnX F N tg b (f x) ρ = .ok (.ct, ρ')) ∧ E s' ρ' ∧ Inv (i + 1) s') :
    ∃ s' ρ', E s' ρ' ∧ Inv xs.length s' ∧ ex F N (.for_ tg it b) ρ = (unlock (lockP p ρ1).1 ρ').bind fun ρ => .ok (.nx, ρ) := by
  obtain ⟨ρ', ⟨s, h1, h2⟩, e⟩ := for_st (F := F) (N := N) (tg := tg) (b := b) (fun i ρ => ∃ s, E s ρ ∧ Inv i s) hi ⟨s0, h0, i0⟩ fun i x ρ hx ⟨s, h1, h2⟩ => by
    obtain ⟨s', ρ', e, h3, h4⟩ := step i x s ρ hx h2 h1
    exact ⟨ρ', e, s', h3, h4⟩
  exact ⟨s, ρ', h1, h2, e⟩
end
theorem fr_none : gFree (some none) = true := rfl
end Dv

set_option Elab.async false
set_option linter.all false
namespace Dv
open PySem PySem.Spec PyProof.Rows L2
/-- a module's constant that is a tuple -/
theorem tupL_ok {K : PySem.W.Frag} {x : Str} {vs : List He.Dv} (h : He.tupB K x vs = true) (H : Hp) : TupL K H (He.ga K x) (vs.map (He.Dv.v K)) := by
  unfold He.tupB at h
  cases q : K.lookup (He.ga K x) with
  | none =>
    rw [q] at h
    cases h
  | some o =>
    obtain ⟨oc, od, dt, osl⟩ := o
    rw [q] at h
    cases oc with
    | type c =>
      cases dt with
      | seq its n =>
        obtain ⟨h1, h2⟩ := Bool.and_eq_true_iff.mp (show (decide (c = "tuple") && (decide (its.size ≤ sizeLine) && He.relAll (vs.map (He.Dv.v K)) its.toList)) = true from h)
        obtain ⟨h3, h4⟩ := Bool.and_eq_true_iff.mp h2
        exact .inr ⟨_, its, n, q, congrArg Value.type (of_decide_eq_true h1), rfl, of_decide_eq_true h3, He.relAll_ok h4⟩
      | _ => cases h
    | _ => cases dt <;> cases h
end Dv

set_option Elab.async false
set_option linter.all false
set_option maxRecDepth 100000
set_option maxHeartbeats 1000000
set_option exponentiation.threshold 100
namespace Dv
open PySem PySem.Spec PyProof.Rows L2

/-! ### what most laws have in common -/
def DrawS (c : List A → Rs (Re × List A)) : Prop := ∀ {n : Nat} {d : D} {m : Int}, DS n d → n < 2 ^ 60 → 0 < m → m < 2 ^ 64 → ∃ (r : Nat) (d' : D), c [.own d, .val (.int m)] = .ok (.val (.int (r : Nat)), [.own d', .val (.int m)]) ∧ (r : Int) < m ∧ DS (n + 1) d'
theorem draw_run {F : Fn} {M : Nat} : DrawS (runDef F M 5 bDraw) := fun {n d m} hd hn h0 h1 => by
  obtain ⟨r, d', e, h2, h3, h4⟩ := draw_ok (F := F) (M := M) hd hn h0 h1
  refine ⟨r.toNat, d', ?_, by omega, h4⟩
  rw [Int.toNat_of_nonneg h2]
  exact e
theorem atI_mapG {α : Type} {l : List α} {g : α → D} {k : Nat} {x : α} (h : l[k]? = some x) : atI (l.map g) (k : Int) = some (g x) := by
  have hk := (List.getElem?_eq_some_iff.mp h).1
  rw [atI_nat (by omega) (by rw [List.length_map]; omega), Int.toNat_natCast, List.getElem?_map, h]
  rfl
theorem perm_erase {α : Type} : ∀ {l : List α} {i : Nat} (h : i < l.length), (l[i] :: l.eraseIdx i).Perm l
  | a :: l, 0, _ => .refl _
  | a :: l, i + 1, h => by
    rw [List.eraseIdx_cons_succ, List.getElem_cons_succ]
    exact (List.Perm.swap _ _ _).trans (List.Perm.cons a (perm_erase (by simpa using h)))
section
variable {F : Fn} {elt : Ex} {tg : Tg} {it : Ie} {ifs : To} {own : List Nat} {ρ ρ1 ρw ρ' : Env'} {p : P} {α β : Type} {xs : List α} {f : α → D}
theorem comp_mapE {g : α → D} (hi : evi F it ρ = .ok ((xs.map f, p), ρ1)) (hw : wipeR (lockP p ρ1).2 own = ρw) (hl : xs.length < sizeLine)
    (step : ∀ x ∈ xs, turnW F elt tg ifs own (f x) ρw = .ok (some (g x), ρw)) (he : ∀ out, compEnd p ρ1 ρw own out = .ok (.own (.lst out), ρ')) : ev F (.comp elt tg it ifs own) ρ = .ok (.own (.lst (xs.map g)), ρ') := by
  rw [comp_map hi hw hl step, he]
theorem comp_fmE {g : α → Option D} (hi : evi F it ρ = .ok ((xs.map f, p), ρ1)) (hw : wipeR (lockP p ρ1).2 own = ρw) (hl : xs.length < sizeLine)
    (step : ∀ x ∈ xs, turnW F elt tg ifs own (f x) ρw = .ok (g x, ρw)) (he : ∀ out, compEnd p ρ1 ρw own out = .ok (.own (.lst out), ρ')) : ev F (.comp elt tg it ifs own) ρ = .ok (.own (.lst (xs.filterMap g)), ρ') := by
  rw [comp_fm hi hw hl step, he]
theorem comp_drE {E E' : D → Env'} {h : β → D} {Q : Nat → β → Prop} {d : D} {n : Nat} (c : Nat) (hi : evi F it ρ = .ok ((xs.map f, p), ρ1)) (hw : wipeR (lockP p ρ1).2 own = E d) (hl : xs.length < sizeLine) (hd : DS n d)
    (step : ∀ i x d, xs[i]? = some x → DS (n + c * i) d → ∃ z d', turnW F elt tg ifs own (f x) (E d) = .ok (some (h z), E d') ∧ Q i z ∧ DS (n + c * i + c) d') (he : ∀ d out, compEnd p ρ1 (E d) own out = .ok (.own (.lst out), E' d)) :
    ∃ (zs : List β) (d' : D), ev F (.comp elt tg it ifs own) ρ = .ok (.own (.lst (zs.map h)), E' d') ∧ zs.length = xs.length ∧ (∀ i z, zs[i]? = some z → Q i z) ∧ DS (n + c * xs.length) d' := by
  obtain ⟨zs, d', h1, h2, h3, e⟩ := comp_dr c hi hw hl hd step
  exact ⟨zs, d', e.trans (he _ _), h1, h2, h3⟩
end
theorem atI_rng {g : Nat → D} {n k : Nat} (h : k < n) : atI ((List.range n).map g) (k : Int) = some (g k) := atI_mapG (by simp [h])
theorem atI_get {l : List D} {k : Nat} (h : k < l.length) : atI l (k : Int) = some l[k] := by
  rw [atI_nat (by omega) (by omega), Int.toNat_natCast, List.getElem?_eq_getElem h]
section
variable {F : Fn} {M : Nat}
theorem rare_run (hD : DrawS (F.call "_law_draw")) (hdfl : ∀ f n, F.dfl f n = []) {n : Nat} {d : D} {m : Int} (hd : DS n d) (hn : n < 2 ^ 60) (h0 : 0 < m) (h1 : m < 2 ^ 64) :
    ∃ b d', runDef F M 2 bRare [.own d, .val (.int m)] = .ok (.val (.bl b), [.own d', .val (.int m)]) ∧ DS (n + 1) d' := by
  obtain ⟨r, d', e, _, h⟩ := hD hd hn h0 h1
  have dv := dv_ok (i := m) (j := 2) (by decide) (by decide)
  have eq1 := eq_nice (k := 0) (d := .int (r : Nat)) (e := .int (m.fdiv 2)) nice_int nice_int (by decide)
  exact ⟨decide (D.int (r : Nat) = D.int (m.fdiv 2)), d', by simp [bRare, Dv.envOf, e, hdfl, dv, -c36_dCmp, eq1, -D.int.injEq], h⟩
theorem pick_run (hD : DrawS (F.call "_law_draw")) (hdfl : ∀ f n, F.dfl f n = []) {n : Nat} {d : D} {row : List D} {R : A} (hR : R = .own (.lst row) ∨ R = .val (.lst row) ∨ R = .val (.tup row)) (hd : DS n d) (hn : n < 2 ^ 60) (h0 : 0 < row.length) (h1 : row.length < 2 ^ 62) :
    ∃ x d', runDef F M 2 bPick [.own d, R] = .ok (.val x, [.own d', R]) ∧ x ∈ row ∧ DS (n + 1) d' := by
  obtain ⟨r, d', e, h3, h⟩ := hD (m := (row.length : Int)) hd hn (by omega) (by omega)
  have hr : r < row.length := by omega
  refine ⟨row[r], d', ?_, List.getElem_mem hr, h⟩
  have ha := atI_get hr
  rcases hR with rfl | rfl | rfl <;> simp [bPick, Dv.envOf, e, hdfl, ha]
def bShufB : Sxs := (.cons 
    (.expr (.chg .append 3 (.cons (.chg .popAt 2 (.cons (.call "_law_draw" (.cons (.var 0) (.cons (.blt .len (.cons (.var 2) .nil)) .nil))) .nil)) .nil))) .nil)
def bShufS : Sx := (.for_ (.nm 4) (.rng (.blt .len (.cons (.var 2) .nil))) bShufB)
def bShuf : Sxs := (.cons 
    (.set 2 (.blt .list (.cons (.var 1) .nil))) (.cons 
    (.set 3 (.lst .nil)) (.cons 
    bShufS (.cons 
    (.ret (.var 3)) .nil))))
theorem shuf_loop (hD : DrawS (F.call "_law_draw")) (hdfl : ∀ f n, F.dfl f n = []) {n : Nat} {d : D} {row : List D} {s : S} (hd : DS n d) (hn : n < 2 ^ 59) (h1 : row.length < 16777216) :
    ∃ row' d' o, ex F M bShufS [some (.own true d), some s, some (.own false (.lst row)), some (.own false (.lst [])), none] = .ok (.nx, [some (.own true d'), some s, some (.own false (.lst [])), some (.own false (.lst row')), o]) ∧ row'.Perm row ∧ DS (n + row.length) d' := by
  obtain ⟨ρ', ⟨left, found, d', o, rfl, hp, hl, hd', _⟩, e⟩ := for_st (F := F) (N := M) (tg := .nm 4) (it := .rng (.blt .len (.cons (.var 2) .nil))) (b := bShufB) (ρ := [some (.own true d), some s, some (.own false (.lst row)), some (.own false (.lst [])), none])
    (ρ1 := [some (.own true d), some s, some (.own false (.lst row)), some (.own false (.lst [])), none]) (xs := List.range row.length) (f := fun k => .int (k : Nat)) (p := .val .non)
    (fun i ρ => ∃ left found d' o, ρ = [some (.own true d'), some s, some (.own false (.lst left)), some (.own false (.lst found)), o] ∧ (left ++ found).Perm row ∧ left.length + i = row.length ∧ DS (n + i) d' ∧ gFree (some o) = true)
    (evi_rng (by simp) (by omega)) ⟨row, [], d, none, by simp, by simp, by simp, hd, rfl⟩
    (fun i x ρ hx ⟨left, found, d', o, e, hp, hl, hd', ho⟩ => by
      subst e
      have hi : i < row.length := by simpa using (List.getElem?_eq_some_iff.mp hx).1
      obtain ⟨r, d2, e2, h3, h4⟩ := hD (m := (left.length : Int)) hd' (by omega) (by omega) (by omega)
      have hr : r < left.length := by omega
      have hs : seqIndex? (r : Int) left.length = some r := by
        simp [seqIndex?, hr, show ¬ ((r : Int) < 0) by omega]
      have hb : -(2 ^ 63) ≤ (r : Int) ∧ (r : Int) < 2 ^ 63 := by constructor <;> omega
      have hlen := hp.length_eq
      rw [List.length_append] at hlen
      have hf : found.length < sizeLine := by unfold sizeLine; omega
      refine ⟨[some (.own true d2), some s, some (.own false (.lst (left.eraseIdx r))), some (.own false (.lst (found ++ [left[r]]))), some (.val (.int (x : Nat)))], .inl ?_, left.eraseIdx r, found ++ [left[r]], d2, _, rfl, ?_, ?_, h4, rfl⟩
      · simp only [Int.reducePow, Int.reduceNeg] at hb
        simp [turnX, bShufB, ho, e2, hdfl, hs, hf, List.getElem?_eq_getElem hr, hb]
      · rw [← List.append_assoc]
        refine List.Perm.trans ?_ hp
        refine List.Perm.trans List.perm_append_comm ?_
        rw [← List.append_assoc]
        exact List.Perm.append_right _ (perm_erase hr)
      · rw [List.length_eraseIdx_of_lt hr]
        omega)
  rw [List.length_range] at hl hd'
  have hl0 : left = [] := List.eq_nil_of_length_eq_zero (by omega)
  subst hl0
  rw [List.nil_append] at hp
  exact ⟨found, d', o, (show ex F M bShufS _ = _ from e).trans (by simp), hp, hd'⟩
theorem shuf_run (hD : DrawS (F.call "_law_draw")) (hdfl : ∀ f n, F.dfl f n = []) {n : Nat} {d : D} {row : List D} {R : A} (hR : R = .own (.lst row) ∨ R = .val (.lst row) ∨ R = .val (.tup row)) (hd : DS n d) (hn : n < 2 ^ 59) (h1 : row.length < 16777216) :
    ∃ row' d', runDef F M 5 bShuf [.own d, R] = .ok (.own (.lst row'), [.own d', R]) ∧ row'.Perm row ∧ DS (n + row.length) d' := by
  obtain ⟨row', d', o, e, h2, h3⟩ := shuf_loop (M := M) (s := R.slot) hD hdfl hd hn h1
  refine ⟨row', d', ?_, h2, h3⟩
  rcases hR with rfl | rfl | rfl <;> simp at e <;> simp [bShuf, Dv.envOf, e]
/-! what is an amount -/
def bIsInt : Sxs := (.cons 
    (.ret (.and_ (.cons (.isi .int (.var 0)) (.cons (.not_ (.isi .bool (.var 0))) .nil)))) .nil)
theorem is_int_run {i : Int} : runDef F M 1 bIsInt [.val (.int i)] = .ok (.val (.bl true), [.val (.int i)]) := by
  simp [bIsInt, Dv.envOf]
def bIsAmE : Ex := (.call "_law_is_int" (.cons (.var 1) .nil))
def bIsAmC : Ex := (.comp bIsAmE (.nm 1) (.seq (.var 0)) .none [1])
def bIsAm : Sxs := (.cons 
    (.ite (.or_ (.cons (.not_ (.val (.isi .tup (.var 0)))) (.cons (.cmp .NotEq (.blt .len (.cons (.var 0) .nil)) (.cst (.int 2))) (.cons (.not_ (.val (.blt .all (.cons bIsAmC .nil)))) .nil)))) (.cons 
    (.ret (.cst (.bl false))) .nil) .nil) (.cons 
    (.ret (.and_ (.cons (.cmp .GtE (.idx (.var 0) (.cst (.int 1))) (.cst (.int 1))) (.cons (.cmp .Eq (.call "_law_gcd" (.cons (.idx (.var 0) (.cst (.int 0))) (.cons (.idx (.var 0) (.cst (.int 1))) .nil))) (.cst (.int 1))) .nil)))) .nil))
theorem is_am_run (hI : ∀ i : Int, F.call "_law_is_int" [.val (.int i)] = .ok (.val (.bl true), [.val (.int i)])) (hg : ∀ n d : Int, d.natAbs < oC → F.call "_law_gcd" [.val (.int n), .val (.int d)] = .ok (.val (.int ((Nat.gcd n.natAbs d.natAbs : Nat) : Int)), [.val (.int n), .val (.int d)]))
    (hdfl : ∀ f n, F.dfl f n = []) {q : Rat} (hq : Ok q) : runDef F M 2 bIsAm [.val (am q)] = .ok (.val (.bl true), [.val (am q)]) := by
  have e : ev F bIsAmC [some (.val (am q)), none] = .ok (.own (.lst [.bl true, .bl true]), [some (.val (am q)), none]) :=
    comp_mapE (xs := [q.num, (q.den : Int)]) (f := D.int) (g := fun _ => .bl true) (ρ1 := [some (.val (am q)), none]) (ρw := [some (.val (am q)), none]) (p := .val (am q))
      (by simp [am]) (by simp) (by simp [sizeLine]) (fun x _ => by simp [turnW, turnR, bIsAmE, hI, hdfl]) (fun out => by simp [compEnd])
  have hx := oB_oC
  have hy : oB ≤ oB * oB := Nat.le_mul_of_pos_left _ oB_pos
  have hl : q.den < oB := hq.2
  have g := hg q.num q.den (by omega)
  have g1 : Nat.gcd q.num.natAbs (q.den : Int).natAbs = 1 := q.reduced
  rw [g1] at g
  have ne2 := ne_nice (k := 0) (d := .int 2) (e := .int 2) nice_int nice_int (by decide)
  have eq1 := eq_nice (k := 0) (d := .int 1) (e := .int 1) nice_int nice_int (by decide)
  have hd1 : (1 : Int) ≤ (q.den : Int) := by have := q.den_pos; omega
  have e1 : isTy .tup (am q) = .ok true := rfl
  have e2 : dLen (am q) = .ok 2 := rfl
  simp [bIsAm, Dv.envOf, e1, e2, -c37_dCmp, -c36_dCmp, ne2, eq1, e, g, hdfl, hd1]
def bIsRowE : Ex := (.call "_law_is_amount" (.cons (.var 2) .nil))
def bIsRowC : Ex := (.comp bIsRowE (.nm 2) (.seq (.var 0)) .none [2])
def bIsRow : Sxs := (.cons 
    (.ret (.and_ (.cons (.isi .tup (.var 0)) (.cons (.cmp .Eq (.blt .len (.cons (.var 0) .nil)) (.var 1)) (.cons (.blt .all (.cons bIsRowC .nil)) .nil))))) .nil)
theorem bls_true {α : Type} {l : List α} : bls (l.map fun _ => D.bl true) = some (l.map fun _ => true) := by
  induction l with
  | nil => rfl
  | cons a t ih =>
    rw [List.map_cons, List.map_cons, bls, ih]
    rfl
@[simp] theorem all_tt {α : Type} {l : List α} : (l.all fun _ => true) = true := by simp
theorem all_true {α : Type} {l : List α} : ((l.map fun _ => true).all id) = true := by simp
theorem is_row_run (hA : ∀ q : Rat, Ok q → F.call "_law_is_amount" [.val (am q)] = .ok (.val (.bl true), [.val (am q)])) (hdfl : ∀ f n, F.dfl f n = []) {l : List Rat} {n : Nat} (hn : n = l.length) (hl : l.length < sizeLine) (h : ∀ q ∈ l, Ok q) :
    runDef F M 3 bIsRow [.val (.tup (l.map am)), .val (.int (n : Nat))] = .ok (.val (.bl true), [.val (.tup (l.map am)), .val (.int (n : Nat))]) := by
  subst hn
  have e : ev F bIsRowC [some (.val (.tup (l.map am))), some (.val (.int (l.length : Nat))), none] = .ok (.own (.lst (l.map fun _ => .bl true)), [some (.val (.tup (l.map am))), some (.val (.int (l.length : Nat))), none]) :=
    comp_mapE (xs := l) (f := am) (g := fun _ => .bl true) (ρ1 := [some (.val (.tup (l.map am))), some (.val (.int (l.length : Nat))), none]) (ρw := [some (.val (.tup (l.map am))), some (.val (.int (l.length : Nat))), none]) (p := .val (.tup (l.map am)))
      (by simp) (by simp) hl (fun x hx => by simp [turnW, turnR, bIsRowE, hA x (h x hx), hdfl]) (fun out => by simp [compEnd])
  have eq1 := eq_nice (k := 0) (d := .int (l.length : Nat)) (e := .int (l.length : Nat)) nice_int nice_int (by decide)
  have b1 := bls_true (l := l)
  generalize l.map (fun _ => D.bl true) = bl at *
  simp [bIsRow, Dv.envOf, -c36_dCmp, eq1, e, b1]
end
end Dv
namespace Dv
open PySem PySem.Spec PyProof.Rows L2
/-- how often a while may turn -/
def MM : Nat := oC + 1000001
theorem MM_oC : oC ≤ MM := Nat.le_add_right _ _
theorem MM_lo : 1000001 ≤ MM := Nat.le_add_left _ _
def bLInt : Sxs := (.cons 
    (.ret (.tup (.cons (.var 0) (.cons (.cst (.int 1)) .nil)))) .nil)
theorem lint_run {F : Fn} {M : Nat} (i : Int) : runDef F M 1 bLInt [.val (.int i)] = .ok (.val (am (i : Rat)), [.val (.int i)]) := by
  have k2 : 2 ≤ sizeLine := by decide
  simp [bLInt, Dv.envOf, k2, am_int]
end Dv
namespace Dv
open PySem PySem.Spec PyProof.Rows L2
theorem divInt_pos {n d : Int} (hn : 0 < n) (hd : 0 < d) : 0 < Rat.divInt n d := by
  rw [Rat.divInt_eq_div, Rat.lt_div_iff (Rat.intCast_pos.mpr hd), Rat.zero_mul]
  exact Rat.intCast_pos.mpr hn
theorem divInt_nn {n d : Int} (hn : 0 ≤ n) (hd : 0 < d) : 0 ≤ Rat.divInt n d := Rat.divInt_nonneg hn (Int.le_of_lt hd)
theorem rng_congr {n : Nat} {f g : Nat → D} (h : ∀ k, k < n → f k = g k) : (List.range n).map f = (List.range n).map g := List.map_congr_left fun k hk => h k (List.mem_range.mp hk)
theorem rng_snoc {n : Nat} {f : Nat → D} : (List.range (n + 1)).map f = (List.range n).map f ++ [f n] := by rw [List.range_succ, List.map_append]; rfl
theorem len_lt {n : Nat} (h : n < 16777216) : n < sizeLine := h
theorem len_le {n : Nat} (h : n ≤ 16777216) : n ≤ sizeLine := h
end Dv
namespace Dv
open PySem PySem.Spec PyProof.Rows L2
theorem oC_big {x : Nat} (h : x < 2 ^ 64) : x < oC := Nat.lt_of_lt_of_le h (Nat.pow_le_pow_right (by decide) (by decide))
@[simp] theorem atI_4 {α : Type} {x y z w v : α} {l : List α} : atI (x :: y :: z :: w :: v :: l) 4 = some v := by
  unfold atI ixN
  rw [if_pos (by decide), if_pos (by simp; omega)]
  rfl
@[simp] theorem atI_5 {α : Type} {x y z w v u : α} {l : List α} : atI (x :: y :: z :: w :: v :: u :: l) 5 = some u := by
  unfold atI ixN
  rw [if_pos (by decide), if_pos (by simp; omega)]
  rfl
end Dv
namespace Dv
open PySem PySem.Spec PyProof.Rows L2
section
variable {F : Fn} {N : Nat} {tg : Tg} {it : Ie} {b : Sxs} {ρ ρ1 ρ' : Env'} {S : Sx}
/-- a loop over a range -/
theorem for_rng (hS : S = .for_ tg it b) {m : Nat} (I : Nat → Env' → Prop) (hi : evi F it ρ = .ok (((List.range m).map fun k => D.int (k : Nat), .val .non), ρ1)) (h0 : I 0 ρ1)
    (step : ∀ i ρ, i < m → I i ρ → ∃ ρ', (turnX F N tg b (.int (i : Nat)) ρ = .ok (.nx, ρ') ∨ turnX F N tg b (.int (i : Nat)) ρ = .ok (.ct, ρ')) ∧ I (i + 1) ρ') : ∃ ρ', I m ρ' ∧ ex F N S ρ = .ok (.nx, ρ') := by
  obtain ⟨ρ', h, e⟩ := for_st (F := F) (N := N) (tg := tg) (b := b) (xs := List.range m) (f := fun k => D.int (k : Nat)) I hi h0 fun i x ρ hx hI => by
    obtain ⟨hi, rfl⟩ := List.getElem?_eq_some_iff.mp hx
    rw [List.getElem_range]
    rw [List.length_range] at hi
    exact step i ρ hi hI
  rw [List.length_range] at h
  subst hS
  exact ⟨ρ', h, e⟩
/-- a loop over a value's items -/
theorem for_val (hS : S = .for_ tg it b) {α : Type} {xs : List α} {f : α → D} {d : D} (I : Nat → Env' → Prop) (hi : evi F it ρ = .ok ((xs.map f, .val d), ρ1)) (h0 : I 0 ρ1)
    (step : ∀ i x ρ, xs[i]? = some x → I i ρ → ∃ ρ', (turnX F N tg b (f x) ρ = .ok (.nx, ρ') ∨ turnX F N tg b (f x) ρ = .ok (.ct, ρ')) ∧ I (i + 1) ρ') : ∃ ρ', I xs.length ρ' ∧ ex F N S ρ = .ok (.nx, ρ') := by
  obtain ⟨ρ', h, e⟩ := for_st (F := F) (N := N) (tg := tg) (b := b) (xs := xs) (f := f) I hi h0 step
  subst hS
  exact ⟨ρ', h, e⟩
/-- .. of a slot's list, locked meanwhile -/
theorem for_slot (hS : S = .for_ tg it b) {α : Type} {xs : List α} {f : α → D} {j : Nat} (I : Nat → Env' → Prop) (hi : evi F it ρ = .ok ((xs.map f, .at_ j), ρ1)) {o : Option Nat} {ρl : Env'} (hl : lockP (.at_ j) ρ1 = (o, ρl)) (h0 : I 0 ρl)
    (step : ∀ i x ρ, xs[i]? = some x → I i ρ → ∃ ρ', (turnX F N tg b (f x) ρ = .ok (.nx, ρ') ∨ turnX F N tg b (f x) ρ = .ok (.ct, ρ')) ∧ I (i + 1) ρ') : ∃ ρ', I xs.length ρ' ∧ ex F N S ρ = (unlock o ρ').bind fun ρ => .ok (.nx, ρ) := by
  obtain ⟨ρ', h, e⟩ := for_st (F := F) (N := N) (tg := tg) (b := b) (xs := xs) (f := f) I hi (by rw [hl]; exact h0) step
  subst hS
  rw [hl] at e
  exact ⟨ρ', h, e⟩
end
end Dv
namespace Dv
open PySem PySem.Spec PyProof.Rows L2
theorem Bd.k60 {L N : Nat} {q : Rat} (h : Bd L N q) (h0 : 0 < L) (h1 : L < 2 ^ 60) (h2 : N < 2 ^ 60) : K 60 q := h.k h0 h1 h2 (by decide)
theorem K.ok60 {q : Rat} (h : K 60 q) : Ok q := h.ok (by decide)
end Dv
namespace Dv
open PySem PySem.Spec PyProof.Rows L2
@[simp high] theorem eq_int {i j : Int} : dCmp .Eq (.int i) (.int j) = .ok (decide (i = j)) := by
  rw [eq_nice (k := 0) nice_int nice_int (by decide)]
  simp
@[simp high] theorem ne_int {i j : Int} : dCmp .NotEq (.int i) (.int j) = .ok (!decide (i = j)) := by
  rw [ne_nice (k := 0) nice_int nice_int (by decide)]
  simp
/-- numbers as data -/
abbrev iD (z : Nat) : D := .int (z : Nat)
theorem nice_ints {k : Nat} {l : List Nat} : nice (k + 1) (.lst (l.map iD)) := fun e he => by
  obtain ⟨z, _, rfl⟩ := List.mem_map.mp he
  exact nice_int
theorem in_ints {k : Nat} {l : List Nat} : dIn (.int (k : Nat)) (.lst (l.map iD)) = .ok (decide (k ∈ l)) := by
  rw [dIn_lst, need_true ⟨nice_shp (k := 0) nice_int (by decide), nice_shp (k := 1) nice_ints (by decide)⟩]
  congr 1
  rw [List.any_map]
  by_cases h : k ∈ l
  · rw [decide_eq_true h, List.any_eq_true]
    exact ⟨k, h, by show deq _ _ = true; rw [deq_nice (k := 0) nice_int nice_int]; simp⟩
  · rw [decide_eq_false h, List.any_eq_false]
    intro x hx
    show ¬ deq _ _ = true
    rw [deq_nice (k := 0) nice_int nice_int]
    simp
    intro e
    exact h (by rw [show k = x by omega]; exact hx)
theorem map_rng {α β : Type} {l : List α} (f : α → β) (d0 : α) : l.map f = (List.range l.length).map fun k => f (l.getD k d0) := by
  apply List.ext_getElem
  · simp
  · intro i h1 h2
    simp at h1 ⊢
    simp [h1]
theorem mul_small {i j : Int} (h1 : i.natAbs < 2 ^ 64) (h2 : j.natAbs < 2 ^ 64) : CMulX i j := by
  have a := bits_lt h1
  have b := bits_lt h2
  unfold CMulX
  omega
end Dv

set_option Elab.async false
set_option linter.all false
set_option maxRecDepth 100000
set_option maxHeartbeats 0
namespace Wk31
open PySem PySem.Spec PyProof.Rows L2 Dv
def top (i : Nat) : Stmt := PySem.Challenge.pw_cedewheel_k31_rows_of_rays.main.body.getD i (.Pass ⟨0, 0, 0, 0⟩)
def frees : List Str := ["abs", "all", "bool", "enumerate", "int", "isinstance", "len", "list", "range", "tuple", "zip"]
def bts : List (Str × String) := [("gcd", "math.gcd")]
def glo (x : Str) : Option D := none
def E__law_begin_0 : Ex := (.blt .int (.cons (.var 1) .nil))
def C__law_begin_0 : Ex := (.comp E__law_begin_0 (.nm 1) (.seq (.var 0)) .none [1])
def b__law_begin : Sxs := (.cons 
    (.ret (.lst (.cons C__law_begin_0 (.cons (.cst (.int 0)) (.cons (.cst (.int 0)) (.cons (.cst (.int 7)) (.cons (.cst (.int 3)) .nil))))))) .nil)
def d__law_begin : Dm := ⟨"_law_begin", 1, 1, 2, b__law_begin, fun _ => []⟩
def ds0 : List Dm := []
noncomputable def F0 (M : Nat) : Fn := mkF glo M ds0
def N__law_begin : List Str := ["script", "cell"]
def P__law_begin : List Str := ["script"]
theorem sc__law_begin : FnScope N__law_begin P__law_begin (defScope (top 19)) := ⟨by kernel_rfl, by kernel_rfl, by kernel_rfl, by decide +kernel, by kernel_rfl, by decide +kernel, by decide +kernel⟩
theorem ck__law_begin : ckSs (gnOf frees bts ds0) N__law_begin 1 (defScope (top 19)) b__law_begin (defBody (top 19)) = true := by decide +kernel
def b__law_draw : Sxs := (.cons 
    (.ite (.cmp .Gt (.idx (.var 0) (.cst (.int 2))) (.cst (.int 0))) (.cons 
    (.set 3 (.idx (.var 0) (.cst (.int 2)))) (.cons 
    (.setI 0 (.cst (.int 2)) (.bin .FloorDiv (.var 3) (.var 1))) (.cons 
    (.ret (.bin .Mod (.blt .int (.cons (.var 3) .nil)) (.var 1))) .nil))) .nil) (.cons 
    (.set 2 (.cst (.int 0))) (.cons 
    (.ite (.cmp .Lt (.idx (.var 0) (.cst (.int 1))) (.blt .len (.cons (.idx (.var 0) (.cst (.int 0))) .nil))) (.cons 
    (.set 4 (.idx (.idx (.var 0) (.cst (.int 0))) (.idx (.var 0) (.cst (.int 1))))) (.cons 
    (.set 2 (.bin .Add (.bin .Mult (.cst (.int 2)) (.blt .abs (.cons (.var 4) .nil))) (.blt .int (.cons (.cmp .Lt (.var 4) (.cst (.int 0))) .nil)))) .nil)) .nil) (.cons 
    (.augI 0 .Add (.cst (.int 1)) (.cst (.int 1))) (.cons 
    (.ite (.cmp .GtE (.var 2) (.bin .Mult (.cst (.int 2)) (.bin .Pow (.cst (.int 10)) (.cst (.int 18))))) (.cons 
    (.set 3 (.bin .Mod (.blt .int (.cons (.bin .FloorDiv (.var 2) (.cst (.int 2))) .nil)) (.bin .LShift (.cst (.int 1)) (.cst (.int 6000))))) (.cons 
    (.setI 0 (.cst (.int 2)) (.bin .FloorDiv (.var 3) (.var 1))) (.cons 
    (.ret (.bin .Mod (.blt .int (.cons (.var 3) .nil)) (.var 1))) .nil))) .nil) (.cons 
    (.setI 0 (.cst (.int 3)) (.bin .Mod (.blt .int (.cons (.bin .Add (.bin .Add (.bin .Add (.bin .Mult (.idx (.var 0) (.cst (.int 3))) (.cst (.int 48271))) (.bin .Mult (.bin .Mod (.blt .int (.cons (.var 2) .nil)) (.cst (.int 2147483629))) (.cst (.int 16807)))) (.bin .Mult (.idx (.var 0) (.cst (.int 1))) (.cst (.int 69621)))) (.cst (.int 11))) .nil)) (.cst (.int 2147483647)))) (.cons 
    (.ret (.bin .Mod (.blt .int (.cons (.bin .FloorDiv (.idx (.var 0) (.cst (.int 3))) (.cst (.int 16))) .nil)) (.var 1))) .nil)))))))
def d__law_draw : Dm := ⟨"_law_draw", 2, 2, 5, b__law_draw, fun _ => []⟩
def ds1 : List Dm := d__law_begin :: ds0
noncomputable def F1 (M : Nat) : Fn := mkF glo M ds1
def N__law_draw : List Str := ["d", "many", "size", "found", "cell"]
def P__law_draw : List Str := ["d", "many"]
theorem sc__law_draw : FnScope N__law_draw P__law_draw (defScope (top 20)) := ⟨by kernel_rfl, by kernel_rfl, by kernel_rfl, by decide +kernel, by kernel_rfl, by decide +kernel, by decide +kernel⟩
theorem ck__law_draw : ckSs (gnOf frees bts ds1) N__law_draw 2 (defScope (top 20)) b__law_draw (defBody (top 20)) = true := by decide +kernel
def b__law_rare : Sxs := (.cons 
    (.ret (.cmp .Eq (.call "_law_draw" (.cons (.var 0) (.cons (.var 1) .nil))) (.bin .FloorDiv (.var 1) (.cst (.int 2))))) .nil)
def d__law_rare : Dm := ⟨"_law_rare", 2, 2, 2, b__law_rare, fun _ => []⟩
def ds2 : List Dm := d__law_draw :: ds1
noncomputable def F2 (M : Nat) : Fn := mkF glo M ds2
def N__law_rare : List Str := ["d", "many"]
def P__law_rare : List Str := ["d", "many"]
theorem sc__law_rare : FnScope N__law_rare P__law_rare (defScope (top 22)) := ⟨by kernel_rfl, by kernel_rfl, by kernel_rfl, by decide +kernel, by kernel_rfl, by decide +kernel, by decide +kernel⟩
theorem ck__law_rare : ckSs (gnOf frees bts ds2) N__law_rare 2 (defScope (top 22)) b__law_rare (defBody (top 22)) = true := by decide +kernel
def B__law_gcd_0 : Sxs := (.cons 
    (.par 2 3 (.var 3) (.bin .Mod (.blt .int (.cons (.var 2) .nil)) (.var 3))) .nil)
def S__law_gcd_0 : Sx := (.whl (.cmp .Gt (.var 3) (.cst (.int 0))) B__law_gcd_0)
def b__law_gcd : Sxs := (.cons 
    (.set 2 (.blt .abs (.cons (.var 0) .nil))) (.cons 
    (.set 3 (.blt .abs (.cons (.var 1) .nil))) (.cons 
    S__law_gcd_0 (.cons 
    (.ret (.var 2)) .nil))))
def d__law_gcd : Dm := ⟨"_law_gcd", 2, 2, 4, b__law_gcd, fun _ => []⟩
def ds3 : List Dm := d__law_rare :: ds2
noncomputable def F3 (M : Nat) : Fn := mkF glo M ds3
def N__law_gcd : List Str := ["a", "b", "one", "two"]
def P__law_gcd : List Str := ["a", "b"]
theorem sc__law_gcd : FnScope N__law_gcd P__law_gcd (defScope (top 25)) := ⟨by kernel_rfl, by kernel_rfl, by kernel_rfl, by decide +kernel, by kernel_rfl, by decide +kernel, by decide +kernel⟩
theorem ck__law_gcd : ckSs (gnOf frees bts ds3) N__law_gcd 2 (defScope (top 25)) b__law_gcd (defBody (top 25)) = true := by decide +kernel
def b__law_amount : Sxs := (.cons 
    (.set 2 (.call "_law_gcd" (.cons (.var 0) (.cons (.var 1) .nil)))) (.cons 
    (.ite (.cmp .Lt (.var 1) (.cst (.int 0))) (.cons 
    (.set 2 (.neg (.var 2))) .nil) .nil) (.cons 
    (.ret (.tup (.cons (.bin .FloorDiv (.var 0) (.var 2)) (.cons (.bin .FloorDiv (.var 1) (.var 2)) .nil)))) .nil)))
def d__law_amount : Dm := ⟨"_law_amount", 2, 2, 3, b__law_amount, fun _ => []⟩
def ds4 : List Dm := d__law_gcd :: ds3
noncomputable def F4 (M : Nat) : Fn := mkF glo M ds4
def N__law_amount : List Str := ["n", "d", "common"]
def P__law_amount : List Str := ["n", "d"]
theorem sc__law_amount : FnScope N__law_amount P__law_amount (defScope (top 26)) := ⟨by kernel_rfl, by kernel_rfl, by kernel_rfl, by decide +kernel, by kernel_rfl, by decide +kernel, by decide +kernel⟩
theorem ck__law_amount : ckSs (gnOf frees bts ds4) N__law_amount 2 (defScope (top 26)) b__law_amount (defBody (top 26)) = true := by decide +kernel
def b__law_plus : Sxs := (.cons 
    (.ret (.call "_law_amount" (.cons (.bin .Add (.bin .Mult (.idx (.var 0) (.cst (.int 0))) (.idx (.var 1) (.cst (.int 1)))) (.bin .Mult (.idx (.var 1) (.cst (.int 0))) (.idx (.var 0) (.cst (.int 1))))) (.cons (.bin .Mult (.idx (.var 0) (.cst (.int 1))) (.idx (.var 1) (.cst (.int 1)))) .nil)))) .nil)
def d__law_plus : Dm := ⟨"_law_plus", 2, 2, 2, b__law_plus, fun _ => []⟩
def ds5 : List Dm := d__law_amount :: ds4
noncomputable def F5 (M : Nat) : Fn := mkF glo M ds5
def N__law_plus : List Str := ["a", "b"]
def P__law_plus : List Str := ["a", "b"]
theorem sc__law_plus : FnScope N__law_plus P__law_plus (defScope (top 28)) := ⟨by kernel_rfl, by kernel_rfl, by kernel_rfl, by decide +kernel, by kernel_rfl, by decide +kernel, by decide +kernel⟩
theorem ck__law_plus : ckSs (gnOf frees bts ds5) N__law_plus 2 (defScope (top 28)) b__law_plus (defBody (top 28)) = true := by decide +kernel
def b__law_gap : Sxs := (.cons 
    (.set 1 (.idx (.lst (.cons (.cst (.int 1)) (.cons (.cst (.int 1)) (.cons (.cst (.int 1)) (.cons (.cst (.int 2)) (.cons (.cst (.int 3)) .nil)))))) (.call "_law_draw" (.cons (.var 0) (.cons (.cst (.int 5)) .nil))))) (.cons 
    (.ret (.call "_law_amount" (.cons (.bin .Add (.cst (.int 1)) (.call "_law_draw" (.cons (.var 0) (.cons (.cst (.int 24)) .nil)))) (.cons (.var 1) .nil)))) .nil))
def d__law_gap : Dm := ⟨"_law_gap", 1, 1, 2, b__law_gap, fun _ => []⟩
def ds6 : List Dm := d__law_plus :: ds5
noncomputable def F6 (M : Nat) : Fn := mkF glo M ds6
def N__law_gap : List Str := ["d", "under"]
def P__law_gap : List Str := ["d"]
theorem sc__law_gap : FnScope N__law_gap P__law_gap (defScope (top 34)) := ⟨by kernel_rfl, by kernel_rfl, by kernel_rfl, by decide +kernel, by kernel_rfl, by decide +kernel, by decide +kernel⟩
theorem ck__law_gap : ckSs (gnOf frees bts ds6) N__law_gap 1 (defScope (top 34)) b__law_gap (defBody (top 34)) = true := by decide +kernel
def B__law_lows_0 : Sxs := (.cons 
    (.expr (.chg .append 3 (.cons (.var 2) .nil))) (.cons 
    (.set 2 (.call "_law_plus" (.cons (.var 2) (.cons (.call "_law_gap" (.cons (.var 0) .nil)) .nil)))) .nil))
def S__law_lows_0 : Sx := (.for_ (.nm 4) (.rng (.var 1)) B__law_lows_0)
def b__law_lows : Sxs := (.cons 
    (.set 2 (.tup (.cons (.cst (.int 0)) (.cons (.cst (.int 1)) .nil)))) (.cons 
    (.set 3 (.lst .nil)) (.cons 
    S__law_lows_0 (.cons 
    (.ret (.var 3)) .nil))))
def d__law_lows : Dm := ⟨"_law_lows", 2, 2, 5, b__law_lows, fun _ => []⟩
def ds7 : List Dm := d__law_gap :: ds6
noncomputable def F7 (M : Nat) : Fn := mkF glo M ds7
def N__law_lows : List Str := ["d", "many", "at", "found", "k"]
def P__law_lows : List Str := ["d", "many"]
theorem sc__law_lows : FnScope N__law_lows P__law_lows (defScope (top 38)) := ⟨by kernel_rfl, by kernel_rfl, by kernel_rfl, by decide +kernel, by kernel_rfl, by decide +kernel, by decide +kernel⟩
theorem ck__law_lows : ckSs (gnOf frees bts ds7) N__law_lows 2 (defScope (top 38)) b__law_lows (defBody (top 38)) = true := by decide +kernel
def E__law_slopes_by_stretch_0 : Ex := (.call "_law_draw" (.cons (.var 0) (.cons (.cst (.int 7)) .nil)))
def C__law_slopes_by_stretch_0 : Ex := (.comp E__law_slopes_by_stretch_0 (.nm 7) (.rng (.var 3)) .none [7])
def E__law_slopes_by_stretch_2 : Ex := (.call "_law_draw" (.cons (.var 0) (.cons (.cst (.int 7)) .nil)))
def C__law_slopes_by_stretch_2 : Ex := (.comp E__law_slopes_by_stretch_2 (.nm 7) (.rng (.var 3)) .none [7])
def B__law_slopes_by_stretch_1 : Sxs := (.cons 
    (.ite (.or_ (.cons (.cmp .NotIn (.var 6) (.var 2)) (.cons (.cmp .Eq (.call "_law_draw" (.cons (.var 0) (.cons (.cst (.int 2)) .nil))) (.cst (.int 0))) .nil))) (.cons 
    (.set 8 C__law_slopes_by_stretch_2) (.cons 
    (.ite (.cmp .Eq (.var 8) (.var 4)) (.cons 
    (.setI 8 (.cst (.int 0)) (.bin .Mod (.blt .int (.cons (.bin .Add (.idx (.var 8) (.cst (.int 0))) (.cst (.int 1))) .nil)) (.cst (.int 7)))) .nil) .nil) (.cons 
    (.set 4 (.var 8)) .nil))) .nil) (.cons 
    (.expr (.chg .append 5 (.cons (.var 4) .nil))) .nil))
def S__law_slopes_by_stretch_1 : Sx := (.for_ (.nm 6) (.rng2 (.cst (.int 1)) (.var 1)) B__law_slopes_by_stretch_1)
def E__law_slopes_by_stretch_4 : Ex := (.call "_law_amount" (.cons (.var 9) (.cons (.bin .Mult (.cst (.int 6)) (.var 3)) .nil)))
def C__law_slopes_by_stretch_4 : Ex := (.comp E__law_slopes_by_stretch_4 (.nm 9) (.seq (.var 8)) .none [9])
def E__law_slopes_by_stretch_3 : Ex := C__law_slopes_by_stretch_4
def C__law_slopes_by_stretch_3 : Ex := (.comp E__law_slopes_by_stretch_3 (.nm 8) (.seq (.var 5)) .none [8])
def b__law_slopes_by_stretch : Sxs := (.cons 
    (.set 4 C__law_slopes_by_stretch_0) (.cons 
    (.set 5 (.lst (.cons (.var 4) .nil))) (.cons 
    S__law_slopes_by_stretch_1 (.cons 
    (.ret C__law_slopes_by_stretch_3) .nil))))
def d__law_slopes_by_stretch : Dm := ⟨"_law_slopes_by_stretch", 4, 4, 10, b__law_slopes_by_stretch, fun _ => []⟩
def ds8 : List Dm := d__law_lows :: ds7
noncomputable def F8 (M : Nat) : Fn := mkF glo M ds8
def N__law_slopes_by_stretch : List Str := ["d", "many", "jumps", "takers", "last", "found", "k", "j", "parts", "part"]
def P__law_slopes_by_stretch : List Str := ["d", "many", "jumps", "takers"]
theorem sc__law_slopes_by_stretch : FnScope N__law_slopes_by_stretch P__law_slopes_by_stretch (defScope (top 39)) := ⟨by kernel_rfl, by kernel_rfl, by kernel_rfl, by decide +kernel, by kernel_rfl, by decide +kernel, by decide +kernel⟩
theorem ck__law_slopes_by_stretch : ckSs (gnOf frees bts ds8) N__law_slopes_by_stretch 4 (defScope (top 39)) b__law_slopes_by_stretch (defBody (top 39)) = true := by decide +kernel
def b__law_int : Sxs := (.cons 
    (.ret (.tup (.cons (.var 0) (.cons (.cst (.int 1)) .nil)))) .nil)
def d__law_int : Dm := ⟨"_law_int", 1, 1, 1, b__law_int, fun _ => []⟩
def ds9 : List Dm := d__law_slopes_by_stretch :: ds8
noncomputable def F9 (M : Nat) : Fn := mkF glo M ds9
def N__law_int : List Str := ["n"]
def P__law_int : List Str := ["n"]
theorem sc__law_int : FnScope N__law_int P__law_int (defScope (top 27)) := ⟨by kernel_rfl, by kernel_rfl, by kernel_rfl, by decide +kernel, by kernel_rfl, by decide +kernel, by decide +kernel⟩
theorem ck__law_int : ckSs (gnOf frees bts ds9) N__law_int 1 (defScope (top 27)) b__law_int (defBody (top 27)) = true := by decide +kernel
def b__law_times : Sxs := (.cons 
    (.ret (.call "_law_amount" (.cons (.bin .Mult (.idx (.var 0) (.cst (.int 0))) (.idx (.var 1) (.cst (.int 0)))) (.cons (.bin .Mult (.idx (.var 0) (.cst (.int 1))) (.idx (.var 1) (.cst (.int 1)))) .nil)))) .nil)
def d__law_times : Dm := ⟨"_law_times", 2, 2, 2, b__law_times, fun _ => []⟩
def ds10 : List Dm := d__law_int :: ds9
noncomputable def F10 (M : Nat) : Fn := mkF glo M ds10
def N__law_times : List Str := ["a", "b"]
def P__law_times : List Str := ["a", "b"]
theorem sc__law_times : FnScope N__law_times P__law_times (defScope (top 30)) := ⟨by kernel_rfl, by kernel_rfl, by kernel_rfl, by decide +kernel, by kernel_rfl, by decide +kernel, by decide +kernel⟩
theorem ck__law_times : ckSs (gnOf frees bts ds10) N__law_times 2 (defScope (top 30)) b__law_times (defBody (top 30)) = true := by decide +kernel
def b__law_minus : Sxs := (.cons 
    (.ret (.call "_law_amount" (.cons (.bin .Sub (.bin .Mult (.idx (.var 0) (.cst (.int 0))) (.idx (.var 1) (.cst (.int 1)))) (.bin .Mult (.idx (.var 1) (.cst (.int 0))) (.idx (.var 0) (.cst (.int 1))))) (.cons (.bin .Mult (.idx (.var 0) (.cst (.int 1))) (.idx (.var 1) (.cst (.int 1)))) .nil)))) .nil)
def d__law_minus : Dm := ⟨"_law_minus", 2, 2, 2, b__law_minus, fun _ => []⟩
def ds11 : List Dm := d__law_times :: ds10
noncomputable def F11 (M : Nat) : Fn := mkF glo M ds11
def N__law_minus : List Str := ["a", "b"]
def P__law_minus : List Str := ["a", "b"]
theorem sc__law_minus : FnScope N__law_minus P__law_minus (defScope (top 29)) := ⟨by kernel_rfl, by kernel_rfl, by kernel_rfl, by decide +kernel, by kernel_rfl, by decide +kernel, by decide +kernel⟩
theorem ck__law_minus : ckSs (gnOf frees bts ds11) N__law_minus 2 (defScope (top 29)) b__law_minus (defBody (top 29)) = true := by decide +kernel
def B__law_rising_0 : Sxs := (.cons 
    (.ite (.cmp .Gt (.var 5) (.cst (.int 0))) (.cons 
    (.set 3 (.call "_law_plus" (.cons (.var 3) (.cons (.call "_law_times" (.cons (.idx (.var 2) (.bin .Sub (.var 5) (.cst (.int 1)))) (.cons (.call "_law_minus" (.cons (.idx (.var 0) (.var 5)) (.cons (.idx (.var 0) (.bin .Sub (.var 5) (.cst (.int 1)))) .nil))) .nil))) .nil)))) .nil) .nil) (.cons 
    (.expr (.chg .append 4 (.cons (.tup (.cons (.var 3) (.cons (.idx (.var 2) (.var 5)) .nil))) .nil))) .nil))
def S__law_rising_0 : Sx := (.for_ (.nm 5) (.rng (.blt .len (.cons (.var 0) .nil))) B__law_rising_0)
def b__law_rising : Sxs := (.cons 
    (.set 3 (.var 1)) (.cons 
    (.set 4 (.lst .nil)) (.cons 
    S__law_rising_0 (.cons 
    (.ret (.lst (.cons (.var 1) (.cons (.var 4) .nil)))) .nil))))
def d__law_rising : Dm := ⟨"_law_rising", 3, 3, 6, b__law_rising, fun _ => []⟩
def ds12 : List Dm := d__law_minus :: ds11
noncomputable def F12 (M : Nat) : Fn := mkF glo M ds12
def N__law_rising : List Str := ["lows", "start", "rises", "base", "found", "k"]
def P__law_rising : List Str := ["lows", "start", "rises"]
theorem sc__law_rising : FnScope N__law_rising P__law_rising (defScope (top 40)) := ⟨by kernel_rfl, by kernel_rfl, by kernel_rfl, by decide +kernel, by kernel_rfl, by decide +kernel, by decide +kernel⟩
theorem ck__law_rising : ckSs (gnOf frees bts ds12) N__law_rising 3 (defScope (top 40)) b__law_rising (defBody (top 40)) = true := by decide +kernel
def b__law_claim : Sxs := (.cons 
    (.set 1 (.call "_law_draw" (.cons (.var 0) (.cons (.cst (.int 6)) .nil)))) (.cons 
    (.ite (.cmp .Eq (.var 1) (.cst (.int 0))) (.cons 
    (.ret (.call "_law_amount" (.cons (.call "_law_draw" (.cons (.var 0) (.cons (.cst (.int 200)) .nil))) (.cons (.bin .Add (.cst (.int 1)) (.call "_law_draw" (.cons (.var 0) (.cons (.cst (.int 6)) .nil)))) .nil)))) .nil) .nil) (.cons 
    (.ret (.tup (.cons (.bin .Sub (.call "_law_draw" (.cons (.var 0) (.cons (.cst (.int 60)) .nil))) (.bin .Mult (.cst (.int 30)) (.blt .int (.cons (.cmp .Eq (.var 1) (.cst (.int 1))) .nil)))) (.cons (.cst (.int 1)) .nil)))) .nil)))
def d__law_claim : Dm := ⟨"_law_claim", 1, 1, 2, b__law_claim, fun _ => []⟩
def ds13 : List Dm := d__law_rising :: ds12
noncomputable def F13 (M : Nat) : Fn := mkF glo M ds13
def N__law_claim : List Str := ["d", "kind"]
def P__law_claim : List Str := ["d"]
theorem sc__law_claim : FnScope N__law_claim P__law_claim (defScope (top 35)) := ⟨by kernel_rfl, by kernel_rfl, by kernel_rfl, by decide +kernel, by kernel_rfl, by decide +kernel, by decide +kernel⟩
theorem ck__law_claim : ckSs (gnOf frees bts ds13) N__law_claim 1 (defScope (top 35)) b__law_claim (defBody (top 35)) = true := by decide +kernel
def B__law_jumping_0 : Sxs := (.cons 
    (.set 8 (.call "_law_plus" (.cons (.var 2) (.cons (.call "_law_times" (.cons (.var 3) (.cons (.idx (.var 0) (.var 7)) .nil))) .nil)))) (.cons 
    (.set 9 (.call "_law_times" (.cons (.var 3) (.cons (.call "_law_minus" (.cons (.idx (.var 0) (.var 7)) (.cons (.idx (.var 0) (.var 1)) .nil))) .nil)))) (.cons 
    (.ite (.cmp .Lt (.var 7) (.var 1)) (.cons 
    (.expr (.chg .append 5 (.cons (.tup (.cons (.var 8) (.cons (.var 3) .nil))) .nil))) (.cons 
    (.expr (.chg .append 6 (.cons (.tup (.cons (.var 9) (.cons (.var 3) .nil))) .nil))) .nil)) (.cons 
    (.expr (.chg .append 5 (.cons (.tup (.cons (.call "_law_plus" (.cons (.var 8) (.cons (.var 4) .nil))) (.cons (.var 3) .nil))) .nil))) (.cons 
    (.expr (.chg .append 6 (.cons (.tup (.cons (.var 4) (.cons (.tup (.cons (.cst (.int 0)) (.cons (.cst (.int 1)) .nil))) .nil))) .nil))) .nil))) .nil)))
def S__law_jumping_0 : Sx := (.for_ (.nm 7) (.rng (.blt .len (.cons (.var 0) .nil))) B__law_jumping_0)
def b__law_jumping : Sxs := (.cons 
    (.set 5 (.lst .nil)) (.cons 
    (.set 6 (.lst .nil)) (.cons 
    S__law_jumping_0 (.cons 
    (.ret (.lst (.cons (.lst (.cons (.var 2) (.cons (.var 5) .nil))) (.cons (.lst (.cons (.call "_law_times" (.cons (.var 3) (.cons (.call "_law_minus" (.cons (.tup (.cons (.cst (.int 0)) (.cons (.cst (.int 1)) .nil))) (.cons (.idx (.var 0) (.var 1)) .nil))) .nil))) (.cons (.var 6) .nil))) .nil)))) .nil))))
def d__law_jumping : Dm := ⟨"_law_jumping", 5, 5, 10, b__law_jumping, fun _ => []⟩
def ds14 : List Dm := d__law_claim :: ds13
noncomputable def F14 (M : Nat) : Fn := mkF glo M ds14
def N__law_jumping : List Str := ["lows", "at", "start", "speed", "height", "one", "two", "k", "left", "right"]
def P__law_jumping : List Str := ["lows", "at", "start", "speed", "height"]
theorem sc__law_jumping : FnScope N__law_jumping P__law_jumping (defScope (top 41)) := ⟨by kernel_rfl, by kernel_rfl, by kernel_rfl, by decide +kernel, by kernel_rfl, by decide +kernel, by decide +kernel⟩
theorem ck__law_jumping : ckSs (gnOf frees bts ds14) N__law_jumping 5 (defScope (top 41)) b__law_jumping (defBody (top 41)) = true := by decide +kernel
def E__law_tracks_0 : Ex := (.tup (.cons (.cst (.int 1)) (.cons (.cst (.int 1)) .nil)))
def C__law_tracks_0 : Ex := (.comp E__law_tracks_0 (.nm 13) (.seq (.var 1)) .none [13])
def E__law_tracks_2 : Ex := (.call "_law_plus" (.cons (.var 10) (.cons (.idx (.idx (.var 4) (.var 14)) (.var 8)) .nil)))
def C__law_tracks_2 : Ex := (.comp E__law_tracks_2 (.nm 14) (.rng (.blt .len (.cons (.var 1) .nil))) .none [14])
def B__law_tracks_1 : Sxs := (.cons 
    (.set 10 (.call "_law_amount" (.cons (.bin .Mult (.call "_law_draw" (.cons (.var 0) (.cons (.cst (.int 4)) .nil))) (.call "_law_draw" (.cons (.var 0) (.cons (.cst (.int 2)) .nil)))) (.cons (.bin .Add (.cst (.int 1)) (.call "_law_draw" (.cons (.var 0) (.cons (.cst (.int 3)) .nil)))) .nil)))) (.cons 
    (.set 11 (.call "_law_plus" (.cons (.call "_law_claim" (.cons (.var 0) .nil)) (.cons (.call "_law_times" (.cons (.idx (.idx (.var 4) (.cst (.int 0))) (.var 8)) (.cons (.var 5) .nil))) .nil)))) (.cons 
    (.expr (.chg .append 7 (.cons (.call "_law_rising" (.cons (.var 1) (.cons (.var 11) (.cons C__law_tracks_2 .nil)))) .nil))) .nil)))
def S__law_tracks_1 : Sx := (.for_ (.nm 8) (.rng (.var 3)) B__law_tracks_1)
def B__law_tracks_3 : Sxs := (.cons 
    (.set 12 (.call "_law_amount" (.cons (.bin .Add (.cst (.int 1)) (.call "_law_draw" (.cons (.var 0) (.cons (.cst (.int 4)) .nil)))) (.cons (.bin .Add (.cst (.int 1)) (.call "_law_draw" (.cons (.var 0) (.cons (.cst (.int 3)) .nil)))) .nil)))) (.cons 
    (.set 7 (.bin .Add (.var 7) (.call "_law_jumping" (.cons (.var 1) (.cons (.var 9) (.cons (.call "_law_int" (.cons (.call "_law_draw" (.cons (.var 0) (.cons (.cst (.int 6)) .nil))) .nil)) (.cons (.var 12) (.cons (.call "_law_gap" (.cons (.var 0) .nil)) .nil)))))))) .nil))
def S__law_tracks_3 : Sx := (.for_ (.nm 9) (.seq (.var 2)) B__law_tracks_3)
def b__law_tracks : Sxs := (.cons 
    (.set 4 (.call "_law_slopes_by_stretch" (.cons (.var 0) (.cons (.blt .len (.cons (.var 1) .nil)) (.cons (.var 2) (.cons (.var 3) .nil)))))) (.cons 
    (.set 5 (.call "_law_gap" (.cons (.var 0) .nil))) (.cons 
    (.ite (.cmp .Eq (.call "_law_draw" (.cons (.var 0) (.cons (.cst (.int 2)) .nil))) (.cst (.int 0))) (.cons 
    (.set 5 (.tup (.cons (.cst (.int 0)) (.cons (.cst (.int 1)) .nil)))) .nil) .nil) (.cons 
    (.set 6 (.call "_law_plus" (.cons (.call "_law_int" (.cons (.call "_law_draw" (.cons (.var 0) (.cons (.cst (.int 9)) .nil))) .nil)) (.cons (.var 5) .nil)))) (.cons 
    (.set 7 (.lst (.cons (.call "_law_rising" (.cons (.var 1) (.cons (.var 6) (.cons C__law_tracks_0 .nil)))) .nil))) (.cons 
    S__law_tracks_1 (.cons 
    S__law_tracks_3 (.cons 
    (.ret (.var 7)) .nil))))))))
def d__law_tracks : Dm := ⟨"_law_tracks", 4, 4, 15, b__law_tracks, fun _ => []⟩
def ds15 : List Dm := d__law_jumping :: ds14
noncomputable def F15 (M : Nat) : Fn := mkF glo M ds15
def N__law_tracks : List Str := ["d", "lows", "jumps", "takers", "slopes", "ahead", "start", "found", "j", "at", "rise", "first", "speed", "low", "k"]
def P__law_tracks : List Str := ["d", "lows", "jumps", "takers"]
theorem sc__law_tracks : FnScope N__law_tracks P__law_tracks (defScope (top 43)) := ⟨by kernel_rfl, by kernel_rfl, by kernel_rfl, by decide +kernel, by kernel_rfl, by decide +kernel, by decide +kernel⟩
theorem ck__law_tracks : ckSs (gnOf frees bts ds15) N__law_tracks 4 (defScope (top 43)) b__law_tracks (defBody (top 43)) = true := by decide +kernel
def E__law_ending_0 : Ex := (.var 3)
def C__law_ending_0 : Ex := (.comp E__law_ending_0 (.nm 5) (.seq (.var 0)) .none [5])
def b__law_ending : Sxs := (.cons 
    (.set 4 C__law_ending_0) (.cons 
    (.ret (.lst (.cons (.call "_law_rising" (.cons (.var 0) (.cons (.var 2) (.cons (.var 4) .nil)))) (.cons (.call "_law_rising" (.cons (.var 0) (.cons (.call "_law_times" (.cons (.var 3) (.cons (.call "_law_minus" (.cons (.tup (.cons (.cst (.int 0)) (.cons (.cst (.int 1)) .nil))) (.cons (.var 1) .nil))) .nil))) (.cons (.var 4) .nil)))) .nil)))) .nil))
def d__law_ending : Dm := ⟨"_law_ending", 4, 4, 6, b__law_ending, fun _ => []⟩
def ds16 : List Dm := d__law_tracks :: ds15
noncomputable def F16 (M : Nat) : Fn := mkF glo M ds16
def N__law_ending : List Str := ["lows", "end", "start", "speed", "rises", "low"]
def P__law_ending : List Str := ["lows", "end", "start", "speed"]
theorem sc__law_ending : FnScope N__law_ending P__law_ending (defScope (top 42)) := ⟨by kernel_rfl, by kernel_rfl, by kernel_rfl, by decide +kernel, by kernel_rfl, by decide +kernel, by decide +kernel⟩
theorem ck__law_ending : ckSs (gnOf frees bts ds16) N__law_ending 4 (defScope (top 42)) b__law_ending (defBody (top 42)) = true := by decide +kernel
def B__law_shuffled_0 : Sxs := (.cons 
    (.expr (.chg .append 3 (.cons (.chg .popAt 2 (.cons (.call "_law_draw" (.cons (.var 0) (.cons (.blt .len (.cons (.var 2) .nil)) .nil))) .nil)) .nil))) .nil)
def S__law_shuffled_0 : Sx := (.for_ (.nm 4) (.rng (.blt .len (.cons (.var 2) .nil))) B__law_shuffled_0)
def b__law_shuffled : Sxs := (.cons 
    (.set 2 (.blt .list (.cons (.var 1) .nil))) (.cons 
    (.set 3 (.lst .nil)) (.cons 
    S__law_shuffled_0 (.cons 
    (.ret (.var 3)) .nil))))
def d__law_shuffled : Dm := ⟨"_law_shuffled", 2, 2, 5, b__law_shuffled, fun _ => []⟩
def ds17 : List Dm := d__law_ending :: ds16
noncomputable def F17 (M : Nat) : Fn := mkF glo M ds17
def N__law_shuffled : List Str := ["d", "row", "left", "found", "k"]
def P__law_shuffled : List Str := ["d", "row"]
theorem sc__law_shuffled : FnScope N__law_shuffled P__law_shuffled (defScope (top 23)) := ⟨by kernel_rfl, by kernel_rfl, by kernel_rfl, by decide +kernel, by kernel_rfl, by decide +kernel, by decide +kernel⟩
theorem ck__law_shuffled : ckSs (gnOf frees bts ds17) N__law_shuffled 2 (defScope (top 23)) b__law_shuffled (defBody (top 23)) = true := by decide +kernel
def E__law_made_0 : Ex := (.call "_law_draw" (.cons (.var 0) (.cons (.var 3) .nil)))
def C__law_made_0 : Ex := (.comp E__law_made_0 (.nm 13) (.rng (.var 5)) (.some (.cmp .Gt (.var 3) (.cst (.int 0)))) [13])
def E__law_made_1 : Ex := (.tup (.cons (.cst (.int 0)) (.cons (.cst (.int 1)) .nil)))
def C__law_made_1 : Ex := (.comp E__law_made_1 (.nm 15) (.seq (.var 4)) .none [15])
def E__law_made_3 : Ex := (.idx (.idx (.idx (.var 14) (.cst (.int 1))) (.var 10)) (.cst (.int 0)))
def C__law_made_3 : Ex := (.comp E__law_made_3 (.nm 14) (.seq (.var 7)) .none [14])
def E__law_made_4 : Ex := (.idx (.idx (.idx (.var 14) (.cst (.int 1))) (.var 10)) (.cst (.int 1)))
def C__law_made_4 : Ex := (.comp E__law_made_4 (.nm 14) (.seq (.var 7)) .none [14])
def B__law_made_2 : Sxs := (.cons 
    (.set 12 (.blt .tuple (.cons C__law_made_3 .nil))) (.cons 
    (.expr (.chg .append 9 (.cons (.tup (.cons (.idx (.var 4) (.var 10)) (.cons (.var 12) (.cons (.blt .tuple (.cons C__law_made_4 .nil)) .nil)))) .nil))) .nil))
def S__law_made_2 : Sx := (.for_ (.nm 10) (.rng (.var 3)) B__law_made_2)
def E__law_made_5 : Ex := (.idx (.var 14) (.cst (.int 0)))
def C__law_made_5 : Ex := (.comp E__law_made_5 (.nm 14) (.seq (.var 7)) .none [14])
def E__law_made_6 : Ex := (.idx (.var 4) (.var 10))
def C__law_made_6 : Ex := (.comp E__law_made_6 (.nm 10) (.rng (.var 3)) (.some (.cmp .In (.var 10) (.var 6))) [10])
def b__law_made : Sxs := (.cons 
    (.set 1 (.bin .Add (.cst (.int 1)) (.call "_law_draw" (.cons (.var 0) (.cons (.cst (.int 3)) .nil))))) (.cons 
    (.set 2 (.call "_law_draw" (.cons (.var 0) (.cons (.cst (.int 7)) .nil)))) (.cons 
    (.set 3 (.bin .Add (.cst (.int 1)) (.call "_law_draw" (.cons (.var 0) (.cons (.cst (.int 6)) .nil))))) (.cons 
    (.ite (.val (.call "_law_rare" (.cons (.var 0) (.cons (.cst (.int 13)) .nil)))) (.cons 
    (.set 3 (.bin .Add (.cst (.int 10)) (.call "_law_draw" (.cons (.var 0) (.cons (.cst (.int 31)) .nil))))) .nil) .nil) (.cons 
    (.ite (.cmp .Eq (.var 2) (.cst (.int 0))) (.cons 
    (.set 3 (.cst (.int 0))) .nil) .nil) (.cons 
    (.set 4 (.call "_law_lows" (.cons (.var 0) (.cons (.var 3) .nil)))) (.cons 
    (.set 5 (.call "_law_draw" (.cons (.var 0) (.cons (.bin .Add (.cst (.int 1)) (.bin .FloorDiv (.bin .Sub (.bin .Sub (.cst (.int 7)) (.var 1)) (.bin .Mult (.cst (.int 2)) (.blt .int (.cons (.cmp .Lt (.var 2) (.cst (.int 3))) .nil)))) (.cst (.int 2)))) .nil)))) (.cons 
    (.set 6 C__law_made_0) (.cons 
    (.set 7 (.call "_law_tracks" (.cons (.var 0) (.cons (.var 4) (.cons (.var 6) (.cons (.var 1) .nil)))))) (.cons 
    (.set 8 (.cst .non)) (.cons 
    (.ite (.cmp .Lt (.var 2) (.cst (.int 3))) (.cons 
    (.set 8 (.tup (.cons (.cst (.int 0)) (.cons (.cst (.int 1)) .nil)))) (.cons 
    (.ite (.cmp .Gt (.var 3) (.cst (.int 0))) (.cons 
    (.set 8 (.call "_law_plus" (.cons (.idx (.var 4) (.bin .Sub (.var 3) (.cst (.int 1)))) (.cons (.call "_law_gap" (.cons (.var 0) .nil)) .nil)))) .nil) .nil) (.cons 
    (.set 7 (.bin .Add (.var 7) (.call "_law_ending" (.cons (.var 4) (.cons (.var 8) (.cons (.call "_law_int" (.cons (.call "_law_draw" (.cons (.var 0) (.cons (.cst (.int 6)) .nil))) .nil)) (.cons (.call "_law_amount" (.cons (.bin .Add (.cst (.int 1)) (.call "_law_draw" (.cons (.var 0) (.cons (.cst (.int 4)) .nil)))) (.cons (.cst (.int 2)) .nil))) .nil))))))) .nil))) .nil) (.cons 
    (.ite (.and_ (.cons (.cmp .Lt (.blt .len (.cons (.var 7) .nil)) (.cst (.int 8))) (.cons (.cmp .Eq (.call "_law_draw" (.cons (.var 0) (.cons (.cst (.int 3)) .nil))) (.cst (.int 0))) .nil))) (.cons 
    (.expr (.chg .append 7 (.cons (.call "_law_rising" (.cons (.var 4) (.cons (.call "_law_claim" (.cons (.var 0) .nil)) (.cons C__law_made_1 .nil)))) .nil))) .nil) .nil) (.cons 
    (.set 7 (.call "_law_shuffled" (.cons (.var 0) (.cons (.var 7) .nil)))) (.cons 
    (.set 9 (.lst .nil)) (.cons 
    S__law_made_2 (.cons 
    (.set 11 (.tup (.cons (.cst (.str "ray")) (.cons (.blt .tuple (.cons C__law_made_5 .nil)) (.cons (.blt .tuple (.cons (.var 9) .nil)) (.cons (.var 8) .nil)))))) (.cons 
    (.ret (.tup (.cons (.var 11) (.cons (.blt .tuple (.cons C__law_made_6 .nil)) .nil)))) .nil)))))))))))))))))
def d__law_made : Dm := ⟨"_law_made", 1, 1, 16, b__law_made, fun _ => []⟩
def ds18 : List Dm := d__law_shuffled :: ds17
noncomputable def F18 (M : Nat) : Fn := mkF glo M ds18
def N__law_made : List Str := ["d", "takers", "kind", "many", "lows", "rings", "jumps", "tracks", "end", "stretches", "k", "paper", "base", "ring", "track", "low"]
def P__law_made : List Str := ["d"]
theorem sc__law_made : FnScope N__law_made P__law_made (defScope (top 44)) := ⟨by kernel_rfl, by kernel_rfl, by kernel_rfl, by decide +kernel, by kernel_rfl, by decide +kernel, by decide +kernel⟩
theorem ck__law_made : ckSs (gnOf frees bts ds18) N__law_made 1 (defScope (top 44)) b__law_made (defBody (top 44)) = true := by decide +kernel
def b_reduced : Sxs := (.cons 
    (.ite (.cmp .Eq (.var 1) (.cst (.int 1))) (.cons 
    (.ret (.tup (.cons (.var 0) (.cons (.cst (.int 1)) .nil)))) .nil) .nil) (.cons 
    (.set 2 (.blt .gcd (.cons (.var 0) (.cons (.var 1) .nil)))) (.cons 
    (.ret (.tup (.cons (.bin .FloorDiv (.var 0) (.var 2)) (.cons (.bin .FloorDiv (.var 1) (.var 2)) .nil)))) .nil)))
def d_reduced : Dm := ⟨"reduced", 2, 2, 3, b_reduced, fun _ => []⟩
def ds19 : List Dm := d__law_made :: ds18
noncomputable def F19 (M : Nat) : Fn := mkF glo M ds19
def N_reduced : List Str := ["n", "d", "common"]
def P_reduced : List Str := ["n", "d"]
theorem sc_reduced : FnScope N_reduced P_reduced (defScope (top 2)) := ⟨by kernel_rfl, by kernel_rfl, by kernel_rfl, by decide +kernel, by kernel_rfl, by decide +kernel, by decide +kernel⟩
theorem ck_reduced : ckSs (gnOf frees bts ds19) N_reduced 2 (defScope (top 2)) b_reduced (defBody (top 2)) = true := by decide +kernel
def b_plus : Sxs := (.cons 
    (.ite (.cmp .Eq (.idx (.var 0) (.cst (.int 1))) (.idx (.var 1) (.cst (.int 1)))) (.cons 
    (.ret (.call "reduced" (.cons (.bin .Add (.idx (.var 0) (.cst (.int 0))) (.idx (.var 1) (.cst (.int 0)))) (.cons (.idx (.var 0) (.cst (.int 1))) .nil)))) .nil) .nil) (.cons 
    (.ret (.call "reduced" (.cons (.bin .Add (.bin .Mult (.idx (.var 0) (.cst (.int 0))) (.idx (.var 1) (.cst (.int 1)))) (.bin .Mult (.idx (.var 1) (.cst (.int 0))) (.idx (.var 0) (.cst (.int 1))))) (.cons (.bin .Mult (.idx (.var 0) (.cst (.int 1))) (.idx (.var 1) (.cst (.int 1)))) .nil)))) .nil))
def d_plus : Dm := ⟨"plus", 2, 2, 2, b_plus, fun _ => []⟩
def ds20 : List Dm := d_reduced :: ds19
noncomputable def F20 (M : Nat) : Fn := mkF glo M ds20
def N_plus : List Str := ["a", "b"]
def P_plus : List Str := ["a", "b"]
theorem sc_plus : FnScope N_plus P_plus (defScope (top 3)) := ⟨by kernel_rfl, by kernel_rfl, by kernel_rfl, by decide +kernel, by kernel_rfl, by decide +kernel, by decide +kernel⟩
theorem ck_plus : ckSs (gnOf frees bts ds20) N_plus 2 (defScope (top 3)) b_plus (defBody (top 3)) = true := by decide +kernel
def b_times : Sxs := (.cons 
    (.ret (.call "reduced" (.cons (.bin .Mult (.idx (.var 0) (.cst (.int 0))) (.idx (.var 1) (.cst (.int 0)))) (.cons (.bin .Mult (.idx (.var 0) (.cst (.int 1))) (.idx (.var 1) (.cst (.int 1)))) .nil)))) .nil)
def d_times : Dm := ⟨"times", 2, 2, 2, b_times, fun _ => []⟩
def ds21 : List Dm := d_plus :: ds20
noncomputable def F21 (M : Nat) : Fn := mkF glo M ds21
def N_times : List Str := ["a", "b"]
def P_times : List Str := ["a", "b"]
theorem sc_times : FnScope N_times P_times (defScope (top 5)) := ⟨by kernel_rfl, by kernel_rfl, by kernel_rfl, by decide +kernel, by kernel_rfl, by decide +kernel, by decide +kernel⟩
theorem ck_times : ckSs (gnOf frees bts ds21) N_times 2 (defScope (top 5)) b_times (defBody (top 5)) = true := by decide +kernel
def E_moved_along_0 : Ex := (.call "plus" (.cons (.var 3) (.cons (.call "times" (.cons (.var 2) (.cons (.var 4) .nil))) .nil)))
def C_moved_along_0 : Ex := (.comp E_moved_along_0 (.tp [3, 4]) (.zip (.cons (.var 0) (.cons (.var 1) .nil))) .none [3, 4])
def b_moved_along : Sxs := (.cons 
    (.ret (.blt .tuple (.cons C_moved_along_0 .nil))) .nil)
def d_moved_along : Dm := ⟨"moved_along", 3, 3, 5, b_moved_along, fun _ => []⟩
def ds22 : List Dm := d_times :: ds21
noncomputable def F22 (M : Nat) : Fn := mkF glo M ds22
def N_moved_along : List Str := ["x", "row", "far", "gross", "part"]
def P_moved_along : List Str := ["x", "row", "far"]
theorem sc_moved_along : FnScope N_moved_along P_moved_along (defScope (top 9)) := ⟨by kernel_rfl, by kernel_rfl, by kernel_rfl, by decide +kernel, by kernel_rfl, by decide +kernel, by decide +kernel⟩
theorem ck_moved_along : ckSs (gnOf frees bts ds22) N_moved_along 3 (defScope (top 9)) b_moved_along (defBody (top 9)) = true := by decide +kernel
def b_minus : Sxs := (.cons 
    (.ite (.cmp .Eq (.idx (.var 0) (.cst (.int 1))) (.idx (.var 1) (.cst (.int 1)))) (.cons 
    (.ret (.call "reduced" (.cons (.bin .Sub (.idx (.var 0) (.cst (.int 0))) (.idx (.var 1) (.cst (.int 0)))) (.cons (.idx (.var 0) (.cst (.int 1))) .nil)))) .nil) .nil) (.cons 
    (.ret (.call "reduced" (.cons (.bin .Sub (.bin .Mult (.idx (.var 0) (.cst (.int 0))) (.idx (.var 1) (.cst (.int 1)))) (.bin .Mult (.idx (.var 1) (.cst (.int 0))) (.idx (.var 0) (.cst (.int 1))))) (.cons (.bin .Mult (.idx (.var 0) (.cst (.int 1))) (.idx (.var 1) (.cst (.int 1)))) .nil)))) .nil))
def d_minus : Dm := ⟨"minus", 2, 2, 2, b_minus, fun _ => []⟩
def ds23 : List Dm := d_moved_along :: ds22
noncomputable def F23 (M : Nat) : Fn := mkF glo M ds23
def N_minus : List Str := ["a", "b"]
def P_minus : List Str := ["a", "b"]
theorem sc_minus : FnScope N_minus P_minus (defScope (top 4)) := ⟨by kernel_rfl, by kernel_rfl, by kernel_rfl, by decide +kernel, by kernel_rfl, by decide +kernel, by decide +kernel⟩
theorem ck_minus : ckSs (gnOf frees bts ds23) N_minus 2 (defScope (top 4)) b_minus (defBody (top 4)) = true := by decide +kernel
def b_row_on : Sxs := (.cons 
    (.setT [2, 3, 4] (.var 0)) (.cons 
    (.ret (.call "moved_along" (.cons (.var 3) (.cons (.var 4) (.cons (.call "minus" (.cons (.var 1) (.cons (.var 2) .nil))) .nil))))) .nil))
def d_row_on : Dm := ⟨"row_on", 2, 2, 5, b_row_on, fun _ => []⟩
def ds24 : List Dm := d_minus :: ds23
noncomputable def F24 (M : Nat) : Fn := mkF glo M ds24
def N_row_on : List Str := ["stretch", "growth", "low", "base", "move"]
def P_row_on : List Str := ["stretch", "growth"]
theorem sc_row_on : FnScope N_row_on P_row_on (defScope (top 11)) := ⟨by kernel_rfl, by kernel_rfl, by kernel_rfl, by decide +kernel, by kernel_rfl, by decide +kernel, by decide +kernel⟩
theorem ck_row_on : ckSs (gnOf frees bts ds24) N_row_on 2 (defScope (top 11)) b_row_on (defBody (top 11)) = true := by decide +kernel
def B_rows_ahead_0 : Sxs := (.cons 
    (.ite (.cmp .Gt (.var 7) (.cst (.int 0))) (.cons 
    (.set 2 (.call "row_on" (.cons (.idx (.var 5) (.bin .Sub (.var 7) (.cst (.int 1)))) (.cons (.idx (.var 8) (.cst (.int 0))) .nil)))) .nil) .nil) (.cons 
    (.expr (.chg .append 1 (.cons (.var 2) .nil))) .nil))
def S_rows_ahead_0 : Sx := (.for_ (.tp [7, 8]) (.enm (.var 5)) B_rows_ahead_0)
def b_rows_ahead : Sxs := (.cons 
    (.setT [3, 4, 5, 6] (.var 0)) (.cons 
    (.set 1 (.lst .nil)) (.cons 
    (.set 2 (.var 4)) (.cons 
    S_rows_ahead_0 (.cons 
    (.ret (.var 1)) .nil)))))
def d_rows_ahead : Dm := ⟨"rows_ahead", 1, 1, 9, b_rows_ahead, fun _ => []⟩
def ds25 : List Dm := d_row_on :: ds24
noncomputable def F25 (M : Nat) : Fn := mkF glo M ds25
def N_rows_ahead : List Str := ["paper", "found", "ahead", "word", "first", "stretches", "end", "place", "stretch"]
def P_rows_ahead : List Str := ["paper"]
theorem sc_rows_ahead : FnScope N_rows_ahead P_rows_ahead (defScope (top 16)) := ⟨by kernel_rfl, by kernel_rfl, by kernel_rfl, by decide +kernel, by kernel_rfl, by decide +kernel, by decide +kernel⟩
theorem ck_rows_ahead : ckSs (gnOf frees bts ds25) N_rows_ahead 1 (defScope (top 16)) b_rows_ahead (defBody (top 16)) = true := by decide +kernel
def B_jumps_of_0 : Sxs := (.cons 
    (.ite (.cmp .NotEq (.idx (.var 2) (.cst (.int 1))) (.var 3)) (.cons 
    (.expr (.chg .append 1 (.cons (.idx (.var 2) (.cst (.int 0))) .nil))) .nil) .nil) .nil)
def S_jumps_of_0 : Sx := (.for_ (.tp [2, 3]) (.zip (.cons (.idx (.var 0) (.cst (.int 2))) (.cons (.call "rows_ahead" (.cons (.var 0) .nil)) .nil))) B_jumps_of_0)
def b_jumps_of : Sxs := (.cons 
    (.set 1 (.lst .nil)) (.cons 
    S_jumps_of_0 (.cons 
    (.ret (.blt .tuple (.cons (.var 1) .nil))) .nil)))
def d_jumps_of : Dm := ⟨"jumps_of", 1, 1, 4, b_jumps_of, fun _ => []⟩
def ds26 : List Dm := d_rows_ahead :: ds25
noncomputable def F26 (M : Nat) : Fn := mkF glo M ds26
def N_jumps_of : List Str := ["paper", "found", "stretch", "ahead"]
def P_jumps_of : List Str := ["paper"]
theorem sc_jumps_of : FnScope N_jumps_of P_jumps_of (defScope (top 17)) := ⟨by kernel_rfl, by kernel_rfl, by kernel_rfl, by decide +kernel, by kernel_rfl, by decide +kernel, by decide +kernel⟩
theorem ck_jumps_of : ckSs (gnOf frees bts ds26) N_jumps_of 1 (defScope (top 17)) b_jumps_of (defBody (top 17)) = true := by decide +kernel
def b__law_is_int : Sxs := (.cons 
    (.ret (.and_ (.cons (.isi .int (.var 0)) (.cons (.not_ (.isi .bool (.var 0))) .nil)))) .nil)
def d__law_is_int : Dm := ⟨"_law_is_int", 1, 1, 1, b__law_is_int, fun _ => []⟩
def ds27 : List Dm := d_jumps_of :: ds26
noncomputable def F27 (M : Nat) : Fn := mkF glo M ds27
def N__law_is_int : List Str := ["thing"]
def P__law_is_int : List Str := ["thing"]
theorem sc__law_is_int : FnScope N__law_is_int P__law_is_int (defScope (top 24)) := ⟨by kernel_rfl, by kernel_rfl, by kernel_rfl, by decide +kernel, by kernel_rfl, by decide +kernel, by decide +kernel⟩
theorem ck__law_is_int : ckSs (gnOf frees bts ds27) N__law_is_int 1 (defScope (top 24)) b__law_is_int (defBody (top 24)) = true := by decide +kernel
def E__law_is_amount_0 : Ex := (.call "_law_is_int" (.cons (.var 1) .nil))
def C__law_is_amount_0 : Ex := (.comp E__law_is_amount_0 (.nm 1) (.seq (.var 0)) .none [1])
def b__law_is_amount : Sxs := (.cons 
    (.ite (.or_ (.cons (.not_ (.val (.isi .tup (.var 0)))) (.cons (.cmp .NotEq (.blt .len (.cons (.var 0) .nil)) (.cst (.int 2))) (.cons (.not_ (.val (.blt .all (.cons C__law_is_amount_0 .nil)))) .nil)))) (.cons 
    (.ret (.cst (.bl false))) .nil) .nil) (.cons 
    (.ret (.and_ (.cons (.cmp .GtE (.idx (.var 0) (.cst (.int 1))) (.cst (.int 1))) (.cons (.cmp .Eq (.call "_law_gcd" (.cons (.idx (.var 0) (.cst (.int 0))) (.cons (.idx (.var 0) (.cst (.int 1))) .nil))) (.cst (.int 1))) .nil)))) .nil))
def d__law_is_amount : Dm := ⟨"_law_is_amount", 1, 1, 2, b__law_is_amount, fun _ => []⟩
def ds28 : List Dm := d__law_is_int :: ds27
noncomputable def F28 (M : Nat) : Fn := mkF glo M ds28
def N__law_is_amount : List Str := ["thing", "part"]
def P__law_is_amount : List Str := ["thing"]
theorem sc__law_is_amount : FnScope N__law_is_amount P__law_is_amount (defScope (top 32)) := ⟨by kernel_rfl, by kernel_rfl, by kernel_rfl, by decide +kernel, by kernel_rfl, by decide +kernel, by decide +kernel⟩
theorem ck__law_is_amount : ckSs (gnOf frees bts ds28) N__law_is_amount 1 (defScope (top 32)) b__law_is_amount (defBody (top 32)) = true := by decide +kernel
def b__law_pick : Sxs := (.cons 
    (.ret (.idx (.var 1) (.call "_law_draw" (.cons (.var 0) (.cons (.blt .len (.cons (.var 1) .nil)) .nil))))) .nil)
def d__law_pick : Dm := ⟨"_law_pick", 2, 2, 2, b__law_pick, fun _ => []⟩
def ds29 : List Dm := d__law_is_amount :: ds28
noncomputable def F29 (M : Nat) : Fn := mkF glo M ds29
def N__law_pick : List Str := ["d", "row"]
def P__law_pick : List Str := ["d", "row"]
theorem sc__law_pick : FnScope N__law_pick P__law_pick (defScope (top 21)) := ⟨by kernel_rfl, by kernel_rfl, by kernel_rfl, by decide +kernel, by kernel_rfl, by decide +kernel, by decide +kernel⟩
theorem ck__law_pick : ckSs (gnOf frees bts ds29) N__law_pick 2 (defScope (top 21)) b__law_pick (defBody (top 21)) = true := by decide +kernel
def E__law_growths_0 : Ex := (.idx (.var 7) (.cst (.int 0)))
def C__law_growths_0 : Ex := (.comp E__law_growths_0 (.nm 7) (.seq (.idx (.var 1) (.cst (.int 2)))) .none [7])
def b__law_growths : Sxs := (.cons 
    (.set 3 (.bin .Add (.lst (.cons (.tup (.cons (.cst (.int 0)) (.cons (.cst (.int 1)) .nil))) .nil)) C__law_growths_0)) (.cons 
    (.set 4 (.idx (.var 3) (.bin .Sub (.blt .len (.cons (.var 3) .nil)) (.cst (.int 1))))) (.cons 
    (.set 5 (.bin .Add (.blt .list (.cons (.var 2) .nil)) (.lst (.cons (.tup (.cons (.cst (.int 0)) (.cons (.cst (.int 1)) .nil))) (.cons (.call "_law_pick" (.cons (.var 0) (.cons (.var 3) .nil))) (.cons (.call "_law_pick" (.cons (.var 0) (.cons (.var 3) .nil))) (.cons (.var 4) .nil))))))) (.cons 
    (.expr (.chg .append 5 (.cons (.call "_law_plus" (.cons (.call "_law_pick" (.cons (.var 0) (.cons (.var 3) .nil))) (.cons (.call "_law_amount" (.cons (.cst (.int 1)) (.cons (.bin .Add (.cst (.int 1)) (.call "_law_draw" (.cons (.var 0) (.cons (.cst (.int 9)) .nil)))) .nil))) .nil))) .nil))) (.cons 
    (.expr (.chg .append 5 (.cons (.call "_law_plus" (.cons (.call "_law_pick" (.cons (.var 0) (.cons (.var 3) .nil))) (.cons (.call "_law_gap" (.cons (.var 0) .nil)) .nil))) .nil))) (.cons 
    (.expr (.chg .append 5 (.cons (.call "_law_int" (.cons (.bin .Add (.bin .Pow (.cst (.int 10)) (.cst (.int 6))) (.call "_law_draw" (.cons (.var 0) (.cons (.cst (.int 1000)) .nil)))) .nil)) .nil))) (.cons 
    (.set 6 (.idx (.var 1) (.cst (.int 3)))) (.cons 
    (.ite (.cmp .NotEq (.var 6) (.cst .non)) (.cons 
    (.expr (.chg .append 5 (.cons (.var 6) .nil))) (.cons 
    (.expr (.chg .append 5 (.cons (.call "_law_plus" (.cons (.var 4) (.cons (.call "_law_times" (.cons (.call "_law_minus" (.cons (.var 6) (.cons (.var 4) .nil))) (.cons (.call "_law_amount" (.cons (.cst (.int 1)) (.cons (.bin .Add (.cst (.int 2)) (.call "_law_draw" (.cons (.var 0) (.cons (.cst (.int 4)) .nil)))) .nil))) .nil))) .nil))) .nil))) (.cons 
    (.expr (.chg .append 5 (.cons (.call "_law_plus" (.cons (.var 6) (.cons (.call "_law_amount" (.cons (.cst (.int 1)) (.cons (.bin .Add (.cst (.int 1)) (.call "_law_draw" (.cons (.var 0) (.cons (.cst (.int 50)) .nil)))) .nil))) .nil))) .nil))) .nil))) .nil) (.cons 
    (.ret (.call "_law_shuffled" (.cons (.var 0) (.cons (.var 5) .nil)))) .nil)))))))))
def d__law_growths : Dm := ⟨"_law_growths", 3, 3, 8, b__law_growths, fun _ => []⟩
def ds30 : List Dm := d__law_pick :: ds29
noncomputable def F30 (M : Nat) : Fn := mkF glo M ds30
def N__law_growths : List Str := ["d", "paper", "jumps", "lows", "last", "found", "end", "stretch"]
def P__law_growths : List Str := ["d", "paper", "jumps"]
theorem sc__law_growths : FnScope N__law_growths P__law_growths (defScope (top 45)) := ⟨by kernel_rfl, by kernel_rfl, by kernel_rfl, by decide +kernel, by kernel_rfl, by decide +kernel, by decide +kernel⟩
theorem ck__law_growths : ckSs (gnOf frees bts ds30) N__law_growths 3 (defScope (top 45)) b__law_growths (defBody (top 45)) = true := by decide +kernel
def b__law_less : Sxs := (.cons 
    (.ret (.cmp .Lt (.bin .Mult (.idx (.var 0) (.cst (.int 0))) (.idx (.var 1) (.cst (.int 1)))) (.bin .Mult (.idx (.var 1) (.cst (.int 0))) (.idx (.var 0) (.cst (.int 1)))))) .nil)
def d__law_less : Dm := ⟨"_law_less", 2, 2, 2, b__law_less, fun _ => []⟩
def ds31 : List Dm := d__law_growths :: ds30
noncomputable def F31 (M : Nat) : Fn := mkF glo M ds31
def N__law_less : List Str := ["a", "b"]
def P__law_less : List Str := ["a", "b"]
theorem sc__law_less : FnScope N__law_less P__law_less (defScope (top 31)) := ⟨by kernel_rfl, by kernel_rfl, by kernel_rfl, by decide +kernel, by kernel_rfl, by decide +kernel, by decide +kernel⟩
theorem ck__law_less : ckSs (gnOf frees bts ds31) N__law_less 2 (defScope (top 31)) b__law_less (defBody (top 31)) = true := by decide +kernel
def E__law_shift_0 : Ex := (.call "_law_plus" (.cons (.idx (.var 0) (.var 3)) (.cons (.call "_law_times" (.cons (.idx (.var 1) (.var 3)) (.cons (.var 2) .nil))) .nil)))
def C__law_shift_0 : Ex := (.comp E__law_shift_0 (.nm 3) (.rng (.blt .len (.cons (.var 0) .nil))) .none [3])
def b__law_shift : Sxs := (.cons 
    (.ret (.blt .tuple (.cons C__law_shift_0 .nil))) .nil)
def d__law_shift : Dm := ⟨"_law_shift", 3, 3, 4, b__law_shift, fun _ => []⟩
def ds32 : List Dm := d__law_less :: ds31
noncomputable def F32 (M : Nat) : Fn := mkF glo M ds32
def N__law_shift : List Str := ["x", "move", "far", "k"]
def P__law_shift : List Str := ["x", "move", "far"]
theorem sc__law_shift : FnScope N__law_shift P__law_shift (defScope (top 36)) := ⟨by kernel_rfl, by kernel_rfl, by kernel_rfl, by decide +kernel, by kernel_rfl, by decide +kernel, by decide +kernel⟩
theorem ck__law_shift : ckSs (gnOf frees bts ds32) N__law_shift 3 (defScope (top 36)) b__law_shift (defBody (top 36)) = true := by decide +kernel
def B__law_row_at_0 : Sxs := (.cons 
    (.ite (.val (.call "_law_less" (.cons (.idx (.var 3) (.cst (.int 0))) (.cons (.var 1) .nil)))) (.cons 
    (.set 2 (.call "_law_shift" (.cons (.idx (.var 3) (.cst (.int 1))) (.cons (.idx (.var 3) (.cst (.int 2))) (.cons (.call "_law_minus" (.cons (.var 1) (.cons (.idx (.var 3) (.cst (.int 0))) .nil))) .nil))))) .nil) .nil) .nil)
def S__law_row_at_0 : Sx := (.for_ (.nm 3) (.seq (.idx (.var 0) (.cst (.int 2)))) B__law_row_at_0)
def b__law_row_at : Sxs := (.cons 
    (.ite (.and_ (.cons (.cmp .NotEq (.idx (.var 0) (.cst (.int 3))) (.cst .non)) (.cons (.val (.call "_law_less" (.cons (.idx (.var 0) (.cst (.int 3))) (.cons (.var 1) .nil)))) .nil))) (.cons 
    (.ret (.cst .non)) .nil) .nil) (.cons 
    (.set 2 (.idx (.var 0) (.cst (.int 1)))) (.cons 
    S__law_row_at_0 (.cons 
    (.ret (.var 2)) .nil))))
def d__law_row_at : Dm := ⟨"_law_row_at", 2, 2, 4, b__law_row_at, fun _ => []⟩
def ds33 : List Dm := d__law_shift :: ds32
noncomputable def F33 (M : Nat) : Fn := mkF glo M ds33
def N__law_row_at : List Str := ["paper", "growth", "found", "part"]
def P__law_row_at : List Str := ["paper", "growth"]
theorem sc__law_row_at : FnScope N__law_row_at P__law_row_at (defScope (top 37)) := ⟨by kernel_rfl, by kernel_rfl, by kernel_rfl, by decide +kernel, by kernel_rfl, by decide +kernel, by decide +kernel⟩
theorem ck__law_row_at : ckSs (gnOf frees bts ds33) N__law_row_at 2 (defScope (top 37)) b__law_row_at (defBody (top 37)) = true := by decide +kernel
def b_is_less : Sxs := (.cons 
    (.ret (.cmp .Lt (.bin .Mult (.idx (.var 0) (.cst (.int 0))) (.idx (.var 1) (.cst (.int 1)))) (.bin .Mult (.idx (.var 1) (.cst (.int 0))) (.idx (.var 0) (.cst (.int 1)))))) .nil)
def d_is_less : Dm := ⟨"is_less", 2, 2, 2, b_is_less, fun _ => []⟩
def ds34 : List Dm := d__law_row_at :: ds33
noncomputable def F34 (M : Nat) : Fn := mkF glo M ds34
def N_is_less : List Str := ["a", "b"]
def P_is_less : List Str := ["a", "b"]
theorem sc_is_less : FnScope N_is_less P_is_less (defScope (top 6)) := ⟨by kernel_rfl, by kernel_rfl, by kernel_rfl, by decide +kernel, by kernel_rfl, by decide +kernel, by decide +kernel⟩
theorem ck_is_less : ckSs (gnOf frees bts ds34) N_is_less 2 (defScope (top 6)) b_is_less (defBody (top 6)) = true := by decide +kernel
def b_is_beyond : Sxs := (.cons 
    (.ret (.and_ (.cons (.cmp .IsNot (.var 0) (.cst .non)) (.cons (.call "is_less" (.cons (.var 0) (.cons (.var 1) .nil))) .nil)))) .nil)
def d_is_beyond : Dm := ⟨"is_beyond", 2, 2, 2, b_is_beyond, fun _ => []⟩
def ds35 : List Dm := d_is_less :: ds34
noncomputable def F35 (M : Nat) : Fn := mkF glo M ds35
def N_is_beyond : List Str := ["end", "growth"]
def P_is_beyond : List Str := ["end", "growth"]
theorem sc_is_beyond : FnScope N_is_beyond P_is_beyond (defScope (top 14)) := ⟨by kernel_rfl, by kernel_rfl, by kernel_rfl, by decide +kernel, by kernel_rfl, by decide +kernel, by decide +kernel⟩
theorem ck_is_beyond : ckSs (gnOf frees bts ds35) N_is_beyond 2 (defScope (top 14)) b_is_beyond (defBody (top 14)) = true := by decide +kernel
def b_sign_of : Sxs := (.cons 
    (.ite (.cmp .Lt (.idx (.var 0) (.cst (.int 0))) (.cst (.int 0))) (.cons 
    (.ret (.neg (.cst (.int 1)))) .nil) .nil) (.cons 
    (.ite (.cmp .Gt (.idx (.var 0) (.cst (.int 0))) (.cst (.int 0))) (.cons 
    (.ret (.cst (.int 1))) .nil) .nil) (.cons 
    (.ret (.cst (.int 0))) .nil)))
def d_sign_of : Dm := ⟨"sign_of", 1, 1, 1, b_sign_of, fun _ => []⟩
def ds36 : List Dm := d_is_beyond :: ds35
noncomputable def F36 (M : Nat) : Fn := mkF glo M ds36
def N_sign_of : List Str := ["a"]
def P_sign_of : List Str := ["a"]
theorem sc_sign_of : FnScope N_sign_of P_sign_of (defScope (top 7)) := ⟨by kernel_rfl, by kernel_rfl, by kernel_rfl, by decide +kernel, by kernel_rfl, by decide +kernel, by decide +kernel⟩
theorem ck_sign_of : ckSs (gnOf frees bts ds36) N_sign_of 1 (defScope (top 7)) b_sign_of (defBody (top 7)) = true := by decide +kernel
def B_stretch_for_0 : Sxs := (.cons 
    (.ite (.not_ (.val (.call "is_less" (.cons (.idx (.var 3) (.cst (.int 0))) (.cons (.var 1) .nil))))) (.cons 
    .brk .nil) .nil) (.cons 
    (.set 2 (.var 3)) .nil))
def S_stretch_for_0 : Sx := (.for_ (.nm 3) (.seq (.var 0)) B_stretch_for_0)
def b_stretch_for : Sxs := (.cons 
    (.set 2 (.idx (.var 0) (.cst (.int 0)))) (.cons 
    S_stretch_for_0 (.cons 
    (.ret (.var 2)) .nil)))
def d_stretch_for : Dm := ⟨"stretch_for", 2, 2, 4, b_stretch_for, fun _ => []⟩
def ds37 : List Dm := d_sign_of :: ds36
noncomputable def F37 (M : Nat) : Fn := mkF glo M ds37
def N_stretch_for : List Str := ["stretches", "growth", "found", "stretch"]
def P_stretch_for : List Str := ["stretches", "growth"]
theorem sc_stretch_for : FnScope N_stretch_for P_stretch_for (defScope (top 13)) := ⟨by kernel_rfl, by kernel_rfl, by kernel_rfl, by decide +kernel, by kernel_rfl, by decide +kernel, by decide +kernel⟩
theorem ck_stretch_for : ckSs (gnOf frees bts ds37) N_stretch_for 2 (defScope (top 13)) b_stretch_for (defBody (top 13)) = true := by decide +kernel
def b_row_at : Sxs := (.cons 
    (.setT [2, 3, 4, 5] (.var 0)) (.cons 
    (.ite (.val (.call "is_beyond" (.cons (.var 5) (.cons (.var 1) .nil)))) (.cons 
    (.ret (.cst .non)) .nil) .nil) (.cons 
    (.ite (.cmp .Eq (.call "sign_of" (.cons (.var 1) .nil)) (.cst (.int 0))) (.cons 
    (.ret (.var 3)) .nil) .nil) (.cons 
    (.ret (.call "row_on" (.cons (.call "stretch_for" (.cons (.var 4) (.cons (.var 1) .nil))) (.cons (.var 1) .nil)))) .nil))))
def d_row_at : Dm := ⟨"row_at", 2, 2, 6, b_row_at, fun _ => []⟩
def ds38 : List Dm := d_stretch_for :: ds37
noncomputable def F38 (M : Nat) : Fn := mkF glo M ds38
def N_row_at : List Str := ["paper", "growth", "word", "first", "stretches", "end"]
def P_row_at : List Str := ["paper", "growth"]
theorem sc_row_at : FnScope N_row_at P_row_at (defScope (top 15)) := ⟨by kernel_rfl, by kernel_rfl, by kernel_rfl, by decide +kernel, by kernel_rfl, by decide +kernel, by decide +kernel⟩
theorem ck_row_at : ckSs (gnOf frees bts ds38) N_row_at 2 (defScope (top 15)) b_row_at (defBody (top 15)) = true := by decide +kernel
def E__law_is_row_0 : Ex := (.call "_law_is_amount" (.cons (.var 2) .nil))
def C__law_is_row_0 : Ex := (.comp E__law_is_row_0 (.nm 2) (.seq (.var 0)) .none [2])
def b__law_is_row : Sxs := (.cons 
    (.ret (.and_ (.cons (.isi .tup (.var 0)) (.cons (.cmp .Eq (.blt .len (.cons (.var 0) .nil)) (.var 1)) (.cons (.blt .all (.cons C__law_is_row_0 .nil)) .nil))))) .nil)
def d__law_is_row : Dm := ⟨"_law_is_row", 2, 2, 3, b__law_is_row, fun _ => []⟩
def ds39 : List Dm := d_row_at :: ds38
noncomputable def F39 (M : Nat) : Fn := mkF glo M ds39
def N__law_is_row : List Str := ["thing", "many", "part"]
def P__law_is_row : List Str := ["thing", "many"]
theorem sc__law_is_row : FnScope N__law_is_row P__law_is_row (defScope (top 33)) := ⟨by kernel_rfl, by kernel_rfl, by kernel_rfl, by decide +kernel, by kernel_rfl, by decide +kernel, by decide +kernel⟩
theorem ck__law_is_row : ckSs (gnOf frees bts ds39) N__law_is_row 2 (defScope (top 33)) b__law_is_row (defBody (top 33)) = true := by decide +kernel
def E__law_told_right_0 : Ex := (.call "_law_is_amount" (.cons (.var 8) .nil))
def C__law_told_right_0 : Ex := (.comp E__law_told_right_0 (.nm 8) (.seq (.var 2)) .none [8])
def B__law_told_right_1 : Sxs := (.cons 
    (.set 6 (.call "_law_row_at" (.cons (.var 4) (.cons (.var 3) .nil)))) (.cons 
    (.set 7 (.call "row_at" (.cons (.var 4) (.cons (.var 3) .nil)))) (.cons 
    (.ite (.cmp .Eq (.var 6) (.cst .non)) (.cons 
    (.ite (.cmp .IsNot (.var 7) (.cst .non)) (.cons 
    (.ret (.cst (.bl false))) .nil) .nil) .nil) (.cons 
    (.ite (.or_ (.cons (.not_ (.val (.call "_law_is_row" (.cons (.var 7) (.cons (.blt .len (.cons (.var 6) .nil)) .nil))))) (.cons (.cmp .NotEq (.var 7) (.var 6)) .nil))) (.cons 
    (.ret (.cst (.bl false))) .nil) .nil) .nil)) .nil)))
def S__law_told_right_1 : Sx := (.for_ (.nm 3) (.seq (.call "_law_growths" (.cons (.var 0) (.cons (.var 4) (.cons (.var 5) .nil))))) B__law_told_right_1)
def b__law_told_right : Sxs := (.cons 
    (.setT [4, 5] (.var 1)) (.cons 
    (.set 2 (.call "jumps_of" (.cons (.var 4) .nil))) (.cons 
    (.ite (.or_ (.cons (.not_ (.val (.isi .tup (.var 2)))) (.cons (.cmp .NotEq (.var 2) (.var 5)) (.cons (.not_ (.val (.blt .all (.cons C__law_told_right_0 .nil)))) .nil)))) (.cons 
    (.ret (.cst (.bl false))) .nil) .nil) (.cons 
    S__law_told_right_1 (.cons 
    (.ret (.cst (.bl true))) .nil)))))
def d__law_told_right : Dm := ⟨"_law_told_right", 2, 2, 9, b__law_told_right, fun _ => []⟩
def ds40 : List Dm := d__law_is_row :: ds39
noncomputable def F40 (M : Nat) : Fn := mkF glo M ds40
def N__law_told_right : List Str := ["d", "made", "told", "growth", "paper", "jumps", "due", "got", "at"]
def P__law_told_right : List Str := ["d", "made"]
theorem sc__law_told_right : FnScope N__law_told_right P__law_told_right (defScope (top 46)) := ⟨by kernel_rfl, by kernel_rfl, by kernel_rfl, by decide +kernel, by kernel_rfl, by decide +kernel, by decide +kernel⟩
theorem ck__law_told_right : ckSs (gnOf frees bts ds40) N__law_told_right 2 (defScope (top 46)) b__law_told_right (defBody (top 46)) = true := by decide +kernel
def b_law : Sxs := (.cons 
    (.set 1 (.call "_law_begin" (.cons (.var 0) .nil))) (.cons 
    (.set 2 (.call "_law_made" (.cons (.var 1) .nil))) (.cons 
    (.set 3 (.call "_law_made" (.cons (.var 1) .nil))) (.cons 
    (.ite (.or_ (.cons (.not_ (.val (.call "_law_told_right" (.cons (.var 1) (.cons (.var 2) .nil))))) (.cons (.not_ (.val (.call "_law_told_right" (.cons (.var 1) (.cons (.var 3) .nil))))) .nil))) (.cons 
    (.ret (.cst (.bl false))) .nil) .nil) (.cons 
    (.ret (.call "_law_told_right" (.cons (.var 1) (.cons (.var 2) .nil)))) .nil)))))
def d_law : Dm := ⟨"law", 1, 1, 4, b_law, fun _ => []⟩
def ds41 : List Dm := d__law_told_right :: ds40
noncomputable def F41 (M : Nat) : Fn := mkF glo M ds41
def N_law : List Str := ["script", "d", "one", "two"]
def P_law : List Str := ["script"]
theorem sc_law : FnScope N_law P_law (defScope (top 47)) := ⟨by kernel_rfl, by kernel_rfl, by kernel_rfl, by decide +kernel, by kernel_rfl, by decide +kernel, by decide +kernel⟩
theorem ck_law : ckSs (gnOf frees bts ds41) N_law 1 (defScope (top 47)) b_law (defBody (top 47)) = true := by decide +kernel
def ds42 : List Dm := d_law :: ds41
noncomputable def FU (M : Nat) : Fn := mkF glo M ds42
theorem dfm0 {M : Nat} : ∀ f n, (mkF glo M ds0).dfl f n = [] := fun _ _ => rfl
theorem dfm1 {M : Nat} : ∀ f n, (mkF glo M ds1).dfl f n = [] := dfl_cons rfl dfm0
theorem dfm2 {M : Nat} : ∀ f n, (mkF glo M ds2).dfl f n = [] := dfl_cons rfl dfm1
theorem dfm3 {M : Nat} : ∀ f n, (mkF glo M ds3).dfl f n = [] := dfl_cons rfl dfm2
theorem dfm4 {M : Nat} : ∀ f n, (mkF glo M ds4).dfl f n = [] := dfl_cons rfl dfm3
theorem dfm5 {M : Nat} : ∀ f n, (mkF glo M ds5).dfl f n = [] := dfl_cons rfl dfm4
theorem dfm6 {M : Nat} : ∀ f n, (mkF glo M ds6).dfl f n = [] := dfl_cons rfl dfm5
theorem dfm7 {M : Nat} : ∀ f n, (mkF glo M ds7).dfl f n = [] := dfl_cons rfl dfm6
theorem dfm8 {M : Nat} : ∀ f n, (mkF glo M ds8).dfl f n = [] := dfl_cons rfl dfm7
theorem dfm9 {M : Nat} : ∀ f n, (mkF glo M ds9).dfl f n = [] := dfl_cons rfl dfm8
theorem dfm10 {M : Nat} : ∀ f n, (mkF glo M ds10).dfl f n = [] := dfl_cons rfl dfm9
theorem dfm11 {M : Nat} : ∀ f n, (mkF glo M ds11).dfl f n = [] := dfl_cons rfl dfm10
theorem dfm12 {M : Nat} : ∀ f n, (mkF glo M ds12).dfl f n = [] := dfl_cons rfl dfm11
theorem dfm13 {M : Nat} : ∀ f n, (mkF glo M ds13).dfl f n = [] := dfl_cons rfl dfm12
theorem dfm14 {M : Nat} : ∀ f n, (mkF glo M ds14).dfl f n = [] := dfl_cons rfl dfm13
theorem dfm15 {M : Nat} : ∀ f n, (mkF glo M ds15).dfl f n = [] := dfl_cons rfl dfm14
theorem dfm16 {M : Nat} : ∀ f n, (mkF glo M ds16).dfl f n = [] := dfl_cons rfl dfm15
theorem dfm17 {M : Nat} : ∀ f n, (mkF glo M ds17).dfl f n = [] := dfl_cons rfl dfm16
theorem dfm18 {M : Nat} : ∀ f n, (mkF glo M ds18).dfl f n = [] := dfl_cons rfl dfm17
theorem dfm19 {M : Nat} : ∀ f n, (mkF glo M ds19).dfl f n = [] := dfl_cons rfl dfm18
theorem dfm20 {M : Nat} : ∀ f n, (mkF glo M ds20).dfl f n = [] := dfl_cons rfl dfm19
theorem dfm21 {M : Nat} : ∀ f n, (mkF glo M ds21).dfl f n = [] := dfl_cons rfl dfm20
theorem dfm22 {M : Nat} : ∀ f n, (mkF glo M ds22).dfl f n = [] := dfl_cons rfl dfm21
theorem dfm23 {M : Nat} : ∀ f n, (mkF glo M ds23).dfl f n = [] := dfl_cons rfl dfm22
theorem dfm24 {M : Nat} : ∀ f n, (mkF glo M ds24).dfl f n = [] := dfl_cons rfl dfm23
theorem dfm25 {M : Nat} : ∀ f n, (mkF glo M ds25).dfl f n = [] := dfl_cons rfl dfm24
theorem dfm26 {M : Nat} : ∀ f n, (mkF glo M ds26).dfl f n = [] := dfl_cons rfl dfm25
theorem dfm27 {M : Nat} : ∀ f n, (mkF glo M ds27).dfl f n = [] := dfl_cons rfl dfm26
theorem dfm28 {M : Nat} : ∀ f n, (mkF glo M ds28).dfl f n = [] := dfl_cons rfl dfm27
theorem dfm29 {M : Nat} : ∀ f n, (mkF glo M ds29).dfl f n = [] := dfl_cons rfl dfm28
theorem dfm30 {M : Nat} : ∀ f n, (mkF glo M ds30).dfl f n = [] := dfl_cons rfl dfm29
theorem dfm31 {M : Nat} : ∀ f n, (mkF glo M ds31).dfl f n = [] := dfl_cons rfl dfm30
theorem dfm32 {M : Nat} : ∀ f n, (mkF glo M ds32).dfl f n = [] := dfl_cons rfl dfm31
theorem dfm33 {M : Nat} : ∀ f n, (mkF glo M ds33).dfl f n = [] := dfl_cons rfl dfm32
theorem dfm34 {M : Nat} : ∀ f n, (mkF glo M ds34).dfl f n = [] := dfl_cons rfl dfm33
theorem dfm35 {M : Nat} : ∀ f n, (mkF glo M ds35).dfl f n = [] := dfl_cons rfl dfm34
theorem dfm36 {M : Nat} : ∀ f n, (mkF glo M ds36).dfl f n = [] := dfl_cons rfl dfm35
theorem dfm37 {M : Nat} : ∀ f n, (mkF glo M ds37).dfl f n = [] := dfl_cons rfl dfm36
theorem dfm38 {M : Nat} : ∀ f n, (mkF glo M ds38).dfl f n = [] := dfl_cons rfl dfm37
theorem dfm39 {M : Nat} : ∀ f n, (mkF glo M ds39).dfl f n = [] := dfl_cons rfl dfm38
theorem dfm40 {M : Nat} : ∀ f n, (mkF glo M ds40).dfl f n = [] := dfl_cons rfl dfm39
theorem dfm41 {M : Nat} : ∀ f n, (mkF glo M ds41).dfl f n = [] := dfl_cons rfl dfm40
theorem dfm42 {M : Nat} : ∀ f n, (mkF glo M ds42).dfl f n = [] := dfl_cons rfl dfm41
@[simp] theorem dfl0 {M : Nat} (f n) : (F0 M).dfl f n = [] := dfm0 f n
@[simp] theorem gl0 {M : Nat} : (F0 M).glo = glo := mkF_glo
@[simp] theorem dfl1 {M : Nat} (f n) : (F1 M).dfl f n = [] := dfm1 f n
@[simp] theorem gl1 {M : Nat} : (F1 M).glo = glo := mkF_glo
@[simp] theorem dfl2 {M : Nat} (f n) : (F2 M).dfl f n = [] := dfm2 f n
@[simp] theorem gl2 {M : Nat} : (F2 M).glo = glo := mkF_glo
@[simp] theorem dfl3 {M : Nat} (f n) : (F3 M).dfl f n = [] := dfm3 f n
@[simp] theorem gl3 {M : Nat} : (F3 M).glo = glo := mkF_glo
@[simp] theorem dfl4 {M : Nat} (f n) : (F4 M).dfl f n = [] := dfm4 f n
@[simp] theorem gl4 {M : Nat} : (F4 M).glo = glo := mkF_glo
@[simp] theorem dfl5 {M : Nat} (f n) : (F5 M).dfl f n = [] := dfm5 f n
@[simp] theorem gl5 {M : Nat} : (F5 M).glo = glo := mkF_glo
@[simp] theorem dfl6 {M : Nat} (f n) : (F6 M).dfl f n = [] := dfm6 f n
@[simp] theorem gl6 {M : Nat} : (F6 M).glo = glo := mkF_glo
@[simp] theorem dfl7 {M : Nat} (f n) : (F7 M).dfl f n = [] := dfm7 f n
@[simp] theorem gl7 {M : Nat} : (F7 M).glo = glo := mkF_glo
@[simp] theorem dfl8 {M : Nat} (f n) : (F8 M).dfl f n = [] := dfm8 f n
@[simp] theorem gl8 {M : Nat} : (F8 M).glo = glo := mkF_glo
@[simp] theorem dfl9 {M : Nat} (f n) : (F9 M).dfl f n = [] := dfm9 f n
@[simp] theorem gl9 {M : Nat} : (F9 M).glo = glo := mkF_glo
@[simp] theorem dfl10 {M : Nat} (f n) : (F10 M).dfl f n = [] := dfm10 f n
@[simp] theorem gl10 {M : Nat} : (F10 M).glo = glo := mkF_glo
@[simp] theorem dfl11 {M : Nat} (f n) : (F11 M).dfl f n = [] := dfm11 f n
@[simp] theorem gl11 {M : Nat} : (F11 M).glo = glo := mkF_glo
@[simp] theorem dfl12 {M : Nat} (f n) : (F12 M).dfl f n = [] := dfm12 f n
@[simp] theorem gl12 {M : Nat} : (F12 M).glo = glo := mkF_glo
@[simp] theorem dfl13 {M : Nat} (f n) : (F13 M).dfl f n = [] := dfm13 f n
@[simp] theorem gl13 {M : Nat} : (F13 M).glo = glo := mkF_glo
@[simp] theorem dfl14 {M : Nat} (f n) : (F14 M).dfl f n = [] := dfm14 f n
@[simp] theorem gl14 {M : Nat} : (F14 M).glo = glo := mkF_glo
@[simp] theorem dfl15 {M : Nat} (f n) : (F15 M).dfl f n = [] := dfm15 f n
@[simp] theorem gl15 {M : Nat} : (F15 M).glo = glo := mkF_glo
@[simp] theorem dfl16 {M : Nat} (f n) : (F16 M).dfl f n = [] := dfm16 f n
@[simp] theorem gl16 {M : Nat} : (F16 M).glo = glo := mkF_glo
@[simp] theorem dfl17 {M : Nat} (f n) : (F17 M).dfl f n = [] := dfm17 f n
@[simp] theorem gl17 {M : Nat} : (F17 M).glo = glo := mkF_glo
@[simp] theorem dfl18 {M : Nat} (f n) : (F18 M).dfl f n = [] := dfm18 f n
@[simp] theorem gl18 {M : Nat} : (F18 M).glo = glo := mkF_glo
@[simp] theorem dfl19 {M : Nat} (f n) : (F19 M).dfl f n = [] := dfm19 f n
@[simp] theorem gl19 {M : Nat} : (F19 M).glo = glo := mkF_glo
@[simp] theorem dfl20 {M : Nat} (f n) : (F20 M).dfl f n = [] := dfm20 f n
@[simp] theorem gl20 {M : Nat} : (F20 M).glo = glo := mkF_glo
@[simp] theorem dfl21 {M : Nat} (f n) : (F21 M).dfl f n = [] := dfm21 f n
@[simp] theorem gl21 {M : Nat} : (F21 M).glo = glo := mkF_glo
@[simp] theorem dfl22 {M : Nat} (f n) : (F22 M).dfl f n = [] := dfm22 f n
@[simp] theorem gl22 {M : Nat} : (F22 M).glo = glo := mkF_glo
@[simp] theorem dfl23 {M : Nat} (f n) : (F23 M).dfl f n = [] := dfm23 f n
@[simp] theorem gl23 {M : Nat} : (F23 M).glo = glo := mkF_glo
@[simp] theorem dfl24 {M : Nat} (f n) : (F24 M).dfl f n = [] := dfm24 f n
@[simp] theorem gl24 {M : Nat} : (F24 M).glo = glo := mkF_glo
@[simp] theorem dfl25 {M : Nat} (f n) : (F25 M).dfl f n = [] := dfm25 f n
@[simp] theorem gl25 {M : Nat} : (F25 M).glo = glo := mkF_glo
@[simp] theorem dfl26 {M : Nat} (f n) : (F26 M).dfl f n = [] := dfm26 f n
@[simp] theorem gl26 {M : Nat} : (F26 M).glo = glo := mkF_glo
@[simp] theorem dfl27 {M : Nat} (f n) : (F27 M).dfl f n = [] := dfm27 f n
@[simp] theorem gl27 {M : Nat} : (F27 M).glo = glo := mkF_glo
@[simp] theorem dfl28 {M : Nat} (f n) : (F28 M).dfl f n = [] := dfm28 f n
@[simp] theorem gl28 {M : Nat} : (F28 M).glo = glo := mkF_glo
@[simp] theorem dfl29 {M : Nat} (f n) : (F29 M).dfl f n = [] := dfm29 f n
@[simp] theorem gl29 {M : Nat} : (F29 M).glo = glo := mkF_glo
@[simp] theorem dfl30 {M : Nat} (f n) : (F30 M).dfl f n = [] := dfm30 f n
@[simp] theorem gl30 {M : Nat} : (F30 M).glo = glo := mkF_glo
@[simp] theorem dfl31 {M : Nat} (f n) : (F31 M).dfl f n = [] := dfm31 f n
@[simp] theorem gl31 {M : Nat} : (F31 M).glo = glo := mkF_glo
@[simp] theorem dfl32 {M : Nat} (f n) : (F32 M).dfl f n = [] := dfm32 f n
@[simp] theorem gl32 {M : Nat} : (F32 M).glo = glo := mkF_glo
@[simp] theorem dfl33 {M : Nat} (f n) : (F33 M).dfl f n = [] := dfm33 f n
@[simp] theorem gl33 {M : Nat} : (F33 M).glo = glo := mkF_glo
@[simp] theorem dfl34 {M : Nat} (f n) : (F34 M).dfl f n = [] := dfm34 f n
@[simp] theorem gl34 {M : Nat} : (F34 M).glo = glo := mkF_glo
@[simp] theorem dfl35 {M : Nat} (f n) : (F35 M).dfl f n = [] := dfm35 f n
@[simp] theorem gl35 {M : Nat} : (F35 M).glo = glo := mkF_glo
@[simp] theorem dfl36 {M : Nat} (f n) : (F36 M).dfl f n = [] := dfm36 f n
@[simp] theorem gl36 {M : Nat} : (F36 M).glo = glo := mkF_glo
@[simp] theorem dfl37 {M : Nat} (f n) : (F37 M).dfl f n = [] := dfm37 f n
@[simp] theorem gl37 {M : Nat} : (F37 M).glo = glo := mkF_glo
@[simp] theorem dfl38 {M : Nat} (f n) : (F38 M).dfl f n = [] := dfm38 f n
@[simp] theorem gl38 {M : Nat} : (F38 M).glo = glo := mkF_glo
@[simp] theorem dfl39 {M : Nat} (f n) : (F39 M).dfl f n = [] := dfm39 f n
@[simp] theorem gl39 {M : Nat} : (F39 M).glo = glo := mkF_glo
@[simp] theorem dfl40 {M : Nat} (f n) : (F40 M).dfl f n = [] := dfm40 f n
@[simp] theorem gl40 {M : Nat} : (F40 M).glo = glo := mkF_glo
@[simp] theorem dfl41 {M : Nat} (f n) : (F41 M).dfl f n = [] := dfm41 f n
@[simp] theorem gl41 {M : Nat} : (F41 M).glo = glo := mkF_glo
theorem up__law_begin {M : Nat} : (FU M).call "_law_begin" = (mkF glo M ds1).call "_law_begin" := lift (ds := ds1) [d_law, d__law_told_right, d__law_is_row, d_row_at, d_stretch_for, d_sign_of, d_is_beyond, d_is_less, d__law_row_at, d__law_shift, d__law_less, d__law_growths, d__law_pick, d__law_is_amount, d__law_is_int, d_jumps_of, d_rows_ahead, d_row_on, d_minus, d_moved_along, d_times, d_plus, d_reduced, d__law_made, d__law_shuffled, d__law_ending, d__law_tracks, d__law_jumping, d__law_claim, d__law_rising, d__law_minus, d__law_times, d__law_int, d__law_slopes_by_stretch, d__law_lows, d__law_gap, d__law_plus, d__law_amount, d__law_gcd, d__law_rare, d__law_draw] (by decide +kernel)
theorem run__law_begin {M : Nat} {as : List A} (h : as.length = 1) : (FU M).call "_law_begin" as = runDef (F0 M) M 2 b__law_begin as := (congrFun up__law_begin as).trans ((mkF_self as).trans (if_pos h))
theorem up__law_draw {M : Nat} : (FU M).call "_law_draw" = (mkF glo M ds2).call "_law_draw" := lift (ds := ds2) [d_law, d__law_told_right, d__law_is_row, d_row_at, d_stretch_for, d_sign_of, d_is_beyond, d_is_less, d__law_row_at, d__law_shift, d__law_less, d__law_growths, d__law_pick, d__law_is_amount, d__law_is_int, d_jumps_of, d_rows_ahead, d_row_on, d_minus, d_moved_along, d_times, d_plus, d_reduced, d__law_made, d__law_shuffled, d__law_ending, d__law_tracks, d__law_jumping, d__law_claim, d__law_rising, d__law_minus, d__law_times, d__law_int, d__law_slopes_by_stretch, d__law_lows, d__law_gap, d__law_plus, d__law_amount, d__law_gcd, d__law_rare] (by decide +kernel)
theorem run__law_draw {M : Nat} {as : List A} (h : as.length = 2) : (FU M).call "_law_draw" as = runDef (F1 M) M 5 b__law_draw as := (congrFun up__law_draw as).trans ((mkF_self as).trans (if_pos h))
theorem up__law_rare {M : Nat} : (FU M).call "_law_rare" = (mkF glo M ds3).call "_law_rare" := lift (ds := ds3) [d_law, d__law_told_right, d__law_is_row, d_row_at, d_stretch_for, d_sign_of, d_is_beyond, d_is_less, d__law_row_at, d__law_shift, d__law_less, d__law_growths, d__law_pick, d__law_is_amount, d__law_is_int, d_jumps_of, d_rows_ahead, d_row_on, d_minus, d_moved_along, d_times, d_plus, d_reduced, d__law_made, d__law_shuffled, d__law_ending, d__law_tracks, d__law_jumping, d__law_claim, d__law_rising, d__law_minus, d__law_times, d__law_int, d__law_slopes_by_stretch, d__law_lows, d__law_gap, d__law_plus, d__law_amount, d__law_gcd] (by decide +kernel)
theorem run__law_rare {M : Nat} {as : List A} (h : as.length = 2) : (FU M).call "_law_rare" as = runDef (F2 M) M 2 b__law_rare as := (congrFun up__law_rare as).trans ((mkF_self as).trans (if_pos h))
theorem up__law_gcd {M : Nat} : (FU M).call "_law_gcd" = (mkF glo M ds4).call "_law_gcd" := lift (ds := ds4) [d_law, d__law_told_right, d__law_is_row, d_row_at, d_stretch_for, d_sign_of, d_is_beyond, d_is_less, d__law_row_at, d__law_shift, d__law_less, d__law_growths, d__law_pick, d__law_is_amount, d__law_is_int, d_jumps_of, d_rows_ahead, d_row_on, d_minus, d_moved_along, d_times, d_plus, d_reduced, d__law_made, d__law_shuffled, d__law_ending, d__law_tracks, d__law_jumping, d__law_claim, d__law_rising, d__law_minus, d__law_times, d__law_int, d__law_slopes_by_stretch, d__law_lows, d__law_gap, d__law_plus, d__law_amount] (by decide +kernel)
theorem run__law_gcd {M : Nat} {as : List A} (h : as.length = 2) : (FU M).call "_law_gcd" as = runDef (F3 M) M 4 b__law_gcd as := (congrFun up__law_gcd as).trans ((mkF_self as).trans (if_pos h))
theorem up__law_amount {M : Nat} : (FU M).call "_law_amount" = (mkF glo M ds5).call "_law_amount" := lift (ds := ds5) [d_law, d__law_told_right, d__law_is_row, d_row_at, d_stretch_for, d_sign_of, d_is_beyond, d_is_less, d__law_row_at, d__law_shift, d__law_less, d__law_growths, d__law_pick, d__law_is_amount, d__law_is_int, d_jumps_of, d_rows_ahead, d_row_on, d_minus, d_moved_along, d_times, d_plus, d_reduced, d__law_made, d__law_shuffled, d__law_ending, d__law_tracks, d__law_jumping, d__law_claim, d__law_rising, d__law_minus, d__law_times, d__law_int, d__law_slopes_by_stretch, d__law_lows, d__law_gap, d__law_plus] (by decide +kernel)
theorem run__law_amount {M : Nat} {as : List A} (h : as.length = 2) : (FU M).call "_law_amount" as = runDef (F4 M) M 3 b__law_amount as := (congrFun up__law_amount as).trans ((mkF_self as).trans (if_pos h))
theorem up__law_plus {M : Nat} : (FU M).call "_law_plus" = (mkF glo M ds6).call "_law_plus" := lift (ds := ds6) [d_law, d__law_told_right, d__law_is_row, d_row_at, d_stretch_for, d_sign_of, d_is_beyond, d_is_less, d__law_row_at, d__law_shift, d__law_less, d__law_growths, d__law_pick, d__law_is_amount, d__law_is_int, d_jumps_of, d_rows_ahead, d_row_on, d_minus, d_moved_along, d_times, d_plus, d_reduced, d__law_made, d__law_shuffled, d__law_ending, d__law_tracks, d__law_jumping, d__law_claim, d__law_rising, d__law_minus, d__law_times, d__law_int, d__law_slopes_by_stretch, d__law_lows, d__law_gap] (by decide +kernel)
theorem run__law_plus {M : Nat} {as : List A} (h : as.length = 2) : (FU M).call "_law_plus" as = runDef (F5 M) M 2 b__law_plus as := (congrFun up__law_plus as).trans ((mkF_self as).trans (if_pos h))
theorem up__law_gap {M : Nat} : (FU M).call "_law_gap" = (mkF glo M ds7).call "_law_gap" := lift (ds := ds7) [d_law, d__law_told_right, d__law_is_row, d_row_at, d_stretch_for, d_sign_of, d_is_beyond, d_is_less, d__law_row_at, d__law_shift, d__law_less, d__law_growths, d__law_pick, d__law_is_amount, d__law_is_int, d_jumps_of, d_rows_ahead, d_row_on, d_minus, d_moved_along, d_times, d_plus, d_reduced, d__law_made, d__law_shuffled, d__law_ending, d__law_tracks, d__law_jumping, d__law_claim, d__law_rising, d__law_minus, d__law_times, d__law_int, d__law_slopes_by_stretch, d__law_lows] (by decide +kernel)
theorem run__law_gap {M : Nat} {as : List A} (h : as.length = 1) : (FU M).call "_law_gap" as = runDef (F6 M) M 2 b__law_gap as := (congrFun up__law_gap as).trans ((mkF_self as).trans (if_pos h))
theorem up__law_lows {M : Nat} : (FU M).call "_law_lows" = (mkF glo M ds8).call "_law_lows" := lift (ds := ds8) [d_law, d__law_told_right, d__law_is_row, d_row_at, d_stretch_for, d_sign_of, d_is_beyond, d_is_less, d__law_row_at, d__law_shift, d__law_less, d__law_growths, d__law_pick, d__law_is_amount, d__law_is_int, d_jumps_of, d_rows_ahead, d_row_on, d_minus, d_moved_along, d_times, d_plus, d_reduced, d__law_made, d__law_shuffled, d__law_ending, d__law_tracks, d__law_jumping, d__law_claim, d__law_rising, d__law_minus, d__law_times, d__law_int, d__law_slopes_by_stretch] (by decide +kernel)
theorem run__law_lows {M : Nat} {as : List A} (h : as.length = 2) : (FU M).call "_law_lows" as = runDef (F7 M) M 5 b__law_lows as := (congrFun up__law_lows as).trans ((mkF_self as).trans (if_pos h))
theorem up__law_slopes_by_stretch {M : Nat} : (FU M).call "_law_slopes_by_stretch" = (mkF glo M ds9).call "_law_slopes_by_stretch" := lift (ds := ds9) [d_law, d__law_told_right, d__law_is_row, d_row_at, d_stretch_for, d_sign_of, d_is_beyond, d_is_less, d__law_row_at, d__law_shift, d__law_less, d__law_growths, d__law_pick, d__law_is_amount, d__law_is_int, d_jumps_of, d_rows_ahead, d_row_on, d_minus, d_moved_along, d_times, d_plus, d_reduced, d__law_made, d__law_shuffled, d__law_ending, d__law_tracks, d__law_jumping, d__law_claim, d__law_rising, d__law_minus, d__law_times, d__law_int] (by decide +kernel)
theorem run__law_slopes_by_stretch {M : Nat} {as : List A} (h : as.length = 4) : (FU M).call "_law_slopes_by_stretch" as = runDef (F8 M) M 10 b__law_slopes_by_stretch as := (congrFun up__law_slopes_by_stretch as).trans ((mkF_self as).trans (if_pos h))
theorem up__law_int {M : Nat} : (FU M).call "_law_int" = (mkF glo M ds10).call "_law_int" := lift (ds := ds10) [d_law, d__law_told_right, d__law_is_row, d_row_at, d_stretch_for, d_sign_of, d_is_beyond, d_is_less, d__law_row_at, d__law_shift, d__law_less, d__law_growths, d__law_pick, d__law_is_amount, d__law_is_int, d_jumps_of, d_rows_ahead, d_row_on, d_minus, d_moved_along, d_times, d_plus, d_reduced, d__law_made, d__law_shuffled, d__law_ending, d__law_tracks, d__law_jumping, d__law_claim, d__law_rising, d__law_minus, d__law_times] (by decide +kernel)
theorem run__law_int {M : Nat} {as : List A} (h : as.length = 1) : (FU M).call "_law_int" as = runDef (F9 M) M 1 b__law_int as := (congrFun up__law_int as).trans ((mkF_self as).trans (if_pos h))
theorem up__law_times {M : Nat} : (FU M).call "_law_times" = (mkF glo M ds11).call "_law_times" := lift (ds := ds11) [d_law, d__law_told_right, d__law_is_row, d_row_at, d_stretch_for, d_sign_of, d_is_beyond, d_is_less, d__law_row_at, d__law_shift, d__law_less, d__law_growths, d__law_pick, d__law_is_amount, d__law_is_int, d_jumps_of, d_rows_ahead, d_row_on, d_minus, d_moved_along, d_times, d_plus, d_reduced, d__law_made, d__law_shuffled, d__law_ending, d__law_tracks, d__law_jumping, d__law_claim, d__law_rising, d__law_minus] (by decide +kernel)
theorem run__law_times {M : Nat} {as : List A} (h : as.length = 2) : (FU M).call "_law_times" as = runDef (F10 M) M 2 b__law_times as := (congrFun up__law_times as).trans ((mkF_self as).trans (if_pos h))
theorem up__law_minus {M : Nat} : (FU M).call "_law_minus" = (mkF glo M ds12).call "_law_minus" := lift (ds := ds12) [d_law, d__law_told_right, d__law_is_row, d_row_at, d_stretch_for, d_sign_of, d_is_beyond, d_is_less, d__law_row_at, d__law_shift, d__law_less, d__law_growths, d__law_pick, d__law_is_amount, d__law_is_int, d_jumps_of, d_rows_ahead, d_row_on, d_minus, d_moved_along, d_times, d_plus, d_reduced, d__law_made, d__law_shuffled, d__law_ending, d__law_tracks, d__law_jumping, d__law_claim, d__law_rising] (by decide +kernel)
theorem run__law_minus {M : Nat} {as : List A} (h : as.length = 2) : (FU M).call "_law_minus" as = runDef (F11 M) M 2 b__law_minus as := (congrFun up__law_minus as).trans ((mkF_self as).trans (if_pos h))
theorem up__law_rising {M : Nat} : (FU M).call "_law_rising" = (mkF glo M ds13).call "_law_rising" := lift (ds := ds13) [d_law, d__law_told_right, d__law_is_row, d_row_at, d_stretch_for, d_sign_of, d_is_beyond, d_is_less, d__law_row_at, d__law_shift, d__law_less, d__law_growths, d__law_pick, d__law_is_amount, d__law_is_int, d_jumps_of, d_rows_ahead, d_row_on, d_minus, d_moved_along, d_times, d_plus, d_reduced, d__law_made, d__law_shuffled, d__law_ending, d__law_tracks, d__law_jumping, d__law_claim] (by decide +kernel)
theorem run__law_rising {M : Nat} {as : List A} (h : as.length = 3) : (FU M).call "_law_rising" as = runDef (F12 M) M 6 b__law_rising as := (congrFun up__law_rising as).trans ((mkF_self as).trans (if_pos h))
theorem up__law_claim {M : Nat} : (FU M).call "_law_claim" = (mkF glo M ds14).call "_law_claim" := lift (ds := ds14) [d_law, d__law_told_right, d__law_is_row, d_row_at, d_stretch_for, d_sign_of, d_is_beyond, d_is_less, d__law_row_at, d__law_shift, d__law_less, d__law_growths, d__law_pick, d__law_is_amount, d__law_is_int, d_jumps_of, d_rows_ahead, d_row_on, d_minus, d_moved_along, d_times, d_plus, d_reduced, d__law_made, d__law_shuffled, d__law_ending, d__law_tracks, d__law_jumping] (by decide +kernel)
theorem run__law_claim {M : Nat} {as : List A} (h : as.length = 1) : (FU M).call "_law_claim" as = runDef (F13 M) M 2 b__law_claim as := (congrFun up__law_claim as).trans ((mkF_self as).trans (if_pos h))
theorem up__law_jumping {M : Nat} : (FU M).call "_law_jumping" = (mkF glo M ds15).call "_law_jumping" := lift (ds := ds15) [d_law, d__law_told_right, d__law_is_row, d_row_at, d_stretch_for, d_sign_of, d_is_beyond, d_is_less, d__law_row_at, d__law_shift, d__law_less, d__law_growths, d__law_pick, d__law_is_amount, d__law_is_int, d_jumps_of, d_rows_ahead, d_row_on, d_minus, d_moved_along, d_times, d_plus, d_reduced, d__law_made, d__law_shuffled, d__law_ending, d__law_tracks] (by decide +kernel)
theorem run__law_jumping {M : Nat} {as : List A} (h : as.length = 5) : (FU M).call "_law_jumping" as = runDef (F14 M) M 10 b__law_jumping as := (congrFun up__law_jumping as).trans ((mkF_self as).trans (if_pos h))
theorem up__law_tracks {M : Nat} : (FU M).call "_law_tracks" = (mkF glo M ds16).call "_law_tracks" := lift (ds := ds16) [d_law, d__law_told_right, d__law_is_row, d_row_at, d_stretch_for, d_sign_of, d_is_beyond, d_is_less, d__law_row_at, d__law_shift, d__law_less, d__law_growths, d__law_pick, d__law_is_amount, d__law_is_int, d_jumps_of, d_rows_ahead, d_row_on, d_minus, d_moved_along, d_times, d_plus, d_reduced, d__law_made, d__law_shuffled, d__law_ending] (by decide +kernel)
theorem run__law_tracks {M : Nat} {as : List A} (h : as.length = 4) : (FU M).call "_law_tracks" as = runDef (F15 M) M 15 b__law_tracks as := (congrFun up__law_tracks as).trans ((mkF_self as).trans (if_pos h))
theorem up__law_ending {M : Nat} : (FU M).call "_law_ending" = (mkF glo M ds17).call "_law_ending" := lift (ds := ds17) [d_law, d__law_told_right, d__law_is_row, d_row_at, d_stretch_for, d_sign_of, d_is_beyond, d_is_less, d__law_row_at, d__law_shift, d__law_less, d__law_growths, d__law_pick, d__law_is_amount, d__law_is_int, d_jumps_of, d_rows_ahead, d_row_on, d_minus, d_moved_along, d_times, d_plus, d_reduced, d__law_made, d__law_shuffled] (by decide +kernel)
theorem run__law_ending {M : Nat} {as : List A} (h : as.length = 4) : (FU M).call "_law_ending" as = runDef (F16 M) M 6 b__law_ending as := (congrFun up__law_ending as).trans ((mkF_self as).trans (if_pos h))
theorem up__law_shuffled {M : Nat} : (FU M).call "_law_shuffled" = (mkF glo M ds18).call "_law_shuffled" := lift (ds := ds18) [d_law, d__law_told_right, d__law_is_row, d_row_at, d_stretch_for, d_sign_of, d_is_beyond, d_is_less, d__law_row_at, d__law_shift, d__law_less, d__law_growths, d__law_pick, d__law_is_amount, d__law_is_int, d_jumps_of, d_rows_ahead, d_row_on, d_minus, d_moved_along, d_times, d_plus, d_reduced, d__law_made] (by decide +kernel)
theorem run__law_shuffled {M : Nat} {as : List A} (h : as.length = 2) : (FU M).call "_law_shuffled" as = runDef (F17 M) M 5 b__law_shuffled as := (congrFun up__law_shuffled as).trans ((mkF_self as).trans (if_pos h))
theorem up__law_made {M : Nat} : (FU M).call "_law_made" = (mkF glo M ds19).call "_law_made" := lift (ds := ds19) [d_law, d__law_told_right, d__law_is_row, d_row_at, d_stretch_for, d_sign_of, d_is_beyond, d_is_less, d__law_row_at, d__law_shift, d__law_less, d__law_growths, d__law_pick, d__law_is_amount, d__law_is_int, d_jumps_of, d_rows_ahead, d_row_on, d_minus, d_moved_along, d_times, d_plus, d_reduced] (by decide +kernel)
theorem run__law_made {M : Nat} {as : List A} (h : as.length = 1) : (FU M).call "_law_made" as = runDef (F18 M) M 16 b__law_made as := (congrFun up__law_made as).trans ((mkF_self as).trans (if_pos h))
theorem up_reduced {M : Nat} : (FU M).call "reduced" = (mkF glo M ds20).call "reduced" := lift (ds := ds20) [d_law, d__law_told_right, d__law_is_row, d_row_at, d_stretch_for, d_sign_of, d_is_beyond, d_is_less, d__law_row_at, d__law_shift, d__law_less, d__law_growths, d__law_pick, d__law_is_amount, d__law_is_int, d_jumps_of, d_rows_ahead, d_row_on, d_minus, d_moved_along, d_times, d_plus] (by decide +kernel)
theorem run_reduced {M : Nat} {as : List A} (h : as.length = 2) : (FU M).call "reduced" as = runDef (F19 M) M 3 b_reduced as := (congrFun up_reduced as).trans ((mkF_self as).trans (if_pos h))
theorem up_plus {M : Nat} : (FU M).call "plus" = (mkF glo M ds21).call "plus" := lift (ds := ds21) [d_law, d__law_told_right, d__law_is_row, d_row_at, d_stretch_for, d_sign_of, d_is_beyond, d_is_less, d__law_row_at, d__law_shift, d__law_less, d__law_growths, d__law_pick, d__law_is_amount, d__law_is_int, d_jumps_of, d_rows_ahead, d_row_on, d_minus, d_moved_along, d_times] (by decide +kernel)
theorem run_plus {M : Nat} {as : List A} (h : as.length = 2) : (FU M).call "plus" as = runDef (F20 M) M 2 b_plus as := (congrFun up_plus as).trans ((mkF_self as).trans (if_pos h))
theorem up_times {M : Nat} : (FU M).call "times" = (mkF glo M ds22).call "times" := lift (ds := ds22) [d_law, d__law_told_right, d__law_is_row, d_row_at, d_stretch_for, d_sign_of, d_is_beyond, d_is_less, d__law_row_at, d__law_shift, d__law_less, d__law_growths, d__law_pick, d__law_is_amount, d__law_is_int, d_jumps_of, d_rows_ahead, d_row_on, d_minus, d_moved_along] (by decide +kernel)
theorem run_times {M : Nat} {as : List A} (h : as.length = 2) : (FU M).call "times" as = runDef (F21 M) M 2 b_times as := (congrFun up_times as).trans ((mkF_self as).trans (if_pos h))
theorem up_moved_along {M : Nat} : (FU M).call "moved_along" = (mkF glo M ds23).call "moved_along" := lift (ds := ds23) [d_law, d__law_told_right, d__law_is_row, d_row_at, d_stretch_for, d_sign_of, d_is_beyond, d_is_less, d__law_row_at, d__law_shift, d__law_less, d__law_growths, d__law_pick, d__law_is_amount, d__law_is_int, d_jumps_of, d_rows_ahead, d_row_on, d_minus] (by decide +kernel)
theorem run_moved_along {M : Nat} {as : List A} (h : as.length = 3) : (FU M).call "moved_along" as = runDef (F22 M) M 5 b_moved_along as := (congrFun up_moved_along as).trans ((mkF_self as).trans (if_pos h))
theorem up_minus {M : Nat} : (FU M).call "minus" = (mkF glo M ds24).call "minus" := lift (ds := ds24) [d_law, d__law_told_right, d__law_is_row, d_row_at, d_stretch_for, d_sign_of, d_is_beyond, d_is_less, d__law_row_at, d__law_shift, d__law_less, d__law_growths, d__law_pick, d__law_is_amount, d__law_is_int, d_jumps_of, d_rows_ahead, d_row_on] (by decide +kernel)
theorem run_minus {M : Nat} {as : List A} (h : as.length = 2) : (FU M).call "minus" as = runDef (F23 M) M 2 b_minus as := (congrFun up_minus as).trans ((mkF_self as).trans (if_pos h))
theorem up_row_on {M : Nat} : (FU M).call "row_on" = (mkF glo M ds25).call "row_on" := lift (ds := ds25) [d_law, d__law_told_right, d__law_is_row, d_row_at, d_stretch_for, d_sign_of, d_is_beyond, d_is_less, d__law_row_at, d__law_shift, d__law_less, d__law_growths, d__law_pick, d__law_is_amount, d__law_is_int, d_jumps_of, d_rows_ahead] (by decide +kernel)
theorem run_row_on {M : Nat} {as : List A} (h : as.length = 2) : (FU M).call "row_on" as = runDef (F24 M) M 5 b_row_on as := (congrFun up_row_on as).trans ((mkF_self as).trans (if_pos h))
theorem up_rows_ahead {M : Nat} : (FU M).call "rows_ahead" = (mkF glo M ds26).call "rows_ahead" := lift (ds := ds26) [d_law, d__law_told_right, d__law_is_row, d_row_at, d_stretch_for, d_sign_of, d_is_beyond, d_is_less, d__law_row_at, d__law_shift, d__law_less, d__law_growths, d__law_pick, d__law_is_amount, d__law_is_int, d_jumps_of] (by decide +kernel)
theorem run_rows_ahead {M : Nat} {as : List A} (h : as.length = 1) : (FU M).call "rows_ahead" as = runDef (F25 M) M 9 b_rows_ahead as := (congrFun up_rows_ahead as).trans ((mkF_self as).trans (if_pos h))
theorem up_jumps_of {M : Nat} : (FU M).call "jumps_of" = (mkF glo M ds27).call "jumps_of" := lift (ds := ds27) [d_law, d__law_told_right, d__law_is_row, d_row_at, d_stretch_for, d_sign_of, d_is_beyond, d_is_less, d__law_row_at, d__law_shift, d__law_less, d__law_growths, d__law_pick, d__law_is_amount, d__law_is_int] (by decide +kernel)
theorem run_jumps_of {M : Nat} {as : List A} (h : as.length = 1) : (FU M).call "jumps_of" as = runDef (F26 M) M 4 b_jumps_of as := (congrFun up_jumps_of as).trans ((mkF_self as).trans (if_pos h))
theorem up__law_is_int {M : Nat} : (FU M).call "_law_is_int" = (mkF glo M ds28).call "_law_is_int" := lift (ds := ds28) [d_law, d__law_told_right, d__law_is_row, d_row_at, d_stretch_for, d_sign_of, d_is_beyond, d_is_less, d__law_row_at, d__law_shift, d__law_less, d__law_growths, d__law_pick, d__law_is_amount] (by decide +kernel)
theorem run__law_is_int {M : Nat} {as : List A} (h : as.length = 1) : (FU M).call "_law_is_int" as = runDef (F27 M) M 1 b__law_is_int as := (congrFun up__law_is_int as).trans ((mkF_self as).trans (if_pos h))
theorem up__law_is_amount {M : Nat} : (FU M).call "_law_is_amount" = (mkF glo M ds29).call "_law_is_amount" := lift (ds := ds29) [d_law, d__law_told_right, d__law_is_row, d_row_at, d_stretch_for, d_sign_of, d_is_beyond, d_is_less, d__law_row_at, d__law_shift, d__law_less, d__law_growths, d__law_pick] (by decide +kernel)
theorem run__law_is_amount {M : Nat} {as : List A} (h : as.length = 1) : (FU M).call "_law_is_amount" as = runDef (F28 M) M 2 b__law_is_amount as := (congrFun up__law_is_amount as).trans ((mkF_self as).trans (if_pos h))
theorem up__law_pick {M : Nat} : (FU M).call "_law_pick" = (mkF glo M ds30).call "_law_pick" := lift (ds := ds30) [d_law, d__law_told_right, d__law_is_row, d_row_at, d_stretch_for, d_sign_of, d_is_beyond, d_is_less, d__law_row_at, d__law_shift, d__law_less, d__law_growths] (by decide +kernel)
theorem run__law_pick {M : Nat} {as : List A} (h : as.length = 2) : (FU M).call "_law_pick" as = runDef (F29 M) M 2 b__law_pick as := (congrFun up__law_pick as).trans ((mkF_self as).trans (if_pos h))
theorem up__law_growths {M : Nat} : (FU M).call "_law_growths" = (mkF glo M ds31).call "_law_growths" := lift (ds := ds31) [d_law, d__law_told_right, d__law_is_row, d_row_at, d_stretch_for, d_sign_of, d_is_beyond, d_is_less, d__law_row_at, d__law_shift, d__law_less] (by decide +kernel)
theorem run__law_growths {M : Nat} {as : List A} (h : as.length = 3) : (FU M).call "_law_growths" as = runDef (F30 M) M 8 b__law_growths as := (congrFun up__law_growths as).trans ((mkF_self as).trans (if_pos h))
theorem up__law_less {M : Nat} : (FU M).call "_law_less" = (mkF glo M ds32).call "_law_less" := lift (ds := ds32) [d_law, d__law_told_right, d__law_is_row, d_row_at, d_stretch_for, d_sign_of, d_is_beyond, d_is_less, d__law_row_at, d__law_shift] (by decide +kernel)
theorem run__law_less {M : Nat} {as : List A} (h : as.length = 2) : (FU M).call "_law_less" as = runDef (F31 M) M 2 b__law_less as := (congrFun up__law_less as).trans ((mkF_self as).trans (if_pos h))
theorem up__law_shift {M : Nat} : (FU M).call "_law_shift" = (mkF glo M ds33).call "_law_shift" := lift (ds := ds33) [d_law, d__law_told_right, d__law_is_row, d_row_at, d_stretch_for, d_sign_of, d_is_beyond, d_is_less, d__law_row_at] (by decide +kernel)
theorem run__law_shift {M : Nat} {as : List A} (h : as.length = 3) : (FU M).call "_law_shift" as = runDef (F32 M) M 4 b__law_shift as := (congrFun up__law_shift as).trans ((mkF_self as).trans (if_pos h))
theorem up__law_row_at {M : Nat} : (FU M).call "_law_row_at" = (mkF glo M ds34).call "_law_row_at" := lift (ds := ds34) [d_law, d__law_told_right, d__law_is_row, d_row_at, d_stretch_for, d_sign_of, d_is_beyond, d_is_less] (by decide +kernel)
theorem run__law_row_at {M : Nat} {as : List A} (h : as.length = 2) : (FU M).call "_law_row_at" as = runDef (F33 M) M 4 b__law_row_at as := (congrFun up__law_row_at as).trans ((mkF_self as).trans (if_pos h))
theorem up_is_less {M : Nat} : (FU M).call "is_less" = (mkF glo M ds35).call "is_less" := lift (ds := ds35) [d_law, d__law_told_right, d__law_is_row, d_row_at, d_stretch_for, d_sign_of, d_is_beyond] (by decide +kernel)
theorem run_is_less {M : Nat} {as : List A} (h : as.length = 2) : (FU M).call "is_less" as = runDef (F34 M) M 2 b_is_less as := (congrFun up_is_less as).trans ((mkF_self as).trans (if_pos h))
theorem up_is_beyond {M : Nat} : (FU M).call "is_beyond" = (mkF glo M ds36).call "is_beyond" := lift (ds := ds36) [d_law, d__law_told_right, d__law_is_row, d_row_at, d_stretch_for, d_sign_of] (by decide +kernel)
theorem run_is_beyond {M : Nat} {as : List A} (h : as.length = 2) : (FU M).call "is_beyond" as = runDef (F35 M) M 2 b_is_beyond as := (congrFun up_is_beyond as).trans ((mkF_self as).trans (if_pos h))
theorem up_sign_of {M : Nat} : (FU M).call "sign_of" = (mkF glo M ds37).call "sign_of" := lift (ds := ds37) [d_law, d__law_told_right, d__law_is_row, d_row_at, d_stretch_for] (by decide +kernel)
theorem run_sign_of {M : Nat} {as : List A} (h : as.length = 1) : (FU M).call "sign_of" as = runDef (F36 M) M 1 b_sign_of as := (congrFun up_sign_of as).trans ((mkF_self as).trans (if_pos h))
theorem up_stretch_for {M : Nat} : (FU M).call "stretch_for" = (mkF glo M ds38).call "stretch_for" := lift (ds := ds38) [d_law, d__law_told_right, d__law_is_row, d_row_at] (by decide +kernel)
theorem run_stretch_for {M : Nat} {as : List A} (h : as.length = 2) : (FU M).call "stretch_for" as = runDef (F37 M) M 4 b_stretch_for as := (congrFun up_stretch_for as).trans ((mkF_self as).trans (if_pos h))
theorem up_row_at {M : Nat} : (FU M).call "row_at" = (mkF glo M ds39).call "row_at" := lift (ds := ds39) [d_law, d__law_told_right, d__law_is_row] (by decide +kernel)
theorem run_row_at {M : Nat} {as : List A} (h : as.length = 2) : (FU M).call "row_at" as = runDef (F38 M) M 6 b_row_at as := (congrFun up_row_at as).trans ((mkF_self as).trans (if_pos h))
theorem up__law_is_row {M : Nat} : (FU M).call "_law_is_row" = (mkF glo M ds40).call "_law_is_row" := lift (ds := ds40) [d_law, d__law_told_right] (by decide +kernel)
theorem run__law_is_row {M : Nat} {as : List A} (h : as.length = 2) : (FU M).call "_law_is_row" as = runDef (F39 M) M 3 b__law_is_row as := (congrFun up__law_is_row as).trans ((mkF_self as).trans (if_pos h))
theorem up__law_told_right {M : Nat} : (FU M).call "_law_told_right" = (mkF glo M ds41).call "_law_told_right" := lift (ds := ds41) [d_law] (by decide +kernel)
theorem run__law_told_right {M : Nat} {as : List A} (h : as.length = 2) : (FU M).call "_law_told_right" as = runDef (F40 M) M 9 b__law_told_right as := (congrFun up__law_told_right as).trans ((mkF_self as).trans (if_pos h))
theorem up_law {M : Nat} : (FU M).call "law" = (mkF glo M ds42).call "law" := lift (ds := ds42) [] (by decide +kernel)
theorem run_law {M : Nat} {as : List A} (h : as.length = 1) : (FU M).call "law" as = runDef (F41 M) M 4 b_law as := (congrFun up_law as).trans ((mkF_self as).trans (if_pos h))
@[simp] theorem up2__law_draw {M : Nat} : (F2 M).call "_law_draw" = (FU M).call "_law_draw" := (lift (ds := ds2) [] (by decide +kernel)).trans up__law_draw.symm
@[simp] theorem up4__law_gcd {M : Nat} : (F4 M).call "_law_gcd" = (FU M).call "_law_gcd" := (lift (ds := ds4) [] (by decide +kernel)).trans up__law_gcd.symm
@[simp] theorem up5__law_amount {M : Nat} : (F5 M).call "_law_amount" = (FU M).call "_law_amount" := (lift (ds := ds5) [] (by decide +kernel)).trans up__law_amount.symm
@[simp] theorem up6__law_draw {M : Nat} : (F6 M).call "_law_draw" = (FU M).call "_law_draw" := (lift (ds := ds2) [d__law_plus, d__law_amount, d__law_gcd, d__law_rare] (by decide +kernel)).trans up__law_draw.symm
@[simp] theorem up6__law_amount {M : Nat} : (F6 M).call "_law_amount" = (FU M).call "_law_amount" := (lift (ds := ds5) [d__law_plus] (by decide +kernel)).trans up__law_amount.symm
@[simp] theorem up7__law_plus {M : Nat} : (F7 M).call "_law_plus" = (FU M).call "_law_plus" := (lift (ds := ds6) [d__law_gap] (by decide +kernel)).trans up__law_plus.symm
@[simp] theorem up7__law_gap {M : Nat} : (F7 M).call "_law_gap" = (FU M).call "_law_gap" := (lift (ds := ds7) [] (by decide +kernel)).trans up__law_gap.symm
@[simp] theorem up8__law_draw {M : Nat} : (F8 M).call "_law_draw" = (FU M).call "_law_draw" := (lift (ds := ds2) [d__law_lows, d__law_gap, d__law_plus, d__law_amount, d__law_gcd, d__law_rare] (by decide +kernel)).trans up__law_draw.symm
@[simp] theorem up8__law_amount {M : Nat} : (F8 M).call "_law_amount" = (FU M).call "_law_amount" := (lift (ds := ds5) [d__law_lows, d__law_gap, d__law_plus] (by decide +kernel)).trans up__law_amount.symm
@[simp] theorem up10__law_amount {M : Nat} : (F10 M).call "_law_amount" = (FU M).call "_law_amount" := (lift (ds := ds5) [d__law_int, d__law_slopes_by_stretch, d__law_lows, d__law_gap, d__law_plus] (by decide +kernel)).trans up__law_amount.symm
@[simp] theorem up11__law_amount {M : Nat} : (F11 M).call "_law_amount" = (FU M).call "_law_amount" := (lift (ds := ds5) [d__law_times, d__law_int, d__law_slopes_by_stretch, d__law_lows, d__law_gap, d__law_plus] (by decide +kernel)).trans up__law_amount.symm
@[simp] theorem up12__law_plus {M : Nat} : (F12 M).call "_law_plus" = (FU M).call "_law_plus" := (lift (ds := ds6) [d__law_minus, d__law_times, d__law_int, d__law_slopes_by_stretch, d__law_lows, d__law_gap] (by decide +kernel)).trans up__law_plus.symm
@[simp] theorem up12__law_times {M : Nat} : (F12 M).call "_law_times" = (FU M).call "_law_times" := (lift (ds := ds11) [d__law_minus] (by decide +kernel)).trans up__law_times.symm
@[simp] theorem up12__law_minus {M : Nat} : (F12 M).call "_law_minus" = (FU M).call "_law_minus" := (lift (ds := ds12) [] (by decide +kernel)).trans up__law_minus.symm
@[simp] theorem up13__law_draw {M : Nat} : (F13 M).call "_law_draw" = (FU M).call "_law_draw" := (lift (ds := ds2) [d__law_rising, d__law_minus, d__law_times, d__law_int, d__law_slopes_by_stretch, d__law_lows, d__law_gap, d__law_plus, d__law_amount, d__law_gcd, d__law_rare] (by decide +kernel)).trans up__law_draw.symm
@[simp] theorem up13__law_amount {M : Nat} : (F13 M).call "_law_amount" = (FU M).call "_law_amount" := (lift (ds := ds5) [d__law_rising, d__law_minus, d__law_times, d__law_int, d__law_slopes_by_stretch, d__law_lows, d__law_gap, d__law_plus] (by decide +kernel)).trans up__law_amount.symm
@[simp] theorem up14__law_plus {M : Nat} : (F14 M).call "_law_plus" = (FU M).call "_law_plus" := (lift (ds := ds6) [d__law_claim, d__law_rising, d__law_minus, d__law_times, d__law_int, d__law_slopes_by_stretch, d__law_lows, d__law_gap] (by decide +kernel)).trans up__law_plus.symm
@[simp] theorem up14__law_times {M : Nat} : (F14 M).call "_law_times" = (FU M).call "_law_times" := (lift (ds := ds11) [d__law_claim, d__law_rising, d__law_minus] (by decide +kernel)).trans up__law_times.symm
@[simp] theorem up14__law_minus {M : Nat} : (F14 M).call "_law_minus" = (FU M).call "_law_minus" := (lift (ds := ds12) [d__law_claim, d__law_rising] (by decide +kernel)).trans up__law_minus.symm
@[simp] theorem up15__law_slopes_by_stretch {M : Nat} : (F15 M).call "_law_slopes_by_stretch" = (FU M).call "_law_slopes_by_stretch" := (lift (ds := ds9) [d__law_jumping, d__law_claim, d__law_rising, d__law_minus, d__law_times, d__law_int] (by decide +kernel)).trans up__law_slopes_by_stretch.symm
@[simp] theorem up15__law_gap {M : Nat} : (F15 M).call "_law_gap" = (FU M).call "_law_gap" := (lift (ds := ds7) [d__law_jumping, d__law_claim, d__law_rising, d__law_minus, d__law_times, d__law_int, d__law_slopes_by_stretch, d__law_lows] (by decide +kernel)).trans up__law_gap.symm
@[simp] theorem up15__law_draw {M : Nat} : (F15 M).call "_law_draw" = (FU M).call "_law_draw" := (lift (ds := ds2) [d__law_jumping, d__law_claim, d__law_rising, d__law_minus, d__law_times, d__law_int, d__law_slopes_by_stretch, d__law_lows, d__law_gap, d__law_plus, d__law_amount, d__law_gcd, d__law_rare] (by decide +kernel)).trans up__law_draw.symm
@[simp] theorem up15__law_plus {M : Nat} : (F15 M).call "_law_plus" = (FU M).call "_law_plus" := (lift (ds := ds6) [d__law_jumping, d__law_claim, d__law_rising, d__law_minus, d__law_times, d__law_int, d__law_slopes_by_stretch, d__law_lows, d__law_gap] (by decide +kernel)).trans up__law_plus.symm
@[simp] theorem up15__law_int {M : Nat} : (F15 M).call "_law_int" = (FU M).call "_law_int" := (lift (ds := ds10) [d__law_jumping, d__law_claim, d__law_rising, d__law_minus, d__law_times] (by decide +kernel)).trans up__law_int.symm
@[simp] theorem up15__law_rising {M : Nat} : (F15 M).call "_law_rising" = (FU M).call "_law_rising" := (lift (ds := ds13) [d__law_jumping, d__law_claim] (by decide +kernel)).trans up__law_rising.symm
@[simp] theorem up15__law_amount {M : Nat} : (F15 M).call "_law_amount" = (FU M).call "_law_amount" := (lift (ds := ds5) [d__law_jumping, d__law_claim, d__law_rising, d__law_minus, d__law_times, d__law_int, d__law_slopes_by_stretch, d__law_lows, d__law_gap, d__law_plus] (by decide +kernel)).trans up__law_amount.symm
@[simp] theorem up15__law_claim {M : Nat} : (F15 M).call "_law_claim" = (FU M).call "_law_claim" := (lift (ds := ds14) [d__law_jumping] (by decide +kernel)).trans up__law_claim.symm
@[simp] theorem up15__law_times {M : Nat} : (F15 M).call "_law_times" = (FU M).call "_law_times" := (lift (ds := ds11) [d__law_jumping, d__law_claim, d__law_rising, d__law_minus] (by decide +kernel)).trans up__law_times.symm
@[simp] theorem up15__law_jumping {M : Nat} : (F15 M).call "_law_jumping" = (FU M).call "_law_jumping" := (lift (ds := ds15) [] (by decide +kernel)).trans up__law_jumping.symm
@[simp] theorem up16__law_rising {M : Nat} : (F16 M).call "_law_rising" = (FU M).call "_law_rising" := (lift (ds := ds13) [d__law_tracks, d__law_jumping, d__law_claim] (by decide +kernel)).trans up__law_rising.symm
@[simp] theorem up16__law_times {M : Nat} : (F16 M).call "_law_times" = (FU M).call "_law_times" := (lift (ds := ds11) [d__law_tracks, d__law_jumping, d__law_claim, d__law_rising, d__law_minus] (by decide +kernel)).trans up__law_times.symm
@[simp] theorem up16__law_minus {M : Nat} : (F16 M).call "_law_minus" = (FU M).call "_law_minus" := (lift (ds := ds12) [d__law_tracks, d__law_jumping, d__law_claim, d__law_rising] (by decide +kernel)).trans up__law_minus.symm
@[simp] theorem up17__law_draw {M : Nat} : (F17 M).call "_law_draw" = (FU M).call "_law_draw" := (lift (ds := ds2) [d__law_ending, d__law_tracks, d__law_jumping, d__law_claim, d__law_rising, d__law_minus, d__law_times, d__law_int, d__law_slopes_by_stretch, d__law_lows, d__law_gap, d__law_plus, d__law_amount, d__law_gcd, d__law_rare] (by decide +kernel)).trans up__law_draw.symm
@[simp] theorem up18__law_draw {M : Nat} : (F18 M).call "_law_draw" = (FU M).call "_law_draw" := (lift (ds := ds2) [d__law_shuffled, d__law_ending, d__law_tracks, d__law_jumping, d__law_claim, d__law_rising, d__law_minus, d__law_times, d__law_int, d__law_slopes_by_stretch, d__law_lows, d__law_gap, d__law_plus, d__law_amount, d__law_gcd, d__law_rare] (by decide +kernel)).trans up__law_draw.symm
@[simp] theorem up18__law_rare {M : Nat} : (F18 M).call "_law_rare" = (FU M).call "_law_rare" := (lift (ds := ds3) [d__law_shuffled, d__law_ending, d__law_tracks, d__law_jumping, d__law_claim, d__law_rising, d__law_minus, d__law_times, d__law_int, d__law_slopes_by_stretch, d__law_lows, d__law_gap, d__law_plus, d__law_amount, d__law_gcd] (by decide +kernel)).trans up__law_rare.symm
@[simp] theorem up18__law_lows {M : Nat} : (F18 M).call "_law_lows" = (FU M).call "_law_lows" := (lift (ds := ds8) [d__law_shuffled, d__law_ending, d__law_tracks, d__law_jumping, d__law_claim, d__law_rising, d__law_minus, d__law_times, d__law_int, d__law_slopes_by_stretch] (by decide +kernel)).trans up__law_lows.symm
@[simp] theorem up18__law_tracks {M : Nat} : (F18 M).call "_law_tracks" = (FU M).call "_law_tracks" := (lift (ds := ds16) [d__law_shuffled, d__law_ending] (by decide +kernel)).trans up__law_tracks.symm
@[simp] theorem up18__law_plus {M : Nat} : (F18 M).call "_law_plus" = (FU M).call "_law_plus" := (lift (ds := ds6) [d__law_shuffled, d__law_ending, d__law_tracks, d__law_jumping, d__law_claim, d__law_rising, d__law_minus, d__law_times, d__law_int, d__law_slopes_by_stretch, d__law_lows, d__law_gap] (by decide +kernel)).trans up__law_plus.symm
@[simp] theorem up18__law_gap {M : Nat} : (F18 M).call "_law_gap" = (FU M).call "_law_gap" := (lift (ds := ds7) [d__law_shuffled, d__law_ending, d__law_tracks, d__law_jumping, d__law_claim, d__law_rising, d__law_minus, d__law_times, d__law_int, d__law_slopes_by_stretch, d__law_lows] (by decide +kernel)).trans up__law_gap.symm
@[simp] theorem up18__law_ending {M : Nat} : (F18 M).call "_law_ending" = (FU M).call "_law_ending" := (lift (ds := ds17) [d__law_shuffled] (by decide +kernel)).trans up__law_ending.symm
@[simp] theorem up18__law_int {M : Nat} : (F18 M).call "_law_int" = (FU M).call "_law_int" := (lift (ds := ds10) [d__law_shuffled, d__law_ending, d__law_tracks, d__law_jumping, d__law_claim, d__law_rising, d__law_minus, d__law_times] (by decide +kernel)).trans up__law_int.symm
@[simp] theorem up18__law_amount {M : Nat} : (F18 M).call "_law_amount" = (FU M).call "_law_amount" := (lift (ds := ds5) [d__law_shuffled, d__law_ending, d__law_tracks, d__law_jumping, d__law_claim, d__law_rising, d__law_minus, d__law_times, d__law_int, d__law_slopes_by_stretch, d__law_lows, d__law_gap, d__law_plus] (by decide +kernel)).trans up__law_amount.symm
@[simp] theorem up18__law_rising {M : Nat} : (F18 M).call "_law_rising" = (FU M).call "_law_rising" := (lift (ds := ds13) [d__law_shuffled, d__law_ending, d__law_tracks, d__law_jumping, d__law_claim] (by decide +kernel)).trans up__law_rising.symm
@[simp] theorem up18__law_claim {M : Nat} : (F18 M).call "_law_claim" = (FU M).call "_law_claim" := (lift (ds := ds14) [d__law_shuffled, d__law_ending, d__law_tracks, d__law_jumping] (by decide +kernel)).trans up__law_claim.symm
@[simp] theorem up18__law_shuffled {M : Nat} : (F18 M).call "_law_shuffled" = (FU M).call "_law_shuffled" := (lift (ds := ds18) [] (by decide +kernel)).trans up__law_shuffled.symm
@[simp] theorem up20_reduced {M : Nat} : (F20 M).call "reduced" = (FU M).call "reduced" := (lift (ds := ds20) [] (by decide +kernel)).trans up_reduced.symm
@[simp] theorem up21_reduced {M : Nat} : (F21 M).call "reduced" = (FU M).call "reduced" := (lift (ds := ds20) [d_plus] (by decide +kernel)).trans up_reduced.symm
@[simp] theorem up22_plus {M : Nat} : (F22 M).call "plus" = (FU M).call "plus" := (lift (ds := ds21) [d_times] (by decide +kernel)).trans up_plus.symm
@[simp] theorem up22_times {M : Nat} : (F22 M).call "times" = (FU M).call "times" := (lift (ds := ds22) [] (by decide +kernel)).trans up_times.symm
@[simp] theorem up23_reduced {M : Nat} : (F23 M).call "reduced" = (FU M).call "reduced" := (lift (ds := ds20) [d_moved_along, d_times, d_plus] (by decide +kernel)).trans up_reduced.symm
@[simp] theorem up24_moved_along {M : Nat} : (F24 M).call "moved_along" = (FU M).call "moved_along" := (lift (ds := ds23) [d_minus] (by decide +kernel)).trans up_moved_along.symm
@[simp] theorem up24_minus {M : Nat} : (F24 M).call "minus" = (FU M).call "minus" := (lift (ds := ds24) [] (by decide +kernel)).trans up_minus.symm
@[simp] theorem up25_row_on {M : Nat} : (F25 M).call "row_on" = (FU M).call "row_on" := (lift (ds := ds25) [] (by decide +kernel)).trans up_row_on.symm
@[simp] theorem up26_rows_ahead {M : Nat} : (F26 M).call "rows_ahead" = (FU M).call "rows_ahead" := (lift (ds := ds26) [] (by decide +kernel)).trans up_rows_ahead.symm
@[simp] theorem up28__law_is_int {M : Nat} : (F28 M).call "_law_is_int" = (FU M).call "_law_is_int" := (lift (ds := ds28) [] (by decide +kernel)).trans up__law_is_int.symm
@[simp] theorem up28__law_gcd {M : Nat} : (F28 M).call "_law_gcd" = (FU M).call "_law_gcd" := (lift (ds := ds4) [d__law_is_int, d_jumps_of, d_rows_ahead, d_row_on, d_minus, d_moved_along, d_times, d_plus, d_reduced, d__law_made, d__law_shuffled, d__law_ending, d__law_tracks, d__law_jumping, d__law_claim, d__law_rising, d__law_minus, d__law_times, d__law_int, d__law_slopes_by_stretch, d__law_lows, d__law_gap, d__law_plus, d__law_amount] (by decide +kernel)).trans up__law_gcd.symm
@[simp] theorem up29__law_draw {M : Nat} : (F29 M).call "_law_draw" = (FU M).call "_law_draw" := (lift (ds := ds2) [d__law_is_amount, d__law_is_int, d_jumps_of, d_rows_ahead, d_row_on, d_minus, d_moved_along, d_times, d_plus, d_reduced, d__law_made, d__law_shuffled, d__law_ending, d__law_tracks, d__law_jumping, d__law_claim, d__law_rising, d__law_minus, d__law_times, d__law_int, d__law_slopes_by_stretch, d__law_lows, d__law_gap, d__law_plus, d__law_amount, d__law_gcd, d__law_rare] (by decide +kernel)).trans up__law_draw.symm
@[simp] theorem up30__law_pick {M : Nat} : (F30 M).call "_law_pick" = (FU M).call "_law_pick" := (lift (ds := ds30) [] (by decide +kernel)).trans up__law_pick.symm
@[simp] theorem up30__law_plus {M : Nat} : (F30 M).call "_law_plus" = (FU M).call "_law_plus" := (lift (ds := ds6) [d__law_pick, d__law_is_amount, d__law_is_int, d_jumps_of, d_rows_ahead, d_row_on, d_minus, d_moved_along, d_times, d_plus, d_reduced, d__law_made, d__law_shuffled, d__law_ending, d__law_tracks, d__law_jumping, d__law_claim, d__law_rising, d__law_minus, d__law_times, d__law_int, d__law_slopes_by_stretch, d__law_lows, d__law_gap] (by decide +kernel)).trans up__law_plus.symm
@[simp] theorem up30__law_amount {M : Nat} : (F30 M).call "_law_amount" = (FU M).call "_law_amount" := (lift (ds := ds5) [d__law_pick, d__law_is_amount, d__law_is_int, d_jumps_of, d_rows_ahead, d_row_on, d_minus, d_moved_along, d_times, d_plus, d_reduced, d__law_made, d__law_shuffled, d__law_ending, d__law_tracks, d__law_jumping, d__law_claim, d__law_rising, d__law_minus, d__law_times, d__law_int, d__law_slopes_by_stretch, d__law_lows, d__law_gap, d__law_plus] (by decide +kernel)).trans up__law_amount.symm
@[simp] theorem up30__law_draw {M : Nat} : (F30 M).call "_law_draw" = (FU M).call "_law_draw" := (lift (ds := ds2) [d__law_pick, d__law_is_amount, d__law_is_int, d_jumps_of, d_rows_ahead, d_row_on, d_minus, d_moved_along, d_times, d_plus, d_reduced, d__law_made, d__law_shuffled, d__law_ending, d__law_tracks, d__law_jumping, d__law_claim, d__law_rising, d__law_minus, d__law_times, d__law_int, d__law_slopes_by_stretch, d__law_lows, d__law_gap, d__law_plus, d__law_amount, d__law_gcd, d__law_rare] (by decide +kernel)).trans up__law_draw.symm
@[simp] theorem up30__law_gap {M : Nat} : (F30 M).call "_law_gap" = (FU M).call "_law_gap" := (lift (ds := ds7) [d__law_pick, d__law_is_amount, d__law_is_int, d_jumps_of, d_rows_ahead, d_row_on, d_minus, d_moved_along, d_times, d_plus, d_reduced, d__law_made, d__law_shuffled, d__law_ending, d__law_tracks, d__law_jumping, d__law_claim, d__law_rising, d__law_minus, d__law_times, d__law_int, d__law_slopes_by_stretch, d__law_lows] (by decide +kernel)).trans up__law_gap.symm
@[simp] theorem up30__law_int {M : Nat} : (F30 M).call "_law_int" = (FU M).call "_law_int" := (lift (ds := ds10) [d__law_pick, d__law_is_amount, d__law_is_int, d_jumps_of, d_rows_ahead, d_row_on, d_minus, d_moved_along, d_times, d_plus, d_reduced, d__law_made, d__law_shuffled, d__law_ending, d__law_tracks, d__law_jumping, d__law_claim, d__law_rising, d__law_minus, d__law_times] (by decide +kernel)).trans up__law_int.symm
@[simp] theorem up30__law_times {M : Nat} : (F30 M).call "_law_times" = (FU M).call "_law_times" := (lift (ds := ds11) [d__law_pick, d__law_is_amount, d__law_is_int, d_jumps_of, d_rows_ahead, d_row_on, d_minus, d_moved_along, d_times, d_plus, d_reduced, d__law_made, d__law_shuffled, d__law_ending, d__law_tracks, d__law_jumping, d__law_claim, d__law_rising, d__law_minus] (by decide +kernel)).trans up__law_times.symm
@[simp] theorem up30__law_minus {M : Nat} : (F30 M).call "_law_minus" = (FU M).call "_law_minus" := (lift (ds := ds12) [d__law_pick, d__law_is_amount, d__law_is_int, d_jumps_of, d_rows_ahead, d_row_on, d_minus, d_moved_along, d_times, d_plus, d_reduced, d__law_made, d__law_shuffled, d__law_ending, d__law_tracks, d__law_jumping, d__law_claim, d__law_rising] (by decide +kernel)).trans up__law_minus.symm
@[simp] theorem up30__law_shuffled {M : Nat} : (F30 M).call "_law_shuffled" = (FU M).call "_law_shuffled" := (lift (ds := ds18) [d__law_pick, d__law_is_amount, d__law_is_int, d_jumps_of, d_rows_ahead, d_row_on, d_minus, d_moved_along, d_times, d_plus, d_reduced, d__law_made] (by decide +kernel)).trans up__law_shuffled.symm
@[simp] theorem up32__law_plus {M : Nat} : (F32 M).call "_law_plus" = (FU M).call "_law_plus" := (lift (ds := ds6) [d__law_less, d__law_growths, d__law_pick, d__law_is_amount, d__law_is_int, d_jumps_of, d_rows_ahead, d_row_on, d_minus, d_moved_along, d_times, d_plus, d_reduced, d__law_made, d__law_shuffled, d__law_ending, d__law_tracks, d__law_jumping, d__law_claim, d__law_rising, d__law_minus, d__law_times, d__law_int, d__law_slopes_by_stretch, d__law_lows, d__law_gap] (by decide +kernel)).trans up__law_plus.symm
@[simp] theorem up32__law_times {M : Nat} : (F32 M).call "_law_times" = (FU M).call "_law_times" := (lift (ds := ds11) [d__law_less, d__law_growths, d__law_pick, d__law_is_amount, d__law_is_int, d_jumps_of, d_rows_ahead, d_row_on, d_minus, d_moved_along, d_times, d_plus, d_reduced, d__law_made, d__law_shuffled, d__law_ending, d__law_tracks, d__law_jumping, d__law_claim, d__law_rising, d__law_minus] (by decide +kernel)).trans up__law_times.symm
@[simp] theorem up33__law_less {M : Nat} : (F33 M).call "_law_less" = (FU M).call "_law_less" := (lift (ds := ds32) [d__law_shift] (by decide +kernel)).trans up__law_less.symm
@[simp] theorem up33__law_shift {M : Nat} : (F33 M).call "_law_shift" = (FU M).call "_law_shift" := (lift (ds := ds33) [] (by decide +kernel)).trans up__law_shift.symm
@[simp] theorem up33__law_minus {M : Nat} : (F33 M).call "_law_minus" = (FU M).call "_law_minus" := (lift (ds := ds12) [d__law_shift, d__law_less, d__law_growths, d__law_pick, d__law_is_amount, d__law_is_int, d_jumps_of, d_rows_ahead, d_row_on, d_minus, d_moved_along, d_times, d_plus, d_reduced, d__law_made, d__law_shuffled, d__law_ending, d__law_tracks, d__law_jumping, d__law_claim, d__law_rising] (by decide +kernel)).trans up__law_minus.symm
@[simp] theorem up35_is_less {M : Nat} : (F35 M).call "is_less" = (FU M).call "is_less" := (lift (ds := ds35) [] (by decide +kernel)).trans up_is_less.symm
@[simp] theorem up37_is_less {M : Nat} : (F37 M).call "is_less" = (FU M).call "is_less" := (lift (ds := ds35) [d_sign_of, d_is_beyond] (by decide +kernel)).trans up_is_less.symm
@[simp] theorem up38_is_beyond {M : Nat} : (F38 M).call "is_beyond" = (FU M).call "is_beyond" := (lift (ds := ds36) [d_stretch_for, d_sign_of] (by decide +kernel)).trans up_is_beyond.symm
@[simp] theorem up38_sign_of {M : Nat} : (F38 M).call "sign_of" = (FU M).call "sign_of" := (lift (ds := ds37) [d_stretch_for] (by decide +kernel)).trans up_sign_of.symm
@[simp] theorem up38_row_on {M : Nat} : (F38 M).call "row_on" = (FU M).call "row_on" := (lift (ds := ds25) [d_stretch_for, d_sign_of, d_is_beyond, d_is_less, d__law_row_at, d__law_shift, d__law_less, d__law_growths, d__law_pick, d__law_is_amount, d__law_is_int, d_jumps_of, d_rows_ahead] (by decide +kernel)).trans up_row_on.symm
@[simp] theorem up38_stretch_for {M : Nat} : (F38 M).call "stretch_for" = (FU M).call "stretch_for" := (lift (ds := ds38) [] (by decide +kernel)).trans up_stretch_for.symm
@[simp] theorem up39__law_is_amount {M : Nat} : (F39 M).call "_law_is_amount" = (FU M).call "_law_is_amount" := (lift (ds := ds29) [d_row_at, d_stretch_for, d_sign_of, d_is_beyond, d_is_less, d__law_row_at, d__law_shift, d__law_less, d__law_growths, d__law_pick] (by decide +kernel)).trans up__law_is_amount.symm
@[simp] theorem up40_jumps_of {M : Nat} : (F40 M).call "jumps_of" = (FU M).call "jumps_of" := (lift (ds := ds27) [d__law_is_row, d_row_at, d_stretch_for, d_sign_of, d_is_beyond, d_is_less, d__law_row_at, d__law_shift, d__law_less, d__law_growths, d__law_pick, d__law_is_amount, d__law_is_int] (by decide +kernel)).trans up_jumps_of.symm
@[simp] theorem up40__law_is_amount {M : Nat} : (F40 M).call "_law_is_amount" = (FU M).call "_law_is_amount" := (lift (ds := ds29) [d__law_is_row, d_row_at, d_stretch_for, d_sign_of, d_is_beyond, d_is_less, d__law_row_at, d__law_shift, d__law_less, d__law_growths, d__law_pick] (by decide +kernel)).trans up__law_is_amount.symm
@[simp] theorem up40__law_growths {M : Nat} : (F40 M).call "_law_growths" = (FU M).call "_law_growths" := (lift (ds := ds31) [d__law_is_row, d_row_at, d_stretch_for, d_sign_of, d_is_beyond, d_is_less, d__law_row_at, d__law_shift, d__law_less] (by decide +kernel)).trans up__law_growths.symm
@[simp] theorem up40__law_row_at {M : Nat} : (F40 M).call "_law_row_at" = (FU M).call "_law_row_at" := (lift (ds := ds34) [d__law_is_row, d_row_at, d_stretch_for, d_sign_of, d_is_beyond, d_is_less] (by decide +kernel)).trans up__law_row_at.symm
@[simp] theorem up40_row_at {M : Nat} : (F40 M).call "row_at" = (FU M).call "row_at" := (lift (ds := ds39) [d__law_is_row] (by decide +kernel)).trans up_row_at.symm
@[simp] theorem up40__law_is_row {M : Nat} : (F40 M).call "_law_is_row" = (FU M).call "_law_is_row" := (lift (ds := ds40) [] (by decide +kernel)).trans up__law_is_row.symm
@[simp] theorem up41__law_begin {M : Nat} : (F41 M).call "_law_begin" = (FU M).call "_law_begin" := (lift (ds := ds1) [d__law_told_right, d__law_is_row, d_row_at, d_stretch_for, d_sign_of, d_is_beyond, d_is_less, d__law_row_at, d__law_shift, d__law_less, d__law_growths, d__law_pick, d__law_is_amount, d__law_is_int, d_jumps_of, d_rows_ahead, d_row_on, d_minus, d_moved_along, d_times, d_plus, d_reduced, d__law_made, d__law_shuffled, d__law_ending, d__law_tracks, d__law_jumping, d__law_claim, d__law_rising, d__law_minus, d__law_times, d__law_int, d__law_slopes_by_stretch, d__law_lows, d__law_gap, d__law_plus, d__law_amount, d__law_gcd, d__law_rare, d__law_draw] (by decide +kernel)).trans up__law_begin.symm
@[simp] theorem up41__law_made {M : Nat} : (F41 M).call "_law_made" = (FU M).call "_law_made" := (lift (ds := ds19) [d__law_told_right, d__law_is_row, d_row_at, d_stretch_for, d_sign_of, d_is_beyond, d_is_less, d__law_row_at, d__law_shift, d__law_less, d__law_growths, d__law_pick, d__law_is_amount, d__law_is_int, d_jumps_of, d_rows_ahead, d_row_on, d_minus, d_moved_along, d_times, d_plus, d_reduced] (by decide +kernel)).trans up__law_made.symm
@[simp] theorem up41__law_told_right {M : Nat} : (F41 M).call "_law_told_right" = (FU M).call "_law_told_right" := (lift (ds := ds41) [] (by decide +kernel)).trans up__law_told_right.symm
def fn : List He.DefD := [⟨("_law_begin", none), "_law_begin", "_law_begin", defArgs (top 19), defBody (top 19), defScope (top 19), [], []⟩, ⟨("_law_draw", none), "_law_draw", "_law_draw", defArgs (top 20), defBody (top 20), defScope (top 20), [], []⟩, ⟨("_law_rare", none), "_law_rare", "_law_rare", defArgs (top 22), defBody (top 22), defScope (top 22), [], []⟩, ⟨("_law_gcd", none), "_law_gcd", "_law_gcd", defArgs (top 25), defBody (top 25), defScope (top 25), [], []⟩, ⟨("_law_amount", none), "_law_amount", "_law_amount", defArgs (top 26), defBody (top 26), defScope (top 26), [], []⟩, ⟨("_law_plus", none), "_law_plus", "_law_plus", defArgs (top 28), defBody (top 28), defScope (top 28), [], []⟩, ⟨("_law_gap", none), "_law_gap", "_law_gap", defArgs (top 34), defBody (top 34), defScope (top 34), [], []⟩, ⟨("_law_lows", none), "_law_lows", "_law_lows", defArgs (top 38), defBody (top 38), defScope (top 38), [], []⟩, ⟨("_law_slopes_by_stretch", none), "_law_slopes_by_stretch", "_law_slopes_by_stretch", defArgs (top 39), defBody (top 39), defScope (top 39), [], []⟩, ⟨("_law_int", none), "_law_int", "_law_int", defArgs (top 27), defBody (top 27), defScope (top 27), [], []⟩, ⟨("_law_times", none), "_law_times", "_law_times", defArgs (top 30), defBody (top 30), defScope (top 30), [], []⟩, ⟨("_law_minus", none), "_law_minus", "_law_minus", defArgs (top 29), defBody (top 29), defScope (top 29), [], []⟩, ⟨("_law_rising", none), "_law_rising", "_law_rising", defArgs (top 40), defBody (top 40), defScope (top 40), [], []⟩, ⟨("_law_claim", none), "_law_claim", "_law_claim", defArgs (top 35), defBody (top 35), defScope (top 35), [], []⟩, ⟨("_law_jumping", none), "_law_jumping", "_law_jumping", defArgs (top 41), defBody (top 41), defScope (top 41), [], []⟩, ⟨("_law_tracks", none), "_law_tracks", "_law_tracks", defArgs (top 43), defBody (top 43), defScope (top 43), [], []⟩, ⟨("_law_ending", none), "_law_ending", "_law_ending", defArgs (top 42), defBody (top 42), defScope (top 42), [], []⟩, ⟨("_law_shuffled", none), "_law_shuffled", "_law_shuffled", defArgs (top 23), defBody (top 23), defScope (top 23), [], []⟩, ⟨("_law_made", none), "_law_made", "_law_made", defArgs (top 44), defBody (top 44), defScope (top 44), [], []⟩, ⟨("reduced", none), "reduced", "reduced", defArgs (top 2), defBody (top 2), defScope (top 2), [], []⟩, ⟨("plus", none), "plus", "plus", defArgs (top 3), defBody (top 3), defScope (top 3), [], []⟩, ⟨("times", none), "times", "times", defArgs (top 5), defBody (top 5), defScope (top 5), [], []⟩, ⟨("moved_along", none), "moved_along", "moved_along", defArgs (top 9), defBody (top 9), defScope (top 9), [], []⟩, ⟨("minus", none), "minus", "minus", defArgs (top 4), defBody (top 4), defScope (top 4), [], []⟩, ⟨("row_on", none), "row_on", "row_on", defArgs (top 11), defBody (top 11), defScope (top 11), [], []⟩, ⟨("rows_ahead", none), "rows_ahead", "rows_ahead", defArgs (top 16), defBody (top 16), defScope (top 16), [], []⟩, ⟨("jumps_of", none), "jumps_of", "jumps_of", defArgs (top 17), defBody (top 17), defScope (top 17), [], []⟩, ⟨("_law_is_int", none), "_law_is_int", "_law_is_int", defArgs (top 24), defBody (top 24), defScope (top 24), [], []⟩, ⟨("_law_is_amount", none), "_law_is_amount", "_law_is_amount", defArgs (top 32), defBody (top 32), defScope (top 32), [], []⟩, ⟨("_law_pick", none), "_law_pick", "_law_pick", defArgs (top 21), defBody (top 21), defScope (top 21), [], []⟩, ⟨("_law_growths", none), "_law_growths", "_law_growths", defArgs (top 45), defBody (top 45), defScope (top 45), [], []⟩, ⟨("_law_less", none), "_law_less", "_law_less", defArgs (top 31), defBody (top 31), defScope (top 31), [], []⟩, ⟨("_law_shift", none), "_law_shift", "_law_shift", defArgs (top 36), defBody (top 36), defScope (top 36), [], []⟩, ⟨("_law_row_at", none), "_law_row_at", "_law_row_at", defArgs (top 37), defBody (top 37), defScope (top 37), [], []⟩, ⟨("is_less", none), "is_less", "is_less", defArgs (top 6), defBody (top 6), defScope (top 6), [], []⟩, ⟨("is_beyond", none), "is_beyond", "is_beyond", defArgs (top 14), defBody (top 14), defScope (top 14), [], []⟩, ⟨("sign_of", none), "sign_of", "sign_of", defArgs (top 7), defBody (top 7), defScope (top 7), [], []⟩, ⟨("stretch_for", none), "stretch_for", "stretch_for", defArgs (top 13), defBody (top 13), defScope (top 13), [], []⟩, ⟨("row_at", none), "row_at", "row_at", defArgs (top 15), defBody (top 15), defScope (top 15), [], []⟩, ⟨("_law_is_row", none), "_law_is_row", "_law_is_row", defArgs (top 33), defBody (top 33), defScope (top 33), [], []⟩, ⟨("_law_told_right", none), "_law_told_right", "_law_told_right", defArgs (top 46), defBody (top 46), defScope (top 46), [], []⟩, ⟨("law", none), "law", "law", defArgs (top 47), defBody (top 47), defScope (top 47), [], []⟩]
def fa : List He.Fa := [.glo "_law_begin", .glo "_law_draw", .glo "_law_rare", .glo "_law_gcd", .glo "_law_amount", .glo "_law_plus", .glo "_law_gap", .glo "_law_lows", .glo "_law_slopes_by_stretch", .glo "_law_int", .glo "_law_times", .glo "_law_minus", .glo "_law_rising", .glo "_law_claim", .glo "_law_jumping", .glo "_law_tracks", .glo "_law_ending", .glo "_law_shuffled", .glo "_law_made", .glo "reduced", .glo "plus", .glo "times", .glo "moved_along", .glo "minus", .glo "row_on", .glo "rows_ahead", .glo "jumps_of", .glo "_law_is_int", .glo "_law_is_amount", .glo "_law_pick", .glo "_law_growths", .glo "_law_less", .glo "_law_shift", .glo "_law_row_at", .glo "is_less", .glo "is_beyond", .glo "sign_of", .glo "stretch_for", .glo "row_at", .glo "_law_is_row", .glo "_law_told_right", .glo "law", .free "abs", .free "all", .free "bool", .free "enumerate", .free "int", .free "isinstance", .free "len", .free "list", .free "range", .free "tuple", .free "zip"]
def exl (K : PySem.W.Frag) : List Bool := [He.eqO (PySem.W.nsIn K mainGlobals "gcd") (some (some (.builtin "math.gcd")))]
def ex (K : PySem.W.Frag) : Bool := (exl K).all id
abbrev R : PySem.W.OpenRow := PySem.W.OpenLaw.row PySem.Challenge.rw_cedewheel_k31_rows_of_rays
abbrev hk : PySem.W.Hook := He.hookX 4 fa fn [] [] ex
def ob (s : PySem.W.SharedT) : He.AlX := He.obsX 4 fa fn [] [] ex (HandSHeadRun.getT s)
theorem ob_eq (s : PySem.W.SharedT) : ob s = hk.obs s.abs := He.obsX_eq (HandSHeadRun.getT_eq s)
def names0 : List PySem.Str := [PySem.Str.ofString "reduced", PySem.Str.ofString "plus", PySem.Str.ofString "minus", PySem.Str.ofString "times", PySem.Str.ofString "is_less", PySem.Str.ofString "sign_of", PySem.Str.ofString "moved_along", PySem.Str.ofString "row_on", PySem.Str.ofString "stretch_for", PySem.Str.ofString "is_beyond", PySem.Str.ofString "row_at", PySem.Str.ofString "rows_ahead", PySem.Str.ofString "jumps_of", PySem.Str.ofString "_law_begin", PySem.Str.ofString "_law_draw", PySem.Str.ofString "_law_pick", PySem.Str.ofString "_law_rare", PySem.Str.ofString "_law_shuffled", PySem.Str.ofString "_law_is_int", PySem.Str.ofString "_law_gcd", PySem.Str.ofString "_law_amount", PySem.Str.ofString "_law_int", PySem.Str.ofString "_law_plus", PySem.Str.ofString "_law_minus", PySem.Str.ofString "_law_times", PySem.Str.ofString "_law_less", PySem.Str.ofString "_law_is_amount", PySem.Str.ofString "_law_is_row", PySem.Str.ofString "_law_gap", PySem.Str.ofString "_law_claim", PySem.Str.ofString "_law_shift", PySem.Str.ofString "_law_row_at", PySem.Str.ofString "_law_lows", PySem.Str.ofString "_law_slopes_by_stretch", PySem.Str.ofString "_law_rising"]
def names1 : List PySem.Str := [PySem.Str.ofString "_law_jumping", PySem.Str.ofString "_law_ending", PySem.Str.ofString "_law_tracks", PySem.Str.ofString "_law_made", PySem.Str.ofString "_law_growths", PySem.Str.ofString "_law_told_right"]
def names : List PySem.Str := names0 ++ names1
theorem run (w : World) : HandSHeadRun.RunEqI R (PySem.W.view R.prog [0, 47]) hk ob 20000 names w := by
  show (_ : Option _) = _
  kernel_rfl
theorem gloF {K : PySem.W.Frag} {mg : Str → Option Value} {h : Heap} (X : K.In h) (G : h.Ns mainGlobals mg) (c : He.SaysD fa fn K) (m : ex K = true) : GloF K mg glo frees bts := by
  have m2 : ∀ (i : Nat) (b : Bool), (exl K)[i]? = some b → b = true := fun i b e => List.all_eq_true.mp m b (List.mem_of_getElem? e)
  refine ⟨fun x d e => ?_, fun x hx => ?_, fun p hp => ?_⟩
  · unfold glo at e
    cases e
  · unfold frees at hx
    simp only [List.mem_cons, List.not_mem_nil, or_false] at hx
    rcases hx with rfl | rfl | rfl | rfl | rfl | rfl | rfl | rfl | rfl | rfl | rfl
    · exact He.free_ok X G (c.fact 42 (f := .free "abs") rfl)
    · exact He.free_ok X G (c.fact 43 (f := .free "all") rfl)
    · exact He.free_ok X G (c.fact 44 (f := .free "bool") rfl)
    · exact He.free_ok X G (c.fact 45 (f := .free "enumerate") rfl)
    · exact He.free_ok X G (c.fact 46 (f := .free "int") rfl)
    · exact He.free_ok X G (c.fact 47 (f := .free "isinstance") rfl)
    · exact He.free_ok X G (c.fact 48 (f := .free "len") rfl)
    · exact He.free_ok X G (c.fact 49 (f := .free "list") rfl)
    · exact He.free_ok X G (c.fact 50 (f := .free "range") rfl)
    · exact He.free_ok X G (c.fact 51 (f := .free "tuple") rfl)
    · exact He.free_ok X G (c.fact 52 (f := .free "zip") rfl)
  · simp only [bts, List.mem_singleton] at hp
    subst hp
    exact PySem.W.mg_of X G (He.eqO_ok (m2 0 _ rfl))
theorem chain0 {P : Program} {w : World} {K : PySem.W.Frag} {mg : Str → Option Value} {h base : Heap} (X : K.In h) (G : h.Ns mainGlobals mg) (c : He.SaysD fa fn K) (m : ex K = true) (M : Nat) : AllK P w K mg base glo M ds41 41 := by
  have g := gloF X G c m
  have a0 : AllK P w K mg base glo M ds0 0 := all_nil
  obtain ⟨fd0, F0⟩ := c.def_ 0 rfl
  have a1 : AllK P w K mg base glo M ds1 1 := all_cons a0 g F0 sc__law_begin (by decide +kernel) rfl rfl ck__law_begin (He.glo_ok X G (c.fact 0 (f := .glo "_law_begin") rfl))
    (binds_all F0 rfl rfl fun _ _ _ _ _ _ us hl => match us, hl with | [_], _ => rfl)
  obtain ⟨fd1, F1⟩ := c.def_ 1 rfl
  have a2 : AllK P w K mg base glo M ds2 2 := all_cons a1 g F1 sc__law_draw (by decide +kernel) rfl rfl ck__law_draw (He.glo_ok X G (c.fact 1 (f := .glo "_law_draw") rfl))
    (binds_all F1 rfl rfl fun _ _ _ _ _ _ us hl => match us, hl with | [_, _], _ => rfl)
  obtain ⟨fd2, F2⟩ := c.def_ 2 rfl
  have a3 : AllK P w K mg base glo M ds3 3 := all_cons a2 g F2 sc__law_rare (by decide +kernel) rfl rfl ck__law_rare (He.glo_ok X G (c.fact 2 (f := .glo "_law_rare") rfl))
    (binds_all F2 rfl rfl fun _ _ _ _ _ _ us hl => match us, hl with | [_, _], _ => rfl)
  obtain ⟨fd3, F3⟩ := c.def_ 3 rfl
  have a4 : AllK P w K mg base glo M ds4 4 := all_cons a3 g F3 sc__law_gcd (by decide +kernel) rfl rfl ck__law_gcd (He.glo_ok X G (c.fact 3 (f := .glo "_law_gcd") rfl))
    (binds_all F3 rfl rfl fun _ _ _ _ _ _ us hl => match us, hl with | [_, _], _ => rfl)
  obtain ⟨fd4, F4⟩ := c.def_ 4 rfl
  have a5 : AllK P w K mg base glo M ds5 5 := all_cons a4 g F4 sc__law_amount (by decide +kernel) rfl rfl ck__law_amount (He.glo_ok X G (c.fact 4 (f := .glo "_law_amount") rfl))
    (binds_all F4 rfl rfl fun _ _ _ _ _ _ us hl => match us, hl with | [_, _], _ => rfl)
  obtain ⟨fd5, F5⟩ := c.def_ 5 rfl
  have a6 : AllK P w K mg base glo M ds6 6 := all_cons a5 g F5 sc__law_plus (by decide +kernel) rfl rfl ck__law_plus (He.glo_ok X G (c.fact 5 (f := .glo "_law_plus") rfl))
    (binds_all F5 rfl rfl fun _ _ _ _ _ _ us hl => match us, hl with | [_, _], _ => rfl)
  obtain ⟨fd6, F6⟩ := c.def_ 6 rfl
  have a7 : AllK P w K mg base glo M ds7 7 := all_cons a6 g F6 sc__law_gap (by decide +kernel) rfl rfl ck__law_gap (He.glo_ok X G (c.fact 6 (f := .glo "_law_gap") rfl))
    (binds_all F6 rfl rfl fun _ _ _ _ _ _ us hl => match us, hl with | [_], _ => rfl)
  obtain ⟨fd7, F7⟩ := c.def_ 7 rfl
  have a8 : AllK P w K mg base glo M ds8 8 := all_cons a7 g F7 sc__law_lows (by decide +kernel) rfl rfl ck__law_lows (He.glo_ok X G (c.fact 7 (f := .glo "_law_lows") rfl))
    (binds_all F7 rfl rfl fun _ _ _ _ _ _ us hl => match us, hl with | [_, _], _ => rfl)
  obtain ⟨fd8, F8⟩ := c.def_ 8 rfl
  have a9 : AllK P w K mg base glo M ds9 9 := all_cons a8 g F8 sc__law_slopes_by_stretch (by decide +kernel) rfl rfl ck__law_slopes_by_stretch (He.glo_ok X G (c.fact 8 (f := .glo "_law_slopes_by_stretch") rfl))
    (binds_all F8 rfl rfl fun _ _ _ _ _ _ us hl => match us, hl with | [_, _, _, _], _ => rfl)
  obtain ⟨fd9, F9⟩ := c.def_ 9 rfl
  have a10 : AllK P w K mg base glo M ds10 10 := all_cons a9 g F9 sc__law_int (by decide +kernel) rfl rfl ck__law_int (He.glo_ok X G (c.fact 9 (f := .glo "_law_int") rfl))
    (binds_all F9 rfl rfl fun _ _ _ _ _ _ us hl => match us, hl with | [_], _ => rfl)
  obtain ⟨fd10, F10⟩ := c.def_ 10 rfl
  have a11 : AllK P w K mg base glo M ds11 11 := all_cons a10 g F10 sc__law_times (by decide +kernel) rfl rfl ck__law_times (He.glo_ok X G (c.fact 10 (f := .glo "_law_times") rfl))
    (binds_all F10 rfl rfl fun _ _ _ _ _ _ us hl => match us, hl with | [_, _], _ => rfl)
  obtain ⟨fd11, F11⟩ := c.def_ 11 rfl
  have a12 : AllK P w K mg base glo M ds12 12 := all_cons a11 g F11 sc__law_minus (by decide +kernel) rfl rfl ck__law_minus (He.glo_ok X G (c.fact 11 (f := .glo "_law_minus") rfl))
    (binds_all F11 rfl rfl fun _ _ _ _ _ _ us hl => match us, hl with | [_, _], _ => rfl)
  obtain ⟨fd12, F12⟩ := c.def_ 12 rfl
  have a13 : AllK P w K mg base glo M ds13 13 := all_cons a12 g F12 sc__law_rising (by decide +kernel) rfl rfl ck__law_rising (He.glo_ok X G (c.fact 12 (f := .glo "_law_rising") rfl))
    (binds_all F12 rfl rfl fun _ _ _ _ _ _ us hl => match us, hl with | [_, _, _], _ => rfl)
  obtain ⟨fd13, F13⟩ := c.def_ 13 rfl
  have a14 : AllK P w K mg base glo M ds14 14 := all_cons a13 g F13 sc__law_claim (by decide +kernel) rfl rfl ck__law_claim (He.glo_ok X G (c.fact 13 (f := .glo "_law_claim") rfl))
    (binds_all F13 rfl rfl fun _ _ _ _ _ _ us hl => match us, hl with | [_], _ => rfl)
  obtain ⟨fd14, F14⟩ := c.def_ 14 rfl
  have a15 : AllK P w K mg base glo M ds15 15 := all_cons a14 g F14 sc__law_jumping (by decide +kernel) rfl rfl ck__law_jumping (He.glo_ok X G (c.fact 14 (f := .glo "_law_jumping") rfl))
    (binds_all F14 rfl rfl fun _ _ _ _ _ _ us hl => match us, hl with | [_, _, _, _, _], _ => rfl)
  obtain ⟨fd15, F15⟩ := c.def_ 15 rfl
  have a16 : AllK P w K mg base glo M ds16 16 := all_cons a15 g F15 sc__law_tracks (by decide +kernel) rfl rfl ck__law_tracks (He.glo_ok X G (c.fact 15 (f := .glo "_law_tracks") rfl))
    (binds_all F15 rfl rfl fun _ _ _ _ _ _ us hl => match us, hl with | [_, _, _, _], _ => rfl)
  obtain ⟨fd16, F16⟩ := c.def_ 16 rfl
  have a17 : AllK P w K mg base glo M ds17 17 := all_cons a16 g F16 sc__law_ending (by decide +kernel) rfl rfl ck__law_ending (He.glo_ok X G (c.fact 16 (f := .glo "_law_ending") rfl))
    (binds_all F16 rfl rfl fun _ _ _ _ _ _ us hl => match us, hl with | [_, _, _, _], _ => rfl)
  obtain ⟨fd17, F17⟩ := c.def_ 17 rfl
  have a18 : AllK P w K mg base glo M ds18 18 := all_cons a17 g F17 sc__law_shuffled (by decide +kernel) rfl rfl ck__law_shuffled (He.glo_ok X G (c.fact 17 (f := .glo "_law_shuffled") rfl))
    (binds_all F17 rfl rfl fun _ _ _ _ _ _ us hl => match us, hl with | [_, _], _ => rfl)
  obtain ⟨fd18, F18⟩ := c.def_ 18 rfl
  have a19 : AllK P w K mg base glo M ds19 19 := all_cons a18 g F18 sc__law_made (by decide +kernel) rfl rfl ck__law_made (He.glo_ok X G (c.fact 18 (f := .glo "_law_made") rfl))
    (binds_all F18 rfl rfl fun _ _ _ _ _ _ us hl => match us, hl with | [_], _ => rfl)
  obtain ⟨fd19, F19⟩ := c.def_ 19 rfl
  have a20 : AllK P w K mg base glo M ds20 20 := all_cons a19 g F19 sc_reduced (by decide +kernel) rfl rfl ck_reduced (He.glo_ok X G (c.fact 19 (f := .glo "reduced") rfl))
    (binds_all F19 rfl rfl fun _ _ _ _ _ _ us hl => match us, hl with | [_, _], _ => rfl)
  obtain ⟨fd20, F20⟩ := c.def_ 20 rfl
  have a21 : AllK P w K mg base glo M ds21 21 := all_cons a20 g F20 sc_plus (by decide +kernel) rfl rfl ck_plus (He.glo_ok X G (c.fact 20 (f := .glo "plus") rfl))
    (binds_all F20 rfl rfl fun _ _ _ _ _ _ us hl => match us, hl with | [_, _], _ => rfl)
  obtain ⟨fd21, F21⟩ := c.def_ 21 rfl
  have a22 : AllK P w K mg base glo M ds22 22 := all_cons a21 g F21 sc_times (by decide +kernel) rfl rfl ck_times (He.glo_ok X G (c.fact 21 (f := .glo "times") rfl))
    (binds_all F21 rfl rfl fun _ _ _ _ _ _ us hl => match us, hl with | [_, _], _ => rfl)
  obtain ⟨fd22, F22⟩ := c.def_ 22 rfl
  have a23 : AllK P w K mg base glo M ds23 23 := all_cons a22 g F22 sc_moved_along (by decide +kernel) rfl rfl ck_moved_along (He.glo_ok X G (c.fact 22 (f := .glo "moved_along") rfl))
    (binds_all F22 rfl rfl fun _ _ _ _ _ _ us hl => match us, hl with | [_, _, _], _ => rfl)
  obtain ⟨fd23, F23⟩ := c.def_ 23 rfl
  have a24 : AllK P w K mg base glo M ds24 24 := all_cons a23 g F23 sc_minus (by decide +kernel) rfl rfl ck_minus (He.glo_ok X G (c.fact 23 (f := .glo "minus") rfl))
    (binds_all F23 rfl rfl fun _ _ _ _ _ _ us hl => match us, hl with | [_, _], _ => rfl)
  obtain ⟨fd24, F24⟩ := c.def_ 24 rfl
  have a25 : AllK P w K mg base glo M ds25 25 := all_cons a24 g F24 sc_row_on (by decide +kernel) rfl rfl ck_row_on (He.glo_ok X G (c.fact 24 (f := .glo "row_on") rfl))
    (binds_all F24 rfl rfl fun _ _ _ _ _ _ us hl => match us, hl with | [_, _], _ => rfl)
  obtain ⟨fd25, F25⟩ := c.def_ 25 rfl
  have a26 : AllK P w K mg base glo M ds26 26 := all_cons a25 g F25 sc_rows_ahead (by decide +kernel) rfl rfl ck_rows_ahead (He.glo_ok X G (c.fact 25 (f := .glo "rows_ahead") rfl))
    (binds_all F25 rfl rfl fun _ _ _ _ _ _ us hl => match us, hl with | [_], _ => rfl)
  obtain ⟨fd26, F26⟩ := c.def_ 26 rfl
  have a27 : AllK P w K mg base glo M ds27 27 := all_cons a26 g F26 sc_jumps_of (by decide +kernel) rfl rfl ck_jumps_of (He.glo_ok X G (c.fact 26 (f := .glo "jumps_of") rfl))
    (binds_all F26 rfl rfl fun _ _ _ _ _ _ us hl => match us, hl with | [_], _ => rfl)
  obtain ⟨fd27, F27⟩ := c.def_ 27 rfl
  have a28 : AllK P w K mg base glo M ds28 28 := all_cons a27 g F27 sc__law_is_int (by decide +kernel) rfl rfl ck__law_is_int (He.glo_ok X G (c.fact 27 (f := .glo "_law_is_int") rfl))
    (binds_all F27 rfl rfl fun _ _ _ _ _ _ us hl => match us, hl with | [_], _ => rfl)
  obtain ⟨fd28, F28⟩ := c.def_ 28 rfl
  have a29 : AllK P w K mg base glo M ds29 29 := all_cons a28 g F28 sc__law_is_amount (by decide +kernel) rfl rfl ck__law_is_amount (He.glo_ok X G (c.fact 28 (f := .glo "_law_is_amount") rfl))
    (binds_all F28 rfl rfl fun _ _ _ _ _ _ us hl => match us, hl with | [_], _ => rfl)
  obtain ⟨fd29, F29⟩ := c.def_ 29 rfl
  have a30 : AllK P w K mg base glo M ds30 30 := all_cons a29 g F29 sc__law_pick (by decide +kernel) rfl rfl ck__law_pick (He.glo_ok X G (c.fact 29 (f := .glo "_law_pick") rfl))
    (binds_all F29 rfl rfl fun _ _ _ _ _ _ us hl => match us, hl with | [_, _], _ => rfl)
  obtain ⟨fd30, F30⟩ := c.def_ 30 rfl
  have a31 : AllK P w K mg base glo M ds31 31 := all_cons a30 g F30 sc__law_growths (by decide +kernel) rfl rfl ck__law_growths (He.glo_ok X G (c.fact 30 (f := .glo "_law_growths") rfl))
    (binds_all F30 rfl rfl fun _ _ _ _ _ _ us hl => match us, hl with | [_, _, _], _ => rfl)
  obtain ⟨fd31, F31⟩ := c.def_ 31 rfl
  have a32 : AllK P w K mg base glo M ds32 32 := all_cons a31 g F31 sc__law_less (by decide +kernel) rfl rfl ck__law_less (He.glo_ok X G (c.fact 31 (f := .glo "_law_less") rfl))
    (binds_all F31 rfl rfl fun _ _ _ _ _ _ us hl => match us, hl with | [_, _], _ => rfl)
  obtain ⟨fd32, F32⟩ := c.def_ 32 rfl
  have a33 : AllK P w K mg base glo M ds33 33 := all_cons a32 g F32 sc__law_shift (by decide +kernel) rfl rfl ck__law_shift (He.glo_ok X G (c.fact 32 (f := .glo "_law_shift") rfl))
    (binds_all F32 rfl rfl fun _ _ _ _ _ _ us hl => match us, hl with | [_, _, _], _ => rfl)
  obtain ⟨fd33, F33⟩ := c.def_ 33 rfl
  have a34 : AllK P w K mg base glo M ds34 34 := all_cons a33 g F33 sc__law_row_at (by decide +kernel) rfl rfl ck__law_row_at (He.glo_ok X G (c.fact 33 (f := .glo "_law_row_at") rfl))
    (binds_all F33 rfl rfl fun _ _ _ _ _ _ us hl => match us, hl with | [_, _], _ => rfl)
  obtain ⟨fd34, F34⟩ := c.def_ 34 rfl
  have a35 : AllK P w K mg base glo M ds35 35 := all_cons a34 g F34 sc_is_less (by decide +kernel) rfl rfl ck_is_less (He.glo_ok X G (c.fact 34 (f := .glo "is_less") rfl))
    (binds_all F34 rfl rfl fun _ _ _ _ _ _ us hl => match us, hl with | [_, _], _ => rfl)
  obtain ⟨fd35, F35⟩ := c.def_ 35 rfl
  have a36 : AllK P w K mg base glo M ds36 36 := all_cons a35 g F35 sc_is_beyond (by decide +kernel) rfl rfl ck_is_beyond (He.glo_ok X G (c.fact 35 (f := .glo "is_beyond") rfl))
    (binds_all F35 rfl rfl fun _ _ _ _ _ _ us hl => match us, hl with | [_, _], _ => rfl)
  obtain ⟨fd36, F36⟩ := c.def_ 36 rfl
  have a37 : AllK P w K mg base glo M ds37 37 := all_cons a36 g F36 sc_sign_of (by decide +kernel) rfl rfl ck_sign_of (He.glo_ok X G (c.fact 36 (f := .glo "sign_of") rfl))
    (binds_all F36 rfl rfl fun _ _ _ _ _ _ us hl => match us, hl with | [_], _ => rfl)
  obtain ⟨fd37, F37⟩ := c.def_ 37 rfl
  have a38 : AllK P w K mg base glo M ds38 38 := all_cons a37 g F37 sc_stretch_for (by decide +kernel) rfl rfl ck_stretch_for (He.glo_ok X G (c.fact 37 (f := .glo "stretch_for") rfl))
    (binds_all F37 rfl rfl fun _ _ _ _ _ _ us hl => match us, hl with | [_, _], _ => rfl)
  obtain ⟨fd38, F38⟩ := c.def_ 38 rfl
  have a39 : AllK P w K mg base glo M ds39 39 := all_cons a38 g F38 sc_row_at (by decide +kernel) rfl rfl ck_row_at (He.glo_ok X G (c.fact 38 (f := .glo "row_at") rfl))
    (binds_all F38 rfl rfl fun _ _ _ _ _ _ us hl => match us, hl with | [_, _], _ => rfl)
  obtain ⟨fd39, F39⟩ := c.def_ 39 rfl
  have a40 : AllK P w K mg base glo M ds40 40 := all_cons a39 g F39 sc__law_is_row (by decide +kernel) rfl rfl ck__law_is_row (He.glo_ok X G (c.fact 39 (f := .glo "_law_is_row") rfl))
    (binds_all F39 rfl rfl fun _ _ _ _ _ _ us hl => match us, hl with | [_, _], _ => rfl)
  obtain ⟨fd40, F40⟩ := c.def_ 40 rfl
  have a41 : AllK P w K mg base glo M ds41 41 := all_cons a40 g F40 sc__law_told_right (by decide +kernel) rfl rfl ck__law_told_right (He.glo_ok X G (c.fact 40 (f := .glo "_law_told_right") rfl))
    (binds_all F40 rfl rfl fun _ _ _ _ _ _ us hl => match us, hl with | [_, _], _ => rfl)
  exact a41
theorem facts {P : Program} {w : World} {K : PySem.W.Frag} {h : Heap} {mg : Str → Option Value} {f : Addr} (X : K.In h) (G : h.Ns mainGlobals mg) (hfa : mg ("law" : Str) = some (.ref f)) (c : He.SaysD fa fn K) (m : ex K = true) :
    ∃ fd : FuncData, (∀ (s : Shared) (v : Value), BindsTo s fd ⟨[v], []⟩ [("script", v)]) ∧ ∀ base : Heap, K.In base → base.Ns mainGlobals mg → FnOk P w K mg base (L2.CX P w) 42 f fd ["script"] fun vs H Q E => ∃ M, spOf (mkF glo M ds42) mg K 1 "law" vs H Q E := by
  obtain ⟨fd, F⟩ := c.def_ 41 rfl
  have hg : mg ("law" : Str) = some (.ref (He.ga K "law")) := He.glo_ok X G (c.fact 41 (f := .glo "law") rfl)
  have e := hfa.symm.trans hg
  cases e
  have b := FunD.bindsA (ps := ["script"]) F fun _ _ _ _ _ _ us hl => match us, hl with | [_], _ => rfl
  refine ⟨fd, fun s v => b s [v] rfl, fun base _ _ => FnOk.ex fun M => ?_⟩
  exact law_fn (d := d_law) (chain0 X G c m M) (gloF X G c m) F sc_law rfl rfl ck_law
end Wk31

set_option Elab.async false
set_option linter.all false
set_option maxRecDepth 100000
set_option maxHeartbeats 4000000
namespace Wk31
open PySem PySem.Spec PyProof.Rows L2 Dv
theorem f__law_draw : DrawS ((FU MM).call "_law_draw") := fun {n d m} hd hn h0 h1 => by rw [run__law_draw rfl]; exact draw_run hd hn h0 h1
theorem f__law_rare : ∀ {n : Nat} {d : D} {m : Int}, DS n d → n < 2 ^ 60 → 0 < m → m < 2 ^ 64 → ∃ b d', (FU MM).call "_law_rare" [.own d, .val (.int m)] = .ok (.val (.bl b), [.own d', .val (.int m)]) ∧ DS (n + 1) d' := fun {n d m} hd hn h0 h1 => by rw [run__law_rare rfl]; exact rare_run (by rw [up2__law_draw]; exact f__law_draw) dfl2 hd hn h0 h1
theorem f__law_pick : ∀ {n : Nat} {d : D} {row : List D} {R : A}, (R = .own (.lst row) ∨ R = .val (.lst row) ∨ R = .val (.tup row)) → DS n d → n < 2 ^ 60 → 0 < row.length → row.length < 2 ^ 62 → ∃ x d', (FU MM).call "_law_pick" [.own d, R] = .ok (.val x, [.own d', R]) ∧ x ∈ row ∧ DS (n + 1) d' := fun {n d row R} hR hd hn h0 h1 => by rw [run__law_pick rfl]; exact pick_run (by rw [up29__law_draw]; exact f__law_draw) dfl29 hR hd hn h0 h1
theorem f__law_shuffled : ∀ {n : Nat} {d : D} {row : List D} {R : A}, (R = .own (.lst row) ∨ R = .val (.lst row) ∨ R = .val (.tup row)) → DS n d → n < 2 ^ 59 → row.length < 16777216 → ∃ row' d', (FU MM).call "_law_shuffled" [.own d, R] = .ok (.own (.lst row'), [.own d', R]) ∧ row'.Perm row ∧ DS (n + row.length) d' := fun {n d row R} hR hd hn h1 => by rw [run__law_shuffled rfl]; exact shuf_run (by rw [up17__law_draw]; exact f__law_draw) dfl17 hR hd hn h1
theorem f__law_gcd : ∀ n d : Int, d.natAbs < oC → (FU MM).call "_law_gcd" [.val (.int n), .val (.int d)] = .ok (.val (.int ((Nat.gcd n.natAbs d.natAbs : Nat) : Int)), [.val (.int n), .val (.int d)]) := fun n d h => by rw [run__law_gcd rfl]; exact gcd_run (Nat.lt_of_lt_of_le h MM_oC)
theorem f__law_amount : AmountS ((FU MM).call "_law_amount") := fun n d h0 h => by rw [run__law_amount rfl]; exact amount_run (by rw [up4__law_gcd]; exact f__law_gcd) dfl4 n d h0 h
theorem f__law_plus : ∀ a b : Rat, Ok a → Ok b → (FU MM).call "_law_plus" [.val (am a), .val (am b)] = .ok (.val (am (a + b)), [.val (am a), .val (am b)]) := fun a b ha hb => by rw [run__law_plus rfl]; exact lplus_run (by rw [up5__law_amount]; exact f__law_amount) dfl5 a b ha hb
theorem f__law_minus : ∀ a b : Rat, Ok a → Ok b → (FU MM).call "_law_minus" [.val (am a), .val (am b)] = .ok (.val (am (a - b)), [.val (am a), .val (am b)]) := fun a b ha hb => by rw [run__law_minus rfl]; exact lminus_run (by rw [up11__law_amount]; exact f__law_amount) dfl11 a b ha hb
theorem f__law_times : ∀ a b : Rat, Ok a → Ok b → (FU MM).call "_law_times" [.val (am a), .val (am b)] = .ok (.val (am (a * b)), [.val (am a), .val (am b)]) := fun a b ha hb => by rw [run__law_times rfl]; exact ltimes_run (by rw [up10__law_amount]; exact f__law_amount) dfl10 a b ha hb
theorem f__law_int : ∀ i : Int, (FU MM).call "_law_int" [.val (.int i)] = .ok (.val (am (i : Rat)), [.val (.int i)]) := fun i => by rw [run__law_int rfl]; exact lint_run i
theorem f__law_less : LessS ((FU MM).call "_law_less") := fun a b ha hb => by rw [run__law_less rfl]; exact less_run a b ha hb
theorem f_is_less : LessS ((FU MM).call "is_less") := fun a b ha hb => by rw [run_is_less rfl]; exact less_run a b ha hb
theorem f__law_is_int : ∀ i : Int, (FU MM).call "_law_is_int" [.val (.int i)] = .ok (.val (.bl true), [.val (.int i)]) := fun i => by rw [run__law_is_int rfl]; exact is_int_run
theorem f__law_is_amount : ∀ q : Rat, Ok q → (FU MM).call "_law_is_amount" [.val (am q)] = .ok (.val (.bl true), [.val (am q)]) := fun q h => by rw [run__law_is_amount rfl]; exact is_am_run (by rw [up28__law_is_int]; exact f__law_is_int) (by rw [up28__law_gcd]; exact f__law_gcd) dfl28 h
theorem f__law_is_row : ∀ {l : List Rat} {n : Nat}, n = l.length → l.length < sizeLine → (∀ q ∈ l, Ok q) → (FU MM).call "_law_is_row" [.val (.tup (l.map am)), .val (.int (n : Nat))] = .ok (.val (.bl true), [.val (.tup (l.map am)), .val (.int (n : Nat))]) := fun {l n} hn hl h => by rw [run__law_is_row rfl]; exact is_row_run (by rw [up39__law_is_amount]; exact f__law_is_amount) dfl39 hn hl h
theorem f_reduced : RedS ((FU MM).call "reduced") := fun n d h0 h => by rw [run_reduced rfl]; exact reduced_run n d h0 h
theorem f_plus : ∀ a b : Rat, Ok a → Ok b → (FU MM).call "plus" [.val (am a), .val (am b)] = .ok (.val (am (a + b)), [.val (am a), .val (am b)]) := fun a b ha hb => by rw [run_plus rfl]; exact plus_run (by rw [up20_reduced]; exact f_reduced) dfl20 a b ha hb
theorem f_minus : ∀ a b : Rat, Ok a → Ok b → (FU MM).call "minus" [.val (am a), .val (am b)] = .ok (.val (am (a - b)), [.val (am a), .val (am b)]) := fun a b ha hb => by rw [run_minus rfl]; exact minus_run (by rw [up23_reduced]; exact f_reduced) dfl23 a b ha hb
theorem f_times : ∀ a b : Rat, Ok a → Ok b → (FU MM).call "times" [.val (am a), .val (am b)] = .ok (.val (am (a * b)), [.val (am a), .val (am b)]) := fun a b ha hb => by rw [run_times rfl]; exact times_run (by rw [up21_reduced]; exact f_reduced) dfl21 a b ha hb
theorem f_sign_of : ∀ q : Rat, (FU MM).call "sign_of" [.val (am q)] = .ok (.val (.int (if q < 0 then -1 else if 0 < q then 1 else 0)), [.val (am q)]) := fun q => by rw [run_sign_of rfl]; exact sign_run q
end Wk31

set_option Elab.async false
set_option linter.all false
set_option maxRecDepth 100000
set_option maxHeartbeats 4000000
namespace Wk31
open PySem PySem.Spec PyProof.Rows L2 Dv
theorem gap_ok {n : Nat} {d : D} (hd : DS n d) (hn : n < 2 ^ 50) : ∃ q d', (FU MM).call "_law_gap" [.own d] = .ok (.val (am q), [.own d']) ∧ Bd 6 144 q ∧ 0 < q ∧ DS (n + 2) d' := by
  obtain ⟨r, d1, e1, h1, hd1⟩ := f__law_draw (m := 5) hd (by omega) (by omega) (by omega)
  obtain ⟨s, d2, e2, h2, hd2⟩ := f__law_draw (m := 24) hd1 (by omega) (by omega) (by omega)
  rw [run__law_gap rfl]
  have key : ∀ u c : Int, 0 < u → u < 4 → 0 ≤ c → c ≤ 6 → 6 = u * c → Bd 6 144 (Rat.divInt (1 + (s : Int)) u) ∧ 0 < Rat.divInt (1 + (s : Int)) u := fun u c h0 h1 h3 h4 h5 =>
    ⟨Bd.divInt c (by omega) h5 (by
      rw [Int.natAbs_mul]
      exact (show _ ≤ 24 * 6 from Nat.mul_le_mul (by omega) (by omega))), divInt_pos (by omega) h0⟩
  have am' : ∀ u : Int, 0 < u → u < 4 → (FU MM).call "_law_amount" [.val (.int (1 + (s : Int))), .val (.int u)] = .ok (.val (am (Rat.divInt (1 + (s : Int)) u)), [.val (.int (1 + (s : Int))), .val (.int u)]) := fun u h0 h1 => f__law_amount _ _ (by omega) (oC_big (by omega))
  have k5 : 5 ≤ sizeLine := by decide
  have a1 := am' 1 (by omega) (by omega)
  have a2 := am' 2 (by omega) (by omega)
  have a3 := am' 3 (by omega) (by omega)
  rcases (by omega : r = 0 ∨ r = 1 ∨ r = 2 ∨ r = 3 ∨ r = 4) with rfl | rfl | rfl | rfl | rfl
  · exact ⟨_, d2, by simp [b__law_gap, Dv.envOf, e1, e2, k5, a1], (key 1 6 (by omega) (by omega) (by omega) (by omega) (by omega)).1, (key 1 6 (by omega) (by omega) (by omega) (by omega) (by omega)).2, hd2⟩
  · exact ⟨_, d2, by simp [b__law_gap, Dv.envOf, e1, e2, k5, a1], (key 1 6 (by omega) (by omega) (by omega) (by omega) (by omega)).1, (key 1 6 (by omega) (by omega) (by omega) (by omega) (by omega)).2, hd2⟩
  · exact ⟨_, d2, by simp [b__law_gap, Dv.envOf, e1, e2, k5, a1], (key 1 6 (by omega) (by omega) (by omega) (by omega) (by omega)).1, (key 1 6 (by omega) (by omega) (by omega) (by omega) (by omega)).2, hd2⟩
  · exact ⟨_, d2, by simp [b__law_gap, Dv.envOf, e1, e2, k5, a2], (key 2 3 (by omega) (by omega) (by omega) (by omega) (by omega)).1, (key 2 3 (by omega) (by omega) (by omega) (by omega) (by omega)).2, hd2⟩
  · exact ⟨_, d2, by simp [b__law_gap, Dv.envOf, e1, e2, k5, a3], (key 3 2 (by omega) (by omega) (by omega) (by omega) (by omega)).1, (key 3 2 (by omega) (by omega) (by omega) (by omega) (by omega)).2, hd2⟩
theorem lows_ok {n many : Nat} {d : D} (hd : DS n d) (hn : n < 2 ^ 40) (hm : many ≤ 40) : ∃ (low : Nat → Rat) (d' : D), (FU MM).call "_law_lows" [.own d, .val (.int (many : Nat))] = .ok (.own (.lst ((List.range many).map fun k => am (low k))), [.own d', .val (.int (many : Nat))]) ∧
    low 0 = 0 ∧ (∀ k, k < many → low k < low (k + 1)) ∧ (∀ k, k ≤ many → Bd 6 (144 * k) (low k)) ∧ DS (n + 80) d' := by
  obtain ⟨ρ', ⟨low, d', o, rfl, h0, h1, h2, h3, _⟩, e⟩ := for_rng (F := F7 MM) (N := MM) (S := S__law_lows_0) rfl (m := many) (ρ := [some (.own true d), some (.val (.int (many : Nat))), some (.val (am 0)), some (.own false (.lst [])), none])
    (ρ1 := [some (.own true d), some (.val (.int (many : Nat))), some (.val (am 0)), some (.own false (.lst [])), none])
    (fun i ρ => ∃ (low : Nat → Rat) (d' : D) (o : Option S), ρ = [some (.own true d'), some (.val (.int (many : Nat))), some (.val (am (low i))), some (.own false (.lst ((List.range i).map fun k => am (low k)))), o] ∧
      low 0 = 0 ∧ (∀ k, k < i → low k < low (k + 1)) ∧ (∀ k, k ≤ i → Bd 6 (144 * k) (low k)) ∧ DS (n + 2 * i) d' ∧ gFree (some o) = true)
    (evi_rng (by simp) (by omega)) ⟨fun _ => 0, d, none, by simp, rfl, fun k h => by omega, fun k h => Bd.zero, hd, rfl⟩
    (fun i ρ hi ⟨low, d', o, e, h0, h1, h2, h3, ho⟩ => by
      subst e
      obtain ⟨q, d2, e2, hq, hp, hd2⟩ := gap_ok h3 (by omega)
      have hb := h2 i (Nat.le_refl _)
      have e3 := f__law_plus (low i) q (K.ok (hb.k (k := 13) (by omega) (by omega) (by omega) (by omega)) (by omega)) (K.ok (hq.k (k := 13) (by omega) (by omega) (by omega) (by omega)) (by omega))
      have hs : i < sizeLine := len_lt (by omega)
      refine ⟨_, .inl ?_, fun k => if k ≤ i then low k else low i + q, d2, some (.val (.int (i : Nat))), rfl, ?_, ?_, ?_, ?_, rfl⟩
      · rw [rng_snoc, rng_congr (f := fun k => am (if k ≤ i then low k else low i + q)) (g := fun k => am (low k)) fun k hk => by simp only [if_pos (show k ≤ i by omega)]]
        simp [turnX, B__law_lows_0, ho, e2, e3, hs, show ¬ (i + 1 ≤ i) by omega]
      · simp [h0]
      · intro k hk
        by_cases hki : k < i
        · simp only [if_pos (by omega : k ≤ i), if_pos (by omega : k + 1 ≤ i)]
          exact h1 k hki
        · obtain rfl : k = i := by omega
          simp only [if_pos (by omega : k ≤ k), if_neg (by omega : ¬ (k + 1 ≤ k))]
          grind
      · intro k hk
        by_cases hki : k ≤ i
        · simp only [if_pos hki]
          exact h2 k hki
        · simp only [if_neg hki]
          obtain rfl : k = i + 1 := by omega
          exact (Bd.add hb hq).mono (by omega)
      · exact hd2.mono (by omega))
  refine ⟨low, d', ?_, h0, h1, h2, h3.mono (by omega)⟩
  rw [run__law_lows rfl]
  have k2 : 2 ≤ sizeLine := by decide
  simp [b__law_lows, Dv.envOf, k2, e]
end Wk31

set_option Elab.async false
set_option linter.all false
set_option maxRecDepth 100000
set_option maxHeartbeats 4000000
namespace Wk31
open PySem PySem.Spec PyProof.Rows L2 Dv
def pr (b s : Rat) : D := .tup [am b, am s]
structure Tr where
  f : Rat
  b : Nat → Rat
  s : Nat → Rat
def trD (n : Nat) (t : Tr) : D := .lst [am t.f, .lst ((List.range n).map fun k => pr (t.b k) (t.s k))]
abbrev lwD (n : Nat) (low : Nat → Rat) : D := .lst ((List.range n).map fun k => am (low k))
def ahead (low : Nat → Rat) (t : Tr) : Nat → Rat
  | 0 => t.f
  | k + 1 => t.b k + t.s k * (low (k + 1) - low k)
def rB (low rise : Nat → Rat) (start : Rat) : Nat → Rat
  | 0 => start
  | k + 1 => rB low rise start k + rise k * (low (k + 1) - low k)
abbrev rTr (low rise : Nat → Rat) (start : Rat) : Tr := ⟨start, rB low rise start, rise⟩
theorem rTr_ahead {low rise : Nat → Rat} {start : Rat} (k : Nat) : (rTr low rise start).b k = ahead low (rTr low rise start) k := by cases k <;> rfl
/-- sizes of a track -/
def TrK (n : Nat) (t : Tr) : Prop := K 60 t.f ∧ ∀ k, k < n → K 60 (t.b k) ∧ K 60 (t.s k)
section
variable {n : Nat} {low : Nat → Rat}
theorem rB_bd {rise : Nat → Rat} {start : Rat} (hl : ∀ k, k < n → Bd 6 5760 (low k)) (hs : Bd 2160 10000000 start) (hr : ∀ k, k < n → Bd 360 2000 (rise k)) : ∀ k, k < n → Bd 2160 (10000000 + k * 23040000) (rB low rise start k)
  | 0, _ => hs
  | k + 1, hk => by
    have h1 := rB_bd hl hs hr k (by omega)
    have h2 : Bd 2160 23040000 (rise k * (low (k + 1) - low k)) := (hr k (by omega)).mul ((hl (k + 1) hk).sub (hl k (by omega)))
    exact (h1.add h2).mono (by omega)
theorem rTr_K {rise : Nat → Rat} {start : Rat} (hn : n ≤ 40) (hl : ∀ k, k < n → Bd 6 5760 (low k)) (hs : Bd 2160 10000000 start) (hr : ∀ k, k < n → Bd 360 2000 (rise k)) : TrK n (rTr low rise start) :=
  ⟨hs.k60 (by omega) (by omega) (by omega), fun k hk => ⟨(rB_bd hl hs hr k hk).k60 (by omega) (by omega) (by omega), (hr k hk).k60 (by omega) (by omega) (by omega)⟩⟩
theorem rising_ok {rise : Nat → Rat} {start : Rat} (hn : n ≤ 40) (hl : ∀ k, k < n → Bd 6 5760 (low k)) (hs : Bd 2160 10000000 start) (hr : ∀ k, k < n → Bd 360 2000 (rise k)) :
    (FU MM).call "_law_rising" [.own (lwD n low), .val (am start), .own (lwD n rise)] = .ok (.own (trD n (rTr low rise start)), [.own (lwD n low), .val (am start), .own (lwD n rise)]) := by
  have hK := rTr_K hn hl hs hr
  obtain ⟨ρ', ⟨o, rfl, _⟩, e⟩ := for_rng (F := F12 MM) (N := MM) (S := S__law_rising_0) rfl (m := n) (ρ := [some (.own true (lwD n low)), some (.val (am start)), some (.own true (lwD n rise)), some (.val (am start)), some (.own false (.lst [])), none])
    (ρ1 := [some (.own true (lwD n low)), some (.val (am start)), some (.own true (lwD n rise)), some (.val (am start)), some (.own false (.lst [])), none])
    (fun i ρ => ∃ o, ρ = [some (.own true (lwD n low)), some (.val (am start)), some (.own true (lwD n rise)), some (.val (am (rB low rise start (i - 1)))), some (.own false (.lst ((List.range i).map fun k => pr (rB low rise start k) (rise k)))), o] ∧ gFree (some o) = true)
    (evi_rng (by simp) (by omega)) ⟨none, rfl, rfl⟩
    (fun i ρ hi ⟨o, e, ho⟩ => by
      subst e
      refine ⟨_, .inl ?_, some (.val (.int (i : Nat))), rfl, rfl⟩
      rw [rng_snoc]
      have hz : i < sizeLine := len_lt (by omega)
      have k2 : 2 ≤ sizeLine := by decide
      cases i with
      | zero =>
        have a0 : atI ((List.range n).map fun k => am (rise k)) 0 = some (am (rise 0)) := atI_rng (k := 0) hi
        simp [turnX, B__law_rising_0, ho, a0, pr, rB, k2, hz]
      | succ j =>
        have a1 : atI ((List.range n).map fun k => am (low k)) (j : Int) = some (am (low j)) := atI_rng (by omega)
        have a2 : atI ((List.range n).map fun k => am (low k)) ((j : Int) + 1) = some (am (low (j + 1))) := atI_rng (k := j + 1) hi
        have a3 : atI ((List.range n).map fun k => am (rise k)) (j : Int) = some (am (rise j)) := atI_rng (by omega)
        have a4 : atI ((List.range n).map fun k => am (rise k)) ((j : Int) + 1) = some (am (rise (j + 1))) := atI_rng (k := j + 1) hi
        have l1 := (hl (j + 1) hi).k60 (by omega) (by omega) (by omega)
        have l2 := (hl j (by omega)).k60 (by omega) (by omega) (by omega)
        have l3 := (hr j (by omega)).k60 (by omega) (by omega) (by omega)
        have e1 := f__law_minus _ _ l1.ok60 l2.ok60
        have e2 := f__law_times _ _ l3.ok60 ((l1.sub l2).ok (by decide))
        have e3 := f__law_plus _ _ (hK.2 j (by omega)).1.ok60 ((l3.mul (l1.sub l2)).ok (by decide))
        have p1 : (0 : Int) < (j : Int) + 1 := by omega
        simp [turnX, B__law_rising_0, ho, a1, a2, a3, a4, e1, e2, e3, pr, rB, k2, hz, p1])
  rw [run__law_rising rfl]
  have k2 : 2 ≤ sizeLine := by decide
  simp [b__law_rising, Dv.envOf, k2, e, trD]
/-! a ring that jumps -/
def jOne (low : Nat → Rat) (at_ : Nat) (start speed height : Rat) : Tr := ⟨start, fun k => if k < at_ then start + speed * low k else start + speed * low k + height, fun _ => speed⟩
def jTwo (low : Nat → Rat) (at_ : Nat) (speed height : Rat) : Tr := ⟨speed * (0 - low at_), fun k => if k < at_ then speed * (low k - low at_) else height, fun k => if k < at_ then speed else 0⟩
theorem jumping_ok {at_ : Nat} {start speed height : Rat} (hn : n ≤ 40) (ha : at_ < n) (hl : ∀ k, k < n → Bd 6 5760 (low k)) (h1 : Bd 1 100 start) (h2 : Bd 6 24 speed) (h3 : Bd 6 144 height) :
    (FU MM).call "_law_jumping" [.own (lwD n low), .val (.int (at_ : Nat)), .val (am start), .val (am speed), .val (am height)] =
      .ok (.own (.lst [trD n (jOne low at_ start speed height), trD n (jTwo low at_ speed height)]), [.own (lwD n low), .val (.int (at_ : Nat)), .val (am start), .val (am speed), .val (am height)]) := by
  have lK := fun k hk => (hl k hk).k60 (by omega) (by omega) (by omega)
  have sK := h1.k60 (by omega) (by omega) (by omega)
  have vK := h2.k60 (by omega) (by omega) (by omega)
  have hK := h3.k60 (by omega) (by omega) (by omega)
  have aA : atI ((List.range n).map fun k => am (low k)) (at_ : Int) = some (am (low at_)) := atI_rng ha
  obtain ⟨ρ', ⟨o1, o2, o3, rfl, _⟩, e⟩ := for_rng (F := F14 MM) (N := MM) (S := S__law_jumping_0) rfl (m := n) (ρ := [some (.own true (lwD n low)), some (.val (.int (at_ : Nat))), some (.val (am start)), some (.val (am speed)), some (.val (am height)), some (.own false (.lst [])), some (.own false (.lst [])), none, none, none])
    (ρ1 := [some (.own true (lwD n low)), some (.val (.int (at_ : Nat))), some (.val (am start)), some (.val (am speed)), some (.val (am height)), some (.own false (.lst [])), some (.own false (.lst [])), none, none, none])
    (fun i ρ => ∃ o1 o2 o3, ρ = [some (.own true (lwD n low)), some (.val (.int (at_ : Nat))), some (.val (am start)), some (.val (am speed)), some (.val (am height)), some (.own false (.lst ((List.range i).map fun k => pr ((jOne low at_ start speed height).b k) ((jOne low at_ start speed height).s k)))),
      some (.own false (.lst ((List.range i).map fun k => pr ((jTwo low at_ speed height).b k) ((jTwo low at_ speed height).s k)))), o1, o2, o3] ∧ gFree (some o1) = true ∧ gFree (some o2) = true ∧ gFree (some o3) = true)
    (evi_rng (by simp) (by omega)) ⟨none, none, none, rfl, rfl, rfl, rfl⟩
    (fun i ρ hi ⟨o1, o2, o3, e, ho1, ho2, ho3⟩ => by
      subst e
      refine ⟨_, .inl ?_, some (.val (.int (i : Nat))), some (.val (am (start + speed * low i))), some (.val (am (speed * (low i - low at_)))), rfl, rfl, rfl, rfl⟩
      rw [rng_snoc, rng_snoc]
      have hz : i < sizeLine := len_lt (by omega)
      have k2 : 2 ≤ sizeLine := by decide
      have a1 : atI ((List.range n).map fun k => am (low k)) (i : Int) = some (am (low i)) := atI_rng hi
      have e1 := f__law_times _ _ vK.ok60 (lK i hi).ok60
      have e2 := f__law_plus _ _ sK.ok60 ((vK.mul (lK i hi)).ok (by decide))
      have e3 := f__law_minus _ _ (lK i hi).ok60 (lK at_ ha).ok60
      have e4 := f__law_times _ _ vK.ok60 (((lK i hi).sub (lK at_ ha)).ok (by decide))
      have e5 := f__law_plus _ _ ((sK.add (vK.mul (lK i hi))).ok (by decide)) hK.ok60
      by_cases hc : i < at_
      · simp [turnX, B__law_jumping_0, ho1, ho2, ho3, a1, aA, e1, e2, e3, e4, e5, pr, jOne, jTwo, k2, hz, hc]
      · simp [turnX, B__law_jumping_0, ho1, ho2, ho3, a1, aA, e1, e2, e3, e4, e5, pr, jOne, jTwo, k2, hz, hc])
  rw [run__law_jumping rfl]
  have k2 : 2 ≤ sizeLine := by decide
  have e3 := f__law_minus 0 _ (K.zero.ok (by decide)) (lK at_ ha).ok60
  have e4 := f__law_times _ _ vK.ok60 ((K.zero.sub (lK at_ ha)).ok (by decide))
  simp [b__law_jumping, Dv.envOf, k2, e, trD, aA, e3, e4]
  simp [jOne, jTwo]
end
end Wk31

set_option Elab.async false
set_option linter.all false
set_option maxRecDepth 100000
set_option maxHeartbeats 4000000
namespace Wk31
open PySem PySem.Spec PyProof.Rows L2 Dv
theorem claim_ok {n : Nat} {d : D} (hd : DS n d) (hn : n < 2 ^ 50) : ∃ q d', (FU MM).call "_law_claim" [.own d] = .ok (.val (am q), [.own d']) ∧ Bd 60 12000 q ∧ DS (n + 3) d' := by
  obtain ⟨r, d1, e1, h1, hd1⟩ := f__law_draw (m := 6) hd (by omega) (by omega) (by omega)
  rw [run__law_claim rfl]
  have k2 : 2 ≤ sizeLine := by decide
  by_cases hr : r = 0
  · subst hr
    obtain ⟨s, d2, e2, h2, hd2⟩ := f__law_draw (m := 200) hd1 (by omega) (by omega) (by omega)
    obtain ⟨u, d3, e3, h3, hd3⟩ := f__law_draw (m := 6) hd2 (by omega) (by omega) (by omega)
    have e4 := f__law_amount (s : Int) (1 + (u : Int)) (by omega) (oC_big (by omega))
    refine ⟨Rat.divInt (s : Int) (1 + (u : Int)), d3, by simp [b__law_claim, Dv.envOf, e1, e2, e3, e4], ?_, hd3⟩
    have key : ∀ c : Int, 0 ≤ c → c ≤ 60 → ((60 : Nat) : Int) = (1 + (u : Int)) * c → Bd 60 12000 (Rat.divInt (s : Int) (1 + (u : Int))) := fun c h4 h5 h6 =>
      Bd.divInt c (by omega) h6 (by
        rw [Int.natAbs_mul]
        exact (show _ ≤ 200 * 60 from Nat.mul_le_mul (by omega) (by omega)))
    rcases (by omega : u = 0 ∨ u = 1 ∨ u = 2 ∨ u = 3 ∨ u = 4 ∨ u = 5) with rfl | rfl | rfl | rfl | rfl | rfl
    · exact key 60 (by omega) (by omega) (by omega)
    · exact key 30 (by omega) (by omega) (by omega)
    · exact key 20 (by omega) (by omega) (by omega)
    · exact key 15 (by omega) (by omega) (by omega)
    · exact key 12 (by omega) (by omega) (by omega)
    · exact key 10 (by omega) (by omega) (by omega)
  · obtain ⟨s, d2, e2, h2, hd2⟩ := f__law_draw (m := 60) hd1 (by omega) (by omega) (by omega)
    have hm : ∀ x : Int, 0 ≤ x → x ≤ 1 → CMulX 30 x := fun x a b => mul_small (by decide) (by omega)
    by_cases hr1 : r = 1
    · subst hr1
      have m1 := hm 1 (by omega) (by omega)
      refine ⟨(((s : Int) - 30 : Int) : Rat), d2, by simp [b__law_claim, Dv.envOf, e1, e2, k2, m1, am_int], Bd.int (by omega), hd2.mono (by omega)⟩
    · have m0 := hm 0 (by omega) (by omega)
      refine ⟨((s : Int) : Rat), d2, by simp [b__law_claim, Dv.envOf, e1, e2, k2, m0, hr, show ¬ ((r : Int) = 1) by omega, am_int], Bd.int (by omega), hd2.mono (by omega)⟩
section
variable {n : Nat} {low : Nat → Rat}
theorem ending_ok {end_ start speed : Rat} (hn : n ≤ 40) (hl : ∀ k, k < n → Bd 6 5760 (low k)) (h1 : Bd 1 100 start) (h2 : Bd 2 4 speed) (h3 : Bd 6 6000 end_) :
    (FU MM).call "_law_ending" [.own (lwD n low), .val (am end_), .val (am start), .val (am speed)] =
      .ok (.own (.lst [trD n (rTr low (fun _ => speed) start), trD n (rTr low (fun _ => speed) (speed * (0 - end_)))]), [.own (lwD n low), .val (am end_), .val (am start), .val (am speed)]) := by
  have sB : Bd 360 720 speed := h2.lift 180
  have eB : Bd 2160 4320000 (speed * (0 - end_)) := (h2.mul ((Bd.zero (L := 6) (N := 0)).sub h3)).lift 180
  have vK := h2.k60 (by omega) (by omega) (by omega)
  have eK := h3.k60 (by omega) (by omega) (by omega)
  have c0 : ev (F16 MM) C__law_ending_0 [some (.own true (lwD n low)), some (.val (am end_)), some (.val (am start)), some (.val (am speed)), none, none] =
      .ok (.own (lwD n fun _ => speed), [some (.own true (lwD n low)), some (.val (am end_)), some (.val (am start)), some (.val (am speed)), none, none]) :=
    comp_mapE (xs := List.range n) (f := fun k => am (low k)) (g := fun _ => am speed) (ρ1 := [some (.own true (lwD n low)), some (.val (am end_)), some (.val (am start)), some (.val (am speed)), none, none]) (ρw := [some (.lck true (lwD n low)), some (.val (am end_)), some (.val (am start)), some (.val (am speed)), none, none]) (p := .at_ 0)
      (by simp) (by simp) (by rw [List.length_range]; exact len_lt (by omega)) (fun x _ => by simp [turnW, turnR, E__law_ending_0]) (fun out => by simp [compEnd])
  have r1 := rising_ok (start := start) hn hl ((h1.lift 2160).mono (by omega)) (fun k _ => sB.mono (by omega))
  have r2 := rising_ok (start := speed * (0 - end_)) hn hl (eB.mono (by omega)) (fun k _ => sB.mono (by omega))
  have e3 := f__law_minus 0 _ (K.zero.ok (by decide)) eK.ok60
  have e4 := f__law_times _ _ vK.ok60 ((K.zero.sub eK).ok (by decide))
  have k2 : 2 ≤ sizeLine := by decide
  rw [run__law_ending rfl]
  simp [b__law_ending, Dv.envOf, c0, r1, r2, e3, e4, k2]
end
end Wk31

set_option Elab.async false
set_option linter.all false
set_option maxRecDepth 100000
set_option maxHeartbeats 4000000
namespace Wk31
open PySem PySem.Spec PyProof.Rows L2 Dv
theorem nice_iss {l : List (List Nat)} : nice 2 (.lst (l.map fun z => D.lst (z.map iD))) := fun e he => by
  obtain ⟨z, _, rfl⟩ := List.mem_map.mp he
  exact nice_ints
abbrev isD (l : List Nat) : D := .lst (l.map iD)
/-- a row of drawn parts -/
theorem parts_ok {F : Fn} (hF : F.call "_law_draw" = (FU MM).call "_law_draw") (hdfl : ∀ f n, F.dfl f n = []) {C : Ex} (hC : C = .comp (.call "_law_draw" (.cons (.var 0) (.cons (.cst (.int 7)) .nil))) (.nm 7) (.rng (.var 3)) .none [7]) {n takers : Nat} {d : D} {s1 s2 o4 o5 o6 o8 : Option S} (hd : DS n d) (hn : n < 2 ^ 45) (ht : takers ≤ 3) :
    ∃ (zs : List Nat) (d' : D), ev F C [some (.own true d), s1, s2, some (.val (.int (takers : Nat))), o4, o5, o6, none, o8, none] = .ok (.own (isD zs), [some (.own true d'), s1, s2, some (.val (.int (takers : Nat))), o4, o5, o6, none, o8, none]) ∧
      zs.length = takers ∧ (∀ z ∈ zs, z < 7) ∧ DS (n + 3) d' := by
  obtain ⟨zs, d', e, h1, h2, h3⟩ := comp_drE (F := F) (elt := .call "_law_draw" (.cons (.var 0) (.cons (.cst (.int 7)) .nil))) (tg := .nm 7) (it := .rng (.var 3)) (ifs := .none) (own := [7]) (ρ := [some (.own true d), s1, s2, some (.val (.int (takers : Nat))), o4, o5, o6, none, o8, none])
    (ρ1 := [some (.own true d), s1, s2, some (.val (.int (takers : Nat))), o4, o5, o6, none, o8, none]) (p := .val .non) (xs := List.range takers) (f := fun k => D.int (k : Nat)) (h := fun z : Nat => D.int (z : Nat)) (Q := fun _ z => z < 7)
    (E := fun d => [some (.own true d), s1, s2, some (.val (.int (takers : Nat))), o4, o5, o6, none, o8, none]) (E' := fun d => [some (.own true d), s1, s2, some (.val (.int (takers : Nat))), o4, o5, o6, none, o8, none])
    1 (evi_rng (by simp) (by omega)) (by simp) (by rw [List.length_range]; exact len_lt (by omega)) hd
    (fun i x d hx hd' => by
      have hi : i < takers := by simpa using (List.getElem?_eq_some_iff.mp hx).1
      obtain ⟨r, d2, e2, h3, h4⟩ := f__law_draw (m := 7) hd' (by omega) (by omega) (by omega)
      exact ⟨r, d2, by simp [turnW, turnR, hF, hdfl, e2], by omega, h4⟩) (fun d out => by simp [compEnd])
  rw [List.length_range] at h1 h3
  subst hC
  exact ⟨zs, d', e, h1, fun z hz => by
    obtain ⟨i, hi, rfl⟩ := List.mem_iff_getElem.mp hz
    exact h2 i _ (List.getElem?_eq_getElem hi), h3.mono (by omega)⟩
theorem first_up {zs : List Nat} (h : 0 < zs.length) : ∃ ys : List Nat, (∃ z : Nat, atI (zs.map iD) 0 = some (.int (z : Nat)) ∧ z ∈ zs ∧ (zs.map iD).set 0 (.int (((z : Int) + 1).fmod 7)) = ys.map iD) ∧ ys.length = zs.length ∧ ((∀ z ∈ zs, z < 7) → ∀ z ∈ ys, z < 7) := by
  cases zs with
  | nil => simp at h
  | cons a t =>
    refine ⟨((a + 1) % 7) :: t, ⟨a, by simp, List.mem_cons_self, ?_⟩, by simp, fun h7 z hz => ?_⟩
    · simp
      exact Int.fmod_eq_emod_of_nonneg _ (by omega)
    · rcases List.mem_cons.mp hz with rfl | hz
      · omega
      · exact h7 z (List.mem_cons_of_mem _ hz)
def sBlk : Sxs := (.cons (.set 8 C__law_slopes_by_stretch_2) (.cons 
    (.ite (.cmp .Eq (.var 8) (.var 4)) (.cons 
    (.setI 8 (.cst (.int 0)) (.bin .Mod (.blt .int (.cons (.bin .Add (.idx (.var 8) (.cst (.int 0))) (.cst (.int 1))) .nil)) (.cst (.int 7)))) .nil) .nil) (.cons 
    (.set 4 (.var 8)) .nil)))
theorem sB : B__law_slopes_by_stretch_1 = (.cons 
    (.ite (.or_ (.cons (.cmp .NotIn (.var 6) (.var 2)) (.cons (.cmp .Eq (.call "_law_draw" (.cons (.var 0) (.cons (.cst (.int 2)) .nil))) (.cst (.int 0))) .nil))) sBlk .nil) (.cons 
    (.expr (.chg .append 5 (.cons (.var 4) .nil))) .nil)) := rfl
abbrev sEnv (d : D) (many : Nat) (js : List Nat) (takers : Nat) (last : List Nat) (found : List (List Nat)) (o6 o8 : Option S) : Env' :=
  [some (.own true d), some (.val (.int (many : Nat))), some (.own true (isD js)), some (.val (.int (takers : Nat))), some (.val (isD last)), some (.own false (.lst (found.map isD))), o6, none, o8, none]
theorem s_step {n many takers i : Nat} {js last : List Nat} {found : List (List Nat)} {d : D} {o6 o8 : Option S} (h6 : gFree (some o6) = true) (h8 : gFree (some o8) = true) (hd : DS n d) (hn : n < 2 ^ 40) (ht : takers ≤ 3) (h0 : 0 < takers) (hf : found.length < 100)
    (hl : last.length = takers) (h7 : ∀ z ∈ last, z < 7) :
    ∃ last' d' o8', turnX (F8 MM) MM (.nm 6) B__law_slopes_by_stretch_1 (.int (i : Nat)) (sEnv d many js takers last found o6 o8) = .ok (.nx, sEnv d' many js takers last' (found ++ [last']) (some (.val (.int (i : Nat)))) o8') ∧ gFree (some o8') = true ∧ last'.length = takers ∧ (∀ z ∈ last', z < 7) ∧ DS (n + 4) d' := by
  have hz : found.length < sizeLine := len_lt (by omega)
  have inj := in_ints (k := i) (l := js)
  -- the new row, if there is one
  have row : ∀ (m : Nat) (d : D), DS m d → m < 2 ^ 41 → ∃ zs d', ev (F8 MM) C__law_slopes_by_stretch_2 (sEnv d many js takers last found (some (.val (.int (i : Nat)))) o8) = .ok (.own (isD zs), sEnv d' many js takers last found (some (.val (.int (i : Nat)))) o8) ∧ zs.length = takers ∧ (∀ z ∈ zs, z < 7) ∧ DS (m + 3) d' := fun m d hd hm =>
    parts_ok (F := F8 MM) up8__law_draw dfl8 rfl hd (by omega) ht
  have go : ∀ (m : Nat) (d : D), DS m d → m < 2 ^ 41 → ∃ last' d', exs (F8 MM) MM sBlk (sEnv d many js takers last found (some (.val (.int (i : Nat)))) o8) = .ok (.nx, sEnv d' many js takers last' found (some (.val (.int (i : Nat)))) (some (.val (isD last')))) ∧ last'.length = takers ∧ (∀ z ∈ last', z < 7) ∧ DS (m + 3) d' := fun m d hd hm => by
    obtain ⟨zs, d', e, hzl, hz7, hd'⟩ := row m d hd hm
    have eq1 := eq_nice (k := 1) (d := isD zs) (e := isD last) nice_ints nice_ints (by decide)
    by_cases hc : isD zs = isD last
    · obtain ⟨ys, ⟨z, a0, _, hs⟩, hyl, hy7⟩ := first_up (zs := zs) (by omega)
      rw [decide_eq_true hc] at eq1
      have hix : ixN zs.length 0 = some 0 := by unfold ixN; rw [if_pos (by omega), if_pos (by omega)]; rfl
      refine ⟨ys, d', ?_, by omega, hy7 hz7, hd'⟩
      simp [sBlk, e, h8, eq1, a0, -c36_dCmp, hix, hs]
    · rw [decide_eq_false hc] at eq1
      refine ⟨zs, d', ?_, hzl, hz7, hd'⟩
      simp [sBlk, e, h8, eq1, -c36_dCmp]
  by_cases hi : i ∈ js
  · rw [decide_eq_true hi] at inj
    obtain ⟨r, d1, e1, h1, hd1⟩ := f__law_draw (m := 2) hd (by omega) (by omega) (by omega)
    by_cases hr : r = 0
    · subst hr
      obtain ⟨last', d2, e2, h2, h3, h4⟩ := go _ d1 hd1 (by omega)
      refine ⟨last', d2, some (.val (isD last')), ?_, rfl, h2, h3, h4⟩
      simp [turnX, sB, h6, inj, e1, e2, hz]
    · refine ⟨last, d1, o8, ?_, h8, hl, h7, hd1.mono (by omega)⟩
      simp [turnX, sB, h6, inj, e1, hz, hr]
  · rw [decide_eq_false hi] at inj
    obtain ⟨last', d2, e2, h2, h3, h4⟩ := go _ d hd (by omega)
    refine ⟨last', d2, some (.val (isD last')), ?_, rfl, h2, h3, h4.mono (by omega)⟩
    simp [turnX, sB, h6, inj, e2, hz]
theorem slopes_ok {n many takers : Nat} {js : List Nat} {d : D} (hd : DS n d) (hn : n < 2 ^ 39) (ht : takers ≤ 3) (h0 : 0 < takers) (hm : many ≤ 40) :
    ∃ (S : Nat → Nat → Rat) (d' : D), (FU MM).call "_law_slopes_by_stretch" [.own d, .val (.int (many : Nat)), .own (isD js), .val (.int (takers : Nat))] =
      .ok (.own (.lst ((List.range (max many 1)).map fun k => lwD takers (S k))), [.own d', .val (.int (many : Nat)), .own (isD js), .val (.int (takers : Nat))]) ∧ (∀ k j, Bd 36 36 (S k j)) ∧ DS (n + 200) d' := by
  obtain ⟨zs, d1, e1, hzl, hz7, hd1⟩ := parts_ok (F := F8 MM) (C := C__law_slopes_by_stretch_0) (s1 := some (.val (.int (many : Nat)))) (s2 := some (.own true (isD js))) (o4 := none) (o5 := none) (o6 := none) (o8 := none) up8__law_draw dfl8 rfl hd (by omega) ht
  have hr : rng 1 ((many : Int) - 1).toNat = (List.range (many - 1)).map fun k => D.int ((1 + k : Nat) : Int) := by
    have : ((many : Int) - 1).toNat = many - 1 := by omega
    rw [this]
    exact List.map_congr_left fun k _ => by push_cast; rfl
  have ir : Dv.inR 1 ∧ Dv.inR (many : Int) := by unfold Dv.inR; omega
  obtain ⟨ρ', ⟨last, found, d2, o6, o8, rfl, hf, hfl, hd2, hll, hl7, _, _⟩, e2⟩ := for_val (F := F8 MM) (N := MM) (S := S__law_slopes_by_stretch_1) (d := .non) rfl (xs := List.range (many - 1)) (f := fun k => D.int ((1 + k : Nat) : Int)) (ρ := sEnv d1 many js takers zs [zs] none none) (ρ1 := sEnv d1 many js takers zs [zs] none none)
    (fun i ρ => ∃ last found d o6 o8, ρ = sEnv d many js takers last found o6 o8 ∧ found.length = i + 1 ∧ (∀ l ∈ found, l.length = takers ∧ ∀ z ∈ l, z < 7) ∧ DS (n + 3 + 4 * i) d ∧ last.length = takers ∧ (∀ z ∈ last, z < 7) ∧ gFree (some o6) = true ∧ gFree (some o8) = true)
    (by rw [← hr]; simp [ir]) ⟨zs, [zs], d1, none, none, rfl, rfl, fun l hl => by simp at hl; subst hl; exact ⟨hzl, hz7⟩, hd1, hzl, hz7, rfl, rfl⟩
    (fun i x ρ hx ⟨last, found, d, o6, o8, e, hf, hfl, hd, hll, hl7, g6, g8⟩ => by
      have hi : i < many - 1 := by simpa using (List.getElem?_eq_some_iff.mp hx).1
      subst e
      obtain ⟨last', d', o8', t, h8, h1, h2, h3⟩ := s_step (many := many) (i := 1 + x) (js := js) (found := found) g6 g8 hd (by omega) ht h0 (by omega) hll hl7
      exact ⟨_, .inl t, last', found ++ [last'], d', _, o8', rfl, by simp [hf], fun l hl => by
        rcases List.mem_append.mp hl with hl | hl
        · exact hfl l hl
        · simp at hl; subst hl; exact ⟨h1, h2⟩, h3.mono (by omega), h1, h2, rfl, h8⟩)
  rw [List.length_range] at hf hd2
  have hflen : found.length = max many 1 := by omega
  let S : Nat → Nat → Rat := fun k j => Rat.divInt (((found.getD k []).getD j 0 : Nat) : Int) (6 * (takers : Int))
  have m6 : CMulX 6 (takers : Int) := mul_small (by decide) (by omega)
  -- the inner rows
  have inner : ∀ (l : List Nat), l ∈ found → ev (F8 MM) E__law_slopes_by_stretch_3 [some (.own true d2), some (.val (.int (many : Nat))), some (.own true (isD js)), some (.val (.int (takers : Nat))), some (.val (isD last)), some (.lck false (.lst (found.map isD))), o6, none, some (.val (isD l)), none] =
      .ok (.own (.lst (l.map fun z => am (Rat.divInt ((z : Nat) : Int) (6 * (takers : Int))))), [some (.own true d2), some (.val (.int (many : Nat))), some (.own true (isD js)), some (.val (.int (takers : Nat))), some (.val (isD last)), some (.lck false (.lst (found.map isD))), o6, none, some (.val (isD l)), none]) := fun l hl =>
    comp_mapE (xs := l) (f := iD) (g := fun z => am (Rat.divInt ((z : Nat) : Int) (6 * (takers : Int)))) (ρ1 := [some (.own true d2), some (.val (.int (many : Nat))), some (.own true (isD js)), some (.val (.int (takers : Nat))), some (.val (isD last)), some (.lck false (.lst (found.map isD))), o6, none, some (.val (isD l)), none])
      (ρw := [some (.own true d2), some (.val (.int (many : Nat))), some (.own true (isD js)), some (.val (.int (takers : Nat))), some (.val (isD last)), some (.lck false (.lst (found.map isD))), o6, none, some (.val (isD l)), none]) (p := .val (isD l))
      (by simp) (by simp) (by rw [(hfl l hl).1]; exact len_lt (by omega)) (fun z hz => by
        have ea := f__law_amount (z : Int) (6 * (takers : Int)) (by omega) (oC_big (by omega))
        simp [turnW, turnR, E__law_slopes_by_stretch_4, m6, ea]) (fun out => by simp [compEnd])
  have outer : ev (F8 MM) C__law_slopes_by_stretch_3 (sEnv d2 many js takers last found o6 o8) = .ok (.own (.lst (found.map fun l => .lst (l.map fun z => am (Rat.divInt ((z : Nat) : Int) (6 * (takers : Int)))))), sEnv d2 many js takers last found o6 o8) :=
    comp_mapE (xs := found) (f := isD) (g := fun l => .lst (l.map fun z => am (Rat.divInt ((z : Nat) : Int) (6 * (takers : Int))))) (ρ1 := sEnv d2 many js takers last found o6 o8)
      (ρw := [some (.own true d2), some (.val (.int (many : Nat))), some (.own true (isD js)), some (.val (.int (takers : Nat))), some (.val (isD last)), some (.lck false (.lst (found.map isD))), o6, none, none, none]) (p := .at_ 5)
      (by simp) (by simp) (len_lt (by omega)) (fun l hl => by simp [turnW, turnR, inner l hl]) (fun out => by simp [compEnd])
  refine ⟨S, d2, ?_, fun k j => ?_, hd2.mono (by omega)⟩
  · have ed : (List.range (max many 1)).map (fun k => lwD takers (S k)) = found.map fun l => .lst (l.map fun z => am (Rat.divInt ((z : Nat) : Int) (6 * (takers : Int)))) := by
      rw [map_rng (l := found) _ [], hflen]
      refine rng_congr fun k hk => ?_
      have hk2 : k < found.length := by omega
      have eg : found.getD k [] = found[k] := by simp [hk2]
      rw [map_rng (l := found.getD k []) _ 0, eg, (hfl _ (List.getElem_mem hk2)).1]
      show D.lst _ = D.lst _
      congr 1
      refine rng_congr fun j hj => ?_
      show am (Rat.divInt (((found.getD k []).getD j 0 : Nat) : Int) (6 * (takers : Int))) = _
      rw [eg]
    rw [run__law_slopes_by_stretch rfl, ed]
    have k1 : 1 ≤ sizeLine := by decide
    simp only [sEnv, List.map_cons, List.map_nil] at e2 outer
    simp [b__law_slopes_by_stretch, Dv.envOf, e1, k1, e2, outer]
  · have hz : (found.getD k []).getD j 0 < 7 := by
      by_cases hk : k < found.length
      · have eg : found.getD k [] = found[k] := by simp [hk]
        rw [eg]
        by_cases hj : j < found[k].length
        · rw [show found[k].getD j 0 = found[k][j] by simp [hj]]
          exact (hfl _ (List.getElem_mem hk)).2 _ (List.getElem_mem hj)
        · rw [show found[k].getD j 0 = 0 by simp [List.getElem?_eq_none (show found[k].length ≤ j by omega)]]
          omega
      · rw [show found.getD k [] = [] by simp [List.getElem?_eq_none (show found.length ≤ k by omega)]]
        simp
    have key : ∀ c : Int, 0 ≤ c → c ≤ 6 → ((36 : Nat) : Int) = (6 * (takers : Int)) * c → Bd 36 36 (S k j) := fun c h4 h5 h6 =>
      Bd.divInt c (by omega) h6 (by
        rw [Int.natAbs_mul]
        exact (show _ ≤ 6 * 6 from Nat.mul_le_mul (by omega) (by omega)))
    rcases (by omega : takers = 1 ∨ takers = 2 ∨ takers = 3) with rfl | rfl | rfl
    · exact key 6 (by omega) (by omega) (by omega)
    · exact key 3 (by omega) (by omega) (by omega)
    · exact key 2 (by omega) (by omega) (by omega)
end Wk31

set_option Elab.async false
set_option linter.all false
set_option maxRecDepth 100000
set_option maxHeartbeats 4000000
namespace Wk31
open PySem PySem.Spec PyProof.Rows L2 Dv
section
variable {n : Nat} {low : Nat → Rat}
theorem jOne_cont {a k : Nat} {start speed height : Rat} (h0 : low 0 = 0) (hk : k ≠ a) : (jOne low a start speed height).b k = ahead low (jOne low a start speed height) k := by
  cases k with
  | zero =>
    simp only [jOne, ahead, if_pos (show 0 < a by omega), h0]
    grind
  | succ j =>
    by_cases h : j + 1 < a
    · simp only [jOne, ahead, if_pos h, if_pos (show j < a by omega)]
      grind
    · simp only [jOne, ahead, if_neg h, if_neg (show ¬ j < a by omega)]
      grind
theorem jOne_jump {a : Nat} {start speed height : Rat} (h0 : low 0 = 0) (hh : 0 < height) : (jOne low a start speed height).b a ≠ ahead low (jOne low a start speed height) a := by
  cases a with
  | zero =>
    simp only [jOne, ahead, if_neg (show ¬ 0 < 0 by omega), h0]
    grind
  | succ j =>
    simp only [jOne, ahead, if_neg (show ¬ j + 1 < j + 1 by omega), if_pos (show j < j + 1 by omega)]
    grind
theorem jTwo_cont {a k : Nat} {speed height : Rat} (h0 : low 0 = 0) (hk : k ≠ a) : (jTwo low a speed height).b k = ahead low (jTwo low a speed height) k := by
  cases k with
  | zero =>
    simp only [jTwo, ahead, if_pos (show 0 < a by omega), h0]
  | succ j =>
    by_cases h : j + 1 < a
    · simp only [jTwo, ahead, if_pos h, if_pos (show j < a by omega)]
      grind
    · simp only [jTwo, ahead, if_neg h, if_neg (show ¬ j < a by omega)]
      grind
theorem jOne_K {a : Nat} {start speed height : Rat} (hl : ∀ k, k < n → Bd 6 5760 (low k)) (h1 : Bd 1 100 start) (h2 : Bd 6 24 speed) (h3 : Bd 6 144 height) : TrK n (jOne low a start speed height) := by
  refine ⟨h1.k60 (by omega) (by omega) (by omega), fun k hk => ⟨?_, h2.k60 (by omega) (by omega) (by omega)⟩⟩
  have b1 : Bd 36 (100 * 36 + 24 * 5760) (start + speed * low k) := (h1.lift 36).add (h2.mul (hl k hk))
  have b2 : Bd 36 (100 * 36 + 24 * 5760 + 144 * 6) (start + speed * low k + height) := b1.add (h3.lift 6)
  simp only [jOne]
  split
  · exact b1.k60 (by omega) (by omega) (by omega)
  · exact b2.k60 (by omega) (by omega) (by omega)
theorem jTwo_K {a : Nat} {speed height : Rat} (ha : a < n) (hl : ∀ k, k < n → Bd 6 5760 (low k)) (h2 : Bd 6 24 speed) (h3 : Bd 6 144 height) : TrK n (jTwo low a speed height) := by
  have f1 : Bd 36 (24 * (0 + 5760)) (speed * (0 - low a)) := h2.mul ((Bd.zero (L := 6) (N := 0)).sub (hl a ha))
  refine ⟨f1.k60 (by omega) (by omega) (by omega), fun k hk => ⟨?_, ?_⟩⟩
  · have b1 : Bd 36 (24 * (5760 + 5760)) (speed * (low k - low a)) := h2.mul ((hl k hk).sub (hl a ha))
    simp only [jTwo]
    split
    · exact b1.k60 (by omega) (by omega) (by omega)
    · exact h3.k60 (by omega) (by omega) (by omega)
  · simp only [jTwo]
    split
    · exact h2.k60 (by omega) (by omega) (by omega)
    · exact (Bd.zero (L := 1) (N := 1)).k60 (by omega) (by omega) (by omega)
/-- without a jump but at js -/
def Sm (n : Nat) (low : Nat → Rat) (js : List Nat) (t : Tr) : Prop := TrK n t ∧ ∀ k, k < n → k ∉ js → t.b k = ahead low t k
abbrev kE (d : D) (n : Nat) (low : Nat → Rat) (J : S) (takers : Nat) (SL : D) (ah st : Rat) (ts : List Tr) (o8 o9 o10 o11 o12 : Option S) : Env' :=
  [some (.own true d), some (.own true (lwD n low)), some J, some (.val (.int (takers : Nat))), some (.own false SL), some (.val (am ah)), some (.val (am st)), some (.own false (.lst (ts.map (trD n)))), o8, o9, o10, o11, o12, none, none]
theorem taker_step {n0 i takers : Nat} {S' : Nat → Nat → Rat} {J : S} {d : D} {ts : List Tr} {ah st : Rat} {o8 o9 o10 o11 o12 : Option S} (g8 : gFree (some o8) = true) (g10 : gFree (some o10) = true) (g11 : gFree (some o11) = true) (hn : n ≤ 40) (hl : ∀ k, k < n → Bd 6 5760 (low k)) (hd : DS n0 d) (h0 : n0 < 2 ^ 39) (hi : i < takers) (ht : takers ≤ 3)
    (hS : ∀ k j, Bd 36 36 (S' k j)) (hah : Bd 6 144 ah) (hlen : ts.length < 1000) :
    ∃ t d' o10' o11', turnX (F15 MM) MM (.nm 8) B__law_tracks_1 (.int (i : Nat)) (kE d n low J takers (.lst ((List.range (max n 1)).map fun k => lwD takers (S' k))) ah st ts o8 o9 o10 o11 o12) = .ok (.nx, kE d' n low J takers (.lst ((List.range (max n 1)).map fun k => lwD takers (S' k))) ah st (ts ++ [t]) (some (.val (.int (i : Nat)))) o9 o10' o11' o12) ∧
      gFree (some o10') = true ∧ gFree (some o11') = true ∧ (TrK n t ∧ ∀ k, k < n → t.b k = ahead low t k) ∧ DS (n0 + 6) d' := by
  obtain ⟨r1, d1, e1, h1, hd1⟩ := f__law_draw (m := 4) hd (by omega) (by omega) (by omega)
  obtain ⟨r2, d2, e2, h2, hd2⟩ := f__law_draw (m := 2) hd1 (by omega) (by omega) (by omega)
  obtain ⟨r3, d3, e3, h3, hd3⟩ := f__law_draw (m := 3) hd2 (by omega) (by omega) (by omega)
  obtain ⟨q, d4, e4, hq, hd4⟩ := claim_ok hd3 (by omega)
  have m1 : CMulX (r1 : Int) (r2 : Int) := mul_small (by omega) (by omega)
  have hp : (r1 : Int) * (r2 : Int) ≤ 3 * 1 ∧ 0 ≤ (r1 : Int) * (r2 : Int) := ⟨Int.mul_le_mul (by omega) (by omega) (by omega) (by omega), Int.mul_nonneg (by omega) (by omega)⟩
  have e5 := f__law_amount ((r1 : Int) * (r2 : Int)) (1 + (r3 : Int)) (by omega) (oC_big (by omega))
  have hrise : Bd 6 18 (Rat.divInt ((r1 : Int) * (r2 : Int)) (1 + (r3 : Int))) := by
    have key : ∀ c : Int, 0 ≤ c → c ≤ 6 → ((6 : Nat) : Int) = (1 + (r3 : Int)) * c → Bd 6 18 (Rat.divInt ((r1 : Int) * (r2 : Int)) (1 + (r3 : Int))) := fun c h4 h5 h6 =>
      Bd.divInt c (by omega) h6 (by
        rw [Int.natAbs_mul]
        exact (show _ ≤ 3 * 6 from Nat.mul_le_mul (by omega) (by omega)))
    rcases (by omega : r3 = 0 ∨ r3 = 1 ∨ r3 = 2) with rfl | rfl | rfl
    · exact key 6 (by omega) (by omega) (by omega)
    · exact key 3 (by omega) (by omega) (by omega)
    · exact key 2 (by omega) (by omega) (by omega)
  generalize Rat.divInt ((r1 : Int) * (r2 : Int)) (1 + (r3 : Int)) = rise at *
  have riK := hrise.k60 (by omega) (by omega) (by omega)
  have sK := fun k j => (hS k j).k60 (by omega) (by omega) (by omega)
  have aK := hah.k60 (by omega) (by omega) (by omega)
  have qK := hq.k60 (by omega) (by omega) (by omega)
  have e6 := f__law_times _ _ (sK 0 i).ok60 aK.ok60
  have e7 := f__law_plus _ _ qK.ok60 (((sK 0 i).mul aK).ok (by decide))
  have fB : Bd 2160 483840 (q + S' 0 i * ah) := (hq.lift 36).add (((hS 0 i).mul hah).lift 10)
  have rB' : ∀ k, k < n → Bd 360 1440 (rise + S' k i) := fun k _ => ((hrise.lift 60).add ((hS k i).lift 10)).mono (by omega)
  have er := rising_ok (rise := fun k => rise + S' k i) (start := q + S' 0 i * ah) hn hl (fB.mono (by omega)) (fun k hk => (rB' k hk).mono (by omega))
  have a0 : atI ((List.range (max n 1)).map fun k => lwD takers (S' k)) 0 = some (lwD takers (S' 0)) := atI_rng (k := 0) (by omega)
  have a1 : ∀ k, atI ((List.range takers).map fun j => am (S' k j)) (i : Int) = some (am (S' k i)) := fun k => atI_rng hi
  have c2 : ev (F15 MM) C__law_tracks_2 (kE d4 n low J takers (.lst ((List.range (max n 1)).map fun k => lwD takers (S' k))) ah st ts (some (.val (.int (i : Nat)))) o9 (some (.val (am rise))) (some (.val (am (q + S' 0 i * ah)))) o12) =
      .ok (.own (lwD n fun k => rise + S' k i), kE d4 n low J takers (.lst ((List.range (max n 1)).map fun k => lwD takers (S' k))) ah st ts (some (.val (.int (i : Nat)))) o9 (some (.val (am rise))) (some (.val (am (q + S' 0 i * ah)))) o12) :=
    comp_mapE (xs := List.range n) (f := fun k => .int (k : Nat)) (g := fun k => am (rise + S' k i)) (ρ1 := kE d4 n low J takers (.lst ((List.range (max n 1)).map fun k => lwD takers (S' k))) ah st ts (some (.val (.int (i : Nat)))) o9 (some (.val (am rise))) (some (.val (am (q + S' 0 i * ah)))) o12)
      (ρw := kE d4 n low J takers (.lst ((List.range (max n 1)).map fun k => lwD takers (S' k))) ah st ts (some (.val (.int (i : Nat)))) o9 (some (.val (am rise))) (some (.val (am (q + S' 0 i * ah)))) o12) (p := .val .non)
      (evi_rng (by simp) (by omega)) (by simp) (by rw [List.length_range]; exact len_lt (by omega)) (fun k hk => by
        have hk : k < n := List.mem_range.mp hk
        have ak : atI ((List.range (max n 1)).map fun k => lwD takers (S' k)) (k : Int) = some (lwD takers (S' k)) := atI_rng (by omega)
        have ep := f__law_plus _ _ riK.ok60 (sK k i).ok60
        simp [turnW, turnR, E__law_tracks_2, ak, a1, ep]) (fun out => by simp [compEnd])
  have hz : ts.length < sizeLine := len_lt (by omega)
  refine ⟨rTr low (fun k => rise + S' k i) (q + S' 0 i * ah), d4, some (.val (am rise)), some (.val (am (q + S' 0 i * ah))), ?_, rfl, rfl, ⟨rTr_K hn hl (fB.mono (by omega)) (fun k hk => (rB' k hk).mono (by omega)), fun k _ => rTr_ahead k⟩, hd4⟩
  simp only [kE] at c2
  simp [turnX, B__law_tracks_1, g8, g10, g11, e1, e2, e3, e4, m1, e5, a0, a1, e6, e7, c2, er, hz]
end
end Wk31

set_option Elab.async false
set_option linter.all false
set_option maxRecDepth 100000
set_option maxHeartbeats 4000000
namespace Wk31
open PySem PySem.Spec PyProof.Rows L2 Dv
section
variable {n : Nat} {low : Nat → Rat}
theorem rdiv_bd {a b : Nat} (ha : a ≤ 4) (hb : b < 3) : Bd 6 24 (Rat.divInt (a : Int) (1 + (b : Int))) := by
  have key : ∀ c : Int, 0 ≤ c → c ≤ 6 → ((6 : Nat) : Int) = (1 + (b : Int)) * c → Bd 6 24 (Rat.divInt (a : Int) (1 + (b : Int))) := fun c h4 h5 h6 =>
    Bd.divInt c (by omega) h6 (by
      rw [Int.natAbs_mul]
      exact (show _ ≤ 4 * 6 from Nat.mul_le_mul (by omega) (by omega)))
  rcases (by omega : b = 0 ∨ b = 1 ∨ b = 2) with rfl | rfl | rfl
  · exact key 6 (by omega) (by omega) (by omega)
  · exact key 3 (by omega) (by omega) (by omega)
  · exact key 2 (by omega) (by omega) (by omega)
theorem jump_step {n0 a takers : Nat} {SL : D} {J : S} {d : D} {ts : List Tr} {ah st : Rat} {o8 o9 o10 o11 o12 : Option S} (g9 : gFree (some o9) = true) (g12 : gFree (some o12) = true) (hn : n ≤ 40) (hl : ∀ k, k < n → Bd 6 5760 (low k)) (hd : DS n0 d) (h0 : n0 < 2 ^ 39) (ha : a < n)
    (hlen : ts.length < 1000) :
    ∃ start speed height d' o12', turnX (F15 MM) MM (.nm 9) B__law_tracks_3 (.int (a : Nat)) (kE d n low J takers SL ah st ts o8 o9 o10 o11 o12) = .ok (.nx, kE d' n low J takers SL ah st (ts ++ [jOne low a start speed height, jTwo low a speed height]) o8 (some (.val (.int (a : Nat)))) o10 o11 o12') ∧
      gFree (some o12') = true ∧ Bd 1 100 start ∧ Bd 6 24 speed ∧ Bd 6 144 height ∧ 0 < height ∧ DS (n0 + 5) d' := by
  obtain ⟨r1, d1, e1, h1, hd1⟩ := f__law_draw (m := 4) hd (by omega) (by omega) (by omega)
  obtain ⟨r2, d2, e2, h2, hd2⟩ := f__law_draw (m := 3) hd1 (by omega) (by omega) (by omega)
  obtain ⟨r3, d3, e3, h3, hd3⟩ := f__law_draw (m := 6) hd2 (by omega) (by omega) (by omega)
  obtain ⟨hgt, d4, e4, hh, hp, hd4⟩ := gap_ok hd3 (by omega)
  have e5 := f__law_amount (1 + (r1 : Int)) (1 + (r2 : Int)) (by omega) (oC_big (by omega))
  have hsp : Bd 6 24 (Rat.divInt (1 + (r1 : Int)) (1 + (r2 : Int))) := by
    have := rdiv_bd (a := 1 + r1) (b := r2) (by omega) (by omega)
    rw [show (((1 + r1 : Nat) : Int)) = 1 + (r1 : Int) by omega] at this
    exact this
  generalize Rat.divInt (1 + (r1 : Int)) (1 + (r2 : Int)) = speed at *
  have e6 := f__law_int (r3 : Int)
  have hst : Bd 1 100 ((r3 : Int) : Rat) := Bd.int (by omega)
  have ej := jumping_ok hn ha hl hst hsp hh
  have hz : ts.length + 2 ≤ sizeLine := len_le (by omega)
  refine ⟨_, speed, hgt, d4, some (.val (am speed)), ?_, rfl, hst, hsp, hh, hp, hd4⟩
  simp only [lwD] at ej
  simp [turnX, B__law_tracks_3, g9, g12, e1, e2, e3, e4, e5, e6, ej, hz]
theorem tracks_ok {n0 takers : Nat} {js : List Nat} {d : D} (hn : n ≤ 40) (hl : ∀ k, k < n → Bd 6 5760 (low k)) (hl0 : low 0 = 0) (hd : DS n0 d) (h0 : n0 < 2 ^ 38) (ht : takers ≤ 3) (ht0 : 0 < takers) (hj : ∀ j ∈ js, j < n) (hjl : js.length ≤ 3) :
    ∃ (ts : List Tr) (d' : D), (FU MM).call "_law_tracks" [.own d, .own (lwD n low), .own (isD js), .val (.int (takers : Nat))] = .ok (.own (.lst (ts.map (trD n))), [.own d', .own (lwD n low), .own (isD js), .val (.int (takers : Nat))]) ∧
      (∀ t ∈ ts, Sm n low js t) ∧ (∀ j ∈ js, ∃ t ∈ ts, t.b j ≠ ahead low t j) ∧ ts.length ≤ 10 ∧ DS (n0 + 300) d' := by
  obtain ⟨S', d1, e1, hS, hd1⟩ := slopes_ok (many := n) (js := js) hd (by omega) ht ht0 hn
  obtain ⟨q, d2, e2, hq, _, hd2⟩ := gap_ok hd1 (by omega)
  obtain ⟨r3, d3, e3, h3, hd3⟩ := f__law_draw (m := 2) hd2 (by omega) (by omega) (by omega)
  obtain ⟨r4, d4, e4, h4, hd4⟩ := f__law_draw (m := 9) hd3 (by omega) (by omega) (by omega)
  -- ahead
  obtain ⟨ah, hah, hahe⟩ : ∃ ah : Rat, Bd 6 144 ah ∧ ah = if r3 = 0 then 0 else q := by
    by_cases h : r3 = 0
    · exact ⟨0, Bd.zero, by rw [if_pos h]⟩
    · exact ⟨q, hq, by rw [if_neg h]⟩
  have iK : K 60 ((r4 : Int) : Rat) := (Bd.int (L := 1) (N := 100) (by omega)).k60 (by omega) (by omega) (by omega)
  have aK := hah.k60 (by omega) (by omega) (by omega)
  have e5 := f__law_int (r4 : Int)
  have e6 := f__law_plus _ _ iK.ok60 aK.ok60
  have hst : Bd 6 192 (((r4 : Int) : Rat) + ah) := (Bd.int (L := 6) (N := 48) (by omega)).add hah
  generalize ((r4 : Int) : Rat) + ah = st at *
  have one : ∀ k, k < n → Bd 360 2000 ((fun _ => 1 : Nat → Rat) k) := fun k _ => Bd.int (i := 1) (by omega)
  have er := rising_ok (rise := fun _ => 1) (start := st) hn hl ((hst.lift 360).mono (by omega)) one
  have c0 : ev (F15 MM) C__law_tracks_0 [some (.own true d4), some (.own true (lwD n low)), some (.own true (isD js)), some (.val (.int (takers : Nat))), some (.own false (.lst ((List.range (max n 1)).map fun k => lwD takers (S' k)))), some (.val (am ah)), some (.val (am st)), none, none, none, none, none, none, none, none] =
      .ok (.own (lwD n fun _ => 1), [some (.own true d4), some (.own true (lwD n low)), some (.own true (isD js)), some (.val (.int (takers : Nat))), some (.own false (.lst ((List.range (max n 1)).map fun k => lwD takers (S' k)))), some (.val (am ah)), some (.val (am st)), none, none, none, none, none, none, none, none]) :=
    comp_mapE (xs := List.range n) (f := fun k => am (low k)) (g := fun _ => am 1) (ρ1 := [some (.own true d4), some (.own true (lwD n low)), some (.own true (isD js)), some (.val (.int (takers : Nat))), some (.own false (.lst ((List.range (max n 1)).map fun k => lwD takers (S' k)))), some (.val (am ah)), some (.val (am st)), none, none, none, none, none, none, none, none])
      (ρw := [some (.own true d4), some (.lck true (lwD n low)), some (.own true (isD js)), some (.val (.int (takers : Nat))), some (.own false (.lst ((List.range (max n 1)).map fun k => lwD takers (S' k)))), some (.val (am ah)), some (.val (am st)), none, none, none, none, none, none, none, none]) (p := .at_ 1)
      (by simp) (by simp) (by rw [List.length_range]; exact len_lt (by omega)) (fun x _ => by
        have k2 : 2 ≤ sizeLine := by decide
        simp [turnW, turnR, E__law_tracks_0, k2]) (fun out => by simp [compEnd])
  obtain ⟨ρ', ⟨ts1, d5, o8, o10, o11, rfl, hg1, hlen1, hd5, g8, g10, g11⟩, ef1⟩ := for_rng (F := F15 MM) (N := MM) (S := S__law_tracks_1) rfl (m := takers) (ρ := kE d4 n low (.own true (isD js)) takers (.lst ((List.range (max n 1)).map fun k => lwD takers (S' k))) ah st [rTr low (fun _ => 1) st] none none none none none)
    (ρ1 := kE d4 n low (.own true (isD js)) takers (.lst ((List.range (max n 1)).map fun k => lwD takers (S' k))) ah st [rTr low (fun _ => 1) st] none none none none none)
    (fun i ρ => ∃ ts d o8 o10 o11, ρ = kE d n low (.own true (isD js)) takers (.lst ((List.range (max n 1)).map fun k => lwD takers (S' k))) ah st ts o8 none o10 o11 none ∧ (∀ t ∈ ts, TrK n t ∧ ∀ k, k < n → t.b k = ahead low t k) ∧ ts.length = 1 + i ∧ DS (n0 + 204 + 6 * i) d ∧ gFree (some o8) = true ∧ gFree (some o10) = true ∧ gFree (some o11) = true)
    (evi_rng (by simp) (by omega)) ⟨[rTr low (fun _ => 1) st], d4, none, none, none, rfl, fun t h => by
      simp at h
      subst h
      exact ⟨rTr_K hn hl ((hst.lift 360).mono (by omega)) one, fun k _ => rTr_ahead k⟩, rfl, hd4, rfl, rfl, rfl⟩
    (fun i ρ hi ⟨ts, d, o8, o10, o11, e, hg, hlen, hd, g8, g10, g11⟩ => by
      subst e
      obtain ⟨t, d', o10', o11', e, h10, h11, ht', hd'⟩ := taker_step (J := .own true (isD js)) (ts := ts) (st := st) (o9 := none) (o12 := none) g8 g10 g11 hn hl hd (by omega) hi ht hS hah (by omega)
      exact ⟨_, .inl e, ts ++ [t], d', _, o10', o11', rfl, fun u hu => by
        rcases List.mem_append.mp hu with hu | hu
        · exact hg u hu
        · simp at hu; subst hu; exact ht', by simp [hlen]; omega, hd'.mono (by omega), rfl, h10, h11⟩)
  obtain ⟨ρ', ⟨ts2, d6, o9, o12, rfl, hg2, hjj, hlen2, hd6, g9, g12⟩, ef2⟩ := for_slot (F := F15 MM) (N := MM) (S := S__law_tracks_3) rfl (xs := js) (f := iD) (j := 2) (o := some 2) (ρ := kE d5 n low (.own true (isD js)) takers (.lst ((List.range (max n 1)).map fun k => lwD takers (S' k))) ah st ts1 o8 none o10 o11 none)
    (ρ1 := kE d5 n low (.own true (isD js)) takers (.lst ((List.range (max n 1)).map fun k => lwD takers (S' k))) ah st ts1 o8 none o10 o11 none)
    (ρl := kE d5 n low (.lck true (isD js)) takers (.lst ((List.range (max n 1)).map fun k => lwD takers (S' k))) ah st ts1 o8 none o10 o11 none)
    (fun i ρ => ∃ ts d o9 o12, ρ = kE d n low (.lck true (isD js)) takers (.lst ((List.range (max n 1)).map fun k => lwD takers (S' k))) ah st ts o8 o9 o10 o11 o12 ∧ (∀ t ∈ ts, Sm n low js t) ∧ (∀ j, j < i → ∀ a, js[j]? = some a → ∃ t ∈ ts, t.b a ≠ ahead low t a) ∧ ts.length = 1 + takers + 2 * i ∧ DS (n0 + 230 + 5 * i) d ∧ gFree (some o9) = true ∧ gFree (some o12) = true)
    (by simp) (by simp) ⟨ts1, d5, none, none, rfl, fun t h => ⟨(hg1 t h).1, fun k hk _ => (hg1 t h).2 k hk⟩, fun j h => by omega, by omega, hd5.mono (by omega), rfl, rfl⟩
    (fun i a ρ hx ⟨ts, d, o9, o12, e, hg, hjj, hlen, hd, g9, g12⟩ => by
      subst e
      have haj : a ∈ js := List.mem_of_getElem? hx
      have hi : i < js.length := (List.getElem?_eq_some_iff.mp hx).1
      obtain ⟨s, v, h, d', o12', e, h12, b1, b2, b3, hp, hd'⟩ := jump_step (J := .lck true (isD js)) (takers := takers) (SL := .lst ((List.range (max n 1)).map fun k => lwD takers (S' k))) (ts := ts) (ah := ah) (st := st) (o8 := o8) (o10 := o10) (o11 := o11) g9 g12 hn hl hd (by omega) (hj a haj) (by omega)
      refine ⟨_, .inl e, _, d', _, o12', rfl, fun u hu => ?_, fun j hji b hb => ?_, by simp [hlen]; omega, hd'.mono (by omega), rfl, h12⟩
      · rcases List.mem_append.mp hu with hu | hu
        · exact hg u hu
        · simp at hu
          rcases hu with rfl | rfl
          · exact ⟨jOne_K hl b1 b2 b3, fun k _ hk => jOne_cont hl0 fun z => hk (z ▸ haj)⟩
          · exact ⟨jTwo_K (hj a haj) hl b2 b3, fun k _ hk => jTwo_cont hl0 fun z => hk (z ▸ haj)⟩
      · by_cases hjl : j < i
        · obtain ⟨t, h1, h2⟩ := hjj j hjl b hb
          exact ⟨t, List.mem_append_left _ h1, h2⟩
        · obtain rfl : j = i := by omega
          rw [hx] at hb
          cases hb
          exact ⟨_, List.mem_append_right _ List.mem_cons_self, jOne_jump hl0 hp⟩)
  refine ⟨ts2, d6, ?_, hg2, fun j hj => ?_, by omega, hd6.mono (by omega)⟩
  · rw [run__law_tracks rfl]
    simp only [kE, List.map_cons, List.map_nil, lwD] at ef1 ef2 er c0 e1
    have k1 : 1 ≤ sizeLine := by decide
    have k2 : 2 ≤ sizeLine := by decide
    by_cases hr : r3 = 0
    · subst hr
      rw [if_pos rfl] at hahe
      subst hahe
      simp [b__law_tracks, Dv.envOf, e1, e2, e3, e4, e5, e6, c0, er, ef1, ef2, k1, k2]
    · rw [if_neg hr] at hahe
      subst hahe
      simp [b__law_tracks, Dv.envOf, e1, e2, e3, e4, e5, e6, c0, er, ef1, ef2, k1, k2, hr]
  · obtain ⟨i, hi, rfl⟩ := List.mem_iff_getElem.mp hj
    exact hjj i hi _ (List.getElem?_eq_getElem hi)
end
end Wk31

set_option Elab.async false
set_option linter.all false
set_option maxRecDepth 100000
set_option maxHeartbeats 4000000
namespace Dv
open PySem PySem.Spec PyProof.Rows L2
theorem perm_map {α β : Type} {f : α → β} {l m : List β} (h : l.Perm m) : ∀ ts : List α, m = ts.map f → ∃ ts' : List α, l = ts'.map f ∧ ts'.Perm ts := by
  induction h with
  | nil => intro ts e; exact ⟨ts, e, .refl _⟩
  | cons x _ ih =>
    intro ts e
    cases ts with
    | nil => cases e
    | cons t ts =>
      rw [List.map_cons] at e
      injection e with e1 e2
      obtain ⟨ts', h1, h2⟩ := ih ts e2
      exact ⟨t :: ts', by rw [List.map_cons, h1, e1], List.Perm.cons t h2⟩
  | swap x y l =>
    intro ts e
    cases ts with
    | nil => cases e
    | cons t ts => cases ts with
      | nil => cases e
      | cons u ts =>
        rw [List.map_cons, List.map_cons] at e
        injection e with e1 e2
        injection e2 with e2 e3
        exact ⟨u :: t :: ts, by rw [List.map_cons, List.map_cons, e1, e2, e3], List.Perm.swap _ _ _⟩
  | trans _ _ ih1 ih2 =>
    intro ts e
    obtain ⟨ts1, h1, h2⟩ := ih2 ts e
    obtain ⟨ts2, h3, h4⟩ := ih1 ts1 h1
    exact ⟨ts2, h3, h4.trans h2⟩
end Dv
namespace Wk31
open PySem PySem.Spec PyProof.Rows L2 Dv
def endD : Option Rat → D
  | none => .non
  | some v => am v
abbrev mE (d : D) (takers kind many : Nat) (low : Nat → Rat) (rings : Nat) (js : List Nat) (ts : List Tr) (e : Option Rat) : Env' :=
  [some (.own true d), some (.val (.int (takers : Nat))), some (.val (.int (kind : Nat))), some (.val (.int (many : Nat))), some (.own false (lwD many low)), some (.val (.int (rings : Nat))), some (.own false (isD js)), some (.own false (.lst (ts.map (trD many)))), some (.val (endD e)), none, none, none, none, none, none, none]
def mE4 : Sxs := (.cons 
    (.set 7 (.call "_law_shuffled" (.cons (.var 0) (.cons (.var 7) .nil)))) (.cons 
    (.set 9 (.lst .nil)) (.cons 
    S__law_made_2 (.cons 
    (.set 11 (.tup (.cons (.cst (.str "ray")) (.cons (.blt .tuple (.cons C__law_made_5 .nil)) (.cons (.blt .tuple (.cons (.var 9) .nil)) (.cons (.var 8) .nil)))))) (.cons 
    (.ret (.tup (.cons (.var 11) (.cons (.blt .tuple (.cons C__law_made_6 .nil)) .nil)))) .nil)))))
def mE3 : Sxs := (.cons 
    (.ite (.and_ (.cons (.cmp .Lt (.blt .len (.cons (.var 7) .nil)) (.cst (.int 8))) (.cons (.cmp .Eq (.call "_law_draw" (.cons (.var 0) (.cons (.cst (.int 3)) .nil))) (.cst (.int 0))) .nil))) (.cons 
    (.expr (.chg .append 7 (.cons (.call "_law_rising" (.cons (.var 4) (.cons (.call "_law_claim" (.cons (.var 0) .nil)) (.cons C__law_made_1 .nil)))) .nil))) .nil) .nil) mE4)
def mI : Sx := (.ite (.cmp .Gt (.var 3) (.cst (.int 0))) (.cons 
    (.set 8 (.call "_law_plus" (.cons (.idx (.var 4) (.bin .Sub (.var 3) (.cst (.int 1)))) (.cons (.call "_law_gap" (.cons (.var 0) .nil)) .nil)))) .nil) .nil)
def mE2 : Sxs := (.cons 
    (.ite (.cmp .Lt (.var 2) (.cst (.int 3))) (.cons 
    (.set 8 (.tup (.cons (.cst (.int 0)) (.cons (.cst (.int 1)) .nil)))) (.cons 
    mI (.cons 
    (.set 7 (.bin .Add (.var 7) (.call "_law_ending" (.cons (.var 4) (.cons (.var 8) (.cons (.call "_law_int" (.cons (.call "_law_draw" (.cons (.var 0) (.cons (.cst (.int 6)) .nil))) .nil)) (.cons (.call "_law_amount" (.cons (.bin .Add (.cst (.int 1)) (.call "_law_draw" (.cons (.var 0) (.cons (.cst (.int 4)) .nil)))) (.cons (.cst (.int 2)) .nil))) .nil))))))) .nil))) .nil) mE3)
def mE1 : Sxs := (.cons 
    (.set 4 (.call "_law_lows" (.cons (.var 0) (.cons (.var 3) .nil)))) (.cons 
    (.set 5 (.call "_law_draw" (.cons (.var 0) (.cons (.bin .Add (.cst (.int 1)) (.bin .FloorDiv (.bin .Sub (.bin .Sub (.cst (.int 7)) (.var 1)) (.bin .Mult (.cst (.int 2)) (.blt .int (.cons (.cmp .Lt (.var 2) (.cst (.int 3))) .nil)))) (.cst (.int 2)))) .nil)))) (.cons 
    (.set 6 C__law_made_0) (.cons 
    (.set 7 (.call "_law_tracks" (.cons (.var 0) (.cons (.var 4) (.cons (.var 6) (.cons (.var 1) .nil)))))) (.cons 
    (.set 8 (.cst .non)) mE2)))))
theorem mB : b__law_made = (.cons 
    (.set 1 (.bin .Add (.cst (.int 1)) (.call "_law_draw" (.cons (.var 0) (.cons (.cst (.int 3)) .nil))))) (.cons 
    (.set 2 (.call "_law_draw" (.cons (.var 0) (.cons (.cst (.int 7)) .nil)))) (.cons 
    (.set 3 (.bin .Add (.cst (.int 1)) (.call "_law_draw" (.cons (.var 0) (.cons (.cst (.int 6)) .nil))))) (.cons 
    (.ite (.val (.call "_law_rare" (.cons (.var 0) (.cons (.cst (.int 13)) .nil)))) (.cons 
    (.set 3 (.bin .Add (.cst (.int 10)) (.call "_law_draw" (.cons (.var 0) (.cons (.cst (.int 31)) .nil))))) .nil) .nil) (.cons 
    (.ite (.cmp .Eq (.var 2) (.cst (.int 0))) (.cons 
    (.set 3 (.cst (.int 0))) .nil) .nil) mE1))))) := rfl
abbrev mE0 (d : D) (takers kind many : Nat) : Env' :=
  [some (.own true d), some (.val (.int (takers : Nat))), some (.val (.int (kind : Nat))), some (.val (.int (many : Nat))), none, none, none, none, none, none, none, none, none, none, none, none]
theorem made1 {n : Nat} {d : D} (hd : DS n d) (hn : n < 2 ^ 37) : ∃ takers kind many d', exs (F18 MM) MM b__law_made (envOf 16 [.own d]) = exs (F18 MM) MM mE1 (mE0 d' takers kind many) ∧ 0 < takers ∧ takers ≤ 3 ∧ kind < 7 ∧ many ≤ 40 ∧ (many = 0 → kind = 0) ∧ DS (n + 5) d' := by
  obtain ⟨r1, d1, e1, h1, hd1⟩ := f__law_draw (m := 3) hd (by omega) (by omega) (by omega)
  obtain ⟨r2, d2, e2, h2, hd2⟩ := f__law_draw (m := 7) hd1 (by omega) (by omega) (by omega)
  obtain ⟨r3, d3, e3, h3, hd3⟩ := f__law_draw (m := 6) hd2 (by omega) (by omega) (by omega)
  obtain ⟨b, d4, e4, hd4⟩ := f__law_rare (m := 13) hd3 (by omega) (by omega) (by omega)
  rw [mB]
  by_cases hk : r2 = 0
  · subst hk
    cases b with
    | false => exact ⟨1 + r1, 0, 0, d4, by simp [mE0, Dv.envOf, e1, e2, e3, e4], by omega, by omega, by omega, by omega, fun _ => rfl, hd4.mono (by omega)⟩
    | true =>
      obtain ⟨r5, d5, e5, h5, hd5⟩ := f__law_draw (m := 31) hd4 (by omega) (by omega) (by omega)
      exact ⟨1 + r1, 0, 0, d5, by simp [mE0, Dv.envOf, e1, e2, e3, e4, e5], by omega, by omega, by omega, by omega, fun _ => rfl, hd5.mono (by omega)⟩
  · cases b with
    | false => exact ⟨1 + r1, r2, 1 + r3, d4, by simp [mE0, Dv.envOf, e1, e2, e3, e4, hk], by omega, by omega, by omega, by omega, fun h => by omega, hd4.mono (by omega)⟩
    | true =>
      obtain ⟨r5, d5, e5, h5, hd5⟩ := f__law_draw (m := 31) hd4 (by omega) (by omega) (by omega)
      exact ⟨1 + r1, r2, 10 + r5, d5, by simp [mE0, Dv.envOf, e1, e2, e3, e4, e5, hk], by omega, by omega, by omega, by omega, fun h => by omega, hd5.mono (by omega)⟩
def TS (n : Nat) (low : Nat → Rat) (js : List Nat) (ts : List Tr) : Prop := (∀ t ∈ ts, Sm n low js t) ∧ (∀ j ∈ js, ∃ t ∈ ts, t.b j ≠ ahead low t j)
theorem TS.app {n : Nat} {low : Nat → Rat} {js : List Nat} {ts us : List Tr} (h : TS n low js ts) (hu : ∀ t ∈ us, Sm n low js t) : TS n low js (ts ++ us) :=
  ⟨fun t ht => by
    rcases List.mem_append.mp ht with ht | ht
    · exact h.1 t ht
    · exact hu t ht, fun j hj => by
    obtain ⟨t, h1, h2⟩ := h.2 j hj
    exact ⟨t, List.mem_append_left _ h1, h2⟩⟩
structure Lo (n : Nat) (low : Nat → Rat) : Prop where
  le : n ≤ 40
  z : low 0 = 0
  up : ∀ k, k < n → low k < low (k + 1)
  bd : ∀ k, k < n → Bd 6 5760 (low k)
end Wk31

set_option Elab.async false
set_option linter.all false
set_option maxRecDepth 100000
set_option maxHeartbeats 4000000
namespace Wk31
open PySem PySem.Spec PyProof.Rows L2 Dv
theorem made2 {n takers kind many : Nat} {d : D} (hd : DS n d) (hn : n < 2 ^ 37) (h0 : 0 < takers) (h3 : takers ≤ 3) (hk : kind < 7) (hm : many ≤ 40) :
    ∃ (low : Nat → Rat) (rings : Nat) (js : List Nat) (ts : List Tr) (d' : D), exs (F18 MM) MM mE1 (mE0 d takers kind many) = exs (F18 MM) MM mE2 (mE d' takers kind many low rings js ts none) ∧ Lo many low ∧ (∀ j ∈ js, j < many) ∧ TS many low js ts ∧ ts.length ≤ 10 ∧ DS (n + 400) d' := by
  obtain ⟨low, d1, e1, l0, l1, l2, hd1⟩ := lows_ok hd (by omega) hm
  have hl : ∀ k, k < many → Bd 6 5760 (low k) := fun k hk => (l2 k (by omega)).mono (by omega)
  obtain ⟨m, hm1, hm2, hm3⟩ : ∃ m : Int, (if kind < 3 then 1 + ((7 - (takers : Int)) - 2 * 1).fdiv 2 else 1 + ((7 - (takers : Int)) - 2 * 0).fdiv 2) = m ∧ 0 < m ∧ m ≤ 4 := by
    refine ⟨_, rfl, ?_, ?_⟩ <;> split <;> rw [Int.fdiv_eq_ediv_of_nonneg _ (by omega)] <;> omega
  obtain ⟨rings, d2, e2, h2, hd2⟩ := f__law_draw (m := m) hd1 (by omega) hm2 (by omega)
  have c1 : ∃ (js : List Nat) (d' : D), ev (F18 MM) C__law_made_0 [some (.own true d2), some (.val (.int (takers : Nat))), some (.val (.int (kind : Nat))), some (.val (.int (many : Nat))), some (.own false (lwD many low)), some (.val (.int (rings : Nat))), none, none, none, none, none, none, none, none, none, none] =
      .ok (.own (isD js), [some (.own true d'), some (.val (.int (takers : Nat))), some (.val (.int (kind : Nat))), some (.val (.int (many : Nat))), some (.own false (lwD many low)), some (.val (.int (rings : Nat))), none, none, none, none, none, none, none, none, none, none]) ∧ (∀ j ∈ js, j < many) ∧ js.length ≤ 3 ∧ DS (n + 90) d' := by
    by_cases hz : many = 0
    · subst hz
      refine ⟨[], d2, ?_, fun j h => by simp at h, by simp, hd2.mono (by omega)⟩
      have := comp_fmE (F := F18 MM) (elt := E__law_made_0) (tg := .nm 13) (it := .rng (.var 5)) (ifs := .some (.cmp .Gt (.var 3) (.cst (.int 0)))) (own := [13]) (xs := List.range rings) (f := fun k => .int (k : Nat)) (g := fun _ => none) (p := .val .non)
        (ρ := [some (.own true d2), some (.val (.int (takers : Nat))), some (.val (.int (kind : Nat))), some (.val (.int ((0 : Nat) : Int))), some (.own false (lwD 0 low)), some (.val (.int (rings : Nat))), none, none, none, none, none, none, none, none, none, none])
        (ρ1 := [some (.own true d2), some (.val (.int (takers : Nat))), some (.val (.int (kind : Nat))), some (.val (.int ((0 : Nat) : Int))), some (.own false (lwD 0 low)), some (.val (.int (rings : Nat))), none, none, none, none, none, none, none, none, none, none])
        (ρw := [some (.own true d2), some (.val (.int (takers : Nat))), some (.val (.int (kind : Nat))), some (.val (.int ((0 : Nat) : Int))), some (.own false (lwD 0 low)), some (.val (.int (rings : Nat))), none, none, none, none, none, none, none, none, none, none])
        (ρ' := [some (.own true d2), some (.val (.int (takers : Nat))), some (.val (.int (kind : Nat))), some (.val (.int ((0 : Nat) : Int))), some (.own false (lwD 0 low)), some (.val (.int (rings : Nat))), none, none, none, none, none, none, none, none, none, none])
        (evi_rng (by simp) (by omega)) (by simp) (by rw [List.length_range]; exact len_lt (by omega)) (fun x _ => by simp [turnW, turnR]) (fun out => by simp [compEnd])
      have e0 : (List.range rings).filterMap (fun _ => (none : Option D)) = [] := by simp
      rw [e0] at this
      exact this
    · obtain ⟨js, d3, e, h4, h5, h6⟩ := comp_drE (F := F18 MM) (elt := E__law_made_0) (tg := .nm 13) (it := .rng (.var 5)) (ifs := .some (.cmp .Gt (.var 3) (.cst (.int 0)))) (own := [13]) (xs := List.range rings) (f := fun k => .int (k : Nat)) (h := fun z : Nat => D.int (z : Nat)) (Q := fun _ z => z < many) (p := .val .non)
        (ρ := [some (.own true d2), some (.val (.int (takers : Nat))), some (.val (.int (kind : Nat))), some (.val (.int (many : Nat))), some (.own false (lwD many low)), some (.val (.int (rings : Nat))), none, none, none, none, none, none, none, none, none, none])
        (ρ1 := [some (.own true d2), some (.val (.int (takers : Nat))), some (.val (.int (kind : Nat))), some (.val (.int (many : Nat))), some (.own false (lwD many low)), some (.val (.int (rings : Nat))), none, none, none, none, none, none, none, none, none, none])
        (E := fun d => [some (.own true d), some (.val (.int (takers : Nat))), some (.val (.int (kind : Nat))), some (.val (.int (many : Nat))), some (.own false (lwD many low)), some (.val (.int (rings : Nat))), none, none, none, none, none, none, none, none, none, none])
        (E' := fun d => [some (.own true d), some (.val (.int (takers : Nat))), some (.val (.int (kind : Nat))), some (.val (.int (many : Nat))), some (.own false (lwD many low)), some (.val (.int (rings : Nat))), none, none, none, none, none, none, none, none, none, none])
        1 (evi_rng (by simp) (by omega)) (by simp) (by rw [List.length_range]; exact len_lt (by omega)) hd2 (fun i x d hx hd' => by
          have hi : i < rings := by simpa using (List.getElem?_eq_some_iff.mp hx).1
          obtain ⟨r, d5, e5, h5, hd5⟩ := f__law_draw (m := (many : Int)) hd' (by omega) (by omega) (by omega)
          exact ⟨r, d5, by simp [turnW, turnR, E__law_made_0, e5, Nat.pos_of_ne_zero hz], by omega, hd5⟩) (fun d out => by simp [compEnd])
      rw [List.length_range] at h4 h6
      refine ⟨js, d3, e, fun z hz => ?_, by omega, h6.mono (by omega)⟩
      obtain ⟨i, hi, rfl⟩ := List.mem_iff_getElem.mp hz
      exact h5 i _ (List.getElem?_eq_getElem hi)
  obtain ⟨js, d3, ec, hjs, hjl, hd3⟩ := c1
  obtain ⟨ts, d4, et, ht1, ht2, ht3, hd4⟩ := tracks_ok (takers := takers) (js := js) hm hl l0 hd3 (by omega) h3 h0 hjs hjl
  refine ⟨low, rings, js, ts, d4, ?_, ⟨hm, l0, l1, hl⟩, hjs, ⟨ht1, ht2⟩, ht3, hd4.mono (by omega)⟩
  have dv2 : ∀ i, CDvX i 2 := fun i => dv_ok (by decide) (by decide)
  have m20 : CMulX 2 0 := mul_small (by decide) (by decide)
  have m21 : CMulX 2 1 := mul_small (by decide) (by decide)
  by_cases hc : kind < 3
  · rw [if_pos hc] at hm1
    simp only [Int.mul_one] at hm1
    have hc' : (kind : Int) < 3 := by omega
    simp [mE0, mE, mE1, e1, hc', m21, dv2, hm1, e2, ec, et, endD]
  · rw [if_neg hc] at hm1
    simp only [Int.mul_zero, Int.sub_zero] at hm1
    have hc' : ¬ (kind : Int) < 3 := by omega
    simp [mE0, mE, mE1, e1, hc', m20, dv2, hm1, e2, ec, et, endD]
end Wk31

set_option Elab.async false
set_option linter.all false
set_option maxRecDepth 100000
set_option maxHeartbeats 4000000
namespace Wk31
open PySem PySem.Spec PyProof.Rows L2 Dv
/-- what ends a ray -/
def Ed (n : Nat) (low : Nat → Rat) : Option Rat → Prop
  | none => n ≠ 0
  | some v => (n = 0 → v = 0) ∧ (∀ k, k < n → low k < v) ∧ Bd 6 6000 v
theorem made3 {n takers kind many rings : Nat} {low : Nat → Rat} {js : List Nat} {ts : List Tr} {d : D} (hd : DS n d) (hn : n < 2 ^ 38) (L : Lo many low) (hz : many = 0 → kind = 0) (ht : TS many low js ts) (htl : ts.length ≤ 10) :
    ∃ (e : Option Rat) (us : List Tr) (d' : D), exs (F18 MM) MM mE2 (mE d takers kind many low rings js ts none) = exs (F18 MM) MM mE3 (mE d' takers kind many low rings js us e) ∧ Ed many low e ∧ TS many low js us ∧ us.length ≤ 12 ∧ DS (n + 5) d' := by
  by_cases hc : kind < 3
  · have hc' : (kind : Int) < 3 := by omega
    -- the end
    have hend : ∃ (v : Rat) (d1 : D), DS (n + 2) d1 ∧ (many = 0 → v = 0) ∧ (∀ k, k < many → low k < v) ∧ Bd 6 6000 v ∧ Dv.ex (F18 MM) MM mI (mE d takers kind many low rings js ts (some 0)) = .ok (.nx, mE d1 takers kind many low rings js ts (some v)) := by
      have k2 : 2 ≤ sizeLine := by decide
      by_cases hm : many = 0
      · subst hm
        exact ⟨0, d, hd.mono (by omega), fun _ => rfl, fun k h => by omega, Bd.zero, by simp [mE, endD, mI]⟩
      · obtain ⟨q, d1, e1, hq, hp, hd1⟩ := gap_ok hd (by omega)
        have hb := L.bd (many - 1) (by omega)
        have e2 := f__law_plus _ _ (hb.k60 (by omega) (by omega) (by omega)).ok60 (hq.k60 (by omega) (by omega) (by omega)).ok60
        have ai : atI ((List.range many).map fun k => am (low k)) ((many : Int) - 1) = some (am (low (many - 1))) := by
          have : ((many : Int) - 1) = ((many - 1 : Nat) : Int) := by omega
          rw [this]
          exact atI_rng (by omega)
        have up : ∀ i k, k + i < many → low k ≤ low (k + i) := fun i => by
          induction i with
          | zero => intro k _; exact Rat.le_refl
          | succ i ih =>
            intro k h
            have h1 := ih k (by omega)
            have h2 := L.up (k + i) (by omega)
            rw [show k + (i + 1) = k + i + 1 by omega]
            grind
        refine ⟨low (many - 1) + q, d1, hd1, fun h => absurd h hm, fun k hk => ?_, (hb.add hq).mono (by omega), ?_⟩
        · have := up (many - 1 - k) k (by omega)
          rw [show k + (many - 1 - k) = many - 1 by omega] at this
          grind
        · simp [mE, endD, mI, Nat.pos_of_ne_zero hm, ai, e1, e2]
    obtain ⟨v, d1, hd1, hv0, hvl, hvb, e0⟩ := hend
    obtain ⟨r1, d2, e1, h1, hd2⟩ := f__law_draw (m := 6) hd1 (by omega) (by omega) (by omega)
    obtain ⟨r2, d3, e2, h2, hd3⟩ := f__law_draw (m := 4) hd2 (by omega) (by omega) (by omega)
    have e3 := f__law_int (r1 : Int)
    have e4 := f__law_amount (1 + (r2 : Int)) 2 (by omega) (oC_big (by omega))
    have hst : Bd 1 100 ((r1 : Int) : Rat) := Bd.int (by omega)
    have hsp : Bd 2 4 (Rat.divInt (1 + (r2 : Int)) 2) := Bd.divInt 1 (by omega) (by omega) (by omega)
    generalize Rat.divInt (1 + (r2 : Int)) 2 = speed at *
    generalize ((r1 : Int) : Rat) = start at *
    have e5 := ending_ok L.le L.bd hst hsp hvb
    have sB : Bd 360 720 speed := hsp.lift 180
    have eB : Bd 2160 4320000 (speed * (0 - v)) := (hsp.mul ((Bd.zero (L := 6) (N := 0)).sub hvb)).lift 180
    have hz : ts.length + 2 ≤ sizeLine := len_le (by omega)
    refine ⟨some v, ts ++ [rTr low (fun _ => speed) start, rTr low (fun _ => speed) (speed * (0 - v))], d3, ?_, ⟨hv0, hvl, hvb⟩, ht.app fun t h => ?_, by simp; omega, hd3.mono (by omega)⟩
    · have k2 : 2 ≤ sizeLine := by decide
      simp only [mE, endD] at e0
      simp only [lwD] at e5 e0
      simp [mE, endD, mE2, hc', k2, e0, e1, e2, e3, e4, e5, hz]
    · simp at h
      rcases h with rfl | rfl
      · exact ⟨rTr_K L.le L.bd ((hst.lift 2160).mono (by omega)) (fun k _ => sB.mono (by omega)), fun k _ _ => rTr_ahead k⟩
      · exact ⟨rTr_K L.le L.bd (eB.mono (by omega)) (fun k _ => sB.mono (by omega)), fun k _ _ => rTr_ahead k⟩
  · have hc' : ¬ (kind : Int) < 3 := by omega
    exact ⟨none, ts, d, by simp [mE, endD, mE2, hc'], fun h => hc (by rw [hz h]; omega), ht, by omega, hd.mono (by omega)⟩
end Wk31

set_option Elab.async false
set_option linter.all false
set_option maxRecDepth 100000
set_option maxHeartbeats 4000000
namespace Wk31
open PySem PySem.Spec PyProof.Rows L2 Dv
theorem made4 {n takers kind many rings : Nat} {low : Nat → Rat} {js : List Nat} {ts : List Tr} {e : Option Rat} {d : D} (hd : DS n d) (hn : n < 2 ^ 38) (L : Lo many low) (ht : TS many low js ts) (htl : ts.length ≤ 12) :
    ∃ (us : List Tr) (d' : D), exs (F18 MM) MM mE3 (mE d takers kind many low rings js ts e) = exs (F18 MM) MM mE4 (mE d' takers kind many low rings js us e) ∧ TS many low js us ∧ us.length ≤ 13 ∧ DS (n + 5) d' := by
  by_cases hl : ts.length < 8
  · have hl' : (ts.length : Int) < 8 := by omega
    obtain ⟨r, d1, e1, h1, hd1⟩ := f__law_draw (m := 3) hd (by omega) (by omega) (by omega)
    by_cases hr : r = 0
    · subst hr
      obtain ⟨q, d2, e2, hq, hd2⟩ := claim_ok hd1 (by omega)
      have zb : ∀ k, k < many → Bd 360 2000 ((fun _ => 0 : Nat → Rat) k) := fun k _ => Bd.zero
      have er := rising_ok (rise := fun _ => 0) (start := q) L.le L.bd ((hq.lift 36).mono (by omega)) zb
      have c1 : ev (F18 MM) C__law_made_1 (mE d2 takers kind many low rings js ts e) = .ok (.own (lwD many fun _ => 0), mE d2 takers kind many low rings js ts e) :=
        comp_mapE (xs := List.range many) (f := fun k => am (low k)) (g := fun _ => am 0) (ρ1 := mE d2 takers kind many low rings js ts e)
          (ρw := [some (.own true d2), some (.val (.int (takers : Nat))), some (.val (.int (kind : Nat))), some (.val (.int (many : Nat))), some (.lck false (lwD many low)), some (.val (.int (rings : Nat))), some (.own false (isD js)), some (.own false (.lst (ts.map (trD many)))), some (.val (endD e)), none, none, none, none, none, none, none]) (p := .at_ 4)
          (by simp) (by simp) (by rw [List.length_range]; exact len_lt (by have := L.le; omega)) (fun x _ => by
            have k2 : 2 ≤ sizeLine := by decide
            simp [turnW, turnR, E__law_made_1, k2]) (fun out => by simp [compEnd])
      have hz : ts.length < sizeLine := len_lt (by omega)
      refine ⟨ts ++ [rTr low (fun _ => 0) q], d2, ?_, ht.app fun t h => ?_, by simp; omega, hd2.mono (by omega)⟩
      · simp only [mE, lwD] at c1 er
        simp [mE, mE3, hl', e1, e2, c1, er, hz]
      · simp at h
        subst h
        exact ⟨rTr_K L.le L.bd ((hq.lift 36).mono (by omega)) zb, fun k _ _ => rTr_ahead k⟩
    · exact ⟨ts, d1, by simp [mE, mE3, hl', e1, hr], ht, by omega, hd1.mono (by omega)⟩
  · have hl' : ¬ (ts.length : Int) < 8 := by omega
    exact ⟨ts, d, by simp [mE, mE3, hl'], ht, by omega, hd.mono (by omega)⟩
theorem pr0 {b s : Rat} : dIdx (pr b s) (.int 0) = .ok (am b) := by simp [pr]
theorem pr1 {b s : Rat} : dIdx (pr b s) (.int 1) = .ok (am s) := by simp [pr]
/-! the paper -/
def stD (low : Nat → Rat) (ts : List Tr) (k : Nat) : D := .tup [am (low k), .tup (ts.map fun t => am (t.b k)), .tup (ts.map fun t => am (t.s k))]
def paD (n : Nat) (low : Nat → Rat) (ts : List Tr) (e : Option Rat) : D := .tup [.str (Str.ofString "ray"), .tup (ts.map fun t => am t.f), .tup ((List.range n).map (stD low ts)), endD e]
def jpD (n : Nat) (low : Nat → Rat) (js : List Nat) : D := .tup (((List.range n).filter fun k => decide (k ∈ js)).map fun k => am (low k))
theorem filter_fm {α β : Type} {p : α → Bool} {f : α → β} : ∀ l : List α, l.filterMap (fun x => if p x = true then some (f x) else none) = (l.filter p).map f
  | [] => rfl
  | a :: l => by
    cases h : p a <;> simp [h, filter_fm l]
theorem made5 {n takers kind many rings : Nat} {low : Nat → Rat} {js : List Nat} {ts : List Tr} {e : Option Rat} {d : D} (hd : DS n d) (hn : n < 2 ^ 38) (L : Lo many low) (htl : ts.length ≤ 13) :
    ∃ (us : List Tr) (d' : D), (exs (F18 MM) MM mE4 (mE d takers kind many low rings js ts e)).bind (finish [.own d0]) = .ok (.val (.tup [paD many low us e, jpD many low js]), [.own d']) ∧ us.Perm ts ∧ DS (n + 13) d' := by
  have hm := L.le
  obtain ⟨row, d1, e1, hp, hd1⟩ := f__law_shuffled (row := ts.map (trD many)) (.inl rfl) hd (by omega) (by rw [List.length_map]; omega)
  obtain ⟨us, rfl, hu⟩ := perm_map hp ts rfl
  rw [List.length_map] at hd1
  have hul : us.length ≤ 13 := by rw [hu.length_eq]; omega
  have k3 : 3 ≤ sizeLine := by decide
  have k2 : 2 ≤ sizeLine := by decide
  have k4 : 4 ≤ sizeLine := by decide
  let P : List D → Option S → Option S → Option S → Env' := fun l o10 o11 o12 => [some (.own true d1), some (.val (.int (takers : Nat))), some (.val (.int (kind : Nat))), some (.val (.int (many : Nat))), some (.own false (lwD many low)), some (.val (.int (rings : Nat))), some (.own false (isD js)), some (.own false (.lst (us.map (trD many)))), some (.val (endD e)), some (.own false (.lst l)), o10, o11, o12, none, none, none]
  let Pl : List D → Option S → Option S → Option S → Env' := fun l o10 o11 o12 => [some (.own true d1), some (.val (.int (takers : Nat))), some (.val (.int (kind : Nat))), some (.val (.int (many : Nat))), some (.own false (lwD many low)), some (.val (.int (rings : Nat))), some (.own false (isD js)), some (.lck false (.lst (us.map (trD many)))), some (.val (endD e)), some (.own false (.lst l)), o10, o11, o12, none, none, none]
  have tr1 : ∀ t : Tr, dIdx (trD many t) (.int 1) = .ok (.lst ((List.range many).map fun k => pr (t.b k) (t.s k))) := fun t => by simp [trD]
  have tr0 : ∀ t : Tr, dIdx (trD many t) (.int 0) = .ok (am t.f) := fun t => by simp [trD]
  have c3 : ∀ (l : List D) (k : Nat) (o11 o12 : Option S), k < many → ev (F18 MM) C__law_made_3 (P l (some (.val (.int (k : Nat)))) o11 o12) = .ok (.own (.lst (us.map fun t => am (t.b k))), P l (some (.val (.int (k : Nat)))) o11 o12) := fun l k o11 o12 hk =>
    comp_mapE (xs := us) (f := trD many) (g := fun t => am (t.b k)) (ρ1 := P l (some (.val (.int (k : Nat)))) o11 o12) (ρw := Pl l (some (.val (.int (k : Nat)))) o11 o12) (p := .at_ 7)
      (by simp [P]) (by simp [P, Pl]) (len_lt (by omega)) (fun t _ => by
        have ai : atI ((List.range many).map fun k => pr (t.b k) (t.s k)) (k : Int) = some (pr (t.b k) (t.s k)) := atI_rng hk
        simp [turnW, turnR, E__law_made_3, Pl, tr1, ai, pr0, pr1]) (fun out => by simp [compEnd, P, Pl])
  have c4 : ∀ (l : List D) (k : Nat) (o11 o12 : Option S), k < many → ev (F18 MM) C__law_made_4 (P l (some (.val (.int (k : Nat)))) o11 o12) = .ok (.own (.lst (us.map fun t => am (t.s k))), P l (some (.val (.int (k : Nat)))) o11 o12) := fun l k o11 o12 hk =>
    comp_mapE (xs := us) (f := trD many) (g := fun t => am (t.s k)) (ρ1 := P l (some (.val (.int (k : Nat)))) o11 o12) (ρw := Pl l (some (.val (.int (k : Nat)))) o11 o12) (p := .at_ 7)
      (by simp [P]) (by simp [P, Pl]) (len_lt (by omega)) (fun t _ => by
        have ai : atI ((List.range many).map fun k => pr (t.b k) (t.s k)) (k : Int) = some (pr (t.b k) (t.s k)) := atI_rng hk
        simp [turnW, turnR, E__law_made_4, Pl, tr1, ai, pr0, pr1]) (fun out => by simp [compEnd, P, Pl])
  obtain ⟨ρ', ⟨o10, o12, rfl, g10, g12⟩, ef⟩ := for_rng (F := F18 MM) (N := MM) (S := S__law_made_2) rfl (m := many) (ρ := P [] none none none) (ρ1 := P [] none none none)
    (fun i ρ => ∃ o10 o12, ρ = P ((List.range i).map (stD low us)) o10 none o12 ∧ gFree (some o10) = true ∧ gFree (some o12) = true)
    (evi_rng (by simp [P]) (by omega)) ⟨none, none, rfl, rfl, rfl⟩
    (fun i ρ hi ⟨o10, o12, e, g10, g12⟩ => by
      subst e
      refine ⟨_, .inl ?_, some (.val (.int (i : Nat))), some (.val (.tup (us.map fun t => am (t.b i)))), rfl, rfl, rfl⟩
      rw [rng_snoc]
      have h3 := c3 ((List.range i).map (stD low us)) i none o12 hi
      have h4 := c4 ((List.range i).map (stD low us)) i none (some (.val (.tup (us.map fun t => am (t.b i))))) hi
      have ai : atI ((List.range many).map fun k => am (low k)) (i : Int) = some (am (low i)) := atI_rng hi
      have hz : i < sizeLine := len_lt (by omega)
      simp only [P] at h3 h4
      simp [turnX, B__law_made_2, P, g10, g12, h3, h4, ai, k3, hz, stD])
  have c5 : ∀ (l : List D) (o10 o12 : Option S), ev (F18 MM) C__law_made_5 (P l o10 none o12) = .ok (.own (.lst (us.map fun t => am t.f)), P l o10 none o12) := fun l o10 o12 =>
    comp_mapE (xs := us) (f := trD many) (g := fun t => am t.f) (ρ1 := P l o10 none o12) (ρw := Pl l o10 none o12) (p := .at_ 7)
      (by simp [P]) (by simp [P, Pl]) (len_lt (by omega)) (fun t _ => by simp [turnW, turnR, E__law_made_5, Pl, tr0]) (fun out => by simp [compEnd, P, Pl])
  have c6 : ∀ (l : List D) (o10 o11 o12 : Option S), ev (F18 MM) C__law_made_6 (P l o10 o11 o12) = .ok (.own (.lst (((List.range many).filter fun k => decide (k ∈ js)).map fun k => am (low k))), P l o10 o11 o12) := fun l o10 o11 o12 => by
    rw [← filter_fm]
    exact comp_fmE (xs := List.range many) (f := fun k => .int (k : Nat)) (g := fun k => if decide (k ∈ js) = true then some (am (low k)) else none) (ρ1 := P l o10 o11 o12) (ρw := P l none o11 o12) (p := .val .non)
      (evi_rng (by simp [P]) (by omega)) (by simp [P]) (by rw [List.length_range]; exact len_lt (by omega)) (fun k hk => by
        have hk : k < many := List.mem_range.mp hk
        have ij := in_ints (k := k) (l := js)
        have ai : atI ((List.range many).map fun k => am (low k)) (k : Int) = some (am (low k)) := atI_rng hk
        by_cases h : k ∈ js
        · rw [decide_eq_true h] at ij
          simp [turnW, turnR, E__law_made_6, P, ij, ai, h]
        · rw [decide_eq_false h] at ij
          simp [turnW, turnR, E__law_made_6, P, ij, ai, h]) (fun out => by simp [compEnd, P])
  refine ⟨us, d1, ?_, hu, hd1.mono (by omega)⟩
  have h5 := c5 ((List.range many).map (stD low us)) o10 o12
  have h6 := c6 ((List.range many).map (stD low us)) o10 (some (.val (paD many low us e))) o12
  simp only [P, paD] at h5 h6 ef
  simp [mE, mE4, e1, ef, h5, h6, k4, k2, paD, jpD]
end Wk31

set_option Elab.async false
set_option linter.all false
set_option maxRecDepth 100000
set_option maxHeartbeats 4000000
namespace Wk31
open PySem PySem.Spec PyProof.Rows L2 Dv
theorem made_ok {n : Nat} {d : D} (hd : DS n d) (hn : n < 2 ^ 36) :
    ∃ (many : Nat) (low : Nat → Rat) (js : List Nat) (ts : List Tr) (e : Option Rat) (d' : D), (FU MM).call "_law_made" [.own d] = .ok (.val (.tup [paD many low ts e, jpD many low js]), [.own d']) ∧
      Lo many low ∧ (∀ j ∈ js, j < many) ∧ TS many low js ts ∧ ts.length ≤ 13 ∧ Ed many low e ∧ DS (n + 1000) d' := by
  obtain ⟨takers, kind, many, d1, e1, h1, h2, h3, h4, h5, hd1⟩ := made1 hd (by omega)
  obtain ⟨low, rings, js, ts, d2, e2, L, hj, ht, hl, hd2⟩ := made2 hd1 (by omega) h1 h2 h3 h4
  obtain ⟨e, us, d3, e3, hE, ht3, hl3, hd3⟩ := made3 (takers := takers) (rings := rings) hd2 (by omega) L h5 ht hl
  obtain ⟨vs, d4, e4, ht4, hl4, hd4⟩ := made4 (takers := takers) (kind := kind) (rings := rings) (e := e) hd3 (by omega) L ht3 hl3
  obtain ⟨ws, d5, e5, hp, hd5⟩ := made5 (d0 := d) (takers := takers) (kind := kind) (rings := rings) (js := js) (e := e) hd4 (by omega) L hl4
  refine ⟨many, low, js, ws, e, d5, ?_, L, hj, ⟨fun t h => ht4.1 t (hp.mem_iff.mp h), fun j h => ?_⟩, by rw [hp.length_eq]; omega, hE, hd5.mono (by omega)⟩
  · rw [run__law_made rfl]
    show (exs (F18 MM) MM b__law_made (envOf 16 [.own d])).bind _ = _
    rw [e1, e2, e3, e4]
    exact e5
  · obtain ⟨t, h6, h7⟩ := ht4.2 j h
    exact ⟨t, hp.mem_iff.mpr h6, h7⟩
/-! the program's ray -/
section
variable {α : Type}
theorem zip_am {us : List α} {f g : α → Rat} : zipD [us.map fun t => am (f t), us.map fun t => am (g t)] = us.map fun t => D.tup [am (f t), am (g t)] := by
  induction us with
  | nil => rfl
  | cons a t ih =>
    have ih : ((t.map fun t => am (f t)).zip (t.map fun t => am (g t))).map (fun p => D.tup [p.1, p.2]) = t.map fun t => D.tup [am (f t), am (g t)] := ih
    show D.tup [am (f a), am (g a)] :: ((t.map fun t => am (f t)).zip (t.map fun t => am (g t))).map (fun p => D.tup [p.1, p.2]) = _
    rw [ih, List.map_cons]
theorem moved_ok {us : List α} {x v : α → Rat} {far : Rat} (hl : us.length < 1000) (hx : ∀ t ∈ us, K 200 (x t)) (hv : ∀ t ∈ us, K 200 (v t)) (hf : K 200 far) :
    (FU MM).call "moved_along" [.val (.tup (us.map fun t => am (x t))), .val (.tup (us.map fun t => am (v t))), .val (am far)] = .ok (.val (.tup (us.map fun t => am (x t + v t * far))), [.val (.tup (us.map fun t => am (x t))), .val (.tup (us.map fun t => am (v t))), .val (am far)]) := by
  have z := zip_am (us := us) (f := x) (g := v)
  have c : ev (F22 MM) C_moved_along_0 [some (.val (.tup (us.map fun t => am (x t)))), some (.val (.tup (us.map fun t => am (v t)))), some (.val (am far)), none, none] =
      .ok (.own (.lst (us.map fun t => am (x t + v t * far))), [some (.val (.tup (us.map fun t => am (x t)))), some (.val (.tup (us.map fun t => am (v t)))), some (.val (am far)), none, none]) :=
    comp_mapE (xs := us) (f := fun t => D.tup [am (x t), am (v t)]) (g := fun t => am (x t + v t * far)) (ρ1 := [some (.val (.tup (us.map fun t => am (x t)))), some (.val (.tup (us.map fun t => am (v t)))), some (.val (am far)), none, none])
      (ρw := [some (.val (.tup (us.map fun t => am (x t)))), some (.val (.tup (us.map fun t => am (v t)))), some (.val (am far)), none, none]) (p := .val .non)
      (by simp [z]) (by simp) (len_lt (by omega)) (fun t ht => by
        have e1 := f_times _ _ (hf.ok (by decide)) ((hv t ht).ok (by decide))
        have e2 := f_plus _ _ ((hx t ht).ok (by decide)) ((hf.mul (hv t ht)).ok (by decide))
        rw [Rat.mul_comm] at e1 e2
        simp [turnW, turnR, E_moved_along_0, e1, e2]) (fun out => by simp [compEnd])
  rw [run_moved_along rfl]
  simp [b_moved_along, Dv.envOf, c]
end
abbrev rD (low : Nat → Rat) (us : List Tr) (k : Nat) (g : Rat) : D := .tup (us.map fun t => am (t.b k + t.s k * (g - low k)))
abbrev aD (low : Nat → Rat) (us : List Tr) (k : Nat) : D := .tup (us.map fun t => am (ahead low t k))
section
variable {n : Nat} {low : Nat → Rat} {us : List Tr} {js : List Nat} {e : Option Rat}
theorem Lo.k (L : Lo n low) {k : Nat} (hk : k < n) : K 60 (low k) := (L.bd k hk).k60 (by omega) (by omega) (by omega)
theorem row_on_ok {k : Nat} {g : Rat} (L : Lo n low) (hk : k < n) (hu : ∀ t ∈ us, TrK n t) (hl : us.length ≤ 13) (hg : K 100 g) :
    (FU MM).call "row_on" [.val (stD low us k), .val (am g)] = .ok (.val (rD low us k g), [.val (stD low us k), .val (am g)]) := by
  have e1 := f_minus g (low k) (hg.ok (by decide)) (L.k hk).ok60
  have e2 := moved_ok (us := us) (x := fun t => t.b k) (v := fun t => t.s k) (far := g - low k) (by omega) (fun t ht => ((hu t ht).2 k hk).1.mono (by decide)) (fun t ht => ((hu t ht).2 k hk).2.mono (by decide)) ((hg.sub (L.k hk)).mono (by decide))
  rw [run_row_on rfl]
  simp [b_row_on, Dv.envOf, stD, e1, e2]
theorem enm_rng {f : Nat → D} : enmD ((List.range n).map f) = (List.range n).map fun k => D.tup [.int (k : Nat), f k] := by
  apply List.ext_getElem
  · simp [enmD]
  · intro i h1 h2
    simp [enmD]
theorem rows_ok (L : Lo n low) (hu : ∀ t ∈ us, TrK n t) (hl : us.length ≤ 13) :
    (FU MM).call "rows_ahead" [.val (paD n low us e)] = .ok (.own (.lst ((List.range n).map (aD low us))), [.val (paD n low us e)]) := by
  have hn := L.le
  obtain ⟨ρ', ⟨o7, o8, rfl, _, _⟩, ef⟩ := for_val (F := F25 MM) (N := MM) (S := S_rows_ahead_0) rfl (d := .tup ((List.range n).map (stD low us))) (xs := List.range n) (f := fun k => D.tup [.int (k : Nat), stD low us k])
    (ρ := [some (.val (paD n low us e)), some (.own false (.lst [])), some (.val (aD low us 0)), some (.val (.str (Str.ofString "ray"))), some (.val (aD low us 0)), some (.val (.tup ((List.range n).map (stD low us)))), some (.val (endD e)), none, none])
    (ρ1 := [some (.val (paD n low us e)), some (.own false (.lst [])), some (.val (aD low us 0)), some (.val (.str (Str.ofString "ray"))), some (.val (aD low us 0)), some (.val (.tup ((List.range n).map (stD low us)))), some (.val (endD e)), none, none])
    (fun i ρ => ∃ o7 o8, ρ = [some (.val (paD n low us e)), some (.own false (.lst ((List.range i).map (aD low us)))), some (.val (aD low us (i - 1))), some (.val (.str (Str.ofString "ray"))), some (.val (aD low us 0)), some (.val (.tup ((List.range n).map (stD low us)))), some (.val (endD e)), o7, o8] ∧ gFree (some o7) = true ∧ gFree (some o8) = true)
    (by rw [← enm_rng]; simp) ⟨none, none, rfl, rfl, rfl⟩
    (fun i x ρ hx ⟨o7, o8, e, g7, g8⟩ => by
      obtain ⟨hi, rfl⟩ := List.getElem?_eq_some_iff.mp hx
      rw [List.length_range] at hi
      rw [List.getElem_range]
      subst e
      refine ⟨_, .inl ?_, some (.val (.int (i : Nat))), some (.val (stD low us i)), rfl, rfl, rfl⟩
      rw [rng_snoc]
      have hz : i < sizeLine := len_lt (by omega)
      cases i with
      | zero => simp [turnX, B_rows_ahead_0, g7, g8, hz]
      | succ j =>
        have e1 := row_on_ok (g := low (j + 1)) L (show j < n by omega) hu hl ((L.k hi).mono (by decide))
        have a1 : atI ((List.range n).map (stD low us)) (j : Int) = some (stD low us j) := atI_rng (by omega)
        have s0 : dIdx (stD low us (j + 1)) (.int 0) = .ok (am (low (j + 1))) := by simp [stD]
        have p1 : (0 : Int) < (j : Int) + 1 := by omega
        have er : rD low us j (low (j + 1)) = aD low us (j + 1) := rfl
        rw [er] at e1
        simp [turnX, B_rows_ahead_0, g7, g8, hz, a1, s0, p1, e1])
  rw [List.length_range] at ef
  rw [run_rows_ahead rfl]
  simp only [aD, ahead, paD] at ef
  simp [b_rows_ahead, Dv.envOf, paD, ef]
end
end Wk31

set_option Elab.async false
set_option linter.all false
set_option maxRecDepth 100000
set_option maxHeartbeats 4000000
namespace Wk31
open PySem PySem.Spec PyProof.Rows L2 Dv
theorem zip_rng {n : Nat} {f g : Nat → D} : zipD [(List.range n).map f, (List.range n).map g] = (List.range n).map fun k => D.tup [f k, g k] := by
  apply List.ext_getElem
  · simp [zipD]
  · intro i h1 h2
    simp [zipD]
theorem nice_ams {α : Type} {us : List α} {f : α → Rat} : nice 2 (.tup (us.map fun t => am (f t))) := fun x hx => by
  obtain ⟨t, _, rfl⟩ := List.mem_map.mp hx
  exact nice_am
section
variable {n : Nat} {low : Nat → Rat} {us : List Tr} {js : List Nat} {e : Option Rat}
theorem at_jump (ht : TS n low js us) {k : Nat} (hk : k < n) : decide (D.tup (us.map fun t => am (t.b k)) = aD low us k) = !decide (k ∈ js) := by
  by_cases h : k ∈ js
  · obtain ⟨t, h1, h2⟩ := ht.2 k h
    rw [decide_eq_true h, decide_eq_false]
    · rfl
    · intro e
      injection e with e
      rw [List.map_inj_left] at e
      exact h2 (am_inj.mp (e t h1))
  · rw [decide_eq_false h, decide_eq_true]
    · rfl
    · show D.tup _ = D.tup _
      congr 1
      rw [List.map_inj_left]
      intro t h1
      rw [(ht.1 t h1).2 k hk h]
theorem jumps_ok (L : Lo n low) (ht : TS n low js us) (hl : us.length ≤ 13) : (FU MM).call "jumps_of" [.val (paD n low us e)] = .ok (.val (jpD n low js), [.val (paD n low us e)]) := by
  have hn := L.le
  have er := rows_ok (e := e) L (fun t h => (ht.1 t h).1) hl
  have p2 : dIdx (paD n low us e) (.int 2) = .ok (.tup ((List.range n).map (stD low us))) := by simp [paD]
  obtain ⟨ρ', ⟨o2, o3, rfl, _, _⟩, ef⟩ := for_val (F := F26 MM) (N := MM) (S := S_jumps_of_0) rfl (d := .non) (xs := List.range n) (f := fun k => D.tup [stD low us k, aD low us k]) (ρ := [some (.val (paD n low us e)), some (.own false (.lst [])), none, none])
    (ρ1 := [some (.val (paD n low us e)), some (.own false (.lst [])), none, none])
    (fun i ρ => ∃ o2 o3, ρ = [some (.val (paD n low us e)), some (.own false (.lst (((List.range i).filter fun k => decide (k ∈ js)).map fun k => am (low k)))), o2, o3] ∧ gFree (some o2) = true ∧ gFree (some o3) = true)
    (by rw [← zip_rng]; simp [p2, er]) ⟨none, none, rfl, rfl, rfl⟩
    (fun i x ρ hx ⟨o2, o3, e, g2, g3⟩ => by
      obtain ⟨hi, rfl⟩ := List.getElem?_eq_some_iff.mp hx
      rw [List.length_range] at hi
      rw [List.getElem_range]
      subst e
      refine ⟨_, .inl ?_, some (.val (stD low us i)), some (.val (aD low us i)), rfl, rfl, rfl⟩
      have ne := ne_nice (k := 2) (d := .tup (us.map fun t => am (t.b i))) (e := aD low us i) (nice_ams (f := fun t : Tr => t.b i)) (nice_ams (f := fun t : Tr => ahead low t i)) (by decide)
      rw [at_jump ht hi] at ne
      have s0 : dIdx (stD low us i) (.int 0) = .ok (am (low i)) := by simp [stD]
      have s1 : dIdx (stD low us i) (.int 1) = .ok (.tup (us.map fun t => am (t.b i))) := by simp [stD]
      have fl := List.length_filter_le (fun k => decide (k ∈ js)) (List.range i)
      rw [List.length_range] at fl
      have hz : ((List.range i).filter fun k => decide (k ∈ js)).length < sizeLine := len_lt (by omega)
      rw [List.range_succ, List.filter_append, List.map_append]
      by_cases h : i ∈ js
      · simp only [h, decide_true, Bool.not_true, Bool.not_false] at ne
        simp [turnX, B_jumps_of_0, g2, g3, s0, s1, -c37_dCmp, ne, hz, h]
      · simp only [h, decide_false, Bool.not_true, Bool.not_false] at ne
        simp [turnX, B_jumps_of_0, g2, g3, s0, s1, -c37_dCmp, ne, hz, h])
  rw [List.length_range] at ef
  rw [run_jumps_of rfl]
  simp [b_jumps_of, Dv.envOf, ef, jpD]
/-! the stretch for a growth -/
def selB (low : Nat → Rat) (g : Rat) : Nat → Option Nat
  | 0 => none
  | i + 1 => if low i < g then some i else selB low g i
theorem Lo.mono (L : Lo n low) : ∀ (i k : Nat), k + i ≤ n → low k ≤ low (k + i)
  | 0, k, _ => Rat.le_refl
  | i + 1, k, h => by
    have h1 := L.mono i k (by omega)
    have h2 := L.up (k + i) (by omega)
    rw [show k + (i + 1) = k + i + 1 by omega]
    grind
theorem Lo.nn (L : Lo n low) {k : Nat} (hk : k ≤ n) : 0 ≤ low k := by
  have := L.mono k 0 (by omega)
  rw [L.z, Nat.zero_add] at this
  exact this
theorem selB_none {g : Rat} : ∀ {m : Nat}, (∀ k, k < m → ¬ low k < g) → selB low g m = none
  | 0, _ => rfl
  | m + 1, h => by
    rw [selB, if_neg (h m (by omega))]
    exact selB_none fun k hk => h k (by omega)
theorem selB_some {g : Rat} {k : Nat} (h1 : low k < g) : ∀ {m : Nat}, k < m → (∀ j, k < j → j < m → ¬ low j < g) → selB low g m = some k
  | m + 1, hk, h => by
    by_cases e : k = m
    · subst e
      rw [selB, if_pos h1]
    · rw [selB, if_neg (h m (by omega) (by omega))]
      exact selB_some h1 (by omega) fun j a b => h j a (by omega)
theorem selB_lt {g : Rat} : ∀ {m k : Nat}, selB low g m = some k → k < m ∧ low k < g
  | m + 1, k, h => by
    rw [selB] at h
    split at h
    · rename_i hl
      cases h
      exact ⟨by omega, hl⟩
    · have := selB_lt h
      exact ⟨by omega, this.2⟩
/-- the row at a growth -/
def due (n : Nat) (low : Nat → Rat) (us : List Tr) (e : Option Rat) (g : Rat) : Option (List Rat) :=
  if (∃ v, e = some v ∧ v < g) then none else match selB low g n with
    | none => some (us.map fun t => t.f)
    | some k => some (us.map fun t => t.b k + t.s k * (g - low k))
end
end Wk31

set_option Elab.async false
set_option linter.all false
set_option maxRecDepth 100000
set_option maxHeartbeats 4000000
namespace Dv
open PySem PySem.Spec PyProof.Rows L2
theorem forR_bk {f : D → Env' → Rs (Fl × Env')} {Q : Env' → Prop} : ∀ {l : List D} {I : Nat → Env' → Prop} {ρ : Env'} {k : Nat},
    (∀ (i : Nat) (d : D) (ρ : Env'), l[i]? = some d → I (k + i) ρ → ∃ ρ', ((f d ρ = .ok (.nx, ρ') ∨ f d ρ = .ok (.ct, ρ')) ∧ I (k + i + 1) ρ') ∨ (f d ρ = .ok (.bk, ρ') ∧ Q ρ')) → I k ρ → ∃ ρ', forR f l ρ = .ok (.nx, ρ') ∧ (I (k + l.length) ρ' ∨ Q ρ')
  | [], I, ρ, k, _, h => ⟨ρ, rfl, .inl h⟩
  | d :: l, I, ρ, k, step, h => by
    obtain ⟨ρ1, ⟨e1, h1⟩ | ⟨e1, q⟩⟩ := step 0 d ρ rfl h
    · obtain ⟨ρ2, e2, h2⟩ := forR_bk (l := l) (I := I) (ρ := ρ1) (k := k + 1) (fun i d ρ e hi => by
        have := step (i + 1) d ρ (by simpa using e) (by rw [show k + (i + 1) = k + 1 + i by omega]; exact hi)
        rw [show k + (i + 1) = k + 1 + i by omega] at this
        exact this) h1
      refine ⟨ρ2, ?_, ?_⟩
      · show (f d ρ).bind _ = _
        rcases e1 with e1 | e1 <;> rw [e1] <;> exact e2
      · rw [List.length_cons, show k + (l.length + 1) = k + 1 + l.length by omega]
        exact h2
    · refine ⟨ρ1, ?_, .inr q⟩
      show (f d ρ).bind _ = _
      rw [e1]
      rfl
/-- a loop over a value's items that may break off -/
theorem for_vbk {F : Fn} {N : Nat} {tg : Tg} {it : Ie} {b : Sxs} {ρ ρ1 : Env'} {S : Sx} (hS : S = .for_ tg it b) {α : Type} {xs : List α} {f : α → D} {d : D} (I : Nat → Env' → Prop) (Q : Env' → Prop) (hi : evi F it ρ = .ok ((xs.map f, .val d), ρ1)) (h0 : I 0 ρ1)
    (step : ∀ i x ρ, xs[i]? = some x → I i ρ → ∃ ρ', ((turnX F N tg b (f x) ρ = .ok (.nx, ρ') ∨ turnX F N tg b (f x) ρ = .ok (.ct, ρ')) ∧ I (i + 1) ρ') ∨ (turnX F N tg b (f x) ρ = .ok (.bk, ρ') ∧ Q ρ')) : ∃ ρ', (I xs.length ρ' ∨ Q ρ') ∧ ex F N S ρ = .ok (.nx, ρ') := by
  obtain ⟨ρ', e, h⟩ := forR_bk (f := turnX F N tg b) (l := xs.map f) (I := I) (Q := Q) (k := 0) (ρ := ρ1) (fun i d ρ ed h => by
    rw [Nat.zero_add] at h ⊢
    rw [List.getElem?_map] at ed
    cases hx : xs[i]? with
    | none => rw [hx] at ed; cases ed
    | some x =>
      rw [hx] at ed
      cases ed
      exact step i x ρ hx h) h0
  rw [Nat.zero_add, List.length_map] at h
  subst hS
  exact ⟨ρ', h, for_ok hi e⟩
end Dv
namespace Wk31
open PySem PySem.Spec PyProof.Rows L2 Dv
section
variable {n : Nat} {low : Nat → Rat} {us : List Tr} {js : List Nat} {e : Option Rat} {g : Rat}
def dueD : Option (List Rat) → D
  | none => .non
  | some l => .tup (l.map am)
theorem rD_due {k : Nat} : rD low us k g = dueD (some (us.map fun t => t.b k + t.s k * (g - low k))) := by
  show D.tup _ = D.tup _
  rw [List.map_map]
  rfl
theorem aD_due : aD low us 0 = dueD (some (us.map fun t => t.f)) := by
  show D.tup _ = D.tup _
  rw [List.map_map]
  rfl
theorem shift_ok {k : Nat} (L : Lo n low) (hk : k < n) (hu : ∀ t ∈ us, TrK n t) (hl : us.length ≤ 13) (hg : K 100 g) :
    (FU MM).call "_law_shift" [.val (.tup (us.map fun t => am (t.b k))), .val (.tup (us.map fun t => am (t.s k))), .val (am (g - low k))] =
      .ok (.val (rD low us k g), [.val (.tup (us.map fun t => am (t.b k))), .val (.tup (us.map fun t => am (t.s k))), .val (am (g - low k))]) := by
  have t0 : Tr := ⟨0, fun _ => 0, fun _ => 0⟩
  have c : ev (F32 MM) C__law_shift_0 [some (.val (.tup (us.map fun t => am (t.b k)))), some (.val (.tup (us.map fun t => am (t.s k)))), some (.val (am (g - low k))), none] =
      .ok (.own (.lst ((List.range us.length).map fun i => am ((us.getD i t0).b k + (us.getD i t0).s k * (g - low k)))), [some (.val (.tup (us.map fun t => am (t.b k)))), some (.val (.tup (us.map fun t => am (t.s k)))), some (.val (am (g - low k))), none]) :=
    comp_mapE (xs := List.range us.length) (f := fun i => .int (i : Nat)) (g := fun i => am ((us.getD i t0).b k + (us.getD i t0).s k * (g - low k))) (ρ1 := [some (.val (.tup (us.map fun t => am (t.b k)))), some (.val (.tup (us.map fun t => am (t.s k)))), some (.val (am (g - low k))), none])
      (ρw := [some (.val (.tup (us.map fun t => am (t.b k)))), some (.val (.tup (us.map fun t => am (t.s k)))), some (.val (am (g - low k))), none]) (p := .val .non)
      (evi_rng (by simp) (by omega)) (by simp) (by rw [List.length_range]; exact len_lt (by omega)) (fun i hi => by
        have hi : i < us.length := List.mem_range.mp hi
        have hx : us[i]? = some us[i] := List.getElem?_eq_getElem hi
        have eg : us.getD i t0 = us[i] := by simp [hi]
        have a1 := atI_mapG (g := fun t : Tr => am (t.b k)) hx
        have a2 := atI_mapG (g := fun t : Tr => am (t.s k)) hx
        have hm := hu _ (List.getElem_mem hi)
        have e1 := f__law_times _ _ (hm.2 k hk).2.ok60 ((hg.sub (L.k hk)).ok (by decide))
        have e2 := f__law_plus _ _ (hm.2 k hk).1.ok60 (((hm.2 k hk).2.mul (hg.sub (L.k hk))).ok (by decide))
        rw [eg]
        simp [turnW, turnR, E__law_shift_0, a1, a2, e1, e2]) (fun out => by simp [compEnd])
  rw [← map_rng (l := us) (fun t => am (t.b k + t.s k * (g - low k))) t0] at c
  rw [run__law_shift rfl]
  simp [b__law_shift, Dv.envOf, c]
theorem end_ne : dCmp .NotEq (endD e) .non = .ok (e.isSome) := by
  cases e with
  | none =>
    have := ne_nice (k := 0) (d := .non) (e := .non) nice_non nice_non (by decide)
    simpa [endD] using this
  | some v =>
    have := ne_nice (k := 2) (d := am v) (e := .non) nice_am nice_non (by decide)
    simpa [endD] using this
theorem end_is : dCmp .IsNot (endD e) .non = .ok (e.isSome) := by
  cases e <;> rfl
theorem Ed.k (hE : Ed n low e) {v : Rat} (h : e = some v) : K 60 v := by
  subst h
  exact hE.2.2.k60 (by omega) (by omega) (by omega)
theorem law_row_ok (L : Lo n low) (hu : ∀ t ∈ us, TrK n t) (hl : us.length ≤ 13) (hE : Ed n low e) (hg : K 100 g) :
    (FU MM).call "_law_row_at" [.val (paD n low us e), .val (am g)] = .ok (.val (dueD (due n low us e g)), [.val (paD n low us e), .val (am g)]) := by
  have hn := L.le
  have p1 : dIdx (paD n low us e) (.int 1) = .ok (aD low us 0) := by simp [paD, ahead]
  have p2 : dIdx (paD n low us e) (.int 2) = .ok (.tup ((List.range n).map (stD low us))) := by simp [paD]
  have p3 : dIdx (paD n low us e) (.int 3) = .ok (endD e) := by simp [paD]
  rw [run__law_row_at rfl]
  have ne := end_ne (e := e)
  by_cases hb : ∃ v, e = some v ∧ v < g
  · obtain ⟨v, rfl, hv⟩ := hb
    have e1 := f__law_less v g (hE.k rfl).ok60 (hg.ok (by decide))
    rw [decide_eq_true hv] at e1
    have hd : due n low us (some v) g = none := if_pos ⟨v, rfl, hv⟩
    rw [hd]
    have ne : dCmp .NotEq (am v) .non = .ok true := ne
    have p3 : dIdx (paD n low us (some v)) (.int 3) = .ok (am v) := p3
    simp [b__law_row_at, Dv.envOf, p3, -c37_dCmp, ne, e1, dueD]
  · have hd : due n low us e g = match selB low g n with
      | none => some (us.map fun t => t.f)
      | some k => some (us.map fun t => t.b k + t.s k * (g - low k)) := if_neg hb
    have found : ∀ i, i ≤ n → ∃ r : D, r = (match selB low g i with | none => aD low us 0 | some k => rD low us k g) := fun i _ => ⟨_, rfl⟩
    obtain ⟨ρ', ⟨o, rfl, _⟩, ef⟩ := for_val (F := F33 MM) (N := MM) (S := S__law_row_at_0) rfl (d := .tup ((List.range n).map (stD low us))) (xs := List.range n) (f := stD low us) (ρ := [some (.val (paD n low us e)), some (.val (am g)), some (.val (aD low us 0)), none])
      (ρ1 := [some (.val (paD n low us e)), some (.val (am g)), some (.val (aD low us 0)), none])
      (fun i ρ => ∃ o, ρ = [some (.val (paD n low us e)), some (.val (am g)), some (.val (match selB low g i with | none => aD low us 0 | some k => rD low us k g)), o] ∧ gFree (some o) = true)
      (by simp [p2]) ⟨none, rfl, rfl⟩
      (fun i x ρ hx ⟨o, e, ho⟩ => by
        obtain ⟨hi, rfl⟩ := List.getElem?_eq_some_iff.mp hx
        rw [List.length_range] at hi
        rw [List.getElem_range]
        subst e
        have s0 : dIdx (stD low us i) (.int 0) = .ok (am (low i)) := by simp [stD]
        have s1 : dIdx (stD low us i) (.int 1) = .ok (.tup (us.map fun t => am (t.b i))) := by simp [stD]
        have s2 : dIdx (stD low us i) (.int 2) = .ok (.tup (us.map fun t => am (t.s i))) := by simp [stD]
        have e1 := f__law_less (low i) g (L.k hi).ok60 (hg.ok (by decide))
        have e2 := f__law_minus g (low i) (hg.ok (by decide)) (L.k hi).ok60
        have e3 := shift_ok L hi hu hl hg
        refine ⟨_, .inl ?_, some (.val (stD low us i)), rfl, rfl⟩
        by_cases h : low i < g
        · rw [decide_eq_true h] at e1
          have es : selB low g (i + 1) = some i := by rw [selB, if_pos h]
          rw [es]
          simp [turnX, B__law_row_at_0, ho, s0, s1, s2, e1, e2, e3]
        · rw [decide_eq_false h] at e1
          have es : selB low g (i + 1) = selB low g i := by rw [selB, if_neg h]
          rw [es]
          generalize (match selB low g i with | none => aD low us 0 | some k => rD low us k g) = r at *
          simp [turnX, B__law_row_at_0, ho, s0, s1, s2, e1])
    rw [List.length_range] at ef
    have er : (match selB low g n with | none => aD low us 0 | some k => rD low us k g) = dueD (due n low us e g) := by
      rw [hd]
      cases selB low g n with
      | none => exact aD_due
      | some k => exact rD_due
    rw [er] at ef
    generalize dueD (due n low us e g) = r at *
    cases e with
    | none =>
      have ne : dCmp .NotEq .non .non = .ok false := ne
      have p3 : dIdx (paD n low us none) (.int 3) = .ok .non := p3
      simp [b__law_row_at, Dv.envOf, p3, p1, -c37_dCmp, ne, ef]
    | some v =>
      have hv : ¬ v < g := fun h => hb ⟨v, rfl, h⟩
      have e1 := f__law_less v g (hE.k rfl).ok60 (hg.ok (by decide))
      rw [decide_eq_false hv] at e1
      have ne : dCmp .NotEq (am v) .non = .ok true := ne
      have p3 : dIdx (paD n low us (some v)) (.int 3) = .ok (am v) := p3
      simp [b__law_row_at, Dv.envOf, p3, p1, -c37_dCmp, ne, e1, ef]
end
end Wk31

set_option Elab.async false
set_option linter.all false
set_option maxRecDepth 100000
set_option maxHeartbeats 4000000
namespace Dv
open PySem PySem.Spec PyProof.Rows L2
@[simp] theorem nAnd_nil {F : Fn} {b : Bool} {ρ : Env'} : nAnd F .nil (b, ρ) = .ok (b, ρ) := by cases b <;> rfl
@[simp] theorem nOr_nil {F : Fn} {b : Bool} {ρ : Env'} : nOr F .nil (b, ρ) = .ok (b, ρ) := by cases b <;> rfl
@[simp] theorem nTAnd_nil {F : Fn} {b : Bool} {ρ : Env'} : nTAnd F .nil (b, ρ) = .ok (b, ρ) := by cases b <;> rfl
@[simp] theorem nTOr_nil {F : Fn} {b : Bool} {ρ : Env'} : nTOr F .nil (b, ρ) = .ok (b, ρ) := by cases b <;> rfl
end Dv
namespace Wk31
open PySem PySem.Spec PyProof.Rows L2 Dv
section
variable {n : Nat} {low : Nat → Rat} {us : List Tr} {js : List Nat} {e : Option Rat} {g : Rat}
theorem stretch_ok (L : Lo n low) (hn0 : 0 < n) (h0 : 0 < g) (hg : K 100 g) :
    ∃ k, selB low g n = some k ∧ (FU MM).call "stretch_for" [.val (.tup ((List.range n).map (stD low us))), .val (am g)] = .ok (.val (stD low us k), [.val (.tup ((List.range n).map (stD low us))), .val (am g)]) := by
  have hn := L.le
  obtain ⟨ρ', hfin, ef⟩ := for_vbk (F := F37 MM) (N := MM) (S := S_stretch_for_0) rfl (d := .tup ((List.range n).map (stD low us))) (xs := List.range n) (f := stD low us)
    (ρ := [some (.val (.tup ((List.range n).map (stD low us)))), some (.val (am g)), some (.val (stD low us 0)), none])
    (ρ1 := [some (.val (.tup ((List.range n).map (stD low us)))), some (.val (am g)), some (.val (stD low us 0)), none])
    (fun i ρ => ∃ o, ρ = [some (.val (.tup ((List.range n).map (stD low us)))), some (.val (am g)), some (.val (stD low us (i - 1))), o] ∧ (∀ j, j < i → low j < g) ∧ gFree (some o) = true)
    (fun ρ => ∃ (o : Option S) (i : Nat), ρ = [some (.val (.tup ((List.range n).map (stD low us)))), some (.val (am g)), some (.val (stD low us (i - 1))), o] ∧ i < n ∧ (∀ j, j < i → low j < g) ∧ ¬ low i < g)
    (by simp) ⟨none, rfl, fun j h => by omega, rfl⟩
    (fun i x ρ hx ⟨o, e, hj, ho⟩ => by
      obtain ⟨hi, rfl⟩ := List.getElem?_eq_some_iff.mp hx
      rw [List.length_range] at hi
      rw [List.getElem_range]
      subst e
      have s0 : dIdx (stD low us i) (.int 0) = .ok (am (low i)) := by simp [stD]
      have e1 := f_is_less (low i) g (L.k hi).ok60 (hg.ok (by decide))
      by_cases h : low i < g
      · rw [decide_eq_true h] at e1
        refine ⟨[some (.val (.tup ((List.range n).map (stD low us)))), some (.val (am g)), some (.val (stD low us i)), some (.val (stD low us i))], .inl ⟨.inl ?_, some (.val (stD low us i)), rfl, fun j hj2 => ?_, rfl⟩⟩
        · simp [turnX, B_stretch_for_0, ho, s0, e1]
        · by_cases e : j = i
          · subst e; exact h
          · exact hj j (by omega)
      · rw [decide_eq_false h] at e1
        refine ⟨[some (.val (.tup ((List.range n).map (stD low us)))), some (.val (am g)), some (.val (stD low us (i - 1))), some (.val (stD low us i))], .inr ⟨?_, some (.val (stD low us i)), i, rfl, hi, hj, h⟩⟩
        simp [turnX, B_stretch_for_0, ho, s0, e1])
  rw [List.length_range] at hfin
  have a0 : atI ((List.range n).map (stD low us)) 0 = some (stD low us 0) := atI_rng (k := 0) hn0
  have fin : ∃ (k : Nat) (o : Option S), selB low g n = some k ∧ ρ' = [some (.val (.tup ((List.range n).map (stD low us)))), some (.val (am g)), some (.val (stD low us k)), o] := by
    rcases hfin with ⟨o, rfl, hj, _⟩ | ⟨o, i, rfl, hi, hj, hl⟩
    · exact ⟨n - 1, o, selB_some (hj (n - 1) (by omega)) (by omega) fun j a b => by omega, rfl⟩
    · have hi0 : i ≠ 0 := fun z => hl (by rw [z, L.z]; exact h0)
      refine ⟨i - 1, o, selB_some (hj (i - 1) (by omega)) (by omega) fun j a b => ?_, rfl⟩
      have := L.mono (j - i) i (by omega)
      rw [show i + (j - i) = j by omega] at this
      grind
  obtain ⟨k, o, hs, rfl⟩ := fin
  refine ⟨k, hs, ?_⟩
  rw [run_stretch_for rfl]
  simp [b_stretch_for, Dv.envOf, a0, ef]
theorem beyond_ok (hE : Ed n low e) (hg : K 100 g) : (FU MM).call "is_beyond" [.val (endD e), .val (am g)] = .ok (.val (.bl (decide (∃ v, e = some v ∧ v < g))), [.val (endD e), .val (am g)]) := by
  have hi := end_is (e := e)
  rw [run_is_beyond rfl]
  cases e with
  | none =>
    have hi : dCmp .IsNot .non .non = .ok false := hi
    have hd : decide (∃ v, (none : Option Rat) = some v ∧ v < g) = false := decide_eq_false fun ⟨v, z, _⟩ => by cases z
    rw [hd]
    simp [b_is_beyond, Dv.envOf, endD, -c43_dCmp, hi]
  | some v =>
    have hi : dCmp .IsNot (am v) .non = .ok true := hi
    have e1 := f_is_less v g (hE.k rfl).ok60 (hg.ok (by decide))
    have hd : decide (∃ u, some v = some u ∧ u < g) = decide (v < g) := by
      by_cases h : v < g
      · rw [decide_eq_true h]; exact decide_eq_true ⟨v, rfl, h⟩
      · rw [decide_eq_false h]; exact decide_eq_false fun ⟨u, z, h2⟩ => by cases z; exact h h2
    rw [hd]
    simp [b_is_beyond, Dv.envOf, endD, -c43_dCmp, hi, e1]
theorem row_at_ok (L : Lo n low) (hu : ∀ t ∈ us, TrK n t) (hl : us.length ≤ 13) (hE : Ed n low e) (hg : K 100 g) (h0 : 0 ≤ g) :
    (FU MM).call "row_at" [.val (paD n low us e), .val (am g)] = .ok (.val (dueD (due n low us e g)), [.val (paD n low us e), .val (am g)]) := by
  have eb := beyond_ok hE hg
  have es := f_sign_of g
  rw [run_row_at rfl]
  by_cases hb : ∃ v, e = some v ∧ v < g
  · rw [decide_eq_true hb] at eb
    have hd : due n low us e g = none := if_pos hb
    rw [hd]
    simp [b_row_at, Dv.envOf, paD, eb, dueD]
  · rw [decide_eq_false hb] at eb
    have hd : due n low us e g = match selB low g n with
      | none => some (us.map fun t => t.f)
      | some k => some (us.map fun t => t.b k + t.s k * (g - low k)) := if_neg hb
    by_cases hz : g = 0
    · subst hz
      have hs : selB low 0 n = none := selB_none fun k hk h => by
        have := L.nn (k := k) (by omega)
        grind
      rw [hs] at hd
      rw [hd]
      rw [if_neg (by grind), if_neg (by grind)] at es
      simp [b_row_at, Dv.envOf, paD, eb, es, dueD, Function.comp_def]
    · have hp : 0 < g := by grind
      have hn0 : 0 < n := by
        rcases Nat.eq_zero_or_pos n with z | z
        · exfalso
          cases e with
          | none => exact hE z
          | some v => exact hb ⟨v, rfl, by rw [hE.1 z]; exact hp⟩
        · exact z
      obtain ⟨k, hs, e2⟩ := stretch_ok (us := us) L hn0 hp hg
      have hk := (selB_lt hs).1
      have e3 := row_on_ok L hk hu hl hg
      rw [hs] at hd
      rw [hd, ← rD_due]
      rw [if_neg (by grind), if_pos hp] at es
      simp [b_row_at, Dv.envOf, paD, eb, es, e2, e3]
end
end Wk31

set_option Elab.async false
set_option linter.all false
set_option maxRecDepth 100000
set_option maxHeartbeats 4000000
namespace Wk31
open PySem PySem.Spec PyProof.Rows L2 Dv
/-- a growth that is asked for -/
def G (q : Rat) : Prop := 0 ≤ q ∧ K 100 q
theorem frac_ok {r : Nat} {a : Int} (hr : r < 100) (ha : a < 10) (ha0 : 0 < a) : (FU MM).call "_law_amount" [.val (.int 1), .val (.int (a + (r : Int)))] = .ok (.val (am (Rat.divInt 1 (a + (r : Int)))), [.val (.int 1), .val (.int (a + (r : Int)))]) ∧ K 10 (Rat.divInt 1 (a + (r : Int))) ∧ 0 ≤ Rat.divInt 1 (a + (r : Int)) :=
  ⟨f__law_amount _ _ (by omega) (oC_big (by omega)), K.divInt (by decide) (by omega) (by decide), divInt_nn (by decide) (by omega)⟩
section
variable {n : Nat} {low : Nat → Rat} {us : List Tr} {js : List Nat} {e : Option Rat}
/-- the lows, 0 ahead of them -/
def Ls (n : Nat) (low : Nat → Rat) : List Rat := 0 :: (List.range n).map low
theorem Ls_ok (L : Lo n low) : ∀ q ∈ Ls n low, 0 ≤ q ∧ K 60 q := fun q hq => by
  rcases List.mem_cons.mp hq with rfl | hq
  · exact ⟨Rat.le_refl, K.zero.mono (by decide)⟩
  · obtain ⟨k, hk, rfl⟩ := List.mem_map.mp hq
    have hk := List.mem_range.mp hk
    exact ⟨L.nn (by omega), L.k hk⟩
theorem Ls_pick (L : Lo n low) {n0 : Nat} {d : D} (hd : DS n0 d) (h0 : n0 < 2 ^ 50) : ∃ q d', (FU MM).call "_law_pick" [.own d, .own (.lst ((Ls n low).map am))] = .ok (.val (am q), [.own d', .own (.lst ((Ls n low).map am))]) ∧ 0 ≤ q ∧ K 60 q ∧ DS (n0 + 1) d' := by
  have hn := L.le
  obtain ⟨x, d', e1, hx, hd'⟩ := f__law_pick (row := (Ls n low).map am) (.inl rfl) hd (by omega) (by simp [Ls]) (by simp [Ls]; omega)
  obtain ⟨q, hq, rfl⟩ := List.mem_map.mp hx
  exact ⟨q, d', e1, (Ls_ok L q hq).1, (Ls_ok L q hq).2, hd'⟩
def lastL (n : Nat) (low : Nat → Rat) : Rat := match n with | 0 => 0 | k + 1 => low k
theorem last_at (L : Lo n low) : atI ((Ls n low).map am) (((Ls n low).length : Int) - 1) = some (am (lastL n low)) ∧ 0 ≤ lastL n low ∧ K 13 (lastL n low) ∧ (∀ v, Ed n low (some v) → lastL n low ≤ v ∧ 0 ≤ v ∧ K 13 v) := by
  have hn := L.le
  refine ⟨?_, ?_, ?_, fun v hv => ?_⟩
  · have e1 : (((Ls n low).length : Int) - 1) = ((n : Nat) : Int) := by simp [Ls]
    rw [e1]
    refine atI_mapG ?_
    cases n with
    | zero => rfl
    | succ k => simp [Ls, lastL]
  · cases n with
    | zero => exact Rat.le_refl
    | succ k => exact L.nn (by omega)
  · cases n with
    | zero => exact K.zero.mono (by decide)
    | succ k => exact (L.bd k (by omega)).k (by omega) (by omega) (by omega) (by omega)
  · have kv : K 13 v := hv.2.2.k (by omega) (by omega) (by omega) (by omega)
    cases n with
    | zero =>
      have := hv.1 rfl
      subst this
      exact ⟨Rat.le_refl, Rat.le_refl, kv⟩
    | succ k =>
      have h1 := hv.2.1 k (by omega)
      have h2 := L.nn (k := k) (by omega)
      exact ⟨Rat.le_of_lt h1, by grind, kv⟩
theorem growths_ok {n0 : Nat} {d : D} (hd : DS n0 d) (h0 : n0 < 2 ^ 40) (L : Lo n low) (hE : Ed n low e) :
    ∃ (fs : List Rat) (d' : D), (FU MM).call "_law_growths" [.own d, .val (paD n low us e), .val (jpD n low js)] = .ok (.own (.lst (fs.map am)), [.own d', .val (paD n low us e), .val (jpD n low js)]) ∧ (∀ q ∈ fs, G q) ∧ fs.length ≤ 100 ∧ DS (n0 + 200) d' := by
  have hn := L.le
  have k1 : 1 ≤ sizeLine := by decide
  have k2 : 2 ≤ sizeLine := by decide
  have k4 : 4 ≤ sizeLine := by decide
  have p2 : dIdx (paD n low us e) (.int 2) = .ok (.tup ((List.range n).map (stD low us))) := by simp [paD]
  have p3 : dIdx (paD n low us e) (.int 3) = .ok (endD e) := by simp [paD]
  obtain ⟨la, l0, lK, lE⟩ := last_at L
  -- the lows
  have c0 : ev (F30 MM) C__law_growths_0 [some (.own true d), some (.val (paD n low us e)), some (.val (jpD n low js)), none, none, none, none, none] =
      .ok (.own (.lst ((List.range n).map fun k => am (low k))), [some (.own true d), some (.val (paD n low us e)), some (.val (jpD n low js)), none, none, none, none, none]) :=
    comp_mapE (xs := List.range n) (f := stD low us) (g := fun k => am (low k)) (ρ1 := [some (.own true d), some (.val (paD n low us e)), some (.val (jpD n low js)), none, none, none, none, none])
      (ρw := [some (.own true d), some (.val (paD n low us e)), some (.val (jpD n low js)), none, none, none, none, none]) (p := .val (.tup ((List.range n).map (stD low us))))
      (by simp [p2]) (by simp) (by rw [List.length_range]; exact len_lt (by omega)) (fun k _ => by
        have s0 : dIdx (stD low us k) (.int 0) = .ok (am (low k)) := by simp [stD]
        simp [turnW, turnR, E__law_growths_0, s0]) (fun out => by simp [compEnd])
  have eL : am 0 :: (List.range n).map (fun k => am (low k)) = (Ls n low).map am := by simp [Ls, Function.comp_def]
  have lz : 1 + n ≤ sizeLine := len_le (by omega)
  have ll : (Ls n low).length = n + 1 := by simp [Ls]
  -- the draws
  obtain ⟨q1, d1, e1, q1n, q1K, hd1⟩ := Ls_pick L hd (by omega)
  obtain ⟨q2, d2, e2, q2n, q2K, hd2⟩ := Ls_pick L hd1 (by omega)
  obtain ⟨q3, d3, e3, q3n, q3K, hd3⟩ := Ls_pick L hd2 (by omega)
  obtain ⟨r4, d4, e4, h4, hd4⟩ := f__law_draw (m := 9) hd3 (by omega) (by omega) (by omega)
  obtain ⟨e5, K5, n5⟩ := frac_ok (r := r4) (a := 1) (by omega) (by omega) (by omega)
  obtain ⟨q6, d6, e6, q6n, q6K, hd6⟩ := Ls_pick L hd4 (by omega)
  obtain ⟨q7, d7, e7, q7B, q7n, hd7⟩ := gap_ok hd6 (by omega)
  obtain ⟨r8, d8, e8, h8, hd8⟩ := f__law_draw (m := 1000) hd7 (by omega) (by omega) (by omega)
  have q7K : K 13 q7 := q7B.k (by omega) (by omega) (by omega) (by omega)
  generalize Rat.divInt 1 (1 + (r4 : Int)) = f5 at *
  have a5 := f__law_plus q3 f5 q3K.ok60 (K5.ok (by decide))
  have a7 := f__law_plus q6 q7 q6K.ok60 (q7K.ok (by decide))
  have a8 := f__law_int (1000000 + (r8 : Int))
  have pw : CPow 10 6 := by decide +kernel
  have jl : ((List.range n).filter fun k => decide (k ∈ js)).length ≤ n := by
    have := List.length_filter_le (fun k => decide (k ∈ js)) (List.range n)
    rw [List.length_range] at this
    exact this
  let J : List Rat := ((List.range n).filter fun k => decide (k ∈ js)).map low
  have eJ : jpD n low js = .tup (J.map am) := by simp [jpD, J, Function.comp_def]
  have JG : ∀ q ∈ J, G q := fun q hq => by
    obtain ⟨k, hk, rfl⟩ := List.mem_map.mp hq
    have hk := List.mem_range.mp (List.mem_filter.mp hk).1
    exact ⟨L.nn (by omega), (L.k hk).mono (by decide)⟩
  have hJ : J.length ≤ 40 := by simp [J]; omega
  rw [eJ] at c0 ⊢
  generalize J = J at *
  have n8 : (0 : Rat) ≤ ((1000000 + (r8 : Int) : Int) : Rat) := Rat.intCast_nonneg.mpr (by omega)
  have K8 : K 100 ((1000000 + (r8 : Int) : Int) : Rat) := ((Bd.int (L := 1) (N := 10000000) (by omega)).k60 (by omega) (by omega) (by omega)).mono (by decide)
  generalize ((1000000 + (r8 : Int) : Int) : Rat) = f8 at *
  have z1 : J.length + 4 ≤ sizeLine := len_le (by omega)
  have hz : ∀ m, m < 1000 → J.length + m < sizeLine := fun m h => len_lt (by omega)
  let fs : List Rat := J ++ [0, q1, q2, lastL n low, q3 + f5, q6 + q7, f8]
  have fsG : ∀ q ∈ fs, G q := fun q hq => by
    rcases List.mem_append.mp hq with hq | hq
    · exact JG q hq
    · simp at hq
      rcases hq with rfl | rfl | rfl | rfl | rfl | rfl | rfl
      · exact ⟨Rat.le_refl, K.zero.mono (by decide)⟩
      · exact ⟨q1n, q1K.mono (by decide)⟩
      · exact ⟨q2n, q2K.mono (by decide)⟩
      · exact ⟨l0, lK.mono (by decide)⟩
      · exact ⟨by grind, (q3K.add K5).mono (by decide)⟩
      · exact ⟨by grind, (q6K.add q7K).mono (by decide)⟩
      · exact ⟨n8, K8⟩
  have ne := end_ne (e := e)
  cases e with
  | none =>
    have ne : dCmp .NotEq .non .non = .ok false := ne
    have p3 : dIdx (paD n low us none) (.int 3) = .ok .non := p3
    obtain ⟨row, d9, e9, hp, hd9⟩ := f__law_shuffled (row := fs.map am) (.inl rfl) hd8 (by omega) (by simp [fs]; omega)
    obtain ⟨gs, rfl, hg⟩ := perm_map hp fs rfl
    have hfl : fs.length ≤ 60 := by simp [fs]; omega
    rw [List.length_map] at hd9
    refine ⟨gs, d9, ?_, fun q hq => fsG q (hg.mem_iff.mp hq), by rw [hg.length_eq]; omega, hd9.mono (by omega)⟩
    have efs : fs.map am = J.map am ++ [am 0, am q1, am q2, am (lastL n low), am (q3 + f5), am (q6 + q7), am f8] := by simp [fs]
    rw [efs] at e9
    rw [run__law_growths rfl]
    simp [b__law_growths, Dv.envOf, c0, k1, k2, k4, lz, eL, la, e1, e2, z1, e3, e4, e5, a5, hz, e6, e7, a7, e8, pw, a8, p3, -c37_dCmp, ne, e9]
  | some v =>
    have ne : dCmp .NotEq (am v) .non = .ok true := ne
    have p3 : dIdx (paD n low us (some v)) (.int 3) = .ok (am v) := p3
    obtain ⟨lv, vn, vK⟩ := lE v hE
    obtain ⟨ra, da, ea, ha, hda⟩ := f__law_draw (m := 4) hd8 (by omega) (by omega) (by omega)
    obtain ⟨eb, Kb, nb⟩ := frac_ok (r := ra) (a := 2) (by omega) (by omega) (by omega)
    obtain ⟨rc, dc, ec, hc, hdc⟩ := f__law_draw (m := 50) hda (by omega) (by omega) (by omega)
    obtain ⟨ed, Kd, nd_⟩ := frac_ok (r := rc) (a := 1) (by omega) (by omega) (by omega)
    generalize Rat.divInt 1 (2 + (ra : Int)) = fb at *
    generalize Rat.divInt 1 (1 + (rc : Int)) = fd at *
    have m1 := f__law_minus v (lastL n low) (vK.ok (by decide)) (lK.ok (by decide))
    have m2 := f__law_times (v - lastL n low) fb ((vK.sub lK).ok (by decide)) (Kb.ok (by decide))
    have m3 := f__law_plus (lastL n low) ((v - lastL n low) * fb) (lK.ok (by decide)) (((vK.sub lK).mul Kb).ok (by decide))
    have m4 := f__law_plus v fd (vK.ok (by decide)) (Kd.ok (by decide))
    have pn : 0 ≤ (v - lastL n low) * fb := Rat.mul_nonneg (by grind) nb
    let hs : List Rat := fs ++ [v, lastL n low + (v - lastL n low) * fb, v + fd]
    have hsG : ∀ q ∈ hs, G q := fun q hq => by
      rcases List.mem_append.mp hq with hq | hq
      · exact fsG q hq
      · simp at hq
        rcases hq with rfl | rfl | rfl
        · exact ⟨vn, vK.mono (by decide)⟩
        · exact ⟨by grind, (lK.add ((vK.sub lK).mul Kb)).mono (by decide)⟩
        · exact ⟨by grind, (vK.add Kd).mono (by decide)⟩
    have hsl : hs.length ≤ 60 := by simp [hs, fs]; omega
    obtain ⟨row, d9, e9, hp, hd9⟩ := f__law_shuffled (row := hs.map am) (.inl rfl) hdc (by omega) (by rw [List.length_map]; omega)
    obtain ⟨gs, rfl, hg⟩ := perm_map hp hs rfl
    rw [List.length_map] at hd9
    refine ⟨gs, d9, ?_, fun q hq => hsG q (hg.mem_iff.mp hq), by rw [hg.length_eq]; omega, hd9.mono (by omega)⟩
    have efs : hs.map am = J.map am ++ [am 0, am q1, am q2, am (lastL n low), am (q3 + f5), am (q6 + q7), am f8, am v, am (lastL n low + (v - lastL n low) * fb), am (v + fd)] := by simp [hs, fs]
    rw [efs] at e9
    rw [run__law_growths rfl]
    simp [b__law_growths, Dv.envOf, c0, k1, k2, k4, lz, eL, la, e1, e2, z1, e3, e4, e5, a5, hz, e6, e7, a7, e8, pw, a8, p3, -c37_dCmp, ne, ea, eb, m1, m2, m3, ec, ed, m4, e9]
end
end Wk31

set_option Elab.async false
set_option linter.all false
set_option maxRecDepth 100000
set_option maxHeartbeats 4000000
namespace Dv
open PySem PySem.Spec PyProof.Rows L2
/-- a loop over a new list's items -/
theorem for_new {F : Fn} {N : Nat} {tg : Tg} {it : Ie} {b : Sxs} {ρ ρ1 : Env'} {S : Sx} (hS : S = .for_ tg it b) {α : Type} {xs : List α} {f : α → D} {d : D} (I : Nat → Env' → Prop) (hi : evi F it ρ = .ok ((xs.map f, .own d), ρ1)) (h0 : I 0 ρ1)
    (step : ∀ i x ρ, xs[i]? = some x → I i ρ → ∃ ρ', (turnX F N tg b (f x) ρ = .ok (.nx, ρ') ∨ turnX F N tg b (f x) ρ = .ok (.ct, ρ')) ∧ I (i + 1) ρ') : ∃ ρ', I xs.length ρ' ∧ ex F N S ρ = .ok (.nx, ρ') := by
  obtain ⟨ρ', h, e⟩ := for_st (F := F) (N := N) (tg := tg) (b := b) (xs := xs) (f := f) I hi h0 step
  subst hS
  exact ⟨ρ', h, e⟩
end Dv
namespace Wk31
open PySem PySem.Spec PyProof.Rows L2 Dv
section
variable {n : Nat} {low : Nat → Rat} {us : List Tr} {js : List Nat} {e : Option Rat}
theorem due_ok (L : Lo n low) (hu : ∀ t ∈ us, TrK n t) {g : Rat} (hg : K 100 g) {l : List Rat} (h : due n low us e g = some l) : l.length = us.length ∧ ∀ q ∈ l, Ok q := by
  unfold due at h
  split at h
  · cases h
  · split at h
    · cases h
      refine ⟨by simp, fun q hq => ?_⟩
      obtain ⟨t, ht, rfl⟩ := List.mem_map.mp hq
      exact (hu t ht).1.ok60
    · rename_i k hs
      cases h
      refine ⟨by simp, fun q hq => ?_⟩
      obtain ⟨t, ht, rfl⟩ := List.mem_map.mp hq
      have hk := (selB_lt hs).1
      exact (((hu t ht).2 k hk).1.add (((hu t ht).2 k hk).2.mul (hg.sub (L.k hk)))).ok (by decide)
theorem turn_ok {M0 T0 J0 : D} {d : D} {o3 o6 o7 : Option S} {g : Rat} (g3 : gFree (some o3) = true) (g6 : gFree (some o6) = true) (g7 : gFree (some o7) = true) (L : Lo n low) (hu : ∀ t ∈ us, TrK n t) (hl : us.length ≤ 13) (hE : Ed n low e) (hg : G g) :
    ∃ o6' o7', turnX (F40 MM) MM (.nm 3) B__law_told_right_1 (am g) [some (.own true d), some (.val M0), some (.val T0), o3, some (.val (paD n low us e)), some (.val J0), o6, o7, none] =
      .ok (.nx, [some (.own true d), some (.val M0), some (.val T0), some (.val (am g)), some (.val (paD n low us e)), some (.val J0), o6', o7', none]) ∧ gFree (some o6') = true ∧ gFree (some o7') = true := by
  have e1 := law_row_ok L hu hl hE hg.2
  have e2 := row_at_ok L hu hl hE hg.2 hg.1
  refine ⟨some (.val (dueD (due n low us e g))), some (.val (dueD (due n low us e g))), ?_, rfl, rfl⟩
  cases h : due n low us e g with
  | none =>
    rw [h] at e1 e2
    have e1 : (FU MM).call "_law_row_at" [.val (paD n low us e), .val (am g)] = .ok (.val .non, [.val (paD n low us e), .val (am g)]) := e1
    have e2 : (FU MM).call "row_at" [.val (paD n low us e), .val (am g)] = .ok (.val .non, [.val (paD n low us e), .val (am g)]) := e2
    have q1 := eq_nice (k := 0) (d := .non) (e := .non) nice_non nice_non (by decide)
    simp only [decide_true] at q1
    simp [turnX, B__law_told_right_1, g3, g6, g7, e1, e2, -c36_dCmp, q1, dueD]
  | some l =>
    rw [h] at e1 e2
    have e1 : (FU MM).call "_law_row_at" [.val (paD n low us e), .val (am g)] = .ok (.val (.tup (l.map am)), [.val (paD n low us e), .val (am g)]) := e1
    have e2 : (FU MM).call "row_at" [.val (paD n low us e), .val (am g)] = .ok (.val (.tup (l.map am)), [.val (paD n low us e), .val (am g)]) := e2
    obtain ⟨ll, lk⟩ := due_ok L hu hg.2 h
    have nl : nice 2 (.tup (l.map am)) := nice_ams (f := fun q : Rat => q)
    have q1 := eq_nice (k := 2) (d := .tup (l.map am)) (e := .non) nl nice_non (by decide)
    have q2 := ne_nice (k := 2) (d := .tup (l.map am)) (e := .tup (l.map am)) nl nl (by decide)
    rw [decide_eq_false (by intro z; cases z)] at q1
    rw [decide_eq_true rfl] at q2
    have e3 := f__law_is_row (l := l) rfl (len_lt (by omega)) lk
    simp only [Bool.not_true] at q2
    simp [turnX, B__law_told_right_1, g3, g6, g7, e1, e2, -c36_dCmp, -c37_dCmp, q1, q2, e3, dueD]
theorem told_ok {n0 : Nat} {d : D} (hd : DS n0 d) (h0 : n0 < 2 ^ 40) (L : Lo n low) (ht : TS n low js us) (hl : us.length ≤ 13) (hE : Ed n low e) :
    ∃ d', (FU MM).call "_law_told_right" [.own d, .val (.tup [paD n low us e, jpD n low js])] = .ok (.val (.bl true), [.own d', .val (.tup [paD n low us e, jpD n low js])]) ∧ DS (n0 + 200) d' := by
  have hn := L.le
  have e1 := jumps_ok (e := e) L ht hl
  have hu := fun t h => (ht.1 t h).1
  obtain ⟨fs, d1, e2, fG, fl, hd1⟩ := growths_ok (us := us) (js := js) hd h0 L hE
  have jt : isTy .tup (jpD n low js) = .ok true := rfl
  have jn : nice 2 (jpD n low js) := nice_ams
  have q1 := ne_nice (k := 2) jn jn (by decide)
  rw [decide_eq_true rfl] at q1
  simp only [Bool.not_true] at q1
  have jl : ((List.range n).filter fun k => decide (k ∈ js)).length ≤ n := by
    have := List.length_filter_le (fun k => decide (k ∈ js)) (List.range n)
    rw [List.length_range] at this
    exact this
  have c0 : ev (F40 MM) C__law_told_right_0 [some (.own true d), some (.val (.tup [paD n low us e, jpD n low js])), some (.val (jpD n low js)), none, some (.val (paD n low us e)), some (.val (jpD n low js)), none, none, none] =
      .ok (.own (.lst (((List.range n).filter fun k => decide (k ∈ js)).map fun _ => .bl true)), [some (.own true d), some (.val (.tup [paD n low us e, jpD n low js])), some (.val (jpD n low js)), none, some (.val (paD n low us e)), some (.val (jpD n low js)), none, none, none]) :=
    comp_mapE (xs := (List.range n).filter fun k => decide (k ∈ js)) (f := fun k => am (low k)) (g := fun _ => .bl true) (ρ1 := [some (.own true d), some (.val (.tup [paD n low us e, jpD n low js])), some (.val (jpD n low js)), none, some (.val (paD n low us e)), some (.val (jpD n low js)), none, none, none])
      (ρw := [some (.own true d), some (.val (.tup [paD n low us e, jpD n low js])), some (.val (jpD n low js)), none, some (.val (paD n low us e)), some (.val (jpD n low js)), none, none, none]) (p := .val (jpD n low js))
      (by simp [jpD]) (by simp) (len_lt (by omega)) (fun k hk => by
        have hk := List.mem_range.mp (List.mem_filter.mp hk).1
        have ea := f__law_is_amount (low k) (L.k hk).ok60
        simp [turnW, turnR, E__law_told_right_0, ea]) (fun out => by simp [compEnd])
  have b1 := bls_true (l := (List.range n).filter fun k => decide (k ∈ js))
  obtain ⟨ρ', ⟨o3, o6, o7, rfl, _⟩, ef⟩ := for_new (F := F40 MM) (N := MM) (S := S__law_told_right_1) rfl (xs := fs) (f := am) (d := .lst (fs.map am))
    (ρ := [some (.own true d), some (.val (.tup [paD n low us e, jpD n low js])), some (.val (jpD n low js)), none, some (.val (paD n low us e)), some (.val (jpD n low js)), none, none, none])
    (ρ1 := [some (.own true d1), some (.val (.tup [paD n low us e, jpD n low js])), some (.val (jpD n low js)), none, some (.val (paD n low us e)), some (.val (jpD n low js)), none, none, none])
    (fun i ρ => ∃ o3 o6 o7, ρ = [some (.own true d1), some (.val (.tup [paD n low us e, jpD n low js])), some (.val (jpD n low js)), o3, some (.val (paD n low us e)), some (.val (jpD n low js)), o6, o7, none] ∧ gFree (some o3) = true ∧ gFree (some o6) = true ∧ gFree (some o7) = true)
    (by simp [e2]) ⟨none, none, none, rfl, rfl, rfl, rfl⟩
    (fun i g ρ hx ⟨o3, o6, o7, er, g3, g6, g7⟩ => by
      subst er
      obtain ⟨o6', o7', t, h6, h7⟩ := turn_ok (M0 := .tup [paD n low us e, jpD n low js]) (T0 := jpD n low js) (J0 := jpD n low js) (d := d1) g3 g6 g7 L hu hl hE (fG g (List.mem_of_getElem? hx))
      exact ⟨_, .inl t, _, o6', o7', rfl, rfl, h6, h7⟩)
  refine ⟨d1, ?_, hd1⟩
  rw [run__law_told_right rfl]
  generalize ((List.range n).filter fun k => decide (k ∈ js)).map (fun _ => D.bl true) = bl at *
  simp [b__law_told_right, Dv.envOf, e1, jt, -c37_dCmp, q1, c0, b1, ef]
end
theorem pure_law (ns : List Int) (hl : ns.length ≤ 63) (hbits : ∀ z ∈ ns, PySem.Builtin.Int.intBits z ≤ 1048576) : ∃ M as', (Dv.mkF glo M ds42).call "law" [.val (.scr ns)] = .ok (.val (.bl true), as') := by
  refine ⟨MM, [.val (.scr ns)], ?_⟩
  have D0 : DS 0 (.lst [.lst (ns.map .int), .int 0, .int 0, .int 7, .int 3]) := ⟨ns, 0, 0, 7, rfl, hbits, hl, by omega, by omega, by omega, big_pos, by omega, by omega⟩
  have eb : (FU MM).call "_law_begin" [.val (.scr ns)] = .ok (.own (.lst [.lst (ns.map .int), .int 0, .int 0, .int 7, .int 3]), [.val (.scr ns)]) := by
    rw [run__law_begin rfl]
    exact begin_ok hl
  generalize D.lst [.lst (ns.map .int), .int 0, .int 0, .int 7, .int 3] = d0 at *
  obtain ⟨m1, l1, j1, t1, x1, d1, e1, L1, _, T1, n1, E1, D1⟩ := made_ok D0 (by omega)
  obtain ⟨m2, l2, j2, t2, x2, d2, e2, L2, _, T2, n2, E2, D2⟩ := made_ok D1 (by omega)
  obtain ⟨d3, e3, D3⟩ := told_ok D2 (by omega) L1 T1 n1 E1
  obtain ⟨d4, e4, D4⟩ := told_ok D3 (by omega) L2 T2 n2 E2
  obtain ⟨d5, e5, D5⟩ := told_ok D4 (by omega) L1 T1 n1 E1
  show (FU MM).call "law" _ = _
  rw [run_law rfl]
  generalize D.tup [paD m1 l1 t1 x1, jpD m1 l1 j1] = a at *
  generalize D.tup [paD m2 l2 t2 x2, jpD m2 l2 j2] = b at *
  simp [b_law, Dv.envOf, eb, e1, e2, e3, e4, e5]
end Wk31

open PySem PySem.W PySem.Calls PyProof.Rows
theorem PySem.Challenge.cw_cedewheel_k31_rows_of_rays_holds : PySem.Challenge.rw_cedewheel_k31_rows_of_rays.Holds := by
  w_on; o_law
  refine HandSHeadRun.head_imp (r := OpenLaw.row PySem.Challenge.rw_cedewheel_k31_rows_of_rays) (q := view (OpenLaw.row PySem.Challenge.rw_cedewheel_k31_rows_of_rays).prog [0, 47]) (H := Wk31.hk) (ob := Wk31.ob) (M := 20000) (loose := Wk31.names) (d := HandSHeadRun.topDef (OpenLaw.row PySem.Challenge.rw_cedewheel_k31_rows_of_rays).prog 47) (kwd := []) Wk31.ob_eq
    Wk31.run (by kernel_rfl) (by kernel_rfl) (by kernel_rfl) (by rfl) (by first | assumption | decide +kernel) (by decide +kernel) ⟨rfl, rfl, rfl, rfl, rfl, by decide +kernel⟩ ?hw ?hc
  case hw => w_witness2
  case hc =>
    refine Dv.walk_ofEB (l := PySem.Challenge.rw_cedewheel_k31_rows_of_rays) (n := 63) (k := 42) (x := "script") (CX := fun w => L2.CX (PySem.Challenge.rw_cedewheel_k31_rows_of_rays).prog w) rfl (by decide) (by kernel_rfl) ⟨rfl, by decide, by decide⟩ ?F (fun w H s e s' z => Dv.cx_none _ w H s e s' z)
    intro w mg fa h Y G hmg0
    obtain ⟨K, KX, c⟩ := Y
    have hmg : mg ("law" : PySem.Str) = some (.ref fa) := by
      have e : (HandSHeadRun.topDef (OpenLaw.row PySem.Challenge.rw_cedewheel_k31_rows_of_rays).prog 47).name = ("law" : PySem.Str) := by kernel_rfl
      rw [← e]
      exact hmg0
    obtain ⟨fd, hb, hF⟩ := Wk31.facts (P := (PySem.Challenge.rw_cedewheel_k31_rows_of_rays).prog) (w := w) KX G hmg c.t.d c.more
    refine ⟨K, fd, _, KX, hb, fun H a ns hl hbits hS => ?_, hF⟩
    obtain ⟨M, as', e⟩ := Wk31.pure_law ns hl hbits
    exact ⟨M, Dv.sp_law hS e⟩

