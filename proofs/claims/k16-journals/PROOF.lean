import PyProof.Rows.All
import Wide.All
import OpenK.AllK
import Wide.FinOn
import HandS.ForMost
import HandS.Wide
import HandS.WideBits
import HandS.Gcd
import HandS.IsInst
import HandS.Deep
import HandS.TupAny
import HandS.ForExc
import HandS.CallSlots
import HandS.More
import HandS.MapJoin
import HandS.Zip
import KE.GoesMore
import KE.GoesZip
import KE.GoesEnum
import KE.KExcSuper
import HandS.ExcInit
import HandS.ExcIs
import HandS.ExcField
import HandS.Nested
import KE.KIsAll
import HandS.HotCalls
import HandS.Defaults
import HandS.EndBits
import HandS.HeadHook4
import HandS.Head3
import HandS.Head0
import HandS.Head1
import HandS.Head2
import HandS.HeadEnd
import HandS.HeadHook1
import HandS.HeadHook2
import HandS.HeadHook3
import PySem.Challenge.RW_cedewheel_k16_journals_checked
set_option Elab.async false
set_option linter.all false
set_option maxRecDepth 100000
namespace Dv
open PySem PySem.Spec PyProof.Rows L2

/-- data, by value -/
inductive D where
  | non | bl (b : Bool) | int (i : Int) | str (x : Str) | tup (l : List D) | lst (l : List D) | dic (ks : List Key) (l : List D) | scr (l : List Int)

abbrev AS := Addr → Prop
/-- a list that nobody changes -/
def ScrL (K : PySem.W.Frag) (H : Hp) (W : AS) (a : Addr) (xs : List V) : Prop :=
  (H a = some (.lst xs) ∧ ¬ W a) ∨ (∃ o, H a = some (.frz o (.lst xs))) ∨
    ∃ (o : Obj) (its : Array Value) (n : Nat), K.lookup a = some o ∧ o.cls = .type "list" ∧ o.dict = none ∧ o.data = .seq its n ∧ its.size ≤ sizeLine ∧ Vals xs its.toList
/-- a tuple -/
def TupL (K : PySem.W.Frag) (H : Hp) (a : Addr) (xs : List V) : Prop :=
  H a = some (.tup xs) ∨ ∃ (o : Obj) (its : Array Value) (n : Nat), K.lookup a = some o ∧ o.cls = .type "tuple" ∧ o.data = .seq its n ∧ its.size ≤ sizeLine ∧ Vals xs its.toList
theorem TupL.sq {K : PySem.W.Frag} {H : Hp} {a : Addr} {xs : List V} (h : TupL K H a xs) : SqT K H a xs := by
  rcases h with h | h
  · exact .inl (.inl h)
  · exact .inr h
theorem TupL.of {K : PySem.W.Frag} {H : Hp} {a : Addr} {xs : List V} (h : H a = some (.tup xs)) : TupL K H a xs := .inl h
theorem ScrL.sq {K : PySem.W.Frag} {H : Hp} {W : AS} {a : Addr} {xs : List V} (h : ScrL K H W a xs) : SqL K H a xs := by
  rcases h with h | h | h
  · exact .inl (.inl h.1)
  · exact .inl (.inr h)
  · exact .inr h

mutual
def RepD (K : PySem.W.Frag) (H : Hp) (W : AS) : V → D → Prop
  | v, .non => v = .non
  | v, .bl b => v = .bl b
  | v, .int i => v = .int i
  | v, .str x => v = .str x
  | v, .tup l => ∃ a vs, v = .ref a ∧ TupL K H a vs ∧ RepDs K H W vs l
  | v, .lst l => ∃ a vs, v = .ref a ∧ H a = some (.lst vs) ∧ ¬ W a ∧ RepDs K H W vs l
  | v, .scr l => ∃ a, v = .ref a ∧ ScrL K H W a (l.map V.int)
  | v, .dic ks l => ∃ a kvs, v = .ref a ∧ H a = some (.dK kvs) ∧ ¬ W a ∧ kvs.map (·.1) = ks ∧ RepDs K H W (kvs.map (·.2)) l
def RepDs (K : PySem.W.Frag) (H : Hp) (W : AS) : List V → List D → Prop
  | vs, [] => vs = []
  | vs, d :: ds => ∃ v r, vs = v :: r ∧ RepD K H W v d ∧ RepDs K H W r ds
end

/-- what a mutable object holds -/
def RepO (K : PySem.W.Frag) (H : Hp) (W : AS) (o : HO) : D → Prop
  | .lst l => ∃ vs, o = .lst vs ∧ RepDs K H W vs l
  | .dic ks l => ∃ kvs, o = .dK kvs ∧ kvs.map (·.1) = ks ∧ RepDs K H W (kvs.map (·.2)) l
  | _ => False
/-- a mutable kind -/
def Mk1 : HO → Prop
  | .lst _ => True
  | .dK _ => True
  | _ => False
/-- W: addresses that somebody may change -/
def WL (H : Hp) (W : AS) : Prop := ∀ a, W a → ∃ o, H a = some o ∧ Mk1 o

/-- what is not in W stays, outside W -/
def Adv (H : Hp) (W : AS) (H' : Hp) (W' : AS) : Prop := ∀ b o, H b = some o → ¬ W b → H' b = some o ∧ ¬ W' b

section
variable {K : PySem.W.Frag} {H H' : Hp} {W W' : AS}
theorem RepO.mk1 {o : HO} {d : D} (h : RepO K H W o d) : Mk1 o := by
  cases d with
  | lst l => obtain ⟨vs, rfl, _⟩ := h; trivial
  | dic ks l => obtain ⟨vs, rfl, _⟩ := h; trivial
  | _ => exact h.elim
theorem WL.tup (wl : WL H W) {a : Addr} {vs : List V} (h : H a = some (.tup vs)) : ¬ W a := fun w => by
  obtain ⟨o, e, m⟩ := wl a w
  rw [h] at e; cases e; exact m
theorem WL.frz (wl : WL H W) {a : Addr} {ob : Obj} {u : HO} (h : H a = some (.frz ob u)) : ¬ W a := fun w => by
  obtain ⟨o, e, m⟩ := wl a w
  rw [h] at e; cases e; exact m
theorem TupL.adv (wl : WL H W) (ad : Adv H W H' W') {a : Addr} {vs : List V} (h : TupL K H a vs) : TupL K H' a vs := by
  rcases h with h | h
  · exact .inl (ad _ _ h (wl.tup h)).1
  · exact .inr h
theorem Rd.adv (ad : Adv H W H' W') {a : Addr} {u : HO} (h : Rd H a u) (w : ¬ W a) : Rd H' a u ∧ ¬ W' a := by
  rcases h with h | ⟨o, h⟩
  · exact ⟨.inl (ad _ _ h w).1, (ad _ _ h w).2⟩
  · exact ⟨.inr ⟨o, (ad _ _ h w).1⟩, (ad _ _ h w).2⟩
theorem ScrL.adv (wl : WL H W) (ad : Adv H W H' W') {a : Addr} {xs : List V} (h : ScrL K H W a xs) : ScrL K H' W' a xs := by
  rcases h with ⟨h, w⟩ | ⟨o, h⟩ | h
  · exact .inl (ad _ _ h w)
  · exact .inr (.inl ⟨o, (ad _ _ h (wl.frz h)).1⟩)
  · exact .inr (.inr h)
mutual
theorem RepD.adv (wl : WL H W) (ad : Adv H W H' W') : ∀ {d : D} {v : V}, RepD K H W v d → RepD K H' W' v d
  | .non, _, h => h
  | .bl _, _, h => h
  | .int _, _, h => h
  | .str _, _, h => h
  | .tup _, _, h => by
    obtain ⟨a, vs, e, q, r⟩ := h
    exact ⟨a, vs, e, TupL.adv wl ad q, RepDs.adv wl ad r⟩
  | .lst _, _, h => by
    obtain ⟨a, vs, e, q, w, r⟩ := h
    exact ⟨a, vs, e, (ad _ _ q w).1, (ad _ _ q w).2, RepDs.adv wl ad r⟩
  | .scr _, _, h => by
    obtain ⟨a, e, q⟩ := h
    exact ⟨a, e, q.adv wl ad⟩
  | .dic _ _, _, h => by
    obtain ⟨a, vs, e, q, w, k, r⟩ := h
    exact ⟨a, vs, e, (ad _ _ q w).1, (ad _ _ q w).2, k, RepDs.adv wl ad r⟩
theorem RepDs.adv (wl : WL H W) (ad : Adv H W H' W') : ∀ {ds : List D} {vs : List V}, RepDs K H W vs ds → RepDs K H' W' vs ds
  | [], _, h => h
  | _ :: _, _, h => by
    obtain ⟨v, r, e, q, s⟩ := h
    exact ⟨v, r, e, RepD.adv wl ad q, RepDs.adv wl ad s⟩
end
theorem RepO.adv (wl : WL H W) (ad : Adv H W H' W') {o : HO} {d : D} (h : RepO K H W o d) : RepO K H' W' o d := by
  cases d with
  | lst l => obtain ⟨vs, e, r⟩ := h; exact ⟨vs, e, r.adv wl ad⟩
  | dic ks l => obtain ⟨vs, e, k, r⟩ := h; exact ⟨vs, e, k, r.adv wl ad⟩
  | _ => exact h.elim
theorem RepDs.length : ∀ {ds : List D} {vs : List V}, RepDs K H W vs ds → vs.length = ds.length
  | [], _, h => by rw [show _ = [] from h]; rfl
  | _ :: _, _, h => by
    obtain ⟨v, r, rfl, _, s⟩ := h
    rw [List.length_cons, List.length_cons, RepDs.length s]
theorem RepDs.get : ∀ {ds : List D} {vs : List V} {i : Nat} {d : D}, RepDs K H W vs ds → ds[i]? = some d → ∃ v, vs[i]? = some v ∧ RepD K H W v d
  | [], _, _, _, _, e => by simp at e
  | _ :: _, _, 0, _, h, e => by
    obtain ⟨v, r, rfl, q, _⟩ := h
    simp at e; subst e; exact ⟨v, rfl, q⟩
  | _ :: _, _, i + 1, _, h, e => by
    obtain ⟨v, r, rfl, _, s⟩ := h
    obtain ⟨u, h1, h2⟩ := RepDs.get (i := i) s (by simpa using e)
    exact ⟨u, by simpa using h1, h2⟩
theorem RepDs.append : ∀ {ds es : List D} {vs us : List V}, RepDs K H W vs ds → RepDs K H W us es → RepDs K H W (vs ++ us) (ds ++ es)
  | [], _, _, _, h, q => by rw [show _ = [] from h]; exact q
  | _ :: _, _, _, _, h, q => by
    obtain ⟨v, r, rfl, a, s⟩ := h
    exact ⟨v, _, rfl, a, RepDs.append s q⟩
theorem RepDs.set {d : D} {v : V} (r : RepD K H W v d) : ∀ {ds : List D} {vs : List V} (i : Nat), RepDs K H W vs ds → RepDs K H W (vs.set i v) (ds.set i d)
  | [], _, _, h => by rw [show _ = [] from h]; rfl
  | _ :: _, _, 0, h => by
    obtain ⟨u, q, rfl, _, s⟩ := h
    exact ⟨v, q, rfl, r, s⟩
  | _ :: _, _, i + 1, h => by
    obtain ⟨u, q, rfl, a, s⟩ := h
    exact ⟨u, _, rfl, a, RepDs.set r i s⟩
theorem RepDs.take : ∀ {ds : List D} {vs : List V} (n : Nat), RepDs K H W vs ds → RepDs K H W (vs.take n) (ds.take n)
  | _, _, 0, _ => by simp [RepDs]
  | [], _, _ + 1, h => by rw [show _ = [] from h]; simp [RepDs]
  | _ :: _, _, n + 1, h => by
    obtain ⟨u, q, rfl, a, s⟩ := h
    exact ⟨u, _, rfl, a, RepDs.take n s⟩
theorem RepDs.drop : ∀ {ds : List D} {vs : List V} (n : Nat), RepDs K H W vs ds → RepDs K H W (vs.drop n) (ds.drop n)
  | _, _, 0, h => by simpa using h
  | [], _, _ + 1, h => by rw [show _ = [] from h]; simp [RepDs]
  | _ :: _, _, n + 1, h => by
    obtain ⟨u, q, rfl, a, s⟩ := h
    simpa using RepDs.drop n s
theorem RepDs.one {v : V} {d : D} (h : RepD K H W v d) : RepDs K H W [v] [d] := ⟨v, [], rfl, h, rfl⟩
theorem RepDs.of_get : ∀ {ds : List D} {vs : List V}, vs.length = ds.length → (∀ (i : Nat) (v : V) (d : D), vs[i]? = some v → ds[i]? = some d → RepD K H W v d) → RepDs K H W vs ds
  | [], vs, e, _ => by
    show vs = []
    exact List.length_eq_zero_iff.mp e
  | d :: ds, [], e, _ => by simp at e
  | d :: ds, v :: vs, e, h => ⟨v, vs, rfl, h 0 v d rfl rfl, RepDs.of_get (by simpa using e) fun i u c h1 h2 => h (i + 1) u c (by simpa using h1) (by simpa using h2)⟩
end

/-! ### slots -/
inductive S where
  | val (d : D) | own (b : Bool) (d : D) | lck (b : Bool) (d : D) | brz (d : D)
abbrev Env' := List (Option S)
abbrev Sg := List (Option V)

/-- slot i may change the object at a -/
def OwnU (σ : Sg) (ρ : Env') (i : Nat) (a : Addr) : Prop := (∃ b d, ρ[i]? = some (some (.own b d))) ∧ σ[i]? = some (some (.ref a))
/-- .. or bears it, locked -/
def OwnA (σ : Sg) (ρ : Env') (i : Nat) (a : Addr) : Prop := ((∃ b d, ρ[i]? = some (some (.own b d))) ∨ ∃ b d, ρ[i]? = some (some (.lck b d))) ∧ σ[i]? = some (some (.ref a))

/-- what is fixed through a def's body: the written part, what was free at the entry, the borrowed slots -/
structure Tc where
  K : PySem.W.Frag
  fz : AS
  bm : Nat → Option Addr

def RelS (T : Tc) (H : Hp) (W : AS) (o : Option V) : S → Prop
  | .val d => ∃ v, o = some v ∧ RepD T.K H W v d
  | .brz d => ∃ v, o = some v ∧ RepD T.K H W v d
  | .own _ d => ∃ a ob, o = some (.ref a) ∧ H a = some ob ∧ W a ∧ RepO T.K H W ob d
  | .lck _ d => ∃ a ob, o = some (.ref a) ∧ H a = some ob ∧ W a ∧ RepO T.K H W ob d

def isBor : S → Prop
  | .own true _ => True
  | .lck true _ => True
  | .brz _ => True
  | _ => False

structure Rel (T : Tc) (σ : Sg) (H : Hp) (ρ : Env') (W : AS) : Prop where
  len : ρ.length = σ.length
  at_ : ∀ (i : Nat) (s : S), ρ[i]? = some (some s) → ∃ o, σ[i]? = some o ∧ RelS T H W o s
  sep : ∀ i j a, OwnA σ ρ i a → OwnA σ ρ j a → i = j
  wl : WL H W
  fr : ∀ (i : Nat) (d : D) (a : Addr), (ρ[i]? = some (some (.own false d)) ∨ ρ[i]? = some (some (.lck false d))) → σ[i]? = some (some (.ref a)) → T.fz a
  fzk : ∀ a, H a = none → T.fz a
  bor : ∀ i a, T.bm i = some a → σ[i]? = some (some (.ref a)) ∧ ∃ s, ρ[i]? = some (some s) ∧ isBor s

/-- from one state to the next: what no unlocked slot bears is kept -/
def Step (σ : Sg) (H : Hp) (ρ : Env') (W : AS) (σ' : Sg) (H' : Hp) (ρ' : Env') (W' : AS) : Prop :=
  ∀ b o, H b = some o → (∀ i, ¬ OwnU σ ρ i b) → H' b = some o ∧ (∀ i, ¬ OwnU σ' ρ' i b) ∧ (W' b ↔ W b)

section
variable {T : Tc} {σ σ' σ2 : Sg} {H H' H2 : Hp} {ρ ρ' ρ2 : Env'} {W W' W2 : AS}
theorem Step.refl : Step σ H ρ W σ H ρ W := fun b o h n => ⟨h, n, Iff.rfl⟩
theorem Step.trans (a : Step σ H ρ W σ' H' ρ' W') (b : Step σ' H' ρ' W' σ2 H2 ρ2 W2) : Step σ H ρ W σ2 H2 ρ2 W2 := fun x o h n => by
  obtain ⟨h1, n1, w1⟩ := a x o h n
  obtain ⟨h2, n2, w2⟩ := b x o h1 n1
  exact ⟨h2, n2, w2.trans w1⟩
theorem OwnU.a {i : Nat} {a : Addr} (h : OwnU σ ρ i a) : OwnA σ ρ i a := ⟨.inl h.1, h.2⟩
theorem Rel.ownA (r : Rel T σ H ρ W) {i : Nat} {a : Addr} (h : OwnA σ ρ i a) : W a ∧ ∃ o, H a = some o ∧ Mk1 o := by
  obtain ⟨h1, h2⟩ := h
  rcases h1 with ⟨b, d, e⟩ | ⟨b, d, e⟩
  all_goals
    obtain ⟨o, e2, q⟩ := r.at_ _ _ e
    rw [h2] at e2; cases e2
    obtain ⟨a', ob, e3, e4, w, z⟩ := q
    cases e3
    exact ⟨w, ob, e4, z.mk1⟩
theorem Rel.nown (r : Rel T σ H ρ W) {b : Addr} (w : ¬ W b) (i : Nat) : ¬ OwnU σ ρ i b := fun h => w (r.ownA h.a).1
theorem Step.adv (s : Step σ H ρ W σ' H' ρ' W') (r : Rel T σ H ρ W) : Adv H W H' W' := fun b o h w => by
  obtain ⟨h1, _, w1⟩ := s b o h (r.nown w)
  exact ⟨h1, fun z => w (w1.mp z)⟩
end
end Dv

set_option Elab.async false
set_option linter.all false
set_option maxRecDepth 100000
namespace Dv
open PySem PySem.Spec PyProof.Rows L2

/-- what an expression hands on: data, a new mutable object, a slot's object -/
inductive P where
  | val (d : D) | own (d : D) | at_ (i : Nat)

def RepP (T : Tc) (σ : Sg) (H : Hp) (ρ : Env') (W : AS) (v : V) : P → Prop
  | .val d => RepD T.K H W v d
  | .own d => ∃ a o, v = .ref a ∧ H a = some o ∧ W a ∧ (∀ i, ¬ OwnA σ ρ i a) ∧ T.fz a ∧ RepO T.K H W o d
  | .at_ i => σ[i]? = some (some v)

/-- Step, but for the addresses in A -/
def StepX (A : AS) (σ : Sg) (H : Hp) (ρ : Env') (W : AS) (σ' : Sg) (H' : Hp) (ρ' : Env') (W' : AS) : Prop :=
  ∀ b o, H b = some o → (∀ i, ¬ OwnU σ ρ i b) → ¬ A b → H' b = some o ∧ (∀ i, ¬ OwnU σ' ρ' i b) ∧ (W' b ↔ W b)
/-- locked slots stay -/
def Lk (ρ ρ' : Env') : Prop := ∀ (i : Nat) (b : Bool) (d : D), ρ[i]? = some (some (.lck b d)) → ρ'[i]? = some (some (.lck b d))
def Mon (σ : Sg) (ρ ρ' : Env') : Prop := ∀ i a, OwnA σ ρ' i a → OwnA σ ρ i a

def peek : P → Env' → Option D
  | .val d, _ => some d
  | .own d, _ => some d
  | .at_ i, ρ => match ρ[i]? with
    | some (some (.val d)) => some d
    | some (some (.own _ d)) => some d
    | some (some (.lck _ d)) => some d
    | some (some (.brz d)) => some d
    | _ => none
def thaw (b : Bool) (d : D) : S := match b with | true => .brz d | false => .val d
def toD : P → Env' → Option (D × Env')
  | .val d, ρ => some (d, ρ)
  | .own d, ρ => some (d, ρ)
  | .at_ i, ρ => match ρ[i]? with
    | some (some (.val d)) => some (d, ρ)
    | some (some (.brz d)) => some (d, ρ)
    | some (some (.own b d)) => some (d, ρ.set i (some (thaw b d)))
    | _ => none
def toDs : List P → Env' → Option (List D × Env')
  | [], ρ => some ([], ρ)
  | p :: ps, ρ => (toD p ρ).bind fun r => (toDs ps r.2).bind fun q => some (r.1 :: q.1, q.2)

/-- data as it may be read now -/
def RepK (K : PySem.W.Frag) (H : Hp) (W : AS) (v : V) (d : D) : Prop := (∃ a o, v = .ref a ∧ H a = some o ∧ RepO K H W o d) ∨ RepD K H W v d

section
variable {T : Tc} {σ σ' σ2 : Sg} {H H' H2 : Hp} {ρ ρ' ρ2 : Env'} {W W' W2 : AS} {A : AS}
theorem Step.x (s : Step σ H ρ W σ' H' ρ' W') : StepX A σ H ρ W σ' H' ρ' W' := fun b o h n _ => s b o h n
theorem Step.then (a : Step σ H ρ W σ' H' ρ' W') (b : StepX A σ' H' ρ' W' σ2 H2 ρ2 W2) (n : ∀ x, A x → H x = none) : Step σ H ρ W σ2 H2 ρ2 W2 := fun x o h m => by
  obtain ⟨h1, n1, w1⟩ := a x o h m
  obtain ⟨h2, n2, w2⟩ := b x o h1 n1 fun z => by rw [n x z] at h; cases h
  exact ⟨h2, n2, w2.trans w1⟩
theorem Lk.refl : Lk ρ ρ := fun _ _ _ h => h
theorem Lk.trans (a : Lk ρ ρ') (b : Lk ρ' ρ2) : Lk ρ ρ2 := fun i c d h => b i c d (a i c d h)
theorem Lk.set {i : Nat} {s : Option S} (h : ∀ b d, ρ[i]? ≠ some (some (.lck b d))) : Lk ρ (ρ.set i s) := fun j b d e => by
  have ne : i ≠ j := fun z => h b d (by rw [z]; exact e)
  rw [List.getElem?_set_ne ne]
  exact e
theorem Mon.refl : Mon σ ρ ρ := fun _ _ h => h
theorem Mon.trans (a : Mon σ ρ ρ') (b : Mon σ ρ' ρ2) : Mon σ ρ ρ2 := fun i x h => a i x (b i x h)

theorem RepD.k {K : PySem.W.Frag} {v : V} {d : D} (h : RepD K H W v d) : RepK K H W v d := .inr h
theorem RepK.lst {K : PySem.W.Frag} {v : V} {l : List D} (h : RepK K H W v (.lst l)) : ∃ a vs, v = .ref a ∧ H a = some (.lst vs) ∧ RepDs K H W vs l := by
  rcases h with ⟨a, o, e, r, vs, rfl, q⟩ | ⟨a, vs, e, r, _, q⟩
  · exact ⟨a, vs, e, r, q⟩
  · exact ⟨a, vs, e, r, q⟩
theorem RepK.dic {K : PySem.W.Frag} {v : V} {ks : List Key} {l : List D} (h : RepK K H W v (.dic ks l)) : ∃ a kvs, v = .ref a ∧ H a = some (.dK kvs) ∧ kvs.map (·.1) = ks ∧ RepDs K H W (kvs.map (·.2)) l := by
  rcases h with ⟨a, o, e, r, vs, rfl, q⟩ | ⟨a, vs, e, r, _, q⟩
  · exact ⟨a, vs, e, r, q⟩
  · exact ⟨a, vs, e, r, q⟩
theorem RepK.tup {K : PySem.W.Frag} {v : V} {l : List D} (h : RepK K H W v (.tup l)) : ∃ a vs, v = .ref a ∧ TupL K H a vs ∧ RepDs K H W vs l := by
  rcases h with ⟨a, o, e, r, q⟩ | h
  · exact q.elim
  · exact h
theorem RepK.scr {K : PySem.W.Frag} {v : V} {l : List Int} (h : RepK K H W v (.scr l)) : ∃ a, v = .ref a ∧ SqL K H a (l.map V.int) := by
  rcases h with ⟨a, o, e, r, q⟩ | ⟨a, e, q⟩
  · exact q.elim
  · exact ⟨a, e, q.sq⟩
theorem RepK.int {K : PySem.W.Frag} {v : V} {i : Int} (h : RepK K H W v (.int i)) : v = .int i := by
  rcases h with ⟨a, o, e, r, q⟩ | h
  · exact q.elim
  · exact h
theorem RepK.bl {K : PySem.W.Frag} {v : V} {i : Bool} (h : RepK K H W v (.bl i)) : v = .bl i := by
  rcases h with ⟨a, o, e, r, q⟩ | h
  · exact q.elim
  · exact h
theorem RepK.str {K : PySem.W.Frag} {v : V} {i : Str} (h : RepK K H W v (.str i)) : v = .str i := by
  rcases h with ⟨a, o, e, r, q⟩ | h
  · exact q.elim
  · exact h
theorem RepK.non {K : PySem.W.Frag} {v : V} (h : RepK K H W v .non) : v = .non := by
  rcases h with ⟨a, o, e, r, q⟩ | h
  · exact q.elim
  · exact h

theorem peek_ok (R : Rel T σ H ρ W) {p : P} {v : V} (h : RepP T σ H ρ W v p) {d : D} (e : peek p ρ = some d) : RepK T.K H W v d := by
  cases p with
  | val c => cases e; exact .inr h
  | own c =>
    cases e
    obtain ⟨a, o, e1, e2, _, _, _, q⟩ := h
    exact .inl ⟨a, o, e1, e2, q⟩
  | at_ i =>
    have h : σ[i]? = some (some v) := h
    have key : ∀ s : S, ρ[i]? = some (some s) → RelS T H W (some v) s := fun s es => by
      obtain ⟨o, e1, q⟩ := R.at_ i s es
      rw [h] at e1; cases e1; exact q
    simp only [peek] at e
    split at e
    · rename_i c es; cases e
      obtain ⟨u, z, q⟩ := key _ es
      cases z; exact .inr q
    · rename_i c es; cases e
      obtain ⟨a, ob, z, e2, _, q⟩ := key _ es
      cases z; exact .inl ⟨a, ob, rfl, e2, q⟩
    · rename_i c es; cases e
      obtain ⟨a, ob, z, e2, _, q⟩ := key _ es
      cases z; exact .inl ⟨a, ob, rfl, e2, q⟩
    · rename_i c es; cases e
      obtain ⟨u, z, q⟩ := key _ es
      cases z; exact .inr q
    · cases e

/-- what is held while something else runs -/
theorem RepP.step {v : V} {p : P} (h : RepP T σ H ρ W v p) (R : Rel T σ H ρ W) (s : Step σ H ρ W σ H' ρ' W') (m : Mon σ ρ ρ') : RepP T σ H' ρ' W' v p := by
  cases p with
  | val d => exact RepD.adv R.wl (s.adv R) h
  | own d =>
    obtain ⟨a, o, e, ha, w, n, f, q⟩ := h
    obtain ⟨h1, n1, w1⟩ := s a o ha fun i z => n i z.a
    exact ⟨a, o, e, h1, w1.mpr w, fun i z => n i (m i a z), f, q.adv R.wl (s.adv R)⟩
  | at_ i => exact h

/-- fewer may be changed: W shrinks by one address -/
theorem RepD.drop {K : PySem.W.Frag} {v : V} {d : D} (wl : WL H W) {a : Addr} (h : RepD K H W v d) : RepD K H (fun b => W b ∧ b ≠ a) v d :=
  h.adv wl fun b o e w => ⟨e, fun z => w z.1⟩
theorem RepO.drop {K : PySem.W.Frag} {o : HO} {d : D} (wl : WL H W) {a : Addr} (h : RepO K H W o d) : RepO K H (fun b => W b ∧ b ≠ a) o d :=
  h.adv wl fun b o e w => ⟨e, fun z => w z.1⟩
theorem RepO.d {K : PySem.W.Frag} {a : Addr} {o : HO} {d : D} (h : RepO K H W o d) (e : H a = some o) (w : ¬ W a) : RepD K H W (.ref a) d := by
  cases d with
  | lst l => obtain ⟨vs, rfl, q⟩ := h; exact ⟨a, vs, rfl, e, w, q⟩
  | dic ks l => obtain ⟨vs, rfl, k, q⟩ := h; exact ⟨a, vs, rfl, e, w, k, q⟩
  | _ => exact h.elim
theorem WL.drop (wl : WL H W) {a : Addr} : WL H (fun b => W b ∧ b ≠ a) := fun b w => wl b w.1

theorem getq_set {α : Type} {l : List α} {i j : Nat} {x y : α} (h : (l.set i x)[j]? = some y) : (i = j ∧ x = y ∧ i < l.length) ∨ (i ≠ j ∧ l[j]? = some y) := by
  by_cases e : i = j
  · subst e
    by_cases z : i < l.length
    · rw [List.getElem?_set_self z] at h
      exact .inl ⟨rfl, Option.some.inj h, z⟩
    · rw [List.getElem?_eq_none (by simpa using z)] at h; cases h
  · rw [List.getElem?_set_ne e] at h
    exact .inr ⟨e, h⟩

/-- a slot's object frozen -/
theorem freeze_at (R : Rel T σ H ρ W) {i : Nat} {b : Bool} {d : D} {v : V} (e : ρ[i]? = some (some (.own b d))) (hv : σ[i]? = some (some v)) :
    ∃ W', Rel T σ H (ρ.set i (some (thaw b d))) W' ∧ RepD T.K H W' v d ∧ Step σ H ρ W σ H (ρ.set i (some (thaw b d))) W' ∧ Mon σ ρ (ρ.set i (some (thaw b d))) := by
  obtain ⟨o, e1, a, ob, e2, ha, wa, q⟩ := R.at_ i _ e
  rw [hv] at e1; cases e1; cases e2
  have hi : i < ρ.length := (List.getElem?_eq_some_iff.mp e).1
  have oi : OwnU σ ρ i a := ⟨⟨b, d, e⟩, hv⟩
  have nt : ∀ c x y, thaw c x ≠ .own y d ∧ ∀ z, thaw c x ≠ .own y z ∧ thaw c x ≠ .lck y z := fun c x y => by cases c <;> simp [thaw]
  have mon : Mon σ ρ (ρ.set i (some (thaw b d))) := fun j x h => by
    obtain ⟨h1, h2⟩ := h
    rcases h1 with ⟨c, z, h1⟩ | ⟨c, z, h1⟩
    · rcases getq_set h1 with ⟨rfl, k, _⟩ | ⟨_, k⟩
      · exact absurd (Option.some.inj k) ((nt b d c).2 z).1
      · exact ⟨.inl ⟨c, z, k⟩, h2⟩
    · rcases getq_set h1 with ⟨rfl, k, _⟩ | ⟨_, k⟩
      · exact absurd (Option.some.inj k) ((nt b d c).2 z).2
      · exact ⟨.inr ⟨c, z, k⟩, h2⟩
  have nO : ∀ j, ¬ OwnA σ (ρ.set i (some (thaw b d))) j a := fun j h => by
    have hj := R.sep _ _ _ (mon j a h) oi.a
    subst hj
    obtain ⟨h1, _⟩ := h
    rcases h1 with ⟨c, z, h1⟩ | ⟨c, z, h1⟩ <;> rw [List.getElem?_set_self hi] at h1
    · exact absurd (Option.some.inj (Option.some.inj h1)) ((nt b d c).2 z).1
    · exact absurd (Option.some.inj (Option.some.inj h1)) ((nt b d c).2 z).2
  refine ⟨fun x => W x ∧ x ≠ a, ⟨by simpa using R.len, fun j s h => ?_, fun j k x h1 h2 => R.sep j k x (mon j x h1) (mon k x h2), R.wl.drop, fun j z x h1 h2 => ?_, R.fzk, fun j x h => ?_⟩, ?_, fun x o h n => ?_, mon⟩
  · rcases getq_set h with ⟨rfl, k, _⟩ | ⟨ne, k⟩
    · cases k
      refine ⟨_, hv, ?_⟩
      have fin : RepD T.K H (fun x => W x ∧ x ≠ a) (.ref a) d := (q.drop R.wl).d ha fun z => z.2 rfl
      cases b <;> exact ⟨_, rfl, fin⟩
    · obtain ⟨o, e3, r⟩ := R.at_ j s k
      refine ⟨o, e3, ?_⟩
      cases s with
      | val c => obtain ⟨u, e4, z⟩ := r; exact ⟨u, e4, z.drop R.wl⟩
      | brz c => obtain ⟨u, e4, z⟩ := r; exact ⟨u, e4, z.drop R.wl⟩
      | own c x =>
        obtain ⟨a', ob', e4, e5, e6, z⟩ := r
        subst e4
        exact ⟨a', ob', rfl, e5, ⟨e6, fun z => ne (by subst z; exact R.sep _ _ _ oi.a ⟨.inl ⟨c, x, k⟩, e3⟩)⟩, z.drop R.wl⟩
      | lck c x =>
        obtain ⟨a', ob', e4, e5, e6, z⟩ := r
        subst e4
        exact ⟨a', ob', rfl, e5, ⟨e6, fun z => ne (by subst z; exact R.sep _ _ _ oi.a ⟨.inr ⟨c, x, k⟩, e3⟩)⟩, z.drop R.wl⟩
  · have back : ρ[j]? = some (some (.own false z)) ∨ ρ[j]? = some (some (.lck false z)) := by
      rcases h1 with h1 | h1
      · rcases getq_set h1 with ⟨rfl, k, _⟩ | ⟨_, k⟩
        · exact absurd (Option.some.inj k) ((nt b d false).2 z).1
        · exact .inl k
      · rcases getq_set h1 with ⟨rfl, k, _⟩ | ⟨_, k⟩
        · exact absurd (Option.some.inj k) ((nt b d false).2 z).2
        · exact .inr k
    exact R.fr j z x back h2
  · obtain ⟨h1, s, h2, h3⟩ := R.bor j x h
    refine ⟨h1, ?_⟩
    by_cases ej : i = j
    · subst ej
      refine ⟨thaw b d, by rw [List.getElem?_set_self hi], ?_⟩
      rw [e] at h2; cases h2
      cases b with
      | true => trivial
      | false => exact h3.elim
    · exact ⟨s, by rw [List.getElem?_set_ne ej]; exact h2, h3⟩
  · exact (q.drop R.wl).d ha fun z => z.2 rfl
  · refine ⟨h, fun j z => n j ?_, ?_⟩
    · obtain ⟨⟨c, y, h1⟩, h2⟩ := z
      rcases getq_set h1 with ⟨rfl, k, _⟩ | ⟨_, k⟩
      · exact absurd (Option.some.inj k) ((nt b d c).2 y).1
      · exact ⟨⟨c, y, k⟩, h2⟩
    · exact ⟨fun z => z.1, fun z => ⟨z, fun y => n i (by subst y; exact oi)⟩⟩

/-- a new mutable object that nobody bears, frozen -/
theorem freeze_own (R : Rel T σ H ρ W) {a : Addr} {o : HO} {d : D} (ha : H a = some o) (wa : W a) (no : ∀ i, ¬ OwnA σ ρ i a) (q : RepO T.K H W o d) :
    ∃ W', Rel T σ H ρ W' ∧ RepD T.K H W' (.ref a) d ∧ StepX (fun x => x = a) σ H ρ W σ H ρ W' := by
  refine ⟨fun x => W x ∧ x ≠ a, ⟨R.len, fun j s k => ?_, R.sep, R.wl.drop, R.fr, R.fzk, R.bor⟩, (q.drop R.wl).d ha fun z => z.2 rfl, fun x o h n na => ⟨h, n, fun z => z.1, fun z => ⟨z, na⟩⟩⟩
  obtain ⟨o, e3, r⟩ := R.at_ j s k
  refine ⟨o, e3, ?_⟩
  cases s with
  | val c => obtain ⟨u, e4, z⟩ := r; exact ⟨u, e4, z.drop R.wl⟩
  | brz c => obtain ⟨u, e4, z⟩ := r; exact ⟨u, e4, z.drop R.wl⟩
  | own c x =>
    obtain ⟨a', ob', e4, e5, e6, z⟩ := r
    subst e4
    exact ⟨a', ob', rfl, e5, ⟨e6, fun z => no j (by subst z; exact ⟨.inl ⟨c, x, k⟩, e3⟩)⟩, z.drop R.wl⟩
  | lck c x =>
    obtain ⟨a', ob', e4, e5, e6, z⟩ := r
    subst e4
    exact ⟨a', ob', rfl, e5, ⟨e6, fun z => no j (by subst z; exact ⟨.inr ⟨c, x, k⟩, e3⟩)⟩, z.drop R.wl⟩

/-- the address of a new object handed on -/
def tmp (v : V) : P → AS
  | .own _ => fun a => v = .ref a
  | _ => fun _ => False

theorem toD_ok (R : Rel T σ H ρ W) {p : P} {v : V} (h : RepP T σ H ρ W v p) {d : D} (e : toD p ρ = some (d, ρ')) :
    ∃ W', Rel T σ H ρ' W' ∧ RepD T.K H W' v d ∧ StepX (tmp v p) σ H ρ W σ H ρ' W' ∧ Mon σ ρ ρ' ∧ Lk ρ ρ' := by
  cases p with
  | val c => cases e; exact ⟨W, R, h, Step.refl.x, .refl, .refl⟩
  | own c =>
    cases e
    obtain ⟨a, o, rfl, e2, w, n, _, q⟩ := h
    obtain ⟨W', R', q', s⟩ := freeze_own R e2 w n q
    exact ⟨W', R', q', fun b o h n na => s b o h n fun z => na (by subst z; rfl), .refl, .refl⟩
  | at_ i =>
    have h : σ[i]? = some (some v) := h
    simp only [toD] at e
    split at e
    · rename_i c es; cases e
      obtain ⟨o, e1, u, e2, q⟩ := R.at_ i _ es
      rw [h] at e1; cases e1; cases e2
      exact ⟨W, R, q, Step.refl.x, .refl, .refl⟩
    · rename_i c es; cases e
      obtain ⟨o, e1, u, e2, q⟩ := R.at_ i _ es
      rw [h] at e1; cases e1; cases e2
      exact ⟨W, R, q, Step.refl.x, .refl, .refl⟩
    · rename_i b c es; cases e
      obtain ⟨W', R', q, s, m⟩ := freeze_at R es h
      exact ⟨W', R', q, s.x, m, Lk.set fun b' d' z => by rw [es] at z; cases z⟩
    · cases e
end
end Dv

set_option Elab.async false
set_option linter.all false
set_option maxRecDepth 100000
namespace Dv
open PySem PySem.Spec PyProof.Rows L2

/-- an error: its class's name, its attributes -/
structure Er where
  cls : Str
  val : List (Str × D)
inductive Rs (α : Type) where
  | bad | err (e : Er) | ok (a : α)
def Rs.bind {α β : Type} : Rs α → (α → Rs β) → Rs β
  | .bad, _ => .bad
  | .err e, _ => .err e
  | .ok a, f => f a
def Rs.of {α : Type} : Option α → Rs α
  | none => .bad
  | some a => .ok a
/-- nothing is raised -/
def Rs.quiet {α : Type} : Rs α → Rs α
  | .ok a => .ok a
  | _ => .bad
noncomputable section
/-- a side condition; decided by nobody, so no instance stands in the way -/
def need (p : Prop) {α : Type} (x : Rs α) : Rs α := @ite _ p (Classical.propDecidable p) x .bad

/-- a def's argument, its result -/
inductive A where
  | val (d : D) | own (d : D) | rd (d : D)
inductive Re where
  | val (d : D) | own (d : D)
structure Fn where
  call : Str → List A → Rs (Re × List A)
  glo : Str → Option D
  dfl : Str → Nat → List D

/-! ### data -/
mutual
def toPy : D → PyData
  | .non => .none
  | .bl b => .bool b
  | .int i => .int i
  | .str x => .str x
  | .tup l => .tuple (toPys l)
  | .lst l => .list (toPys l)
  | .dic _ _ => .dict []
  | .scr _ => .dict []
def toPys : List D → List PyData
  | [] => []
  | d :: ds => toPy d :: toPys ds
end
def shp (d : D) : Bool := SeqAt.shaped (toPy d)
def deq (d e : D) : Bool := PyData.eqv (toPy d) (toPy e)
def chr1 (c : Nat) : Str := ⟨#[c]⟩
def strIn (i j : Str) : Bool := !(Builtin.Str.occurrences j i 0 j.length 1).isEmpty

instance {i j : Int} : Decidable (CMulX i j) := by unfold CMulX; infer_instance
instance {i j : Int} : Decidable (CShl i j) := by unfold CShl; infer_instance
instance {i j : Int} : Decidable (CPow i j) := by unfold CPow; infer_instance
def CDvX (i j : Int) : Prop := j ≠ 0 ∧ Builtin.divisionGoesByPylong i j = false
instance {i j : Int} : Decidable (CDvX i j) := by unfold CDvX; infer_instance

instance {x : Str} {n : Int} : Decidable (MulOk x n) := by unfold MulOk; infer_instance
def dBin : Operator → D → D → Rs P
  | .Add, .int i, .int j => .ok (.val (.int (i + j)))
  | .Add, .str x, .str y => need (x.length + y.length ≤ sizeLine) (.ok (.val (.str (x ++ y))))
  | .Add, .lst a, .lst b => need (a.length + b.length ≤ sizeLine) (.ok (.own (.lst (a ++ b))))
  | .Add, .tup a, .tup b => need (a.length + b.length ≤ sizeLine) (.ok (.val (.tup (a ++ b))))
  | .Sub, .int i, .int j => .ok (.val (.int (i - j)))
  | .Mult, .int i, .int j => need (CMulX i j) (.ok (.val (.int (i * j))))
  | .Mult, .lst l, .int k => need (-(2 ^ 63) ≤ k ∧ k < 2 ^ 63 ∧ l.length * k.toNat ≤ sizeLine) (.ok (.own (.lst (List.replicate k.toNat l).flatten)))
  | .Mult, .str x, .int n => need (MulOk x n) (.ok (.val (.str (Txt.mul x n))))
  | .FloorDiv, .int i, .int j => need (CDvX i j) (.ok (.val (.int (i.fdiv j))))
  | .Mod, .int i, .int j => need (j ≠ 0) (.ok (.val (.int (i.fmod j))))
  | .Pow, .int i, .int j => need (CPow i j) (.ok (.val (.int (i ^ j.toNat))))
  | .LShift, .int i, .int j => need (CShl i j) (.ok (.val (.int (i * 2 ^ j.toNat))))
  | _, _, _ => .bad

def dIn (x y : D) : Rs Bool := match y with
  | .str j => match x with
    | .str i => .ok (strIn i j)
    | _ => .bad
  | .lst l => need (shp x = true ∧ shp (.lst l) = true) (.ok (l.any fun z => deq z x))
  | .tup l => need (shp x = true ∧ shp (.tup l) = true) (.ok (l.any fun z => deq z x))
  | _ => .bad
def dCmp : CmpOp → D → D → Rs Bool
  | .Eq, a, b => need (shp a = true ∧ shp b = true) (.ok (deq a b))
  | .NotEq, a, b => need (shp a = true ∧ shp b = true) (.ok (!deq a b))
  | .Lt, .int i, .int j => .ok (decide (i < j))
  | .LtE, .int i, .int j => .ok (decide (i ≤ j))
  | .Gt, .int i, .int j => .ok (decide (j < i))
  | .GtE, .int i, .int j => .ok (decide (j ≤ i))
  | .Is, a, .non => .ok (match a with | .non => true | _ => false)
  | .IsNot, a, .non => .ok (match a with | .non => false | _ => true)
  | .In, a, b => dIn a b
  | .NotIn, a, b => (dIn a b).bind fun c => .ok (!c)
  | _, _, _ => .bad

def truth : D → Rs Bool
  | .non => .ok false
  | .bl b => .ok b
  | .int i => .ok (i != 0)
  | .str x => need (x.length ≤ sizeLine) (.ok ((x.length : Int) != 0))
  | .tup l => .ok (!l.isEmpty)
  | .lst l => .ok (!l.isEmpty)
  | .dic ks _ => .ok (!ks.isEmpty)
  | .scr l => .ok (!l.isEmpty)

def dIdx : D → D → Rs D
  | .tup l, .int i => .of (atI l i)
  | .lst l, .int i => .of (atI l i)
  | .scr l, .int i => (Rs.of (atI l i)).bind fun k => .ok (.int k)
  | .str z, .int i => need (z.length ≤ sizeLine) ((Rs.of (atI z.cps.toList i)).bind fun c => .ok (.str (chr1 c)))
  | _, _ => .bad

/-- what a loop walks -/
def items : D → Rs (List D)
  | .tup l => .ok l
  | .lst l => .ok l
  | .scr l => .ok (l.map .int)
  | .str x => .ok (x.cps.toList.map fun c => .str (chr1 c))
  | _ => .bad

/-- .. of a list -/
def itemsL : D → Rs (List D)
  | .lst l => .ok l
  | .tup l => .ok l
  | _ => .bad
inductive Ty where
  | tup | lst | int | str | bool
  deriving DecidableEq
/-- built-in functions of values -/
inductive Bl where
  | len | abs | int | tuple | list | all | any | sum | gcd | min2 | max2 | str
  deriving DecidableEq
def dLen : D → Rs Nat
  | .tup l => .ok l.length
  | .lst l => .ok l.length
  | .scr l => .ok l.length
  | .str x => need (x.length ≤ sizeLine) (.ok x.length)
  | _ => .bad
def bls : List D → Option (List Bool)
  | [] => some []
  | .bl b :: ds => (bls ds).map (b :: ·)
  | _ :: _ => none
def intsD : List D → Option (List Int)
  | [] => some []
  | .int b :: ds => (intsD ds).map (b :: ·)
  | _ :: _ => none
def strsD : List D → Option (List Str)
  | [] => some []
  | .str b :: ds => (strsD ds).map (b :: ·)
  | _ :: _ => none
def isTy : Ty → D → Rs Bool
  | .tup, .tup _ => .ok true
  | .lst, .lst _ => .ok true
  | .int, .int _ => .ok true
  | .int, .bl _ => .ok true
  | .bool, .bl _ => .ok true
  | .str, .str _ => .ok true
  | _, .dic _ _ => .bad
  | _, .scr _ => .bad
  | _, _ => .ok false
def dBl : Bl → List D → Rs P
  | .len, [d] => (dLen d).bind fun n => .ok (.val (.int n))
  | .abs, [.int i] => .ok (.val (.int (if i < 0 then -i else i)))
  | .int, [.int i] => .ok (.val (.int i))
  | .int, [.bl k] => .ok (.val (.int (if k then 1 else 0)))
  | .tuple, [.tup l] => .ok (.val (.tup l))
  | .tuple, [.lst l] => .ok (.val (.tup l))
  | .tuple, [.scr l] => .ok (.val (.tup (l.map .int)))
  | .list, [.tup l] => .ok (.own (.lst l))
  | .list, [.lst l] => .ok (.own (.lst l))
  | .list, [.scr l] => .ok (.own (.lst (l.map .int)))
  | .all, [.lst l] => (Rs.of (bls l)).bind fun bs => .ok (.val (.bl (bs.all id)))
  | .any, [.lst l] => (Rs.of (bls l)).bind fun bs => .ok (.val (.bl (bs.any id)))
  | .sum, [.lst l] => (Rs.of (intsD l)).bind fun is => .ok (.val (.int is.sum))
  | .gcd, [.int i, .int j] => .ok (.val (.int ((Nat.gcd i.natAbs j.natAbs : Nat) : Int)))
  | .min2, [.int i, .int j] => .ok (.val (.int (if j < i then j else i)))
  | .max2, [.int i, .int j] => .ok (.val (.int (if j > i then j else i)))
  | _, _ => .bad
def optI : Option D → Option (Option Int)
  | none => some none
  | some (.int i) => some (some i)
  | _ => none
def dSlc : D → Option Int → Option Int → Rs P
  | .str z, lo, hi => need (z.length ≤ sizeLine) (.ok (.val (.str (cutS z lo hi))))
  | .lst l, lo, hi => .ok (.own (.lst ((l.drop (HT.sIx l.length 0 lo)).take (HT.sIx l.length l.length hi - HT.sIx l.length 0 lo))))
  | .tup l, lo, hi => .ok (.val (.tup ((l.drop (HT.sIx l.length 0 lo)).take (HT.sIx l.length l.length hi - HT.sIx l.length 0 lo))))
  | _, _, _ => .bad
/-- methods that change nothing -/
inductive Me where
  | join | split | index
def dMe : Me → D → List D → Rs P
  | .join, .str a, [.lst l] => (Rs.of (strsD l)).bind fun ys => need ((ys.map (·.length)).sum + ys.length * a.length ≤ 16777216) (.ok (.val (.str (Txt.join a ys))))
  | .join, .str a, [.tup l] => (Rs.of (strsD l)).bind fun ys => need ((ys.map (·.length)).sum + ys.length * a.length ≤ 16777216) (.ok (.val (.str (Txt.join a ys))))
  | .split, .str a, [.str b] => need ((b.length == 0) = false ∧ a.length + 2 ≤ sizeLine) (.ok (.own (.lst ((Txt.split a b).map .str))))
  | .index, .lst l, [x] => need (shp x = true ∧ shp (.lst l) = true) (match l.findIdx? fun z => deq z x with | some j => .ok (.val (.int (j : Nat))) | none => .bad)
  | _, _, _ => .bad
/-- methods that change their list: the value, the list -/
inductive Mm where
  | append | pop | popAt | insert
def dMm : Mm → D → List D → Rs (D × D)
  | .append, .lst l, [d] => need (l.length < sizeLine) (.ok (.non, .lst (l ++ [d])))
  | .pop, .lst l, [] => (Rs.of (l[l.length - 1]?)).bind fun y => .ok (y, .lst l.dropLast)
  | .insert, .lst l, [.int i, d] => need (l.length < sizeLine ∧ 0 ≤ i ∧ i < 2 ^ 63) (.ok (.non, .lst (l.take i.toNat ++ [d] ++ l.drop i.toNat)))
  | .popAt, .lst l, [.int i] => need (-(2 ^ 63) ≤ i ∧ i < 2 ^ 63) ((Rs.of (seqIndex? i l.length)).bind fun k => (Rs.of l[k]?).bind fun y => .ok (y, .lst (l.eraseIdx k)))
  | _, _, _ => .bad

/-! ### the text, names by slots -/
inductive Tg where
  | nm (i : Nat)
  | tp (l : List Nat)
mutual
inductive Ex where
  | var (i : Nat)
  | cst (d : D)
  | glo (x : Str)
  | bin (op : Operator) (a b : Ex)
  | neg (a : Ex)
  | cmp (op : CmpOp) (a b : Ex)
  | chn (op op' : CmpOp) (a b c : Ex)
  | and_ (l : Exs)
  | or_ (l : Exs)
  | not_ (a : Ex)
  | ite (c : Tx) (a b : Ex)
  | tup (l : Exs)
  | lst (l : Exs)
  | idx (a i : Ex)
  | slc (a : Ex) (lo hi : Eo)
  | call (f : Str) (l : Exs)
  | blt (b : Bl) (l : Exs)
  | isi (t : Ty) (a : Ex)
  | met (m : Me) (o : Ex) (l : Exs)
  | chg (m : Mm) (i : Nat) (l : Exs)
  | comp (elt : Ex) (tg : Tg) (it : Ie) (ifs : To) (own : List Nat)
inductive Exs where
  | nil
  | cons (e : Ex) (l : Exs)
inductive Eo where
  | none
  | some (e : Ex)
inductive Tx where
  | val (e : Ex)
  | cmp (op : CmpOp) (a b : Ex)
  | chn (op op' : CmpOp) (a b c : Ex)
  | and_ (l : Txs)
  | or_ (l : Txs)
  | not_ (t : Tx)
inductive Txs where
  | nil
  | cons (t : Tx) (l : Txs)
inductive To where
  | none
  | some (t : Tx)
inductive Ie where
  | seq (e : Ex)
  | rng (a : Ex)
  | rng2 (a b : Ex)
  | enm (e : Ex)
  | zip (l : Exs)
end

def hasTy : Me → D → Bool
  | .join, .str _ => true
  | .split, .str _ => true
  | .index, .lst _ => true
  | _, _ => false
def isLst : D → Bool
  | .lst _ => true
  | _ => false
/-! ### the environment -/
def evVar (i : Nat) (ρ : Env') : Rs (P × Env') := match ρ[i]? with
  | some (some (.val d)) => .ok (.val d, ρ)
  | some (some (.brz d)) => .ok (.val d, ρ)
  | some (some (.own _ _)) => .ok (.at_ i, ρ)
  | some (some (.lck _ _)) => .ok (.at_ i, ρ)
  | _ => .bad
/-- may slot i be stored anew? -/
def freeSlot (i : Nat) (ρ : Env') : Bool := match ρ[i]? with
  | some none => true
  | some (some (.val _)) => true
  | some (some (.own false _)) => true
  | _ => false
def putV (i : Nat) (d : D) (ρ : Env') : Rs Env' := if freeSlot i ρ = true then .ok (ρ.set i (some (.val d))) else .bad
def putVs : List Nat → List D → Env' → Rs Env'
  | [], [], ρ => .ok ρ
  | i :: is, d :: ds, ρ => (putV i d ρ).bind (putVs is ds)
  | _, _, _ => .bad
def asgT : Tg → D → Env' → Rs Env'
  | .nm i, d, ρ => putV i d ρ
  | .tp is, .tup ds, ρ => putVs is ds ρ
  | _, _, _ => .bad
/-- x = p -/
def asgP (i : Nat) (p : P) (ρ : Env') : Rs Env' := match p with
  | .val d => putV i d ρ
  | .own d => if freeSlot i ρ = true then .ok (ρ.set i (some (.own false d))) else .bad
  | .at_ j => (Rs.of (toD (.at_ j) ρ)).bind fun r => putV i r.1 r.2
def lockP (p : P) (ρ : Env') : Option Nat × Env' := match p with
  | .at_ i => match ρ[i]? with
    | some (some (.own b d)) => (some i, ρ.set i (some (.lck b d)))
    | _ => (none, ρ)
  | _ => (none, ρ)
def unlock (o : Option Nat) (ρ : Env') : Rs Env' := match o with
  | none => .ok ρ
  | some i => match ρ[i]? with
    | some (some (.lck b d)) => .ok (ρ.set i (some (.own b d)))
    | _ => .bad
def wipeR (ρ : Env') : List Nat → Env'
  | [] => ρ
  | v :: vs => (wipeR ρ vs).set v none
/-- a comprehension's own slots as they were -/
def backR (ρ0 ρ : Env') : List Nat → Env'
  | [] => ρ
  | v :: vs => (backR ρ0 ρ vs).set v (ρ0.getD v none)
def setMut (i : Nat) (d : D) (ρ : Env') : Rs Env' := match ρ[i]? with
  | some (some (.own b _)) => .ok (ρ.set i (some (.own b d)))
  | _ => .bad

/-! ### calls -/
def toArg (p : P) (ρ : Env') : Rs A := match p with
  | .val d => .ok (.val d)
  | .own d => .ok (.own d)
  | .at_ i => match ρ[i]? with
    | some (some (.val d)) => .ok (.val d)
    | some (some (.brz d)) => .ok (.val d)
    | some (some (.own _ d)) => .ok (.own d)
    | some (some (.lck _ d)) => .ok (.rd d)
    | _ => .bad
def toArgs : List P → Env' → Rs (List A)
  | [], _ => .ok []
  | p :: ps, ρ => (toArg p ρ).bind fun a => (toArgs ps ρ).bind fun as => .ok (a :: as)
def ats : List P → List Nat
  | [] => []
  | .at_ i :: ps => i :: ats ps
  | _ :: ps => ats ps
def backArg (p : P) (a : A) (ρ : Env') : Rs Env' := match p with
  | .at_ i => match ρ[i]? with
    | some (some (.own b _)) => (match a with
      | .own d => .ok (ρ.set i (some (.own b d)))
      | .val d => .ok (ρ.set i (some (thaw b d)))
      | .rd _ => .bad)
    | _ => .ok ρ
  | _ => .ok ρ
def backArgs : List P → List A → Env' → Rs Env'
  | [], _, ρ => .ok ρ
  | p :: ps, a :: as, ρ => (backArg p a ρ).bind (backArgs ps as)
  | _ :: _, [], _ => .bad
def Re.p : Re → P
  | .val d => .val d
  | .own d => .own d
def doCall (F : Fn) (f : Str) (ps : List P) (ρ : Env') : Rs (P × Env') :=
  need ((ats ps).Nodup) ((toArgs ps ρ).bind fun as => (F.call f (as ++ (F.dfl f ps.length).map .val)).bind fun r => (backArgs ps r.2 ρ).bind fun ρ' => .ok (r.1.p, ρ'))

/-! ### loops -/
def rng (lo : Int) (n : Nat) : List D := (List.range n).map fun k => .int (lo + (k : Nat))
def inR (i : Int) : Prop := -(2 ^ 62) ≤ i ∧ i < 2 ^ 62
instance {i : Int} : Decidable (inR i) := by unfold inR; infer_instance
/-- the turns of a comprehension: the made item, if any -/
def mapR (f : D → Env' → Rs (Option D × Env')) : List D → Env' → Rs (List D × Env')
  | [], ρ => .ok ([], ρ)
  | d :: ds, ρ => (f d ρ).bind fun r => (mapR f ds r.2).bind fun q => .ok ((match r.1 with | some y => y :: q.1 | none => q.1), q.2)

def pk (p : P) (ρ : Env') : Rs D := .of (peek p ρ)
def pks : List P → Env' → Rs (List D)
  | [], _ => .ok []
  | p :: ps, ρ => (pk p ρ).bind fun d => (pks ps ρ).bind fun ds => .ok (d :: ds)
def zipD : List (List D) → List D
  | [a, b] => (a.zip b).map fun p => .tup [p.1, p.2]
  | [a, b, c] => (a.zip (b.zip c)).map fun p => .tup [p.1, p.2.1, p.2.2]
  | _ => []
def itemss : List D → Rs (List (List D))
  | [.lst a, .lst b] => .ok [a, b]
  | [.tup a, .tup b] => .ok [a, b]
  | [.lst a, .tup b] => .ok [a, b]
  | [.tup a, .lst b] => .ok [a, b]
  | _ => .bad
def enmD (l : List D) : List D := (List.range l.length).zip l |>.map fun p => .tup [.int (p.1 : Nat), p.2]

def asB (r : P × Env') : Rs (Bool × Env') := match r.1 with
  | .val (.bl b) => .ok (b, r.2)
  | _ => .bad
/-! ### running -/
mutual
def ev (F : Fn) : Ex → Env' → Rs (P × Env')
  | .var i, ρ => evVar i ρ
  | .cst d, ρ => .ok (.val d, ρ)
  | .glo x, ρ => (Rs.of (F.glo x)).bind fun d => .ok (.val d, ρ)
  | .bin op a b, ρ => (ev F a ρ).bind fun r => (ev F b r.2).bind fun q => (pk r.1 q.2).bind fun x => (pk q.1 q.2).bind fun y => (dBin op x y).bind fun p => .ok (p, q.2)
  | .neg a, ρ => (ev F a ρ).bind fun r => (pk r.1 r.2).bind fun x => match x with
    | .int i => .ok (.val (.int (-i)), r.2)
    | _ => .bad
  | .cmp op a b, ρ => (ev F a ρ).bind fun r => (ev F b r.2).bind fun q => (pk r.1 q.2).bind fun x => (pk q.1 q.2).bind fun y => (dCmp op x y).bind fun c => .ok (.val (.bl c), q.2)
  | .chn op op' a b c, ρ => (ev F a ρ).bind fun r => (ev F b r.2).bind fun q => (pk r.1 q.2).bind fun x => (pk q.1 q.2).bind fun y => (dCmp op x y).bind fun k =>
      match k with
      | false => .ok (.val (.bl false), q.2)
      | true => (ev F c q.2).bind fun u => (pk q.1 u.2).bind fun y' => (pk u.1 u.2).bind fun z => (dCmp op' y' z).bind fun k' => .ok (.val (.bl k'), u.2)
  | .and_ l, ρ => (evAnd F l ρ).bind fun r => .ok (.val (.bl r.1), r.2)
  | .or_ l, ρ => (evOr F l ρ).bind fun r => .ok (.val (.bl r.1), r.2)
  | .not_ a, ρ => (ev F a ρ).bind fun r0 => (asB r0).bind fun r => .ok (.val (.bl (!r.1)), r.2)
  | .ite c a b, ρ => (evT F c ρ).bind fun r => match r.1 with
    | true => ev F a r.2
    | false => ev F b r.2
  | .tup l, ρ => (evs F l ρ).bind fun r => (Rs.of (toDs r.1 r.2)).bind fun q => need (q.1.length ≤ sizeLine) (.ok (.val (.tup q.1), q.2))
  | .lst l, ρ => (evs F l ρ).bind fun r => (Rs.of (toDs r.1 r.2)).bind fun q => need (q.1.length ≤ sizeLine) (.ok (.own (.lst q.1), q.2))
  | .idx a i, ρ => (ev F a ρ).bind fun r => (ev F i r.2).bind fun q => (pk r.1 q.2).bind fun x => (pk q.1 q.2).bind fun y => (dIdx x y).bind fun d => .ok (.val d, q.2)
  | .slc a lo hi, ρ => (ev F a ρ).bind fun r => (evo F lo r.2).bind fun u => (evo F hi u.2).bind fun w => (pk r.1 w.2).bind fun x => (dSlc x u.1 w.1).bind fun p => .ok (p, w.2)
  | .call f l, ρ => (evs F l ρ).bind fun r => doCall F f r.1 r.2
  | .blt b l, ρ => (evs F l ρ).bind fun r => (pks r.1 r.2).bind fun ds => (dBl b ds).bind fun p => .ok (p, r.2)
  | .isi t a, ρ => (ev F a ρ).bind fun r => (pk r.1 r.2).bind fun x => (isTy t x).bind fun b => .ok (.val (.bl b), r.2)
  | .met m o l, ρ => (ev F o ρ).bind fun r => (pk r.1 r.2).bind fun d0 => need (hasTy m d0 = true) <| (evs F l r.2).bind fun q => (pk r.1 q.2).bind fun x => (pks q.1 q.2).bind fun ds => (dMe m x ds).bind fun p => .ok (p, q.2)
  | .chg m i l, ρ => (evVar i ρ).bind fun r => (pk r.1 r.2).bind fun d0 => need (isLst d0 = true) <| (evs F l r.2).bind fun q => (Rs.of (toDs q.1 q.2)).bind fun t => match t.2[i]? with
    | some (some (.own b d)) => (dMm m d t.1).bind fun y => .ok (.val y.1, t.2.set i (some (.own b y.2)))
    | _ => .bad
  | .comp elt tg it ifs own, ρ => (evi F it ρ).bind fun r =>
      (mapR (fun d ρ1 => (asgT tg d (wipeR ρ1 own)).bind fun ρ2 => (evc F ifs ρ2).quiet.bind fun c => match c.1 with
        | true => (ev F elt c.2).quiet.bind fun p => (Rs.of (toD p.1 p.2)).bind fun y => .ok (some y.1, y.2)
        | false => .ok (none, c.2)) r.1.1 (wipeR (lockP r.1.2 r.2).2 own)).bind fun q =>
      (unlock (lockP r.1.2 r.2).1 (backR (lockP r.1.2 r.2).2 q.2 own)).bind fun ρ' => need (q.1.length < sizeLine) (.ok (.own (.lst q.1), ρ'))
def evs (F : Fn) : Exs → Env' → Rs (List P × Env')
  | .nil, ρ => .ok ([], ρ)
  | .cons e l, ρ => (ev F e ρ).bind fun r => (evs F l r.2).bind fun q => .ok (r.1 :: q.1, q.2)
/-- a slice's part -/
def evo (F : Fn) : Eo → Env' → Rs (Option Int × Env')
  | .none, ρ => .ok (none, ρ)
  | .some e, ρ => (ev F e ρ).bind fun r => (pk r.1 r.2).bind fun x => match x with
    | .int i => .ok (some i, r.2)
    | _ => .bad
/-- a clause's test -/
def evc (F : Fn) : To → Env' → Rs (Bool × Env')
  | .none, ρ => .ok (true, ρ)
  | .some t, ρ => evT F t ρ
/-- a test -/
def evT (F : Fn) : Tx → Env' → Rs (Bool × Env')
  | .val e, ρ => (ev F e ρ).bind fun r => (pk r.1 r.2).bind fun x => (truth x).bind fun b => .ok (b, r.2)
  | .cmp op a b, ρ => (ev F a ρ).bind fun r => (ev F b r.2).bind fun q => (pk r.1 q.2).bind fun x => (pk q.1 q.2).bind fun y => (dCmp op x y).bind fun c => .ok (c, q.2)
  | .chn op op' a b c, ρ => (ev F a ρ).bind fun r => (ev F b r.2).bind fun q => (pk r.1 q.2).bind fun x => (pk q.1 q.2).bind fun y => (dCmp op x y).bind fun k =>
      match k with
      | false => .ok (false, q.2)
      | true => (ev F c q.2).bind fun u => (pk q.1 u.2).bind fun y' => (pk u.1 u.2).bind fun z => (dCmp op' y' z).bind fun k' => .ok (k', u.2)
  | .and_ l, ρ => evTAnd F l ρ
  | .or_ l, ρ => evTOr F l ρ
  | .not_ a, ρ => (evT F a ρ).bind fun r => .ok (!r.1, r.2)
/-- bools joined by and, or; l is not empty -/
def evAnd (F : Fn) : Exs → Env' → Rs (Bool × Env')
  | .nil, ρ => .ok (true, ρ)
  | .cons e l, ρ => (ev F e ρ).bind fun r0 => (asB r0).bind fun r => match r.1 with
    | true => evAnd F l r.2
    | false => .ok (false, r.2)
def evOr (F : Fn) : Exs → Env' → Rs (Bool × Env')
  | .nil, ρ => .ok (false, ρ)
  | .cons e l, ρ => (ev F e ρ).bind fun r0 => (asB r0).bind fun r => match r.1 with
    | true => .ok (true, r.2)
    | false => evOr F l r.2
def evTAnd (F : Fn) : Txs → Env' → Rs (Bool × Env')
  | .nil, ρ => .ok (true, ρ)
  | .cons e l, ρ => (evT F e ρ).bind fun r => match r.1 with
    | true => evTAnd F l r.2
    | false => .ok (false, r.2)
def evTOr (F : Fn) : Txs → Env' → Rs (Bool × Env')
  | .nil, ρ => .ok (false, ρ)
  | .cons e l, ρ => (evT F e ρ).bind fun r => match r.1 with
    | true => .ok (true, r.2)
    | false => evTOr F l r.2
/-- what a loop walks: the items, the locked slot -/
def evi (F : Fn) : Ie → Env' → Rs ((List D × P) × Env')
  | .seq e, ρ => (ev F e ρ).bind fun r => (pk r.1 r.2).bind fun x => (items x).bind fun l => .ok ((l, r.1), r.2)
  | .rng a, ρ => (ev F a ρ).bind fun r => match r.1 with
    | .val (.int j) => need (inR j) (.ok ((rng 0 j.toNat, .val .non), r.2))
    | _ => .bad
  | .rng2 a b, ρ => (ev F a ρ).bind fun r => (ev F b r.2).bind fun q => match r.1, q.1 with
    | .val (.int i), .val (.int j) => need (inR i ∧ inR j) (.ok ((rng i (j - i).toNat, .val .non), q.2))
    | _, _ => .bad
  | .enm e, ρ => (ev F e ρ).bind fun r => (pk r.1 r.2).bind fun x => (itemsL x).bind fun l => .ok ((enmD l, r.1), r.2)
  | .zip l, ρ => (evs F l ρ).bind fun r => (Rs.of (toDs r.1 r.2)).bind fun q => (itemss q.1).bind fun t => .ok ((zipD t, .val .non), q.2)
end
end
end Dv

set_option Elab.async false
set_option linter.all false
set_option maxRecDepth 100000
namespace Dv
open PySem PySem.Spec PyProof.Rows L2

/-- an own exception's class: its fields, of which classes it is one -/
structure ErC where
  nm : Str
  fl : List Str
  sub : List (Str × Bool)
  deriving DecidableEq
noncomputable section
mutual
/-- what an except suite says: j = the exception's slot's own name is never read but by fld, isx -/
inductive Hx where
  | cst (d : D)
  | var (i : Nat)
  | fld (f : Str)
  | tup (l : Hxs)
inductive Hxs where
  | nil
  | cons (e : Hx) (l : Hxs)
end
mutual
inductive Ht where
  | isx (c : Str)
  | isxs (cs : List Str)
  | ty (t : Ty) (x : Hx)
  | isI (f : Str) (x : Hx)
  | not_ (t : Ht)
  | and_ (l : Hts)
  | or_ (l : Hts)
inductive Hts where
  | nil
  | cons (t : Ht) (l : Hts)
end
mutual
inductive Hs where
  | ret (e : Hx)
  | ite (t : Ht) (b : Hss)
  | app (j : Nat) (e : Hx)
inductive Hss where
  | nil
  | cons (s : Hs) (l : Hss)
end
mutual
inductive Sx where
  | set (i : Nat) (e : Ex)
  | setT (l : List Nat) (e : Ex)
  | par (i j : Nat) (a b : Ex)
  | setI (i : Nat) (ix e : Ex)
  | parI (i : Nat) (ix1 : Ex) (j : Nat) (ix2 : Ex) (a b : Ex)
  | aug (i : Nat) (op : Operator) (e : Ex)
  | augI (i : Nat) (op : Operator) (ix e : Ex)
  | expr (e : Ex)
  | ret (e : Ex)
  | retN
  | ite (c : Tx) (a b : Sxs)
  | whl (c : Tx) (b : Sxs)
  | for_ (tg : Tg) (it : Ie) (b : Sxs)
  | brk
  | cnt
  | pass
  | rz (c : Str) (fs : List Str) (es : Exs)
  | tr_ (b : Tbs) (tab : List ErC) (c : Str) (i : Nat) (h : Hss)
  | bad
inductive Sxs where
  | nil
  | cons (s : Sx) (l : Sxs)
  | ali (c : Tx) (x y : Nat) (f : Str) (is : List Nat)
/-- a try's body: what may raise (its value is stored), what raises nothing, a choice -/
inductive Tb where
  | thr (o : Option Nat) (e : Ex)
  | qt (s : Sx)
  | ite (c : Tx) (a b : Tbs)
inductive Tbs where
  | nil
  | cons (t : Tb) (l : Tbs)
end
inductive Fl where
  | nx | bk | ct | rt (p : P)

def whileR (t : Env' → Rs (Bool × Env')) (b : Env' → Rs (Fl × Env')) : Nat → Env' → Rs (Fl × Env')
  | 0, _ => .bad
  | n + 1, ρ => (t ρ).bind fun r => match r.1 with
    | false => .ok (.nx, r.2)
    | true => (b r.2).bind fun q => match q.1 with
      | .nx => whileR t b n q.2
      | .ct => whileR t b n q.2
      | .bk => .ok (.nx, q.2)
      | .rt p => .ok (.rt p, q.2)
def forR (f : D → Env' → Rs (Fl × Env')) : List D → Env' → Rs (Fl × Env')
  | [], ρ => .ok (.nx, ρ)
  | d :: ds, ρ => (f d ρ).bind fun q => match q.1 with
      | .nx => forR f ds q.2
      | .ct => forR f ds q.2
      | .bk => .ok (.nx, q.2)
      | .rt p => .ok (.rt p, q.2)
/-- behind a loop: the walked slot is set free, if the loop was not left by return -/
def endFor (o : Option Nat) (q : Fl × Env') : Rs (Fl × Env') := match q.1 with
  | .rt p => .ok (.rt p, q.2)
  | _ => (unlock o q.2).bind fun ρ => .ok (.nx, ρ)
def dAug : Operator → D → D → Rs D
  | .Add, .int i, .int j => .ok (.int (i + j))
  | .Sub, .int i, .int j => .ok (.int (i - j))
  | .Add, .str x, .str y => need (x.length + y.length ≤ sizeLine) (.ok (.str (x ++ y)))
  | _, _, _ => .bad
def dSet : D → D → D → Rs D
  | .lst l, .int k, d => (Rs.of (ixN l.length k)).bind fun j => .ok (.lst (l.set j d))
  | _, _, _ => .bad
def mutSlot (i : Nat) (ρ : Env') (f : D → Rs D) : Rs Env' := match ρ[i]? with
  | some (some (.own b d)) => (f d).bind fun d' => .ok (ρ.set i (some (.own b d')))
  | _ => .bad

/-! ### exceptions -/
mutual
/-- no list in it -/
def noL : D → Bool
  | .tup l => noLs l
  | .lst _ => false
  | .dic _ _ => false
  | .scr _ => false
  | _ => true
def noLs : List D → Bool
  | [] => true
  | d :: ds => noL d && noLs ds
end
def S.lock : S → S
  | .own b d => .lck b d
  | s => s
def lockA (ρ : Env') : Env' := ρ.map fun o => o.map S.lock
def erOf (tab : List ErC) (er : Er) : Rs ErC := Rs.of (tab.find? fun p => decide (p.nm = er.cls ∧ er.val.map (·.1) = p.fl.reverse))
def erIs (p : ErC) (c : Str) : Rs Bool := Rs.of (p.sub.lookup c)
def erAny (p : ErC) : List Str → Rs Bool
  | [] => .ok false
  | c :: cs => (erIs p c).bind fun b => (erAny p cs).bind fun r => .ok (b || r)
mutual
def eh (er : Er) : Hx → Env' → Rs D
  | .cst d, _ => .ok d
  | .var i, ρ => match ρ[i]? with
    | some (some (.val d)) => .ok d
    | _ => .bad
  | .fld f, _ => Rs.of (er.val.lookup f)
  | .tup l, ρ => (ehs er l ρ).bind fun ds => need (ds.length ≤ sizeLine) (.ok (.tup ds))
def ehs (er : Er) : Hxs → Env' → Rs (List D)
  | .nil, _ => .ok []
  | .cons e l, ρ => (eh er e ρ).bind fun d => (ehs er l ρ).bind fun ds => .ok (d :: ds)
end
mutual
def et (er : Er) (p : ErC) : Ht → Env' → Rs Bool
  | .isx c, _ => erIs p c
  | .isxs cs, _ => erAny p cs
  | .ty t x, ρ => (eh er x ρ).bind (isTy t)
  | .isI _ x, ρ => (eh er x ρ).bind fun d => (isTy .int d).bind fun a => (isTy .bool d).bind fun b => .ok (a && !b)
  | .not_ t, ρ => (et er p t ρ).bind fun b => .ok (!b)
  | .and_ l, ρ => etAnd er p l ρ
  | .or_ l, ρ => etOr er p l ρ
def etAnd (er : Er) (p : ErC) : Hts → Env' → Rs Bool
  | .nil, _ => .ok true
  | .cons t l, ρ => (et er p t ρ).bind fun b => match b with
    | true => etAnd er p l ρ
    | false => .ok false
def etOr (er : Er) (p : ErC) : Hts → Env' → Rs Bool
  | .nil, _ => .ok false
  | .cons t l, ρ => (et er p t ρ).bind fun b => match b with
    | true => .ok true
    | false => etOr er p l ρ
end
mutual
def esH (er : Er) (p : ErC) : Hs → Env' → Rs (Fl × Env')
  | .ret e, ρ => (eh er e ρ).bind fun d => .ok (.rt (.val d), ρ)
  | .ite t b, ρ => (et er p t ρ).bind fun k => match k with
    | true => essH er p b ρ
    | false => .ok (.nx, ρ)
  | .app j e, ρ => (eh er e ρ).bind fun d => (mutSlot j ρ fun x => (dMm .append x [d]).bind fun y => .ok y.2).bind fun ρ' => .ok (.nx, ρ')
def essH (er : Er) (p : ErC) : Hss → Env' → Rs (Fl × Env')
  | .nil, ρ => .ok (.nx, ρ)
  | .cons s l, ρ => (esH er p s ρ).bind fun q => match q.1 with
    | .nx => essH er p l q.2
    | _ => .ok q
end
/-- a try's body's end: as a statement's, or an error, and the slots at that time -/
inductive Tr where
  | fin (q : Fl × Env')
  | thr (er : Er) (ρ : Env')
/-- no break, no continue -/
def noJump (q : Fl × Env') : Rs (Fl × Env') := match q.1 with
  | .bk => .bad
  | .ct => .bad
  | _ => .ok q
/-- behind a try's body -/
def catch_ (tab : List ErC) (c : Str) (i : Nat) (h : Hss) : Tr → Rs (Fl × Env')
  | .fin q => .ok q
  | .thr er ρ => (erOf tab er).bind fun p => (erIs p c).bind fun k => match k with
    | true => need (freeSlot i ρ = true) ((essH er p h (ρ.set i none)).quiet.bind noJump)
    | false => .err er
/-- names handed on, x a second name of y's object -/
def aliV (x y : Nat) (is : List Nat) : List Nat := is.map fun i => if i = x then y else i
def vars : List Nat → Exs
  | [] => .nil
  | i :: is => .cons (.var i) (vars is)
def aliC (F : Fn) (f : Str) (is : List Nat) (ρ : Env') : Rs (Fl × Env') := (evs F (vars is) ρ).quiet.bind fun r => (doCall F f r.1 r.2).quiet.bind fun q => .ok (.rt q.1, q.2)
mutual
def ex (F : Fn) (N : Nat) : Sx → Env' → Rs (Fl × Env')
  | .set i e, ρ => (ev F e ρ).bind fun r => (asgP i r.1 r.2).bind fun ρ' => .ok (.nx, ρ')
  | .setT l e, ρ => (ev F e ρ).bind fun r => match r.1 with
    | .val (.tup ds) => (putVs l ds r.2).bind fun ρ' => .ok (.nx, ρ')
    | _ => .bad
  | .par i j a b, ρ => (ev F a ρ).bind fun r => (ev F b r.2).bind fun q => match r.1, q.1 with
    | .val x, .val y => (putVs [i, j] [x, y] q.2).bind fun ρ' => .ok (.nx, ρ')
    | _, _ => .bad
  | .setI i ix e, ρ => (ev F e ρ).bind fun r => (evVar i r.2).bind fun o => (ev F ix o.2).bind fun q => (Rs.of (toD r.1 q.2)).bind fun t => (pk q.1 t.2).bind fun k =>
      (mutSlot i t.2 fun d => dSet d k t.1).bind fun ρ' => .ok (.nx, ρ')
  | .parI i ix1 j ix2 a b, ρ => (ev F (.tup (.cons a (.cons b .nil))) ρ).bind fun r => match r.1 with
    | .val (.tup [x, y]) => (evVar i r.2).bind fun o => (ev F ix1 o.2).bind fun q => (pk q.1 q.2).bind fun k => (mutSlot i q.2 fun d => dSet d k x).bind fun ρ1 =>
        (evVar j ρ1).bind fun o2 => (ev F ix2 o2.2).bind fun q2 => (pk q2.1 q2.2).bind fun k2 => (mutSlot j q2.2 fun d => dSet d k2 y).bind fun ρ2 => .ok (.nx, ρ2)
    | _ => .bad
  | .aug i op e, ρ => match ρ[i]? with
    | some (some (.val x)) => (ev F e ρ).bind fun r => (pk r.1 r.2).bind fun y => (dAug op x y).bind fun z => (putV i z r.2).bind fun ρ' => .ok (.nx, ρ')
    | _ => .bad
  | .augI i op ix e, ρ => (evVar i ρ).bind fun o => (ev F ix o.2).bind fun q => (pk o.1 q.2).bind fun x => need (isLst x = true) <| (pk q.1 q.2).bind fun k => (dIdx x k).bind fun u => (ev F e q.2).bind fun r => (pk r.1 r.2).bind fun y =>
      (dAug op u y).bind fun z => (mutSlot i r.2 fun d => dSet d k z).bind fun ρ' => .ok (.nx, ρ')
  | .expr e, ρ => (ev F e ρ).bind fun r => .ok (.nx, r.2)
  | .ret e, ρ => (ev F e ρ).bind fun r => .ok (.rt r.1, r.2)
  | .retN, ρ => .ok (.rt (.val .non), ρ)
  | .ite c a b, ρ => (evT F c ρ).bind fun r => match r.1 with
    | true => exs F N a r.2
    | false => exs F N b r.2
  | .whl c b, ρ => whileR (evT F c) (exs F N b) N ρ
  | .for_ tg it b, ρ => (evi F it ρ).bind fun r => (forR (fun d ρ1 => (asgT tg d ρ1).bind (exs F N b)) r.1.1 (lockP r.1.2 r.2).2).bind (endFor (lockP r.1.2 r.2).1)
  | .brk, ρ => .ok (.bk, ρ)
  | .cnt, ρ => .ok (.ct, ρ)
  | .pass, ρ => .ok (.nx, ρ)
  | .rz c fs es, ρ => (evs F es ρ).bind fun r => (Rs.of (toDs r.1 r.2)).bind fun q => need (q.1.length = fs.length ∧ noLs q.1 = true) (.err ⟨c, (fs.zip q.1).reverse⟩)
  | .tr_ b tab c i h, ρ => (exT F N b ρ).quiet.bind (catch_ tab c i h)
  | .bad, _ => .bad
def exs (F : Fn) (N : Nat) : Sxs → Env' → Rs (Fl × Env')
  | .nil, ρ => .ok (.nx, ρ)
  | .cons s l, ρ => (ex F N s ρ).bind fun q => match q.1 with
    | .nx => exs F N l q.2
    | _ => .ok q
  | .ali c x y f is, ρ => (evT F c ρ).bind fun r => match r.1 with
    | true => (evVar y r.2).bind fun _ => need (freeSlot x r.2 = true) (aliC F f (aliV x y is) r.2)
    | false => aliC F f is r.2
def exT (F : Fn) (N : Nat) : Tbs → Env' → Rs Tr
  | .nil, ρ => .ok (.fin (.nx, ρ))
  | .cons t l, ρ => (exT1 F N t ρ).bind fun q => match q with
    | .fin (.nx, ρ') => exT F N l ρ'
    | q => .ok q
def exT1 (F : Fn) (N : Nat) : Tb → Env' → Rs Tr
  | .thr o e, ρ => match ev F e (lockA ρ) with
    | .ok (.val d, ρ1) => need (ρ1 = lockA ρ) (match o with
      | none => .ok (.fin (.nx, ρ))
      | some i => (putV i d ρ).bind fun ρ' => .ok (.fin (.nx, ρ')))
    | .ok _ => .bad
    | .err er => .ok (.thr er ρ)
    | .bad => .bad
  | .qt s, ρ => (ex F N s ρ).quiet.bind fun q => .ok (.fin q)
  | .ite c a b, ρ => (evT F c ρ).quiet.bind fun r => match r.1 with
    | true => exT F N a r.2
    | false => exT F N b r.2
end

/-! ### a def -/
def A.slot : A → S
  | .val d => .val d
  | .own d => .own true d
  | .rd d => .lck true d
def envOf (n : Nat) (as : List A) : Env' := as.map (fun a => some a.slot) ++ List.replicate (n - as.length) none
def retOf (p : P) (ρ : Env') : Rs (Re × Env') := match p with
  | .val d => .ok (.val d, ρ)
  | .own d => .ok (.own d, ρ)
  | .at_ i => match ρ[i]? with
    | some (some (.own false d)) => .ok (.own d, ρ.set i none)
    | some (some (.own true d)) => .ok (.val d, ρ.set i (some (.brz d)))
    | _ => .bad
def outArg (a : A) (o : Option (Option S)) : Rs A := match a with
  | .val d => .ok (.val d)
  | .rd d => .ok (.rd d)
  | .own _ => match o with
    | some (some (.own true d)) => .ok (.own d)
    | some (some (.lck true d)) => .ok (.own d)
    | some (some (.brz d)) => .ok (.val d)
    | _ => .bad
def outArgs : List A → Env' → Rs (List A)
  | [], _ => .ok []
  | a :: as, ρ => (outArg a ρ.head?).bind fun x => (outArgs as ρ.tail).bind fun r => .ok (x :: r)
def finish (as : List A) (q : Fl × Env') : Rs (Re × List A) := match q.1 with
  | .nx => (outArgs as q.2).bind fun r => .ok (.val .non, r)
  | .rt p => (retOf p q.2).bind fun t => (outArgs as t.2).bind fun r => .ok (t.1, r)
  | _ => .bad
/-- n: the number of the def's slots -/
def runDef (F : Fn) (N n : Nat) (body : Sxs) (as : List A) : Rs (Re × List A) := (exs F N body (envOf n as)).bind (finish as)
end
end Dv

set_option Elab.async false
set_option linter.all false
set_option maxRecDepth 100000
namespace Dv
open PySem PySem.Spec PyProof.Rows L2

/-! ### data and the library's data -/
section
variable {K : PySem.W.Frag} {H : Hp} {W : AS}
mutual
theorem RepD.dp : ∀ {d : D} {v : V}, RepD K H W v d → (toPy d).canLay0 = true → Dp K H v (toPy d)
  | .non, _, h, _ => by rw [show _ = V.non from h]; exact .non
  | .bl b, _, h, _ => by rw [show _ = V.bl b from h]; exact .bl b
  | .int b, _, h, _ => by rw [show _ = V.int b from h]; exact .int b
  | .str b, _, h, _ => by rw [show _ = V.str b from h]; exact .str b
  | .tup l, _, h, c => by
    obtain ⟨a, vs, rfl, q, r⟩ := h
    exact .tup q.sq (RepDs.dp r (by simpa [toPy, PyData.canLay0] using c))
  | .lst l, _, h, c => by
    obtain ⟨a, vs, rfl, q, _, r⟩ := h
    exact .lst (.of q) (RepDs.dp r (by simpa [toPy, PyData.canLay0] using c))
  | .dic _ _, _, _, c => by simp [toPy, PyData.canLay0] at c
  | .scr _, _, _, c => by simp [toPy, PyData.canLay0] at c
theorem RepDs.dp : ∀ {ds : List D} {vs : List V}, RepDs K H W vs ds → PyData.canLayAll0 (toPys ds) = true → DpAll K H vs (toPys ds)
  | [], _, h, _ => by rw [show _ = [] from h]; exact .nil
  | d :: ds, _, h, c => by
    obtain ⟨v, r, rfl, a, b⟩ := h
    have c' : (toPy d).canLay0 = true ∧ PyData.canLayAll0 (toPys ds) = true := by simpa [toPys, PyData.canLayAll0] using c
    exact .cons (RepD.dp a c'.1) (RepDs.dp b c'.2)
end
theorem lay_of {d : D} (h : shp d = true) : (toPy d).canLay0 = true := by
  unfold shp SeqAt.shaped at h
  exact (Bool.and_eq_true_iff.mp h).1
theorem RepK.dp {d : D} {v : V} (h : RepK K H W v d) (c : shp d = true) : Dp K H v (toPy d) := by
  rcases h with ⟨a, o, rfl, e, q⟩ | h
  · cases d with
    | lst l =>
      obtain ⟨vs, rfl, r⟩ := q
      exact .lst (.of e) (RepDs.dp r (by simpa [toPy, PyData.canLay0] using lay_of c))
    | dic ks l =>
      have := lay_of c
      simp [toPy, PyData.canLay0] at this
    | _ => exact q.elim
  · exact h.dp (lay_of c)
theorem toPys_map : ∀ l : List D, toPys l = l.map toPy
  | [] => rfl
  | d :: l => by rw [toPys, toPys_map l]; rfl
theorem any_py (l : List D) (x : D) : (toPys l).any (fun z => PyData.eqv z (toPy x)) = l.any fun z => deq z x := by
  rw [toPys_map, List.any_map]
  rfl

/-- what is wanted of a result -/
def ResQ (K : PySem.W.Frag) (H : Hp) (W : AS) (p : P) (Q : VK) : Prop := match p with
  | .val d => ∀ v H', (H' = H ∨ ∃ a vs, H a = none ∧ H' = upd H a (.tup vs)) → RepD K H' W v d → Q v H'
  | .own d => ∀ a o, H a = none → RepO K H W o d → Q (.ref a) (upd H a o)
  | .at_ _ => False
theorem adv_new {H : Hp} {W : AS} {a : Addr} {o : HO} (n : H a = none) : Adv H W (upd H a o) W := fun b u e w => ⟨by rw [upd_ne (ne_of_none e n)]; exact e, w⟩
theorem ResQ.tup {l : List D} {Q : VK} (h : ResQ K H W (.val (.tup l)) Q) (wl : WL H W) {vs : List V} (r : RepDs K H W vs l) {a : Addr} (n : H a = none) : Q (.ref a) (upd H a (.tup vs)) :=
  h _ _ (.inr ⟨a, vs, n, rfl⟩) ⟨a, vs, rfl, .of upd_same, r.adv wl (adv_new n)⟩
theorem ResQ.flat {d : D} {Q : VK} (h : ResQ K H W (.val d) Q) {v : V} (r : RepD K H W v d) : Q v H := h v H (.inl rfl) r
theorem ResQ.lst {l : List D} {Q : VK} (h : ResQ K H W (.own (.lst l)) Q) {vs : List V} (r : RepDs K H W vs l) {a : Addr} (n : H a = none) : Q (.ref a) (upd H a (.lst vs)) := h a _ n ⟨vs, rfl, r⟩
end

/-! ### operators, by values -/
section
variable {X : Cx}
theorem op_fdivX : OpR X (binaryOp .FloorDiv) (rI CDvX fun i j => .int (i.fdiv j)) := opI fun _ _ _ _ _ _ _ hc q => floordiv_int hc.1 q (.inl hc.2)
theorem op_mul_str : OpR X (binaryOp .Mult) (fun x y H Q => ∃ a n, x = .str a ∧ y = .int n ∧ MulOk a n ∧ Q (.str (Txt.mul a n)) H) := by
  intro pins s σ H x y v u Q I rx ry h
  obtain ⟨a, n, rfl, rfl, c, q⟩ := h
  obtain ⟨t, rfl⟩ := rx
  obtain ⟨t', rfl⟩ := ry
  exact SB.mul c fun t' k => ⟨.str _, H, I.tok _, ⟨_, rfl⟩, q⟩
def rB (K : PySem.W.Frag) : Operator → R2
  | .Add => fun x y H Q => rI0 (fun i j => .int (i + j)) x y H Q ∨ (∃ i j, x = .str i ∧ y = .str j ∧ i.length + j.length ≤ sizeLine ∧ Q (.str (i ++ j)) H) ∨ rCat x y H Q ∨ rCatA K x y H Q
  | .Sub => rI0 fun i j => .int (i - j)
  | .Mult => fun x y H Q => rI CMulX (fun i j => .int (i * j)) x y H Q ∨ rRep x y H Q ∨ ∃ a n, x = .str a ∧ y = .int n ∧ MulOk a n ∧ Q (.str (Txt.mul a n)) H
  | .FloorDiv => rI CDvX fun i j => .int (i.fdiv j)
  | .Mod => rI (fun _ j => j ≠ 0) fun i j => .int (i.fmod j)
  | .Pow => rI CPow fun i j => .int (i ^ j.toNat)
  | .LShift => rI CShl fun i j => .int (i * 2 ^ j.toNat)
  | _ => fun _ _ _ _ => False
theorem op_no {f : Value → Value → Sem Value} : OpR X f (fun _ _ _ _ => False) := fun _ _ _ _ _ _ _ _ _ _ _ _ h => h.elim
theorem op_B : ∀ op : Operator, OpR X (binaryOp op) (rB X.K op) := fun op => by
  cases op with
  | Add => exact op_add.or (op_add_str.or (op_cat.or op_catA))
  | Sub => exact op_sub
  | Mult => exact op_mulX.or (op_rep.or op_mul_str)
  | FloorDiv => exact op_fdivX
  | Mod => exact op_modN
  | Pow => exact op_pow
  | LShift => exact op_shlW
  | _ => exact op_no

theorem need_ok {p : Prop} {α : Type} {x : Rs α} {a : α} (h : need p x = .ok a) : p ∧ x = .ok a := by
  unfold need at h
  split at h
  · exact ⟨by assumption, h⟩
  · cases h
theorem need_ne {p : Prop} {α : Type} {x : Rs α} (h : need p x ≠ .bad) : p ∧ need p x = x := by
  unfold need at h ⊢
  split at h
  · rename_i q; exact ⟨q, by rw [if_pos q]⟩
  · exact absurd rfl h
theorem flat_rep {K : PySem.W.Frag} {H : Hp} {W : AS} {vs : List V} {l : List D} (r : RepDs K H W vs l) : ∀ k : Nat, RepDs K H W (List.replicate k vs).flatten (List.replicate k l).flatten
  | 0 => rfl
  | k + 1 => by
    rw [List.replicate_succ, List.replicate_succ, List.flatten_cons, List.flatten_cons]
    exact r.append (flat_rep r k)

theorem bin_ok {K : PySem.W.Frag} {H : Hp} {W : AS} (wl : WL H W) {op : Operator} {x y : V} {d e : D} {p : P} {Q : VK} (hd : RepK K H W x d) (he : RepK K H W y e) (h : dBin op d e = .ok p) (q : ResQ K H W p Q) : rB K op x y H Q := by
  unfold dBin at h
  split at h
  · cases h
    exact .inl ⟨_, _, hd.int, he.int, q.flat rfl⟩
  · obtain ⟨c, h⟩ := need_ok h
    cases h
    exact .inr (.inl ⟨_, _, hd.str, he.str, c, q.flat rfl⟩)
  · obtain ⟨c, h⟩ := need_ok h
    cases h
    obtain ⟨a, vs, rfl, e1, r1⟩ := hd.lst
    obtain ⟨b, us, rfl, e2, r2⟩ := he.lst
    exact .inr (.inr (.inl ⟨a, b, vs, us, rfl, rfl, e1, e2, by rw [r1.length, r2.length]; exact c, fun p n => q.lst (r1.append r2) n⟩))
  · obtain ⟨c, h⟩ := need_ok h
    cases h
    obtain ⟨a, vs, rfl, e1, r1⟩ := hd.tup
    obtain ⟨b, us, rfl, e2, r2⟩ := he.tup
    refine .inr (.inr (.inr ⟨a, b, vs, us, rfl, rfl, e1.sq, e2.sq, by rw [r1.length, r2.length]; exact c, fun z => ?_, fun _ z => ?_, fun _ _ p n => q.tup wl (r1.append r2) n⟩))
    · have e0 := r1.length
      rw [z] at e0
      have e3 := List.length_eq_zero_iff.mp e0.symm
      subst e3
      rw [List.nil_append] at q
      exact q.flat ⟨b, us, rfl, e2, r2⟩
    · have e0 := r2.length
      rw [z] at e0
      have e3 := List.length_eq_zero_iff.mp e0.symm
      subst e3
      rw [List.append_nil] at q
      exact q.flat ⟨a, vs, rfl, e1, r1⟩
  · cases h
    exact ⟨_, _, hd.int, he.int, q.flat rfl⟩
  · obtain ⟨c, h⟩ := need_ok h
    cases h
    exact .inl ⟨_, _, hd.int, he.int, c, q.flat rfl⟩
  · obtain ⟨⟨c1, c2, c3⟩, h⟩ := need_ok h
    cases h
    obtain ⟨a, vs, rfl, e1, r1⟩ := hd.lst
    exact .inr (.inl ⟨a, _, vs, rfl, he.int, e1, c1, c2, by rw [r1.length]; exact c3, fun p n => q.lst (flat_rep r1 _) n⟩)
  · obtain ⟨c, h⟩ := need_ok h
    cases h
    exact .inr (.inr ⟨_, _, hd.str, he.int, c, q.flat rfl⟩)
  · obtain ⟨c, h⟩ := need_ok h
    cases h
    exact ⟨_, _, hd.int, he.int, c, q.flat rfl⟩
  · obtain ⟨c, h⟩ := need_ok h
    cases h
    exact ⟨_, _, hd.int, he.int, c, q.flat rfl⟩
  · obtain ⟨c, h⟩ := need_ok h
    cases h
    exact ⟨_, _, hd.int, he.int, c, q.flat rfl⟩
  · obtain ⟨c, h⟩ := need_ok h
    cases h
    exact ⟨_, _, hd.int, he.int, c, q.flat rfl⟩
  · cases h

/-! ### comparisons, by values -/
def rInT (K : PySem.W.Frag) : R2 := fun x y H Q => ∃ d ds, Dp K H x d ∧ Dp K H y (.tuple ds) ∧ SeqAt.shaped d = true ∧ SeqAt.shaped (.tuple ds) = true ∧ Q (.bl (ds.any fun z => PyData.eqv z d)) H
def rNotInT (K : PySem.W.Frag) : R2 := fun x y H Q => ∃ d ds, Dp K H x d ∧ Dp K H y (.tuple ds) ∧ SeqAt.shaped d = true ∧ SeqAt.shaped (.tuple ds) = true ∧ Q (.bl (!ds.any fun z => PyData.eqv z d)) H
theorem op_inT (hu : X.A.units + 65 < cLine) : OpR X (compareOp .In) (rInT X.K) := by
  intro pins s σ H x y v u Q I rx ry h
  obtain ⟨d, ds, hd, he, sd, se, q⟩ := h
  obtain ⟨as, r1⟩ := Dp.reads I d x v hd rx
  obtain ⟨bs, r2⟩ := Dp.reads I (.tuple ds) y u he ry
  exact SeqAt.in_tuple_reads r2 r1 (SeqAt.canLay_of_shaped (d := .tuple ds) se) (SeqAt.canLay_of_shaped sd) (room_in_shaped sd hu) ⟨.bl _, H, I, rfl, q⟩
theorem op_notInT (hu : X.A.units + 65 < cLine) : OpR X (compareOp .NotIn) (rNotInT X.K) := by
  intro pins s σ H x y v u Q I rx ry h
  obtain ⟨d, ds, hd, he, sd, se, q⟩ := h
  obtain ⟨as, r1⟩ := Dp.reads I d x v hd rx
  obtain ⟨bs, r2⟩ := Dp.reads I (.tuple ds) y u he ry
  exact SeqAt.notIn_tuple_reads r2 r1 (SeqAt.canLay_of_shaped (d := .tuple ds) se) (SeqAt.canLay_of_shaped sd) (room_in_shaped sd hu) ⟨.bl _, H, I, rfl, q⟩
def rInStr : R2 := fun x y H Q => ∃ i j, x = .str i ∧ y = .str j ∧ Q (.bl (!(Builtin.Str.occurrences j i 0 j.length 1).isEmpty)) H
def rNotInStr : R2 := fun x y H Q => ∃ i j, x = .str i ∧ y = .str j ∧ Q (.bl (!(!(Builtin.Str.occurrences j i 0 j.length 1).isEmpty))) H
def rC (K : PySem.W.Frag) : CmpOp → R2
  | .Eq => rEqD K
  | .NotEq => rNeD K
  | .Lt => rI0 fun i j => .bl (decide (i < j))
  | .LtE => rI0 fun i j => .bl (decide (i ≤ j))
  | .Gt => rI0 fun i j => .bl (decide (j < i))
  | .GtE => rI0 fun i j => .bl (decide (j ≤ i))
  | .Is => fun x y H Q => y = .non ∧ Q (.bl (decide (x = .non))) H
  | .IsNot => fun x y H Q => y = .non ∧ Q (.bl (!decide (x = .non))) H
  | .In => fun x y H Q => rInStr x y H Q ∨ rInD K x y H Q ∨ rInT K x y H Q
  | .NotIn => fun x y H Q => rNotInStr x y H Q ∨ rNotInD K x y H Q ∨ rNotInT K x y H Q
theorem op_C (hu : X.A.units + 65 < cLine) : ∀ op : CmpOp, OpR X (compareOp op) (rC X.K op) := fun op => by
  cases op with
  | Eq => exact op_eqD (by omega)
  | NotEq => exact op_neD (by omega)
  | Lt => exact op_lt
  | LtE => exact op_le
  | Gt => exact op_gt
  | GtE => exact op_ge
  | Is => exact op_isN
  | IsNot => exact op_notN
  | In => exact op_in_str.or ((op_inD hu).or (op_inT hu))
  | NotIn => exact op_notin_str.or ((op_notInD hu).or (op_notInT hu))
def isNon : D → Bool
  | .non => true
  | _ => false
theorem non_dec {K : PySem.W.Frag} {H : Hp} {W : AS} {x : V} {d : D} (h : RepK K H W x d) : decide (x = .non) = isNon d := by
  cases d with
  | non => rw [h.non]; rfl
  | bl b => rw [h.bl]; rfl
  | int b => rw [h.int]; rfl
  | str b => rw [h.str]; rfl
  | tup l => obtain ⟨a, vs, rfl, _⟩ := h.tup; rfl
  | lst l => obtain ⟨a, vs, rfl, _⟩ := h.lst; rfl
  | dic ks l => obtain ⟨a, vs, rfl, _⟩ := h.dic; rfl
  | scr l => obtain ⟨a, rfl, _⟩ := h.scr; rfl
theorem in_ok {K : PySem.W.Frag} {H : Hp} {W : AS} {x y : V} {d e : D} {b : Bool} (hd : RepK K H W x d) (he : RepK K H W y e) (h : dIn d e = .ok b) :
    (∀ Q : VK, Q (.bl b) H → rC K .In x y H Q) ∧ ∀ Q : VK, Q (.bl (!b)) H → rC K .NotIn x y H Q := by
  unfold dIn at h
  split at h
  · split at h
    · cases h
      exact ⟨fun Q q => .inl ⟨_, _, hd.str, he.str, q⟩, fun Q q => .inl ⟨_, _, hd.str, he.str, q⟩⟩
    · cases h
  · obtain ⟨⟨c1, c2⟩, h⟩ := need_ok h
    cases h
    have k1 := hd.dp c1
    have k2 := he.dp c2
    rw [← any_py]
    exact ⟨fun Q q => .inr (.inl ⟨_, _, k1, k2, c1, c2, q⟩), fun Q q => .inr (.inl ⟨_, _, k1, k2, c1, c2, q⟩)⟩
  · obtain ⟨⟨c1, c2⟩, h⟩ := need_ok h
    cases h
    have k1 := hd.dp c1
    have k2 := he.dp c2
    rw [← any_py]
    exact ⟨fun Q q => .inr (.inr ⟨_, _, k1, k2, c1, c2, q⟩), fun Q q => .inr (.inr ⟨_, _, k1, k2, c1, c2, q⟩)⟩
  · cases h
theorem cmp_ok {K : PySem.W.Frag} {H : Hp} {W : AS} {op : CmpOp} {x y : V} {d e : D} {b : Bool} {Q : VK} (hd : RepK K H W x d) (he : RepK K H W y e) (h : dCmp op d e = .ok b) (q : Q (.bl b) H) : rC K op x y H Q := by
  unfold dCmp at h
  split at h
  · obtain ⟨⟨c1, c2⟩, h⟩ := need_ok h
    cases h
    exact ⟨_, _, hd.dp c1, he.dp c2, c1, c2, q⟩
  · obtain ⟨⟨c1, c2⟩, h⟩ := need_ok h
    cases h
    exact ⟨_, _, hd.dp c1, he.dp c2, c1, c2, q⟩
  · cases h; exact ⟨_, _, hd.int, he.int, q⟩
  · cases h; exact ⟨_, _, hd.int, he.int, q⟩
  · cases h; exact ⟨_, _, hd.int, he.int, q⟩
  · cases h; exact ⟨_, _, hd.int, he.int, q⟩
  · cases h
    refine ⟨he.non, ?_⟩
    rw [non_dec hd]
    cases d <;> exact q
  · cases h
    refine ⟨he.non, ?_⟩
    rw [non_dec hd]
    cases d <;> exact q
  · exact (in_ok hd he h).1 Q q
  · cases z : dIn d e with
    | bad => rw [z] at h; cases h
    | err e => rw [z] at h; cases h
    | ok c =>
      rw [z] at h; cases h
      exact (in_ok hd he z).2 Q q
  · cases h
end
end Dv

set_option Elab.async false
set_option linter.all false
set_option maxRecDepth 100000
namespace Dv
open PySem PySem.Spec PyProof.Rows L2

/-! ### from one state to the next, within an expression -/
structure Go (T : Tc) (σ : Sg) (H : Hp) (ρ : Env') (W : AS) (H' : Hp) (ρ' : Env') (W' : AS) : Prop where
  rel : Rel T σ H' ρ' W'
  step : Step σ H ρ W σ H' ρ' W'
  mon : Mon σ ρ ρ'
  dom : ∀ a, H' a = none → H a = none
  lk : Lk ρ ρ'
structure Out (T : Tc) (σ : Sg) (H : Hp) (ρ : Env') (W : AS) (p : P) (ρ' : Env') (v : V) (H' : Hp) (W' : AS) : Prop where
  go : Go T σ H ρ W H' ρ' W'
  rep : RepP T σ H' ρ' W' v p
  new : ∀ d, p = .own d → ∀ a, v = .ref a → H a = none

/-- an error's exception -/
def ErrR (mg : Str → Option Value) (K : PySem.W.Frag) (er : Er) (cls : Value) (d : Option Addr) (H' : Hp) : Prop :=
  mg er.cls = some cls ∧ (er.val = [] ∨ ∃ a vs, d = some a ∧ H' a = some (.xd ((er.val.map (·.1)).zip vs)) ∧ RepDs K H' (fun _ => True) vs (er.val.map (·.2)))
/-- the error is welcome here -/
def ErrOk (X : Cx) (Z : WX) (er : Er) (σ : Sg) (H : Hp) (ρ : Env') : Prop :=
  ∀ cls d H', ErrR X.mg X.K er cls d H' → (∀ b o, H b = some o → (∀ i, ¬ OwnU σ ρ i b) → H' b = some o) → Z cls d σ H'
def Post (X : Cx) (Z : WX) {α : Type} (r : Rs (α × Env')) (σ : Sg) (H : Hp) (ρ : Env') (k : α → Env' → Prop) : Prop := match r with
  | .ok a => k a.1 a.2
  | .err er => ErrOk X Z er σ H ρ
  | .bad => False

section
variable {X : Cx} {Z : WX} {T : Tc} {F : Fn} {σ : Sg} {H H1 H2 : Hp} {ρ ρ1 ρ2 : Env'} {W W1 W2 : AS}
theorem Go.refl (R : Rel T σ H ρ W) : Go T σ H ρ W H ρ W := ⟨R, Step.refl, .refl, fun _ h => h, .refl⟩
theorem Go.trans (a : Go T σ H ρ W H1 ρ1 W1) (b : Go T σ H1 ρ1 W1 H2 ρ2 W2) : Go T σ H ρ W H2 ρ2 W2 := ⟨b.rel, a.step.trans b.step, a.mon.trans b.mon, fun x h => a.dom x (b.dom x h), a.lk.trans b.lk⟩
theorem Out.after {p : P} {v : V} (a : Go T σ H ρ W H1 ρ1 W1) (b : Out T σ H1 ρ1 W1 p ρ2 v H2 W2) : Out T σ H ρ W p ρ2 v H2 W2 := ⟨a.trans b.go, b.rep, fun d e x h => a.dom x (b.new d e x h)⟩
theorem ErrOk.move {er : Er} (h : ErrOk X Z er σ H ρ) (s : Step σ H ρ W σ H1 ρ1 W1) : ErrOk X Z er σ H1 ρ1 := fun cls d H' e k => h cls d H' e fun b o hb n => by
  obtain ⟨h1, n1, _⟩ := s b o hb n
  exact k b o h1 n1
theorem Post.move {α : Type} {r : Rs (α × Env')} {k : α → Env' → Prop} (h : Post X Z r σ H ρ k) (s : Step σ H ρ W σ H1 ρ1 W1) : Post X Z r σ H1 ρ1 k := by
  cases r with
  | ok a => exact h
  | err er => exact ErrOk.move h s
  | bad => exact h
theorem Post.bind {α β : Type} {r : Rs (α × Env')} {f : α × Env' → Rs (β × Env')} {k : β → Env' → Prop} (h : Post X Z (r.bind f) σ H ρ k) : Post X Z r σ H ρ fun a ρ' => Post X Z (f (a, ρ')) σ H ρ k := by
  cases r with
  | ok a => exact h
  | err er => exact h
  | bad => exact h
theorem Post.imp {α : Type} {r : Rs (α × Env')} {k k' : α → Env' → Prop} (h : Post X Z r σ H ρ k) (g : ∀ a ρ', k a ρ' → k' a ρ') : Post X Z r σ H ρ k' := by
  cases r with
  | ok a => exact g _ _ h
  | err er => exact h
  | bad => exact h
/-- a step that raises nothing -/
def NoErr {α : Type} (r : Rs α) : Prop := ∀ e, r ≠ .err e
theorem Post.val {α β : Type} {r : Rs α} {f : α → Rs (β × Env')} {k : β → Env' → Prop} (n : NoErr r) (h : Post X Z (r.bind f) σ H ρ k) : ∃ a, r = .ok a ∧ Post X Z (f a) σ H ρ k := by
  cases r with
  | ok a => exact ⟨a, rfl, h⟩
  | err er => exact absurd rfl (n er)
  | bad => exact h.elim
theorem Post.need {p : Prop} {β : Type} {r : Rs (β × Env')} {k : β → Env' → Prop} (h : Post X Z (need p r) σ H ρ k) : p ∧ Post X Z r σ H ρ k := by
  unfold Dv.need at h
  split at h
  · exact ⟨by assumption, h⟩
  · exact h.elim
theorem NoErr.of {α : Type} {o : Option α} : NoErr (Rs.of o) := fun e h => by cases o <;> cases h
theorem NoErr.pk {p : P} {ρ : Env'} : NoErr (Dv.pk p ρ) := NoErr.of
theorem NoErr.need {p : Prop} {α : Type} {r : Rs α} (h : NoErr r) : NoErr (Dv.need p r) := fun e q => by
  unfold Dv.need at q
  split at q
  · exact h e q
  · cases q
theorem NoErr.ok {α : Type} {a : α} : NoErr (Rs.ok a) := fun e h => by cases h
theorem NoErr.bad {α : Type} : NoErr (Rs.bad : Rs α) := fun e h => by cases h
theorem NoErr.bind {α β : Type} {r : Rs α} {f : α → Rs β} (h : NoErr r) (g : ∀ a, NoErr (f a)) : NoErr (r.bind f) := fun e q => by
  cases r with
  | ok a => exact g a e q
  | err x => exact h x rfl
  | bad => cases q
theorem NoErr.dBin {op : Operator} {x y : D} : NoErr (Dv.dBin op x y) := by
  unfold Dv.dBin
  split <;> first | exact .ok | exact .bad | exact .need .ok
theorem NoErr.dIn {x y : D} : NoErr (Dv.dIn x y) := by
  unfold Dv.dIn
  split
  · split <;> first | exact .ok | exact .bad
  · exact .need .ok
  · exact .need .ok
  · exact .bad
theorem NoErr.dCmp {op : CmpOp} {x y : D} : NoErr (Dv.dCmp op x y) := by
  unfold Dv.dCmp
  split <;> first | exact .ok | exact .bad | exact .need .ok | exact .dIn | exact .bind .dIn fun _ => .ok
theorem NoErr.truth {x : D} : NoErr (Dv.truth x) := by
  unfold Dv.truth
  split <;> first | exact .ok | exact .bad | exact .need .ok
theorem NoErr.dIdx {x y : D} : NoErr (Dv.dIdx x y) := by
  unfold Dv.dIdx
  split <;> first | exact .of | exact .bad | exact .bind .of fun _ => .ok | exact .need (.bind .of fun _ => .ok)
theorem NoErr.items {x : D} : NoErr (Dv.items x) := by
  unfold Dv.items
  split <;> first | exact .ok | exact .bad
theorem NoErr.itemsL {x : D} : NoErr (Dv.itemsL x) := by
  unfold Dv.itemsL
  split <;> first | exact .ok | exact .bad
theorem NoErr.itemss {x : List D} : NoErr (Dv.itemss x) := by
  unfold Dv.itemss
  split <;> first | exact .ok | exact .bad
theorem NoErr.dLen {x : D} : NoErr (Dv.dLen x) := by
  unfold Dv.dLen
  split <;> first | exact .ok | exact .bad | exact .need .ok
theorem NoErr.isTy {t : Ty} {x : D} : NoErr (Dv.isTy t x) := by
  unfold Dv.isTy
  split <;> first | exact .ok | exact .bad
theorem NoErr.dBl {b : Bl} {l : List D} : NoErr (Dv.dBl b l) := by
  unfold Dv.dBl
  split <;> first | exact .ok | exact .bad | exact .bind .of fun _ => .ok | exact .bind .dLen fun _ => .ok
theorem NoErr.dSlc {x : D} {a b : Option Int} : NoErr (Dv.dSlc x a b) := by
  unfold Dv.dSlc
  split <;> first | exact .ok | exact .bad | exact .need .ok
theorem NoErr.dMe {m : Me} {x : D} {l : List D} : NoErr (Dv.dMe m x l) := by
  unfold Dv.dMe
  split
  · exact .bind .of fun _ => .need .ok
  · exact .bind .of fun _ => .need .ok
  · exact .need .ok
  · refine .need ?_
    split <;> first | exact .ok | exact .bad
  · exact .bad
theorem NoErr.dMm {m : Mm} {x : D} {l : List D} : NoErr (Dv.dMm m x l) := by
  unfold Dv.dMm
  split <;> first | exact .bad | exact .need .ok | exact .bind .of fun _ => .ok | exact .need (.bind .of fun _ => .bind .of fun _ => .ok)
theorem NoErr.evVar {i : Nat} {ρ : Env'} : NoErr (Dv.evVar i ρ) := by
  unfold Dv.evVar
  split <;> first | exact .ok | exact .bad
theorem NoErr.asB {r : P × Env'} : NoErr (Dv.asB r) := by
  unfold Dv.asB
  split <;> first | exact .ok | exact .bad
theorem NoErr.quiet {α : Type} {r : Rs α} : NoErr r.quiet := fun e h => by cases r <;> cases h
theorem NoErr.pks : ∀ {ps : List P} {ρ : Env'}, NoErr (Dv.pks ps ρ)
  | [], _ => .ok
  | _ :: _, _ => .bind .pk fun _ => .bind NoErr.pks fun _ => .ok
theorem NoErr.putV {i : Nat} {d : D} {ρ : Env'} : NoErr (Dv.putV i d ρ) := by
  unfold Dv.putV
  split <;> first | exact .ok | exact .bad
theorem NoErr.putVs : ∀ {is : List Nat} {ds : List D} {ρ : Env'}, NoErr (Dv.putVs is ds ρ)
  | [], [], _ => .ok
  | _ :: _, _ :: _, _ => .bind .putV fun _ => NoErr.putVs
  | [], _ :: _, _ => .bad
  | _ :: _, [], _ => .bad
theorem NoErr.asgT {t : Tg} {d : D} {ρ : Env'} : NoErr (Dv.asgT t d ρ) := by
  unfold Dv.asgT
  split <;> first | exact .putV | exact .putVs | exact .bad
theorem NoErr.unlock {o : Option Nat} {ρ : Env'} : NoErr (Dv.unlock o ρ) := by
  unfold Dv.unlock
  split
  · exact .ok
  · split <;> first | exact .ok | exact .bad

/-! ### readings -/
def tE (X : Cx) (T : Tc) (F : Fn) (Z : WX) (e : Ex) : TE := fun σ H Q => ∃ ρ W, Rel T σ H ρ W ∧ Post X Z (ev F e ρ) σ H ρ fun p ρ' => ∀ v H' W', Out T σ H ρ W p ρ' v H' W' → Q v H'
def tT (X : Cx) (T : Tc) (F : Fn) (Z : WX) (t : Tx) : TT := fun σ H Q => ∃ ρ W, Rel T σ H ρ W ∧ Post X Z (evT F t ρ) σ H ρ fun b ρ' => ∀ H' W', Go T σ H ρ W H' ρ' W' → Q b H'

theorem wkE {e : Expr} {t t' : TE} (h : PE X e t) (w : ∀ σ H Q, t' σ H Q → t σ H Q) : PE X e t' := ⟨fun pins s σ H Q I q => h.run pins s σ H Q I (w σ H Q q)⟩
theorem wkT {e : Expr} {t t' : TT} (h : PT X e t) (w : ∀ σ H Q, t' σ H Q → t σ H Q) : PT X e t' := ⟨fun pins s σ H Q I q => h.run pins s σ H Q I (w σ H Q q)⟩
theorem wkA {e : List Expr} {t t' : TA} (h : PA X e t) (w : ∀ σ H Q, t' σ H Q → t σ H Q) : PA X e t' := ⟨fun pos pins s σ H Q I q => h.run pos pins s σ H Q I (w σ H Q q)⟩

/-- a tuple laid -/
theorem Go.tup (R : Rel T σ H ρ W) {a : Addr} {vs : List V} (n : H a = none) : Go T σ H ρ W (upd H a (.tup vs)) ρ W := by
  have ad : Adv H W (upd H a (.tup vs)) W := adv_new n
  refine ⟨⟨R.len, fun i s e => ?_, R.sep, fun x w => ?_, R.fr, fun x h => R.fzk x ?_, R.bor⟩, fun b o h k => ⟨by rw [upd_ne (ne_of_none h n)]; exact h, k, Iff.rfl⟩, .refl, fun x h => ?_, .refl⟩
  · obtain ⟨o, e1, q⟩ := R.at_ i s e
    refine ⟨o, e1, ?_⟩
    cases s with
    | val d => obtain ⟨v, e2, r⟩ := q; exact ⟨v, e2, r.adv R.wl ad⟩
    | brz d => obtain ⟨v, e2, r⟩ := q; exact ⟨v, e2, r.adv R.wl ad⟩
    | own b d => obtain ⟨c, ob, e2, e3, w, r⟩ := q; exact ⟨c, ob, e2, by rw [upd_ne (ne_of_none e3 n)]; exact e3, w, r.adv R.wl ad⟩
    | lck b d => obtain ⟨c, ob, e2, e3, w, r⟩ := q; exact ⟨c, ob, e2, by rw [upd_ne (ne_of_none e3 n)]; exact e3, w, r.adv R.wl ad⟩
  · obtain ⟨o, e, m⟩ := R.wl x w
    exact ⟨o, by rw [upd_ne (ne_of_none e n)]; exact e, m⟩
  · by_cases e : x = a
    · subst e; exact n
    · rw [upd_ne e] at h; exact h
  · by_cases e : x = a
    · subst e; exact n
    · rw [upd_ne e] at h; exact h
/-- a new mutable object laid -/
theorem Out.own (R : Rel T σ H ρ W) {a : Addr} {o : HO} {d : D} (n : H a = none) (q : RepO T.K H W o d) : Out T σ H ρ W (.own d) ρ (.ref a) (upd H a o) (fun x => W x ∨ x = a) := by
  have ad : Adv H W (upd H a o) (fun x => W x ∨ x = a) := fun b u e w => ⟨by rw [upd_ne (ne_of_none e n)]; exact e, fun z => z.elim w (ne_of_none e n)⟩
  have nO : ∀ i, ¬ OwnA σ ρ i a := fun i z => by
    obtain ⟨_, u, e, _⟩ := R.ownA z
    rw [n] at e; cases e
  refine ⟨⟨⟨R.len, fun i s e => ?_, R.sep, fun x w => ?_, R.fr, fun x h => R.fzk x ?_, R.bor⟩, fun b u h k => ⟨by rw [upd_ne (ne_of_none h n)]; exact h, k, ⟨fun z => z.elim id fun e => absurd e (ne_of_none h n), .inl⟩⟩, .refl, fun x h => ?_, .refl⟩, ⟨a, o, rfl, upd_same, .inr rfl, nO, R.fzk a n, q.adv R.wl ad⟩, fun _ _ b e => by cases e; exact n⟩
  · obtain ⟨v, e1, z⟩ := R.at_ i s e
    refine ⟨v, e1, ?_⟩
    cases s with
    | val d => obtain ⟨v, e2, r⟩ := z; exact ⟨v, e2, r.adv R.wl ad⟩
    | brz d => obtain ⟨v, e2, r⟩ := z; exact ⟨v, e2, r.adv R.wl ad⟩
    | own b d => obtain ⟨c, ob, e2, e3, w, r⟩ := z; exact ⟨c, ob, e2, by rw [upd_ne (ne_of_none e3 n)]; exact e3, .inl w, r.adv R.wl ad⟩
    | lck b d => obtain ⟨c, ob, e2, e3, w, r⟩ := z; exact ⟨c, ob, e2, by rw [upd_ne (ne_of_none e3 n)]; exact e3, .inl w, r.adv R.wl ad⟩
  · rcases w with w | rfl
    · obtain ⟨u, e, m⟩ := R.wl x w
      exact ⟨u, by rw [upd_ne (ne_of_none e n)]; exact e, m⟩
    · exact ⟨o, upd_same, q.mk1⟩
  · by_cases e : x = a
    · subst e; exact n
    · rw [upd_ne e] at h; exact h
  · by_cases e : x = a
    · subst e; exact n
    · rw [upd_ne e] at h; exact h
theorem Out.val (g : Go T σ H ρ W H1 ρ1 W1) {v : V} {d : D} (r : RepD T.K H1 W1 v d) : Out T σ H ρ W (.val d) ρ1 v H1 W1 := ⟨g, r, fun _ e => by cases e⟩
/-- a result that an operation makes -/
theorem Go.res (g : Go T σ H ρ W H1 ρ1 W1) {p : P} {Q : VK} (h : ∀ v H' W', Out T σ H ρ W p ρ1 v H' W' → Q v H') (np : ∀ i, p ≠ .at_ i) : ResQ T.K H1 W1 p Q := by
  cases p with
  | val d =>
    rintro v H' (rfl | ⟨a, vs, n, rfl⟩) r
    · exact h _ _ _ (.val g r)
    · exact h _ _ _ (.val (g.trans (Go.tup g.rel n)) r)
  | own d => exact fun a o n q => h _ _ _ (Out.after g (Out.own g.rel n q))
  | at_ i => exact absurd rfl (np i)
theorem dBin_np {op : Operator} {x y : D} {p : P} (h : dBin op x y = .ok p) (i : Nat) : p ≠ .at_ i := by
  unfold dBin at h
  split at h <;> first | (cases h; done) | (cases h; simp; done) | (obtain ⟨_, h⟩ := need_ok h; cases h; simp)

theorem pk_of {p : P} {ρ : Env'} {d : D} (h : pk p ρ = .ok d) : peek p ρ = some d := by
  unfold pk Rs.of at h
  split at h
  · cases h
  · rename_i e; cases h; exact e
/-! ### the simple expressions -/
theorem s_bin (tk : T.K = X.K) {a b : Ex} {a' b' : Expr} {op : Operator} {pos : Pos} (ha : PE X a' (tE X T F Z a)) (hb : PE X b' (tE X T F Z b)) : PE X (.BinOp a' op b' pos) (tE X T F Z (.bin op a b)) := by
  refine wkE (pe_op (op_B op) ha hb) ?_
  rintro σ H Q ⟨ρ, W, R, h⟩
  refine ⟨ρ, W, R, (Post.bind h).imp fun p1 ρ1 h1 v1 H1 W1 o1 => ⟨ρ1, W1, o1.go.rel, ((Post.bind h1).move o1.go.step).imp fun p2 ρ2 h2 v2 H2 W2 o2 => ?_⟩⟩
  obtain ⟨x, ex, h3⟩ := Post.val .pk h2
  obtain ⟨y, ey, h4⟩ := Post.val .pk h3
  obtain ⟨p, ep, h5⟩ := Post.val .dBin h4
  have h5 : ∀ v H' W', Out T σ H ρ W p ρ2 v H' W' → Q v H' := h5
  have kx := peek_ok o2.go.rel (o1.rep.step o1.go.rel o2.go.step o2.go.mon) (pk_of ex)
  have ky := peek_ok o2.go.rel o2.rep (pk_of ey)
  rw [← tk]
  exact bin_ok o2.go.rel.wl kx ky ep ((o1.go.trans o2.go).res h5 (dBin_np ep))
end
end Dv

set_option Elab.async false
set_option linter.all false
set_option maxRecDepth 100000
namespace Dv
open PySem PySem.Spec PyProof.Rows L2

def RepPs (T : Tc) (σ : Sg) (H0 H : Hp) (ρ : Env') (W : AS) : List V → List P → Prop
  | vs, [] => vs = []
  | vs, p :: ps => ∃ v r, vs = v :: r ∧ RepP T σ H ρ W v p ∧ (∀ d a, p = .own d → v = .ref a → H0 a = none ∧ ∀ (j : Nat) (c : D), ps[j]? = some (P.own c) → r[j]? ≠ some (V.ref a)) ∧ RepPs T σ H0 H ρ W r ps
structure Outs (T : Tc) (σ : Sg) (H : Hp) (ρ : Env') (W : AS) (ps : List P) (ρ' : Env') (vs : List V) (H' : Hp) (W' : AS) : Prop where
  go : Go T σ H ρ W H' ρ' W'
  rep : RepPs T σ H H' ρ' W' vs ps
/-- the new objects among the arguments -/
def tmps (vs : List V) (ps : List P) : AS := fun a => ∃ (j : Nat) (d : D), ps[j]? = some (P.own d) ∧ vs[j]? = some (V.ref a)

section
variable {X : Cx} {Z : WX} {T : Tc} {F : Fn} {σ : Sg} {H H0 H1 H2 : Hp} {ρ ρ1 ρ2 ρ' : Env'} {W W1 W2 : AS} {A : AS}
theorem StepX.adv (s : StepX A σ H ρ W σ H1 ρ1 W1) (R : Rel T σ H ρ W) (hA : ∀ a, A a → W a) : Adv H W H1 W1 := fun b o h w => by
  obtain ⟨h1, _, w1⟩ := s b o h (R.nown w) fun z => w (hA b z)
  exact ⟨h1, fun z => w (w1.mp z)⟩
theorem RepP.stepX {v : V} {p : P} (h : RepP T σ H ρ W v p) (R : Rel T σ H ρ W) (s : StepX A σ H ρ W σ H1 ρ1 W1) (m : Mon σ ρ ρ1) (hA : ∀ a, A a → W a) (n : ∀ d a, p = .own d → v = .ref a → ¬ A a) : RepP T σ H1 ρ1 W1 v p := by
  cases p with
  | val d => exact RepD.adv R.wl (s.adv R hA) h
  | own d =>
    obtain ⟨a, o, e, ha, w, no, f, q⟩ := h
    obtain ⟨h1, n1, w1⟩ := s a o ha (fun i z => no i z.a) (n d a rfl e)
    exact ⟨a, o, e, h1, w1.mpr w, fun i z => no i (m i a z), f, q.adv R.wl (s.adv R hA)⟩
  | at_ i => exact h
theorem RepPs.step : ∀ {ps : List P} {vs : List V}, RepPs T σ H0 H ρ W vs ps → Rel T σ H ρ W → Step σ H ρ W σ H1 ρ1 W1 → Mon σ ρ ρ1 → RepPs T σ H0 H1 ρ1 W1 vs ps
  | [], _, h, _, _, _ => h
  | _ :: _, _, h, R, s, m => by
    obtain ⟨v, r, e, q, n, t⟩ := h
    exact ⟨v, r, e, q.step R s m, n, t.step R s m⟩
theorem RepPs.stepX : ∀ {ps : List P} {vs : List V}, RepPs T σ H0 H ρ W vs ps → Rel T σ H ρ W → StepX A σ H ρ W σ H1 ρ1 W1 → Mon σ ρ ρ1 → (∀ a, A a → W a) → (∀ (j : Nat) (d : D) (a : Addr), ps[j]? = some (P.own d) → vs[j]? = some (V.ref a) → ¬ A a) → RepPs T σ H0 H1 ρ1 W1 vs ps
  | [], _, h, _, _, _, _, _ => h
  | p :: _, _, h, R, s, m, hA, n => by
    obtain ⟨v, r, rfl, q, n1, t⟩ := h
    exact ⟨v, r, rfl, q.stepX R s m hA fun d a e1 e2 => n 0 d a (by rw [e1]; rfl) (by rw [e2]; rfl), n1, t.stepX R s m hA fun j d a e1 e2 => n (j + 1) d a (by simpa using e1) (by simpa using e2)⟩
theorem RepPs.base : ∀ {ps : List P} {vs : List V}, RepPs T σ H0 H ρ W vs ps → (∀ a, H0 a = none → H2 a = none) → RepPs T σ H2 H ρ W vs ps
  | [], _, h, _ => h
  | _ :: _, _, h, d => by
    obtain ⟨v, r, e, q, n, t⟩ := h
    exact ⟨v, r, e, q, fun c a e1 e2 => ⟨d a (n c a e1 e2).1, (n c a e1 e2).2⟩, t.base d⟩
theorem RepPs.length : ∀ {ps : List P} {vs : List V}, RepPs T σ H0 H ρ W vs ps → vs.length = ps.length
  | [], _, h => by rw [show _ = [] from h]; rfl
  | _ :: _, _, h => by
    obtain ⟨v, r, rfl, _, _, t⟩ := h
    rw [List.length_cons, List.length_cons, t.length]
theorem RepPs.get : ∀ {ps : List P} {vs : List V} {j : Nat} {p : P}, RepPs T σ H0 H ρ W vs ps → ps[j]? = some p → ∃ v, vs[j]? = some v ∧ RepP T σ H ρ W v p
  | [], _, _, _, _, e => by simp at e
  | _ :: _, _, 0, _, h, e => by
    obtain ⟨v, r, rfl, q, _, _⟩ := h
    simp at e; subst e; exact ⟨v, rfl, q⟩
  | _ :: _, _, j + 1, _, h, e => by
    obtain ⟨v, r, rfl, _, _, t⟩ := h
    obtain ⟨u, h1, h2⟩ := t.get (j := j) (by simpa using e)
    exact ⟨u, by simpa using h1, h2⟩
theorem RepPs.new : ∀ {ps : List P} {vs : List V} {j : Nat} {d : D} {a : Addr}, RepPs T σ H0 H ρ W vs ps → ps[j]? = some (.own d) → vs[j]? = some (.ref a) → H0 a = none
  | [], _, _, _, _, _, e, _ => by simp at e
  | _ :: _, _, 0, _, _, h, e, e2 => by
    obtain ⟨v, r, rfl, _, n, _⟩ := h
    simp at e e2
    exact (n _ _ e e2).1
  | _ :: _, _, j + 1, _, _, h, e, e2 => by
    obtain ⟨v, r, rfl, _, _, t⟩ := h
    exact t.new (j := j) (by simpa using e) (by simpa using e2)
theorem RepPs.dst : ∀ {ps : List P} {vs : List V} {i j : Nat} {c d : D} {a : Addr}, RepPs T σ H0 H ρ W vs ps → ps[i]? = some (.own c) → ps[j]? = some (.own d) → vs[i]? = some (.ref a) → vs[j]? = some (.ref a) → i = j
  | [], _, _, _, _, _, _, _, e, _, _, _ => by simp at e
  | _ :: _, _, 0, 0, _, _, _, _, _, _, _, _ => rfl
  | _ :: _, _, 0, j + 1, _, _, _, h, e1, e2, e3, e4 => by
    obtain ⟨v, r, rfl, _, n, _⟩ := h
    simp at e1 e3
    exact absurd (by simpa using e4) ((n _ _ e1 e3).2 j _ (by simpa using e2))
  | _ :: _, _, i + 1, 0, _, _, _, h, e1, e2, e3, e4 => by
    obtain ⟨v, r, rfl, _, n, _⟩ := h
    simp at e2 e4
    exact absurd (by simpa using e3) ((n _ _ e2 e4).2 i _ (by simpa using e1))
  | _ :: _, _, i + 1, j + 1, _, _, _, h, e1, e2, e3, e4 => by
    obtain ⟨v, r, rfl, _, _, t⟩ := h
    rw [t.dst (i := i) (j := j) (by simpa using e1) (by simpa using e2) (by simpa using e3) (by simpa using e4)]
theorem tmps_w {ps : List P} {vs : List V} (h : RepPs T σ H0 H ρ W vs ps) : ∀ a, tmps vs ps a → W a ∧ H0 a = none := fun a ⟨j, d, e1, e2⟩ => by
  obtain ⟨v, e3, a', o, e4, _, w, _⟩ := h.get e1
  rw [e2] at e3; cases e3; cases e4
  exact ⟨w, h.new e1 e2⟩
theorem tmp_w {p : P} {v : V} (h : RepP T σ H ρ W v p) : ∀ a, tmp v p a → W a := fun a z => by
  cases p with
  | val d => exact z.elim
  | at_ i => exact z.elim
  | own d =>
    obtain ⟨a', o, e4, _, w, _⟩ := h
    rw [show v = .ref a from z] at e4
    cases e4
    exact w

theorem toDs_ok : ∀ {ps : List P} {vs : List V} {ρ ρ' : Env'} {W : AS} {ds : List D}, Rel T σ H ρ W → RepPs T σ H0 H ρ W vs ps → toDs ps ρ = some (ds, ρ') →
    ∃ W', Rel T σ H ρ' W' ∧ RepDs T.K H W' vs ds ∧ StepX (tmps vs ps) σ H ρ W σ H ρ' W' ∧ Mon σ ρ ρ' ∧ Lk ρ ρ'
  | [], _, _, _, W, _, R, h, e => by
    cases e
    exact ⟨W, R, h, Step.refl.x, .refl, .refl⟩
  | p :: ps, _, ρ, ρ', W, ds, R, h, e => by
    obtain ⟨v, r, rfl, q, n, t⟩ := h
    have e : ((toD p ρ).bind fun r => (toDs ps r.2).bind fun q => some (r.1 :: q.1, q.2)) = some (ds, ρ') := e
    cases e1 : toD p ρ with
    | none => rw [e1] at e; cases e
    | some x =>
      rw [e1] at e
      have e : ((toDs ps x.2).bind fun q => some (x.1 :: q.1, q.2)) = some (ds, ρ') := e
      cases e2 : toDs ps x.2 with
      | none => rw [e2] at e; cases e
      | some y =>
        rw [e2] at e
        cases e
        obtain ⟨W1, R1, q1, s1, m1, l1⟩ := toD_ok R q (d := x.1) (ρ' := x.2) e1
        have t1 : RepPs T σ H0 H x.2 W1 r ps := t.stepX R s1 m1 (tmp_w q) fun j c a h1 h2 z => by
          cases p with
          | val d => exact z
          | at_ i => exact z
          | own d => exact (n d a rfl z).2 j c h1 h2
        obtain ⟨W2, R2, q2, s2, m2, l2⟩ := toDs_ok R1 t1 (ds := y.1) (ρ' := y.2) e2
        refine ⟨W2, R2, ⟨v, r, rfl, RepD.adv R1.wl (s2.adv R1 fun a z => (tmps_w t1 a z).1) q1, q2⟩, fun b o hb no na => ?_, m1.trans m2, l1.trans l2⟩
        obtain ⟨_, n1, w1⟩ := s1 b o hb no fun z => na (by
          cases p with
          | val d => exact z.elim
          | at_ i => exact z.elim
          | own d => exact ⟨0, d, rfl, by rw [show v = .ref b from z]; rfl⟩)
        obtain ⟨h2, n2, w2⟩ := s2 b o hb n1 fun ⟨j, d, z1, z2⟩ => na ⟨j + 1, d, by simpa using z1, by simpa using z2⟩
        exact ⟨h2, n2, w2.trans w1⟩
theorem Outs.data {ps : List P} {vs : List V} {ds : List D} (o : Outs T σ H ρ W ps ρ1 vs H1 W1) (e : toDs ps ρ1 = some (ds, ρ2)) : ∃ W2, Go T σ H ρ W H1 ρ2 W2 ∧ RepDs T.K H1 W2 vs ds := by
  obtain ⟨W2, R2, q, s, m, l⟩ := toDs_ok o.go.rel o.rep e
  exact ⟨W2, ⟨R2, o.go.step.then s fun a z => (tmps_w o.rep a z).2, o.go.mon.trans m, o.go.dom, o.go.lk.trans l⟩, q⟩
theorem Out.data {p : P} {v : V} {d : D} (o : Out T σ H ρ W p ρ1 v H1 W1) (e : toD p ρ1 = some (d, ρ2)) : ∃ W2, Go T σ H ρ W H1 ρ2 W2 ∧ RepD T.K H1 W2 v d := by
  obtain ⟨W2, R2, q, s, m, l⟩ := toD_ok o.go.rel o.rep e
  refine ⟨W2, ⟨R2, o.go.step.then s fun a z => ?_, o.go.mon.trans m, o.go.dom, o.go.lk.trans l⟩, q⟩
  cases p with
  | val d => exact z.elim
  | at_ i => exact z.elim
  | own d => exact o.new d rfl a z
theorem of_ok {α : Type} {o : Option α} {a : α} (h : Rs.of o = .ok a) : o = some a := by
  cases o with
  | none => cases h
  | some x => cases h; rfl

/-! ### the simple expressions -/
def tA (X : Cx) (T : Tc) (F : Fn) (Z : WX) (l : Exs) : TA := fun σ H Q => ∃ ρ W, Rel T σ H ρ W ∧ Post X Z (evs F l ρ) σ H ρ fun ps ρ' => ∀ vs H' W', Outs T σ H ρ W ps ρ' vs H' W' → Q vs H'
variable {a b c : Ex} {a' b' c' : Expr} {pos : Pos}
theorem s_cst (d : D) (v : V) (e : Expr) (he : PE X e (tC v)) (hv : ∀ H W, RepD T.K H W v d) : PE X e (tE X T F Z (.cst d)) := by
  refine wkE he ?_
  rintro σ H Q ⟨ρ, W, R, h⟩
  exact h v H W (.val (Go.refl R) (hv H W))
theorem s_var {i : Nat} (he : PE X a' (tVar i)) : PE X a' (tE X T F Z (.var i)) := by
  refine wkE he ?_
  rintro σ H Q ⟨ρ, W, R, h⟩
  have h : Post X Z (evVar i ρ) σ H ρ _ := h
  unfold evVar at h
  split at h
  · rename_i d e
    obtain ⟨o, e1, v, rfl, q⟩ := R.at_ i _ e
    exact ⟨v, e1, h v H W (.val (Go.refl R) q)⟩
  · rename_i d e
    obtain ⟨o, e1, v, rfl, q⟩ := R.at_ i _ e
    exact ⟨v, e1, h v H W (.val (Go.refl R) q)⟩
  · rename_i b d e
    obtain ⟨o, e1, x, ob, rfl, q⟩ := R.at_ i _ e
    exact ⟨_, e1, h _ H W ⟨Go.refl R, e1, fun _ z => by cases z⟩⟩
  · rename_i b d e
    obtain ⟨o, e1, x, ob, rfl, q⟩ := R.at_ i _ e
    exact ⟨_, e1, h _ H W ⟨Go.refl R, e1, fun _ z => by cases z⟩⟩
  · exact h.elim
theorem s_glo {x : Str} (h : ∀ d, F.glo x = some d → ∃ v, PE X a' (tC v) ∧ ∀ H W, RepD T.K H W v d) : PE X a' (tE X T F Z (.glo x)) := by
  refine ⟨fun pins s σ H Q I q => ?_⟩
  obtain ⟨ρ, W, R, p⟩ := q
  obtain ⟨d, e, p⟩ := Post.val (r := Rs.of (F.glo x)) .of p
  obtain ⟨v, pe, hv⟩ := h d (of_ok e)
  exact pe.run pins s σ H Q I (p v H W (.val (Go.refl R) (hv H W)))
/-- two operands have come -/
theorem two (o1 : ∀ (_ : Unit), True) : True := trivial
theorem s_cmp (tk : T.K = X.K) (hu : X.A.units + 65 < cLine) {op : CmpOp} (hm : behindInMarks op b' = false) (ha : PE X a' (tE X T F Z a)) (hb : PE X b' (tE X T F Z b)) : PE X (.Compare a' [op] [b'] pos) (tE X T F Z (.cmp op a b)) := by
  refine wkE (pe_cmpR (op_C hu op) ha hb hm) ?_
  rintro σ H Q ⟨ρ, W, R, h⟩
  refine ⟨ρ, W, R, (Post.bind h).imp fun p1 ρ1 h1 v1 H1 W1 o1 => ⟨ρ1, W1, o1.go.rel, ((Post.bind h1).move o1.go.step).imp fun p2 ρ2 h2 v2 H2 W2 o2 => ?_⟩⟩
  obtain ⟨x, ex, h3⟩ := Post.val .pk h2
  obtain ⟨y, ey, h4⟩ := Post.val .pk h3
  obtain ⟨p, ep, h5⟩ := Post.val .dCmp h4
  have kx := peek_ok o2.go.rel (o1.rep.step o1.go.rel o2.go.step o2.go.mon) (pk_of ex)
  have ky := peek_ok o2.go.rel o2.rep (pk_of ey)
  rw [← tk]
  exact cmp_ok kx ky ep (h5 _ _ _ (.val (o1.go.trans o2.go) rfl))
theorem s_tcmp (tk : T.K = X.K) (hu : X.A.units + 65 < cLine) {op : CmpOp} (hm : behindInMarks op b' = false) (ha : PE X a' (tE X T F Z a)) (hb : PE X b' (tE X T F Z b)) : PT X (.Compare a' [op] [b'] pos) (tT X T F Z (.cmp op a b)) := by
  refine wkT (pt_cmpR (op_C hu op) ha hb hm) ?_
  rintro σ H Q ⟨ρ, W, R, h⟩
  refine ⟨ρ, W, R, (Post.bind h).imp fun p1 ρ1 h1 v1 H1 W1 o1 => ⟨ρ1, W1, o1.go.rel, ((Post.bind h1).move o1.go.step).imp fun p2 ρ2 h2 v2 H2 W2 o2 => ?_⟩⟩
  obtain ⟨x, ex, h3⟩ := Post.val .pk h2
  obtain ⟨y, ey, h4⟩ := Post.val .pk h3
  obtain ⟨p, ep, h5⟩ := Post.val .dCmp h4
  have kx := peek_ok o2.go.rel (o1.rep.step o1.go.rel o2.go.step o2.go.mon) (pk_of ex)
  have ky := peek_ok o2.go.rel o2.rep (pk_of ey)
  rw [← tk]
  exact cmp_ok kx ky ep ⟨_, rfl, h5 _ _ (o1.go.trans o2.go)⟩
theorem s_chn (tk : T.K = X.K) (hu : X.A.units + 65 < cLine) {op op' : CmpOp} (hm : lastMarks [op, op'] [b', c'] = false) (ha : PE X a' (tE X T F Z a)) (hb : PE X b' (tE X T F Z b)) (hc : PE X c' (tE X T F Z c)) :
    PE X (.Compare a' [op, op'] [b', c'] pos) (tE X T F Z (.chn op op' a b c)) := by
  refine wkE (pe_chain (op_C hu op) (op_C hu op') ha hb hc hm) ?_
  rintro σ H Q ⟨ρ, W, R, h⟩
  refine ⟨ρ, W, R, (Post.bind h).imp fun p1 ρ1 h1 v1 H1 W1 o1 => ⟨ρ1, W1, o1.go.rel, ((Post.bind h1).move o1.go.step).imp fun p2 ρ2 h2 v2 H2 W2 o2 => ?_⟩⟩
  obtain ⟨x, ex, h3⟩ := Post.val .pk h2
  obtain ⟨y, ey, h4⟩ := Post.val .pk h3
  obtain ⟨k, ek, h5⟩ := Post.val .dCmp h4
  have kx := peek_ok o2.go.rel (o1.rep.step o1.go.rel o2.go.step o2.go.mon) (pk_of ex)
  have ky := peek_ok o2.go.rel o2.rep (pk_of ey)
  have go2 := o1.go.trans o2.go
  rw [← tk]
  refine cmp_ok kx ky ek ⟨k, rfl, ?_⟩
  cases k with
  | false => exact h5 _ _ _ (.val go2 rfl)
  | true =>
    refine ⟨ρ2, W2, go2.rel, ((Post.bind h5).move go2.step).imp fun p3 ρ3 h6 v3 H3 W3 o3 => ?_⟩
    obtain ⟨y', ey', h7⟩ := Post.val .pk h6
    obtain ⟨z, ez, h8⟩ := Post.val .pk h7
    obtain ⟨k', ek', h9⟩ := Post.val .dCmp h8
    exact cmp_ok (peek_ok o3.go.rel (o2.rep.step o2.go.rel o3.go.step o3.go.mon) (pk_of ey')) (peek_ok o3.go.rel o3.rep (pk_of ez)) ek' (h9 _ _ _ (.val (go2.trans o3.go) rfl))
theorem s_tchn (tk : T.K = X.K) (hu : X.A.units + 65 < cLine) {op op' : CmpOp} (hm : lastMarks [op, op'] [b', c'] = false) (ha : PE X a' (tE X T F Z a)) (hb : PE X b' (tE X T F Z b)) (hc : PE X c' (tE X T F Z c)) :
    PT X (.Compare a' [op, op'] [b', c'] pos) (tT X T F Z (.chn op op' a b c)) := by
  refine wkT (pt_chain (op_C hu op) (op_C hu op') ha hb hc hm) ?_
  rintro σ H Q ⟨ρ, W, R, h⟩
  refine ⟨ρ, W, R, (Post.bind h).imp fun p1 ρ1 h1 v1 H1 W1 o1 => ⟨ρ1, W1, o1.go.rel, ((Post.bind h1).move o1.go.step).imp fun p2 ρ2 h2 v2 H2 W2 o2 => ?_⟩⟩
  obtain ⟨x, ex, h3⟩ := Post.val .pk h2
  obtain ⟨y, ey, h4⟩ := Post.val .pk h3
  obtain ⟨k, ek, h5⟩ := Post.val .dCmp h4
  have kx := peek_ok o2.go.rel (o1.rep.step o1.go.rel o2.go.step o2.go.mon) (pk_of ex)
  have ky := peek_ok o2.go.rel o2.rep (pk_of ey)
  have go2 := o1.go.trans o2.go
  rw [← tk]
  refine cmp_ok kx ky ek ⟨k, rfl, ?_⟩
  cases k with
  | false => exact ⟨_, rfl, h5 _ _ go2⟩
  | true =>
    refine ⟨ρ2, W2, go2.rel, ((Post.bind h5).move go2.step).imp fun p3 ρ3 h6 v3 H3 W3 o3 => ?_⟩
    obtain ⟨y', ey', h7⟩ := Post.val .pk h6
    obtain ⟨z, ez, h8⟩ := Post.val .pk h7
    obtain ⟨k', ek', h9⟩ := Post.val .dCmp h8
    exact cmp_ok (peek_ok o3.go.rel (o2.rep.step o2.go.rel o3.go.step o3.go.mon) (pk_of ey')) (peek_ok o3.go.rel o3.rep (pk_of ez)) ek' ⟨_, rfl, h9 _ _ (go2.trans o3.go)⟩
theorem s_neg (ha : PE X a' (tE X T F Z a)) : PE X (.UnaryOp .USub a' pos) (tE X T F Z (.neg a)) := by
  refine wkE (pe_un un_neg ha) ?_
  rintro σ H Q ⟨ρ, W, R, h⟩
  refine ⟨ρ, W, R, (Post.bind h).imp fun p1 ρ1 h1 v1 H1 W1 o1 => ?_⟩
  obtain ⟨x, ex, h3⟩ := Post.val .pk h1
  have kx := peek_ok o1.go.rel o1.rep (pk_of ex)
  cases x with
  | int i => exact ⟨i, kx.int, h3 _ _ _ (.val o1.go rfl)⟩
  | _ => exact h3.elim
theorem asB_ok {p : P} {ρ : Env'} {k : Bool} {ρ' : Env'} (h : asB (p, ρ) = .ok (k, ρ')) : p = .val (.bl k) ∧ ρ' = ρ := by
  unfold asB at h
  split at h
  · rename_i b e
    have e : p = .val (.bl b) := e
    cases h
    exact ⟨e, rfl⟩
  · cases h
theorem s_not (ha : PE X a' (tE X T F Z a)) : PE X (.UnaryOp .Not a' pos) (tE X T F Z (.not_ a)) := by
  refine wkE (pe_not ha) ?_
  rintro σ H Q ⟨ρ, W, R, h⟩
  refine ⟨ρ, W, R, (Post.bind h).imp fun p1 ρ1 h1 v1 H1 W1 o1 => ?_⟩
  obtain ⟨⟨k, ρ2⟩, ex, h3⟩ := Post.val .asB h1
  obtain ⟨rfl, rfl⟩ := asB_ok ex
  have e : v1 = .bl k := o1.rep
  exact ⟨k, e, h3 _ _ _ (.val o1.go rfl)⟩
theorem s_tnot {t : Tx} (ha : PT X a' (tT X T F Z t)) : PT X (.UnaryOp .Not a' pos) (tT X T F Z (.not_ t)) := by
  refine wkT (pt_not ha) ?_
  rintro σ H Q ⟨ρ, W, R, h⟩
  exact ⟨ρ, W, R, (Post.bind h).imp fun p1 ρ1 h1 H1 W1 o1 => h1 _ _ o1⟩
theorem s_ite {t : Tx} (hc : PT X c' (tT X T F Z t)) (ha : PE X a' (tE X T F Z a)) (hb : PE X b' (tE X T F Z b)) : PE X (.IfExp c' a' b' pos) (tE X T F Z (.ite t a b)) := by
  refine wkE (pe_ifExp hc ha hb) ?_
  rintro σ H Q ⟨ρ, W, R, h⟩
  refine ⟨ρ, W, R, (Post.bind h).imp fun k ρ1 h1 H1 W1 g1 => ?_⟩
  cases k with
  | true => exact ⟨ρ1, W1, g1.rel, (Post.move h1 g1.step).imp fun p ρ2 h2 v H2 W2 o => h2 v H2 W2 (o.after g1)⟩
  | false => exact ⟨ρ1, W1, g1.rel, (Post.move h1 g1.step).imp fun p ρ2 h2 v H2 W2 o => h2 v H2 W2 (o.after g1)⟩
theorem s_nil : PA X [] (tA X T F Z .nil) := by
  refine wkA pa_nil ?_
  rintro σ H Q ⟨ρ, W, R, h⟩
  exact h [] H W ⟨Go.refl R, rfl⟩
theorem s_cons {e : Ex} {l : Exs} {e' : Expr} {l' : List Expr} (he : PE X e' (tE X T F Z e)) (hl : PA X l' (tA X T F Z l)) (hs : starEach (e' :: l') X.env = (false, eval e' X.env) :: starEach l' X.env) : PA X (e' :: l') (tA X T F Z (.cons e l)) := by
  refine wkA (pa_cons he hl hs) ?_
  rintro σ H Q ⟨ρ, W, R, h⟩
  refine ⟨ρ, W, R, (Post.bind h).imp fun p1 ρ1 h1 v1 H1 W1 o1 => ⟨ρ1, W1, o1.go.rel, ((Post.bind h1).move o1.go.step).imp fun p2 ρ2 h2 v2 H2 W2 o2 => ?_⟩⟩
  refine h2 (v1 :: v2) H2 W2 ⟨o1.go.trans o2.go, v1, v2, rfl, o1.rep.step o1.go.rel o2.go.step o2.go.mon, fun d x e1 e2 => ⟨o1.new d e1 x e2, fun j c e3 e4 => ?_⟩, o2.rep.base o1.go.dom⟩
  subst e1
  obtain ⟨x', ob, e5, e6, _⟩ := o1.rep
  rw [e2] at e5; cases e5
  rw [o2.rep.new e3 e4] at e6; cases e6
theorem s_tup {l : Exs} {l' : List Expr} {k : Nat} (hl : PA X l' (tA X T F Z l)) : PE X (.Tuple l' k pos) (tE X T F Z (.tup l)) := by
  refine wkE (pe_tup hl) ?_
  rintro σ H Q ⟨ρ, W, R, h⟩
  refine ⟨ρ, W, R, (Post.bind h).imp fun ps ρ1 h1 vs H1 W1 o1 => ?_⟩
  obtain ⟨⟨ds, ρ2⟩, ex, h3⟩ := Post.val .of h1
  obtain ⟨c, h3⟩ := Post.need h3
  obtain ⟨W2, g, q⟩ := o1.data (of_ok ex)
  refine ⟨by rw [q.length]; exact c, fun p n => ?_⟩
  exact (g.res h3 (fun _ z => by cases z)).tup g.rel.wl q n
theorem s_lst {l : Exs} {l' : List Expr} (hl : PA X l' (tA X T F Z l)) : PE X (.List l' pos) (tE X T F Z (.lst l)) := by
  refine wkE (pe_lst hl) ?_
  rintro σ H Q ⟨ρ, W, R, h⟩
  refine ⟨ρ, W, R, (Post.bind h).imp fun ps ρ1 h1 vs H1 W1 o1 => ?_⟩
  obtain ⟨⟨ds, ρ2⟩, ex, h3⟩ := Post.val .of h1
  obtain ⟨c, h3⟩ := Post.need h3
  obtain ⟨W2, g, q⟩ := o1.data (of_ok ex)
  refine ⟨by rw [q.length]; exact c, fun p n => ?_⟩
  exact (g.res h3 (fun _ z => by cases z)).lst q n
end
end Dv

set_option Elab.async false
set_option linter.all false
set_option maxRecDepth 100000
namespace Dv
open PySem PySem.Spec PyProof.Rows L2

section
variable {X : Cx} {Z : WX} {T : Tc} {F : Fn} {σ : Sg} {H H0 H1 H2 : Hp} {ρ ρ1 ρ2 ρ' : Env'} {W W1 W2 : AS} {K : PySem.W.Frag}

/-! ### subscripts -/
theorem atI_rep {l : List D} {vs : List V} {i : Int} {d : D} (r : RepDs K H W vs l) (h : atI l i = some d) : ∃ v, atI vs i = some v ∧ RepD K H W v d := by
  unfold atI at h ⊢
  rw [r.length]
  cases e : ixN l.length i with
  | none => rw [e] at h; cases h
  | some j =>
    rw [e] at h
    exact r.get h
theorem atI_map {α β : Type} {l : List α} {f : α → β} {i : Int} {d : α} (h : atI l i = some d) : atI (l.map f) i = some (f d) := by
  unfold atI at h ⊢
  rw [List.length_map]
  cases e : ixN l.length i with
  | none => rw [e] at h; cases h
  | some j =>
    rw [e] at h
    have h : l[j]? = some d := h
    show (l.map f)[j]? = some (f d)
    rw [List.getElem?_map, h]
    rfl
theorem idx_ok {x y : V} {d e r : D} {Q : VK} (hd : RepK K H W x d) (he : RepK K H W y e) (h : dIdx d e = .ok r) (q : ∀ v, RepD K H W v r → Q v H) : rIx K x y H Q := by
  unfold dIdx at h
  split at h
  · obtain ⟨a, vs, rfl, e1, r1⟩ := hd.tup
    obtain ⟨v, e2, r2⟩ := atI_rep r1 (of_ok h)
    exact .inr (.inl ⟨a, vs, _, v, rfl, he.int, e1.sq, e2, q v r2⟩)
  · obtain ⟨a, vs, rfl, e1, r1⟩ := hd.lst
    obtain ⟨v, e2, r2⟩ := atI_rep r1 (of_ok h)
    exact .inl ⟨a, vs, _, v, rfl, he.int, .of e1, e2, q v r2⟩
  · rename_i l i
    obtain ⟨a, rfl, e1⟩ := hd.scr
    cases z : atI l i with
    | none => rw [z] at h; cases h
    | some k =>
      rw [z] at h
      cases h
      exact .inl ⟨a, _, _, .int k, rfl, he.int, e1, atI_map z, q _ rfl⟩
  · rename_i z i
    obtain ⟨c, h⟩ := need_ok h
    cases e : atI z.cps.toList i with
    | none => rw [e] at h; cases h
    | some k =>
      rw [e] at h
      cases h
      exact .inr (.inr ⟨z, i, k, hd.str, he.int, c, e, q _ rfl⟩)
  · cases h
theorem s_idx (tk : T.K = X.K) {a b : Ex} {a' b' : Expr} {pos : Pos} (hp : PlainIx b') (ha : PE X a' (tE X T F Z a)) (hb : PE X b' (tE X T F Z b)) : PE X (.Subscript a' b' pos) (tE X T F Z (.idx a b)) := by
  refine wkE (pe_ix ix_seq ha hb hp) ?_
  rintro σ H Q ⟨ρ, W, R, h⟩
  refine ⟨ρ, W, R, (Post.bind h).imp fun p1 ρ1 h1 v1 H1 W1 o1 => ⟨ρ1, W1, o1.go.rel, ((Post.bind h1).move o1.go.step).imp fun p2 ρ2 h2 v2 H2 W2 o2 => ?_⟩⟩
  obtain ⟨x, ex, h3⟩ := Post.val .pk h2
  obtain ⟨y, ey, h4⟩ := Post.val .pk h3
  obtain ⟨d, ed, h5⟩ := Post.val .dIdx h4
  have kx := peek_ok o2.go.rel (o1.rep.step o1.go.rel o2.go.step o2.go.mon) (pk_of ex)
  have ky := peek_ok o2.go.rel o2.rep (pk_of ey)
  rw [← tk]
  exact idx_ok kx ky ed fun v r => h5 _ _ _ (.val (o1.go.trans o2.go) r)

/-! ### slices -/
def tO (X : Cx) (T : Tc) (F : Fn) (Z : WX) (o : Eo) : TO := fun σ H Q => ∃ ρ W, Rel T σ H ρ W ∧ Post X Z (evo F o ρ) σ H ρ fun i ρ' => ∀ H' W', Go T σ H ρ W H' ρ' W' → Q i H'
theorem wkO {e : Option Expr} {t t' : TO} (h : PO X e t) (w : ∀ σ H Q, t' σ H Q → t σ H Q) : PO X e t' := ⟨fun pins s σ H Q I q => h.run pins s σ H Q I (w σ H Q q)⟩
theorem s_onone : PO X none (tO X T F Z .none) := by
  refine wkO po_none ?_
  rintro σ H Q ⟨ρ, W, R, h⟩
  exact h H W (Go.refl R)
theorem s_osome {e : Ex} {e' : Expr} (he : PE X e' (tE X T F Z e)) : PO X (some e') (tO X T F Z (.some e)) := by
  refine wkO (po_some he) ?_
  rintro σ H Q ⟨ρ, W, R, h⟩
  refine ⟨ρ, W, R, (Post.bind h).imp fun p1 ρ1 h1 v1 H1 W1 o1 => ?_⟩
  obtain ⟨x, ex, h3⟩ := Post.val .pk h1
  have kx := peek_ok o1.go.rel o1.rep (pk_of ex)
  cases x with
  | int i => exact ⟨i, kx.int, h3 _ _ o1.go⟩
  | _ => exact h3.elim
def rSl (K : PySem.W.Frag) : V → Option Int → Option Int → Hp → VK → Prop := fun x lo hi H Q => rSlL K x lo hi H Q ∨ rSlA K x lo hi H Q ∨ rSlS x lo hi H Q
theorem sl_any : SlR X (rSl X.K) := sl_list.or (sl_tupA.or sl_str)
theorem slc_ok (wl : WL H W) {x : V} {d : D} {lo hi : Option Int} {p : P} {Q : VK} (hd : RepK K H W x d) (h : dSlc d lo hi = .ok p) (q : ResQ K H W p Q) : rSl K x lo hi H Q := by
  unfold dSlc at h
  split at h
  · obtain ⟨c, h⟩ := need_ok h
    cases h
    exact .inr (.inr ⟨_, hd.str, c, q.flat rfl⟩)
  · cases h
    obtain ⟨a, vs, rfl, e1, r1⟩ := hd.lst
    refine .inl ⟨a, vs, rfl, .of e1, fun p n => ?_⟩
    have r2 := (r1.drop (HT.sIx vs.length 0 lo)).take (HT.sIx vs.length vs.length hi - HT.sIx vs.length 0 lo)
    rw [← r1.length] at q
    exact q.lst r2 n
  · cases h
    obtain ⟨a, vs, rfl, e1, r1⟩ := hd.tup
    rw [← r1.length] at q
    refine .inr (.inl ⟨a, vs, rfl, e1.sq, fun ⟨z1, z2⟩ => ?_, fun _ p n => ?_⟩)
    · rw [z1, z2, List.drop_zero, List.take_of_length_le (by rw [r1.length]; omega)] at q
      exact q.flat ⟨a, vs, rfl, e1, r1⟩
    · exact q.tup wl ((r1.drop (HT.sIx vs.length 0 lo)).take (HT.sIx vs.length vs.length hi - HT.sIx vs.length 0 lo)) n
  · cases h
theorem dSlc_np {x : D} {lo hi : Option Int} {p : P} (h : dSlc x lo hi = .ok p) (i : Nat) : p ≠ .at_ i := by
  unfold dSlc at h
  split at h <;> first | (cases h; done) | (cases h; simp; done) | (obtain ⟨_, h⟩ := need_ok h; cases h; simp)
theorem s_slc (tk : T.K = X.K) {a : Ex} {lo hi : Eo} {a' : Expr} {lo' hi' : Option Expr} {pos p2 : Pos} (ha : PE X a' (tE X T F Z a)) (hl : PO X lo' (tO X T F Z lo)) (hh : PO X hi' (tO X T F Z hi)) :
    PE X (.Subscript a' (.Slice lo' hi' none p2) pos) (tE X T F Z (.slc a lo hi)) := by
  refine wkE (pe_slice sl_any ha hl hh) ?_
  rintro σ H Q ⟨ρ, W, R, h⟩
  refine ⟨ρ, W, R, (Post.bind h).imp fun p1 ρ1 h1 v1 H1 W1 o1 => ⟨ρ1, W1, o1.go.rel, ((Post.bind h1).move o1.go.step).imp fun l ρ2 h2 H2 W2 g2 => ⟨ρ2, W2, g2.rel, ((Post.bind h2).move (o1.go.trans g2).step).imp fun u ρ3 h3 H3 W3 g3 => ?_⟩⟩⟩
  obtain ⟨x, ex, h4⟩ := Post.val .pk h3
  obtain ⟨p, ep, h5⟩ := Post.val .dSlc h4
  have kx := peek_ok g3.rel ((o1.rep.step o1.go.rel g2.step g2.mon).step g2.rel g3.step g3.mon) (pk_of ex)
  rw [← tk]
  exact slc_ok g3.rel.wl kx ep (((o1.go.trans g2).trans g3).res (p := p) h5 (dSlc_np ep))

/-! ### truth, and, or -/
theorem nil_iff {vs : List V} {l : List D} (r : RepDs K H W vs l) : vs.isEmpty = l.isEmpty := by
  have e := r.length
  cases vs <;> cases l <;> simp_all
theorem truth_ok {v : V} {d : D} {b : Bool} (h : RepK K H W v d) (e : truth d = .ok b) : TruV K v H b := by
  unfold truth at e
  split at e
  · cases e; rw [h.non]; rfl
  · cases e; rw [h.bl]; rfl
  · cases e; rw [h.int]; rfl
  · obtain ⟨c, e⟩ := need_ok e
    cases e; rw [h.str]; exact ⟨c, rfl⟩
  · cases e
    obtain ⟨a, vs, rfl, e1, r⟩ := h.tup
    exact .inr (.inl ⟨vs, e1.sq, by rw [nil_iff r]⟩)
  · cases e
    obtain ⟨a, vs, rfl, e1, r⟩ := h.lst
    exact .inl ⟨vs, .of e1, by rw [nil_iff r]⟩
  · cases e
    obtain ⟨a, kvs, rfl, e1, k, r⟩ := h.dic
    refine .inr (.inr ⟨kvs, e1, ?_⟩)
    rw [← k]
    cases kvs <;> rfl
  · cases e
    obtain ⟨a, rfl, e1⟩ := h.scr
    refine .inl ⟨_, e1, ?_⟩
    rename_i l
    cases l <;> rfl
theorem s_tval (tk : T.K = X.K) {a : Ex} {a' : Expr} (he : ∀ whole, isTrue a' X.env whole = (do let v ← whole; standAt a'.pos; holding [v] (truthy v))) (ha : PE X a' (tE X T F Z a)) : PT X a' (tT X T F Z (.val a)) := by
  refine wkT (pt_truth ha he) ?_
  rintro σ H Q ⟨ρ, W, R, h⟩
  refine ⟨ρ, W, R, (Post.bind h).imp fun p1 ρ1 h1 v1 H1 W1 o1 => ?_⟩
  obtain ⟨x, ex, h3⟩ := Post.val .pk h1
  obtain ⟨b, eb, h4⟩ := Post.val .truth h3
  rw [← tk]
  exact ⟨b, truth_ok (peek_ok o1.go.rel o1.rep (pk_of ex)) eb, h4 _ _ o1.go⟩
def tTAnd (X : Cx) (T : Tc) (F : Fn) (Z : WX) (t : Txs) : TT := fun σ H Q => ∃ ρ W, Rel T σ H ρ W ∧ Post X Z (evTAnd F t ρ) σ H ρ fun b ρ' => ∀ H' W', Go T σ H ρ W H' ρ' W' → Q b H'
def tTOr (X : Cx) (T : Tc) (F : Fn) (Z : WX) (t : Txs) : TT := fun σ H Q => ∃ ρ W, Rel T σ H ρ W ∧ Post X Z (evTOr F t ρ) σ H ρ fun b ρ' => ∀ H' W', Go T σ H ρ W H' ρ' W' → Q b H'
theorem wkW {e : Expr} {t t' : TT} (h : PW X e t) (w : ∀ σ H Q, t' σ H Q → t σ H Q) : PW X e t' := ⟨fun wh pins s σ H Q I q => h.run wh pins s σ H Q I (w σ H Q q)⟩
variable {t : Tx} {l : Txs} {a' b' : Expr} {r' : List Expr} {pos : Pos}
theorem s_tand1 (ha : PT X a' (tT X T F Z t)) : PW X (.BoolOp .And [a'] pos) (tTAnd X T F Z (.cons t .nil)) := by
  refine wkW (pw_and1 ha) ?_
  rintro σ H Q ⟨ρ, W, R, h⟩
  refine ⟨ρ, W, R, (Post.bind h).imp fun k ρ1 h1 H1 W1 g1 => ?_⟩
  cases k with
  | true => exact h1 _ _ g1
  | false => exact h1 _ _ g1
theorem s_tor1 (ha : PT X a' (tT X T F Z t)) : PW X (.BoolOp .Or [a'] pos) (tTOr X T F Z (.cons t .nil)) := by
  refine wkW (pw_or1 ha) ?_
  rintro σ H Q ⟨ρ, W, R, h⟩
  refine ⟨ρ, W, R, (Post.bind h).imp fun k ρ1 h1 H1 W1 g1 => ?_⟩
  cases k with
  | true => exact h1 _ _ g1
  | false => exact h1 _ _ g1
theorem s_tand (ha : PT X a' (tT X T F Z t)) (hb : PW X (.BoolOp .And (b' :: r') pos) (tTAnd X T F Z l)) : PW X (.BoolOp .And (a' :: b' :: r') pos) (tTAnd X T F Z (.cons t l)) := by
  refine wkW (pw_and ha hb) ?_
  rintro σ H Q ⟨ρ, W, R, h⟩
  refine ⟨ρ, W, R, (Post.bind h).imp fun k ρ1 h1 H1 W1 g1 => ?_⟩
  cases k with
  | true =>
    rw [if_pos rfl]
    exact ⟨ρ1, W1, g1.rel, (Post.move h1 g1.step).imp fun k2 ρ2 h2 H2 W2 g2 => h2 _ _ (g1.trans g2)⟩
  | false =>
    rw [if_neg (by simp)]
    exact h1 _ _ g1
theorem s_tor (ha : PT X a' (tT X T F Z t)) (hb : PW X (.BoolOp .Or (b' :: r') pos) (tTOr X T F Z l)) : PW X (.BoolOp .Or (a' :: b' :: r') pos) (tTOr X T F Z (.cons t l)) := by
  refine wkW (pw_or ha hb) ?_
  rintro σ H Q ⟨ρ, W, R, h⟩
  refine ⟨ρ, W, R, (Post.bind h).imp fun k ρ1 h1 H1 W1 g1 => ?_⟩
  cases k with
  | false =>
    rw [if_neg (by simp)]
    exact ⟨ρ1, W1, g1.rel, (Post.move h1 g1.step).imp fun k2 ρ2 h2 H2 W2 g2 => h2 _ _ (g1.trans g2)⟩
  | true =>
    rw [if_pos rfl]
    exact h1 _ _ g1
/-! .. as values -/
def tVAnd (X : Cx) (T : Tc) (F : Fn) (Z : WX) (t : Exs) : TE := fun σ H Q => ∃ ρ W, Rel T σ H ρ W ∧ Post X Z (evAnd F t ρ) σ H ρ fun b ρ' => ∀ H' W', Go T σ H ρ W H' ρ' W' → Q (.bl b) H'
def tVOr (X : Cx) (T : Tc) (F : Fn) (Z : WX) (t : Exs) : TE := fun σ H Q => ∃ ρ W, Rel T σ H ρ W ∧ Post X Z (evOr F t ρ) σ H ρ fun b ρ' => ∀ H' W', Go T σ H ρ W H' ρ' W' → Q (.bl b) H'
variable {a : Ex} {m : Exs}
theorem s_vand1 (ha : PE X a' (tE X T F Z a)) : PE X (.BoolOp .And [a'] pos) (tVAnd X T F Z (.cons a .nil)) := by
  refine wkE (pe_one ha) ?_
  rintro σ H Q ⟨ρ, W, R, h⟩
  refine ⟨ρ, W, R, (Post.bind h).imp fun p1 ρ1 h1 v1 H1 W1 o1 => ?_⟩
  obtain ⟨⟨k, ρ2⟩, ex, h3⟩ := Post.val .asB h1
  obtain ⟨rfl, rfl⟩ := asB_ok ex
  rw [show v1 = .bl k from o1.rep]
  cases k with
  | true => exact h3 _ _ o1.go
  | false => exact h3 _ _ o1.go
theorem s_vor1 (ha : PE X a' (tE X T F Z a)) : PE X (.BoolOp .Or [a'] pos) (tVOr X T F Z (.cons a .nil)) := by
  refine wkE (pe_one ha) ?_
  rintro σ H Q ⟨ρ, W, R, h⟩
  refine ⟨ρ, W, R, (Post.bind h).imp fun p1 ρ1 h1 v1 H1 W1 o1 => ?_⟩
  obtain ⟨⟨k, ρ2⟩, ex, h3⟩ := Post.val .asB h1
  obtain ⟨rfl, rfl⟩ := asB_ok ex
  rw [show v1 = .bl k from o1.rep]
  cases k with
  | true => exact h3 _ _ o1.go
  | false => exact h3 _ _ o1.go
theorem s_vand (ha : PE X a' (tE X T F Z a)) (hb : PE X (.BoolOp .And (b' :: r') pos) (tVAnd X T F Z m)) : PE X (.BoolOp .And (a' :: b' :: r') pos) (tVAnd X T F Z (.cons a m)) := by
  refine wkE (pe_and ha hb) ?_
  rintro σ H Q ⟨ρ, W, R, h⟩
  refine ⟨ρ, W, R, (Post.bind h).imp fun p1 ρ1 h1 v1 H1 W1 o1 => ?_⟩
  obtain ⟨⟨k, ρ2⟩, ex, h3⟩ := Post.val .asB h1
  obtain ⟨rfl, rfl⟩ := asB_ok ex
  refine ⟨k, o1.rep, ?_⟩
  cases k with
  | true =>
    rw [if_pos rfl]
    exact ⟨ρ2, W1, o1.go.rel, (Post.move h3 o1.go.step).imp fun k2 ρ2 h2 H2 W2 g2 => h2 _ _ (o1.go.trans g2)⟩
  | false =>
    rw [if_neg (by simp)]
    exact h3 _ _ o1.go
theorem s_vor (ha : PE X a' (tE X T F Z a)) (hb : PE X (.BoolOp .Or (b' :: r') pos) (tVOr X T F Z m)) : PE X (.BoolOp .Or (a' :: b' :: r') pos) (tVOr X T F Z (.cons a m)) := by
  refine wkE (pe_or ha hb) ?_
  rintro σ H Q ⟨ρ, W, R, h⟩
  refine ⟨ρ, W, R, (Post.bind h).imp fun p1 ρ1 h1 v1 H1 W1 o1 => ?_⟩
  obtain ⟨⟨k, ρ2⟩, ex, h3⟩ := Post.val .asB h1
  obtain ⟨rfl, rfl⟩ := asB_ok ex
  refine ⟨k, o1.rep, ?_⟩
  cases k with
  | false =>
    rw [if_neg (by simp)]
    exact ⟨ρ2, W1, o1.go.rel, (Post.move h3 o1.go.step).imp fun k2 ρ2 h2 H2 W2 g2 => h2 _ _ (o1.go.trans g2)⟩
  | true =>
    rw [if_pos rfl]
    exact h3 _ _ o1.go
theorem s_and (h : PE X a' (tVAnd X T F Z m)) : PE X a' (tE X T F Z (.and_ m)) := by
  refine wkE h ?_
  rintro σ H Q ⟨ρ, W, R, h⟩
  exact ⟨ρ, W, R, (Post.bind h).imp fun k ρ1 h1 H1 W1 g1 => h1 _ _ _ (.val g1 rfl)⟩
theorem s_or (h : PE X a' (tVOr X T F Z m)) : PE X a' (tE X T F Z (.or_ m)) := by
  refine wkE h ?_
  rintro σ H Q ⟨ρ, W, R, h⟩
  exact ⟨ρ, W, R, (Post.bind h).imp fun k ρ1 h1 H1 W1 g1 => h1 _ _ _ (.val g1 rfl)⟩
end
end Dv

set_option Elab.async false
set_option linter.all false
set_option maxRecDepth 100000
namespace Dv
open PySem PySem.Spec PyProof.Rows L2

def RepKs (K : PySem.W.Frag) (H : Hp) (W : AS) : List V → List D → Prop
  | vs, [] => vs = []
  | vs, d :: ds => ∃ v r, vs = v :: r ∧ RepK K H W v d ∧ RepKs K H W r ds
section
variable {X : Cx} {Z : WX} {T : Tc} {F : Fn} {σ : Sg} {H H0 H1 H2 : Hp} {ρ ρ1 ρ2 ρ' : Env'} {W W1 W2 : AS} {K : PySem.W.Frag}
theorem pks_ok (R : Rel T σ H ρ W) : ∀ {ps : List P} {vs : List V} {ds : List D}, RepPs T σ H0 H ρ W vs ps → pks ps ρ = .ok ds → RepKs T.K H W vs ds
  | [], _, _, h, e => by cases e; exact h
  | p :: ps, _, ds, h, e => by
    obtain ⟨v, r, rfl, q, _, t⟩ := h
    have e : ((pk p ρ).bind fun d => (pks ps ρ).bind fun ds => .ok (d :: ds)) = .ok ds := e
    cases e1 : pk p ρ with
    | bad => rw [e1] at e; cases e
    | err x => rw [e1] at e; cases e
    | ok d =>
      rw [e1] at e
      have e : ((pks ps ρ).bind fun ds => .ok (d :: ds)) = .ok ds := e
      cases e2 : pks ps ρ with
      | bad => rw [e2] at e; cases e
      | err x => rw [e2] at e; cases e
      | ok ds' =>
        rw [e2] at e
        cases e
        exact ⟨v, r, rfl, peek_ok R q (pk_of e1), pks_ok R t e2⟩
theorem RepKs.one {vs : List V} {d : D} (h : RepKs K H W vs [d]) : ∃ v, vs = [v] ∧ RepK K H W v d := by
  obtain ⟨v, r, rfl, q, t⟩ := h
  rw [show r = [] from t]
  exact ⟨v, rfl, q⟩
theorem RepKs.two {vs : List V} {d e : D} (h : RepKs K H W vs [d, e]) : ∃ v u, vs = [v, u] ∧ RepK K H W v d ∧ RepK K H W u e := by
  obtain ⟨v, r, rfl, q, t⟩ := h
  obtain ⟨u, rfl, q2⟩ := t.one
  exact ⟨v, u, rfl, q, q2⟩

/-! ### built-in functions -/
def Ty.nm : Ty → String
  | .tup => "tuple" | .lst => "list" | .int => "int" | .str => "str" | .bool => "bool"
def Bl.f : Bl → Value
  | .len => .builtin "len" | .abs => .builtin "abs" | .int => .type "int" | .tuple => .type "tuple" | .list => .type "list" | .all => .builtin "all" | .any => .builtin "any" | .sum => .builtin "sum"
  | .gcd => .builtin "math.gcd" | .min2 => .builtin "min" | .max2 => .builtin "max" | .str => .type "str"
def rBl (K : PySem.W.Frag) : Bl → List V → Hp → VK → Prop
  | .len => fun xs H Q => ∃ x n, xs = [x] ∧ LenV K x H n ∧ Q (.int n) H
  | .abs => fun xs H Q => ∃ i, xs = [.int i] ∧ Q (.int (if i < 0 then -i else i)) H
  | .int => fun xs H Q => (∃ i, xs = [.int i] ∧ Q (.int i) H) ∨ ∃ k, xs = [.bl k] ∧ Q (.int (if k then 1 else 0)) H
  | .tuple => fun xs H Q => ∃ p ys, xs = [.ref p] ∧ ((SqL K H p ys ∧ ∀ l, H l = none → Q (.ref l) (upd H l (.tup ys))) ∨ (SqT K H p ys ∧ Q (.ref p) H))
  | .list => fun xs H Q => ∃ p ys, xs = [.ref p] ∧ (SqL K H p ys ∨ SqT K H p ys) ∧ ∀ l, H l = none → Q (.ref l) (upd H l (.lst ys))
  | .all => rAll K
  | .any => rAny K
  | .sum => rSum K
  | .gcd => rGcd
  | .min2 => fun xs H Q => ∃ i j, xs = [.int i, .int j] ∧ Q (.int (if j < i then j else i)) H
  | .max2 => fun xs H Q => ∃ i j, xs = [.int i, .int j] ∧ Q (.int (if j > i then j else i)) H
  | .str => fun xs H Q => ∃ i, xs = [.int i] ∧ i.natAbs.log2 < 1920 ∧ Q (.str (toString i)) H
theorem cr_bl (hc : X.calm = true) : ∀ b : Bl, CallR X b.f (rBl X.K b) := fun b => by
  cases b with
  | len => exact call_len
  | abs => exact call_abs
  | int => exact call_int1
  | tuple => exact call_tuple_of
  | list => exact call_list_of
  | all => exact cr_all hc
  | any => exact cr_any hc
  | sum => exact cr_sum hc
  | gcd => exact cr_gcd
  | min2 => exact call_min2 hc
  | max2 => exact call_max2 hc
  | str => exact call_str_int
theorem bls_rep : ∀ {l : List D} {bs : List Bool} {vs : List V}, RepDs K H W vs l → bls l = some bs → vs = bs.map V.bl
  | [], _, _, h, e => by cases e; exact h
  | .bl b :: l, bs, _, h, e => by
    obtain ⟨v, r, rfl, q, t⟩ := h
    have e : (bls l).map (b :: ·) = some bs := e
    cases e1 : bls l with
    | none => rw [e1] at e; cases e
    | some x =>
      rw [e1] at e; cases e
      rw [show v = .bl b from q, bls_rep t e1]; rfl
  | .non :: _, _, _, _, e => by cases e
  | .int _ :: _, _, _, _, e => by cases e
  | .str _ :: _, _, _, _, e => by cases e
  | .tup _ :: _, _, _, _, e => by cases e
  | .lst _ :: _, _, _, _, e => by cases e
  | .dic _ _ :: _, _, _, _, e => by cases e
  | .scr _ :: _, _, _, _, e => by cases e
theorem ints_rep : ∀ {l : List D} {bs : List Int} {vs : List V}, RepDs K H W vs l → intsD l = some bs → vs = bs.map V.int
  | [], _, _, h, e => by cases e; exact h
  | .int b :: l, bs, _, h, e => by
    obtain ⟨v, r, rfl, q, t⟩ := h
    have e : (intsD l).map (b :: ·) = some bs := e
    cases e1 : intsD l with
    | none => rw [e1] at e; cases e
    | some x =>
      rw [e1] at e; cases e
      rw [show v = .int b from q, ints_rep t e1]; rfl
  | .non :: _, _, _, _, e => by cases e
  | .bl _ :: _, _, _, _, e => by cases e
  | .str _ :: _, _, _, _, e => by cases e
  | .tup _ :: _, _, _, _, e => by cases e
  | .lst _ :: _, _, _, _, e => by cases e
  | .dic _ _ :: _, _, _, _, e => by cases e
  | .scr _ :: _, _, _, _, e => by cases e
theorem strs_rep : ∀ {l : List D} {bs : List Str} {vs : List V}, RepDs K H W vs l → strsD l = some bs → vs = bs.map V.str
  | [], _, _, h, e => by cases e; exact h
  | .str b :: l, bs, _, h, e => by
    obtain ⟨v, r, rfl, q, t⟩ := h
    have e : (strsD l).map (b :: ·) = some bs := e
    cases e1 : strsD l with
    | none => rw [e1] at e; cases e
    | some x =>
      rw [e1] at e; cases e
      rw [show v = .str b from q, strs_rep t e1]; rfl
  | .non :: _, _, _, _, e => by cases e
  | .bl _ :: _, _, _, _, e => by cases e
  | .int _ :: _, _, _, _, e => by cases e
  | .tup _ :: _, _, _, _, e => by cases e
  | .lst _ :: _, _, _, _, e => by cases e
  | .dic _ _ :: _, _, _, _, e => by cases e
  | .scr _ :: _, _, _, _, e => by cases e
theorem strs_of (ys : List Str) : RepDs K H W (ys.map V.str) (ys.map D.str) := by
  induction ys with
  | nil => rfl
  | cons y ys ih => exact ⟨.str y, _, rfl, rfl, ih⟩
theorem ints_of (ys : List Int) : RepDs K H W (ys.map V.int) (ys.map D.int) := by
  induction ys with
  | nil => rfl
  | cons y ys ih => exact ⟨.int y, _, rfl, rfl, ih⟩
/-- the type's name of data -/
def tyOf : D → String
  | .non => "NoneType" | .bl _ => "bool" | .int _ => "int" | .str _ => "str" | .tup _ => "tuple" | .lst _ => "list" | .dic _ _ => "dict" | .scr _ => "list"
theorem tyx_of {v : V} {d : D} (h : RepK K H W v d) (ns : ∀ l, d ≠ .scr l) : TyX K H v (.type (tyOf d)) := by
  cases d with
  | non => rw [h.non]; exact .base .non
  | bl b => rw [h.bl]; exact .base (.bl b)
  | int b => rw [h.int]; exact .base (.int b)
  | str b => rw [h.str]; exact .base (.str b)
  | tup l =>
    obtain ⟨a, vs, rfl, e, _⟩ := h.tup
    rcases e with e | ⟨o, its, n, e1, e2, _⟩
    · exact .base (.tup e)
    · exact .kTuple e1 e2
  | lst l => obtain ⟨a, vs, rfl, e, _⟩ := h.lst; exact .base (.lst e)
  | dic ks l => obtain ⟨a, kvs, rfl, e, _⟩ := h.dic; exact .base (.dK e)
  | scr l => exact absurd rfl (ns l)
theorem kit_tab (t : Ty) (d : D) (b : Bool) (h : isTy t d = .ok b) : kitB (tyOf d) t.nm = some b := by
  cases t <;> cases d <;> cases h <;> (dsimp only [tyOf, Ty.nm]; decide +kernel)
theorem isTy_ns {t : Ty} {d : D} {b : Bool} (h : isTy t d = .ok b) (l : List Int) : d ≠ .scr l := fun e => by
  subst e
  cases t <;> cases h
theorem len_ok {v : V} {d : D} {n : Nat} (h : RepK K H W v d) (e : dLen d = .ok n) : LenV K v H n := by
  unfold dLen at e
  split at e
  · cases e
    obtain ⟨a, vs, rfl, e1, r⟩ := h.tup
    exact .inr ⟨vs, e1.sq, r.length.symm⟩
  · cases e
    obtain ⟨a, vs, rfl, e1, r⟩ := h.lst
    exact .inl ⟨vs, .of e1, r.length.symm⟩
  · cases e
    obtain ⟨a, rfl, e1⟩ := h.scr
    exact .inl ⟨_, e1, by rw [List.length_map]⟩
  · obtain ⟨c, e⟩ := need_ok e
    cases e
    rw [h.str]
    exact ⟨c, rfl⟩
  · cases e
/-- all but isinstance -/
theorem bl_ok (wl : WL H W) {b : Bl} {vs : List V} {ds : List D} {p : P} {Q : VK} (h : RepKs K H W vs ds) (e : dBl b ds = .ok p) (q : ResQ K H W p Q) : rBl K b vs H Q := by
  unfold dBl at e
  split at e
  · obtain ⟨v, rfl, k⟩ := h.one
    rename_i d
    cases e1 : dLen d with
    | bad => rw [e1] at e; cases e
    | err x => rw [e1] at e; cases e
    | ok n =>
      rw [e1] at e; cases e
      exact ⟨v, n, rfl, len_ok k e1, q.flat rfl⟩
  · cases e
    obtain ⟨v, rfl, k⟩ := h.one
    exact ⟨_, by rw [k.int], q.flat rfl⟩
  · cases e
    obtain ⟨v, rfl, k⟩ := h.one
    exact .inl ⟨_, by rw [k.int], q.flat rfl⟩
  · cases e
    obtain ⟨v, rfl, k⟩ := h.one
    exact .inr ⟨_, by rw [k.bl], q.flat rfl⟩
  · cases e
    obtain ⟨v, rfl, k⟩ := h.one
    obtain ⟨a, us, rfl, e1, r⟩ := k.tup
    exact ⟨a, us, rfl, .inr ⟨e1.sq, q.flat ⟨a, us, rfl, e1, r⟩⟩⟩
  · cases e
    obtain ⟨v, rfl, k⟩ := h.one
    obtain ⟨a, us, rfl, e1, r⟩ := k.lst
    exact ⟨a, us, rfl, .inl ⟨.of e1, fun l n => q.tup wl r n⟩⟩
  · cases e
    obtain ⟨v, rfl, k⟩ := h.one
    obtain ⟨a, rfl, e1⟩ := k.scr
    exact ⟨a, _, rfl, .inl ⟨e1, fun l n => q.tup wl (ints_of _) n⟩⟩
  · cases e
    obtain ⟨v, rfl, k⟩ := h.one
    obtain ⟨a, us, rfl, e1, r⟩ := k.tup
    exact ⟨a, us, rfl, .inr e1.sq, fun l n => q.lst r n⟩
  · cases e
    obtain ⟨v, rfl, k⟩ := h.one
    obtain ⟨a, us, rfl, e1, r⟩ := k.lst
    exact ⟨a, us, rfl, .inl (.of e1), fun l n => q.lst r n⟩
  · cases e
    obtain ⟨v, rfl, k⟩ := h.one
    obtain ⟨a, rfl, e1⟩ := k.scr
    exact ⟨a, _, rfl, .inl e1, fun l n => q.lst (ints_of _) n⟩
  · rename_i l
    obtain ⟨v, rfl, k⟩ := h.one
    obtain ⟨a, us, rfl, e1, r⟩ := k.lst
    cases e2 : bls l with
    | none => rw [e2] at e; cases e
    | some bs =>
      rw [e2] at e; cases e
      exact ⟨a, bs, rfl, by rw [← bls_rep r e2]; exact .of e1, q.flat rfl⟩
  · rename_i l
    obtain ⟨v, rfl, k⟩ := h.one
    obtain ⟨a, us, rfl, e1, r⟩ := k.lst
    cases e2 : bls l with
    | none => rw [e2] at e; cases e
    | some bs =>
      rw [e2] at e; cases e
      exact ⟨a, bs, rfl, by rw [← bls_rep r e2]; exact .of e1, q.flat rfl⟩
  · rename_i l
    obtain ⟨v, rfl, k⟩ := h.one
    obtain ⟨a, us, rfl, e1, r⟩ := k.lst
    cases e2 : intsD l with
    | none => rw [e2] at e; cases e
    | some bs =>
      rw [e2] at e; cases e
      exact ⟨a, bs, rfl, by rw [← ints_rep r e2]; exact .of e1, q.flat rfl⟩
  · cases e
    obtain ⟨v, u, rfl, k1, k2⟩ := h.two
    exact ⟨_, _, by rw [k1.int, k2.int], q.flat rfl⟩
  · cases e
    obtain ⟨v, u, rfl, k1, k2⟩ := h.two
    exact ⟨_, _, by rw [k1.int, k2.int], q.flat rfl⟩
  · cases e
    obtain ⟨v, u, rfl, k1, k2⟩ := h.two
    exact ⟨_, _, by rw [k1.int, k2.int], q.flat rfl⟩
  · cases e
theorem dBl_np {b : Bl} {ds : List D} {p : P} (h : dBl b ds = .ok p) (i : Nat) : p ≠ .at_ i := by
  have key : ∀ {α : Type} {r : Rs α} {f : α → P}, (r.bind fun x => .ok (f x)) = .ok p → (∀ x, f x ≠ .at_ i) → p ≠ .at_ i := fun {α r f} e n => by
    cases r with
    | ok x => cases e; exact n x
    | err x => cases e
    | bad => cases e
  unfold dBl at h
  split at h <;> first | (cases h; done) | (cases h; simp; done) | exact key h (fun _ z => by cases z)
/-- the text of a call of a built-in function -/
theorem s_blt (hc : X.calm = true) (tk : T.K = X.K) {b : Bl} {l : Exs} {e' : Expr} (h : ∀ t : TA, t = tA X T F Z l → PE X e' (tCB (rBl X.K b) t)) : PE X e' (tE X T F Z (.blt b l)) := by
  refine wkE (h _ rfl) ?_
  rintro σ H Q ⟨ρ, W, R, h⟩
  refine ⟨ρ, W, R, (Post.bind h).imp fun ps ρ1 h1 vs H1 W1 o1 => ?_⟩
  obtain ⟨ds, ex, h3⟩ := Post.val .pks h1
  obtain ⟨p, ep, h4⟩ := Post.val .dBl h3
  rw [← tk]
  exact bl_ok o1.go.rel.wl (pks_ok o1.go.rel o1.rep ex) ep (o1.go.res (p := p) h4 (dBl_np ep))
/-- isinstance(x, T) -/
theorem s_isi (tk : T.K = X.K) {t : Ty} {a : Ex} {e' : Expr} (h : ∀ u : TE, u = tE X T F Z a → PE X e' (tCB (rIsi X.K) (tCons u (tCons (tC (.ty t.nm)) tNil)))) : PE X e' (tE X T F Z (.isi t a)) := by
  refine wkE (h _ rfl) ?_
  rintro σ H Q ⟨ρ, W, R, h⟩
  refine ⟨ρ, W, R, (Post.bind h).imp fun p1 ρ1 h1 v1 H1 W1 o1 => ?_⟩
  obtain ⟨d, ex, h3⟩ := Post.val .pk h1
  obtain ⟨b, e2, h4⟩ := Post.val .isTy h3
  have kd := peek_ok o1.go.rel o1.rep (pk_of ex)
  rw [← tk]
  exact ⟨v1, .ty t.nm, _, _, b, rfl, .ty _, tyx_of kd (isTy_ns e2), kit_ty (kit_tab t d b e2), h4 _ _ _ (.val o1.go rfl)⟩
end
end Dv

set_option Elab.async false
set_option linter.all false
set_option maxRecDepth 100000
namespace Dv
open PySem PySem.Spec PyProof.Rows L2

section
variable {X : Cx} {Z : WX} {T : Tc} {F : Fn} {σ : Sg} {H H0 H1 H2 : Hp} {ρ ρ1 ρ2 ρ' : Env'} {W W1 W2 : AS} {K : PySem.W.Frag}
/-- a slot's object changed -/
theorem mut_at (R : Rel T σ H ρ W) {i : Nat} {b : Bool} {d d' : D} {a : Addr} {o : HO} (e : ρ[i]? = some (some (.own b d))) (hv : σ[i]? = some (some (.ref a))) (q : RepO T.K H W o d') :
    Go T σ H ρ W (upd H a o) (ρ.set i (some (.own b d'))) W := by
  have oi : OwnU σ ρ i a := ⟨⟨b, d, e⟩, hv⟩
  obtain ⟨wa, ob0, ha, _⟩ := R.ownA oi.a
  have hi : i < ρ.length := (List.getElem?_eq_some_iff.mp e).1
  have ad : Adv H W (upd H a o) W := fun x u h w => ⟨by rw [upd_ne (fun z => w (by rw [z]; exact wa))]; exact h, w⟩
  have mon : Mon σ ρ (ρ.set i (some (.own b d'))) := fun j x h => by
    obtain ⟨h1, h2⟩ := h
    rcases h1 with ⟨c, z, h1⟩ | ⟨c, z, h1⟩
    · rcases getq_set h1 with ⟨rfl, k, _⟩ | ⟨_, k⟩
      · rw [hv] at h2; cases h2; exact oi.a
      · exact ⟨.inl ⟨c, z, k⟩, h2⟩
    · rcases getq_set h1 with ⟨rfl, k, _⟩ | ⟨_, k⟩
      · cases k
      · exact ⟨.inr ⟨c, z, k⟩, h2⟩
  refine ⟨⟨by simpa using R.len, fun j s h => ?_, fun j k x h1 h2 => R.sep j k x (mon j x h1) (mon k x h2), fun x w => ?_, fun j z x h1 h2 => ?_, fun x h => R.fzk x ?_, fun j x h => ?_⟩, fun x u h n => ?_, mon, fun x h => ?_, Lk.set fun b' d' z => by rw [e] at z; cases z⟩
  · rcases getq_set h with ⟨rfl, k, _⟩ | ⟨ne, k⟩
    · cases k
      exact ⟨_, hv, a, o, rfl, upd_same, wa, q.adv R.wl ad⟩
    · obtain ⟨v, e3, r⟩ := R.at_ j s k
      refine ⟨v, e3, ?_⟩
      cases s with
      | val c => obtain ⟨u, e4, z⟩ := r; exact ⟨u, e4, z.adv R.wl ad⟩
      | brz c => obtain ⟨u, e4, z⟩ := r; exact ⟨u, e4, z.adv R.wl ad⟩
      | own c x =>
        obtain ⟨a', ob', e4, e5, e6, z⟩ := r
        subst e4
        have na : a' ≠ a := fun z => ne (by subst z; exact R.sep _ _ _ oi.a ⟨.inl ⟨c, x, k⟩, e3⟩)
        exact ⟨a', ob', rfl, by rw [upd_ne na]; exact e5, e6, z.adv R.wl ad⟩
      | lck c x =>
        obtain ⟨a', ob', e4, e5, e6, z⟩ := r
        subst e4
        have na : a' ≠ a := fun z => ne (by subst z; exact R.sep _ _ _ oi.a ⟨.inr ⟨c, x, k⟩, e3⟩)
        exact ⟨a', ob', rfl, by rw [upd_ne na]; exact e5, e6, z.adv R.wl ad⟩
  · by_cases ex : x = a
    · subst ex; exact ⟨o, upd_same, q.mk1⟩
    · obtain ⟨u, hu, m⟩ := R.wl x w
      exact ⟨u, by rw [upd_ne ex]; exact hu, m⟩
  · rcases h1 with h1 | h1
    · rcases getq_set h1 with ⟨rfl, k, _⟩ | ⟨_, k⟩
      · cases k; exact R.fr i d x (.inl e) h2
      · exact R.fr j z x (.inl k) h2
    · rcases getq_set h1 with ⟨rfl, k, _⟩ | ⟨_, k⟩
      · cases k
      · exact R.fr j z x (.inr k) h2
  · by_cases ex : x = a
    · subst ex; rw [upd_same] at h; cases h
    · rw [upd_ne ex] at h; exact h
  · obtain ⟨h1, s, h2, h3⟩ := R.bor j x h
    refine ⟨h1, ?_⟩
    by_cases ej : i = j
    · subst ej
      refine ⟨.own b d', by rw [List.getElem?_set_self hi], ?_⟩
      rw [e] at h2; cases h2
      cases b with
      | true => trivial
      | false => exact h3.elim
    · exact ⟨s, by rw [List.getElem?_set_ne ej]; exact h2, h3⟩
  · have na : x ≠ a := fun z => n i (by rw [z]; exact oi)
    refine ⟨by rw [upd_ne na]; exact h, fun j z => ?_, Iff.rfl⟩
    obtain ⟨⟨c, y, h1⟩, h2⟩ := z
    rcases getq_set h1 with ⟨rfl, k, _⟩ | ⟨_, k⟩
    · rw [hv] at h2; cases h2; exact na rfl
    · exact n j ⟨⟨c, y, k⟩, h2⟩
  · by_cases ex : x = a
    · subst ex; rw [upd_same] at h; cases h
    · rw [upd_ne ex] at h; exact h

/-! ### methods that change their list -/
theorem RepDs.erase : ∀ {ds : List D} {vs : List V} (i : Nat), RepDs K H W vs ds → RepDs K H W (vs.eraseIdx i) (ds.eraseIdx i)
  | [], _, _, h => by rw [show _ = [] from h]; simp [RepDs]
  | _ :: _, _, 0, h => by
    obtain ⟨u, q, rfl, _, s⟩ := h
    exact s
  | _ :: _, _, i + 1, h => by
    obtain ⟨u, q, rfl, a, s⟩ := h
    exact ⟨u, _, rfl, a, RepDs.erase i s⟩
theorem RepDs.dropL {ds : List D} {vs : List V} (h : RepDs K H W vs ds) : RepDs K H W vs.dropLast ds.dropLast := by
  rw [List.dropLast_eq_take, List.dropLast_eq_take, h.length]
  exact h.take _
def Mm.nm : Mm → Str
  | .append => "append" | .pop => "pop" | .popAt => "pop" | .insert => "insert"
def Mm.id : Mm → String
  | .append => "list.append" | .pop => "list.pop" | .popAt => "list.pop" | .insert => "list.insert"
def rMm : Mm → V → List V → Hp → VK → Prop
  | .append => rAppend
  | .pop => rPop
  | .popAt => rPopAt
  | .insert => fun x vs H Q => ∃ (l : Addr) (xs : List V) (i : Int) (y : V), x = .ref l ∧ vs = [.int i, y] ∧ H l = some (.lst xs) ∧ xs.length < sizeLine ∧ 0 ≤ i ∧ i < 2 ^ 63 ∧
    Q .non (upd H l (.lst (xs.take i.toNat ++ [y] ++ xs.drop i.toNat)))
theorem mt_Mm : ∀ m : Mm, MtR X m.id (rMm m) := fun m => by
  cases m with
  | append => exact mt_append
  | pop => exact mt_pop
  | popAt => exact mt_popAt
  | insert => exact mt_insert
theorem mm_ok {m : Mm} {l : List D} {ds : List D} {a : Addr} {us vs : List V} {y d' : D} {Q : VK} (ha : H a = some (.lst us)) (r : RepDs K H W us l) (h : RepDs K H W vs ds) (e : dMm m (.lst l) ds = .ok (y, d'))
    (q : ∀ v o, RepD K H W v y → RepO K H W o d' → Q v (upd H a o)) : rMm m (.ref a) vs H Q := by
  unfold dMm at e
  split at e
  · rename_i l1 d e1
    cases e1
    obtain ⟨c, e⟩ := need_ok e
    cases e
    obtain ⟨v, r0, rfl, k, t⟩ := h
    rw [show r0 = [] from t]
    exact ⟨a, us, v, rfl, rfl, ha, by rw [r.length]; exact c, q _ _ rfl ⟨_, rfl, r.append (RepDs.one k)⟩⟩
  · rename_i l1 e1
    cases e1
    rw [show vs = [] from h]
    cases e2 : l[l.length - 1]? with
    | none => rw [e2] at e; cases e
    | some z =>
      rw [e2] at e; cases e
      obtain ⟨v, e3, k⟩ := r.get e2
      exact ⟨a, us, v, rfl, rfl, ha, by rw [r.length]; exact e3, q _ _ k ⟨_, rfl, r.dropL⟩⟩
  · rename_i l1 i d e1
    cases e1
    obtain ⟨⟨c1, c2, c3⟩, e⟩ := need_ok e
    cases e
    obtain ⟨v, r0, rfl, k, t⟩ := h
    rw [show v = .int i from k]
    obtain ⟨v2, r2, rfl, k2, t2⟩ := t
    rw [show r2 = [] from t2]
    exact ⟨a, us, i, v2, rfl, rfl, ha, by rw [r.length]; exact c1, c2, c3, q _ _ rfl ⟨_, rfl, ((r.take _).append (RepDs.one k2)).append (r.drop _)⟩⟩
  · rename_i l1 i e1
    cases e1
    obtain ⟨⟨c1, c2⟩, e⟩ := need_ok e
    obtain ⟨v, r0, rfl, k, t⟩ := h
    rw [show v = .int i from k, show r0 = [] from t]
    cases e2 : seqIndex? i l.length with
    | none => rw [e2] at e; cases e
    | some j =>
      rw [e2] at e
      have e : ((Rs.of l[j]?).bind fun y => .ok (y, D.lst (l.eraseIdx j))) = .ok (y, d') := e
      cases e3 : l[j]? with
      | none => rw [e3] at e; cases e
      | some z =>
        rw [e3] at e; cases e
        obtain ⟨v, e4, k⟩ := r.get e3
        exact ⟨a, us, i, j, v, rfl, rfl, ha, c1, c2, by rw [r.length]; exact e2, e4, q _ _ k ⟨_, rfl, r.erase j⟩⟩
  · cases e
theorem dMm_lst {m : Mm} {d : D} {ds : List D} {r : D × D} (e : dMm m d ds = .ok r) : ∃ l, d = .lst l := by
  unfold dMm at e
  split at e <;> first | exact ⟨_, rfl⟩ | cases e
theorem slot_peek {i : Nat} {p : P} {ρ1 : Env'} (e : evVar i ρ = .ok (p, ρ1)) (R : Rel T σ H ρ W) : ρ1 = ρ ∧ ∃ v, σ[i]? = some (some v) ∧ RepP T σ H ρ W v p := by
  unfold evVar at e
  split at e
  · rename_i d e1
    cases e
    obtain ⟨o, e1, v, rfl, q⟩ := R.at_ i _ e1
    exact ⟨rfl, v, e1, q⟩
  · rename_i d e1
    cases e
    obtain ⟨o, e1, v, rfl, q⟩ := R.at_ i _ e1
    exact ⟨rfl, v, e1, q⟩
  · rename_i b d e1
    cases e
    obtain ⟨o, e1, x, ob, rfl, q⟩ := R.at_ i _ e1
    exact ⟨rfl, _, e1, e1⟩
  · rename_i b d e1
    cases e
    obtain ⟨o, e1, x, ob, rfl, q⟩ := R.at_ i _ e1
    exact ⟨rfl, _, e1, e1⟩
  · cases e
/-- x.m(..) at a slot; r: how the method is called with its arguments -/
theorem s_chg (tk : T.K = X.K) {m : Mm} {i : Nat} {l : Exs} {e' : Expr} (h : ∀ t : TA, t = tA X T F Z l → PE X e' (tBM X.K "list" (rMm m) (tVar i) t)) : PE X e' (tE X T F Z (.chg m i l)) := by
  refine wkE (h _ rfl) ?_
  rintro σ H Q ⟨ρ, W, R, h⟩
  obtain ⟨⟨p0, ρ0⟩, e0, h⟩ := Post.val (r := evVar i ρ) .evVar h
  obtain ⟨rfl, v0, s0, q0⟩ := slot_peek e0 R
  obtain ⟨d0, f0, h⟩ := Post.val .pk h
  obtain ⟨c0, h⟩ := Post.need h
  have k0 := peek_ok R q0 (pk_of f0)
  have ty : tyV X.K "list" v0 H := by
    cases d0 with
    | lst l0 => obtain ⟨a, vs, rfl, e1, _⟩ := k0.lst; exact .inl ⟨rfl, vs, .of e1⟩
    | _ => cases c0
  refine ⟨v0, s0, ty, ρ0, W, R, (Post.bind h).imp fun ps ρ1 h1 vs H1 W1 o1 => ?_⟩
  obtain ⟨⟨ds, ρ2⟩, ex, h3⟩ := Post.val .of h1
  obtain ⟨W2, g, q⟩ := o1.data (of_ok ex)
  dsimp only at h3
  split at h3
  · rename_i b d e2
    obtain ⟨⟨y, d'⟩, ey, h4⟩ := Post.val .dMm h3
    obtain ⟨l0, rfl⟩ := dMm_lst ey
    obtain ⟨o, e3, a, ob, rfl, e5, wa, us, rfl, r⟩ := g.rel.at_ i _ e2
    rw [s0] at e3; cases e3
    refine mm_ok e5 r q ey fun v o' kv ko => ?_
    have g2 := mut_at g.rel e2 s0 ko
    exact h4 _ _ _ (.val (g.trans g2) (kv.adv g.rel.wl (g2.step.adv g.rel)))
  · exact h3.elim

/-! ### methods that change nothing -/
def Me.nm : Me → Str
  | .join => "join" | .split => "split" | .index => "index"
def Me.ty : Me → String
  | .join => "str" | .split => "str" | .index => "list"
def Me.id : Me → String
  | .join => "str.join" | .split => "str.split" | .index => "list.index"
def rMe (K : PySem.W.Frag) : Me → V → List V → Hp → VK → Prop
  | .join => fun x xs H Q => ∃ a p, ∃ ys : List Str, x = .str a ∧ xs = [.ref p] ∧ (SqL K H p (ys.map V.str) ∨ SqT K H p (ys.map V.str)) ∧ (ys.map (·.length)).sum + ys.length * a.length ≤ 16777216 ∧ Q (.str (Txt.join a ys)) H
  | .split => fun x xs H Q => ∃ a b, x = .str a ∧ xs = [.str b] ∧ (b.length == 0) = false ∧ a.length + 2 ≤ sizeLine ∧ rNewStrs (Txt.split a b) H Q
  | .index => rIndexD K
theorem mt_Me (hu : X.A.units + 65 < cLine) : ∀ m : Me, MtR X m.id (rMe X.K m) := fun m => by
  cases m with
  | join => exact mt_join
  | split => exact mt_split
  | index => exact mt_indexD hu
theorem findIdx_spec (l : List D) (x : D) {j : Nat} (h : (l.findIdx? fun z => deq z x) = some j) : ∃ z, (toPys l)[j]? = some z ∧ PyData.eqv z (toPy x) = true ∧ ∀ (m : Nat) (z' : PyData), m < j → (toPys l)[m]? = some z' → PyData.eqv z' (toPy x) = false := by
  rw [List.findIdx?_eq_some_iff_getElem] at h
  obtain ⟨hj, h1, h2⟩ := h
  refine ⟨toPy l[j], by rw [toPys_map, List.getElem?_map, List.getElem?_eq_getElem hj]; rfl, h1, fun m z' hm e => ?_⟩
  rw [toPys_map, List.getElem?_map, List.getElem?_eq_getElem (Nat.lt_trans hm hj)] at e
  cases e
  have := h2 m hm
  exact Bool.eq_false_iff.mpr this
theorem me_ok {m : Me} {x : V} {vs : List V} {d : D} {ds : List D} {p : P} {Q : VK} (hd : RepK K H W x d) (h : RepKs K H W vs ds) (e : dMe m d ds = .ok p) (q : ResQ K H W p Q) : rMe K m x vs H Q := by
  unfold dMe at e
  split at e
  · rename_i a l
    obtain ⟨v, rfl, k⟩ := h.one
    obtain ⟨b, us, rfl, e1, r⟩ := k.lst
    cases e2 : strsD l with
    | none => rw [e2] at e; cases e
    | some ys =>
      rw [e2] at e
      obtain ⟨c, e⟩ := need_ok e
      cases e
      exact ⟨a, b, ys, hd.str, rfl, .inl (by rw [← strs_rep r e2]; exact .of e1), c, q.flat rfl⟩
  · rename_i a l
    obtain ⟨v, rfl, k⟩ := h.one
    obtain ⟨b, us, rfl, e1, r⟩ := k.tup
    cases e2 : strsD l with
    | none => rw [e2] at e; cases e
    | some ys =>
      rw [e2] at e
      obtain ⟨c, e⟩ := need_ok e
      cases e
      exact ⟨a, b, ys, hd.str, rfl, .inr (by rw [← strs_rep r e2]; exact e1.sq), c, q.flat rfl⟩
  · rename_i a b
    obtain ⟨v, rfl, k⟩ := h.one
    obtain ⟨⟨c1, c2⟩, e⟩ := need_ok e
    cases e
    exact ⟨a, b, hd.str, by rw [k.str], c1, c2, fun l n => q.lst (strs_of _) n⟩
  · rename_i l x'
    obtain ⟨v, rfl, k⟩ := h.one
    obtain ⟨⟨c1, c2⟩, e⟩ := need_ok e
    split at e
    · rename_i j e2
      cases e
      obtain ⟨b, us, rfl, e1, r⟩ := hd.lst
      obtain ⟨z, z1, z2, z3⟩ := findIdx_spec l x' e2
      exact ⟨b, v, _, _, j, z, rfl, rfl, hd.dp c2, k.dp c1, c2, c1, z1, z2, z3, q.flat rfl⟩
    · cases e
  · cases e
theorem dMe_np {m : Me} {d : D} {ds : List D} {p : P} (h : dMe m d ds = .ok p) (i : Nat) : p ≠ .at_ i := by
  have key : ∀ {α : Type} {r : Rs α} {f : α → Rs P}, (r.bind f) = .ok p → (∀ x, f x = .ok p → p ≠ .at_ i) → p ≠ .at_ i := fun {α r f} e n => by
    cases r with
    | ok x => exact n x e
    | err x => cases e
    | bad => cases e
  unfold dMe at h
  split at h
  · refine key h fun x e => ?_
    obtain ⟨_, e⟩ := need_ok e
    cases e
    simp
  · refine key h fun x e => ?_
    obtain ⟨_, e⟩ := need_ok e
    cases e
    simp
  · obtain ⟨_, h⟩ := need_ok h
    cases h; simp
  · obtain ⟨_, h⟩ := need_ok h
    split at h
    · cases h; simp
    · cases h
  · cases h
theorem s_met (tk : T.K = X.K) {m : Me} {o : Ex} {l : Exs} {e' : Expr} (h : ∀ (u : TE) (t : TA), u = tE X T F Z o → t = tA X T F Z l → PE X e' (tBM X.K m.ty (rMe X.K m) u t)) : PE X e' (tE X T F Z (.met m o l)) := by
  refine wkE (h _ _ rfl rfl) ?_
  rintro σ H Q ⟨ρ, W, R, h⟩
  refine ⟨ρ, W, R, (Post.bind h).imp fun p0 ρ0 h0 v0 H0 W0 o0 => ?_⟩
  obtain ⟨d0, f0, h0⟩ := Post.val .pk h0
  obtain ⟨c0, h0⟩ := Post.need h0
  have k0 := peek_ok o0.go.rel o0.rep (pk_of f0)
  have ty : tyV X.K m.ty v0 H0 := by
    cases m with
    | join =>
      cases d0 with
      | str x => rw [k0.str]; rfl
      | _ => cases c0
    | split =>
      cases d0 with
      | str x => rw [k0.str]; rfl
      | _ => cases c0
    | index =>
      cases d0 with
      | lst x => obtain ⟨a, vs, rfl, e1, _⟩ := k0.lst; exact .inl ⟨rfl, vs, .of e1⟩
      | _ => cases c0
  refine ⟨ty, ρ0, W0, o0.go.rel, ((Post.bind h0).move o0.go.step).imp fun ps ρ1 h1 vs H1 W1 o1 => ?_⟩
  obtain ⟨d, ex, h3⟩ := Post.val .pk h1
  obtain ⟨ds, es, h4⟩ := Post.val .pks h3
  obtain ⟨p, ep, h5⟩ := Post.val .dMe h4
  rw [← tk]
  exact me_ok (peek_ok o1.go.rel (o0.rep.step o0.go.rel o1.go.step o1.go.mon) (pk_of ex)) (pks_ok o1.go.rel o1.rep es) ep ((o0.go.trans o1.go).res (p := p) h5 (dMe_np ep))
end
end Dv

set_option Elab.async false
set_option linter.all false
set_option maxRecDepth 100000
namespace Dv
open PySem PySem.Spec PyProof.Rows L2

/-! ### a def's arguments, its end -/
def ArgR1 (K : PySem.W.Frag) (H : Hp) (W : AS) (v : V) : A → Prop
  | .val d => RepD K H W v d
  | .own d => ∃ a o, v = .ref a ∧ H a = some o ∧ W a ∧ RepO K H W o d
  | .rd d => ∃ a o, v = .ref a ∧ H a = some o ∧ W a ∧ RepO K H W o d
def isMut : A → Prop
  | .val _ => False
  | _ => True
def ArgR (K : PySem.W.Frag) (H : Hp) (W : AS) : List V → List A → Prop
  | vs, [] => vs = []
  | vs, a :: as => ∃ v r, vs = v :: r ∧ ArgR1 K H W v a ∧ (isMut a → ∀ (j : Nat) (x : A), as[j]? = some x → isMut x → r[j]? ≠ some v) ∧ ArgR K H W r as
/-- the objects that a call may change -/
def lent (vs : List V) (as : List A) : AS := fun b => ∃ (j : Nat) (d : D), as[j]? = some (A.own d) ∧ vs[j]? = some (V.ref b)
def OutR1 (K : PySem.W.Frag) (H : Hp) (W : AS) (v : V) : A → A → Prop
  | .own _, .own d => ∃ a o, v = .ref a ∧ H a = some o ∧ W a ∧ RepO K H W o d
  | .own _, .val d => RepD K H W v d
  | _, _ => True
def ResR (K : PySem.W.Frag) (H0 H : Hp) (W : AS) (v : V) : Re → Prop
  | .val d => RepD K H W v d
  | .own d => ∃ a o, v = .ref a ∧ H0 a = none ∧ H a = some o ∧ W a ∧ RepO K H W o d
structure CallEnd (K : PySem.W.Frag) (H : Hp) (W : AS) (vs : List V) (as : List A) (r : Re) (as' : List A) (v : V) (H' : Hp) (W' : AS) : Prop where
  step : ∀ b o, H b = some o → ¬ lent vs as b → H' b = some o ∧ (W' b ↔ W b)
  dom : ∀ a, H' a = none → H a = none
  wl : WL H' W'
  out : ∀ (j : Nat) (v : V) (a x : A), vs[j]? = some v → as[j]? = some a → as'[j]? = some x → OutR1 K H' W' v a x
  res : ResR K H H' W' v r
/-- a def's promise: it does what F says -/
def spOf (F : Fn) (mg : Str → Option Value) (K : PySem.W.Frag) (n : Nat) (f : Str) : Sp := fun vs H Q E => vs.length = n ∧ ∃ W as, WL H W ∧ ArgR K H W vs as ∧ match F.call f as with
  | .ok (r, as') => ∀ v H' W', CallEnd K H W vs as r as' v H' W' → Q v H'
  | .err er => ∀ cls d H', ErrR mg K er cls d H' → (∀ b o, H b = some o → ¬ lent vs as b → H' b = some o) → E cls d H'
  | .bad => False
/-- what is known of a def that is called -/
structure Callee (X : Cx) (F : Fn) (f : Str) (np mn : Nat) : Prop where
  ex : ∃ (k : Nat) (fa : Addr) (fd : FuncData) (ps : List Str), FnOk X.prog X.w X.K X.mg X.base (L2.CX X.prog X.w) k fa fd ps (spOf F X.mg X.K ps.length f) ∧ Room k X.A ∧ X.mg f = some (.ref fa) ∧ PySem.W.keepIn X.K (.ref fa) = true ∧
    ps.length = np ∧ (∀ as, F.call f as ≠ .bad → as.length = np) ∧
    ∀ n, mn ≤ n → n ≤ np → ∃ (ds : List Value) (dvs : List V), Binds X.K fd ps ds ∧ Vals dvs ds ∧ ∀ H W, RepDs X.K H W dvs (F.dfl f n)

section
variable {X : Cx} {Z : WX} {T : Tc} {F : Fn} {σ : Sg} {H H0 H1 H2 H' : Hp} {ρ ρ1 ρ2 ρ' : Env'} {W W1 W2 W' : AS} {K : PySem.W.Frag} {ds : List D}
theorem ArgR.length : ∀ {as : List A} {vs : List V}, ArgR K H W vs as → vs.length = as.length
  | [], _, h => by rw [show _ = [] from h]; rfl
  | _ :: _, _, h => by
    obtain ⟨v, r, rfl, _, _, t⟩ := h
    rw [List.length_cons, List.length_cons, t.length]
theorem ArgR.get : ∀ {as : List A} {vs : List V} {j : Nat} {a : A}, ArgR K H W vs as → as[j]? = some a → ∃ v, vs[j]? = some v ∧ ArgR1 K H W v a
  | [], _, _, _, _, e => by simp at e
  | _ :: _, _, 0, _, h, e => by
    obtain ⟨v, r, rfl, q, _, _⟩ := h
    simp at e; subst e; exact ⟨v, rfl, q⟩
  | _ :: _, _, j + 1, _, h, e => by
    obtain ⟨v, r, rfl, _, _, t⟩ := h
    obtain ⟨u, h1, h2⟩ := t.get (j := j) (by simpa using e)
    exact ⟨u, by simpa using h1, h2⟩
theorem ArgR.dst : ∀ {as : List A} {vs : List V} {i j : Nat} {a b : A} {v : V}, ArgR K H W vs as → as[i]? = some a → as[j]? = some b → isMut a → isMut b → vs[i]? = some v → vs[j]? = some v → i = j
  | [], _, _, _, _, _, _, _, e, _, _, _, _, _ => by simp at e
  | _ :: _, _, 0, 0, _, _, _, _, _, _, _, _, _, _ => rfl
  | _ :: _, _, 0, j + 1, _, _, _, h, e1, e2, m1, m2, e3, e4 => by
    obtain ⟨v, r, rfl, _, n, _⟩ := h
    simp at e1 e3
    subst e1 e3
    exact absurd (by simpa using e4) (n m1 j _ (by simpa using e2) m2)
  | _ :: _, _, i + 1, 0, _, _, _, h, e1, e2, m1, m2, e3, e4 => by
    obtain ⟨v, r, rfl, _, n, _⟩ := h
    simp at e2 e4
    subst e2 e4
    exact absurd (by simpa using e3) (n m2 i _ (by simpa using e1) m1)
  | _ :: _, _, i + 1, j + 1, _, _, _, h, e1, e2, m1, m2, e3, e4 => by
    obtain ⟨v, r, rfl, _, _, t⟩ := h
    rw [t.dst (i := i) (j := j) (by simpa using e1) (by simpa using e2) m1 m2 (by simpa using e3) (by simpa using e4)]
theorem ArgR.w (wl : WL H W) {as : List A} {vs : List V} (h : ArgR K H W vs as) {b : Addr} (l : lent vs as b) : W b := by
  obtain ⟨j, d, e1, e2⟩ := l
  obtain ⟨v, e3, a, o, e4, _, w, _⟩ := h.get e1
  rw [e2] at e3; cases e3; cases e4
  exact w
/-- arguments that are data behind the others -/
theorem ArgR.app : ∀ {as : List A} {vs us : List V} {ds : List D}, ArgR K H W vs as → RepDs K H W us ds → ArgR K H W (vs ++ us) (as ++ ds.map .val)
  | [], _, us, ds, h, q => by
    rw [show _ = [] from h, List.nil_append, List.nil_append]
    clear h
    induction ds generalizing us with
    | nil => exact q
    | cons d ds ih =>
      obtain ⟨v, r, rfl, a, b⟩ := q
      exact ⟨v, r, rfl, a, fun m => m.elim, ih _ b⟩
  | a :: as, _, us, ds, h, q => by
    obtain ⟨v, r, rfl, k, n, t⟩ := h
    refine ⟨v, _, rfl, k, fun m j x e1 m2 e2 => ?_, t.app q⟩
    have e1 : (as ++ ds.map A.val)[j]? = some x := e1
    have e2 : (r ++ us)[j]? = some v := e2
    by_cases hj : j < as.length
    · rw [List.getElem?_append_left hj] at e1
      rw [List.getElem?_append_left (by rw [t.length]; exact hj)] at e2
      exact n m j x e1 m2 e2
    · rw [List.getElem?_append_right (by omega), List.getElem?_map] at e1
      cases z : ds[j - as.length]? with
      | none => rw [z] at e1; cases e1
      | some d => rw [z] at e1; cases e1; exact m2

theorem ats_mem : ∀ {ps : List P} {j i : Nat}, ps[j]? = some (.at_ i) → i ∈ ats ps
  | [], _, _, e => by simp at e
  | p :: ps, 0, i, e => by
    simp at e; subst e
    exact List.mem_cons_self
  | p :: ps, j + 1, i, e => by
    have := ats_mem (ps := ps) (j := j) (i := i) (by simpa using e)
    cases p with
    | at_ k => exact List.mem_cons_of_mem _ this
    | _ => exact this
theorem ats_tail {p : P} {ps : List P} (h : (ats (p :: ps)).Nodup) : (ats ps).Nodup := by
  cases p with
  | at_ k => exact (List.nodup_cons.mp h).2
  | _ => exact h
/-- the arguments stand -/
theorem args_ok (R : Rel T σ H ρ W) : ∀ {ps : List P} {vs : List V} {as : List A}, RepPs T σ H0 H ρ W vs ps → (ats ps).Nodup → toArgs ps ρ = .ok as →
    ArgR T.K H W vs as ∧ ∀ (j : Nat) (x : A) (v : V), as[j]? = some x → isMut x → vs[j]? = some v → (∃ d, ps[j]? = some (.own d)) ∨ ∃ i, ps[j]? = some (.at_ i) ∧ ∃ a, v = .ref a ∧ OwnA σ ρ i a
  | [], _, _, h, _, e => by
    cases e
    exact ⟨h, fun j x v e => by simp at e⟩
  | p :: ps, _, as, h, nd, e => by
    obtain ⟨v, r, rfl, q, n, t⟩ := h
    have e : ((toArg p ρ).bind fun a => (toArgs ps ρ).bind fun as => .ok (a :: as)) = .ok as := e
    cases e1 : toArg p ρ with
    | bad => rw [e1] at e; cases e
    | err x => rw [e1] at e; cases e
    | ok a =>
      rw [e1] at e
      have e : ((toArgs ps ρ).bind fun as => .ok (a :: as)) = .ok as := e
      cases e2 : toArgs ps ρ with
      | bad => rw [e2] at e; cases e
      | err x => rw [e2] at e; cases e
      | ok as2 =>
        rw [e2] at e
        cases e
        obtain ⟨ih, back⟩ := args_ok R t (ats_tail nd) e2
        -- the head
        have hd : ArgR1 T.K H W v a ∧ (isMut a → (∃ d, p = .own d) ∨ ∃ i, p = .at_ i ∧ ∃ x, v = .ref x ∧ OwnA σ ρ i x) := by
          cases p with
          | val d => cases e1; exact ⟨q, fun m => m.elim⟩
          | own d =>
            cases e1
            obtain ⟨x, o, ev, ex, w, _, _, k⟩ := q
            exact ⟨⟨x, o, ev, ex, w, k⟩, fun _ => .inl ⟨d, rfl⟩⟩
          | at_ i =>
            have q : σ[i]? = some (some v) := q
            simp only [toArg] at e1
            split at e1
            · rename_i d es; cases e1
              obtain ⟨o, z, u, z2, k⟩ := R.at_ i _ es
              rw [q] at z; cases z; cases z2
              exact ⟨k, fun m => m.elim⟩
            · rename_i d es; cases e1
              obtain ⟨o, z, u, z2, k⟩ := R.at_ i _ es
              rw [q] at z; cases z; cases z2
              exact ⟨k, fun m => m.elim⟩
            · rename_i b d es; cases e1
              obtain ⟨o, z, x, ob, z2, ex, w, k⟩ := R.at_ i _ es
              rw [q] at z; cases z; cases z2
              exact ⟨⟨x, ob, rfl, ex, w, k⟩, fun _ => .inr ⟨i, rfl, x, rfl, .inl ⟨b, d, es⟩, q⟩⟩
            · rename_i b d es; cases e1
              obtain ⟨o, z, x, ob, z2, ex, w, k⟩ := R.at_ i _ es
              rw [q] at z; cases z; cases z2
              exact ⟨⟨x, ob, rfl, ex, w, k⟩, fun _ => .inr ⟨i, rfl, x, rfl, .inr ⟨b, d, es⟩, q⟩⟩
            · cases e1
        refine ⟨⟨v, r, rfl, hd.1, fun m j x ej mx ev => ?_, ih⟩, fun j x u ej mx eu => ?_⟩
        · rcases hd.2 m with ⟨d, rfl⟩ | ⟨i, rfl, c, rfl, oc⟩
          · obtain ⟨a', o, ea, ex, w, no, _⟩ := q
            subst ea
            rcases back j x _ ej mx ev with ⟨d2, e3⟩ | ⟨i2, e3, a2, e4, oa⟩
            · exact (n d a' rfl rfl).2 j d2 e3 ev
            · cases e4; exact no i2 oa
          · rcases back j x _ ej mx ev with ⟨d2, e3⟩ | ⟨i2, e3, a2, e4, oa⟩
            · obtain ⟨u, eu, a', o, ea, ex, w, no, _⟩ := t.get e3
              rw [ev] at eu; cases eu; cases ea
              exact no i oc
            · cases e4
              have := R.sep _ _ _ oc oa
              subst this
              exact (List.nodup_cons.mp nd).1 (ats_mem e3)
        · cases j with
          | zero =>
            simp at ej eu
            subst ej eu
            rcases hd.2 mx with ⟨d, rfl⟩ | ⟨i, rfl, c, e5, oc⟩
            · exact .inl ⟨d, rfl⟩
            · exact .inr ⟨i, rfl, c, e5, oc⟩
          | succ j => exact back j x u (by simpa using ej) mx (by simpa using eu)

/-- the environment behind a call, slot by slot -/
theorem back_out : ∀ {ps : List P} {as : List A} {ρ ρ' : Env'} {i : Nat}, backArgs ps as ρ = .ok ρ' → i ∉ ats ps → ρ'[i]? = ρ[i]?
  | [], _, _, _, _, e, _ => by cases e; rfl
  | _ :: _, [], _, _, _, e, _ => by cases e
  | p :: ps, a :: as, ρ, ρ', i, e, n => by
    have e : ((backArg p a ρ).bind (backArgs ps as)) = .ok ρ' := e
    cases e1 : backArg p a ρ with
    | bad => rw [e1] at e; cases e
    | err x => rw [e1] at e; cases e
    | ok ρ1 =>
      rw [e1] at e
      have e2 : backArgs ps as ρ1 = .ok ρ' := e
      cases p with
      | val d => cases e1; exact back_out e2 n
      | own d => cases e1; exact back_out e2 n
      | at_ k =>
        have ne : k ≠ i := fun z => n (by rw [z]; exact List.mem_cons_self)
        rw [back_out (ps := ps) (as := as) e2 fun z => n (List.mem_cons_of_mem _ z)]
        simp only [backArg] at e1
        split at e1
        · split at e1
          · cases e1; rw [List.getElem?_set_ne ne]
          · cases e1; rw [List.getElem?_set_ne ne]
          · cases e1
        · cases e1; rfl
theorem back_at : ∀ {ps : List P} {as : List A} {ρ ρ' : Env'} {i j : Nat}, backArgs ps as ρ = .ok ρ' → (ats ps).Nodup → ps[j]? = some (.at_ i) →
    (∃ b d, ρ[i]? = some (some (.own b d)) ∧ ((∃ d', as[j]? = some (.own d') ∧ ρ'[i]? = some (some (.own b d'))) ∨ ∃ d', as[j]? = some (.val d') ∧ ρ'[i]? = some (some (thaw b d')))) ∨
    ((∀ b d, ρ[i]? ≠ some (some (.own b d))) ∧ ρ'[i]? = ρ[i]?)
  | [], _, _, _, _, _, _, _, z => by simp at z
  | _ :: _, [], _, _, _, _, e, _, _ => by cases e
  | p :: ps, a :: as, ρ, ρ', i, j, e, nd, hj => by
    have e : ((backArg p a ρ).bind (backArgs ps as)) = .ok ρ' := e
    cases e1 : backArg p a ρ with
    | bad => rw [e1] at e; cases e
    | err x => rw [e1] at e; cases e
    | ok ρ1 =>
      rw [e1] at e
      have e2 : backArgs ps as ρ1 = .ok ρ' := e
      cases j with
      | zero =>
        simp at hj
        subst hj
        have ni : i ∉ ats ps := (List.nodup_cons.mp nd).1
        rw [back_out (ps := ps) (as := as) e2 ni]
        simp only [backArg] at e1
        split at e1
        · rename_i b d es
          have hi : i < ρ.length := (List.getElem?_eq_some_iff.mp es).1
          split at e1
          · cases e1
            exact .inl ⟨b, d, es, .inl ⟨_, rfl, by rw [List.getElem?_set_self hi]⟩⟩
          · cases e1
            exact .inl ⟨b, d, es, .inr ⟨_, rfl, by rw [List.getElem?_set_self hi]⟩⟩
          · cases e1
        · rename_i h
          cases e1
          exact .inr ⟨fun b d z => h b d z, rfl⟩
      | succ j =>
        have hj : ps[j]? = some (.at_ i) := by simpa using hj
        have same : ρ1[i]? = ρ[i]? := by
          cases p with
          | val d => cases e1; rfl
          | own d => cases e1; rfl
          | at_ k =>
            have ne : k ≠ i := fun z => (List.nodup_cons.mp nd).1 (by rw [z]; exact ats_mem hj)
            simp only [backArg] at e1
            split at e1
            · split at e1
              · cases e1; rw [List.getElem?_set_ne ne]
              · cases e1; rw [List.getElem?_set_ne ne]
              · cases e1
            · cases e1; rfl
        have := back_at e2 (ats_tail nd) hj
        rw [same] at this
        simpa using this
theorem back_len : ∀ {ps : List P} {as : List A} {ρ ρ' : Env'}, backArgs ps as ρ = .ok ρ' → ρ'.length = ρ.length
  | [], _, _, _, e => by cases e; rfl
  | _ :: _, [], _, _, e => by cases e
  | p :: ps, a :: as, ρ, ρ', e => by
    have e : ((backArg p a ρ).bind (backArgs ps as)) = .ok ρ' := e
    cases e1 : backArg p a ρ with
    | bad => rw [e1] at e; cases e
    | err x => rw [e1] at e; cases e
    | ok ρ1 =>
      rw [e1] at e
      rw [back_len (show backArgs ps as ρ1 = .ok ρ' from e)]
      cases p with
      | val d => cases e1; rfl
      | own d => cases e1; rfl
      | at_ k =>
        simp only [backArg] at e1
        split at e1
        · split at e1
          · cases e1; simp
          · cases e1; simp
          · cases e1
        · cases e1; rfl
theorem toArgs_get : ∀ {ps : List P} {ρ : Env'} {as : List A} {j : Nat} {p : P}, toArgs ps ρ = .ok as → ps[j]? = some p → ∃ a, as[j]? = some a ∧ toArg p ρ = .ok a
  | [], _, _, _, _, _, z => by simp at z
  | p :: ps, ρ, as, j, q, e, hj => by
    have e : ((toArg p ρ).bind fun a => (toArgs ps ρ).bind fun as => .ok (a :: as)) = .ok as := e
    cases e1 : toArg p ρ with
    | bad => rw [e1] at e; cases e
    | err x => rw [e1] at e; cases e
    | ok a =>
      rw [e1] at e
      have e : ((toArgs ps ρ).bind fun as => .ok (a :: as)) = .ok as := e
      cases e2 : toArgs ps ρ with
      | bad => rw [e2] at e; cases e
      | err x => rw [e2] at e; cases e
      | ok as2 =>
        rw [e2] at e
        cases e
        cases j with
        | zero => simp at hj; subst hj; exact ⟨a, rfl, e1⟩
        | succ j =>
          obtain ⟨x, h1, h2⟩ := toArgs_get (j := j) e2 (by simpa using hj)
          exact ⟨x, by simpa using h1, h2⟩
theorem toArgs_len : ∀ {ps : List P} {ρ : Env'} {as : List A}, toArgs ps ρ = .ok as → as.length = ps.length
  | [], _, _, e => by cases e; rfl
  | p :: ps, ρ, as, e => by
    have e : ((toArg p ρ).bind fun a => (toArgs ps ρ).bind fun as => .ok (a :: as)) = .ok as := e
    cases e1 : toArg p ρ with
    | bad => rw [e1] at e; cases e
    | err x => rw [e1] at e; cases e
    | ok a =>
      rw [e1] at e
      have e : ((toArgs ps ρ).bind fun as => .ok (a :: as)) = .ok as := e
      cases e2 : toArgs ps ρ with
      | bad => rw [e2] at e; cases e
      | err x => rw [e2] at e; cases e
      | ok as2 =>
        rw [e2] at e
        cases e
        rw [List.length_cons, List.length_cons, toArgs_len e2]
theorem ats_mem_iff : ∀ {ps : List P} {i : Nat}, i ∈ ats ps → ∃ j : Nat, ps[j]? = some (.at_ i)
  | [], _, h => by cases h
  | p :: ps, i, h => by
    cases p with
    | at_ k =>
      rcases List.mem_cons.mp h with e | h
      · exact ⟨0, by rw [e]; rfl⟩
      · obtain ⟨j, hj⟩ := ats_mem_iff (ps := ps) h
        exact ⟨j + 1, by simpa using hj⟩
    | val d =>
      obtain ⟨j, hj⟩ := ats_mem_iff (ps := ps) h
      exact ⟨j + 1, by simpa using hj⟩
    | own d =>
      obtain ⟨j, hj⟩ := ats_mem_iff (ps := ps) h
      exact ⟨j + 1, by simpa using hj⟩

/-- behind a call: the caller's state -/
theorem call_back {ps : List P} {vs vs2 : List V} {as as' : List A} {r : Re} {v : V} (R : Rel T σ H ρ W) (rp : RepPs T σ H0 H ρ W vs ps) (nd : (ats ps).Nodup) (ea : toArgs ps ρ = .ok as)
    (dv : RepDs T.K H W vs2 ds) (ce : CallEnd T.K H W (vs ++ vs2) (as ++ ds.map .val) r as' v H' W') (eb : backArgs ps as' ρ = .ok ρ') :
    Rel T σ H' ρ' W' ∧ StepX (tmps vs ps) σ H ρ W σ H' ρ' W' ∧ Mon σ ρ ρ' ∧ Lk ρ ρ' ∧ RepP T σ H' ρ' W' v r.p ∧ ∀ d, r.p = .own d → ∀ a, v = .ref a → H a = none := by
  obtain ⟨ar, back⟩ := args_ok R rp nd ea
  have ar2 := ar.app dv
  -- what is lent is in W
  have lentW : ∀ b, lent (vs ++ vs2) (as ++ ds.map .val) b → W b := fun b l => ar2.w R.wl l
  have ad : Adv H W H' W' := fun b o h w => by
    obtain ⟨h1, w1⟩ := ce.step b o h fun l => w (lentW b l)
    exact ⟨h1, fun z => w (w1.mp z)⟩
  have lentB : ∀ b, lent (vs ++ vs2) (as ++ ds.map .val) b → tmps vs ps b ∨ ∃ (i j : Nat), ps[j]? = some (P.at_ i) ∧ OwnU σ ρ i b := fun b ⟨j, d, e1, e2⟩ => by
    have hj : j < as.length := by
      by_cases hj : j < as.length
      · exact hj
      · rw [List.getElem?_append_right (by omega), List.getElem?_map] at e1
        cases z : ds[j - as.length]? with
        | none => rw [z] at e1; cases e1
        | some d => rw [z] at e1; cases e1
    rw [List.getElem?_append_left hj] at e1
    rw [List.getElem?_append_left (by rw [ar.length]; exact hj)] at e2
    rcases back j _ _ e1 trivial e2 with ⟨d2, e3⟩ | ⟨i, e3, a, e4, oa⟩
    · exact .inl ⟨j, d2, e3, e2⟩
    · cases e4
      refine .inr ⟨i, j, e3, ?_⟩
      obtain ⟨x, e5, e6⟩ := toArgs_get ea e3
      rw [e1] at e5; cases e5
      obtain ⟨h1, h2⟩ := oa
      refine ⟨?_, h2⟩
      rcases h1 with h1 | ⟨b, d, h1⟩
      · exact h1
      · simp only [toArg, h1] at e6; cases e6
  have unl : ∀ i b, OwnA σ ρ i b → i ∉ ats ps → ¬ lent (vs ++ vs2) (as ++ ds.map .val) b := fun i b o n l => by
    rcases lentB b l with ⟨j, d, e1, e2⟩ | ⟨i2, j, e1, o2⟩
    · obtain ⟨u, eu, a', ob, ea', ex, w, no, _⟩ := rp.get e1
      rw [e2] at eu; cases eu; cases ea'
      exact no i o
    · have := R.sep _ _ _ o o2.a
      subst this
      exact n (ats_mem e1)
  have hv : ∀ {j i : Nat} {u : V}, ps[j]? = some (.at_ i) → σ[i]? = some (some u) → (vs ++ vs2)[j]? = some u := fun {j i u} e1 e2 => by
    obtain ⟨u', e3, e4⟩ := rp.get e1
    have e4 : σ[i]? = some (some u') := e4
    rw [e2] at e4; cases e4
    rw [List.getElem?_append_left ((List.getElem?_eq_some_iff.mp e3).1)]
    exact e3
  have ha : ∀ {j : Nat} {a : A}, as[j]? = some a → (as ++ ds.map A.val)[j]? = some a := fun {j a} e => by
    rw [List.getElem?_append_left ((List.getElem?_eq_some_iff.mp e).1)]; exact e
  -- a slot that bears no lent object
  have keepS : ∀ (i : Nat) (s : S), ρ[i]? = some (some s) → (∀ a, OwnA σ ρ i a → ¬ lent (vs ++ vs2) (as ++ ds.map .val) a) → ∃ o, σ[i]? = some o ∧ RelS T H' W' o s := fun i s e n => by
    obtain ⟨o, e1, q⟩ := R.at_ i s e
    refine ⟨o, e1, ?_⟩
    cases s with
    | val c => obtain ⟨u, e4, z⟩ := q; exact ⟨u, e4, z.adv R.wl ad⟩
    | brz c => obtain ⟨u, e4, z⟩ := q; exact ⟨u, e4, z.adv R.wl ad⟩
    | own c x =>
      obtain ⟨a', ob', e4, e5, e6, z⟩ := q
      subst e4
      obtain ⟨h1, w1⟩ := ce.step a' _ e5 (n a' ⟨.inl ⟨c, x, e⟩, e1⟩)
      exact ⟨a', ob', rfl, h1, w1.mpr e6, z.adv R.wl ad⟩
    | lck c x =>
      obtain ⟨a', ob', e4, e5, e6, z⟩ := q
      subst e4
      obtain ⟨h1, w1⟩ := ce.step a' _ e5 (n a' ⟨.inr ⟨c, x, e⟩, e1⟩)
      exact ⟨a', ob', rfl, h1, w1.mpr e6, z.adv R.wl ad⟩
  have lckN : ∀ (i : Nat) (b : Bool) (d : D), ρ[i]? = some (some (.lck b d)) → ∀ a, OwnA σ ρ i a → ¬ lent (vs ++ vs2) (as ++ ds.map .val) a := fun i b d e a o l => by
    rcases lentB a l with ⟨j, d, e1, e2⟩ | ⟨i2, j, e1, o2⟩
    · obtain ⟨u, eu, a', ob, ea', ex, w, no, _⟩ := rp.get e1
      rw [e2] at eu; cases eu; cases ea'
      exact no i o
    · have := R.sep _ _ _ o o2.a
      subst this
      obtain ⟨⟨b2, d2, e3⟩, _⟩ := o2
      rw [e] at e3; cases e3
  have nt : ∀ c x y z, thaw c x ≠ .own y z ∧ thaw c x ≠ .lck y z := fun c x y z => by cases c <;> simp [thaw]
  -- each slot of the new environment
  have slot : ∀ (i : Nat) (s : S), ρ'[i]? = some (some s) → (∃ o, σ[i]? = some o ∧ RelS T H' W' o s) ∧
      ((∃ b d, s = .own b d) → ∃ b d d2, s = .own b d2 ∧ ρ[i]? = some (some (.own b d))) ∧ ((∃ b d, s = .lck b d) → ρ[i]? = some (some s)) := fun i s e => by
    by_cases hm : i ∈ ats ps
    · obtain ⟨j, hj⟩ := ats_mem_iff hm
      rcases back_at eb nd hj with ⟨b, d, e1, ⟨d', e2, e3⟩ | ⟨d', e2, e3⟩⟩ | ⟨n, e3⟩
      · rw [e] at e3; cases e3
        obtain ⟨a, e4, e5⟩ := toArgs_get ea hj
        simp only [toArg, e1] at e5
        cases e5
        obtain ⟨o, e6, x, ob, rfl, _⟩ := R.at_ i _ e1
        have q := ce.out j _ _ _ (hv hj e6) (ha e4) e2
        obtain ⟨a2, o2, e7, e8, e9, e10⟩ := q
        cases e7
        exact ⟨⟨_, e6, x, o2, rfl, e8, e9, e10⟩, fun _ => ⟨b, d, d', rfl, e1⟩, fun ⟨_, _, z⟩ => by cases z⟩
      · rw [e] at e3; cases e3
        obtain ⟨a, e4, e5⟩ := toArgs_get ea hj
        simp only [toArg, e1] at e5
        cases e5
        obtain ⟨o, e6, x, ob, rfl, _⟩ := R.at_ i _ e1
        have q : RepD T.K H' W' (.ref x) d' := ce.out j _ _ _ (hv hj e6) (ha e4) e2
        refine ⟨⟨_, e6, ?_⟩, fun ⟨y, z, h⟩ => absurd h (nt b d' y z).1, fun ⟨y, z, h⟩ => absurd h (nt b d' y z).2⟩
        cases b <;> exact ⟨_, rfl, q⟩
      · rw [e] at e3
        refine ⟨keepS i s e3.symm fun a o l => ?_, fun ⟨b, d, h⟩ => ⟨b, d, d, h, by rw [← e3, h]⟩, fun _ => e3.symm⟩
        rcases lentB a l with ⟨j2, d2, e4, e5⟩ | ⟨i2, j2, e4, o2⟩
        · obtain ⟨u, eu, a', ob, ea', ex, w, no, _⟩ := rp.get e4
          rw [e5] at eu; cases eu; cases ea'
          exact no i o
        · have := R.sep _ _ _ o o2.a
          subst this
          obtain ⟨⟨b2, d2, e6⟩, _⟩ := o2
          exact n b2 d2 e6
    · have e3 := back_out eb hm
      rw [e] at e3
      exact ⟨keepS i s e3.symm fun a o => unl i a o hm, fun ⟨b, d, h⟩ => ⟨b, d, d, h, by rw [← e3, h]⟩, fun _ => e3.symm⟩
  have mon : Mon σ ρ ρ' := fun i a ⟨h1, h2⟩ => by
    rcases h1 with ⟨b, d, h1⟩ | ⟨b, d, h1⟩
    · obtain ⟨_, k, _⟩ := slot i _ h1
      obtain ⟨b2, d2, d3, e1, e2⟩ := k ⟨b, d, rfl⟩
      exact ⟨.inl ⟨_, _, e2⟩, h2⟩
    · obtain ⟨_, _, k⟩ := slot i _ h1
      exact ⟨.inr ⟨_, _, k ⟨b, d, rfl⟩⟩, h2⟩
  have rel : Rel T σ H' ρ' W' := by
    refine ⟨by rw [back_len eb]; exact R.len, fun i s e => (slot i s e).1, fun i j a h1 h2 => R.sep i j a (mon i a h1) (mon j a h2), ce.wl, fun i d a h1 h2 => ?_, fun a h => R.fzk a (ce.dom a h), fun i a h => ?_⟩
    · rcases h1 with h1 | h1
      · obtain ⟨_, k, _⟩ := slot i _ h1
        obtain ⟨b2, d2, d3, e1, e2⟩ := k ⟨_, _, rfl⟩
        cases e1
        exact R.fr i d2 a (.inl e2) h2
      · obtain ⟨_, _, k⟩ := slot i _ h1
        exact R.fr i d a (.inr (k ⟨_, _, rfl⟩)) h2
    · obtain ⟨h1, s, h2, h3⟩ := R.bor i a h
      refine ⟨h1, ?_⟩
      by_cases hm : i ∈ ats ps
      · obtain ⟨j, hj⟩ := ats_mem_iff hm
        rcases back_at eb nd hj with ⟨b, d, e1, ⟨d', e2, e3⟩ | ⟨d', e2, e3⟩⟩ | ⟨n, e3⟩
        · rw [e1] at h2; cases h2
          refine ⟨_, e3, ?_⟩
          cases b with
          | true => trivial
          | false => exact h3.elim
        · rw [e1] at h2; cases h2
          refine ⟨_, e3, ?_⟩
          cases b with
          | true => trivial
          | false => exact h3.elim
        · exact ⟨s, by rw [e3]; exact h2, h3⟩
      · exact ⟨s, by rw [back_out eb hm]; exact h2, h3⟩
  refine ⟨rel, fun b o h n na => ?_, mon, fun i b d e => ?_, ?_, fun d e a ev => ?_⟩
  · have nl : ¬ lent (vs ++ vs2) (as ++ ds.map .val) b := fun l => by
      rcases lentB b l with t | ⟨i, j, e1, o2⟩
      · exact na t
      · exact n i o2
    obtain ⟨h1, w1⟩ := ce.step b o h nl
    refine ⟨h1, fun i z => n i ?_, w1⟩
    obtain ⟨⟨c, d, e1⟩, e2⟩ := z
    obtain ⟨_, k, _⟩ := slot i _ e1
    obtain ⟨b2, d2, d3, e3, e4⟩ := k ⟨c, d, rfl⟩
    exact ⟨⟨_, _, e4⟩, e2⟩
  · by_cases hm : i ∈ ats ps
    · obtain ⟨j, hj⟩ := ats_mem_iff hm
      rcases back_at eb nd hj with ⟨b2, d2, e1, _⟩ | ⟨_, e3⟩
      · rw [e] at e1; cases e1
      · rw [e3]; exact e
    · rw [back_out eb hm]; exact e
  · cases r with
    | val d => exact ce.res
    | own d =>
      obtain ⟨a, o, rfl, n0, e1, w, q⟩ := ce.res
      refine ⟨a, o, rfl, e1, w, fun i z => ?_, R.fzk a n0, q⟩
      obtain ⟨_, u, e2, _⟩ := R.ownA (mon i a z)
      rw [n0] at e2; cases e2
  · cases r with
    | val d => cases e
    | own d =>
      obtain ⟨a2, o, e2, n0, _⟩ := ce.res
      rw [ev] at e2; cases e2
      exact n0
end
end Dv

set_option Elab.async false
set_option linter.all false
set_option maxRecDepth 100000
namespace Dv
open PySem PySem.Spec PyProof.Rows L2

section
variable {X : Cx} {Z : WX} {T : Tc} {F : Fn} {σ : Sg} {H H0 H1 H2 H' : Hp} {ρ ρ1 ρ2 ρ' : Env'} {W W1 W2 W' : AS} {K : PySem.W.Frag} {ds : List D}
/-- f(..), behind the arguments -/
theorem call_run (tk : T.K = X.K) {f : Str} {n : Nat} {ps : List P} {vs vs2 : List V} {Q : VK} (o : Outs T σ H ρ W ps ρ1 vs H1 W1) (hn : ∀ as, F.call f as ≠ .bad → as.length = n)
    (dv : ∀ H W, RepDs X.K H W vs2 (F.dfl f ps.length)) (h : Post X Z (doCall F f ps ρ1) σ H ρ fun p ρ' => ∀ v H' W', Out T σ H ρ W p ρ' v H' W' → Q v H') :
    spOf F X.mg X.K n f (vs ++ vs2) H1 Q (WE Z σ) := by
  unfold doCall at h
  obtain ⟨nd, h⟩ := Post.need h
  cases ea : toArgs ps ρ1 with
  | bad => rw [ea] at h; exact h.elim
  | err x =>
    exfalso
    have : ∀ {ps : List P} {ρ : Env'}, NoErr (toArgs ps ρ) := by
      intro ps
      induction ps with
      | nil => intro ρ; exact .ok
      | cons p ps ih =>
        intro ρ
        refine .bind ?_ fun _ => .bind ih fun _ => .ok
        unfold toArg
        split
        · exact .ok
        · exact .ok
        · split <;> first | exact .ok | exact .bad
    exact this x ea
  | ok as =>
    rw [ea] at h
    have h : Post X Z ((F.call f (as ++ (F.dfl f ps.length).map .val)).bind fun r => (backArgs ps r.2 ρ1).bind fun ρ' => .ok (r.1.p, ρ')) σ H ρ fun p ρ' => ∀ v H' W', Out T σ H ρ W p ρ' v H' W' → Q v H' := h
    obtain ⟨ar, back⟩ := args_ok o.go.rel o.rep nd ea
    have dv1 := dv H1 W1
    rw [← tk] at dv1
    have ar2 := ar.app dv1
    refine ⟨?_, W1, _, o.go.rel.wl, by rw [← tk]; exact ar2, ?_⟩
    · rw [ar2.length]
      refine hn _ fun z => ?_
      rw [z] at h; exact h.elim
    · cases ec : F.call f (as ++ (F.dfl f ps.length).map .val) with
      | bad => rw [ec] at h; exact h.elim
      | err er =>
        rw [ec] at h
        have h : ErrOk X Z er σ H ρ := h
        intro cls d H' e k
        refine h cls d H' e fun b ob hb nb => ?_
        obtain ⟨h1, n1, w1⟩ := o.go.step b ob hb nb
        refine k b ob h1 fun l => ?_
        obtain ⟨j, dd, e1, e2⟩ := l
        have hj : j < as.length := by
          by_cases hj : j < as.length
          · exact hj
          · rw [List.getElem?_append_right (by omega), List.getElem?_map] at e1
            cases z : (F.dfl f ps.length)[j - as.length]? with
            | none => rw [z] at e1; cases e1
            | some d => rw [z] at e1; cases e1
        rw [List.getElem?_append_left hj] at e1
        rw [List.getElem?_append_left (by rw [ar.length]; exact hj)] at e2
        rcases back j _ _ e1 trivial e2 with ⟨d2, e3⟩ | ⟨i, e3, a, e4, oa⟩
        · rw [o.rep.new e3 e2] at hb; cases hb
        · cases e4
          obtain ⟨x, e5, e6⟩ := toArgs_get ea e3
          rw [e1] at e5; cases e5
          obtain ⟨z1, z2⟩ := oa
          rcases z1 with z1 | ⟨b, d, z1⟩
          · exact n1 i ⟨z1, z2⟩
          · simp only [toArg, z1] at e6; cases e6
      | ok r =>
        obtain ⟨r, as'⟩ := r
        rw [ec] at h
        have h : Post X Z ((backArgs ps as' ρ1).bind fun ρ' => .ok (r.p, ρ')) σ H ρ fun p ρ' => ∀ v H' W', Out T σ H ρ W p ρ' v H' W' → Q v H' := h
        intro v H' W' ce
        rw [← tk] at ce
        cases eb : backArgs ps as' ρ1 with
        | bad => rw [eb] at h; exact h.elim
        | err x =>
          exfalso
          have : ∀ {ps : List P} {as : List A} {ρ : Env'}, NoErr (backArgs ps as ρ) := by
            intro ps
            induction ps with
            | nil => intro as ρ; exact .ok
            | cons p ps ih =>
              intro as ρ
              cases as with
              | nil => exact .bad
              | cons a as =>
                refine .bind ?_ fun _ => ih
                unfold backArg
                split
                · split
                  · split <;> first | exact .ok | exact .bad
                  · exact .ok
                · exact .ok
          exact this x eb
        | ok ρ2 =>
          rw [eb] at h
          obtain ⟨rel, st, mon, lk, rp, nw⟩ := call_back o.go.rel o.rep nd ea dv1 ce eb
          exact h v H' W' ⟨⟨rel, o.go.step.then st fun a z => (tmps_w o.rep a z).2, o.go.mon.trans mon, fun a z => o.go.dom a (ce.dom a z), o.go.lk.trans lk⟩, rp, fun d e a ev => o.go.dom a (nw d e a ev)⟩
theorem evs_len : ∀ {l : Exs} {ρ : Env'} {ps : List P} {ρ' : Env'}, evs F l ρ = .ok (ps, ρ') → ∀ {l' : List Expr}, True := fun _ => trivial
/-- f(e, ..) -/
theorem s_call (tk : T.K = X.K) (tz : Takes X Z) {f : Str} {np mn : Nat} (c : Callee X F f np mn) {e : Ex} {l : Exs} {e' : Expr} {l' : List Expr} {p pos : Pos} (hg : Gl X f) (hp : PA X (e' :: l') (tA X T F Z (.cons e l)))
    (h1 : mn ≤ (e' :: l').length) (h2 : (e' :: l').length ≤ np) (hlen : ∀ {ρ : Env'} {ps : List P} {ρ' : Env'}, evs F (.cons e l) ρ = .ok (ps, ρ') → ps.length = (e' :: l').length) (hdb : (f == ("__debug__" : Str)) = false)
    (he : starEach (e' :: l') X.env = (false, eval e' X.env) :: starEach l' X.env) (hpl : (backTo pos (starEach l' X.env)).any (·.1) = false) : PE X (.Call (.Name f p) (e' :: l') [] pos) (tE X T F Z (.call f (.cons e l))) := by
  obtain ⟨k, fa, fd, pn, G, hr, hm, hk, rfl, hn, hb⟩ := c.ex
  obtain ⟨dvl, dvs, bd, hd, dv⟩ := hb _ h1 h2
  refine wkE (pe_callSD (E := WE Z) G hr hg hm hk bd hd (fun σ => passAt tz σ) hp hdb he hpl) ?_
  rintro σ H Q ⟨ρ, W, R, h⟩
  have h := Post.bind h
  refine ⟨ρ, W, R, ?_⟩
  cases ee : evs F (.cons e l) ρ with
  | bad => rw [ee] at h; exact h
  | err x => rw [ee] at h; exact h
  | ok r =>
    obtain ⟨ps, ρ1⟩ := r
    rw [ee] at h
    intro vs H1 W1 o
    exact call_run tk o hn (by rw [hlen ee]; exact dv) h
/-- f() -/
theorem s_call0 (tk : T.K = X.K) (tz : Takes X Z) {f : Str} {np mn : Nat} (c : Callee X F f np mn) {p pos : Pos} (hg : Gl X f) (h1 : mn ≤ 0) (hdb : (f == ("__debug__" : Str)) = false) : PE X (.Call (.Name f p) [] [] pos) (tE X T F Z (.call f .nil)) := by
  obtain ⟨k, fa, fd, pn, G, hr, hm, hk, rfl, hn, hb⟩ := c.ex
  obtain ⟨dvl, dvs, bd, hd, dv⟩ := hb 0 h1 (Nat.zero_le _)
  refine ⟨fun pins s σ H Q I q => ?_⟩
  refine wpAny_Call_Name_kw (ld_glob I hg hm ?_ hdb)
  refine PySem.W.callWith_K0 I.kIn hk (run_fnSD (us := []) (E := WE Z) G hr bd hd (passAt tz σ) I .nil ?_)
  obtain ⟨ρ, W, R, h⟩ := q
  have h := Post.bind h
  exact call_run (vs := []) tk (ps := []) (ρ := ρ) (ρ1 := ρ) ⟨Go.refl R, rfl⟩ hn dv h
end
end Dv

set_option Elab.async false
set_option linter.all false
set_option maxRecDepth 100000
namespace Dv
open PySem PySem.Spec PyProof.Rows L2

/-! ### enumerate over a tuple -/
abbrev tuO (a : Addr) : Obj := { cls := .type "tuple_iterator", data := .fields #[.ref a, .int 0 0] }
abbrev enO (it : Addr) : Obj := { cls := .type "enumerate", data := .fields #[.none, .bool false, .ref it, rawInt 0, .none, .none] }
set_option maxHeartbeats 2000000 in
theorem meets_enumT (a : Addr) (items : Array Value) : Meets (Builtin.«enumerate.__new__» ⟨[.type "enumerate", .ref a], []⟩) (fun _ R s => s.heap.IsTuple a items ∧
      R (.ok (.ret (.ref (s.heap.push (tuO a)).objs.size))) { s with heap := (s.heap.push (tuO a)).push (enO s.heap.objs.size) }) :=
  .of_wp fun q w A R s hh => by
    obtain ⟨hp, gs, ds, tk, os⟩ := s; obtain ⟨ht, hR⟩ := hh
    have sub := sub_enumerate
    have it : ∀ {B : Around} {E : Value → Shared → Prop} {Q : Value → Shared → Prop}, Q (.ref hp.objs.size) ⟨hp.push (tuO a), gs, ds, tk, os⟩ → wpAny (model q w) B (pyIter (.ref a)) Q E ⟨hp, gs, ds, tk, os⟩ :=
      fun z => wpAny_pyIter_tuple (s := ⟨hp, gs, ds, tk, os⟩) ht z
    wp_walk using it
    refine wpAny_stack_any fun st => wpAny_pure ?_
    split
    · rename_i c1 _ _ _ _ _
      cases (c1 == Value.type "enumerate")
      all_goals
        wp_walk using it
        exact ⟨_, rfl, hR⟩
    · wp_walk using it
      exact ⟨_, rfl, hR⟩
theorem call_enumT {q : Program} {w : World} {A : Around} {E : Value → Shared → Prop} {s : Shared} {a : Addr} {items : Array Value} {Q : Value → Shared → Prop} (ht : s.heap.IsTuple a items)
    (h : ∀ h', IsEnum h' (s.heap.objs.size + 1) s.heap.objs.size 0 .none → h'.IsTupleIter s.heap.objs.size a 0 → (∀ b o, s.heap.get? b = some o → h'.get? b = some o) → Q (.ref (s.heap.objs.size + 1)) { s with heap := h' }) :
    wpAny (model q w) A (call (.type "enumerate") [.ref a]) Q E s := by
  refine callType_new F.called_enumerate (by decide) (F.typeCall_enumerate_1 _) (F.newCall_enumerate_1 _) (fun ob => F.args_object_init_2 ob _) F.entry_enumerate_new (meets_enumT a items) ⟨ht, ?_⟩
  have sz : (s.heap.push (tuO a)).objs.size = s.heap.objs.size + 1 := Heap.size_push ..
  show _ ∧ _
  rw [sz]
  have he : IsEnum ((s.heap.push (tuO a)).push (enO s.heap.objs.size)) (s.heap.objs.size + 1) s.heap.objs.size 0 .none := by
    have z := Heap.get?_push_size (s.heap.push (tuO a)) (o := enO s.heap.objs.size) rfl
    rw [sz] at z
    exact z
  exact ⟨⟨_, he, rfl⟩, h _ he ⟨_, Heap.get?_push_of_some _ (Heap.get?_push_size _ rfl), rfl, rfl⟩ fun b o x => Heap.get?_push_of_some _ (Heap.get?_push_of_some _ x)⟩
theorem next_enumT_end {q : Program} {w : World} {A : Around} {E : Value → Shared → Prop} {s : Shared} {e it a : Addr} {i : Nat} {items : Array Value} {old : Value} {Q : Option Value → Shared → Prop} (hn : A.handled = none) (he : IsEnum s.heap e it i old) (hi : s.heap.IsTupleIter it a i) (ht : s.heap.IsTuple a items) (hx : items[i]? = none)
    (h : ∀ h', Heap.ExtBut it s.heap h' → Q none { s with heap := h' }) : wpAny (model q w) A (pyNext (.ref e)) Q E s := by
  have ty : s.TypeIs (.ref e) "enumerate" := ⟨_, he, rfl⟩
  unfold pyNext
  refine wpAny_bind <| wpAny_attempt <| wpAny_callSpecial?_slot (name := Str.ofString "__next__") ty F.slot_enumerate_next <| wpAny_call_entry F.slot_enumerate_next ty F.entry_enumerate_next ?_ <| F.args_enumerate_next_1 _
  show wpAny _ _ (field (.ref e) 2 >>= _) _ _ s
  refine wpAny_bind (wpAny_field he rfl (x := .ref it) rfl (wpAny_bind ?_))
  refine wpAny_nextOf_tuple_end hn hi ht hx fun h2 x hb hs => ?_
  obtain ⟨o, ho, hc⟩ := hs
  exact wpAny_bind (wpAny_isInstance (T := "StopIteration") (b := true) ⟨o, ho, hc⟩ isSubtype_stop (wpAny_pure (h _ hb)))
/-- the tuple at a as it stands at each turn, the items in new pairs -/
def IteT (K : PySem.W.Frag) (a : Addr) : It where
  go := fun i H => ∃ (l : List V) (x : V), SqT K H a l ∧ l[i]? = some x
  yld := fun i H v H' => ∃ T x, v = .ref T ∧ H T = none ∧ H' = upd H T (.tup [.int (i : Nat), x]) ∧ ∀ l, SqT K H a l → l[i]? = some x
  stop := fun i H => ∃ l : List V, SqT K H a l ∧ l.length ≤ i
theorem turn_enumT {P : Program} {w : World} {K : PySem.W.Frag} {elts : List Expr} {kk : Nat} {tpos : Pos} (a e it : Addr) :
    Turn P w K (.Tuple elts kk tpos) (IteT K a) [e, it] e (fun i h => (∃ old, IsEnum h e it ((i : Nat) : Int) old) ∧ h.IsTupleIter it a i ∧ e ≠ it ∧ e ≠ a ∧ a ≠ it) where
  mem := by simp
  obj := fun i h st c hc => by
    obtain ⟨⟨old, he⟩, ⟨o, ho, _, hd⟩, _⟩ := st
    have z : c = e ∨ c = it := by simpa using hc
    rcases z with z | z
    · subst z; exact ⟨_, he, fun v y => nomatch y⟩
    · subst z; exact ⟨o, ho, fun v y => by rw [hd] at y; cases y⟩
  keep := fun i h h' st k => by
    obtain ⟨⟨old, he⟩, hi, hr⟩ := st
    exact ⟨⟨old, k e (by simp) _ he⟩, hi.at fun o y => k it (by simp) o y, hr⟩
  item := by
    intro X hP hw hK hc i pins s σ H E I hf st hg
    subst hP hw hK
    obtain ⟨⟨old, he⟩, hit, n1, n2, n3⟩ := st
    obtain ⟨l, x, hq, hx⟩ := hg
    obtain ⟨its, rv, p, _⟩ := I.tuple hq
    obtain ⟨u, hu, ru⟩ := rv.get hx
    have el : e < s.heap.objs.size := Heap.lt_size he
    have il : it < s.heap.objs.size := by obtain ⟨_, y, _⟩ := hit; exact Heap.lt_size y
    have lt : i < its.toArray.size := by
      have := (List.getElem?_eq_some_iff.mp hu).1
      simpa using this
    refine wpAny_pyNext_enum_itemD (Draws.tuple (prog := X.prog) (w := X.w) (A := X.A.in1) (show X.A.in1.handled = none from I.ok.hd hc) it a n3 its.toArray) he ⟨hit, p⟩ lt n1 (by simp [n1, n2]) fun x' h' tk hx' ho st' hT _ hk => ?_
    obtain rfl : x' = u := by
      have : its[i]? = some x' := by simpa using hx'
      rw [hu] at this
      exact (Option.some.inj this).symm
    refine ⟨_, rfl, wpAny_letOwnedTupleGo_enum (s := { s with heap := h', toks := tk + 1 }) ho fun h2 he2 sb => ?_⟩
    have hT2 := (sb.2 _ (Nat.ne_of_gt el)).trans hT
    have new : ObjOk X.prog X.w (upd H s.heap.objs.size (.tup [.int (i : Nat), x])) h2 s.heap.objs.size (.tup [.int (i : Nat), x]) :=
      ⟨by show 2 ≤ sizeLine; decide, [.int i tk, x'], .cons ⟨_, rfl⟩ (.cons ru .nil), ⟨_, hT2, rfl, _, rfl⟩⟩
    have I1 : Inv X pins σ (upd H s.heap.objs.size (.tup [.int (i : Nat), x])) { s with heap := h2, toks := tk + 1 } :=
      I.turnedNew (ch := [e, it]) (fun c o hb y => (sb.2 c (fun z => hb (by simp [z]))).trans (hk c o (fun z => hb (by simp [z])) (fun z => hb (by simp [z])) y)) hf (Nat.le_refl _) new
    refine ⟨.ref s.heap.objs.size, _, I1, rfl, ⟨_, x, rfl, I.hok.fresh (Nat.le_refl _), rfl, fun l' hl' => by rw [I.tuple_inj hl' hq]; exact hx⟩, ⟨⟨x', ?_⟩, st'.1.at fun o y => (sb.2 it (Ne.symm n1)).trans y, n1, n2, n3⟩, fun c hcm => ?_⟩
    · rw [show ((i + 1 : Nat) : Int) = (i : Int) + 1 by omega]
      exact he2
    · have lc : c < s.heap.objs.size := by
        have z : c = e ∨ c = it := by simpa using hcm
        rcases z with z | z
        · subst z; exact el
        · subst z; exact il
      rw [upd_ne (Nat.ne_of_lt lc)]
      exact (hf c hcm).1
  done := by
    intro X hP hw hK hc i pins s σ H E I hf st hg
    subst hP hw hK
    obtain ⟨⟨old, he⟩, hit, n1, n2, n3⟩ := st
    obtain ⟨l, hq, hx⟩ := hg
    obtain ⟨its, rv, p, _⟩ := I.tuple hq
    obtain ⟨f0, f1, f2, f3, f4, f5⟩ := hf it (by simp)
    have hl := rv.length
    exact next_enumT_end (I.ok.hd hc) he hit p (by simp; omega) fun h' eb => ⟨rfl, I.turned (t' := s.toks) (fun b o hb y => eb b o hb y) f0 f1 f3 f4 f5⟩
  self := fun A i s Q E st h => let ⟨⟨_, he⟩, _⟩ := st; wpAny_pyIter_enum he h
def iEnumA (K : PySem.W.Frag) (ta : TA) : TI := fun σ H R => ta σ H fun vs H1 => ∃ a l, vs = [.ref a] ∧ ((SqL K H1 a l ∧ R (Ite K a) H1) ∨ (SqT K H1 a l ∧ R (IteT K a) H1))
theorem pi_enumA {X : Cx} {e : Expr} {ta : TA} {p pos tpos : Pos} {elts : List Expr} {kk : Nat} (hg : Gl X "enumerate") (hm : X.mg "enumerate" = none) (ha : PA X [e] ta) (hs : starEach [e] X.env = [(false, eval e X.env)]) :
    PI X (.Tuple elts kk tpos) (.Call (.Name "enumerate" p) [e] [] pos) (iEnumA X.K ta) := by
  refine ⟨fun pins s σ H R I h => Call_ (ld_blt I hg hm boot_enumerate (PyProof.Rows.callWith_type1 (thn (ha.run pos pins s σ H _ I h) fun us s1 ⟨vs, H1, I1, r1, q1⟩ => ?_) hs rfl))⟩
  obtain ⟨a, l, ex, q1⟩ := q1
  subst ex
  cases r1 with
  | cons r rr =>
    cases rr
    cases r
    have fresh : ∀ b, b ∈ [s1.heap.objs.size + 1, s1.heap.objs.size] → FpOk X pins H1 b := fun b hb => by
      have z : b = s1.heap.objs.size + 1 ∨ b = s1.heap.objs.size := by simpa using hb
      have le : s1.heap.objs.size ≤ b := by omega
      exact I1.fpOk le (I1.hok.fresh le)
    rcases q1 with ⟨hq, q⟩ | ⟨hq, q⟩
    · obtain ⟨its, rv, p', _⟩ := I1.list hq
      exact call_enumerate_list p'.isList fun h' he hi _ hk => wpAny_pyIter_enum he ⟨s1.heap.objs.size + 1, [s1.heap.objs.size + 1, s1.heap.objs.size], _, _, H1, rfl, I1.kept (t' := s1.toks) hk, turn_enum a (s1.heap.objs.size + 1) s1.heap.objs.size, ⟨⟨.none, he⟩, hi, Nat.succ_ne_self _⟩, fresh, q⟩
    · obtain ⟨its, rv, p', _⟩ := I1.tuple hq
      have la : a < s1.heap.objs.size := by obtain ⟨o, ho, _⟩ := id p'; exact Heap.lt_size ho
      exact call_enumT p' fun h' he hi hk => wpAny_pyIter_enum he ⟨s1.heap.objs.size + 1, [s1.heap.objs.size + 1, s1.heap.objs.size], _, _, H1, rfl, I1.kept (t' := s1.toks) hk, turn_enumT a (s1.heap.objs.size + 1) s1.heap.objs.size, ⟨⟨.none, he⟩, hi, Nat.succ_ne_self _, Nat.ne_of_gt (Nat.lt_succ_of_lt la), Nat.ne_of_lt la⟩, fresh, q⟩

/-! ### zip over two lists, tuples, or one of each -/
def SqX (K : PySem.W.Frag) (H : Hp) (a : Addr) (l : List V) : Bool → Prop
  | true => SqL K H a l
  | false => SqT K H a l
def IterX (h : Heap) (it a : Addr) (i : Nat) : Bool → Prop
  | true => h.IsListIter it a i
  | false => h.IsTupleIter it a i
def SeqX (h : Heap) (a : Addr) (items : Array Value) : Bool → Prop
  | true => h.IsList a items
  | false => h.IsTuple a items
def obX (a : Addr) : Bool → Obj
  | true => { cls := .type "list_iterator", data := .fields #[.ref a, .int 0 0] }
  | false => tuO a
theorem drawsX {q : Program} {w : World} {A : Around} (hn : A.handled = none) (it a : Addr) (ne : a ≠ it) (items : Array Value) : ∀ k : Bool, Draws q w A it [it, a] items.size (fun i v => items[i]? = some v) fun i h => IterX h it a i k ∧ SeqX h a items k
  | true => Draws.list hn it a ne items
  | false => Draws.tuple hn it a ne items
theorem beginsX (a : Addr) (items : Array Value) : ∀ k : Bool, Begins (.ref a) (obX a k) fun h => SeqX h a items k
  | true => begins_list a items
  | false => begins_tuple a items
theorem IterX.at_ {h h' : Heap} {it a : Addr} {i : Nat} : ∀ {k : Bool}, IterX h it a i k → (∀ o, h.get? it = some o → h'.get? it = some o) → IterX h' it a i k
  | true, x, y => Heap.IsListIter.at x y
  | false, x, y => Heap.IsTupleIter.at x y
theorem IterX.ob {h : Heap} {it a : Addr} {i : Nat} {k : Bool} (x : IterX h it a i k) : ∃ o, h.get? it = some o ∧ ∀ v, o.data ≠ .cell v := by
  cases k with
  | true => obtain ⟨o, e, _, d⟩ := x; exact ⟨o, e, fun v y => by rw [d] at y; cases y⟩
  | false => obtain ⟨o, e, _, d⟩ := x; exact ⟨o, e, fun v y => by rw [d] at y; cases y⟩
theorem iterX0 {h : Heap} {it a : Addr} : ∀ {k : Bool}, h.get? it = some (obX a k) → IterX h it a 0 k
  | true, e => ⟨_, e, rfl, rfl⟩
  | false, e => ⟨_, e, rfl, rfl⟩
def ItzM (K : PySem.W.Frag) (k1 k2 : Bool) (a b : Addr) : It where
  go := fun i H => ∃ (l m : List V) (x y : V), SqX K H a l k1 ∧ SqX K H b m k2 ∧ l[i]? = some x ∧ m[i]? = some y
  yld := fun i H v H' => ∃ T x y, v = .ref T ∧ H T = none ∧ H' = upd H T (.tup [x, y]) ∧ (∀ l, SqX K H a l k1 → l[i]? = some x) ∧ ∀ m, SqX K H b m k2 → m[i]? = some y
  stop := fun i H => ∃ l m : List V, SqX K H a l k1 ∧ SqX K H b m k2 ∧ i ≤ l.length ∧ i ≤ m.length ∧ (i = l.length ∨ i = m.length)
theorem inv_seqX {X : Cx} {pins : List (Addr × Obj)} {σ : L2.St} {H : Hp} {s : Shared} (I : Inv X pins σ H s) {a : Addr} {l : List V} : ∀ {k : Bool}, SqX X.K H a l k → ∃ its, Vals l its ∧ SeqX s.heap a its.toArray k ∧ a < s.heap.objs.size
  | true, h => by
    obtain ⟨its, rv, p, _⟩ := I.list h
    exact ⟨its, rv, p.isList, p.lt⟩
  | false, h => by
    obtain ⟨its, rv, p, _⟩ := I.tuple h
    obtain ⟨o, ho, _⟩ := id p
    exact ⟨its, rv, p, Heap.lt_size ho⟩
theorem inv_injX {X : Cx} {pins : List (Addr × Obj)} {σ : L2.St} {H : Hp} {s : Shared} (I : Inv X pins σ H s) {a : Addr} {l m : List V} : ∀ {k : Bool}, SqX X.K H a l k → SqX X.K H a m k → l = m
  | true, h, h2 => I.list_inj h h2
  | false, h, h2 => I.tuple_inj h h2
theorem turn_zipM {P : Program} {w : World} {K : PySem.W.Frag} {k1 k2 : Bool} {elts : List Expr} {kk : Nat} {tpos : Pos} {a b z TI TO i1 i2 : Addr} (S : ZipSep2 z TI TO i1 i2 [i1, a] [i2, b]) (n1 : a ≠ i1) (n2 : b ≠ i2) :
    Turn P w K (.Tuple elts kk tpos) (ItzM K k1 k2 a b) [z, TI, TO, i1, i2] z (fun i h => IsZip h z TI TO .none ∧ IsTupOf2 h TI (.ref i1) (.ref i2) ∧ (∃ x y, IsTupOf2 h TO x y) ∧ IterX h i1 a i k1 ∧ IterX h i2 b i k2) where
  mem := by simp
  obj := fun i h st c hc => by
    obtain ⟨hz, hI, ⟨x, y, hO⟩, h1, h2⟩ := st
    have e' : c = z ∨ c = TI ∨ c = TO ∨ c = i1 ∨ c = i2 := by simpa using hc
    rcases e' with q | q | q | q | q
    · subst q; exact ⟨_, hz, fun v y => nomatch y⟩
    · subst q; exact ⟨_, hI, fun v y => nomatch y⟩
    · subst q; exact ⟨_, hO, fun v y => nomatch y⟩
    · subst q; exact h1.ob
    · subst q; exact h2.ob
  keep := fun i h h' st k => by
    obtain ⟨hz, hI, ⟨x, y, hO⟩, h1, h2⟩ := st
    exact ⟨k z (by simp) _ hz, k TI (by simp) _ hI, ⟨x, y, k TO (by simp) _ hO⟩, h1.at_ fun o e => k i1 (by simp) o e, h2.at_ fun o e => k i2 (by simp) o e⟩
  item := by
    intro X hP hw hK hc i pins s σ H E I hf st hg
    subst hP hw hK
    obtain ⟨hz, hI, ⟨x0, y0, hO⟩, h1, h2⟩ := st
    obtain ⟨l, m, x, y, hq1, hq2, hx, hy⟩ := hg
    obtain ⟨its1, rv1, p1, _⟩ := inv_seqX I hq1
    obtain ⟨its2, rv2, p2, _⟩ := inv_seqX I hq2
    obtain ⟨u1, hu1, ru1⟩ := rv1.get hx
    obtain ⟨u2, hu2, ru2⟩ := rv2.get hy
    have zl : z < s.heap.objs.size := Heap.lt_size hz
    have lt1 : i < its1.toArray.size := by have := (List.getElem?_eq_some_iff.mp hu1).1; simpa using this
    have lt2 : i < its2.toArray.size := by have := (List.getElem?_eq_some_iff.mp hu2).1; simpa using this
    have hn : X.A.in1.handled = none := I.ok.hd hc
    refine wpAny_pyNext_zipD2_item S (drawsX (q := X.prog) (w := X.w) hn i1 a n1 its1.toArray k1) (drawsX (q := X.prog) (w := X.w) hn i2 b n2 its2.toArray k2) hz hI hO ⟨h1, p1⟩ ⟨h2, p2⟩ lt1 lt2 fun v1 v2 h' tk e1 e2 z' O' s1' s2' hT _ hk => ?_
    obtain rfl : v1 = u1 := by
      have e1 : its1[i]? = some v1 := by simpa using e1
      rw [hu1] at e1
      exact (Option.some.inj e1).symm
    obtain rfl : v2 = u2 := by
      have e2 : its2[i]? = some v2 := by simpa using e2
      rw [hu2] at e2
      exact (Option.some.inj e2).symm
    refine ⟨_, rfl, wpAny_letOwnedTupleGo_zip (s := { s with heap := h', toks := tk }) z' fun g z2 sb => ?_⟩
    have hT2 := (sb.2 _ (Nat.ne_of_gt zl)).trans hT
    have new : ObjOk X.prog X.w (upd H s.heap.objs.size (.tup [x, y])) g s.heap.objs.size (.tup [x, y]) := ⟨by show 2 ≤ sizeLine; decide, [v1, v2], .cons ru1 (.cons ru2 .nil), ⟨_, hT2, rfl, _, rfl⟩⟩
    have I1 : Inv X pins σ (upd H s.heap.objs.size (.tup [x, y])) { s with heap := g, toks := tk } :=
      I.turnedNew (ch := [z, TI, TO, i1, i2]) (fun c o nb e => (sb.2 c (fun q => nb (by simp [q]))).trans (hk c o (fun q => nb (by simp [q])) (fun q => nb (by simp [q])) (fun q => nb (by simp [q])) (fun q => nb (by simp [q])) e)) hf (Nat.le_refl _) new
    have z1 : i1 ≠ z := fun q => S.zf1 (by rw [← q]; simp)
    have z3 : i2 ≠ z := fun q => S.zf2 (by rw [← q]; simp)
    refine ⟨.ref s.heap.objs.size, _, I1, rfl, ⟨_, x, y, rfl, I.hok.fresh (Nat.le_refl _), rfl, fun l' hl => by rw [inv_injX I hl hq1]; exact hx, fun l' hl => by rw [inv_injX I hl hq2]; exact hy⟩,
      ⟨z2, (sb.2 _ S.TIz).trans (hk _ _ S.TIz S.TITO S.TIi1 S.TIi2 hI), ⟨v1, v2, (sb.2 _ S.TOz).trans O'⟩, s1'.1.at_ fun o e => (sb.2 _ z1).trans e, s2'.1.at_ fun o e => (sb.2 _ z3).trans e⟩, fun c hcm => ?_⟩
    have lc : c < s.heap.objs.size := by
      have e' : c = z ∨ c = TI ∨ c = TO ∨ c = i1 ∨ c = i2 := by simpa using hcm
      rcases e' with q | q | q | q | q
      · subst q; exact zl
      · subst q; exact Heap.lt_size hI
      · subst q; exact Heap.lt_size hO
      · subst q; obtain ⟨_, e, _⟩ := h1.ob; exact Heap.lt_size e
      · subst q; obtain ⟨_, e, _⟩ := h2.ob; exact Heap.lt_size e
    rw [upd_ne (Nat.ne_of_lt lc)]
    exact (hf c hcm).1
  done := by
    intro X hP hw hK hc i pins s σ H E I hf st hg
    subst hP hw hK
    obtain ⟨hz, hI, ⟨x0, y0, hO⟩, h1, h2⟩ := st
    obtain ⟨l, m, hq1, hq2, le1, le2, hend⟩ := hg
    obtain ⟨its1, rv1, p1, _⟩ := inv_seqX I hq1
    obtain ⟨its2, rv2, p2, _⟩ := inv_seqX I hq2
    have l1 := rv1.length
    have l2 := rv2.length
    have hn : X.A.in1.handled = none := I.ok.hd hc
    exact wpAny_pyNext_zipD2_end S (drawsX (q := X.prog) (w := X.w) hn i1 a n1 its1.toArray k1) (drawsX (q := X.prog) (w := X.w) hn i2 b n2 its2.toArray k2) hz hI hO ⟨h1, p1⟩ ⟨h2, p2⟩ (by simp; omega) (by simp; omega) (by simp; omega) fun h' tk hk =>
      ⟨rfl, I.turnedL (t' := tk) (ch := [z, TI, TO, i1, i2]) (fun c o nb e => hk c o (fun q => nb (by simp [q])) (fun q => nb (by simp [q])) (fun q => nb (by simp [q])) (fun q => nb (by simp [q])) e) hf⟩
  self := fun A i s Q E st h => wpAny_pyIter_zip st.1 h
def iZipM (K : PySem.W.Frag) (ta : TA) : TI := fun σ H R => ta σ H fun vs H1 => ∃ (k1 k2 : Bool) (a b : Addr) (l m : List V), vs = [.ref a, .ref b] ∧ SqX K H1 a l k1 ∧ SqX K H1 b m k2 ∧ R (ItzM K k1 k2 a b) H1
theorem sepM {N a b : Nat} (ha : a < N) (hb : b < N) : ZipSep2 (N + 4) (N + 2) (N + 3) N (N + 1) [N, a] [N + 1, b] := zip_sep2 (fp1 := [a]) (fp2 := [b]) (fun c h => by rw [List.mem_singleton.mp h]; exact ha) (fun c h => by rw [List.mem_singleton.mp h]; exact hb)
theorem pi_zipM {X : Cx} {e e2 : Expr} {ta : TA} {p pos tpos : Pos} {elts : List Expr} {kk : Nat} (hg : Gl X "zip") (hm : X.mg "zip" = none) (ha : PA X [e, e2] ta)
    (hs : starEach [e, e2] X.env = (false, eval e X.env) :: starEach [e2] X.env) (hpl : (backTo pos (starEach [e2] X.env)).any (·.1) = false) : PI X (.Tuple elts kk tpos) (.Call (.Name "zip" p) [e, e2] [] pos) (iZipM X.K ta) := by
  refine ⟨fun pins s σ H R I h => Call_ (ld_blt I hg hm PyProof.Rows.boot_zip (PyProof.Rows.callWith_type1 (thn (ha.run pos pins s σ H _ I h) fun us s1 ⟨vs, H1, I1, r1, q1⟩ => ?_) hs hpl))⟩
  obtain ⟨k1, k2, a, b, l, m, ex, hq1, hq2, q⟩ := q1
  subst ex
  cases r1 with
  | cons r rr =>
    cases rr with
    | cons r' rr =>
      cases rr
      cases r
      cases r'
      obtain ⟨its1, rv1, p1, la⟩ := inv_seqX I1 hq1
      obtain ⟨its2, rv2, p2, lb⟩ := inv_seqX I1 hq2
      refine zip_begins2 (beginsX a its1.toArray k1) (beginsX b its2.toArray k2) p1 p2 fun h' hz hI hO o1 o2 _ hk => wpAny_pyIter_zip hz ?_
      refine ⟨s1.heap.objs.size + 4, [s1.heap.objs.size + 4, s1.heap.objs.size + 2, s1.heap.objs.size + 3, s1.heap.objs.size, s1.heap.objs.size + 1], _, _, H1, rfl, I1.kept (t' := s1.toks) hk, turn_zipM (sepM la lb) (Nat.ne_of_lt la) (Nat.ne_of_lt (Nat.lt_succ_of_lt lb)), ⟨hz, hI, ⟨_, _, hO⟩, iterX0 o1, iterX0 o2⟩, fun c hcm => ?_, q⟩
      have z : c = s1.heap.objs.size + 4 ∨ c = s1.heap.objs.size + 2 ∨ c = s1.heap.objs.size + 3 ∨ c = s1.heap.objs.size ∨ c = s1.heap.objs.size + 1 := by simpa using hcm
      have le : s1.heap.objs.size ≤ c := by
        rcases z with z | z | z | z | z <;> rw [z] <;> first | exact Nat.le_add_right _ _ | exact Nat.le_refl _
      exact I1.fpOk le (I1.hok.fresh le)

/-! ### what a loop walks -/
def Lay (H H' : Hp) : Prop := H' = H ∨ ∃ a vs, H a = none ∧ H' = upd H a (.tup vs)
/-- at every later state the iterator yields the items in their order -/
def Feed (T : Tc) (J : It) (l : List D) (σ : Sg) (H : Hp) (ρ : Env') (W : AS) : Prop :=
  ∀ σ2 H2 ρ2 W2, Rel T σ2 H2 ρ2 W2 → Step σ H ρ W σ2 H2 ρ2 W2 →
    (∀ (i : Nat) (d : D), l[i]? = some d → J.go i H2 ∧ ∀ x H3, J.yld i H2 x H3 → Lay H2 H3 ∧ RepD T.K H3 W2 x d) ∧ J.stop l.length H2
def tI (X : Cx) (T : Tc) (F : Fn) (Z : WX) (it : Ie) : TI := fun σ H R => ∃ ρ W, Rel T σ H ρ W ∧ Post X Z (evi F it ρ) σ H ρ fun lp ρ' => ∀ J H' W', Go T σ H ρ W H' ρ' W' → Feed T J lp.1 σ H' (lockP lp.2 ρ').2 W' → R J H'

section
variable {X : Cx} {Z : WX} {T : Tc} {F : Fn} {σ : Sg} {H H0 H1 H2 H' : Hp} {ρ ρ1 ρ2 ρ' : Env'} {W W1 W2 W' : AS} {K : PySem.W.Frag} {ds : List D}
theorem lock_own {p : P} {i : Nat} {a : Addr} (h : OwnU σ (lockP p ρ).2 i a) : OwnU σ ρ i a ∧ ∀ j b d, p = .at_ j → ρ[j]? = some (some (.own b d)) → i ≠ j := by
  unfold lockP at h
  split at h
  · rename_i k
    split at h
    · rename_i b d e
      obtain ⟨⟨c, x, h1⟩, h2⟩ := h
      rcases getq_set h1 with ⟨rfl, z, _⟩ | ⟨ne, z⟩
      · cases z
      · exact ⟨⟨⟨c, x, z⟩, h2⟩, fun j b d e1 _ e2 => by cases e1; exact ne e2.symm⟩
    · rename_i n
      exact ⟨h, fun j b d e1 e2 _ => by cases e1; exact n b d e2⟩
  · rename_i n
    exact ⟨h, fun j b d e1 e2 _ => n j e1⟩
theorem lock_go (R : Rel T σ H ρ W) (p : P) : Go T σ H ρ W H (lockP p ρ).2 W := by
  unfold lockP
  split
  · rename_i i
    split
    · rename_i b d e
      have hi : i < ρ.length := (List.getElem?_eq_some_iff.mp e).1
      have mon : Mon σ ρ (ρ.set i (some (.lck b d))) := fun j x ⟨h1, h2⟩ => by
        rcases h1 with ⟨c, z, h1⟩ | ⟨c, z, h1⟩
        · rcases getq_set h1 with ⟨rfl, k, _⟩ | ⟨_, k⟩
          · cases k
          · exact ⟨.inl ⟨c, z, k⟩, h2⟩
        · rcases getq_set h1 with ⟨rfl, k, _⟩ | ⟨_, k⟩
          · exact ⟨.inl ⟨b, d, e⟩, h2⟩
          · exact ⟨.inr ⟨c, z, k⟩, h2⟩
      refine ⟨⟨by simpa using R.len, fun j s h => ?_, fun j k x h1 h2 => R.sep j k x (mon j x h1) (mon k x h2), R.wl, fun j z x h1 h2 => ?_, R.fzk, fun j x h => ?_⟩, fun x o h n => ⟨h, fun j z => n j ?_, Iff.rfl⟩, mon, fun _ h => h, Lk.set fun b' d' z => by rw [e] at z; cases z⟩
      · rcases getq_set h with ⟨rfl, k, _⟩ | ⟨ne, k⟩
        · cases k
          obtain ⟨o, e1, q⟩ := R.at_ i _ e
          exact ⟨o, e1, q⟩
        · exact R.at_ j s k
      · rcases h1 with h1 | h1
        · rcases getq_set h1 with ⟨rfl, k, _⟩ | ⟨_, k⟩
          · cases k
          · exact R.fr j z x (.inl k) h2
        · rcases getq_set h1 with ⟨rfl, k, _⟩ | ⟨_, k⟩
          · cases k; exact R.fr i d x (.inl e) h2
          · exact R.fr j z x (.inr k) h2
      · obtain ⟨h1, s, h2, h3⟩ := R.bor j x h
        refine ⟨h1, ?_⟩
        by_cases ej : i = j
        · subst ej
          refine ⟨.lck b d, by rw [List.getElem?_set_self hi], ?_⟩
          rw [e] at h2; cases h2
          cases b with
          | true => trivial
          | false => exact h3.elim
        · exact ⟨s, by rw [List.getElem?_set_ne ej]; exact h2, h3⟩
      · obtain ⟨⟨c, y, h1⟩, h2⟩ := z
        rcases getq_set h1 with ⟨rfl, k, _⟩ | ⟨_, k⟩
        · cases k
        · exact ⟨⟨c, y, k⟩, h2⟩
    · exact Go.refl R
  · exact Go.refl R
/-- an object that nobody may change now -/
theorem still_list {a : Addr} {o : HO} (hx : H a = some o) (n : ∀ i, ¬ OwnU σ ρ i a) (s : Step σ H ρ W σ' H2 ρ2 W2) : H2 a = some o := (s a o hx n).1
theorem feed_list (R : Rel T σ H ρ W) {a : Addr} {vs : List V} {l : List D} (hx : H a = some (.lst vs)) (n : ∀ i, ¬ OwnU σ ρ i a) (r : RepDs T.K H W vs l) : Feed T (Itl T.K a) l σ H ρ W := fun σ2 H2 ρ2 W2 R2 s => by
  have e := still_list hx n s
  have r2 := r.adv R.wl (s.adv R)
  refine ⟨fun i d h => ?_, ⟨vs, .of e, by rw [r.length]; exact Nat.le_refl _⟩⟩
  obtain ⟨v, hv, q⟩ := r2.get h
  refine ⟨⟨vs, v, .of e, hv⟩, fun x H3 y => ?_⟩
  obtain ⟨rfl, y⟩ := y
  have := y vs (.of e)
  rw [hv] at this; cases this
  exact ⟨.inl rfl, q⟩
theorem feed_tup (R : Rel T σ H ρ W) {a : Addr} {vs : List V} {l : List D} (hx : TupL T.K H a vs) (r : RepDs T.K H W vs l) : Feed T (Itt T.K a) l σ H ρ W := fun σ2 H2 ρ2 W2 R2 s => by
  have e := (hx.adv R.wl (s.adv R)).sq
  have r2 := r.adv R.wl (s.adv R)
  refine ⟨fun i d h => ?_, ⟨vs, e, by rw [r.length]; exact Nat.le_refl _⟩⟩
  obtain ⟨v, hv, q⟩ := r2.get h
  refine ⟨⟨vs, v, e, hv⟩, fun x H3 y => ?_⟩
  obtain ⟨rfl, y⟩ := y
  have := y vs e
  rw [hv] at this; cases this
  exact ⟨.inl rfl, q⟩
theorem feed_scr (R : Rel T σ H ρ W) {a : Addr} {l : List Int} (hx : ScrL T.K H W a (l.map V.int)) : Feed T (Itl T.K a) (l.map .int) σ H ρ W := fun σ2 H2 ρ2 W2 R2 s => by
  have e := (hx.adv R.wl (s.adv R)).sq
  refine ⟨fun i d h => ?_, ⟨_, e, by simp⟩⟩
  rw [List.getElem?_map] at h
  cases z : l[i]? with
  | none => rw [z] at h; cases h
  | some k =>
    rw [z] at h; cases h
    refine ⟨⟨_, .int k, e, by rw [List.getElem?_map, z]; rfl⟩, fun x H3 y => ?_⟩
    obtain ⟨rfl, y⟩ := y
    have := y _ e
    rw [List.getElem?_map, z] at this; cases this
    exact ⟨.inl rfl, rfl⟩
theorem feed_str {x : Str} : Feed T (Its x) (x.cps.toList.map fun c => .str (chr1 c)) σ H ρ W := fun σ2 H2 ρ2 W2 R2 s => by
  refine ⟨fun i d h => ?_, ?_⟩
  · rw [List.getElem?_map] at h
    cases z : x.cps.toList[i]? with
    | none => rw [z] at h; cases h
    | some c =>
      rw [z] at h; cases h
      rw [Array.getElem?_toList] at z
      refine ⟨(Array.getElem?_eq_some_iff.mp z).1, fun v H3 y => ?_⟩
      obtain ⟨rfl, c2, e, rfl⟩ := y
      rw [z] at e; cases e
      exact ⟨.inl rfl, rfl⟩
  · show x.cps.size ≤ _
    simp
theorem feed_rng {lo : Int} {n : Nat} : Feed T (Itr lo n) (rng lo n) σ H ρ W := fun σ2 H2 ρ2 W2 R2 s => by
  refine ⟨fun i d h => ?_, ?_⟩
  · unfold rng at h
    rw [List.getElem?_map] at h
    by_cases hi : i < n
    · rw [List.getElem?_range hi] at h
      cases h
      refine ⟨hi, fun v H3 y => ?_⟩
      obtain ⟨rfl, rfl⟩ := y
      exact ⟨.inl rfl, rfl⟩
    · rw [List.getElem?_eq_none (by simpa using hi)] at h
      cases h
  · show n ≤ (rng lo n).length
    simp [rng]
/-- the object of a handed list is changed by nobody, once it is locked -/
theorem locked {p : P} {v : V} {l : List D} (R : Rel T σ H ρ W) (h : RepP T σ H ρ W v p) (e : peek p ρ = some (.lst l)) : ∃ a vs, v = .ref a ∧ H a = some (.lst vs) ∧ RepDs T.K H W vs l ∧ ∀ i, ¬ OwnU σ (lockP p ρ).2 i a := by
  obtain ⟨a, vs, rfl, ha, r⟩ := (peek_ok R h e).lst
  refine ⟨a, vs, rfl, ha, r, fun i z => ?_⟩
  obtain ⟨z1, z2⟩ := lock_own z
  cases p with
  | val d =>
    cases e
    obtain ⟨b, us, eb, _, nw, _⟩ := h
    cases eb
    exact nw (R.ownA z1.a).1
  | own d =>
    obtain ⟨b, o, eb, _, _, no, _⟩ := h
    cases eb
    exact no i z1.a
  | at_ j =>
    have h : σ[j]? = some (some (.ref a)) := h
    have nw : ∀ d : D, d = .lst l → (∃ o, σ[j]? = some o ∧ ∃ v, o = some v ∧ RepD T.K H W v d) → False := fun d ed ⟨o, e1, v, e2, q⟩ => by
      subst ed
      rw [h] at e1; cases e1; cases e2
      obtain ⟨b, us, eb, _, nw, _⟩ := q
      cases eb
      exact nw (R.ownA z1.a).1
    simp only [peek] at e
    split at e
    · rename_i d es; cases e
      exact nw _ rfl (R.at_ j _ es)
    · rename_i b d es; cases e
      exact z2 j b _ rfl es (R.sep _ _ _ z1.a ⟨.inl ⟨b, _, es⟩, h⟩)
    · rename_i b d es; cases e
      have := R.sep _ _ _ z1.a ⟨.inr ⟨b, _, es⟩, h⟩
      subst this
      obtain ⟨⟨c, d, z3⟩, _⟩ := z1
      rw [es] at z3; cases z3
    · rename_i d es; cases e
      exact nw _ rfl (R.at_ j _ es)
    · cases e
theorem peek_val {p : P} {v : V} {d : D} (R : Rel T σ H ρ W) (h : RepP T σ H ρ W v p) (e : peek p ρ = some d) (n : ∀ o, ¬ RepO T.K H W o d) : RepD T.K H W v d := by
  rcases peek_ok R h e with ⟨a, o, _, _, q⟩ | q
  · exact (n o q).elim
  · exact q
/-- for .. in e -/
theorem s_seq (tk : T.K = X.K) {e : Ex} {e' tg : Expr} (he : PE X e' (tE X T F Z e)) : PI X tg e' (tI X T F Z (.seq e)) := by
  refine ⟨fun pins s σ H R I q => ?_⟩
  obtain ⟨ρ, W, Rl, h⟩ := q
  have h := Post.bind h
  cases e0 : ev F e ρ with
  | bad => rw [e0] at h; exact h.elim
  | err x => exact (pi_list (tg := tg) he).run pins s σ H R I ⟨ρ, W, Rl, by rw [e0] at h ⊢; exact h⟩
  | ok r =>
    obtain ⟨p, ρ1⟩ := r
    rw [e0] at h
    have h : Post X Z ((pk p ρ1).bind fun x => (items x).bind fun l => .ok ((l, p), ρ1)) σ H ρ fun lp ρ' => ∀ J H' W', Go T σ H ρ W H' ρ' W' → Feed T J lp.1 σ H' (lockP lp.2 ρ').2 W' → R J H' := h
    obtain ⟨d, e1, h⟩ := Post.val .pk h
    obtain ⟨l, e2, h⟩ := Post.val .items h
    have e1 := pk_of e1
    cases d with
    | tup l =>
      cases e2
      refine (pi_tup (tg := tg) he).run pins s σ H R I ⟨ρ, W, Rl, ?_⟩
      rw [e0]
      intro v H1 W1 o
      obtain ⟨a, vs, rfl, t, r⟩ := peek_val o.go.rel o.rep e1 fun _ z => z
      refine ⟨a, rfl, ⟨vs, by rw [← tk]; exact t.sq⟩, ?_⟩
      have g := lock_go o.go.rel p
      rw [← tk]
      exact h _ _ _ o.go (feed_tup g.rel (t.adv o.go.rel.wl (g.step.adv o.go.rel)) (RepDs.adv o.go.rel.wl (g.step.adv o.go.rel) r))
    | str x =>
      cases e2
      refine (pi_str (tg := tg) he).run pins s σ H R I ⟨ρ, W, Rl, ?_⟩
      rw [e0]
      intro v H1 W1 o
      have ev1 : v = .str x := peek_val o.go.rel o.rep e1 fun _ z => z
      exact ⟨x, ev1, h _ _ _ o.go feed_str⟩
    | lst l =>
      cases e2
      refine (pi_list (tg := tg) he).run pins s σ H R I ⟨ρ, W, Rl, ?_⟩
      rw [e0]
      intro v H1 W1 o
      obtain ⟨a, vs, rfl, ha, r, n⟩ := locked o.go.rel o.rep e1
      have g := lock_go o.go.rel p
      refine ⟨a, rfl, ⟨vs, .of ha⟩, ?_⟩
      rw [← tk]
      exact h _ _ _ o.go (feed_list g.rel ha n (r.adv o.go.rel.wl (g.step.adv o.go.rel)))
    | scr l =>
      cases e2
      refine (pi_list (tg := tg) he).run pins s σ H R I ⟨ρ, W, Rl, ?_⟩
      rw [e0]
      intro v H1 W1 o
      obtain ⟨a, rfl, t⟩ := peek_val o.go.rel o.rep e1 fun _ z => z
      have g := lock_go o.go.rel p
      refine ⟨a, rfl, ⟨_, by rw [← tk]; exact t.sq⟩, ?_⟩
      rw [← tk]
      exact h _ _ _ o.go (feed_scr g.rel (t.adv o.go.rel.wl (g.step.adv o.go.rel)))
    | _ => cases e2
/-- for .. in range(a) -/
theorem s_rng {a : Ex} {a' tg : Expr} {p pos : Pos} (hg : Gl X "range") (hm : X.mg "range" = none) (hs : starEach [a'] X.env = [(false, eval a' X.env)]) (ha : PE X a' (tE X T F Z a)) : PI X tg (.Call (.Name "range" p) [a'] [] pos) (tI X T F Z (.rng a)) := by
  refine ⟨fun pins s σ H R I q => ?_⟩
  refine (pi_range1 (tg := tg) hg hm (pa_cons ha pa_nil hs) hs).run pins s σ H R I ?_
  obtain ⟨ρ, W, Rl, h⟩ := q
  refine ⟨ρ, W, Rl, (Post.bind h).imp fun p ρ1 h v H1 W1 o => ?_⟩
  dsimp only at h
  split at h
  · rename_i j
    obtain ⟨⟨c1, c2⟩, h⟩ := Post.need h
    have e : v = .int j := o.rep
    exact ⟨j, by rw [e], c1, c2, h _ _ _ o.go feed_rng⟩
  · exact h.elim
theorem s_rng2 {a b : Ex} {a' b' tg : Expr} {p pos : Pos} (hg : Gl X "range") (hm : X.mg "range" = none) (hs : starEach [a', b'] X.env = [(false, eval a' X.env), (false, eval b' X.env)]) (hs2 : starEach [b'] X.env = [(false, eval b' X.env)])
    (ha : PE X a' (tE X T F Z a)) (hb : PE X b' (tE X T F Z b)) : PI X tg (.Call (.Name "range" p) [a', b'] [] pos) (tI X T F Z (.rng2 a b)) := by
  refine ⟨fun pins s σ H R I q => ?_⟩
  refine (pi_range2 (tg := tg) hg hm (pa_cons ha (pa_cons hb pa_nil hs2) (by rw [hs, hs2])) hs hs2).run pins s σ H R I ?_
  obtain ⟨ρ, W, Rl, h⟩ := q
  refine ⟨ρ, W, Rl, (Post.bind h).imp fun p ρ1 h v H1 W1 o => ⟨ρ1, W1, o.go.rel, ((Post.bind h).move o.go.step).imp fun p2 ρ2 h v2 H2 W2 o2 => ?_⟩⟩
  cases p with
  | val d =>
    cases d with
    | int i =>
      cases p2 with
      | val d2 =>
        cases d2 with
        | int j =>
          obtain ⟨⟨⟨c1, c2⟩, c3, c4⟩, h⟩ := Post.need h
          have e : v = .int i := o.rep
          have e2 : v2 = .int j := o2.rep
          exact ⟨i, j, by rw [e, e2], ⟨c1, c2, c3, c4⟩, h _ _ _ (o.go.trans o2.go) feed_rng⟩
        | _ => exact h.elim
      | _ => exact h.elim
    | _ => exact h.elim
  | _ => exact h.elim
theorem lay_rep (wl : WL H W) {a : Addr} {vs : List V} {l : List D} (n : H a = none) (r : RepDs K H W vs l) : RepD K (upd H a (.tup vs)) W (.ref a) (.tup l) := ⟨a, vs, rfl, .of upd_same, r.adv wl (adv_new n)⟩
theorem enmD_get {l : List D} {i : Nat} {d : D} (h : (enmD l)[i]? = some d) : ∃ c, l[i]? = some c ∧ d = .tup [.int (i : Nat), c] := by
  unfold enmD at h
  rw [List.getElem?_map] at h
  cases z : ((List.range l.length).zip l)[i]? with
  | none => rw [z] at h; cases h
  | some q =>
    rw [z] at h; cases h
    rw [List.getElem?_zip_eq_some] at z
    obtain ⟨z1, z2⟩ := z
    have hi := (List.getElem?_eq_some_iff.mp z2).1
    rw [List.getElem?_range hi] at z1
    exact ⟨q.2, z2, by show D.tup [.int ((q.1 : Nat) : Int), q.2] = _; rw [← Option.some.inj z1]⟩
theorem enmD_len (l : List D) : (enmD l).length = l.length := by simp [enmD]
theorem feed_enum (R : Rel T σ H ρ W) {a : Addr} {vs : List V} {l : List D} (hx : H a = some (.lst vs)) (n : ∀ i, ¬ OwnU σ ρ i a) (r : RepDs T.K H W vs l) : Feed T (Ite T.K a) (enmD l) σ H ρ W := fun σ2 H2 ρ2 W2 R2 s => by
  have e := still_list hx n s
  have r2 := r.adv R.wl (s.adv R)
  refine ⟨fun i d h => ?_, ⟨vs, .of e, by rw [r.length, enmD_len]; exact Nat.le_refl _⟩⟩
  obtain ⟨c, hc, rfl⟩ := enmD_get h
  obtain ⟨v, hv, q⟩ := r2.get hc
  refine ⟨⟨vs, v, .of e, hv⟩, fun x H3 y => ?_⟩
  obtain ⟨A, z, rfl, nA, rfl, y⟩ := y
  have := y vs (.of e)
  rw [hv] at this; cases this
  exact ⟨.inr ⟨A, _, nA, rfl⟩, lay_rep R2.wl nA ⟨_, _, rfl, rfl, _, _, rfl, q, rfl⟩⟩
theorem feed_enumT (R : Rel T σ H ρ W) {a : Addr} {vs : List V} {l : List D} (hx : TupL T.K H a vs) (r : RepDs T.K H W vs l) : Feed T (IteT T.K a) (enmD l) σ H ρ W := fun σ2 H2 ρ2 W2 R2 s => by
  have e := (hx.adv R.wl (s.adv R)).sq
  have r2 := r.adv R.wl (s.adv R)
  refine ⟨fun i d h => ?_, ⟨vs, e, by rw [r.length, enmD_len]; exact Nat.le_refl _⟩⟩
  obtain ⟨c, hc, rfl⟩ := enmD_get h
  obtain ⟨v, hv, q⟩ := r2.get hc
  refine ⟨⟨vs, v, e, hv⟩, fun x H3 y => ?_⟩
  obtain ⟨A, z, rfl, nA, rfl, y⟩ := y
  have := y vs e
  rw [hv] at this; cases this
  exact ⟨.inr ⟨A, _, nA, rfl⟩, lay_rep R2.wl nA ⟨_, _, rfl, rfl, _, _, rfl, q, rfl⟩⟩
theorem s_enm (tk : T.K = X.K) {e : Ex} {e' : Expr} {elts : List Expr} {kk : Nat} {p pos tpos : Pos} (hg : Gl X "enumerate") (hm : X.mg "enumerate" = none) (hs : starEach [e'] X.env = [(false, eval e' X.env)]) (he : PE X e' (tE X T F Z e)) :
    PI X (.Tuple elts kk tpos) (.Call (.Name "enumerate" p) [e'] [] pos) (tI X T F Z (.enm e)) := by
  refine ⟨fun pins s σ H R I q => ?_⟩
  refine (pi_enumA hg hm (pa_cons he pa_nil hs) hs).run pins s σ H R I ?_
  obtain ⟨ρ, W, Rl, h⟩ := q
  refine ⟨ρ, W, Rl, (Post.bind h).imp fun p ρ1 h v H1 W1 o => ?_⟩
  obtain ⟨d, e1, h⟩ := Post.val .pk h
  obtain ⟨l, e2, h⟩ := Post.val .itemsL h
  cases d with
  | lst l =>
    cases e2
    obtain ⟨a, vs, rfl, ha, r, n⟩ := locked o.go.rel o.rep (pk_of e1)
    have g := lock_go o.go.rel p
    refine ⟨a, vs, rfl, .inl ⟨.of ha, ?_⟩⟩
    rw [← tk]
    exact h _ _ _ o.go (feed_enum g.rel ha n (r.adv o.go.rel.wl (g.step.adv o.go.rel)))
  | tup l =>
    cases e2
    obtain ⟨a, vs, rfl, ha, r⟩ := (peek_ok o.go.rel o.rep (pk_of e1)).tup
    have g := lock_go o.go.rel p
    refine ⟨a, vs, rfl, .inr ⟨by rw [← tk]; exact ha.sq, ?_⟩⟩
    rw [← tk]
    exact h _ _ _ o.go (feed_enumT g.rel (ha.adv o.go.rel.wl (g.step.adv o.go.rel)) (r.adv o.go.rel.wl (g.step.adv o.go.rel)))
  | _ => cases e2
theorem zip2_get {a b : List D} {i : Nat} {d : D} (h : (zipD [a, b])[i]? = some d) : ∃ x y, a[i]? = some x ∧ b[i]? = some y ∧ d = .tup [x, y] := by
  unfold zipD at h
  rw [List.getElem?_map] at h
  cases z : (a.zip b)[i]? with
  | none => rw [z] at h; cases h
  | some q =>
    rw [z] at h; cases h
    rw [List.getElem?_zip_eq_some] at z
    exact ⟨_, _, z.1, z.2, rfl⟩
/-- a list or a tuple that nobody changes -/
def SqW (K : PySem.W.Frag) (H : Hp) (W : AS) (a : Addr) (vs : List V) : Bool → Prop
  | true => H a = some (.lst vs) ∧ ¬ W a
  | false => TupL K H a vs
theorem SqW.x {a : Addr} {vs : List V} : ∀ {k : Bool}, SqW K H W a vs k → SqX K H a vs k
  | true, h => .of h.1
  | false, h => h.sq
theorem SqW.adv (wl : WL H W) (ad : Adv H W H' W2) {a : Addr} {vs : List V} : ∀ {k : Bool}, SqW K H W a vs k → SqW K H' W2 a vs k
  | true, h => ad _ _ h.1 h.2
  | false, h => TupL.adv wl ad h
theorem feed_zipM (R : Rel T σ H ρ W) {a b : Addr} {vs us : List V} {l m : List D} {k1 k2 : Bool} (hx : SqW T.K H W a vs k1) (r : RepDs T.K H W vs l) (hy : SqW T.K H W b us k2) (q : RepDs T.K H W us m) :
    Feed T (ItzM T.K k1 k2 a b) (zipD [l, m]) σ H ρ W := fun σ2 H2 ρ2 W2 R2 s => by
  have e1 := (hx.adv R.wl (s.adv R)).x
  have e2 := (hy.adv R.wl (s.adv R)).x
  have r2 := r.adv R.wl (s.adv R)
  have q2 := q.adv R.wl (s.adv R)
  refine ⟨fun i d h => ?_, ⟨vs, us, e1, e2, ?_⟩⟩
  · obtain ⟨x, y, hx, hy, rfl⟩ := zip2_get h
    obtain ⟨v, hv, qv⟩ := r2.get hx
    obtain ⟨u, hu, qu⟩ := q2.get hy
    refine ⟨⟨vs, us, v, u, e1, e2, hv, hu⟩, fun z H3 yl => ?_⟩
    obtain ⟨A, z1, z2, rfl, nA, rfl, y1, y2⟩ := yl
    have := y1 vs e1
    rw [hv] at this; cases this
    have := y2 us e2
    rw [hu] at this; cases this
    exact ⟨.inr ⟨A, _, nA, rfl⟩, lay_rep R2.wl nA ⟨_, _, rfl, qv, _, _, rfl, qu, rfl⟩⟩
  · rw [r.length, q.length]
    simp [zipD]
    omega
theorem s_zip2 (tk : T.K = X.K) {a b : Ex} {a' b' : Expr} {elts : List Expr} {kk : Nat} {p pos tpos : Pos} (hg : Gl X "zip") (hm : X.mg "zip" = none) (hs : starEach [a', b'] X.env = (false, eval a' X.env) :: starEach [b'] X.env)
    (hpl : (backTo pos (starEach [b'] X.env)).any (·.1) = false) (hp : PA X [a', b'] (tA X T F Z (.cons a (.cons b .nil)))) :
    PI X (.Tuple elts kk tpos) (.Call (.Name "zip" p) [a', b'] [] pos) (tI X T F Z (.zip (.cons a (.cons b .nil)))) := by
  refine ⟨fun pins s σ H R I q => ?_⟩
  refine (pi_zipM hg hm hp hs hpl).run pins s σ H R I ?_
  obtain ⟨ρ, W, Rl, h⟩ := q
  refine ⟨ρ, W, Rl, (Post.bind h).imp fun ps ρ1 h vs H1 W1 o => ?_⟩
  obtain ⟨⟨ds, ρ2⟩, ex, h⟩ := Post.val .of h
  obtain ⟨W2, g, q⟩ := o.data (of_ok ex)
  obtain ⟨t, et, h⟩ := Post.val .itemss h
  have et : itemss ds = .ok t := et
  unfold itemss at et
  rw [← tk]
  split at et
  · cases et
    obtain ⟨v, r, rfl, ⟨a, us, rfl, ea, na, ra⟩, v2, r2, rfl, ⟨b, ws, rfl, eb, nb, rb⟩, rfl⟩ := q
    exact ⟨true, true, a, b, us, ws, rfl, .of ea, .of eb, h _ _ _ g (feed_zipM g.rel (k1 := true) (k2 := true) ⟨ea, na⟩ ra ⟨eb, nb⟩ rb)⟩
  · cases et
    obtain ⟨v, r, rfl, ⟨a, us, rfl, ea, ra⟩, v2, r2, rfl, ⟨b, ws, rfl, eb, rb⟩, rfl⟩ := q
    exact ⟨false, false, a, b, us, ws, rfl, ea.sq, eb.sq, h _ _ _ g (feed_zipM g.rel (k1 := false) (k2 := false) ea ra eb rb)⟩
  · cases et
    obtain ⟨v, r, rfl, ⟨a, us, rfl, ea, na, ra⟩, v2, r2, rfl, ⟨b, ws, rfl, eb, rb⟩, rfl⟩ := q
    exact ⟨true, false, a, b, us, ws, rfl, .of ea, eb.sq, h _ _ _ g (feed_zipM g.rel (k1 := true) (k2 := false) ⟨ea, na⟩ ra eb rb)⟩
  · cases et
    obtain ⟨v, r, rfl, ⟨a, us, rfl, ea, ra⟩, v2, r2, rfl, ⟨b, ws, rfl, eb, nb, rb⟩, rfl⟩ := q
    exact ⟨false, true, a, b, us, ws, rfl, ea.sq, .of eb, h _ _ _ g (feed_zipM g.rel (k1 := false) (k2 := true) ea ra ⟨eb, nb⟩ rb)⟩
  · cases et
end
end Dv

set_option Elab.async false
set_option linter.all false
set_option maxRecDepth 100000
namespace Dv
open PySem PySem.Spec PyProof.Rows L2

section
variable {X : Cx} {Z : WX} {T : Tc} {F : Fn} {σ σ' : Sg} {H H0 H1 H2 H' : Hp} {ρ ρ1 ρ2 ρ' : Env'} {W W1 W2 W' : AS} {K : PySem.W.Frag} {ds : List D}

/-! ### slots stored -/
theorem free_bor {i : Nat} (h : freeSlot i ρ = true) : (∀ s, ρ[i]? = some (some s) → ¬ isBor s) ∧ (∀ b d, ρ[i]? ≠ some (some (.lck b d))) ∧ i < ρ.length := by
  unfold freeSlot at h
  split at h
  · rename_i e; exact ⟨fun s z => (by rw [e] at z; cases z), fun b d z => (by rw [e] at z; cases z), (List.getElem?_eq_some_iff.mp e).1⟩
  · rename_i d e; exact ⟨fun s z => (by rw [e] at z; cases z; exact fun k => k), fun b d z => (by rw [e] at z; cases z), (List.getElem?_eq_some_iff.mp e).1⟩
  · rename_i d e; exact ⟨fun s z => (by rw [e] at z; cases z; exact fun k => k), fun b d z => (by rw [e] at z; cases z), (List.getElem?_eq_some_iff.mp e).1⟩
  · cases h
def MonS (σ : Sg) (ρ : Env') (σ' : Sg) (ρ' : Env') : Prop := ∀ i a, OwnA σ' ρ' i a → OwnA σ ρ i a
theorem MonS.trans {σ1 : Sg} {σ2 : Sg} (a : MonS σ ρ σ1 ρ1) (b : MonS σ1 ρ1 σ2 ρ2) : MonS σ ρ σ2 ρ2 := fun i x h => a i x (b i x h)
/-- a slot stored with data, or emptied -/
theorem put_rel (R : Rel T σ H ρ W) {i : Nat} {v : V} {d : D} (hf : freeSlot i ρ = true) (r : RepD T.K H W v d) : Rel T (σ.set i (some v)) H (ρ.set i (some (.val d))) W ∧ Step σ H ρ W (σ.set i (some v)) H (ρ.set i (some (.val d))) W ∧ MonS σ ρ (σ.set i (some v)) (ρ.set i (some (.val d))) := by
  obtain ⟨nb, nl, hi⟩ := free_bor hf
  have hi2 : i < σ.length := by rw [← R.len]; exact hi
  have own : ∀ j a, OwnA (σ.set i (some v)) (ρ.set i (some (.val d))) j a → OwnA σ ρ j a ∧ j ≠ i := fun j a ⟨h1, h2⟩ => by
    have ne : j ≠ i := fun z => by
      subst z
      rcases h1 with ⟨b, x, h1⟩ | ⟨b, x, h1⟩ <;> (rw [List.getElem?_set_self hi] at h1; cases h1)
    rw [List.getElem?_set_ne (Ne.symm ne)] at h2
    refine ⟨⟨?_, h2⟩, ne⟩
    rcases h1 with ⟨b, x, h1⟩ | ⟨b, x, h1⟩
    · rw [List.getElem?_set_ne (Ne.symm ne)] at h1; exact .inl ⟨b, x, h1⟩
    · rw [List.getElem?_set_ne (Ne.symm ne)] at h1; exact .inr ⟨b, x, h1⟩
  refine ⟨⟨by simp [R.len], fun j s h => ?_, fun j k a h1 h2 => R.sep j k a (own j a h1).1 (own k a h2).1, R.wl, fun j x a h1 h2 => ?_, R.fzk, fun j a h => ?_⟩, fun b o h n => ⟨h, fun j z => ?_, Iff.rfl⟩, fun j a h => (own j a h).1⟩
  · rcases getq_set h with ⟨rfl, k, _⟩ | ⟨ne, k⟩
    · cases k
      exact ⟨some v, by rw [List.getElem?_set_self hi2], v, rfl, r⟩
    · obtain ⟨o, e, q⟩ := R.at_ j s k
      exact ⟨o, by rw [List.getElem?_set_ne ne]; exact e, q⟩
  · have ne : i ≠ j := fun z => by
      subst z
      rcases h1 with h1 | h1 <;> (rw [List.getElem?_set_self hi] at h1; cases h1)
    rw [List.getElem?_set_ne ne] at h2
    rw [List.getElem?_set_ne ne] at h1
    exact R.fr j x a h1 h2
  · obtain ⟨h1, s, h2, h3⟩ := R.bor j a h
    have ne : i ≠ j := fun z => by subst z; exact nb s h2 h3
    exact ⟨by rw [List.getElem?_set_ne ne]; exact h1, s, by rw [List.getElem?_set_ne ne]; exact h2, h3⟩
  · obtain ⟨⟨c, x, h1⟩, h2⟩ := z
    exact n j ⟨⟨c, x, by
      rcases getq_set h1 with ⟨rfl, k, _⟩ | ⟨ne, k⟩
      · cases k
      · exact k⟩, by
      rcases getq_set h1 with ⟨rfl, k, _⟩ | ⟨ne, k⟩
      · cases k
      · rw [List.getElem?_set_ne ne] at h2; exact h2⟩
theorem put_lk {i : Nat} {s : Option S} (hf : freeSlot i ρ = true) : Lk ρ (ρ.set i s) := Lk.set (free_bor hf).2.1

/-! ### from one statement to the next -/
structure GoS (T : Tc) (σ : Sg) (H : Hp) (ρ : Env') (W : AS) (σ' : Sg) (H' : Hp) (ρ' : Env') (W' : AS) : Prop where
  rel : Rel T σ' H' ρ' W'
  step : Step σ H ρ W σ' H' ρ' W'
  dom : ∀ a, H' a = none → H a = none
  own : ∀ i a, OwnA σ' ρ' i a → (∃ j, OwnA σ ρ j a) ∨ H a = none
  lk : ∀ (i : Nat) (b : Bool) (d : D), ρ[i]? = some (some (.lck b d)) → ρ'[i]? = some (some (.lck b d)) ∧ σ'[i]? = σ[i]?
theorem Go.s (g : Go T σ H ρ W H' ρ' W') : GoS T σ H ρ W σ H' ρ' W' := ⟨g.rel, g.step, g.dom, fun i a h => .inl ⟨i, g.mon i a h⟩, fun i b d h => ⟨g.lk i b d h, rfl⟩⟩
theorem GoS.refl (R : Rel T σ H ρ W) : GoS T σ H ρ W σ H ρ W := (Go.refl R).s
theorem GoS.trans {σ1 σ2 : Sg} (a : GoS T σ H ρ W σ1 H1 ρ1 W1) (b : GoS T σ1 H1 ρ1 W1 σ2 H2 ρ2 W2) : GoS T σ H ρ W σ2 H2 ρ2 W2 :=
  ⟨b.rel, a.step.trans b.step, fun x h => a.dom x (b.dom x h), fun i x h => by
    rcases b.own i x h with ⟨j, h⟩ | h
    · exact a.own j x h
    · exact .inr (a.dom x h), fun i c d h => by
    obtain ⟨h1, h2⟩ := a.lk i c d h
    obtain ⟨h3, h4⟩ := b.lk i c d h1
    exact ⟨h3, h4.trans h2⟩⟩
theorem put_go (R : Rel T σ H ρ W) {i : Nat} {v : V} {d : D} (e : putV i d ρ = .ok ρ') (r : RepD T.K H W v d) : GoS T σ H ρ W (σ.set i (some v)) H ρ' W ∧ MonS σ ρ (σ.set i (some v)) ρ' := by
  unfold putV at e
  split at e
  · rename_i hf
    cases e
    obtain ⟨a, b, m⟩ := put_rel R hf r
    refine ⟨⟨a, b, fun _ h => h, fun i a h => .inl ⟨i, m i a h⟩, fun j c x h => ⟨put_lk hf j c x h, ?_⟩⟩, m⟩
    have ne : i ≠ j := fun z => by subst z; exact (free_bor hf).2.1 c x h
    rw [List.getElem?_set_ne ne]
  · cases e
def sets (σ : Sg) : List Nat → List V → Sg
  | i :: is, v :: vs => sets (σ.set i (some v)) is vs
  | _, _ => σ
theorem puts_go : ∀ {is : List Nat} {ds : List D} {σ : Sg} {ρ ρ' : Env'} {vs : List V}, Rel T σ H ρ W → putVs is ds ρ = .ok ρ' → RepDs T.K H W vs ds → GoS T σ H ρ W (sets σ is vs) H ρ' W ∧ MonS σ ρ (sets σ is vs) ρ'
  | [], [], σ, ρ, ρ', vs, R, e, r => by
    cases e
    rw [show vs = [] from r]
    exact ⟨GoS.refl R, fun _ _ h => h⟩
  | i :: is, d :: ds, σ, ρ, ρ', vs, R, e, r => by
    obtain ⟨v, us, rfl, q, t⟩ := r
    have e : (putV i d ρ).bind (putVs is ds) = .ok ρ' := e
    cases e1 : putV i d ρ with
    | bad => rw [e1] at e; cases e
    | err x => rw [e1] at e; cases e
    | ok ρ1 =>
      rw [e1] at e
      obtain ⟨g, m⟩ := put_go R e1 q
      obtain ⟨g2, m2⟩ := puts_go g.rel e t
      exact ⟨g.trans g2, m.trans m2⟩
  | [], _ :: _, _, _, _, _, _, e, _ => by cases e
  | _ :: _, [], _, _, _, _, _, e, _ => by cases e
theorem putVs_len : ∀ {is : List Nat} {ds : List D} {ρ ρ' : Env'}, putVs is ds ρ = .ok ρ' → is.length = ds.length
  | [], [], _, _, _ => rfl
  | i :: is, d :: ds, ρ, ρ', e => by
    have e : (putV i d ρ).bind (putVs is ds) = .ok ρ' := e
    cases e1 : putV i d ρ with
    | bad => rw [e1] at e; cases e
    | err x => rw [e1] at e; cases e
    | ok ρ1 =>
      rw [e1] at e
      rw [List.length_cons, List.length_cons, putVs_len e]
  | [], _ :: _, _, _, e => by cases e
  | _ :: _, [], _, _, e => by cases e

/-! ### targets -/
def gNames : List Nat → TGs
  | [] => gNil
  | i :: is => gCons (gName i) (gNames is)
theorem gNames_ok : ∀ {is : List Nat} {vs : List V} {σ : Sg} {H : Hp} {Q : Sg → Hp → Prop}, is.length = vs.length → Q (sets σ is vs) H → gNames is vs σ H Q
  | [], [], _, _, _, _, h => ⟨rfl, h⟩
  | i :: is, v :: vs, σ, H, Q, e, h => ⟨v, vs, rfl, gNames_ok (is := is) (by simpa using e) h⟩
  | [], _ :: _, _, _, _, e, _ => by simp at e
  | _ :: _, [], _, _, _, e, _ => by simp at e
def gT (K : PySem.W.Frag) : Tg → TG
  | .nm i => gName i
  | .tp l => gTup K l.length (gNames l)
theorem gT_ok (R : Rel T σ H ρ W) {tg : Tg} {v : V} {d : D} {Q : Sg → Hp → Prop} (e : asgT tg d ρ = .ok ρ') (r : RepD T.K H W v d) (q : ∀ σ', GoS T σ H ρ W σ' H ρ' W → MonS σ ρ σ' ρ' → (∀ i, (match tg with | .nm j => i ≠ j | .tp l => i ∉ l) → σ'[i]? = σ[i]?) → Q σ' H) : gT T.K tg v σ H Q := by
  unfold asgT at e
  split at e
  · rename_i i d ρ
    refine q _ (put_go R e r).1 (put_go R e r).2 fun j hj => ?_
    rw [List.getElem?_set_ne (Ne.symm hj)]
  · rename_i is ds ρ
    obtain ⟨a, vs, rfl, t, r⟩ := r
    have el := putVs_len e
    refine ⟨a, vs, rfl, t.sq, by rw [r.length]; exact el.symm, gNames_ok (by rw [r.length]; exact el) (q _ (puts_go R e r).1 (puts_go R e r).2 fun j hj => ?_)⟩
    have : ∀ {is : List Nat} {vs : List V} {σ : Sg}, j ∉ is → (sets σ is vs)[j]? = σ[j]? := by
      intro is
      induction is with
      | nil => intro vs σ _; rfl
      | cons i is ih =>
        intro vs σ hn
        cases vs with
        | nil => rfl
        | cons v vs =>
          show (sets (σ.set i (some v)) is vs)[j]? = _
          rw [ih fun z => hn (List.mem_cons_of_mem _ z), List.getElem?_set_ne fun z => hn (by rw [z]; exact List.mem_cons_self)]
    exact this hj
  · cases e
end
end Dv

set_option Elab.async false
set_option linter.all false
set_option maxRecDepth 100000
namespace Dv
open PySem PySem.Spec PyProof.Rows L2

section
variable {X : Cx} {Z : WX} {T : Tc} {F : Fn} {σ σ' : Sg} {H H0 H1 H2 H' : Hp} {ρ ρ1 ρ2 ρ' ρf ρb ρq : Env'} {W W1 W2 W' : AS} {K : PySem.W.Frag} {ds : List D}

/-! ### a lock opened -/
theorem unlock_own {o : Option Nat} (e : unlock o ρf = .ok ρ') : (∀ i a, OwnA σ ρ' i a ↔ OwnA σ ρf i a) ∧ (o = none → ρ' = ρf) ∧ ∀ k, o = some k → ∃ b d, ρf[k]? = some (some (.lck b d)) ∧ ρ' = ρf.set k (some (.own b d)) := by
  unfold unlock at e
  split at e
  · cases e; exact ⟨fun _ _ => Iff.rfl, fun _ => rfl, fun k h => by cases h⟩
  · rename_i k
    split at e
    · rename_i b d es
      cases e
      have hi : k < ρf.length := (List.getElem?_eq_some_iff.mp es).1
      refine ⟨fun i a => ⟨fun ⟨h1, h2⟩ => ⟨?_, h2⟩, fun ⟨h1, h2⟩ => ⟨?_, h2⟩⟩, fun h => (by cases h), fun j h => (by cases h; exact ⟨b, d, es, rfl⟩)⟩
      · rcases h1 with ⟨c, z, h1⟩ | ⟨c, z, h1⟩
        · rcases getq_set h1 with ⟨rfl, _, _⟩ | ⟨_, q⟩
          · exact .inr ⟨b, d, es⟩
          · exact .inl ⟨c, z, q⟩
        · rcases getq_set h1 with ⟨rfl, q, _⟩ | ⟨_, q⟩
          · cases q
          · exact .inr ⟨c, z, q⟩
      · by_cases ei : k = i
        · subst ei
          exact .inl ⟨b, d, by rw [List.getElem?_set_self hi]⟩
        · rw [List.getElem?_set_ne ei]; exact h1
    · cases e
theorem unlock_rel {o : Option Nat} (R : Rel T σ H ρf W) (e : unlock o ρf = .ok ρ') : Rel T σ H ρ' W := by
  obtain ⟨ow, h0, h1⟩ := unlock_own (σ := σ) e
  cases o with
  | none => rw [h0 rfl]; exact R
  | some k =>
    obtain ⟨b, d, es, rfl⟩ := h1 k rfl
    have hi : k < ρf.length := (List.getElem?_eq_some_iff.mp es).1
    refine ⟨by simpa using R.len, fun j s h => ?_, fun i j a h1 h2 => R.sep i j a ((ow i a).mp h1) ((ow j a).mp h2), R.wl, fun j x a h1 h2 => ?_, R.fzk, fun j a h => ?_⟩
    · rcases getq_set h with ⟨rfl, q, _⟩ | ⟨_, q⟩
      · cases q
        obtain ⟨o, e1, q⟩ := R.at_ k _ es
        exact ⟨o, e1, q⟩
      · exact R.at_ j s q
    · rcases h1 with h1 | h1
      · rcases getq_set h1 with ⟨rfl, q, _⟩ | ⟨_, q⟩
        · cases q; exact R.fr k d a (.inr es) h2
        · exact R.fr j x a (.inl q) h2
      · rcases getq_set h1 with ⟨rfl, q, _⟩ | ⟨_, q⟩
        · cases q
        · exact R.fr j x a (.inr q) h2
    · obtain ⟨z1, s, z2, z3⟩ := R.bor j a h
      refine ⟨z1, ?_⟩
      by_cases ej : k = j
      · subst ej
        refine ⟨.own b d, by rw [List.getElem?_set_self hi], ?_⟩
        rw [es] at z2; cases z2
        cases b with
        | true => trivial
        | false => exact z3.elim
      · exact ⟨s, by rw [List.getElem?_set_ne ej]; exact z2, z3⟩
theorem lock_none {p : P} (h : (lockP p ρ).1 = none) : (lockP p ρ).2 = ρ := by
  unfold lockP at h ⊢
  split
  · rename_i i
    split
    · rename_i b d e
      simp only [e] at h
      cases h
    · rfl
  · rfl
theorem lock_some {p : P} {k : Nat} (h : (lockP p ρ).1 = some k) : ∃ b d, ρ[k]? = some (some (.own b d)) ∧ (lockP p ρ).2 = ρ.set k (some (.lck b d)) := by
  cases p with
  | val d => cases h
  | own d => cases h
  | at_ i =>
    simp only [lockP] at h ⊢
    split at h
    · rename_i b d e
      cases h
      exact ⟨b, d, e, rfl⟩
    · cases h
/-- from ahead of the lock to behind the opening -/
theorem unlock_step {p : P} (R : Rel T σ H1 ρ1 W1) (s : Step σ H1 (lockP p ρ1).2 W1 σ' H ρf W) (e : unlock (lockP p ρ1).1 ρf = .ok ρ')
    (hk : ∀ (k : Nat) (b : Bool) (d : D), (lockP p ρ1).2[k]? = some (some (S.lck b d)) → σ'[k]? = σ[k]?) : Step σ H1 ρ1 W1 σ' H ρ' W := fun x o h n => by
  have n1 : ∀ i, ¬ OwnU σ (lockP p ρ1).2 i x := fun i z => n i (lock_own z).1
  obtain ⟨h1, n2, w⟩ := s x o h n1
  refine ⟨h1, fun i z => ?_, w⟩
  obtain ⟨ow, h0, hs⟩ := unlock_own (σ := σ') e
  cases el : (lockP p ρ1).1 with
  | none => rw [h0 el] at z; exact n2 i z
  | some k =>
    obtain ⟨b, d, e1, rfl⟩ := hs k el
    obtain ⟨b2, d2, e2, e3⟩ := lock_some el
    obtain ⟨⟨c, y, z1⟩, z2⟩ := z
    rcases getq_set z1 with ⟨rfl, _, _⟩ | ⟨_, q⟩
    · have hi : k < ρ1.length := (List.getElem?_eq_some_iff.mp e2).1
      have := hk k b2 d2 (by rw [e3, List.getElem?_set_self hi])
      rw [this] at z2
      exact n k ⟨⟨b2, d2, e2⟩, z2⟩
    · exact n2 i ⟨⟨c, y, q⟩, z2⟩
theorem unlock_lk {p : P} {ρ3 : Env'} (l : Lk (lockP p ρ1).2 ρ3) (e : unlock (lockP p ρ1).1 ρ3 = .ok ρ') : Lk ρ1 ρ' := fun i b d h => by
  obtain ⟨_, h0, hs⟩ := unlock_own (σ := []) e
  cases el : (lockP p ρ1).1 with
  | none =>
    rw [h0 el]
    exact l i b d (by rw [lock_none el]; exact h)
  | some k =>
    obtain ⟨b1, d1, e1, rfl⟩ := hs k el
    obtain ⟨b2, d2, e2, e3⟩ := lock_some el
    have ne : k ≠ i := fun z => by subst z; rw [e2] at h; cases h
    rw [List.getElem?_set_ne ne]
    exact l i b d (by rw [e3, List.getElem?_set_ne ne]; exact h)

/-! ### a comprehension's own slots -/
theorem wipe_get : ∀ {vs : List Nat} {i : Nat}, i ∉ vs → (wipe σ vs)[i]? = σ[i]?
  | [], _, _ => rfl
  | v :: vs, i, h => by
    show ((wipe σ vs).set v none)[i]? = _
    rw [List.getElem?_set_ne fun z => h (by rw [z]; exact List.mem_cons_self), wipe_get fun z => h (List.mem_cons_of_mem _ z)]
theorem wipeR_get : ∀ {vs : List Nat} {i : Nat}, i ∉ vs → (wipeR ρ vs)[i]? = ρ[i]?
  | [], _, _ => rfl
  | v :: vs, i, h => by
    show ((wipeR ρ vs).set v none)[i]? = _
    rw [List.getElem?_set_ne fun z => h (by rw [z]; exact List.mem_cons_self), wipeR_get fun z => h (List.mem_cons_of_mem _ z)]
theorem wipeR_len : ∀ vs : List Nat, (wipeR ρ vs).length = ρ.length
  | [] => rfl
  | v :: vs => by
    show ((wipeR ρ vs).set v none).length = _
    rw [List.length_set, wipeR_len vs]
theorem wipeR_in : ∀ {vs : List Nat} {i : Nat} {s : S}, i ∈ vs → (wipeR ρ vs)[i]? ≠ some (some s)
  | v :: vs, i, s, h, e => by
    have e : ((wipeR ρ vs).set v none)[i]? = some (some s) := e
    rcases getq_set e with ⟨_, q, _⟩ | ⟨ne, q⟩
    · cases q
    · rcases List.mem_cons.mp h with z | z
      · exact ne z.symm
      · exact wipeR_in z q
theorem wipe_in : ∀ {vs : List Nat} {i : Nat}, i ∈ vs → (wipe σ vs)[i]? = if i < σ.length then some none else none
  | v :: vs, i, h => by
    show ((wipe σ vs).set v none)[i]? = _
    by_cases e : v = i
    · subst e
      by_cases z : v < σ.length
      · rw [List.getElem?_set_self (by rw [wipe_length]; exact z), if_pos z]
      · rw [if_neg z, List.getElem?_eq_none (by rw [List.length_set, wipe_length]; omega)]
    · rw [List.getElem?_set_ne e]
      rcases List.mem_cons.mp h with z | z
      · exact absurd z.symm e
      · exact wipe_in z
theorem wipe_eq {vs : List Nat} (hl : σ'.length = σ.length) (h : ∀ i, i ∉ vs → σ'[i]? = σ[i]?) : wipe σ' vs = wipe σ vs := by
  apply List.ext_getElem?
  intro i
  by_cases hm : i ∈ vs
  · rw [wipe_in hm, wipe_in hm, hl]
  · rw [wipe_get hm, wipe_get hm, h i hm]
theorem wipe_own {vs : List Nat} {i : Nat} {a : Addr} : OwnA (wipe σ vs) (wipeR ρ vs) i a ↔ OwnA σ ρ i a ∧ i ∉ vs := by
  constructor
  · rintro ⟨h1, h2⟩
    have hn : i ∉ vs := fun hm => by
      rcases h1 with ⟨b, d, h1⟩ | ⟨b, d, h1⟩ <;> exact wipeR_in hm h1
    rw [wipe_get hn] at h2
    rw [wipeR_get hn] at h1
    exact ⟨⟨h1, h2⟩, hn⟩
  · rintro ⟨⟨h1, h2⟩, hn⟩
    exact ⟨by rw [wipeR_get hn]; exact h1, by rw [wipe_get hn]; exact h2⟩
theorem wipe_ownU {vs : List Nat} {i : Nat} {a : Addr} : OwnU (wipe σ vs) (wipeR ρ vs) i a ↔ OwnU σ ρ i a ∧ i ∉ vs := by
  constructor
  · rintro ⟨⟨b, d, h1⟩, h2⟩
    have hn : i ∉ vs := fun hm => wipeR_in hm h1
    rw [wipe_get hn] at h2
    rw [wipeR_get hn] at h1
    exact ⟨⟨⟨b, d, h1⟩, h2⟩, hn⟩
  · rintro ⟨⟨⟨b, d, h1⟩, h2⟩, hn⟩
    exact ⟨⟨b, d, by rw [wipeR_get hn]; exact h1⟩, by rw [wipe_get hn]; exact h2⟩
theorem wipe_rel (R : Rel T σ H ρ W) {vs : List Nat} (hb : ∀ i ∈ vs, T.bm i = none) : Rel T (wipe σ vs) H (wipeR ρ vs) W := by
  refine ⟨by rw [wipeR_len, wipe_length, R.len], fun i s h => ?_, fun i j a h1 h2 => R.sep i j a (wipe_own.mp h1).1 (wipe_own.mp h2).1, R.wl, fun i d a h1 h2 => ?_, R.fzk, fun i a h => ?_⟩
  · have hn : i ∉ vs := fun hm => wipeR_in hm h
    rw [wipeR_get hn] at h
    rw [wipe_get hn]
    exact R.at_ i s h
  · have hn : i ∉ vs := fun hm => by
      rcases h1 with h1 | h1 <;> exact wipeR_in hm h1
    rw [wipe_get hn] at h2
    rw [wipeR_get hn] at h1
    exact R.fr i d a h1 h2
  · have hn : i ∉ vs := fun hm => by rw [hb i hm] at h; cases h
    rw [wipe_get hn, wipeR_get hn]
    exact R.bor i a h
theorem wipe_step {vs : List Nat} : Step σ H ρ W (wipe σ vs) H (wipeR ρ vs) W := fun b o h n => ⟨h, fun i z => n i (wipe_ownU.mp z).1, Iff.rfl⟩
theorem wipe_mon {vs : List Nat} : MonS σ ρ (wipe σ vs) (wipeR ρ vs) := fun i a h => (wipe_own.mp h).1
theorem wipe_wipe {vs : List Nat} : wipe (wipe σ vs) vs = wipe σ vs := wipe_eq (wipe_length _ _) fun i hi => wipe_get hi
/-! .. back -/
theorem backR_out : ∀ {vs : List Nat} {i : Nat}, i ∉ vs → (backR ρb ρ vs)[i]? = ρ[i]?
  | [], _, _ => rfl
  | v :: vs, i, h => by
    show ((backR ρb ρ vs).set v _)[i]? = _
    rw [List.getElem?_set_ne fun z => h (by rw [z]; exact List.mem_cons_self), backR_out fun z => h (List.mem_cons_of_mem _ z)]
theorem backR_len : ∀ vs : List Nat, (backR ρb ρ vs).length = ρ.length
  | [] => rfl
  | v :: vs => by
    show ((backR ρb ρ vs).set v _).length = _
    rw [List.length_set, backR_len vs]
theorem backR_in (hl : ρ.length = ρb.length) : ∀ {vs : List Nat} {i : Nat}, i ∈ vs → (backR ρb ρ vs)[i]? = ρb[i]?
  | v :: vs, i, h => by
    show ((backR ρb ρ vs).set v (ρb.getD v none))[i]? = _
    by_cases e : v = i
    · subst e
      by_cases z : v < ρb.length
      · rw [List.getElem?_set_self (by rw [backR_len, hl]; exact z), List.getD_eq_getElem?_getD, List.getElem?_eq_getElem z]; rfl
      · rw [List.getElem?_eq_none (by rw [List.length_set, backR_len, hl]; omega), List.getElem?_eq_none (by omega)]
    · rw [List.getElem?_set_ne e]
      rcases List.mem_cons.mp h with z | z
      · exact absurd z.symm e
      · exact backR_in hl z
theorem back_rel {vs : List Nat} (Rb : Rel T σ H1 ρb W1) (hb : ∀ i ∈ vs, T.bm i = none) (R : Rel T (wipe σ vs) H (wipeR ρq vs) W) (s : Step (wipe σ vs) H1 (wipeR ρb vs) W1 (wipe σ vs) H (wipeR ρq vs) W) (m : MonS (wipe σ vs) (wipeR ρb vs) (wipe σ vs) (wipeR ρq vs))
    (dom : ∀ a, H a = none → H1 a = none) (lk : Lk (wipeR ρb vs) (wipeR ρq vs)) : Rel T σ H (backR ρb ρq vs) W ∧ Step σ H1 ρb W1 σ H (backR ρb ρq vs) W ∧ Mon σ ρb (backR ρb ρq vs) ∧ Lk ρb (backR ρb ρq vs) := by
  have hl : ρq.length = ρb.length := by
    have h1 := R.len
    rw [wipeR_len, wipe_length] at h1
    rw [h1, Rb.len]
  have st : Step σ H1 ρb W1 (wipe σ vs) H (wipeR ρq vs) W := (wipe_step (vs := vs)).trans s
  have own : ∀ i a, OwnA σ (backR ρb ρq vs) i a → OwnA σ ρb i a ∧ (i ∉ vs → OwnA (wipe σ vs) (wipeR ρq vs) i a) := fun i a ⟨h1, h2⟩ => by
    by_cases hm : i ∈ vs
    · rw [backR_in hl hm] at h1
      exact ⟨⟨h1, h2⟩, fun z => absurd hm z⟩
    · rw [backR_out hm] at h1
      have : OwnA (wipe σ vs) (wipeR ρq vs) i a := wipe_own.mpr ⟨⟨h1, h2⟩, hm⟩
      exact ⟨(wipe_own.mp (m i a this)).1, fun _ => this⟩
  -- an own slot's old content still stands
  have old : ∀ (i : Nat) (s : S), i ∈ vs → ρb[i]? = some (some s) → ∃ o, σ[i]? = some o ∧ RelS T H W o s := fun i s hm e => by
    obtain ⟨o, e1, q⟩ := Rb.at_ i s e
    refine ⟨o, e1, ?_⟩
    have ad : Adv H1 W1 H W := st.adv Rb
    have nU : ∀ a, OwnA σ ρb i a → ∀ j, ¬ OwnU (wipe σ vs) (wipeR ρb vs) j a := fun a oa j z => by
      obtain ⟨z1, z2⟩ := wipe_ownU.mp z
      have := Rb.sep _ _ _ oa z1.a
      subst this
      exact z2 hm
    cases s with
    | val d => obtain ⟨v, e2, r⟩ := q; exact ⟨v, e2, r.adv Rb.wl ad⟩
    | brz d => obtain ⟨v, e2, r⟩ := q; exact ⟨v, e2, r.adv Rb.wl ad⟩
    | own b d =>
      obtain ⟨a, ob, rfl, e3, w, r⟩ := q
      obtain ⟨h1, _, h3⟩ := s a ob e3 (nU a ⟨.inl ⟨b, d, e⟩, e1⟩)
      exact ⟨a, ob, rfl, h1, h3.mpr w, r.adv Rb.wl ad⟩
    | lck b d =>
      obtain ⟨a, ob, rfl, e3, w, r⟩ := q
      obtain ⟨h1, _, h3⟩ := s a ob e3 (nU a ⟨.inr ⟨b, d, e⟩, e1⟩)
      exact ⟨a, ob, rfl, h1, h3.mpr w, r.adv Rb.wl ad⟩
  refine ⟨⟨by rw [backR_len, hl, Rb.len], fun i s h => ?_, fun i j a h1 h2 => Rb.sep i j a (own i a h1).1 (own j a h2).1, R.wl, fun i d a h1 h2 => ?_, R.fzk, fun i a h => ?_⟩, fun b o h n => ?_, fun i a h => (own i a h).1, fun i b d h => ?_⟩
  · by_cases hm : i ∈ vs
    · rw [backR_in hl hm] at h
      exact old i s hm h
    · rw [backR_out hm] at h
      have := R.at_ i s (by rw [wipeR_get hm]; exact h)
      rw [wipe_get hm] at this
      exact this
  · by_cases hm : i ∈ vs
    · rw [backR_in hl hm] at h1
      exact Rb.fr i d a h1 h2
    · rw [backR_out hm] at h1
      exact R.fr i d a (by rw [wipeR_get hm]; exact h1) (by rw [wipe_get hm]; exact h2)
  · have hm : i ∉ vs := fun hm => by rw [hb i hm] at h; cases h
    rw [backR_out hm]
    have := R.bor i a h
    rw [wipe_get hm, wipeR_get hm] at this
    exact this
  · obtain ⟨h1, n1, w⟩ := st b o h n
    refine ⟨h1, fun i z => ?_, w⟩
    by_cases hm : i ∈ vs
    · obtain ⟨⟨c, d, z1⟩, z2⟩ := z
      rw [backR_in hl hm] at z1
      exact n i ⟨⟨c, d, z1⟩, z2⟩
    · obtain ⟨⟨c, d, z1⟩, z2⟩ := z
      rw [backR_out hm] at z1
      exact n1 i (wipe_ownU.mpr ⟨⟨⟨c, d, z1⟩, z2⟩, hm⟩)
  · by_cases hm : i ∈ vs
    · rw [backR_in hl hm]; exact h
    · rw [backR_out hm]
      have := lk i b d (by rw [wipeR_get hm]; exact h)
      rw [wipeR_get hm] at this
      exact this
/-- an object that no slot bears, changed -/
theorem mut_tmp (R : Rel T σ H ρ W) {a : Addr} {o o' : HO} {d : D} (ha : H a = some o) (wa : W a) (no : ∀ i, ¬ OwnA σ ρ i a) (q : RepO T.K H W o' d) : Rel T σ (upd H a o') ρ W := by
  have ad : Adv H W (upd H a o') W := fun b u e w => ⟨by rw [upd_ne (fun z => w (by rw [z]; exact wa))]; exact e, w⟩
  refine ⟨R.len, fun i s e => ?_, R.sep, fun x w => ?_, R.fr, fun x h => R.fzk x ?_, R.bor⟩
  · obtain ⟨v, e1, z⟩ := R.at_ i s e
    refine ⟨v, e1, ?_⟩
    cases s with
    | val d => obtain ⟨v, e2, r⟩ := z; exact ⟨v, e2, r.adv R.wl ad⟩
    | brz d => obtain ⟨v, e2, r⟩ := z; exact ⟨v, e2, r.adv R.wl ad⟩
    | own b d =>
      obtain ⟨c, ob, rfl, e3, w, r⟩ := z
      have ne : c ≠ a := fun z => no i (by rw [← z]; exact ⟨.inl ⟨b, d, e⟩, e1⟩)
      exact ⟨c, ob, rfl, by rw [upd_ne ne]; exact e3, w, r.adv R.wl ad⟩
    | lck b d =>
      obtain ⟨c, ob, rfl, e3, w, r⟩ := z
      have ne : c ≠ a := fun z => no i (by rw [← z]; exact ⟨.inr ⟨b, d, e⟩, e1⟩)
      exact ⟨c, ob, rfl, by rw [upd_ne ne]; exact e3, w, r.adv R.wl ad⟩
  · by_cases e : x = a
    · subst e; exact ⟨o', upd_same, q.mk1⟩
    · obtain ⟨u, hu, m⟩ := R.wl x w
      exact ⟨u, by rw [upd_ne e]; exact hu, m⟩
  · by_cases e : x = a
    · subst e; rw [upd_same] at h; cases h
    · rw [upd_ne e] at h; exact h
end
end Dv

set_option Elab.async false
set_option linter.all false
set_option maxRecDepth 100000
namespace Dv
open PySem PySem.Spec PyProof.Rows L2

abbrev Z0 : WX := fun _ _ _ _ => False
def tCl (X : Cx) (T : Tc) (F : Fn) (Z : WX) (o : To) : TT := fun σ H Q => ∃ ρ W, Rel T σ H ρ W ∧ Post X Z (evc F o ρ) σ H ρ fun b ρ' => ∀ H' W', Go T σ H ρ W H' ρ' W' → Q b H'
/-- a comprehension's turn -/
noncomputable def turnF (F : Fn) (elt : Ex) (tg : Tg) (ifs : To) (own : List Nat) : D → Env' → Rs (Option D × Env') := fun d ρ1 => (asgT tg d (wipeR ρ1 own)).bind fun ρ2 => (evc F ifs ρ2).quiet.bind fun c => match c.1 with
  | true => (ev F elt c.2).quiet.bind fun p => (Rs.of (toD p.1 p.2)).bind fun y => .ok (some y.1, y.2)
  | false => .ok (none, c.2)
def tgs : Tg → List Nat
  | .nm i => [i]
  | .tp l => l
section
variable {X : Cx} {Z : WX} {T : Tc} {F : Fn} {σ σ' : Sg} {H H0 H1 H2 H' : Hp} {ρ ρ1 ρ2 ρ' ρf ρb ρq : Env'} {W W1 W2 W' : AS} {K : PySem.W.Frag} {ds : List D}
theorem s_cnone : PTs X [] (tCl X T F Z .none) := by
  refine ⟨fun pins s σ H Q I q => pts_nil.run pins s σ H Q I ?_⟩
  obtain ⟨ρ, W, R, h⟩ := q
  exact h H W (Go.refl R)
theorem s_csome {t : Tx} {c : Expr} (h : PT X c (tT X T F Z t)) : PTs X [c] (tCl X T F Z (.some t)) := pts_one h
theorem bind_ok {α β : Type} {r : Rs α} {f : α → Rs β} {b : β} (h : r.bind f = .ok b) : ∃ a, r = .ok a ∧ f a = .ok b := by
  cases r with
  | ok a => exact ⟨a, rfl, h⟩
  | err e => cases h
  | bad => cases h
theorem quiet_ok {α : Type} {r : Rs α} {a : α} (h : r.quiet = .ok a) : r = .ok a := by
  cases r with
  | ok b => exact h
  | err e => cases h
  | bad => cases h
/-- the heap of a step's items -/
theorem Lay.go (R : Rel T σ H ρ W) (l : Lay H H') : Go T σ H ρ W H' ρ W := by
  rcases l with rfl | ⟨a, vs, n, rfl⟩
  · exact Go.refl R
  · exact Go.tup R n
theorem drop_cons {α : Type} {l : List α} {i : Nat} {d : α} (h : l[i]? = some d) : l.drop i = d :: l.drop (i + 1) := by
  obtain ⟨hi, e⟩ := List.getElem?_eq_some_iff.mp h
  rw [List.drop_eq_getElem_cons hi, e]

structure CInv (T : Tc) (F : Fn) (elt : Ex) (tg : Tg) (ifs : To) (own : List Nat) (l fin : List D) (ρe : Env') (σ : Sg) (H1 : Hp) (ρb : Env') (W1 : AS) (Dl : Addr) (i : Nat) (H : Hp) : Prop where
  ex : ∃ (ρi : Env') (Wi : AS) (acc rest : List D) (va : List V), Rel T (wipe σ own) H (wipeR ρi own) Wi ∧ Step (wipe σ own) H1 (wipeR ρb own) W1 (wipe σ own) H (wipeR ρi own) Wi ∧ MonS (wipe σ own) (wipeR ρb own) (wipe σ own) (wipeR ρi own) ∧
    (∀ a, H a = none → H1 a = none) ∧ Lk (wipeR ρb own) (wipeR ρi own) ∧ H Dl = some (.lst va) ∧ Wi Dl ∧ (∀ j, ¬ OwnA (wipe σ own) (wipeR ρi own) j Dl) ∧ RepDs T.K H Wi va acc ∧
    mapR (turnF F elt tg ifs own) (l.drop i) ρi = .ok (rest, ρe) ∧ acc ++ rest = fin

theorem GoS.keepD {σ1 σ2 : Sg} (g : GoS T σ1 H1 ρ1 W1 σ2 H2 ρ2 W2) (m : MonS σ1 ρ1 σ2 ρ2) {a : Addr} {o : HO} (e : H1 a = some o) (w : W1 a) (n : ∀ j, ¬ OwnA σ1 ρ1 j a) : H2 a = some o ∧ W2 a ∧ ∀ j, ¬ OwnA σ2 ρ2 j a := by
  obtain ⟨h1, _, h3⟩ := g.step a o e fun i z => n i z.a
  exact ⟨h1, h3.mpr w, fun j z => n j (m j a z)⟩

/-- one turn -/
theorem comp_turn {elt : Ex} {tg : Tg} {ifs : To} {own : List Nat} {l fin : List D} {ρe : Env'} {Dl : Addr} {i : Nat} {d : D} (hb : ∀ i ∈ own, T.bm i = none) (htg : ∀ i ∈ tgs tg, i ∈ own) (hz : fin.length < sizeLine)
    (C : CInv T F elt tg ifs own l fin ρe σ H1 ρb W1 Dl i H) (hd : l[i]? = some d) {x : V} (ly : Lay H H') (rx : ∀ Wi ρi, Rel T (wipe σ own) H (wipeR ρi own) Wi → Step (wipe σ own) H1 (wipeR ρb own) W1 (wipe σ own) H (wipeR ρi own) Wi → RepD T.K H' Wi x d) {Nx : Hp → Prop}
    (hN : ∀ H, CInv T F elt tg ifs own l fin ρe σ H1 ρb W1 Dl (i + 1) H → Nx H) (nD : H1 Dl = none) :
    gT T.K tg x (wipe σ own) H' fun σ2 H2 => wipe σ2 own = wipe σ own ∧ tCl X T F Z0 ifs σ2 H2 fun b H3 =>
      if b = true then tE X T F Z0 elt σ2 H3 fun y H4 => ∃ acc, H4 Dl = some (.lst acc) ∧ acc.length < sizeLine ∧ Nx (upd H4 Dl (.lst (acc ++ [y]))) else Nx H3 := by
  obtain ⟨ρi, Wi, acc, rest, va, R, S, M, dom, lk, hD, wD, noD, ra, em, ef⟩ := C.ex
  have rd := rx Wi ρi R S
  rw [drop_cons hd] at em
  obtain ⟨⟨o, ρ3⟩, e1, em⟩ := bind_ok em
  obtain ⟨⟨rs, ρ4⟩, e2, em⟩ := bind_ok em
  cases em
  obtain ⟨ρ2, e3, e1⟩ := bind_ok e1
  obtain ⟨⟨c, ρ5⟩, e4, e1⟩ := bind_ok e1
  have e4 := quiet_ok e4
  have g0 := Lay.go R ly
  refine gT_ok g0.rel e3 rd fun σ2 g1 m1 same => ⟨?_, ?_⟩
  · have hl : σ2.length = σ.length := by
      have h1 := g1.rel.len
      have h2 := g0.rel.len
      rw [wipe_length] at h2
      have : ρ2.length = (wipeR ρi own).length := by
        have : ∀ {t : Tg} {d : D} {ρ ρ' : Env'}, asgT t d ρ = .ok ρ' → ρ'.length = ρ.length := by
          have p1 : ∀ {i : Nat} {d : D} {ρ ρ' : Env'}, putV i d ρ = .ok ρ' → ρ'.length = ρ.length := fun {i d ρ ρ'} e => by
            unfold putV at e
            split at e
            · cases e; simp
            · cases e
          have p2 : ∀ {is : List Nat} {ds : List D} {ρ ρ' : Env'}, putVs is ds ρ = .ok ρ' → ρ'.length = ρ.length := by
            intro is
            induction is with
            | nil => intro ds ρ ρ' e; cases ds <;> cases e; rfl
            | cons i is ih =>
              intro ds ρ ρ' e
              cases ds with
              | nil => cases e
              | cons d ds =>
                obtain ⟨ρ1, e1, e2⟩ := bind_ok (show (putV i d ρ).bind (putVs is ds) = .ok ρ' from e)
                rw [ih e2, p1 e1]
          intro t d ρ ρ' e
          unfold asgT at e
          split at e
          · exact p1 e
          · exact p2 e
          · cases e
        exact this e3
      rw [← h1, this, h2]
    rw [← wipe_wipe (σ := σ)]
    refine wipe_eq (by rw [wipe_length, hl]) fun j hj => same j ?_
    cases tg with
    | nm k => exact fun z => hj (by rw [z]; exact htg k (by simp [tgs]))
    | tp l => exact fun z => hj (htg j z)
  · have hlw : wipe σ2 own = wipe σ own → True := fun _ => trivial
    refine ⟨ρ2, Wi, g1.rel, ?_⟩
    rw [e4]
    intro H3 W3 g2
    have gS := (g0.s.trans g1).trans g2.s
    have mS : MonS (wipe σ own) (wipeR ρi own) σ2 ρ5 := fun j a h => m1 j a (g2.mon j a h)
    obtain ⟨hD3, wD3, noD3⟩ := gS.keepD mS hD wD noD
    have weq : wipe σ2 own = wipe σ own := by
      rw [← wipe_wipe (σ := σ)]
      have hl : σ2.length = (wipe σ own).length := by
        have h1 := g1.rel.len
        have h2 := g0.rel.len
        have : ρ2.length = (wipeR ρi own).length := by
          have p1 : ∀ {i : Nat} {d : D} {ρ ρ' : Env'}, putV i d ρ = .ok ρ' → ρ'.length = ρ.length := fun {i d ρ ρ'} e => by
            unfold putV at e
            split at e
            · cases e; simp
            · cases e
          have p2 : ∀ {is : List Nat} {ds : List D} {ρ ρ' : Env'}, putVs is ds ρ = .ok ρ' → ρ'.length = ρ.length := by
            intro is
            induction is with
            | nil => intro ds ρ ρ' e; cases ds <;> cases e; rfl
            | cons i is ih =>
              intro ds ρ ρ' e
              cases ds with
              | nil => cases e
              | cons d ds =>
                obtain ⟨ρ1, e1, e2⟩ := bind_ok (show (putV i d ρ).bind (putVs is ds) = .ok ρ' from e)
                rw [ih e2, p1 e1]
          unfold asgT at e3
          split at e3
          · exact p1 e3
          · exact p2 e3
          · cases e3
        omega
      refine wipe_eq hl fun j hj => same j ?_
      cases tg with
      | nm k => exact fun z => hj (by rw [z]; exact htg k (by simp [tgs]))
      | tp l => exact fun z => hj (htg j z)
    cases c with
    | false =>
      rw [if_neg (by simp)]
      cases e1
      refine hN H3 ⟨ρ5, W3, acc, rs, va, ?_, ?_, ?_, fun a h => dom a (gS.dom a h), ?_, hD3, wD3, ?_, ra.adv R.wl (gS.step.adv R), e2, ef⟩
      · rw [← weq]; exact wipe_rel gS.rel hb
      · rw [← weq]; rw [weq] ; exact S.trans (gS.step.trans (by rw [← weq]; exact wipe_step))
      · have := M.trans (mS.trans (wipe_mon (vs := own)))
        rw [weq] at this; exact this
      · intro j b x h
        have hn : j ∉ own := fun z => wipeR_in z h
        have h1 := (gS.lk j b x (lk j b x h)).1
        rw [wipeR_get hn]; exact h1
      · intro j z
        rw [← weq] at z
        exact noD3 j (wipe_own.mp z).1
    | true =>
      rw [if_pos rfl]
      obtain ⟨⟨p, ρ6⟩, e5, e1⟩ := bind_ok e1
      have e5 := quiet_ok e5
      obtain ⟨⟨y, ρ7⟩, e6, e1⟩ := bind_ok e1
      cases e1
      refine ⟨ρ5, W3, g2.rel, ?_⟩
      rw [e5]
      intro v H4 W4 o4
      obtain ⟨W5, g5, r5⟩ := o4.data (of_ok e6)
      have gS5 := gS.trans g5.s
      have mS5 : MonS (wipe σ own) (wipeR ρi own) σ2 ρ7 := fun j a h => mS j a (g5.mon j a h)
      obtain ⟨hD5, wD5, noD5⟩ := gS5.keepD mS5 hD wD noD
      have ra5 : RepDs T.K H4 W5 va acc := ra.adv R.wl (gS5.step.adv R)
      have lenv : va.length < sizeLine := by
        rw [ra.length]
        have := congrArg List.length ef
        rw [List.length_append] at this
        omega
      refine ⟨va, hD5, lenv, hN _ ?_⟩
      have q5 : RepO T.K H4 W5 (.lst (va ++ [v])) (.lst (acc ++ [y])) := ⟨_, rfl, ra5.append (RepDs.one r5)⟩
      have R6 := mut_tmp gS5.rel hD5 wD5 noD5 q5
      have ad6 : Adv H4 W5 (upd H4 Dl (.lst (va ++ [v]))) W5 := fun b u e w => ⟨by rw [upd_ne (fun z => w (by rw [z]; exact wD5))]; exact e, w⟩
      refine ⟨ρ7, W5, acc ++ [y], rs, va ++ [v], ?_, ?_, ?_, fun a h => ?_, ?_, upd_same, wD5, ?_, (ra5.append (RepDs.one r5)).adv gS5.rel.wl ad6, e2, by rw [List.append_assoc]; exact ef⟩
      · rw [← weq]; exact wipe_rel R6 hb
      · intro b u hbu nb
        have ne : b ≠ Dl := fun z => by rw [z, nD] at hbu; cases hbu
        obtain ⟨h1, n1, w1⟩ := S b u hbu nb
        obtain ⟨h2, n2, w2⟩ := gS5.step b u h1 n1
        refine ⟨by rw [upd_ne ne]; exact h2, fun j z => ?_, w2.trans w1⟩
        rw [← weq] at z
        exact n2 j (wipe_ownU.mp z).1
      · have := M.trans (mS5.trans (wipe_mon (vs := own)))
        rw [weq] at this; exact this
      · by_cases ea : a = Dl
        · subst ea; rw [upd_same] at h; cases h
        · rw [upd_ne ea] at h; exact dom a (gS5.dom a h)
      · intro j b x h
        have hn : j ∉ own := fun z => wipeR_in z h
        have h1 := (gS5.lk j b x (lk j b x h)).1
        rw [wipeR_get hn]; exact h1
      · intro j z
        rw [← weq] at z
        exact noD5 j (wipe_own.mp z).1
/-- a comprehension's reading -/
theorem comp_tLc (tk : T.K = X.K) {elt : Ex} {tg : Tg} {it : Ie} {ifs : To} {own : List Nat} (hb : ∀ i ∈ own, T.bm i = none) (htg : ∀ i ∈ tgs tg, i ∈ own) {Q : VK} (h : tE X T F Z (.comp elt tg it ifs own) σ H Q) :
    tLc (tI X T F Z it) (gT X.K tg) (tCl X T F Z0 ifs) (tE X T F Z0 elt) own σ H Q := by
  obtain ⟨ρ, W, R, h⟩ := h
  refine ⟨ρ, W, R, (Post.bind h).imp fun lp ρ1 h J H1 W1 g1 feed Dl nD => ?_⟩
  obtain ⟨l, p⟩ := lp
  dsimp only at h feed
  -- the turns
  have noerr : ∀ {ds : List D} {ρ : Env'}, NoErr (mapR (turnF F elt tg ifs own) ds ρ) := by
    intro ds
    induction ds with
    | nil => intro ρ; exact .ok
    | cons d ds ih =>
      intro ρ
      refine .bind ?_ fun _ => .bind ih fun _ => .ok
      refine .bind .asgT fun _ => .bind .quiet fun c => ?_
      split
      · exact .bind .quiet fun _ => .bind .of fun _ => .ok
      · exact .ok
  obtain ⟨⟨fin, ρe⟩, em, h⟩ := Post.val noerr h
  obtain ⟨ρ', eu, h⟩ := Post.val .unlock h
  obtain ⟨hz, h⟩ := Post.need h
  have gl := lock_go g1.rel p
  have Rb := gl.rel
  -- the new list is laid
  have o1 := Out.own Rb nD (d := .lst []) (o := .lst []) ⟨[], rfl, rfl⟩
  have nO : ∀ j, ¬ OwnA (wipe σ own) (wipeR (lockP p ρ1).2 own) j Dl := fun j z => by
    obtain ⟨_, u, e, _⟩ := Rb.ownA (wipe_own.mp z).1
    rw [nD] at e; cases e
  have idem : ∀ {ρ : Env'}, wipeR (wipeR ρ own) own = wipeR ρ own := fun {ρ} => by
    apply List.ext_getElem?
    intro i
    by_cases hm : i ∈ own
    · have h1 : ∀ ρ : Env', ρ.length = (wipeR ρ own).length := fun ρ => (wipeR_len own).symm
      have key : ∀ (ρ : Env') (s : S), (wipeR ρ own)[i]? ≠ some (some s) := fun ρ s => wipeR_in hm
      have a1 : (wipeR (wipeR ρ own) own)[i]? = if i < ρ.length then some none else none := by
        by_cases z : i < ρ.length
        · rw [if_pos z]
          have hl : i < (wipeR (wipeR ρ own) own).length := by rw [wipeR_len, wipeR_len]; exact z
          rw [List.getElem?_eq_getElem hl]
          cases q : (wipeR (wipeR ρ own) own)[i] with
          | none => rfl
          | some s => exact absurd (by rw [List.getElem?_eq_getElem hl, q]) (key (wipeR ρ own) s)
        · rw [if_neg z, List.getElem?_eq_none (by rw [wipeR_len, wipeR_len]; omega)]
      have a2 : (wipeR ρ own)[i]? = if i < ρ.length then some none else none := by
        by_cases z : i < ρ.length
        · rw [if_pos z]
          have hl : i < (wipeR ρ own).length := by rw [wipeR_len]; exact z
          rw [List.getElem?_eq_getElem hl]
          cases q : (wipeR ρ own)[i] with
          | none => rfl
          | some s => exact absurd (by rw [List.getElem?_eq_getElem hl, q]) (key ρ s)
        · rw [if_neg z, List.getElem?_eq_none (by rw [wipeR_len]; omega)]
      rw [a1, a2]
    · rw [wipeR_get hm]
  have start : CInv T F elt tg ifs own l fin ρe σ H1 (lockP p ρ1).2 W1 Dl 0 (upd H1 Dl (.lst [])) := by
    refine ⟨wipeR (lockP p ρ1).2 own, (fun x => W1 x ∨ x = Dl), [], fin, [], ?_, ?_, fun _ _ z => (by rw [idem] at z; exact z), o1.go.dom, by rw [idem]; exact .refl, upd_same, .inr rfl, by rw [idem]; exact nO, rfl, em, rfl⟩
    · rw [idem]; exact wipe_rel o1.go.rel hb
    · rw [idem]
      intro b u hbu nb
      have ne : b ≠ Dl := fun z => by rw [z, nD] at hbu; cases hbu
      exact ⟨by rw [upd_ne ne]; exact hbu, nb, ⟨fun z => z.elim id fun e => absurd e ne, .inl⟩⟩
  have tkk : gT X.K tg = gT T.K tg := by rw [tk]
  refine ⟨fun i m H => m = l.length - i ∧ i ≤ l.length ∧ CInv T F elt tg ifs own l fin ρe σ H1 (lockP p ρ1).2 W1 Dl i H, ⟨_, rfl, Nat.zero_le _, start⟩, ?_⟩
  rintro i m H2 ⟨rfl, hi, C⟩
  have feedAt : ∀ Wi ρi, Rel T (wipe σ own) H2 (wipeR ρi own) Wi → Step (wipe σ own) H1 (wipeR (lockP p ρ1).2 own) W1 (wipe σ own) H2 (wipeR ρi own) Wi →
      (∀ (i : Nat) (d : D), l[i]? = some d → J.go i H2 ∧ ∀ x H3, J.yld i H2 x H3 → Lay H2 H3 ∧ RepD T.K H3 Wi x d) ∧ J.stop l.length H2 := fun Wi ρi Ri Si =>
    feed _ _ _ _ Ri (Step.trans (σ := σ) (ρ := (lockP p ρ1).2) (wipe_step (vs := own)) Si)
  obtain ⟨ρi, Wi, acc, rest, va, Ri, Si, Mi, domi, lki, hD, wD, noD, ra, emi, ef⟩ := id C.ex
  by_cases hlt : i < l.length
  · have hd : l[i]? = some l[i] := List.getElem?_eq_getElem hlt
    refine .inr ⟨((feedAt Wi ρi Ri Si).1 i _ hd).1, CInv T F elt tg ifs own l fin ρe σ H1 (lockP p ρ1).2 W1 Dl (i + 1), fun H' c => ⟨l.length - (i + 1), by omega, rfl, hlt, c⟩, fun x H' y => ?_⟩
    rw [tkk]
    exact comp_turn hb htg hz C hd (((feedAt Wi ρi Ri Si).1 i _ hd).2 x H' y).1 (fun W' ρ' R' S' => (((feedAt W' ρ' R' S').1 i _ hd).2 x H' y).2) (fun _ c => c) nD
  · have e : i = l.length := by omega
    subst e
    refine .inl ⟨(feedAt Wi ρi Ri Si).2, ?_⟩
    rw [List.drop_length] at emi
    cases emi
    rw [List.append_nil] at ef
    subst ef
    obtain ⟨Rf, Sf, Mf, Lf⟩ := back_rel Rb hb Ri Si Mi domi lki
    have Ru := unlock_rel Rf eu
    obtain ⟨ow, _, _⟩ := unlock_own (σ := σ) eu
    have Su := unlock_step g1.rel Sf eu fun _ _ _ _ => rfl
    have Lu := unlock_lk Lf eu
    have noD2 : ∀ j, ¬ OwnA σ ρ' j Dl := fun j z => by
      have z1 := Mf j Dl ((ow j Dl).mp z)
      obtain ⟨_, u, e, _⟩ := Rb.ownA z1
      rw [nD] at e; cases e
    refine h _ _ Wi ⟨⟨Ru, g1.step.trans Su, fun j a z => g1.mon j a (gl.mon j a (Mf j a ((ow j a).mp z))), fun a z => g1.dom a (domi a z), g1.lk.trans Lu⟩, ⟨Dl, _, rfl, hD, wD, noD2, Rb.fzk Dl nD, _, rfl, ra⟩, fun _ _ a e => by cases e; exact g1.dom _ nD⟩
end
end Dv

set_option Elab.async false
set_option linter.all false
set_option maxRecDepth 100000
set_option maxHeartbeats 4000000
namespace Dv
open PySem PySem.Spec PyProof.Rows L2 PySem.W

/-- def __init__(self, f, ..): super().__init__(".."); self.f = f .. -/
def restB : List Str → List Stmt → Bool
  | [], [] => true
  | f :: fs, .Assign [.Attribute (.Name s _) g _] (.Name y _) _ :: r => decide (s = ("self" : Str)) && decide (g = f) && decide (y = f) && restB fs r
  | _, _ => false
def iniB (fs : List Str) : List Stmt → Bool
  | .Expr (.Call (.Attribute (.Call (.Name x _) [] [] _) m p2) [.Constant (.str _) _ _] [] p4) _ :: r => (p2.endLine == p4.line) && decide (x = ("super" : Str)) && decide (m = ("__init__" : Str)) && restB fs r
  | _ => false
def iniS (fs : List Str) (sc : Scope) : Bool :=
  decide (sc.kind = .function) && !sc.isCoroutine && !sc.isGenerator && sc.names.all (fun y => !decide (y.2 = .cell)) && ((("self" : Str)) :: fs).all (fun x => decide (sc.names.lookup x = some .local) && !(x == ("__debug__" : Str))) &&
    decide (sc.names.lookup ("super" : Str) = some .globalImplicit) && decide (sc.names.lookup ("__class__" : Str) = some .free) && decide ((("self" : Str) :: fs).Nodup)
structure ExI (prog : Program) (K : PySem.W.Frag) (C : Addr) (fs : List Str) : Prop where
  T : OexC K C
  hd : hasDictIn K C = true
  sup : ks_superIn K C C "__init__" = some (some (.builtin "ValueError.__init__"))
  sV : subIn K (.ref C) (.type "ValueError") = some true
  mro : mroIn K C (.ref C) = some true
  st : nsIn K cStatics "thirdparty.any" = some none
  top : (prog.main.scope.names.lookup ("super" : Str)).isSome = false
  sg : nsIn K mainGlobals "super" = some none
  no : ∀ f ∈ fs, findIn K (.ref C) f = some none
  fn : ∃ (fI cda cc : Addr) (name qual : Str) (params : Arguments) (body : List Stmt) (scope : Scope) (dV kV doc pm ct oc : Value) (an od : Option Addr) (osl : Array (Option Value)) (ccl : Value) (cdd : Option Addr) (vs : Array Value) (ccs : Array (Option Value)) (file : Str) (tf : Tok) (cl : Value) (cld : Option Addr) (csl : Array (Option Value)) (ar : Arg),
    findIn K (.ref C) "__init__" = some (some (.ref fI)) ∧ typeIn K (.ref fI) = some (.type "function") ∧ K.lookup fI = some ⟨oc, od, .func (ksFn name qual params body scope dV kV doc pm an (.ref cda) ct cc), osl⟩ ∧ codeIn K (.ref cda) qual = true ∧
    K.lookup cda = some ⟨ccl, cdd, .fields vs, ccs⟩ ∧ vs[2]? = some (.str file tf) ∧ ((prog.main.file : Str) == file) = true ∧ K.lookup cc = some ⟨cl, cld, .cell (some (.ref C)), csl⟩ ∧ iniB fs body = true ∧ iniS fs scope = true ∧
    (params.posonlyargs ++ params.args).head? = some ar ∧ ar.arg = "self" ∧ Binds K (ksFn name qual params body scope dV kV doc pm an (.ref cda) ct cc) ("self" :: fs) []

abbrev exR (C t : Addr) (d : Option Addr) : Obj := { cls := .ref C, dict := d, data := .fields #[.ref t, .none, .none, .none, .bool false, .none] }
section
variable {prog : Program} {w : World} {A : Around} {E : Value → Shared → Prop} {env : Env} {C a L : Addr} {m : Str → Option Value} {K : PySem.W.Frag}
theorem ld_loc {s : Shared} {x : Str} {pos : Pos} {v : Value} {Q : Value → Shared → Prop} (hk : env.scope.kind = .function) (hl : env.scope.names.lookup x = some .local) (hL : env.locals = L) (hn : s.heap.Ns L m) (hv : m x = some v) (hd : (x == ("__debug__" : Str)) = false) (h : Q v s) :
    wpAny (model prog w) A (eval (.Name x pos) env) Q E s := wpAny_Name (wpAny_loadName_local hk hl (by rw [hL]; exact hn) hv h) hd
/-- the fields, one by one, once the exception has its dict -/
theorem rest_ok (T : OexC K C) (hk : env.scope.kind = .function) (hL : env.locals = L) {g : Array GenState} {d : Drawn} {os : OsState} {t1 dx : Addr} (hs : env.scope.names.lookup ("self" : Str) = some .local) (ms : m "self" = some (.ref a)) (hdL : dx ≠ L) :
    ∀ (fs : List Str) {ys : List V} {us : List Value} {r : List Stmt} {h : Heap} {t : Nat} {mA : Str → Option Value} {as : List (Str × V)} {Q : Flow → Shared → Prop}, restB fs r = true → Vals ys us → ys.length = fs.length → (∀ (i : Nat) (f : Str) (u : Value), fs[i]? = some f → us[i]? = some u → m f = some u) → (∀ f ∈ fs, findIn K (.ref C) f = some none ∧ env.scope.names.lookup f = some .local ∧ (f == ("__debug__" : Str)) = false) →
      K.In h → h.get? a = some (exR C t1 (some dx)) → h.Ns L m → h.Ns1 dx mA → (∀ f, RelO (as.lookup f) (mA f)) → as.length + fs.length ≤ 900 → a ≠ dx → (∀ b o, K.lookup b = some o → b ≠ dx) →
      (∀ h' t' mA', (∀ b o, b ≠ dx → h.get? b = some o → h'.get? b = some o) → h'.Ns1 dx mA' → (∀ f, RelO (((fs.zip ys).reverse ++ as).lookup f) (mA' f)) → Q .next ⟨h', g, d, t', os⟩) →
      wpAny (model prog w) A (execs r env) Q E ⟨h, g, d, t, os⟩
  | [], ys, us, r, h, t, mA, as, Q, hr, rv, hl, hm, hf, hK, ha, hn, hd, rel, hz, ne, nK, hq => by
    cases r with
    | nil => exact wpAny_execs_nil (hq h t mA (fun b o _ e => e) hd (by simpa using rel))
    | cons st r => cases hr
  | f :: fs, ys, us, r, h, t, mA, as, Q, hr, rv, hl, hm, hf, hK, ha, hn, hd, rel, hz, ne, nK, hq => by
    cases rv with
    | nil => simp at hl
    | @cons y u ys us ry rv =>
    unfold restB at hr
    split at hr
    · rename_i z1; cases z1
    · rename_i f' fs' sx p1 g' p2 y' p3 p4 r' z1
      cases z1
      simp only [Bool.and_eq_true, decide_eq_true_eq] at hr
      obtain ⟨⟨⟨rfl, rfl⟩, rfl⟩, hr⟩ := hr

      have mf := hm 0 y' u rfl rfl
      obtain ⟨f1, f2, f3⟩ := hf y' (List.mem_cons_self ..)
      have hw := within_of rel
      obtain ⟨oD, _, _, hoD, _, _⟩ := hd.count hw
      obtain ⟨nm, q, N, bs, bm, sn, sub, ab, col, dd, k0, k1, k2, k3, k5, hC, hbm⟩ := T.cls
      have hcl : clsIn K C = some { name := nm, bases := bs, mro := .ref C :: bm, ns := N, qualname := q, hasDict := true, slotNames := sn, subclasses := sub, abstract := ab, collection := col, hasDel := false } := by unfold clsIn; rw [hC] <;> rfl
      refine wpAny_execs_cons (plainObj_wpAny_Assign_Attribute (ld_loc hk f2 hL hn mf f3 (ld_loc hk hs hL hn ms (by decide) ?_)))
      refine set_plain hK (ox := exR C t1 (some dx)) (od := some oD) ⟨ha, rfl, rfl, hoD⟩ T.sa ?_
      refine PySem.OEX.osa_old hK ha hd hw (by rw [List.length_map]; simp at hz; omega) hcl (show PySem.HandSPX.refsVE (.ref C :: bm) = true from hbm) rfl f1 (fun h' tk' k hn' => ?_)
      refine rest_ok T hk hL hs ms hdL fs (ys := ys) (us := us) hr rv (by simpa using hl) (fun i f u h1 h2 => hm (i + 1) f u h1 h2) (fun f hf' => hf f (List.mem_cons_of_mem _ hf')) (fun b o e => k b o (nK b o e) (hK b o e)) (k _ _ ne ha) (hn.at fun o e => k _ _ (Ne.symm hdL) e) hn' (relO_put ry rel) (by simp at hz ⊢; omega) ne nK
        (fun h2 t2 mA2 k2 n2 r2 => hq h2 t2 mA2 (fun b o hb e => k2 b o hb (k b o hb e)) n2 (by simpa using r2))
    · cases hr
/-- all fields -/
theorem first_ok (T : OexC K C) (hk : env.scope.kind = .function) (hL : env.locals = L) {g : Array GenState} {d : Drawn} {os : OsState} {t1 : Addr} (hs : env.scope.names.lookup ("self" : Str) = some .local) (ms : m "self" = some (.ref a))
    {f : Str} {fs : List Str} {ys : List V} {us : List Value} {r : List Stmt} {h : Heap} {t : Nat} {Q : Flow → Shared → Prop} (hr : restB (f :: fs) r = true) (rv : Vals ys us) (hl : ys.length = (f :: fs).length) (hm : ∀ (i : Nat) (x : Str) (u : Value), (f :: fs)[i]? = some x → us[i]? = some u → m x = some u)
    (hf : ∀ x ∈ f :: fs, findIn K (.ref C) x = some none ∧ env.scope.names.lookup x = some .local ∧ (x == ("__debug__" : Str)) = false)
    (hK : K.In h) (ha : h.get? a = some (exR C t1 none)) (haK : ∀ o, K.lookup a ≠ some o) (hn : h.Ns L m) (haL : a ≠ L) (hz : fs.length ≤ 800)
    (hq : ∀ h' t' dx mA', (∀ b o, b ≠ a → h.get? b = some o → h'.get? b = some o) → h.objs.size ≤ dx → dx ≠ a → h'.get? a = some (exR C t1 (some dx)) → h'.Ns1 dx mA' → (∀ x, RelO ((((f :: fs).zip ys).reverse).lookup x) (mA' x)) → Q .next ⟨h', g, d, t', os⟩) :
    wpAny (model prog w) A (execs r env) Q E ⟨h, g, d, t, os⟩ := by
  cases rv with
  | nil => simp at hl
  | @cons y u ys us ry rv =>
  unfold restB at hr
  split at hr
  · rename_i z1; cases z1
  · rename_i f' fs' sx p1 g' p2 y' p3 p4 r' z1
    cases z1
    simp only [Bool.and_eq_true, decide_eq_true_eq] at hr
    obtain ⟨⟨⟨rfl, rfl⟩, rfl⟩, hr⟩ := hr
    have mf := hm 0 y' u rfl rfl
    obtain ⟨f1, f2, f3⟩ := hf y' (List.mem_cons_self ..)
    obtain ⟨nm, q, N, bs, bm, sn, sub, ab, col, dd, k0, k1, k2, k3, k5, hC, hbm⟩ := T.cls
    have hcl : clsIn K C = some { name := nm, bases := bs, mro := .ref C :: bm, ns := N, qualname := q, hasDict := true, slotNames := sn, subclasses := sub, abstract := ab, collection := col, hasDel := false } := by unfold clsIn; rw [hC] <;> rfl
    refine wpAny_execs_cons (plainObj_wpAny_Assign_Attribute (ld_loc hk f2 hL hn mf f3 (ld_loc hk hs hL hn ms (by decide) ?_)))
    refine set_plain hK (ox := exR C t1 none) (od := none) ⟨ha, rfl, rfl, trivial⟩ T.sa ?_
    refine PySem.HandSPX.exc_osa hK ha hcl (show PySem.HandSPX.refsVE (.ref C :: bm) = true from hbm) rfl f1 (fun h' tk' dx k dn dne hx hn' => ?_)
    have nd : ∀ {b : Addr} {o : Obj}, h.get? b = some o → b ≠ dx := fun {b o} q => Nat.ne_of_lt (Nat.lt_of_lt_of_le (Heap.lt_size q) dn)
    obtain ⟨oL, es, ep, hoL, _⟩ := id hn
    have hdL : dx ≠ L := Ne.symm (nd hoL)
    refine rest_ok T hk hL hs ms hdL fs (ys := ys) (us := us) (as := [(y', y)]) hr rv (by simpa using hl) (fun i f u h1 h2 => hm (i + 1) f u h1 h2) (fun f hf' => hf f (List.mem_cons_of_mem _ hf')) (fun b o e => k b o (fun z => haK o (z ▸ e)) (hK b o e)) hx (Heap.Ns.at hn fun o e => k _ _ (Ne.symm haL) e) hn' (relO_put (fs := []) ry fun g => True.intro) (by simp; omega) (Ne.symm dne) (fun b o e => nd (hK b o e))
      (fun h2 t2 mA2 k2 n2 r2 => hq h2 t2 dx mA2 (fun b o hb e => k2 b o (nd e) (k b o hb e)) dn dne (k2 _ _ (Ne.symm dne) hx) n2 (by simpa using r2))
  · cases hr
theorem he_ok (env : Env) (p0 p1 p2 p3 p4 : Pos) (msg : Str) (ck : Nat) (hpos : (p2.endLine == p4.line) = true) : ∃ pl : Sem Bool, eval (.Call (.Attribute (.Call (.Name "super" p0) [] [] p1) "__init__" p2) [.Constant (.str msg) ck p3] [] p4) env = (do
      let ov ← attributeBase (.Call (.Name "super" p0) [] [] p1) "__init__" env (eval (.Call (.Name "super" p0) [] [] p1) env)
      standAt p2.atName
      let (f, first) ← holding [ov] (getMethod ov "__init__" pl)
      callWith p4 f first (backTo p4 (starEach [.Constant (.str msg) ck p3] env)) []) := by
  refine ⟨(do return (← importBound (.Call (.Name "super" p0) [] [] p1) env).getD true), ?_⟩
  conv => lhs; unfold eval
  unfold methodCall methodCallPos calleeOf
  have h1 : methodCallForm ([Expr.Constant (Const.str msg) ck p3].length + [].length (α := Keyword)) (backTo p4 (starEach [Expr.Constant (Const.str msg) ck p3] env)) (backToKw p4 (keywordEach [] env)) = true := rfl
  simp only [hpos, Bool.or_true, if_true, pure_bind]
  rfl
/-- the bound base's __init__, called -/
theorem call_mw {h : Heap} {g : Array GenState} {d : Drawn} {t : Nat} {os : OsState} {u t0 : Addr} {us : List Value} {Q : Value → Shared → Prop} (T : OexC K C) (hK : K.In h) (hu : h.get? u = some (kxs_mw "ValueError.__init__" a)) (ha : h.get? a = some (exR C t0 none)) (hz : us.length ≤ sizeLine)
    (hq : ∀ h' t1, (∀ b o, b ≠ a → h.get? b = some o → h'.get? b = some o) → h'.get? a = some (exR C t1 none) → Q .none ⟨h', g, d, t, os⟩) : wpAny (model prog w) A (call (.ref u) us) Q E ⟨h, g, d, t, os⟩ := by
  obtain ⟨nm, q, N, bs, bm, sn, sub, ab, col, dd, k0, k1, k2, k3, k5, hC, hbm⟩ := T.cls
  have FB := F.excBase_ValueError
  refine wpAny_call (codeAny_of_tree ?_)
  show wpAny _ A.in1 (callAny (.ref u) ⟨us, []⟩) _ _ _
  simp only [callAny]
  refine wpAny_bind (wpAny_load hu ?_)
  simp only [kxs_mw, show (Value.type "method-wrapper" == Value.type "method" || Value.type "method-wrapper" == Value.type "builtin_function_or_method" || Value.type "method-wrapper" == Value.type "method-wrapper") = true by decide, if_true]
  refine KFB.if_so (by decide) ?_
  refine wpAny_bind (check_bound_init FB.toExcCallFacts (hK _ _ hC) ha rfl ?_)
  refine wpAny_bind (wpAny_pure (wpAny_pure ?_))
  refine ⟨plainId_quiet FB.init.plain _, codeAny_builtin FB.initEntry ?_⟩
  exact exc_init_tree (cls := .ref C) (t0 := t0) (dv := none) (c2 := .none) (c3 := .none) (b4 := .bool false) ha hz fun h' k e _ => hq h' _ k e
theorem sup_ok {fs : List Str} (X : ExI prog K C fs) {q : Str} {scope : Scope} {fI cda cc : Addr} {fd : FuncData} {oc ccl cl : Value} {od cdd cld : Option Addr} {osl ccs csl : Array (Option Value)} {vs : Array Value} {file msg : Str} {tf : Tok} {ar : Arg} {body : List Stmt} {p0 p1 p2 p3 p4 p5 : Pos} {ck : Nat} (hpos : (p2.endLine == p4.line) = true)
    (henv : env = ksEnv q scope L fI (.ref cda) cc) (hf : K.lookup fI = some ⟨oc, od, .func fd, osl⟩) (hp : (fd.params.posonlyargs ++ fd.params.args).head? = some ar) (har : ar.arg = "self")
    (hcode : K.lookup cda = some ⟨ccl, cdd, .fields vs, ccs⟩) (hvs : vs[2]? = some (.str file tf)) (hfile : ((prog.main.file : Str) == file) = true) (hcell : K.lookup cc = some ⟨cl, cld, .cell (some (.ref C)), csl⟩)
    (hks : scope.names.lookup ("super" : Str) = some .globalImplicit) (hkc : scope.names.lookup ("__class__" : Str) = some .free) (hka : scope.names.lookup ("self" : Str) = some .local) (hk : scope.kind = .function) (ms : m "self" = some (.ref a))
    {h : Heap} {g : Array GenState} {d : Drawn} {t : Nat} {os : OsState} {t0 : Addr} {mg mb : Str → Option Value} {Q : Flow → Shared → Prop} (hK : K.In h) (hG : h.Ns mainGlobals mg) (hB : h.Ns builtinsNs mb) (hb : ∀ x : Str, x ≠ "__name__" → mb x = bootBuiltins x)
    (ha : h.get? a = some (exR C t0 none)) (hn : h.Ns L m) (haC : a ≠ C)
    (hq : ∀ h' t' t1, (∀ b o, b ≠ a → h.get? b = some o → h'.get? b = some o) → h'.get? a = some (exR C t1 none) → Q .next ⟨h', g, d, t', os⟩) :
    _root_.PySem.wpAt (model prog w) A (.func body env) (exec (.Expr (.Call (.Attribute (.Call (.Name "super" p0) [] [] p1) "__init__" p2) [.Constant (.str msg) ck p3] [] p4) p5) env) Q E ⟨h, g, d, t, os⟩ := by
  subst henv
  obtain ⟨nm, qq, N, bs, bm, sn, sub, ab, col, dd, k0, k1, k2, k3, k5, hC, hbm⟩ := X.T.cls
  have hcl : clsIn K C = some { name := nm, bases := bs, mro := .ref C :: bm, ns := N, qualname := qq, hasDict := true, slotNames := sn, subclasses := sub, abstract := ab, collection := col, hasDel := false } := by unfold clsIn; rw [hC] <;> rfl
  have hm := X.sup
  unfold ks_superIn at hm
  rw [hcl] at hm
  obtain ⟨pl, he⟩ := he_ok (ksEnv q scope L fI (.ref cda) cc) p0 p1 p2 p3 p4 msg ck hpos
  have hint : interactive (ksEnv q scope L fI (.ref cda) cc) = false := by unfold interactive; rw [show (ksEnv q scope L fI (.ref cda) cc).scope.kind = .function from hk] <;> rfl
  refine ks_wpAt_Expr_any (hi := hint) (ks_wpAt_MethodCall (pl := pl) (he := he) (ks_wpAt_super_base (env := ksEnv q scope L fI (.ref cda) cc) hks hkc (by decide) rfl (hK _ _ hf) rfl hp rfl (hK _ _ hcode) rfl hvs hfile X.top ?_))
  refine ks_loadName_global hk hks (Calls.loadGlobal_builtin (env := ksEnv q scope L fI (.ref cda) cc) hG (mg_none_of hK hG X.sg) hB ((hb _ (by decide)).trans (show bootBuiltins "super" = some (.type "super") by decide +kernel)) ⟨rfl, ?_⟩)
  refine wpAny_loadName_free hk hkc rfl ⟨_, hK _ _ hcell, rfl⟩ ?_
  rw [har]
  refine wpAny_loadName_local hk hka hn ms ?_
  refine ks_wpAny_isType_cls (hK _ _ hC) rfl ⟨rfl, ?_⟩
  refine ks_wpAny_call_super (hK _ _ hC) rfl ha rfl (fun c e => by cases e) (looks_mroIn hK X.mro) (fun h1 e1 k1 => ?_)
  have hK1 : K.In h1 := fun b o e => k1 b o (hK b o e)
  have ha1 := k1 _ _ ha
  have I1 : InstAt h1 a (exR C t0 none) C none := ⟨ha1, rfl, rfl, trivial⟩
  refine kxs_getMethod kxs_ValueError e1 (looks_opaque hK1 X.st) (l₀ := .ref C :: bm) (fun A Q E s k q => wpAny_bind ((looks_clsIn hK1 hcl) A _ E s k (wpAny_pure q))) rfl hK1 hm (I1.type.andThen (looks_subIn hK1 X.sV)) haC (by decide) ?_
  have k2 : ∀ b o, h1.get? b = some o → (h1.push (kxs_mw "ValueError.__init__" a)).get? b = some o := fun b o e => Heap.get?_push_of_some _ e
  refine kxs_callWith (i := "ValueError.__init__") (x := a) rfl (Calls.evalArgs_plain (Calls.spliced_cons (wpAny_Constant_str (k := ck) (pos := p3) (Calls.spliced_nil ⟨Heap.get?_push_at rfl rfl, ?_⟩))))
  refine call_mw (t0 := t0) X.T (fun b o e => k2 _ _ (hK1 b o e)) (Heap.get?_push_at rfl rfl) (k2 _ _ ha1) (by simp; decide) (fun h' t1 k e => ?_)
  exact hq h' _ t1 (fun b o hb e => k b o hb (k2 b o (k1 b o e))) e
end
/-- C(e, ..): an own exception with its fields -/
theorem pmk_exi {X : Cx} {C : Addr} {x f0 : Str} {fs : List Str} {e : Expr} {es : List Expr} {ta : TA} {p pos : Pos} (Fx : ExI X.prog X.K C (f0 :: fs)) (gC : X.mg x = some (.ref C)) (hg : Gl X x) (hr : Room 2 X.A) (ha : PA X (e :: es) ta) (hz : fs.length ≤ 800)
    (hdb : (x == ("__debug__" : Str)) = false) (he : starEach (e :: es) X.env = (false, eval e X.env) :: starEach es X.env) (hpl : (backTo pos (starEach es X.env)).any (·.1) = false) :
    PMk X (.Call (.Name x p) (e :: es) [] pos) (fun σ H Q => ta σ H fun vs H1 => vs.length = (f0 :: fs).length ∧ ∀ d, H1 d = none → Q (.ref C) (some d) (upd H1 d (.xd ((f0 :: fs).zip vs).reverse))) := by
  intro pins s σ H Q I h
  obtain ⟨nm, q, N, bs, bm, sn, sub, ab, col, dd, k0, k1, k2, k3, k5, hC, hbm⟩ := Fx.T.cls
  obtain ⟨fI, cda, cc, name, qual, params, body, scope, dV, kV, doc, pm, ct, oc, an, od, osl, ccl, cdd, avs, ccs, file, tf, cl, cld, csl, ar, iC, tI, lk, hcd, hcode, hvs, hfile, hcell, hb, hsc, hp0, har, bnd⟩ := Fx.fn
  refine wpAny_Call_Name_kw (ld_glob I hg gC ?_ hdb)
  refine callWith_K (h₀ := X.base) I.ok.mod.kin Fx.T.kC (thn (ha.run pos pins s σ H _ I h) fun us s1 ⟨vs, H1, I1, r1, hl, q1⟩ => ⟨I1.kIn, ?_⟩) he hpl
  show wpAny _ _ (call (.ref C) us) _ _ _
  have bare1 := I1.bare
  have bk1 := I1.bk
  obtain ⟨mb, hB, hbb⟩ := I1.mod.blt
  have hG1 := I1.mod.glob.keeps bk1
  have hB1 := hB.keeps bk1
  have lim1 := I1.ok.mod.nolimit.keeps bk1
  obtain ⟨hp, g, dr, tk, os⟩ := s1
  generalize hav : hp.objs.size + 1 = a
  have kk : ∀ b o, hp.get? b = some o → ((hp.push (kdv_tup us)).push (PySem.HandSPX.excO C hp.objs.size)).get? b = some o := fun b o e => Heap.get?_push_of_some _ (Heap.get?_push_of_some _ e)
  have hget : ((hp.push (kdv_tup us)).push (PySem.HandSPX.excO C hp.objs.size)).get? a = some (exR C hp.objs.size none) := by
    subst hav
    heap_get
  have hK0 : X.K.In ((hp.push (kdv_tup us)).push (PySem.HandSPX.excO C hp.objs.size)) := fun b o e => kk _ _ (I1.kIn b o e)
  have hlu : us.length = (f0 :: fs).length := by rw [← r1.length]; exact hl
  have hus : us.length ≤ sizeLine := by have h2 := sizeLine_eq; simp at hlu; omega
  have na : ∀ {b : Addr} {o : Obj}, hp.get? b = some o → b ≠ a := fun {b o} z => Nat.ne_of_lt (Nat.lt_of_lt_of_le (Heap.lt_size z) (hav ▸ Nat.le_succ _))
  unfold iniS at hsc
  simp only [Bool.and_eq_true, decide_eq_true_eq, Bool.not_eq_true', List.all_eq_true, decide_eq_false_iff_not] at hsc
  obtain ⟨⟨⟨⟨⟨⟨⟨s1, s2⟩, s3⟩, s4⟩, s5⟩, s6⟩, s7⟩, s8⟩ := hsc
  have hself : scope.names.lookup ("self" : Str) = some .local ∧ (("self" : Str) == ("__debug__" : Str)) = false := s5 _ (List.mem_cons_self ..)
  unfold iniB at hb
  split at hb
  · rename_i xs' q0 q1' m' p2 msg ck p3 p4 p5 r
    simp only [Bool.and_eq_true, decide_eq_true_eq] at hb
    obtain ⟨⟨⟨hpos, rfl⟩, rfl⟩, hrest⟩ := hb
    refine wpAny_call (PySem.HandSPX.call_own PySem.F.excBase_ValueError (fun Y => PySem.HandSPX.refsVE_contains Y bm hbm) (I1.kIn _ _ hC) (looks_findIn I1.kIn iC) (fun self => bind_fn I1.kIn self tI) hus ?_)
    rw [hav]
    refine ks_codeAny_call_defAt (fd := ksFn name qual params (.Expr (.Call (.Attribute (.Call (.Name "super" q0) [] [] q1') "__init__" p2) [.Constant (.str msg) ck p3] [] p4) p5 :: r) scope dV kV doc pm an (.ref cda) ct cc) (binds := (("self" : Str) :: f0 :: fs).zip (.ref a :: us))
      ?_ (hK0 _ _ lk) rfl (lim1.keeps kk) (codeRec_of hK0 hcd) rfl (by
        have := bnd ⟨(hp.push (kdv_tup us)).push (PySem.HandSPX.excO C hp.objs.size), g, dr, tk, os⟩ (.ref a :: us) hK0 (by simp at hlu ⊢; omega)
        rwa [List.append_nil] at this) (fun y hy => s4 y hy) (fun y hy => (s5 _ (List.of_mem_zip hy).1).1) (fun h₁ hns kp => ?_) s2 s3 s1
    · exact (hr.make C us []).depth
    · have ms : (((("self" : Str) :: f0 :: fs).zip (Value.ref a :: us)).reverse.lookup ("self" : Str)) = some (.ref a) := NdefX.zip_look (i := 0) s8 rfl rfl
      have k0 : ∀ b o, hp.get? b = some o → h₁.get? b = some o := fun b o e => kp b o (kk b o e)
      have hK1 : X.K.In h₁ := fun b o e => kp _ _ (hK0 b o e)
      have haL : a ≠ ((hp.push (kdv_tup us)).push (PySem.HandSPX.excO C hp.objs.size)).objs.size := Nat.ne_of_lt (Heap.lt_size hget)
      have haC : a ≠ C := fun z => na (I1.kIn _ _ hC) z.symm
      refine ks_wpAt_execs_cons (sup_ok (fs := f0 :: fs) (L := ((hp.push (kdv_tup us)).push (PySem.HandSPX.excO C hp.objs.size)).objs.size) (t0 := hp.objs.size) Fx hpos rfl lk hp0 har hcode hvs hfile hcell s6 s7 hself.1 s1 ms hK1 (hG1.keeps k0) (hB1.keeps k0) hbb (kp _ _ hget) hns haC (fun h' t' t1 k e' => ?_))
      refine wpAt_of_wpAny (first_ok (ys := vs) (us := us) (t1 := t1) Fx.T s1 rfl hself.1 ms hrest r1 hl (fun i y u h1 h2 => NdefX.zip_look (i := i + 1) s8 h1 h2) (fun y hy => ⟨Fx.no y hy, s5 _ (List.mem_cons_of_mem _ hy)⟩) (fun b o e => k _ _ (na (I1.kIn _ _ e)) (hK1 _ _ e)) e' (fun o e => na (I1.kIn _ _ e) rfl) (hns.at fun o e => k _ _ (Ne.symm haL) e) haL hz (fun h2 t2 dx mA k2 dn dne hx hn2 rel => ?_))
      have kh : ∀ b o, hp.get? b = some o → h2.get? b = some o := fun b o e => k2 _ _ (na e) (k _ _ (na e) (k0 _ _ e))
      have dn2 : hp.objs.size ≤ dx := Nat.le_trans (hav ▸ Nat.le_succ _) (Nat.le_trans (Nat.le_of_lt (Heap.lt_size e')) dn)
      obtain ⟨G, g1, g2⟩ := restrict h2 fun b => decide (b ≠ a)
      have gk : ∀ b, b ≠ a → G.get? b = h2.get? b := fun b hb => g1 b (decide_eq_true hb)
      have ge : G.get? a = none := g2 a (by simp)
      have hnd : H1 dx = none := I1.hok.fresh dn2
      have hna : H1 a = none := I1.hok.fresh (show hp.objs.size ≤ a from hav ▸ Nat.le_succ _)
      have J := I1.laid (t' := t2) (a := dx) (o := .xd ((f0 :: fs).zip vs).reverse) (h' := G) (fun b u e => (gk b (na e)).trans (kh b u e)) dn2 ⟨mA, hn2.at fun o e => (gk dx dne).trans e, rel⟩
      refine ⟨rfl, a, _, _, _, _, .ref C, some dx, rfl, J, fun b o z => ?_, ge, hx, ⟨rfl, rfl⟩, rfl, rfl, ?_, rfl, bare1, raises_own Fx.T.exC Fx.T.tyC, q1 dx hnd⟩
      · by_cases hba : b = a
        · rw [hba] at z
          exact absurd (z.symm.trans ge) (by simp)
        · exact (gk b hba).symm.trans z
      · rw [upd_ne (Ne.symm dne)]
        exact hna
  · cases hb
end Dv

set_option Elab.async false
set_option linter.all false
set_option maxRecDepth 100000
set_option maxHeartbeats 4000000
namespace PySem.W
open PySem PySem.Spec PySem.Calls PyProof.Rows
section
variable {prog : Program} {w : World} {A : Around} {E : Value → Shared → Prop} {s : Shared} {K : Frag} {x D : Addr} {ox : Obj} {od : Option Obj}
theorem dv_classX {Q : Option Value → Shared → Prop} (hga : findIn K (.ref D) "__getattribute__" = some (some (.builtin "BaseException.__getattribute__"))) (hgt : findIn K (.ref D) "__getattr__" = some none) (hsub : subIn K (.ref D) (.type "BaseException") = some true)
    (hf : findObj K D od "__class__" = some (.bind (.builtin "getset_descriptor.__get__") (.builtin "object.__class__"))) (hm : mroIn K D (.type "object") = some true)
    (X : K.In s.heap) (I : InstAt s.heap x ox D od) (h : Q (some (.ref D)) { s with toks := s.toks + 1 }) : wpAny (model prog w) A (getAttr? (.ref x) "__class__") Q E s := by
  obtain ⟨hp, g, d, t, os⟩ := s
  have L0 := I.type (M := model prog w)
  have L1 := looks_findIn (M := model prog w) X hga
  have L2 := looks_findIn (M := model prog w) X hgt
  have L3 := looks_find (M := model prog w) X I hf
  have sub : Looks (model prog w) hp (isInstance (.ref x) (.type "BaseException")) true := L0.andThen (looks_subIn X hsub)
  have hx0 : (false && onTheHeap (Value.builtin "BaseException.__getattribute__")) = false := rfl
  have hx2 : (Value.builtin "BaseException.__getattribute__" == Value.builtin "object.__getattribute__") = false := by decide +kernel
  have hx1 : (onTheHeap (Value.ref D) && Value.builtin "BaseException.__getattribute__" == Value.builtin "object.__getattribute__") = false := by rw [hx2]; rfl
  unfold getAttr? getAttrBy? getAttrBy
  refine wpAny_bind (wpAny_mkText (wpAny_bind (wpAny_attempt (wpAny_holding (wpAny_bind (L0.at (wpAny_bind (L1.at ?_))))))))
  show wpAny _ _ (if (onTheHeap (Value.ref D) && Value.builtin "BaseException.__getattribute__" == Value.builtin "object.__getattribute__") = true then _ else _) _ _ _
  rw [hx1, if_neg Bool.false_ne_true]
  unfold getAttrByItsOwn hookBefore
  refine wpAny_bind ?_
  rw [if_pos (show onTheHeap (Value.ref D) = true from rfl)]
  refine L2.at ?_
  refine wpAny_bind (wpAny_attempt (wpAny_holding ?_))
  unfold callGetattribute
  rw [hx0, if_neg Bool.false_ne_true]
  unfold boundAndCalled
  rw [PySem.F.excAttr_ValueError.ga.bind (.ref x)]
  refine wpAny_bind (wpAny_pure ?_)
  show wpAny _ _ (call (.builtin "BaseException.__getattribute__") [.ref x, .str "__class__" t]) _ _ _
  refine wpAny_call (codeAny_call_builtin PySem.F.excAttr_ValueError.ga.plain PySem.F.entry_bexc_ga ?_)
  refine @check_slot (model prog w) _ _ ⟨hp, g, d, t + 1, os⟩ "BaseException.__getattribute__" "BaseException" "__getattribute__" (.ref x) [.str "__class__" t] [] _ (by decide +kernel) (by decide +kernel) sub (PySem.F.args_bexc_ga (.ref x) (.str "__class__" t)) ?_
  unfold Builtin.«object.__getattribute__»
  refine wpAny_bind (wpAny_of_eq (a := ((Value.ref x : Value), [Value.str "__class__" t])) (by first | rfl | (simp only [slotArgs]; rfl)) ?_)
  refine wpAny_bind (wpAny_pure (wpAny_bind (L0.at (wpAny_bind (L3.at ?_)))))
  show wpAny _ _ (holding [Value.builtin "object.__class__"] (call (.builtin "getset_descriptor.__get__") [.builtin "object.__class__", .ref x, .ref D]) >>= ret) _ _ _
  refine wpAny_bind (wpAny_holding (wpAny_call (class_get (s := ⟨hp, g, d, t + 1, os⟩) (ox := ox) (od := od) X I hm ?_)))
  refine wpAny_pure ?_
  show wpAny _ _ (handedOut (.ref D)) _ _ _
  rw [handedOut_of (v := .ref D) rfl]
  first
    | exact wpAny_pure (wpAny_pure h)
    | exact wpAny_pure h
    | exact wpAny_pure (wpAny_bind (wpAny_pure (wpAny_pure h)))
theorem dv_kitX (hga : findIn K (.ref D) "__getattribute__" = some (some (.builtin "BaseException.__getattribute__"))) (hgt : findIn K (.ref D) "__getattr__" = some none) (hsub : subIn K (.ref D) (.type "BaseException") = some true) (hdct : hasDictIn K D = true)
    (hf : findObj K D od "__class__" = some (.bind (.builtin "getset_descriptor.__get__") (.builtin "object.__class__"))) (hm : mroIn K D (.type "object") = some true) :
    KitX K (.ref x) (.ref D) (fun h => InstAt h x ox D od) where
  ty := fun _ _ _ I => I.type
  it := fun _ _ X _ => by
    obtain ⟨cdD, hcD, _⟩ := any_some hdct
    unfold clsIn at hcD
    split at hcD
    · rename_i c' d' cd' sl' ho
      intro A' Q' E' s' k q
      unfold isType loadHead
      exact wpAny_bind (wpAny_loadPart (k _ _ (X _ _ ho)) (wpAny_pure q))
    · cases hcD
  ne := fun h tp dd its n sl X htp => by
    obtain ⟨cdD, hcD, _⟩ := any_some hdct
    refine Bool.eq_false_iff.mpr fun q => ?_
    have e : D = tp := Value.ref.inj (beq_iff_eq.mp q)
    subst e
    unfold clsIn at hcD
    split at hcD
    · rename_i c' d' cd' sl' ho
      have z := (X _ _ ho).symm.trans htp
      cases z
    · cases hcD
  ca := fun X I k => dv_classX hga hgt hsub hf hm X I k
end
end PySem.W
namespace Dv
open PySem PySem.Spec PyProof.Rows L2
/-- what an own exception's class says, so that isinstance asks its instances rightly and their fields are read -/
structure XcC (K : PySem.W.Frag) (D : Addr) : Prop where
  hg : PySem.W.findIn K (.ref D) "__getattribute__" = some (some (.builtin "BaseException.__getattribute__"))
  hk : PySem.W.findIn K (.ref D) "__getattr__" = some none
  hs : PySem.W.subIn K (.ref D) (.type "BaseException") = some true
  hd : PySem.W.hasDictIn K D = true
  hc : PySem.W.isClsIn K D = true
  ha : PySem.W.findIn K (.ref D) "__class__" = some (some (.builtin "object.__class__"))
  hn : PySem.W.specialIn K (.builtin "object.__class__") "__get__" = some (some (.builtin "getset_descriptor.__get__"))
  ht : PySem.W.takesIn K (.builtin "object.__class__") = some true
  hm : PySem.W.mroIn K D (.type "object") = some true
/-- isinstance(e, c), isinstance(e, (c, ..)) -/
def rIsX (K : PySem.W.Frag) (D a : Addr) (dd : Addr) : List V → Hp → VK → Prop := fun xs H Q => ∃ (c : V) (b : Bool) (fs : List (Str × V)), xs = [.ref a, c] ∧ H dd = some (.xd fs) ∧
  ((∃ C, c = .ref C ∧ PySem.W.kitOne K (.ref D) (.ref C) = some b) ∨ ∃ p vs, c = .ref p ∧ H p = some (.tup vs) ∧ ∀ its : List Value, Vals vs its → PySem.W.kitAny K (.ref D) its = some b) ∧ Q (.bl b) H
theorem call_isX {X : Cx} {a D dd : Addr} {oe : Obj} {pn : List (Addr × Obj)} (C : XcC X.K D) (hz : Zc (.ref D) (some dd) oe) (hf : ∃ vs, oe.data = .fields vs) : CallR (X.suite a ((a, oe) :: pn)) (.builtin "isinstance") (rIsX X.K D a dd) := by
  intro pins s σ H xs us Q I r h
  obtain ⟨c, b, fs, rfl, hdd, e, q⟩ := h
  cases r with
  | cons rx rr =>
    cases rr with
    | cons rt rr =>
      cases rr
      cases rx
      obtain ⟨hget, _⟩ := I.pin (a, oe) (List.mem_append.mpr (.inl List.mem_cons_self))
      obtain ⟨vs, hv⟩ := hf
      have hx : ObjOk X.prog X.w H s.heap dd (.xd fs) := I.hok dd _ hdd
      obtain ⟨mA, hns, hr⟩ := hx
      obtain ⟨od, ho, hl⟩ := lookIn_ns hns
      have J : PySem.W.InstAt s.heap a oe D (some od) := by
        obtain ⟨oc, odd, oda, osl⟩ := oe
        obtain ⟨h1, h2⟩ := hz
        dsimp only at h1 h2 hv
        subst h1 h2 hv
        exact ⟨hget, rfl, rfl, ho⟩
      have hfo : PySem.W.findObj X.K D (some od) "__class__" = some (.bind (.builtin "getset_descriptor.__get__") (.builtin "object.__class__")) := PySem.W.findObj_data C.hc C.ha C.hn C.ht
      have Zk := PySem.W.dv_kitX (x := a) (ox := oe) (od := some od) C.hg C.hk C.hs C.hd hfo C.hm
      rcases e with ⟨C', rfl, e⟩ | ⟨p, ws, rfl, hp, e⟩
      · cases rt
        exact PySem.W.kia_one Zk I.kIn J e (fun z => nomatch z) fun tk => ⟨.bl b, H, I.kept (t' := tk) fun _ _ z => z, rfl, q⟩
      · cases rt
        obtain ⟨z, its, rv, ht⟩ := I.hok p _ hp
        obtain ⟨⟨oc, odd, oda, osl⟩, hget2, hc2, n, hd2⟩ := ht
        dsimp only at hc2 hd2
        subst hc2 hd2
        exact PySem.W.kia_tup Zk I.kIn J hget2 (e its rv) (fun z => nomatch z) fun tk => ⟨.bl b, H, I.kept (t' := tk) fun _ _ z => z, rfl, q⟩
/-- what is known of an own exception's class -/
structure ErK (prog : Program) (K : PySem.W.Frag) (mg : Str → Option Value) (p : ErC) (D : Addr) : Prop where
  x : ExI prog K D p.fl
  ne : p.fl ≠ []
  ln : p.fl.length ≤ 800
  nd : p.fl.Nodup
  i : XcC K D
  f : XfC K D
  s : ∀ q ∈ p.sub, ∃ C, mg q.1 = some (.ref C) ∧ PySem.W.exmOne K (.ref D) (.ref C) = some q.2 ∧ PySem.W.kitOne K (.ref D) (.ref C) = some q.2
end Dv

set_option Elab.async false
set_option linter.all false
set_option maxRecDepth 100000
set_option maxHeartbeats 1000000
namespace Dv
open PySem PySem.Spec PyProof.Rows L2
/-! ### a def called where an exception is handled -/
abbrev SpS := List V → Hp → VK → Prop
def noE : XK := fun _ _ _ => False
structure FnS (P : Program) (w : World) (K : PySem.W.Frag) (mg : Str → Option Value) (base : Heap) (k : Nat) (fa : Addr) (fd : FuncData) (ps : List Str) (sp : SpS) : Prop where
  len : ∀ vs H Q, sp vs H Q → vs.length = ps.length
  run : ∀ (A : Around) (fr : List Env) (s : Shared) (H : Hp) (args : Args) (us : List Value) (vs : List V) (Q : VK) (q : Addr × Obj), L2H.RoomH k A → L2H.PinOk fr H s q → Env0 P w K mg base A fr s H → BindsTo s fd args (ps.zip us) → Vals vs us → sp vs H Q →
    codeAny (model P w) A (.call (.ref fa) args) (CR (L2.CX P w) fr P w H s Q noE) s
section
variable {P : Program} {w : World} {K : PySem.W.Frag} {mg : Str → Option Value} {base : Heap}
theorem fnS_of {k : Nat} {fa : Addr} {nm qu : Str} {pars : Arguments} {bd : List Stmt} {sc : Scope} {dV kV doc pm cdv ct oc : Value} {an od : Option Addr} {osl : Array (Option Value)} {N ps : List Str} {sp : SpS}
    (lk : K.lookup fa = some ⟨oc, od, .func (PySem.W.fnOf nm qu pars bd sc dV kV doc pm an cdv ct), osl⟩) (hcd : PySem.W.codeIn K cdv qu = true) (S : FnScope N ps sc) (len : ∀ vs H Q, sp vs H Q → vs.length = ps.length)
    (hb : ∀ (A : Around) (fr : List Env) (s : Shared) (H : Hp) (vs : List V) (Q : VK) (q : Addr × Obj), L2H.RoomH k (A.deeper (envOfC qu sc s.heap.objs.size fa cdv)) → sp vs H Q →
      ∃ t, PSs (L2H.cxH (L2.CX P w) P w K mg base N qu sc fa cdv A fr s H noE q) bd t ∧ t { nx := fun _ H' => Q .non H', rt := Q } (L2.start N vs) H) :
    FnS P w K mg base (k + 1) fa (PySem.W.fnOf nm qu pars bd sc dV kV doc pm an cdv ct) ps sp := by
  refine ⟨len, fun A fr s H args us vs Q q hr hq e0 hbi r hsp => ?_⟩
  have kp : ∀ b o, base.get? b = some o → s.heap.get? b = some o := fun b o e => (e0.bs b o e).1
  have inK : K.In s.heap := e0.mod.kin.keeps kp
  have nolim : s.heap.NoLimit := e0.mod.nolimit.keeps kp
  have hk2 : ∀ y ∈ ps.zip us, sc.names.lookup y.1 = some .local ∨ (sc.names.lookup y.1 = some .cell ∧ ((cellsFrom (s.heap.objs.size + 1) sc.names []).lookup y.1).isSome = true) := fun y hy =>
    (S.par y.1 (List.of_mem_zip hy).1).imp id fun z => ⟨z, PySem.W.cellsFrom_some _ _ _ (.inl z)⟩
  refine codeAny_call_function hr.depth (inK _ _ lk) rfl S.co S.gen rfl (PySem.W.codeRec_of inK hcd) (hbi _ _ _ _ (wpAny_newFunctionEnv_cells S.kind hk2 fun env he s1 x => ?_))
  subst he
  obtain ⟨t, ht, htq⟩ := hb A fr s H vs Q q (hr.deeper _) hsp
  have J0 := L2H.inv_startH (CX := L2.CX P w) (E := noE) S hq e0 (len _ _ _ hsp) r x
  refine ⟨nolim.keeps x.toInCall.keep, codeAny_func (wpAny_mono (ht.run [] s1 (L2.start N vs) H _ J0 htq) (fun fl s' hs => ?_) fun _ _ z => z)⟩
  cases fl with
  | next =>
    obtain ⟨σ', H', J, z⟩ := hs
    exact (show CE fr P w H s Q Value.none s' from ⟨V.non, H', J.os, J.bare, J.base, J.hok, rfl, z⟩)
  | ret u =>
    obtain ⟨v, σ', H', J, rv, z⟩ := hs
    exact (show CE fr P w H s Q u s' from ⟨v, H', J.os, J.bare, J.base, J.hok, rv, z⟩)
  | brk => obtain ⟨_, _, _, z⟩ := hs; exact z.elim
  | cont => obtain ⟨_, _, _, z⟩ := hs; exact z.elim
end
section
variable {X : Cx} {k : Nat} {fa : Addr} {fd : FuncData} {ps : List Str} {sp : SpS}
def tCallZ (sp : SpS) (t : TA) : TE := fun σ H Q => t σ H fun vs H1 => sp vs H1 Q
theorem pe_callZ {x : Str} {xp pos : Pos} {e : Expr} {es : List Expr} {t : TA} (F : FnS X.prog X.w X.K X.mg X.base k fa fd ps sp) (hr : L2H.RoomH k X.A) {q : Addr × Obj} (hq : q ∈ X.pn) (hg : Gl X x) (hm : X.mg x = some (.ref fa)) (hk : PySem.W.keepIn X.K (.ref fa) = true) (hb : Binds X.K fd ps [])
    (ha : PA X (e :: es) t) (hdb : (x == ("__debug__" : Str)) = false) (he : starEach (e :: es) X.env = (false, eval e X.env) :: starEach es X.env) (hpl : (backTo pos (starEach es X.env)).any (·.1) = false) :
    PE X (.Call (.Name x xp) (e :: es) [] pos) (tCallZ sp t) := by
  refine ⟨fun pins s σ H Q I h => wpAny_Call_Name_kw (ld_glob I hg hm ?_ hdb)⟩
  refine PySem.W.callWith_K (h₀ := X.base) I.ok.mod.kin hk (thn (ha.run pos pins s σ H _ I h) fun us s1 ⟨vs, H1, I1, r, z⟩ => ⟨I1.kIn, ?_⟩) he hpl
  have hl : us.length = ps.length := by rw [← r.length]; exact F.len _ _ _ z
  have bi := hb s1 us I1.kIn (by rw [List.append_nil]; exact hl)
  rw [List.append_nil] at bi
  have P1 := I1.pin q (List.mem_append_left _ hq)
  have hpin : L2H.PinOk X.stack H1 s1 q := ⟨P1.1, P1.2.1, fun hm => (List.mem_cons.mp (I1.stkSub q.1 hm)).elim P1.2.2.1 P1.2.2.2.1, P1.2.2.2.2⟩
  refine wpAny_call (codeAny_mono (F.run X.A X.stack s1 H1 ⟨us, []⟩ us vs Q q hr hpin I1.env0 bi r z) fun rr s' hz => ?_)
  cases rr with
  | error e =>
    obtain ⟨_, _, _, _, _, _, _, _, _, _, _, _, z⟩ := hz
    exact z.elim
  | ok fl =>
    cases fl with
    | ret u => exact I1.after hz
    | next => exact hz.elim
    | brk => exact hz.elim
    | cont => exact hz.elim
end
/-- .. that asks for an int that is no bool -/
def spInt (K : PySem.W.Frag) : SpS := fun vs H Q => ∃ v, vs = [v] ∧ rIsi K [v, .ty "int"] H fun x H1 => ∃ c, x = .bl c ∧ (if c = true then rIsi K [v, .ty "bool"] H1 (fun y H2 => ∃ d, y = .bl d ∧ Q (.bl (!d)) H2) else Q (.bl false) H1)
def isG (sc : Scope) (x : Str) : Bool := match sc.names.lookup x with
  | some .globalImplicit => true
  | _ => false
def intB (sc : Scope) (x : Str) : List Stmt → Bool
  | [.Return (some (.BoolOp .And [.Call (.Name f _) [.Name a _, .Name t _] [] _, .UnaryOp .Not (.Call (.Name g _) [.Name b _, .Name u _] [] _) _] _)) _] =>
    decide (f = ("isinstance" : Str) ∧ g = ("isinstance" : Str) ∧ a = x ∧ b = x ∧ t = ("int" : Str) ∧ u = ("bool" : Str)) && (isG sc "isinstance" && (isG sc "int" && (isG sc "bool" && (decide (sc.names.lookup x = some .local) && (!(x == ("__debug__" : Str)) && !(x == ("__classdict__" : Str)))))))
  | _ => false
theorem isG_of {X : Cx} {x : Str} (h : isG X.env.scope x = true) : Gl X x := by
  unfold isG at h
  split at h
  · rename_i e; exact e
  · cases h
theorem isInt_ok {P : Program} {w : World} {K : PySem.W.Frag} {mg : Str → Option Value} {base : Heap} {fa : Addr} {nm qu x : Str} {pars : Arguments} {bd : List Stmt} {sc : Scope} {dV kV doc pm cdv ct oc : Value} {an od : Option Addr} {osl : Array (Option Value)}
    (lk : K.lookup fa = some ⟨oc, od, .func (PySem.W.fnOf nm qu pars bd sc dV kV doc pm an cdv ct), osl⟩) (hcd : PySem.W.codeIn K cdv qu = true) (S : FnScope [x] [x] sc) (hb : intB sc x bd = true) (m1 : mg "isinstance" = none) (m2 : mg "int" = none) (m3 : mg "bool" = none) :
    FnS P w K mg base 1 fa (PySem.W.fnOf nm qu pars bd sc dV kV doc pm an cdv ct) [x] (spInt K) := by
  refine fnS_of (k := 0) lk hcd S (fun vs H Q ⟨v, e, _⟩ => by rw [e]; rfl) fun A fr s H vs Q q hr ⟨v, e, z⟩ => ?_
  subst e
  unfold intB at hb
  split at hb
  · rename_i f p1 a p2 t p3 p4 g p5 b p6 u p7 p8 p9 p10 p11
    simp only [Bool.and_eq_true, decide_eq_true_eq, Bool.not_eq_true'] at hb
    obtain ⟨⟨rfl, rfl, ea, eb, rfl, rfl⟩, g1, g2, g3, hl, n1, n2⟩ := hb
    subst ea
    have eb' := eb.symm
    subst eb'
    generalize hX : L2H.cxH (L2.CX P w) P w K mg base [a] qu sc fa cdv A fr s H noE q = X
    have e1 : X.env.scope = sc := by rw [← hX]; rfl
    have e2 : X.mg = mg := by rw [← hX]; rfl
    have e3 : X.N = [a] := by rw [← hX]; rfl
    have e4 : X.K = K := by rw [← hX]; rfl
    rw [← e1] at g1 g2 g3 hl
    rw [← e2] at m1 m2 m3
    have pv : ∀ p, PE X (.Name a p) (tVar 0) := fun p => pe_var (by rw [e3]; rfl) (.inl hl) n1 n2
    have pi : ∀ p, PE X (.Name "int" p) (tC (.ty "int")) := fun p => pe_bltn (isG_of g2) m2 (by decide +kernel) rfl (by decide +kernel) (by decide +kernel)
    have pb : ∀ p, PE X (.Name "bool" p) (tC (.ty "bool")) := fun p => pe_bltn (isG_of g3) m3 (by decide +kernel) rfl (by decide +kernel) (by decide +kernel)
    have c1 := fun p p' p'' p3 => pe_callB (p := p3) (pos := p'') call_isi (isG_of g1) m1 PyProof.Rows.boot_isinstance (pa_cons (pv p) (pa_cons (pi p') pa_nil rfl) rfl) (by decide +kernel) (by decide +kernel) rfl rfl
    have c2 := fun p p' p'' p3 => pe_callB (p := p3) (pos := p'') call_isi (isG_of g1) m1 PyProof.Rows.boot_isinstance (pa_cons (pv p) (pa_cons (pb p') pa_nil rfl) rfl) (by decide +kernel) (by decide +kernel) rfl rfl
    refine ⟨_, pss_one (ps_ret (pe_and (c1 _ _ _ _) (pe_one (pe_not (c2 _ _ _ _))))), ?_⟩
    obtain ⟨y, cc, tt, uu, b1, e5, k1, k2, k3, cb, e6, z⟩ := z
    cases e5
    cases e6
    refine ⟨v, rfl, _, _, tt, uu, b1, rfl, k1, by rw [e4]; exact k2, by rw [e4]; exact k3, b1, rfl, ?_⟩
    cases b1 with
    | false => exact z
    | true =>
      rw [if_pos rfl] at z ⊢
      refine ⟨v, rfl, ?_⟩
      rw [e4]
      exact z
  · cases hb
/-- a def at hand that asks so -/
def HotK (P : Program) (w : World) (K : PySem.W.Frag) (mg : Str → Option Value) (base : Heap) (f : Str) : Prop := ∃ (fa : Addr) (fd : FuncData) (x : Str), FnS P w K mg base 1 fa fd [x] (spInt K) ∧ mg f = some (.ref fa) ∧ PySem.W.keepIn K (.ref fa) = true ∧ Binds K fd [x] []
end Dv

set_option Elab.async false
set_option linter.all false
set_option maxRecDepth 100000
namespace Dv
open PySem PySem.Spec PyProof.Rows L2

/-! ### the text is what the tree says -/
/-- what is known of a module: free names, names of built-in functions, defs (parameters, least arguments); the number of parameters of the def at hand -/
structure Gn where
  free : List Str
  bt : List (Str × String)
  fs : List (Str × Nat × Nat)
  ec : List ErC := []
  hi : List Str := []
structure Env1 (X : Cx) (T : Tc) (F : Fn) (Z : WX) (G : Gn) (np : Nat) : Prop where
  tk : T.K = X.K
  calm : X.calm = true
  nd : X.N.Nodup
  hu : X.A.units + 65 < cLine
  glo : ∀ x d, F.glo x = some d → ∃ u v, X.mg x = some u ∧ RelV v u ∧ ∀ H W, RepD X.K H W v d
  free : ∀ x ∈ G.free, X.mg x = none
  bt : ∀ p ∈ G.bt, X.mg p.1 = some (.builtin p.2)
  fs : ∀ p ∈ G.fs, Callee X F p.1 p.2.1 p.2.2
  tz : Takes X Z
  bm : ∀ i a, T.bm i = some a → i < np
  ec : ∀ p ∈ G.ec, ∃ D, X.mg p.nm = some (.ref D) ∧ ErK X.prog X.K X.mg p D
  rm : G.ec ≠ [] → Room 2 X.A
  hi : ∀ f ∈ G.hi, HotK X.prog X.w X.K X.mg X.base f
  rh : G.hi ≠ [] → L2H.RoomH 1 X.A
def isVis (sc : Scope) (x : Str) : Bool := match sc.names.lookup x with
  | some .local => true
  | some .cell => true
  | some .free => true
  | _ => false
def isLoc (sc : Scope) (x : Str) : Bool := match sc.names.lookup x with
  | some .local => true
  | some .cell => true
  | _ => false
def isGl (sc : Scope) (x : Str) : Bool := match sc.names.lookup x with
  | some .globalImplicit => true
  | _ => false
def okName (x : Str) : Bool := !(x == ("__debug__" : Str)) && !(x == ("__classdict__" : Str)) && !(x == ("__name__" : Str))
def notStar : Expr → Bool
  | .Starred _ _ => false
  | _ => true
def notSlice : Expr → Bool
  | .Slice _ _ _ _ => false
  | _ => true
def notSet : Expr → Bool
  | .Set _ _ _ => false
  | _ => true
/-- an expression whose test is its value's truth -/
def plainTest : Expr → Bool
  | .UnaryOp .Not _ _ => false
  | .BoolOp _ _ _ => false
  | .IfExp _ _ _ _ => false
  | .Compare _ _ _ _ => false
  | _ => true
def notSuper : Expr → Bool
  | .Call _ _ _ _ => false
  | _ => true
def isName (x : Str) : Expr → Bool
  | .Name y _ => decide (x = y)
  | _ => false
def cstOk : D → Const → Bool
  | .int i, .int j => decide (i = j)
  | .bl b, .bool c => b == c
  | .non, .none => true
  | .str x, .str y => decide (x = y)
  | _, _ => false
def opEq : Operator → Operator → Bool
  | .Add, .Add => true | .Sub, .Sub => true | .Mult, .Mult => true | .FloorDiv, .FloorDiv => true | .Mod, .Mod => true | .Pow, .Pow => true | .LShift, .LShift => true
  | _, _ => false
def cmEq : CmpOp → CmpOp → Bool
  | .Eq, .Eq => true | .NotEq, .NotEq => true | .Lt, .Lt => true | .LtE, .LtE => true | .Gt, .Gt => true | .GtE, .GtE => true | .Is, .Is => true | .IsNot, .IsNot => true | .In, .In => true | .NotIn, .NotIn => true
  | _, _ => false
def Bl.nm : Bl → Str
  | .len => "len" | .abs => "abs" | .int => "int" | .tuple => "tuple" | .list => "list" | .all => "all" | .any => "any" | .sum => "sum" | .gcd => "gcd" | .min2 => "min" | .max2 => "max" | .str => "str"
def Ty.sn : Ty → Str
  | .tup => "tuple" | .lst => "list" | .int => "int" | .str => "str" | .bool => "bool"
def ckTg (N : List Str) (sc : Scope) : Tg → Expr → Bool
  | .nm i, .Name x _ => decide (N[i]? = some x) && isLoc sc x
  | .tp l, .Tuple es _ _ => l.length == es.length && (l.zip es).all fun p => match p.2 with
    | .Name x _ => decide (N[p.1]? = some x) && isLoc sc x
    | _ => false
  | _, _ => false

def asCall : Expr → Option (Str × List Expr)
  | .Call (.Name x _) l [] _ => some (x, l)
  | _ => none
def isTup : Expr → Bool
  | .Tuple _ _ _ => true
  | _ => false
def ckB (G : Gn) (b : Bl) (x : Str) : Bool := match b with
  | .gcd => decide ((x, "math.gcd") ∈ G.bt)
  | _ => decide (x ∈ G.free)
mutual
def ckE (G : Gn) (N : List Str) (np : Nat) (sc : Scope) : Ex → Expr → Bool
  | .var i, .Name x _ => decide (N[i]? = some x) && isVis sc x && okName x
  | .cst d, .Constant c _ _ => cstOk d c
  | .glo x, .Name y _ => decide (x = y) && isGl sc x && okName x
  | .bin op a b, .BinOp a' op' b' _ => opEq op op' && ckE G N np sc a a' && ckE G N np sc b b'
  | .neg a, .UnaryOp .USub a' _ => ckE G N np sc a a'
  | .cmp op a b, .Compare a' [op'] [b'] _ => cmEq op op' && notSet b' && ckE G N np sc a a' && ckE G N np sc b b'
  | .chn op o2 a b c, .Compare a' [op', o2'] [b', c'] _ => cmEq op op' && cmEq o2 o2' && notSet c' && ckE G N np sc a a' && ckE G N np sc b b' && ckE G N np sc c c'
  | .and_ l, .BoolOp .And l' _ => !l'.isEmpty && ckEs G N np sc l l'
  | .or_ l, .BoolOp .Or l' _ => !l'.isEmpty && ckEs G N np sc l l'
  | .not_ a, .UnaryOp .Not a' _ => ckE G N np sc a a'
  | .ite c a b, .IfExp c' a' b' _ => ckT G N np sc c c' && ckE G N np sc a a' && ckE G N np sc b b'
  | .tup l, .Tuple l' _ _ => ckEs G N np sc l l'
  | .lst l, .List l' _ => ckEs G N np sc l l'
  | .idx a b, .Subscript a' b' _ => notSlice b' && ckE G N np sc a a' && ckE G N np sc b b'
  | .slc a lo hi, .Subscript a' (.Slice lo' hi' none _) _ => ckE G N np sc a a' && ckO G N np sc lo lo' && ckO G N np sc hi hi'
  | .call f l, .Call (.Name x _) l' [] _ => decide (f = x) && isGl sc x && okName x && (G.fs.any fun p => decide (p.1 = f) && decide (p.2.2 ≤ l'.length) && decide (l'.length ≤ p.2.1)) && ckEs G N np sc l l'
  | .blt b l, .Call (.Name x _) l' [] _ => decide (x = b.nm) && isGl sc x && ckB G b x && !l'.isEmpty && ckEs G N np sc l l'
  | .isi t a, e' => (match asCall e' with
    | some (x, [a', .Name y _]) => decide (x = "isinstance") && isGl sc x && decide (y = t.sn) && isGl sc y && decide (x ∈ G.free) && decide (y ∈ G.free) && notStar a' && ckE G N np sc a a'
    | _ => false)
  | .met m o l, .Call (.Attribute o' x apos) l' [] pos => decide (x = m.nm) && notSuper o' && apos.endLine == pos.line && !l'.isEmpty && decide (l'.length < 28) && ckE G N np sc o o' && ckEs G N np sc l l'
  | .chg m i l, .Call (.Attribute (.Name y _) x apos) l' [] pos => decide (x = m.nm) && decide (N[i]? = some y) && isVis sc y && okName y && apos.endLine == pos.line && decide (l'.length < 28) && (match m, l' with
    | .pop, [] => true
    | .pop, _ => false
    | _, [] => false
    | _, _ => true) && ckEs G N np sc l l'
  | .comp elt tg it ifs own, .ListComp elt' [⟨tg', it', ifs', as⟩] scope _ => decide (as = 0) && ckI G N np sc it it' tg' && notSet it' && blkC N sc scope (own.map fun i => (N.getD i ⟨#[]⟩, i)) && (own.all fun i => decide (np ≤ i)) && ((tgs tg).all fun i => decide (i ∈ own)) &&
      ckTg N scope tg tg' && ckC G N np (relS scope sc) ifs ifs' && ckE G N np (relS scope sc) elt elt'
  | _, _ => false
def ckEs (G : Gn) (N : List Str) (np : Nat) (sc : Scope) : Exs → List Expr → Bool
  | .nil, [] => true
  | .cons e l, e' :: l' => notStar e' && ckE G N np sc e e' && ckEs G N np sc l l'
  | _, _ => false
def ckO (G : Gn) (N : List Str) (np : Nat) (sc : Scope) : Eo → Option Expr → Bool
  | .none, none => true
  | .some e, some e' => ckE G N np sc e e'
  | _, _ => false
def ckT (G : Gn) (N : List Str) (np : Nat) (sc : Scope) : Tx → Expr → Bool
  | .val e, e' => plainTest e' && ckE G N np sc e e'
  | .cmp op a b, .Compare a' [op'] [b'] _ => cmEq op op' && notSet b' && ckE G N np sc a a' && ckE G N np sc b b'
  | .chn op o2 a b c, .Compare a' [op', o2'] [b', c'] _ => cmEq op op' && cmEq o2 o2' && notSet c' && ckE G N np sc a a' && ckE G N np sc b b' && ckE G N np sc c c'
  | .and_ l, .BoolOp .And l' _ => !l'.isEmpty && ckTs G N np sc l l'
  | .or_ l, .BoolOp .Or l' _ => !l'.isEmpty && ckTs G N np sc l l'
  | .not_ t, .UnaryOp .Not t' _ => ckT G N np sc t t'
  | _, _ => false
def ckTs (G : Gn) (N : List Str) (np : Nat) (sc : Scope) : Txs → List Expr → Bool
  | .nil, [] => true
  | .cons e l, e' :: l' => ckT G N np sc e e' && ckTs G N np sc l l'
  | _, _ => false
def ckC (G : Gn) (N : List Str) (np : Nat) (sc : Scope) : To → List Expr → Bool
  | .none, [] => true
  | .some t, [t'] => ckT G N np sc t t'
  | _, _ => false
def ckI (G : Gn) (N : List Str) (np : Nat) (sc : Scope) : Ie → Expr → Expr → Bool
  | .seq e, e', _ => ckE G N np sc e e'
  | .rng a, e', _ => (match asCall e' with
    | some (x, [a']) => decide (x = "range") && isGl sc x && decide (x ∈ G.free) && notStar a' && ckE G N np sc a a'
    | _ => false)
  | .rng2 a b, e', _ => (match asCall e' with
    | some (x, [a', b']) => decide (x = "range") && isGl sc x && decide (x ∈ G.free) && notStar a' && notStar b' && ckE G N np sc a a' && ckE G N np sc b b'
    | _ => false)
  | .enm e, e', tg' => isTup tg' && (match asCall e' with
    | some (x, [a']) => decide (x = "enumerate") && isGl sc x && decide (x ∈ G.free) && notStar a' && ckE G N np sc e a'
    | _ => false)
  | .zip l, e', tg' => isTup tg' && (match asCall e' with
    | some (x, l') => decide (x = "zip") && isGl sc x && decide (x ∈ G.free) && l'.length == 2 && ckEs G N np sc l l'
    | _ => false)
end
end Dv

set_option Elab.async false
set_option linter.all false
set_option maxRecDepth 100000
namespace Dv
open PySem PySem.Spec PyProof.Rows L2

section
variable {X : Cx} {Z : WX} {T : Tc} {F : Fn} {G : Gn} {np : Nat} {σ σ' : Sg} {H H0 H1 H2 H' : Hp} {ρ ρ1 ρ2 ρ' ρf ρb ρq : Env'} {W W1 W2 W' : AS} {K : PySem.W.Frag} {ds : List D} {sc : Scope} {N : List Str}
theorem and2 {a b : Bool} (h : (a && b) = true) : a = true ∧ b = true := Bool.and_eq_true_iff.mp h
theorem not_f {a : Bool} (h : (!a) = true) : a = false := by cases a <;> simp_all
theorem vis_of {x : Str} (h : isVis sc x = true) : Vis sc x := by
  unfold isVis at h
  split at h <;> first | (rename_i e; exact .inl e) | (rename_i e; exact .inr (.inl e)) | (rename_i e; exact .inr (.inr e)) | cases h
theorem gl_of {x : Str} (h : isGl X.env.scope x = true) : Gl X x := by
  unfold isGl at h
  split at h
  · rename_i e; exact e
  · cases h
theorem name_of {x : Str} (h : okName x = true) : (x == ("__debug__" : Str)) = false ∧ (x == ("__classdict__" : Str)) = false ∧ x ≠ "__name__" := by
  obtain ⟨h1, h2⟩ := and2 h
  obtain ⟨h3, h4⟩ := and2 h1
  exact ⟨not_f h3, not_f h4, fun e => by rw [e] at h2; exact absurd (not_f h2) (by decide +kernel)⟩
theorem star_of {a : Expr} {l : List Expr} {env : Env} (h : notStar a = true) : starEach (a :: l) env = (false, eval a env) :: starEach l env := by
  cases a <;> first | rfl | cases h
theorem stars_of : ∀ {l : List Expr} {env : Env}, (∀ a ∈ l, notStar a = true) → starEach l env = l.map fun a => (false, eval a env)
  | [], _, _ => rfl
  | a :: l, env, h => by rw [star_of (h a List.mem_cons_self), stars_of fun b hb => h b (List.mem_cons_of_mem _ hb)]; rfl
theorem plain_of {l : List Expr} {env : Env} {pos : Pos} (h : ∀ a ∈ l, notStar a = true) : (backTo pos (starEach l env)).any (·.1) = false := by
  rw [stars_of h]
  unfold backTo
  induction l with
  | nil => rfl
  | cons a l ih =>
    rw [List.map_cons, List.map_cons, List.any_cons, ih fun b hb => h b (List.mem_cons_of_mem _ hb)]
    rfl
theorem few_of {l : List Expr} {env : Env} {pos : Pos} (h : ∀ a ∈ l, notStar a = true) (hl : l.length < 28) :
    ((backTo pos (starEach l env)).all (fun x => !x.1) && (backToKw pos (keywordEach [] env)).all (fun x => x.1.isSome) && decide (l.length + ([] : List Keyword).length + (if ([] : List Keyword).isEmpty then 0 else 1) < 30)) = true := by
  have h1 : (backTo pos (starEach l env)).all (fun x => !x.1) = true := by
    have := plain_of (env := env) (pos := pos) h
    rw [List.all_eq_not_any_not]
    simp only [Bool.not_not]
    rw [this]; rfl
  rw [h1]
  have h2 : (backToKw pos (keywordEach [] env)).all (fun x => x.1.isSome) = true := rfl
  rw [h2]
  simp
  omega
theorem ckEs_star : ∀ {l : Exs} {l' : List Expr}, ckEs G N np sc l l' = true → ∀ a ∈ l', notStar a = true
  | .nil, [], _, _, h => by cases h
  | .cons e l, e' :: l', h, a, ha => by
    obtain ⟨h1, h2⟩ := and2 h
    obtain ⟨h3, h4⟩ := and2 h1
    rcases List.mem_cons.mp ha with rfl | ha
    · exact h3
    · exact ckEs_star h2 a ha
  | .nil, _ :: _, h, _, _ => by cases h
  | .cons _ _, [], h, _, _ => by cases h
theorem evs_length : ∀ {l : Exs} {l' : List Expr} {ρ : Env'} {ps : List P} {ρ' : Env'}, ckEs G N np sc l l' = true → evs F l ρ = .ok (ps, ρ') → ps.length = l'.length
  | .nil, [], _, _, _, _, e => by cases e; rfl
  | .cons e l, e' :: l', ρ, ps, ρ', h, q => by
    obtain ⟨h1, h2⟩ := and2 h
    obtain ⟨⟨p, ρ1⟩, e1, q⟩ := bind_ok (show (ev F e ρ).bind (fun r => (evs F l r.2).bind fun q => .ok (r.1 :: q.1, q.2)) = .ok (ps, ρ') from q)
    obtain ⟨⟨ps2, ρ2⟩, e2, q⟩ := bind_ok q
    cases q
    rw [List.length_cons, List.length_cons, evs_length h2 e2]
  | .nil, _ :: _, _, _, _, h, _ => by cases h
  | .cons _ _, [], _, _, _, h, _ => by cases h
theorem true_of {a : Expr} {env : Env} (h : plainTest a = true) : ∀ whole, isTrue a env whole = (do let v ← whole; standAt a.pos; holding [v] (truthy v)) := by
  cases a with
  | UnaryOp op x p => cases op <;> first | (intro _; rfl) | cases h
  | _ => first | (intro _; rfl) | cases h
theorem base_of {a : Expr} {n : Str} {env : Env} (h : notSuper a = true) : attributeBase a n env (eval a env) = eval a env := by
  cases a <;> first | rfl | cases h
theorem marks_of {b : Expr} {op : CmpOp} (h : notSet b = true) : behindInMarks op b = false := by
  cases b <;> first | rfl | cases h
theorem fold_of {a : Expr} {env : Env} (h : notSet a = true) : ∀ x, foldedSetIterable a env x = pure x := by
  cases a <;> first | (intro _; rfl) | cases h
theorem ix_of {b : Expr} (h : notSlice b = true) : PlainIx b := by
  cases b <;> first | (intro _ _; rfl) | cases h
theorem cm_of {a b : CmpOp} (h : cmEq a b = true) : a = b := by cases a <;> cases b <;> first | rfl | cases h
theorem op_of {a b : Operator} (h : opEq a b = true) : a = b := by cases a <;> cases b <;> first | rfl | cases h

/-- a comprehension's block -/
theorem Env1.blk (E : Env1 X T F Z G np) (s : Shared) (H : Hp) (scope : Scope) (cenv : Env) (fp : List Addr) : Env1 (X.blk s H scope cenv fp) T F Z0 G np :=
  ⟨E.tk, E.calm, E.nd, E.hu, E.glo, E.free, E.bt, fun p hp => ⟨(E.fs p hp).ex⟩, takes0, E.bm, E.ec, E.rm, E.hi, E.rh⟩
/-- the targets -/
theorem tg_ok (hc : X.calm = true) (hN : X.N.Nodup) {tg : Tg} {tg' : Expr} (hl : ∀ x, isLoc sc x = true → Loc X.env.scope x ∧ (X.fn x = true ∨ X.env.scope.names.lookup x = some .local)) (h : ckTg X.N sc tg tg' = true) : PG X tg' (gT X.K tg) := by
  cases tg with
  | nm i =>
    cases tg' with
    | Name x pos =>
      obtain ⟨h1, h2⟩ := and2 h
      obtain ⟨a, b⟩ := hl x h2
      exact pg_name hN (of_decide_eq_true h1) a b
    | _ => cases h
  | tp l =>
    cases tg' with
    | Tuple es k pos =>
      obtain ⟨h1, h2⟩ := and2 h
      have key : ∀ {l : List Nat} {es : List Expr}, l.length = es.length → ((l.zip es).all fun p => match p.2 with
          | .Name x _ => decide (X.N[p.1]? = some x) && isLoc sc x
          | _ => false) = true → PGs X es (gNames l) ∧ (assignEach es X.env).length = l.length ∧ (assignEach es X.env).findIdx? (·.1) = none := by
        intro l
        induction l with
        | nil =>
          intro es e _
          cases es with
          | nil => exact ⟨pgs_nil, rfl, rfl⟩
          | cons _ _ => cases e
        | cons i l ih =>
          intro es e h
          cases es with
          | nil => cases e
          | cons a es =>
            rw [List.zip_cons_cons, List.all_cons] at h
            obtain ⟨h1, h2⟩ := and2 h
            obtain ⟨q1, q2, q3⟩ := ih (by simpa using e) h2
            cases a with
            | Name x p =>
              obtain ⟨h3, h4⟩ := and2 h1
              obtain ⟨a, b⟩ := hl x h4
              refine ⟨pgs_cons (pg_name hN (of_decide_eq_true h3) a b) q1, ?_, ?_⟩
              · show (assignEach es X.env).length + 1 = l.length + 1
                rw [q2]
              · show ((false, _) :: assignEach es X.env).findIdx? (·.1) = none
                rw [List.findIdx?_cons, q3]
                rfl
            | _ => cases h1
      obtain ⟨q1, q2, q3⟩ := key (by simpa using h1) h2
      exact pg_tup hc q1 q2 q3
    | _ => cases h
theorem bl_name (b : Bl) (ng : b ≠ .gcd) : (∃ id, b.f = .builtin id ∧ bootBuiltins b.nm = some (.builtin id)) ∨ ∃ t, b.f = .type t ∧ bootBuiltins b.nm = some (.type t) := by
  cases b with
  | gcd => exact absurd rfl ng
  | int => exact .inr ⟨_, rfl, by decide +kernel⟩
  | tuple => exact .inr ⟨_, rfl, by decide +kernel⟩
  | list => exact .inr ⟨_, rfl, by decide +kernel⟩
  | str => exact .inr ⟨_, rfl, by decide +kernel⟩
  | _ => exact .inl ⟨_, rfl, by decide +kernel⟩
theorem bl_ok_name (b : Bl) : okName b.nm = true := by
  cases b <;> decide +kernel
theorem ty_ok_name (b : Ty) : okName b.sn = true := by cases b <;> decide +kernel
theorem ty_boot (b : Ty) : bootBuiltins b.sn = some (.type b.nm) := by cases b <;> decide +kernel
theorem Mm.facts : ∀ m : Mm, Slot "list" m.nm m.id ∧ typeOf (.builtin m.id) = pure (.type "method_descriptor") := fun m => by
  cases m with
  | append => exact ⟨PySem.F.slot_list_append, PySem.F.type_list_append⟩
  | pop => exact ⟨PySem.F.slot_list_pop, PySem.F.type_list_pop⟩
  | popAt => exact ⟨PySem.F.slot_list_pop, PySem.F.type_list_pop⟩
  | insert => exact ⟨PySem.F.slot_list_insert, PySem.F.type_list_insert⟩
theorem Me.facts : ∀ m : Me, PlainAttrs m.ty ∧ Slot m.ty m.nm m.id ∧ typeOf (.builtin m.id) = pure (.type "method_descriptor") := fun m => by
  cases m with
  | join => exact ⟨PySem.F.plainAttrs_str, PySem.F.slot_str_join, PySem.F.type_str_join⟩
  | split => exact ⟨PySem.F.plainAttrs_str, PySem.F.slot_str_split, PySem.F.type_str_split⟩
  | index => exact ⟨PySem.F.plainAttrs_list, PySem.F.slot_list_index, PySem.F.type_list_index⟩
theorem asCall_of {e : Expr} {x : Str} {l : List Expr} (h : asCall e = some (x, l)) : ∃ p pos, e = .Call (.Name x p) l [] pos := by
  unfold asCall at h
  split at h
  · cases h; exact ⟨_, _, rfl⟩
  · cases h
/-- a call of a built-in by its name -/
theorem call_bl {E : Env1 X T F Z G np} {b : Bl} {x : Str} {p pos : Pos} {e' : Expr} {l' : List Expr} {t : TA} (hx : x = b.nm) (hg : isGl X.env.scope x = true) (hb : ckB G b x = true) (ha : PA X (e' :: l') t) (st : ∀ a ∈ e' :: l', notStar a = true) :
    PE X (.Call (.Name x p) (e' :: l') [] pos) (tCB (rBl X.K b) t) := by
  subst hx
  obtain ⟨n1, n2, n3⟩ := name_of (bl_ok_name b)
  have he : starEach (e' :: l') X.env = (false, eval e' X.env) :: starEach l' X.env := star_of (st e' List.mem_cons_self)
  have hpl : (backTo pos (starEach l' X.env)).any (·.1) = false := plain_of fun a h => st a (List.mem_cons_of_mem _ h)
  have cr := cr_bl (X := X) E.calm b
  have hm : if b = .gcd then (b.nm, "math.gcd") ∈ G.bt else b.nm ∈ G.free := by
    cases b with
    | gcd => rw [if_pos rfl]; exact of_decide_eq_true hb
    | _ => rw [if_neg (by intro z; cases z)]; exact of_decide_eq_true hb
  by_cases eg : b = .gcd
  · subst eg
    rw [if_pos rfl] at hm
    exact pe_callBfun cr (gl_of hg) (E.bt _ hm) ha n1 he hpl
  · rw [if_neg eg] at hm
    rcases bl_name b eg with ⟨id, h1, h2⟩ | ⟨id, h1, h2⟩
    · rw [h1] at cr
      exact pe_callB cr (gl_of hg) (E.free _ hm) h2 ha n3 n1 he hpl
    · rw [h1] at cr
      exact pe_callTy cr (gl_of hg) (E.free _ hm) h2 ha n3 n1 he hpl
end
end Dv

set_option Elab.async false
set_option linter.all false
set_option maxRecDepth 100000
set_option maxHeartbeats 4000000
namespace Dv
open PySem PySem.Spec PyProof.Rows L2

section
variable {T : Tc} {F : Fn} {G : Gn} {np : Nat}
theorem cst_ok {X : Cx} {d : D} {c : Const} {k : Nat} {pos : Pos} (h : cstOk d c = true) : ∃ v, PE X (.Constant c k pos) (tC v) ∧ ∀ H W, RepD X.K H W v d := by
  cases d with
  | int i =>
    cases c with
    | int j => rw [of_decide_eq_true h]; exact ⟨_, pe_int, fun _ _ => rfl⟩
    | _ => first | cases h | simp [ckE, ckI, ckT, ckC] at h
  | bl b =>
    cases c with
    | bool j => rw [eq_of_beq h]; exact ⟨_, pe_bl, fun _ _ => rfl⟩
    | _ => first | cases h | simp [ckE, ckI, ckT, ckC] at h
  | non =>
    cases c with
    | none => exact ⟨_, pe_non, fun _ _ => rfl⟩
    | _ => first | cases h | simp [ckE, ckI, ckT, ckC] at h
  | str x =>
    cases c with
    | str y => rw [of_decide_eq_true h]; exact ⟨_, pe_str, fun _ _ => rfl⟩
    | _ => first | cases h | simp [ckE, ckI, ckT, ckC] at h
  | _ => cases c <;> cases h

mutual
theorem snd_E : ∀ (e : Ex) {X : Cx} {Z : WX} (E : Env1 X T F Z G np) {e' : Expr}, ckE G X.N np X.env.scope e e' = true → PE X e' (tE X T F Z e)
  | .var i, X, Z, E, e', h => by
    cases e' with
    | Name x p =>
      obtain ⟨h1, h2⟩ := and2 h
      obtain ⟨h3, h4⟩ := and2 h1
      obtain ⟨n1, n2, n3⟩ := name_of h2
      exact s_var (pe_var (of_decide_eq_true h3) (vis_of h4) n1 n2)
    | _ => first | cases h | simp [ckE, ckI, ckT, ckC] at h
  | .cst d, X, Z, E, e', h => by
    cases e' with
    | Constant c k p =>
      obtain ⟨v, p, q⟩ := cst_ok (X := X) (k := k) (pos := p) h
      exact s_cst d v _ p (by rw [E.tk]; exact q)
    | _ => first | cases h | simp [ckE, ckI, ckT, ckC] at h
  | .glo x, X, Z, E, e', h => by
    cases e' with
    | Name y p =>
      obtain ⟨h1, h2⟩ := and2 h
      obtain ⟨h3, h4⟩ := and2 h1
      obtain ⟨n1, n2, n3⟩ := name_of h2
      have hx : x = y := of_decide_eq_true h3
      subst hx
      refine s_glo fun d hd => ?_
      obtain ⟨u, v, m, r, q⟩ := E.glo x d hd
      exact ⟨v, pe_glob (gl_of h4) m r n1, by rw [E.tk]; exact q⟩
    | _ => first | cases h | simp [ckE, ckI, ckT, ckC] at h
  | .bin op a b, X, Z, E, e', h => by
    cases e' with
    | BinOp a' op' b' p =>
      obtain ⟨h1, h2⟩ := and2 h
      obtain ⟨h3, h4⟩ := and2 h1
      have ho : op = op' := op_of h3
      subst ho
      exact s_bin E.tk (snd_E a E h4) (snd_E b E h2)
    | _ => first | cases h | simp [ckE, ckI, ckT, ckC] at h
  | .neg a, X, Z, E, e', h => by
    cases e' with
    | UnaryOp op a' p =>
      cases op with
      | USub => exact s_neg (snd_E a E h)
      | _ => first | cases h | simp [ckE, ckI, ckT, ckC] at h
    | _ => first | cases h | simp [ckE, ckI, ckT, ckC] at h
  | .cmp op a b, X, Z, E, e', h => by
    cases e' with
    | Compare a' ops bs p =>
      rcases ops with _ | ⟨op', _ | ⟨o2, r⟩⟩
      · first | cases h | simp [ckE, ckI, ckT, ckC] at h
      · rcases bs with _ | ⟨b', _ | ⟨c', r⟩⟩
        · first | cases h | simp [ckE, ckI, ckT, ckC] at h
        · obtain ⟨h1, h2⟩ := and2 h
          obtain ⟨h3, h4⟩ := and2 h1
          obtain ⟨h5, h6⟩ := and2 h3
          have ho : op = op' := cm_of h5
          subst ho
          exact s_cmp E.tk E.hu (marks_of h6) (snd_E a E h4) (snd_E b E h2)
        · first | cases h | simp [ckE, ckI, ckT, ckC] at h
      · first | cases h | simp [ckE, ckI, ckT, ckC] at h
    | _ => first | cases h | simp [ckE, ckI, ckT, ckC] at h
  | .chn op o2 a b c, X, Z, E, e', h => by
    cases e' with
    | Compare a' ops bs p =>
      rcases ops with _ | ⟨op', _ | ⟨o2', _ | ⟨_, _⟩⟩⟩
      · first | cases h | simp [ckE, ckI, ckT, ckC] at h
      · first | cases h | simp [ckE, ckI, ckT, ckC] at h
      · rcases bs with _ | ⟨b', _ | ⟨c', _ | ⟨_, _⟩⟩⟩
        · first | cases h | simp [ckE, ckI, ckT, ckC] at h
        · first | cases h | simp [ckE, ckI, ckT, ckC] at h
        · obtain ⟨h1, h2⟩ := and2 h
          obtain ⟨h3, h4⟩ := and2 h1
          obtain ⟨h5, h6⟩ := and2 h3
          obtain ⟨h7, h8⟩ := and2 h5
          obtain ⟨h9, h10⟩ := and2 h7
          have ho : op = op' := cm_of h9
          have ho2 : o2 = o2' := cm_of h10
          subst ho ho2
          exact s_chn E.tk E.hu (marks_of h8) (snd_E a E h6) (snd_E b E h4) (snd_E c E h2)
        · first | cases h | simp [ckE, ckI, ckT, ckC] at h
      · first | cases h | simp [ckE, ckI, ckT, ckC] at h
    | _ => first | cases h | simp [ckE, ckI, ckT, ckC] at h
  | .and_ l, X, Z, E, e', h => by
    cases e' with
    | BoolOp op l' p =>
      cases op with
      | And =>
        obtain ⟨h1, h2⟩ := and2 h
        cases l' with
        | nil => cases h1
        | cons a' r => exact s_and ((snd_Bs l E h2).1 p)
      | Or => cases h
    | _ => first | cases h | simp [ckE, ckI, ckT, ckC] at h
  | .or_ l, X, Z, E, e', h => by
    cases e' with
    | BoolOp op l' p =>
      cases op with
      | Or =>
        obtain ⟨h1, h2⟩ := and2 h
        cases l' with
        | nil => cases h1
        | cons a' r => exact s_or ((snd_Bs l E h2).2 p)
      | And => cases h
    | _ => first | cases h | simp [ckE, ckI, ckT, ckC] at h
  | .not_ a, X, Z, E, e', h => by
    cases e' with
    | UnaryOp op a' p =>
      cases op with
      | Not => exact s_not (snd_E a E h)
      | _ => first | cases h | simp [ckE, ckI, ckT, ckC] at h
    | _ => first | cases h | simp [ckE, ckI, ckT, ckC] at h
  | .ite c a b, X, Z, E, e', h => by
    cases e' with
    | IfExp c' a' b' p =>
      obtain ⟨h1, h2⟩ := and2 h
      obtain ⟨h3, h4⟩ := and2 h1
      exact s_ite (snd_T c E h3) (snd_E a E h4) (snd_E b E h2)
    | _ => first | cases h | simp [ckE, ckI, ckT, ckC] at h
  | .tup l, X, Z, E, e', h => by
    cases e' with
    | Tuple l' k p => exact s_tup (snd_Es l E h)
    | _ => first | cases h | simp [ckE, ckI, ckT, ckC] at h
  | .lst l, X, Z, E, e', h => by
    cases e' with
    | List l' p => exact s_lst (snd_Es l E h)
    | _ => first | cases h | simp [ckE, ckI, ckT, ckC] at h
  | .idx a b, X, Z, E, e', h => by
    cases e' with
    | Subscript a' b' p =>
      obtain ⟨h1, h2⟩ := and2 (show (notSlice b' && ckE G X.N np X.env.scope a a' && ckE G X.N np X.env.scope b b') = true from h)
      obtain ⟨h3, h4⟩ := and2 h1
      exact s_idx E.tk (ix_of h3) (snd_E a E h4) (snd_E b E h2)
    | _ => first | cases h | simp [ckE, ckI, ckT, ckC] at h
  | .slc a lo hi, X, Z, E, e', h => by
    cases e' with
    | Subscript a' s p =>
      cases s with
      | Slice lo' hi' st p2 =>
        cases st with
        | none =>
          obtain ⟨h1, h2⟩ := and2 h
          obtain ⟨h3, h4⟩ := and2 h1
          exact s_slc E.tk (snd_E a E h3) (snd_O lo E h4) (snd_O hi E h2)
        | some _ => cases h
      | _ => first | cases h | simp [ckE, ckI, ckT, ckC] at h
    | _ => first | cases h | simp [ckE, ckI, ckT, ckC] at h
  | .call f l, X, Z, E, e', h => by
    cases e' with
    | Call g l' kw pos =>
      cases g with
      | Name x p =>
        cases kw with
        | nil =>
          obtain ⟨h1, h2⟩ := and2 h
          obtain ⟨h3, h4⟩ := and2 h1
          obtain ⟨h5, h6⟩ := and2 h3
          obtain ⟨h7, h8⟩ := and2 h5
          have hx : f = x := of_decide_eq_true h7
          subst hx
          obtain ⟨n1, _, _⟩ := name_of h6
          rw [List.any_eq_true] at h4
          obtain ⟨⟨q, qn, qm⟩, qi, qh⟩ := h4
          obtain ⟨q1, q2⟩ := and2 qh
          obtain ⟨q3, q4⟩ := and2 q1
          have hq : q = f := of_decide_eq_true q3
          subst hq
          have cal := E.fs _ qi
          have ha := snd_Es l E h2
          have st := ckEs_star h2
          cases l with
          | nil =>
            cases l' with
            | nil => exact s_call0 E.tk E.tz cal (gl_of h8) (of_decide_eq_true q4) n1
            | cons _ _ => cases h2
          | cons e l =>
            cases l' with
            | nil => cases h2
            | cons e2 l' =>
              exact s_call E.tk E.tz cal (gl_of h8) ha (of_decide_eq_true q4) (of_decide_eq_true q2) (fun {ρ ps ρ'} z => evs_length h2 z) n1 (star_of (st e2 List.mem_cons_self)) (plain_of fun a z => st a (List.mem_cons_of_mem _ z))
        | cons _ _ => first | cases h | simp [ckE, ckI, ckT, ckC, ckEs, ckTs] at h
      | _ => first | cases h | simp [ckE, ckI, ckT, ckC] at h
    | _ => first | cases h | simp [ckE, ckI, ckT, ckC] at h
  | .blt b l, X, Z, E, e', h => by
    cases e' with
    | Call g l' kw pos =>
      cases g with
      | Name x p =>
        cases kw with
        | nil =>
          obtain ⟨h1, h2⟩ := and2 h
          obtain ⟨h3, h4⟩ := and2 h1
          obtain ⟨h5, h6⟩ := and2 h3
          obtain ⟨h7, h8⟩ := and2 h5
          have ha := snd_Es l E h2
          have st := ckEs_star h2
          cases l' with
          | nil => cases h4
          | cons e2 l' =>
            refine s_blt E.calm E.tk fun t ht => ?_
            subst ht
            exact call_bl (E := E) (of_decide_eq_true h7) h8 h6 ha st
        | cons _ _ => first | cases h | simp [ckE, ckI, ckT, ckC, ckEs, ckTs] at h
      | _ => first | cases h | simp [ckE, ckI, ckT, ckC] at h
    | _ => first | cases h | simp [ckE, ckI, ckT, ckC] at h
  | .isi t a, X, Z, E, e', h => by
    simp only [ckE] at h
    split at h
    · rename_i x a' y py hc
      obtain ⟨p, pos, rfl⟩ := asCall_of hc
      obtain ⟨g1, g2⟩ := and2 h
      obtain ⟨g3, g4⟩ := and2 g1
      obtain ⟨g5, g6⟩ := and2 g3
      obtain ⟨g7, g8⟩ := and2 g5
      obtain ⟨g9, g10⟩ := and2 g7
      obtain ⟨g11, g12⟩ := and2 g9
      obtain ⟨g13, g14⟩ := and2 g11
      have hy : y = t.sn := of_decide_eq_true g12
      have hx : x = "isinstance" := of_decide_eq_true g13
      subst hy
      subst hx
      obtain ⟨n1, n2, n3⟩ := name_of (ty_ok_name t)
      have pa := snd_E a E g2
      have py : PE X (.Name t.sn py) (tC (.ty t.nm)) := pe_bltn (gl_of g10) (E.free _ (of_decide_eq_true g6)) (ty_boot t) rfl n3 n1
      refine s_isi E.tk fun u hu => ?_
      subst hu
      exact pe_callB call_isi (gl_of g14) (E.free _ (of_decide_eq_true g8)) PyProof.Rows.boot_isinstance (pa_cons pa (pa_cons py pa_nil (star_of rfl)) (star_of g4)) (by decide +kernel) (by decide +kernel) (star_of g4) (plain_of fun c hc => by
        rcases List.mem_cons.mp hc with rfl | hc
        · rfl
        · cases hc)
    · cases h
  | .met m o l, X, Z, E, e', h => by
    cases e' with
    | Call g l' kw pos =>
      cases g with
      | Attribute o' x apos =>
        cases kw with
        | nil =>
          obtain ⟨h1, h2⟩ := and2 h
          obtain ⟨h3, h4⟩ := and2 h1
          obtain ⟨h5, h6⟩ := and2 h3
          obtain ⟨h7, h8⟩ := and2 h5
          obtain ⟨h9, h10⟩ := and2 h7
          obtain ⟨h11, h12⟩ := and2 h9
          have hx : x = m.nm := of_decide_eq_true h11
          subst hx
          have ho := snd_E o E h4
          have ha := snd_Es l E h2
          have st := ckEs_star h2
          obtain ⟨f1, f2, f3⟩ := Me.facts m
          cases l' with
          | nil => cases h8
          | cons e2 l' =>
            refine s_met E.tk fun u t hu ht => ?_
            subst hu ht
            exact pe_bm f1 f2 f3 (mt_Me E.hu m) ho ha (base_of h12) (few_of st (of_decide_eq_true h6)) h10 (star_of (st e2 List.mem_cons_self)) (plain_of fun a z => st a (List.mem_cons_of_mem _ z))
        | cons _ _ => first | cases h | simp [ckE, ckI, ckT, ckC, ckEs, ckTs] at h
      | _ => first | cases h | simp [ckE, ckI, ckT, ckC] at h
    | _ => first | cases h | simp [ckE, ckI, ckT, ckC] at h
  | .chg m i l, X, Z, E, e', h => by
    cases e' with
    | Call g l' kw pos =>
      cases g with
      | Attribute o' x apos =>
        cases o' with
        | Name y py =>
          cases kw with
          | nil =>
            obtain ⟨h1, h2⟩ := and2 h
            obtain ⟨h3, h4⟩ := and2 h1
            obtain ⟨h5, h6⟩ := and2 h3
            obtain ⟨h7, h8⟩ := and2 h5
            obtain ⟨h9, h10⟩ := and2 h7
            obtain ⟨h11, h12⟩ := and2 h9
            obtain ⟨h13, h14⟩ := and2 h11
            have hx : x = m.nm := of_decide_eq_true h13
            subst hx
            have ha := snd_Es l E h2
            have st := ckEs_star h2
            obtain ⟨n1, n2, n3⟩ := name_of h10
            have pv : PE X (.Name y py) (tVar i) := pe_var (of_decide_eq_true h14) (vis_of h12) n1 n2
            obtain ⟨f2, f3⟩ := Mm.facts m
            cases l' with
            | nil =>
              cases m with
              | pop =>
                cases l with
                | nil =>
                  refine s_chg E.tk fun t ht => ?_
                  subst ht
                  refine wkE (pe_bm0 PySem.F.plainAttrs_list f2 f3 (mt_Mm .pop) pv rfl h8) ?_
                  rintro σ H Q ⟨v, e1, ty, ρ, W, R, q⟩
                  exact ⟨v, e1, ty, q [] H W ⟨Go.refl R, rfl⟩⟩
                | cons _ _ => cases h2
              | _ => cases h4
            | cons e2 l' =>
              refine s_chg E.tk fun t ht => ?_
              subst ht
              exact pe_bm PySem.F.plainAttrs_list f2 f3 (mt_Mm m) pv ha rfl (few_of st (of_decide_eq_true h6)) h8 (star_of (st e2 List.mem_cons_self)) (plain_of fun a z => st a (List.mem_cons_of_mem _ z))
          | cons _ _ => first | cases h | simp [ckE, ckI, ckT, ckC, ckEs, ckTs] at h
        | _ => first | cases h | simp [ckE, ckI, ckT, ckC] at h
      | _ => first | cases h | simp [ckE, ckI, ckT, ckC] at h
    | _ => first | cases h | simp [ckE, ckI, ckT, ckC] at h
  | .comp elt tg it ifs own, X, Z, E, e', h => by
    cases e' with
    | ListComp elt' gs scope pos =>
      rcases gs with _ | ⟨⟨tg', it', ifs', as⟩, _ | ⟨_, _⟩⟩
      · first | cases h | simp [ckE, ckI, ckT, ckC] at h
      · skip
        · obtain ⟨h1, h2⟩ := and2 h
          obtain ⟨h3, h4⟩ := and2 h1
          obtain ⟨h5, h6⟩ := and2 h3
          obtain ⟨h7, h8⟩ := and2 h5
          obtain ⟨h9, h10⟩ := and2 h7
          obtain ⟨h11, h12⟩ := and2 h9
          obtain ⟨h13, h14⟩ := and2 h11
          obtain ⟨h15, h16⟩ := and2 h13
          have h0 : as = 0 := of_decide_eq_true h15
          subst h0
          have ok := blkOk_by h12
          have ow : (own.map fun i => (X.N.getD i ⟨#[]⟩, i)).map (·.2) = own := by rw [List.map_map]; exact List.map_id' own
          have pc := pe_lc (pos := pos) (g := gT X.K tg) (wi := tI X T F Z it) (tt := tCl X T F Z0 ifs) (te := tE X T F Z0 elt) E.calm E.nd (snd_I it E h16) ok
            (fun s H C cl fp => tg_ok (X := X.blk s H scope (compEnvC scope cl C X.env) fp) (sc := scope) E.calm E.nd (fun x hx => by
              unfold isLoc at hx
              split at hx
              · rename_i e
                have : (relS scope X.env.scope).names.lookup x = some .local := lookup_relS_keep (by decide) e
                exact ⟨.inl this, .inr this⟩
              · rename_i e
                have : (relS scope X.env.scope).names.lookup x = some .cell := lookup_relS_keep (by decide) e
                exact ⟨.inr this, .inl (by show (scope.names.lookup x == some .cell) = true; rw [e]; rfl)⟩
              · cases hx) h6)
            (fun s H C cl fp => snd_C ifs (E.blk s H scope (compEnvC scope cl C X.env) fp) h4)
            (fun s H C cl fp => snd_E elt (E.blk s H scope (compEnvC scope cl C X.env) fp) h2) (fold_of h14)
          rw [ow] at pc
          refine wkE pc fun σ H Q q => ?_
          refine comp_tLc E.tk (fun i hi => ?_) (fun i hi => ?_) q
          · cases hb : T.bm i with
            | none => rfl
            | some a =>
              have := E.bm i a hb
              rw [List.all_eq_true] at h10
              have h3 := of_decide_eq_true (h10 i hi)
              omega
          · rw [List.all_eq_true] at h8
            exact of_decide_eq_true (h8 i hi)
      · simp [ckE] at h
    | _ => first | cases h | simp [ckE, ckI, ckT, ckC] at h
theorem snd_Es : ∀ (l : Exs) {X : Cx} {Z : WX} (E : Env1 X T F Z G np) {l' : List Expr}, ckEs G X.N np X.env.scope l l' = true → PA X l' (tA X T F Z l)
  | .nil, X, Z, E, l', h => by
    cases l' with
    | nil => exact s_nil
    | cons _ _ => first | cases h | simp [ckE, ckI, ckT, ckC, ckEs, ckTs] at h
  | .cons e l, X, Z, E, l', h => by
    cases l' with
    | nil => cases h
    | cons e' l' =>
      obtain ⟨h1, h2⟩ := and2 h
      obtain ⟨h3, h4⟩ := and2 h1
      exact s_cons (snd_E e E h4) (snd_Es l E h2) (star_of h3)
/-- and, or of values -/
theorem snd_Bs : ∀ (l : Exs) {X : Cx} {Z : WX} (E : Env1 X T F Z G np) {a' : Expr} {r' : List Expr}, ckEs G X.N np X.env.scope l (a' :: r') = true →
    (∀ pos, PE X (.BoolOp .And (a' :: r') pos) (tVAnd X T F Z l)) ∧ ∀ pos, PE X (.BoolOp .Or (a' :: r') pos) (tVOr X T F Z l)
  | .nil, X, Z, E, _, _, h => by cases h
  | .cons e l, X, Z, E, a', r', h => by
    obtain ⟨h1, h2⟩ := and2 h
    obtain ⟨h3, h4⟩ := and2 h1
    have pe := snd_E e E h4
    cases r' with
    | nil =>
      cases l with
      | nil => exact ⟨fun pos => s_vand1 pe, fun pos => s_vor1 pe⟩
      | cons _ _ => cases h2
    | cons b' r' =>
      obtain ⟨q1, q2⟩ := snd_Bs l E h2
      exact ⟨fun pos => s_vand pe (q1 pos), fun pos => s_vor pe (q2 pos)⟩
theorem snd_O : ∀ (o : Eo) {X : Cx} {Z : WX} (E : Env1 X T F Z G np) {o' : Option Expr}, ckO G X.N np X.env.scope o o' = true → PO X o' (tO X T F Z o)
  | .none, X, Z, E, o', h => by
    cases o' with
    | none => exact s_onone
    | some _ => cases h
  | .some e, X, Z, E, o', h => by
    cases o' with
    | none => cases h
    | some e' => exact s_osome (snd_E e E h)
theorem snd_T : ∀ (t : Tx) {X : Cx} {Z : WX} (E : Env1 X T F Z G np) {e' : Expr}, ckT G X.N np X.env.scope t e' = true → PT X e' (tT X T F Z t)
  | .val e, X, Z, E, e', h => by
    obtain ⟨h1, h2⟩ := and2 h
    exact s_tval E.tk (true_of h1) (snd_E e E h2)
  | .cmp op a b, X, Z, E, e', h => by
    cases e' with
    | Compare a' ops bs p =>
      rcases ops with _ | ⟨op', _ | ⟨o2, r⟩⟩
      · first | cases h | simp [ckE, ckI, ckT, ckC] at h
      · rcases bs with _ | ⟨b', _ | ⟨c', r⟩⟩
        · first | cases h | simp [ckE, ckI, ckT, ckC] at h
        · obtain ⟨h1, h2⟩ := and2 h
          obtain ⟨h3, h4⟩ := and2 h1
          obtain ⟨h5, h6⟩ := and2 h3
          have ho : op = op' := cm_of h5
          subst ho
          exact s_tcmp E.tk E.hu (marks_of h6) (snd_E a E h4) (snd_E b E h2)
        · first | cases h | simp [ckE, ckI, ckT, ckC] at h
      · first | cases h | simp [ckE, ckI, ckT, ckC] at h
    | _ => first | cases h | simp [ckE, ckI, ckT, ckC] at h
  | .chn op o2 a b c, X, Z, E, e', h => by
    cases e' with
    | Compare a' ops bs p =>
      rcases ops with _ | ⟨op', _ | ⟨o2', _ | ⟨_, _⟩⟩⟩
      · first | cases h | simp [ckE, ckI, ckT, ckC] at h
      · first | cases h | simp [ckE, ckI, ckT, ckC] at h
      · rcases bs with _ | ⟨b', _ | ⟨c', _ | ⟨_, _⟩⟩⟩
        · first | cases h | simp [ckE, ckI, ckT, ckC] at h
        · first | cases h | simp [ckE, ckI, ckT, ckC] at h
        · obtain ⟨h1, h2⟩ := and2 h
          obtain ⟨h3, h4⟩ := and2 h1
          obtain ⟨h5, h6⟩ := and2 h3
          obtain ⟨h7, h8⟩ := and2 h5
          obtain ⟨h9, h10⟩ := and2 h7
          have ho : op = op' := cm_of h9
          have ho2 : o2 = o2' := cm_of h10
          subst ho ho2
          exact s_tchn E.tk E.hu (marks_of h8) (snd_E a E h6) (snd_E b E h4) (snd_E c E h2)
        · first | cases h | simp [ckE, ckI, ckT, ckC] at h
      · first | cases h | simp [ckE, ckI, ckT, ckC] at h
    | _ => first | cases h | simp [ckE, ckI, ckT, ckC] at h
  | .and_ l, X, Z, E, e', h => by
    cases e' with
    | BoolOp op l' p =>
      cases op with
      | And =>
        obtain ⟨h1, h2⟩ := and2 h
        cases l' with
        | nil => cases h1
        | cons a' r => exact wkT ((snd_Ts l E h2).1 p).pt fun σ H Q q => q
      | Or => cases h
    | _ => first | cases h | simp [ckE, ckI, ckT, ckC] at h
  | .or_ l, X, Z, E, e', h => by
    cases e' with
    | BoolOp op l' p =>
      cases op with
      | Or =>
        obtain ⟨h1, h2⟩ := and2 h
        cases l' with
        | nil => cases h1
        | cons a' r => exact wkT ((snd_Ts l E h2).2 p).pt fun σ H Q q => q
      | And => cases h
    | _ => first | cases h | simp [ckE, ckI, ckT, ckC] at h
  | .not_ t, X, Z, E, e', h => by
    cases e' with
    | UnaryOp op a' p =>
      cases op with
      | Not => exact s_tnot (snd_T t E h)
      | _ => first | cases h | simp [ckE, ckI, ckT, ckC] at h
    | _ => first | cases h | simp [ckE, ckI, ckT, ckC] at h
theorem snd_Ts : ∀ (l : Txs) {X : Cx} {Z : WX} (E : Env1 X T F Z G np) {a' : Expr} {r' : List Expr}, ckTs G X.N np X.env.scope l (a' :: r') = true →
    (∀ pos, PW X (.BoolOp .And (a' :: r') pos) (tTAnd X T F Z l)) ∧ ∀ pos, PW X (.BoolOp .Or (a' :: r') pos) (tTOr X T F Z l)
  | .nil, X, Z, E, _, _, h => by cases h
  | .cons t l, X, Z, E, a', r', h => by
    obtain ⟨h1, h2⟩ := and2 h
    have pt := snd_T t E h1
    cases r' with
    | nil =>
      cases l with
      | nil => exact ⟨fun pos => s_tand1 pt, fun pos => s_tor1 pt⟩
      | cons _ _ => cases h2
    | cons b' r' =>
      obtain ⟨q1, q2⟩ := snd_Ts l E h2
      exact ⟨fun pos => s_tand pt (q1 pos), fun pos => s_tor pt (q2 pos)⟩
theorem snd_C : ∀ (o : To) {X : Cx} {Z : WX} (E : Env1 X T F Z G np) {l' : List Expr}, ckC G X.N np X.env.scope o l' = true → PTs X l' (tCl X T F Z o)
  | .none, X, Z, E, l', h => by
    cases l' with
    | nil => exact s_cnone
    | cons _ _ => first | cases h | simp [ckE, ckI, ckT, ckC, ckEs, ckTs] at h
  | .some t, X, Z, E, l', h => by
    rcases l' with _ | ⟨t', _ | ⟨_, _⟩⟩
    · first | cases h | simp [ckE, ckI, ckT, ckC] at h
    · exact s_csome (snd_T t E h)
    · first | cases h | simp [ckE, ckI, ckT, ckC] at h
theorem snd_I : ∀ (it : Ie) {X : Cx} {Z : WX} (E : Env1 X T F Z G np) {e' tg' : Expr}, ckI G X.N np X.env.scope it e' tg' = true → PI X tg' e' (tI X T F Z it)
  | .seq e, X, Z, E, e', tg', h => s_seq E.tk (snd_E e E h)
  | .rng a, X, Z, E, e', tg', h => by
    simp only [ckI] at h
    split at h
    · rename_i x a' hc
      obtain ⟨p, pos, rfl⟩ := asCall_of hc
      obtain ⟨h1, h2⟩ := and2 h
      obtain ⟨h3, h4⟩ := and2 h1
      obtain ⟨h5, h6⟩ := and2 h3
      obtain ⟨h7, h8⟩ := and2 h5
      have hx : x = "range" := of_decide_eq_true h7
      subst hx
      exact s_rng (gl_of h8) (E.free _ (of_decide_eq_true h6)) (star_of h4) (snd_E a E h2)
    · cases h
  | .rng2 a b, X, Z, E, e', tg', h => by
    simp only [ckI] at h
    split at h
    · rename_i x a' b' hc
      obtain ⟨p, pos, rfl⟩ := asCall_of hc
      obtain ⟨h1, h2⟩ := and2 h
      obtain ⟨h3, h4⟩ := and2 h1
      obtain ⟨h5, h6⟩ := and2 h3
      obtain ⟨h7, h8⟩ := and2 h5
      obtain ⟨h9, h10⟩ := and2 h7
      obtain ⟨h11, h12⟩ := and2 h9
      have hx : x = "range" := of_decide_eq_true h11
      subst hx
      exact s_rng2 (gl_of h12) (E.free _ (of_decide_eq_true h10)) (by rw [star_of h8, star_of h6]; rfl) (star_of h6) (snd_E a E h4) (snd_E b E h2)
    · cases h
  | .enm e, X, Z, E, e', tg', h => by
    simp only [ckI] at h
    obtain ⟨ht, h⟩ := and2 h
    cases tg' with
    | Tuple es k tp =>
      split at h
      · rename_i x a' hc
        obtain ⟨p, pos, rfl⟩ := asCall_of hc
        obtain ⟨h1, h2⟩ := and2 h
        obtain ⟨h3, h4⟩ := and2 h1
        obtain ⟨h5, h6⟩ := and2 h3
        obtain ⟨h7, h8⟩ := and2 h5
        have hx : x = "enumerate" := of_decide_eq_true h7
        subst hx
        exact s_enm E.tk (gl_of h8) (E.free _ (of_decide_eq_true h6)) (star_of h4) (snd_E e E h2)
      · cases h
    | _ => cases ht
  | .zip l, X, Z, E, e', tg', h => by
    simp only [ckI] at h
    obtain ⟨ht, h⟩ := and2 h
    cases tg' with
    | Tuple es k tp =>
      split at h
      · rename_i x l' hc
        obtain ⟨p, pos, rfl⟩ := asCall_of hc
        obtain ⟨h1, h2⟩ := and2 h
        obtain ⟨h3, h4⟩ := and2 h1
        obtain ⟨h5, h6⟩ := and2 h3
        obtain ⟨h7, h8⟩ := and2 h5
        have hx : x = "zip" := of_decide_eq_true h7
        subst hx
        have ha := snd_Es l E h2
        have st := ckEs_star h2
        rcases l' with _ | ⟨a', _ | ⟨b', _ | ⟨_, _⟩⟩⟩
        · simp at h4
        · simp at h4
        · cases l with
          | nil => cases h2
          | cons a l =>
            cases l with
            | nil => obtain ⟨_, z⟩ := and2 h2; cases z
            | cons b l =>
              cases l with
              | nil => exact s_zip2 E.tk (gl_of h8) (E.free _ (of_decide_eq_true h6)) (star_of (st a' (by simp))) (plain_of fun c z => st c (List.mem_cons_of_mem _ z)) ha
              | cons _ _ =>
                obtain ⟨_, z⟩ := and2 h2
                obtain ⟨_, z⟩ := and2 z
                cases z
        · simp at h4
      · cases h
    | _ => cases ht
end
end
end Dv

set_option Elab.async false
set_option linter.all false
set_option maxRecDepth 100000
set_option maxHeartbeats 1000000
namespace Dv
open PySem PySem.Spec PyProof.Rows L2

structure OutS (T : Tc) (σ : Sg) (H : Hp) (ρ : Env') (W : AS) (p : P) (σ' : Sg) (ρ' : Env') (v : V) (H' : Hp) (W' : AS) : Prop where
  go : GoS T σ H ρ W σ' H' ρ' W'
  rep : RepP T σ' H' ρ' W' v p
  new : ∀ d, p = .own d → ∀ a, v = .ref a → H a = none
def EndS (T : Tc) (σ : Sg) (H : Hp) (ρ : Env') (W : AS) (D : Ends) (f : Fl) (ρ' : Env') : Prop := match f with
  | .nx => ∀ σ' H' W', GoS T σ H ρ W σ' H' ρ' W' → D.nx σ' H'
  | .bk => ∀ σ' H' W', GoS T σ H ρ W σ' H' ρ' W' → D.bk σ' H'
  | .ct => ∀ σ' H' W', GoS T σ H ρ W σ' H' ρ' W' → D.ct σ' H'
  | .rt p => ∀ v σ' H' W', OutS T σ H ρ W p σ' ρ' v H' W' → D.rt v H'
/-- the error is welcome, wherever it is raised from here on -/
def ErrS (X : Cx) (Z : WX) (T : Tc) (er : Er) (σ : Sg) (H : Hp) (ρ : Env') (W : AS) : Prop := ∀ σ1 H1 ρ1 W1, GoS T σ H ρ W σ1 H1 ρ1 W1 → ErrOk X Z er σ1 H1 ρ1
def PostS (X : Cx) (Z : WX) (T : Tc) (r : Rs (Fl × Env')) (σ : Sg) (H : Hp) (ρ : Env') (W : AS) (D : Ends) : Prop := match r with
  | .ok q => EndS T σ H ρ W D q.1 q.2
  | .err er => ErrS X Z T er σ H ρ W
  | .bad => False
/-- a step's error, seen as a statement's -/
def PostE (X : Cx) (Z : WX) (T : Tc) {α : Type} (r : Rs (α × Env')) (σ : Sg) (H : Hp) (ρ : Env') (W : AS) (k : α → Env' → Prop) : Prop := match r with
  | .ok a => k a.1 a.2
  | .err er => ErrS X Z T er σ H ρ W
  | .bad => False
def tS (X : Cx) (T : Tc) (Z : WX) (f : Env' → Rs (Fl × Env')) : TS := fun D σ H => ∃ ρ W, Rel T σ H ρ W ∧ PostS X Z T (f ρ) σ H ρ W D

section
variable {X : Cx} {Z : WX} {T : Tc} {F : Fn} {G : Gn} {np : Nat} {σ σ' σ1 : Sg} {H H0 H1 H2 H' : Hp} {ρ ρ1 ρ2 ρ' ρf ρb ρq : Env'} {W W1 W2 W' : AS} {K : PySem.W.Frag} {ds : List D} {sc : Scope} {N : List Str} {En : Ends}
theorem PostE.bind {α : Type} {r : Rs (α × Env')} {f : α × Env' → Rs (Fl × Env')} (h : PostS X Z T (r.bind f) σ H ρ W En) : PostE X Z T r σ H ρ W fun a ρ' => PostS X Z T (f (a, ρ')) σ H ρ W En := by
  cases r <;> exact h
/-- to an expression's reading -/
theorem PostE.post {α : Type} {r : Rs (α × Env')} {k k' : α → Env' → Prop} (h : PostE X Z T r σ H ρ W k) (R : Rel T σ H ρ W) (g : ∀ a ρ', k a ρ' → k' a ρ') : Post X Z r σ H ρ k' := by
  cases r with
  | ok a => exact g _ _ h
  | err er => exact h σ H ρ W (GoS.refl R)
  | bad => exact h
theorem PostE.move {α : Type} {r : Rs (α × Env')} {k : α → Env' → Prop} (h : PostE X Z T r σ H ρ W k) (g : GoS T σ H ρ W σ1 H1 ρ1 W1) : PostE X Z T r σ1 H1 ρ1 W1 k := by
  cases r with
  | ok a => exact h
  | err er => exact fun σ2 H2 ρ2 W2 g2 => h _ _ _ _ (g.trans g2)
  | bad => exact h
theorem PostS.val {α : Type} {r : Rs α} {f : α → Rs (Fl × Env')} (n : NoErr r) (h : PostS X Z T (r.bind f) σ H ρ W En) : ∃ a, r = .ok a ∧ PostS X Z T (f a) σ H ρ W En := by
  cases r with
  | ok a => exact ⟨a, rfl, h⟩
  | err er => exact absurd rfl (n er)
  | bad => exact h.elim
theorem GoS.out {σ2 : Sg} {p : P} {v : V} (a : GoS T σ H ρ W σ1 H1 ρ1 W1) (b : OutS T σ1 H1 ρ1 W1 p σ2 ρ2 v H2 W2) : OutS T σ H ρ W p σ2 ρ2 v H2 W2 := ⟨a.trans b.go, b.rep, fun d e x h => a.dom x (b.new d e x h)⟩
theorem EndS.move {f : Fl} (h : EndS T σ H ρ W En f ρ') (g : GoS T σ H ρ W σ1 H1 ρ1 W1) : EndS T σ1 H1 ρ1 W1 En f ρ' := by
  cases f with
  | nx => exact fun σ2 H2 W2 g2 => h _ _ _ (g.trans g2)
  | bk => exact fun σ2 H2 W2 g2 => h _ _ _ (g.trans g2)
  | ct => exact fun σ2 H2 W2 g2 => h _ _ _ (g.trans g2)
  | rt p => exact fun v σ2 H2 W2 g2 => h _ _ _ _ (g.out g2)
theorem PostS.move {r : Rs (Fl × Env')} (h : PostS X Z T r σ H ρ W En) (g : GoS T σ H ρ W σ1 H1 ρ1 W1) : PostS X Z T r σ1 H1 ρ1 W1 En := by
  cases r with
  | ok a => exact EndS.move h g
  | err er => exact fun σ2 H2 ρ2 W2 g2 => h _ _ _ _ (g.trans g2)
  | bad => exact h
theorem wkS {st : Stmt} {t t' : TS} (h : PS X st t) (w : ∀ D σ H, t' D σ H → t D σ H) : PS X st t' := ⟨fun pins s σ H D I q => h.run pins s σ H D I (w D σ H q)⟩
theorem wkSs {st : List Stmt} {t t' : TS} (h : PSs X st t) (w : ∀ D σ H, t' D σ H → t D σ H) : PSs X st t' := ⟨fun pins s σ H D I q => h.run pins s σ H D I (w D σ H q)⟩

/-! ### a name stored -/
theorem own_go {i : Nat} {v : V} {d : D} (o : Out T σ H ρ W (.own d) ρ1 v H1 W1) (hf : freeSlot i ρ1 = true) : GoS T σ H ρ W (σ.set i (some v)) H1 (ρ1.set i (some (.own false d))) W1 := by
  obtain ⟨nb, nl, hi⟩ := free_bor hf
  have R := o.go.rel
  have hi2 : i < σ.length := by rw [← R.len]; exact hi
  obtain ⟨a, ob, rfl, ha, wa, no, fz, q⟩ := o.rep
  have n0 : H a = none := o.new d rfl a rfl
  have own : ∀ j b, OwnA (σ.set i (some (.ref a))) (ρ1.set i (some (.own false d))) j b → (j = i ∧ b = a) ∨ (j ≠ i ∧ OwnA σ ρ1 j b) := fun j b ⟨h1, h2⟩ => by
    by_cases e : i = j
    · subst e
      rw [List.getElem?_set_self hi2] at h2
      cases h2
      exact .inl ⟨rfl, rfl⟩
    · rw [List.getElem?_set_ne e] at h2
      refine .inr ⟨Ne.symm e, ?_, h2⟩
      rcases h1 with ⟨c, x, h1⟩ | ⟨c, x, h1⟩
      · rw [List.getElem?_set_ne e] at h1; exact .inl ⟨c, x, h1⟩
      · rw [List.getElem?_set_ne e] at h1; exact .inr ⟨c, x, h1⟩
  refine ⟨⟨by simp [R.len], fun j s h => ?_, fun j k b h1 h2 => ?_, R.wl, fun j x b h1 h2 => ?_, R.fzk, fun j b h => ?_⟩, fun b u h n => ?_, o.go.dom, fun j b h => ?_, fun j c x h => ?_⟩
  · rcases getq_set h with ⟨rfl, k, _⟩ | ⟨ne, k⟩
    · cases k
      exact ⟨_, by rw [List.getElem?_set_self hi2], a, ob, rfl, ha, wa, q⟩
    · obtain ⟨o, e, q⟩ := R.at_ j s k
      exact ⟨o, by rw [List.getElem?_set_ne ne]; exact e, q⟩
  · rcases own j b h1 with ⟨e1, e2⟩ | ⟨_, q1⟩
    · rcases own k b h2 with ⟨e3, _⟩ | ⟨_, q2⟩
      · rw [e1, e3]
      · rw [e2] at q2
        exact absurd q2 (no k)
    · rcases own k b h2 with ⟨e3, e4⟩ | ⟨_, q2⟩
      · rw [e4] at q1
        exact absurd q1 (no j)
      · exact R.sep j k b q1 q2
  · by_cases e : i = j
    · subst e
      rw [List.getElem?_set_self hi2] at h2
      cases h2
      exact fz
    · rw [List.getElem?_set_ne e] at h2
      rw [List.getElem?_set_ne e] at h1
      exact R.fr j x b h1 h2
  · obtain ⟨h1, s, h2, h3⟩ := R.bor j b h
    have ne : i ≠ j := fun z => by subst z; exact nb s h2 h3
    exact ⟨by rw [List.getElem?_set_ne ne]; exact h1, s, by rw [List.getElem?_set_ne ne]; exact h2, h3⟩
  · obtain ⟨h1, n1, w⟩ := o.go.step b u h n
    refine ⟨h1, fun j z => ?_, w⟩
    have hba : b ≠ a := fun e => by rw [e, n0] at h; cases h
    obtain ⟨⟨c, x, z1⟩, z2⟩ := z
    rcases getq_set z1 with ⟨rfl, k, _⟩ | ⟨ne, k⟩
    · rw [List.getElem?_set_self hi2] at z2; cases z2; exact hba rfl
    · rw [List.getElem?_set_ne ne] at z2
      exact n1 j ⟨⟨c, x, k⟩, z2⟩
  · rcases own j b h with ⟨_, rfl⟩ | ⟨_, h⟩
    · exact .inr n0
    · exact .inl ⟨j, o.go.mon j b h⟩
  · have h1 := o.go.lk j c x h
    have ne : i ≠ j := fun z => by subst z; exact nl c x h1
    exact ⟨by rw [List.getElem?_set_ne ne]; exact h1, by rw [List.getElem?_set_ne ne]⟩
theorem asgP_ok {i : Nat} {p : P} {v : V} (o : Out T σ H ρ W p ρ1 v H1 W1) (e : asgP i p ρ1 = .ok ρ') : ∃ W', GoS T σ H ρ W (σ.set i (some v)) H1 ρ' W' := by
  cases p with
  | val d =>
    obtain ⟨g, _⟩ := put_go o.go.rel e o.rep
    exact ⟨W1, o.go.s.trans g⟩
  | own d =>
    simp only [asgP] at e
    split at e
    · rename_i hf
      cases e
      exact ⟨W1, own_go o hf⟩
    · cases e
  | at_ j =>
    simp only [asgP] at e
    obtain ⟨⟨d, ρ2⟩, e1, e⟩ := bind_ok e
    obtain ⟨W2, g, r⟩ := o.data (of_ok e1)
    obtain ⟨g2, _⟩ := put_go g.rel e r
    exact ⟨W2, g.s.trans g2⟩
theorem NoErr.asgP {i : Nat} {p : P} {ρ : Env'} : NoErr (Dv.asgP i p ρ) := by
  unfold Dv.asgP
  split
  · exact .putV
  · split <;> first | exact .ok | exact .bad
  · exact .bind .of fun _ => .putV
/-- x = e, by the reading of e -/
theorem set_read {i : Nat} {e : Ex} (h : tS X T Z (ex F 0 (.set i e)) En σ H) : tE X T F Z e σ H fun x H1 => gName i x σ H1 En.nx := by
  obtain ⟨ρ, W, R, h⟩ := h
  refine ⟨ρ, W, R, (PostE.bind h).post R fun p ρ1 h1 v H1 W1 o => ?_⟩
  obtain ⟨ρ', e1, h2⟩ := PostS.val .asgP h1
  obtain ⟨W', g⟩ := asgP_ok o e1
  exact h2 _ _ _ g
end
end Dv

set_option Elab.async false
set_option linter.all false
set_option maxRecDepth 100000
set_option maxHeartbeats 1000000
namespace Dv
open PySem PySem.Spec PyProof.Rows L2

/-! ### the text of statements -/
def notComp : Expr → Bool
  | .ListComp _ _ _ _ => false
  | .SetComp _ _ _ _ => false
  | .DictComp _ _ _ _ _ => false
  | _ => true
def notTuple : Expr → Bool
  | .Tuple _ _ _ => false
  | _ => true
/-- name = value: the plain way, or a comprehension at a local name on its line -/
def setOk (sc : Scope) (y : Str) (py : Pos) (v : Expr) : Bool := notComp v || (match v with
  | .ListComp _ _ scope pos => (match sc.names.lookup y with
    | some .local => (py.line == pos.line) && !(scope.names.any fun p => p.1 == y && (p.2 == .local || p.2 == .cell))
    | some .cell => true
    | _ => false)
  | _ => false)
def isLocal (sc : Scope) (x : Str) : Bool := match sc.names.lookup x with
  | some .local => true
  | _ => false
def parOk (sc : Scope) (x y : Str) (px py : Pos) (a b : Expr) : Bool :=
  isLocal sc x && isLocal sc y && py.line == px.line && decide (x ≠ y) && notStar a && notStar b && !([a, b].all (foldedForSure 8)) && !([a, b].all (constantsAlone 8))
def augEq : Operator → Operator → Bool
  | .Add, .Add => true
  | .Sub, .Sub => true
  | _, _ => false
mutual
/-- e: the exception's name -/
def ckHx (N : List Str) (sc : Scope) (e : Str) : Hx → Expr → Bool
  | .cst d, .Constant c _ _ => cstOk d c
  | .var i, .Name x _ => decide (N[i]? = some x) && isVis sc x && okName x
  | .fld f, .Attribute (.Name x _) f' _ => decide (x = e) && isVis sc x && okName x && decide (f' = f)
  | .tup l, .Tuple l' _ _ => ckHxs N sc e l l'
  | _, _ => false
def ckHxs (N : List Str) (sc : Scope) (e : Str) : Hxs → List Expr → Bool
  | .nil, [] => true
  | .cons x l, x' :: l' => notStar x' && ckHx N sc e x x' && ckHxs N sc e l l'
  | _, _ => false
end
def isGlo (sc : Scope) (c : Str) : Expr → Bool
  | .Name y _ => decide (y = c) && isGl sc y && okName y
  | _ => false
def allGlo (sc : Scope) : List Str → List Expr → Bool
  | [], [] => true
  | c :: cs, a :: l => isGlo sc c a && allGlo sc cs l
  | _, _ => false
mutual
def ckHt (G : Gn) (N : List Str) (sc : Scope) (e : Str) : Ht → Expr → Bool
  | .isx c, .Call (.Name x _) [.Name y _, a'] [] _ => decide (x = "isinstance") && isGl sc x && decide (x ∈ G.free) && decide (y = e) && isVis sc y && okName y && isGlo sc c a'
  | .isxs cs, .Call (.Name x _) [.Name y _, .Tuple l' _ _] [] _ => decide (x = "isinstance") && isGl sc x && decide (x ∈ G.free) && decide (y = e) && isVis sc y && okName y && allGlo sc cs l' && decide (cs.length ≤ 1000)
  | .ty t x, .Call (.Name f _) [x', .Name y _] [] _ => decide (f = "isinstance") && isGl sc f && decide (f ∈ G.free) && decide (y = t.sn) && isGl sc y && decide (y ∈ G.free) && notStar x' && ckHx N sc e x x'
  | .isI g x, .Call (.Name f _) [x'] [] _ => decide (f = g) && isGl sc f && okName f && decide (g ∈ G.hi) && notStar x' && ckHx N sc e x x'
  | .not_ t, .UnaryOp .Not t' _ => ckHt G N sc e t t'
  | .and_ l, .BoolOp .And l' _ => !l'.isEmpty && ckHts G N sc e l l'
  | .or_ l, .BoolOp .Or l' _ => !l'.isEmpty && ckHts G N sc e l l'
  | _, _ => false
def ckHts (G : Gn) (N : List Str) (sc : Scope) (e : Str) : Hts → List Expr → Bool
  | .nil, [] => true
  | .cons t l, t' :: l' => ckHt G N sc e t t' && ckHts G N sc e l l'
  | _, _ => false
end
mutual
def ckHs (G : Gn) (N : List Str) (sc : Scope) (e : Str) : Hs → Stmt → Bool
  | .ret x, .Return (some x') _ => ckHx N sc e x x'
  | .ite t b, .If t' b' [] _ => ckHt G N sc e t t' && ckHss G N sc e b b'
  | .app j x, .Expr (.Call (.Attribute (.Name y _) m apos) [x'] [] pos) _ => decide (m = "append") && decide (N[j]? = some y) && isVis sc y && okName y && decide (y ≠ e) && apos.endLine == pos.line && notStar x' && ckHx N sc e x x'
  | _, _ => false
def ckHss (G : Gn) (N : List Str) (sc : Scope) (e : Str) : Hss → List Stmt → Bool
  | .nil, [] => true
  | .cons s l, s' :: l' => ckHs G N sc e s s' && ckHss G N sc e l l'
  | _, _ => false
end
def ckVs (N : List Str) (sc : Scope) : List Nat → List Expr → Bool
  | [], [] => true
  | i :: is, .Name x _ :: l => decide (N[i]? = some x) && isVis sc x && okName x && ckVs N sc is l
  | _, _ => false
mutual
def ckS (G : Gn) (N : List Str) (np : Nat) (sc : Scope) : Sx → Stmt → Bool
  | .set i e, .Assign [.Name y py] v _ => decide (N[i]? = some y) && isLoc sc y && setOk sc y py v && ckE G N np sc e v
  | .setT l e, .Assign [.Tuple es k tp] v _ => notTuple v && notComp v && ckTg N sc (.tp l) (.Tuple es k tp) && ckE G N np sc e v
  | .par i j a b, .Assign [.Tuple [.Name x px, .Name y py] _ _] (.Tuple [a', b'] _ _) _ => decide (N[i]? = some x) && decide (N[j]? = some y) && decide (i ≠ j) && parOk sc x y px py a' b' && ckE G N np sc a a' && ckE G N np sc b b'
  | .setI i ix e, .Assign [.Subscript (.Name y _) ix' _] v _ => decide (N[i]? = some y) && isVis sc y && okName y && notSlice ix' && ckE G N np sc ix ix' && ckE G N np sc e v
  | .parI i ix1 j ix2 a b, .Assign [.Tuple [.Subscript (.Name y _) ix1' _, .Subscript (.Name z _) ix2' _] _ _] (.Tuple [a', b'] _ _) _ => decide (N[i]? = some y) && isVis sc y && okName y && notSlice ix1' && ckE G N np sc ix1 ix1' && decide (N[j]? = some z) && isVis sc z && okName z && notSlice ix2' && ckE G N np sc ix2 ix2' && notStar a' && notStar b' && ckE G N np sc a a' && ckE G N np sc b b'
  | .aug i op e, .AugAssign (.Name y _) op' v _ => augEq op op' && decide (N[i]? = some y) && isLoc sc y && ckE G N np sc e v
  | .augI i op ix e, .AugAssign (.Subscript (.Name y _) ix' _) op' v _ => augEq op op' && decide (N[i]? = some y) && isVis sc y && okName y && notSlice ix' && ckE G N np sc ix ix' && ckE G N np sc e v
  | .expr e, .Expr v _ => notComp v && ckE G N np sc e v
  | .ret e, .Return (some v) _ => ckE G N np sc e v
  | .retN, .Return none _ => true
  | .ite c a b, .If c' a' b' _ => ckT G N np sc c c' && ckSs G N np sc a a' && ckSs G N np sc b b'
  | .whl c b, .While c' b' [] _ => ckT G N np sc c c' && ckSs G N np sc b b'
  | .for_ tg it b, .For tg' it' b' [] _ => ckI G N np sc it it' tg' && notSet it' && ckTg N sc tg tg' && ckSs G N np sc b b'
  | .brk, .Break _ => true
  | .cnt, .Continue _ => true
  | .pass, .Pass _ => true
  | .rz c fs es, .Raise (some (.Call (.Name y _) l' [] _)) none _ => decide (y = c) && isGl sc y && okName y && (G.ec.any fun p => decide (p.nm = c) && decide (p.fl = fs)) && !l'.isEmpty && ckEs G N np sc es l'
  | .tr_ b tab c i h, .Try b' [.ExceptHandler (some (.Name x _)) (some e) h' _] [] [] _ => decide (x = c) && isGl sc x && okName x && decide (N[i]? = some e) && isLocal sc e && decide (np ≤ i) && tab.all (fun p => decide (p ∈ G.ec)) && (tab.any fun p => p.sub.any fun q => decide (q.1 = c)) && !h'.isEmpty && ckHss G N sc e h h' && ckTbs G N np sc b b'
  | .bad, _ => true
  | _, _ => false
def ckSs (G : Gn) (N : List Str) (np : Nat) (sc : Scope) : Sxs → List Stmt → Bool
  | .nil, [] => true
  | .cons s l, s' :: l' => ckS G N np sc s s' && ckSs G N np sc l l'
  | .ali c x y f is, [.If c' [.Assign [.Name nx _] (.Name ny _) _] [] _, .Return (some (.Call (.Name g _) l' [] _)) _] => ckT G N np sc c c' && decide (N[x]? = some nx) && isLoc sc nx && decide (N[y]? = some ny) && isVis sc ny && okName ny && decide (g = f) && isGl sc g && okName g && (G.fs.any fun p => decide (p.1 = f) && decide (p.2.2 ≤ l'.length) && decide (l'.length ≤ p.2.1)) && !l'.isEmpty && ckVs N sc is l'
  | _, _ => false
def ckTbs (G : Gn) (N : List Str) (np : Nat) (sc : Scope) : Tbs → List Stmt → Bool
  | .nil, [] => true
  | .cons s l, s' :: l' => ckTb G N np sc s s' && ckTbs G N np sc l l'
  | _, _ => false
def ckTb (G : Gn) (N : List Str) (np : Nat) (sc : Scope) : Tb → Stmt → Bool
  | .thr none e, .Expr v _ => notComp v && ckE G N np sc e v
  | .thr (some i) e, .Assign [.Name y _] v _ => decide (N[i]? = some y) && isLoc sc y && notComp v && ckE G N np sc e v
  | .qt s, s' => ckS G N np sc s s'
  | .ite c a b, .If c' a' b' _ => ckT G N np sc c c' && ckTbs G N np sc a a' && ckTbs G N np sc b b'
  | _, _ => false
end

section
variable {X : Cx} {Z : WX} {T : Tc} {F : Fn} {G : Gn} {np : Nat} {σ σ' σ1 : Sg} {H H0 H1 H2 H' : Hp} {ρ ρ1 ρ2 ρ' ρf ρb ρq : Env'} {W W1 W2 W' : AS} {K : PySem.W.Frag} {ds : List D} {sc : Scope} {N : List Str} {En : Ends} {M : Nat}
theorem Out.later {p : P} {v : V} (o : Out T σ H ρ W p ρ1 v H1 W1) (g : Go T σ H1 ρ1 W1 H2 ρ2 W2) : Out T σ H ρ W p ρ2 v H2 W2 := ⟨o.go.trans g, o.rep.step o.go.rel g.step g.mon, o.new⟩
theorem OutS.of {p : P} {v : V} (o : Out T σ H ρ W p ρ1 v H1 W1) : OutS T σ H ρ W p σ ρ1 v H1 W1 := ⟨o.go.s, o.rep, o.new⟩
theorem swap_no {v : Expr} {t : Option Expr} {n : Nat} {env : Env} (h : notComp v = true) : swapsWith v t n env = pure false := by
  cases v <;> first | rfl | cases h
theorem set_ok {i : Nat} {e : Ex} {y : Str} {py pos : Pos} {v : Expr} (hN : X.N.Nodup) (hi : X.N[i]? = some y) (hl : Loc X.env.scope y) (hf : X.fn y = true) (hk : X.env.scope.kind = .function) (hs : setOk X.env.scope y py v = true) (pe : PE X v (tE X T F Z e))
    (pc : notComp v = false → isLocal X.env.scope y = true → ∀ (hsw : swapsWith v (some (.Name y py)) pos.line X.env = pure true), PS X (.Assign [.Name y py] v pos) (tAsg (tE X T F Z e) (gName i))) : PS X (.Assign [.Name y py] v pos) (tAsg (tE X T F Z e) (gName i)) := by
  unfold setOk at hs
  rcases Bool.or_eq_true_iff.mp hs with h | h
  · exact ps_set hN hi hl pe (swap_no h) (.inl hf)
  · split at h
    · rename_i scope cpos
      split at h
      · rename_i e1
        obtain ⟨h1, h2⟩ := and2 h
        exact pc rfl (by unfold isLocal; rw [e1]) (sw_true hk e1 h1 (not_f h2))
      · rename_i e1
        refine ps_set hN hi hl pe ?_ (.inl hf)
        have e2 : (X.env.kindOf y == some NameKind.local) = false := by
          rw [show X.env.kindOf y = X.env.scope.names.lookup y from rfl, e1]
          rfl
        unfold swapsWith
        simp only [e2, Bool.and_false, Bool.false_and]
      · cases h
    · cases h
theorem par_swap {x y : Str} {px py pt pt2 : Pos} {kt k2 : Nat} {a b : Expr} (hk : X.env.scope.kind = .function) (h : parOk X.env.scope x y px py a b = true) : swappedStores [.Tuple [.Name x px, .Name y py] kt pt] (.Tuple [a, b] k2 pt2) X.env = pure (some [x, y]) := by
  obtain ⟨h1, h2⟩ := and2 h
  obtain ⟨h3, h4⟩ := and2 h1
  obtain ⟨h5, h6⟩ := and2 h3
  obtain ⟨h7, h8⟩ := and2 h5
  obtain ⟨h9, h10⟩ := and2 h7
  obtain ⟨h11, h12⟩ := and2 h9
  obtain ⟨h13, h14⟩ := and2 h11
  have hb : X.env.blockKind = .function := by unfold Env.blockKind; rw [hk]; rfl
  have kx : X.env.kindOf x = some .local := by
    unfold isLocal at h13
    split at h13
    · rename_i e; exact e
    · cases h13
  have ky : X.env.kindOf y = some .local := by
    unfold isLocal at h14
    split at h14
    · rename_i e; exact e
    · cases h14
  have hne : x ≠ y := of_decide_eq_true h10
  have sa : (match a with | .Starred .. => true | _ => false) = false := by cases a <;> first | rfl | cases h8
  have sb : (match b with | .Starred .. => true | _ => false) = false := by cases b <;> first | rfl | cases h6
  have el : py.line = px.line := by simpa using h12
  have hyx : (y == x) = false := by simpa using fun z => hne z.symm
  have hxy : (x == y) = false := by simpa using hne
  have f1 := not_f h4
  have f2 := not_f h2
  simp only [List.all_cons, List.all_nil, Bool.and_true] at f1 f2
  unfold swappedStores
  simp [hb, kx, ky, el, f1, f2, Expr.pos, List.eraseDups, List.eraseDupsBy, List.eraseDupsBy.loop, hyx, hxy]
  cases a <;> cases b <;> first | (simp at sa; done) | (simp at sb; done) | simp_all
end
end Dv

set_option Elab.async false
set_option linter.all false
set_option maxRecDepth 100000
set_option maxHeartbeats 2000000
namespace Dv
open PySem PySem.Spec PyProof.Rows L2

section
variable {X : Cx} {Z : WX} {T : Tc} {F : Fn} {G : Gn} {np : Nat} {σ σ' σ1 : Sg} {H H0 H1 H2 H' : Hp} {ρ ρ1 ρ2 ρ' ρf ρb ρq : Env'} {W W1 W2 W' : AS} {K : PySem.W.Frag} {ds : List D} {sc : Scope} {N : List Str} {En : Ends} {M : Nat}
/-- from ahead of a lock to behind its opening -/
theorem unlock_go {p : P} (R : Rel T σ H1 ρ1 W1) (g : GoS T σ H1 (lockP p ρ1).2 W1 σ' H' ρf W') (e : unlock (lockP p ρ1).1 ρf = .ok ρ') : GoS T σ H1 ρ1 W1 σ' H' ρ' W' := by
  obtain ⟨ow, h0, hs⟩ := unlock_own (σ := σ') e
  refine ⟨unlock_rel g.rel e, unlock_step R g.step e fun k b d z => (g.lk k b d z).2, g.dom, fun i a z => ?_, fun i b d h => ?_⟩
  · rcases g.own i a ((ow i a).mp z) with ⟨j, q⟩ | q
    · exact .inl ⟨j, (lock_go R p).mon j a q⟩
    · exact .inr q
  · have hl := (lock_go R p).lk i b d h
    obtain ⟨q1, q2⟩ := g.lk i b d hl
    refine ⟨?_, q2⟩
    cases el : (lockP p ρ1).1 with
    | none => rw [h0 el]; exact q1
    | some k =>
      obtain ⟨b1, d1, e1, rfl⟩ := hs k el
      obtain ⟨b2, d2, e2, e3⟩ := lock_some el
      have ne : k ≠ i := fun z => by subst z; rw [e2] at h; cases h
      rw [List.getElem?_set_ne ne]
      exact q1
/-- a slot's list changed -/
theorem mut_slot {i : Nat} {f : D → Rs D} {v : V} (R : Rel T σ H ρ W) (hv : σ[i]? = some (some v)) (nf : ∀ d, NoErr (f d)) (e : mutSlot i ρ f = .ok ρ') : ∃ b d d' a o, ρ[i]? = some (some (.own b d)) ∧ v = .ref a ∧ H a = some o ∧ RepO T.K H W o d ∧ f d = .ok d' ∧ ρ' = ρ.set i (some (.own b d')) := by
  unfold mutSlot at e
  split at e
  · rename_i b d es
    obtain ⟨d', e1, e⟩ := bind_ok e
    cases e
    obtain ⟨o, z, a, ob, rfl, ha, _, q⟩ := R.at_ i _ es
    rw [hv] at z; cases z
    exact ⟨b, d, d', a, ob, es, rfl, ha, q, e1, rfl⟩
  · cases e
theorem NoErr.mutSlot {i : Nat} {ρ : Env'} {f : D → Rs D} (nf : ∀ d, NoErr (f d)) : NoErr (Dv.mutSlot i ρ f) := by
  unfold Dv.mutSlot
  split
  · exact .bind (nf _) fun _ => .ok
  · exact .bad
theorem NoErr.dSet {d k x : D} : NoErr (Dv.dSet d k x) := by
  unfold Dv.dSet
  split
  · exact .bind .of fun _ => .ok
  · exact .bad
theorem NoErr.dAug {op : Operator} {x y : D} : NoErr (Dv.dAug op x y) := by
  unfold Dv.dAug
  split <;> first | exact .ok | exact .bad | exact .need .ok
/-- o[k] = x of a slot's list -/
theorem set_slot {i : Nat} {v kv xv : V} {k x : D} {Q : Hp → Prop} (R : Rel T σ H ρ W) (hv : σ[i]? = some (some v)) (hk : RepK T.K H W kv k) (hx : RepD T.K H W xv x) (e : mutSlot i ρ (fun d => dSet d k x) = .ok ρ')
    (q : ∀ H', Go T σ H ρ W H' ρ' W → Q H') : rSetL v kv xv H Q := by
  obtain ⟨b, d, d', a, o, es, rfl, ha, r, e1, rfl⟩ := mut_slot R hv (fun _ => .dSet) e
  unfold dSet at e1
  split at e1
  · rename_i l n
    obtain ⟨j, e2, e1⟩ := bind_ok e1
    cases e1
    obtain ⟨us, rfl, r⟩ := r
    refine ⟨a, us, n, j, rfl, hk.int, ha, by rw [r.length]; exact of_ok e2, q _ (mut_at R es hv ⟨_, rfl, r.set hx j⟩)⟩
  · cases e1
theorem get_listP : PGet X (rIxL X.K) := by
  intro pins s σ H o i ov iv Q I ro ri h
  obtain ⟨p, xs, n, z, rfl, rfl, hq, he, q⟩ := h
  cases ro
  obtain ⟨t, rfl⟩ := ri
  obtain ⟨its, r, pl, hz⟩ := I.list hq
  obtain ⟨j, h1, h2, h3, h4, h5⟩ := atI_get he
  obtain ⟨w, ew, rw'⟩ := r.get h2
  have hl := r.length
  have hn := line63
  have fin : EP X pins σ Q w s := ⟨z, H, I, rw', q⟩
  by_cases h0 : 0 ≤ n
  · have hj : n.toNat = j := by
      rw [seqIndex_of h0 h5] at h1
      exact Option.some.inj h1
    exact wpAny_getItem_list pl.isList h0 (by omega) (by rw [hj]; simpa using ew) fin
  · have hj : (n + (its.toArray.size : Int)).toNat = j := by
      rw [seqIndex_neg (by omega) h4] at h1
      rw [List.size_toArray, ← hl]
      exact Option.some.inj h1
    exact wpAny_getItem_list_neg pl.isList (by omega) (by rw [List.size_toArray] <;> omega) (by omega) (by rw [hj]; simpa using ew) fin
def rAug : Operator → TIp
  | .Add => fun x y H Q => rI0 (fun i j => .int (i + j)) x y H Q ∨ ∃ i j, x = .str i ∧ y = .str j ∧ i.length + j.length ≤ sizeLine ∧ Q (.str (i ++ j)) H
  | .Sub => rI0 fun i j => .int (i - j)
  | _ => fun _ _ _ _ => False
theorem ip_aug : ∀ op, PIp X op (rAug op) := fun op => by
  cases op with
  | Add => exact iop_add.or iop_add_str
  | Sub => exact iop_sub
  | _ => exact fun _ _ _ _ _ _ _ _ _ _ _ _ h => h.elim
theorem aug_ok {op : Operator} {x y : V} {d e z : D} {Q : VK} (hd : RepK K H W x d) (he : RepK K H W y e) (h : dAug op d e = .ok z) (q : ∀ v, RepD K H W v z → Q v H) : rAug op x y H Q := by
  unfold dAug at h
  split at h
  · cases h; exact .inl ⟨_, _, hd.int, he.int, q _ rfl⟩
  · cases h; exact ⟨_, _, hd.int, he.int, q _ rfl⟩
  · obtain ⟨c, h⟩ := need_ok h
    cases h; exact .inr ⟨_, _, hd.str, he.str, c, q _ rfl⟩
  · cases h

/-! ### statements -/
theorem st_setT {l : List Nat} {e : Ex} {tg v : Expr} {pos : Pos} (tk : T.K = X.K) (he : PE X v (tE X T F Z e)) (hg : PG X tg (gT X.K (.tp l))) (hs : swapsWithSole [tg] v pos.line X.env = pure false) (hw : swappedStores [tg] v X.env = pure none)
    (h1 : (assignEach [tg] X.env).map (·.2) = [assign tg X.env]) : PS X (.Assign [tg] v pos) (tS X T Z (ex F M (.setT l e))) := by
  refine wkS (ps_asg he hg hs hw h1) ?_
  rintro En σ H ⟨ρ, W, R, h⟩
  refine ⟨ρ, W, R, (PostE.bind h).post R fun p ρ1 h1 v H1 W1 o => ?_⟩
  dsimp only at h1
  split at h1
  · rename_i ds
    obtain ⟨ρ', e1, h2⟩ := PostS.val .putVs h1
    have r : RepD T.K H1 W1 v (.tup ds) := o.rep
    rw [← tk]
    exact gT_ok (tg := .tp l) o.go.rel (show asgT (.tp l) (.tup ds) ρ1 = .ok ρ' from e1) r fun σ' g _ _ => h2 _ _ _ (o.go.s.trans g)
  · exact h1.elim
theorem st_par {i j : Nat} {a b : Ex} {a' b' : Expr} {x y : Str} {px py pt pt2 pos : Pos} {kt k2 : Nat} (hc : X.calm = true) (hN : X.N.Nodup) (hi : X.N[i]? = some x) (hj : X.N[j]? = some y) (hij : i ≠ j)
    (hx : X.env.scope.names.lookup x = some .local) (hy : X.env.scope.names.lookup y = some .local) (ha : PE X a' (tE X T F Z a)) (hb : PE X b' (tE X T F Z b)) (sa : notStar a' = true) (sb : notStar b' = true)
    (hw : swappedStores [.Tuple [.Name x px, .Name y py] kt pt] (.Tuple [a', b'] k2 pt2) X.env = pure (some [x, y])) :
    PS X (.Assign [.Tuple [.Name x px, .Name y py] kt pt] (.Tuple [a', b'] k2 pt2) pos) (tS X T Z (ex F M (.par i j a b))) := by
  refine wkS (ps_par hc hN hi hj hij hx hy (pa_cons ha (pa_cons hb pa_nil (star_of sb)) (star_of sa)) hw) ?_
  rintro En σ H ⟨ρ, W, R, h⟩
  refine ⟨ρ, W, R, (PostE.bind h).post R fun p1 ρ1 h1 v H1 W1 o1 => ⟨ρ1, W1, o1.go.rel, (((PostE.bind h1).move o1.go.s).post o1.go.rel fun p2 ρ2 h2 u H2 W2 o2 => ?_)⟩⟩
  dsimp only at h2
  split at h2
  · rename_i x y
    obtain ⟨ρ', e1, h3⟩ := PostS.val .putVs h2
    refine ⟨v, u, rfl, ?_⟩
    have rx : RepD T.K H2 W2 v x := RepD.adv o1.go.rel.wl (o2.go.step.adv o1.go.rel) (show RepD T.K H1 W1 v x from o1.rep)
    have ry : RepD T.K H2 W2 u y := o2.rep
    obtain ⟨g, _⟩ := puts_go (vs := [v, u]) o2.go.rel e1 ⟨v, [u], rfl, rx, u, [], rfl, ry, rfl⟩
    exact h3 _ _ _ ((o1.go.trans o2.go).s.trans g)
  · exact h2.elim
theorem st_setI {i : Nat} {ix e : Ex} {y : Str} {yp ip pos : Pos} {ix' v : Expr} (hsl : notSlice ix' = true) (hv : PE X (.Name y yp) (tVar i)) (hi : PE X ix' (tE X T F Z ix)) (he : PE X v (tE X T F Z e)) : PS X (.Assign [.Subscript (.Name y yp) ix' ip] v pos) (tS X T Z (ex F M (.setI i ix e))) := by
  have hs : swapsWithSole [.Subscript (.Name y yp) ix' ip] v pos.line X.env = pure false := by
    show swapsWith v (some (.Subscript (.Name y yp) ix' ip)) pos.line X.env = pure false
    cases v <;> rfl
  refine wkS (ps_asg he (pg_sub hv hi set_list (by cases ix' <;> first | (intro _; rfl) | cases hsl)) hs rfl rfl) ?_
  rintro En σ H ⟨ρ, W, R, h⟩
  refine ⟨ρ, W, R, (PostE.bind h).post R fun p1 ρ1 h1 v H1 W1 o1 => ?_⟩
  obtain ⟨⟨p0, ρ0⟩, e0, h1⟩ := PostS.val .evVar h1
  obtain ⟨e00, v0, s0, q0⟩ := slot_peek e0 o1.go.rel
  subst e00
  refine ⟨v0, s0, ρ0, W1, o1.go.rel, ((PostE.bind h1).move o1.go.s).post o1.go.rel fun p2 ρ2 h2 u H2 W2 o2 => ?_⟩
  have o1' := o1.later o2.go
  obtain ⟨⟨d, ρ3⟩, e3, h2⟩ := PostS.val .of h2
  obtain ⟨W3, g3, r3⟩ := o1'.data (of_ok e3)
  obtain ⟨k, e4, h2⟩ := PostS.val .pk h2
  obtain ⟨ρ', e5, h2⟩ := PostS.val (.mutSlot fun _ => .dSet) h2
  -- the index stands behind the freezing
  obtain ⟨W3', R3', r3', s3', m3', l3'⟩ := toD_ok o1'.go.rel o1'.rep (of_ok e3)
  have rp2 : RepP T σ H2 ρ3 W3' u p2 := o2.rep.stepX o2.go.rel s3' m3' (tmp_w o1'.rep) fun d a e1 e2 z => by
    subst e1
    cases p1 with
    | val d => exact z
    | at_ j => exact z
    | own d1 =>
      have n2 := o2.new d rfl a e2
      obtain ⟨a', o', ea, ha, _⟩ := o1.rep
      rw [show v = .ref a from z] at ea
      cases ea
      rw [n2] at ha; cases ha
  have kk := peek_ok R3' rp2 (pk_of e4)
  have rel3 : Go T σ H ρ W H2 ρ3 W3' := ⟨R3', o1'.go.step.then s3' fun a z => by
    cases p1 with
    | val d => exact z.elim
    | at_ j => exact z.elim
    | own d1 => exact o1.new d1 rfl a z, o1'.go.mon.trans m3', o1'.go.dom, o1'.go.lk.trans l3'⟩
  exact set_slot R3' s0 kk r3' e5 fun H' g => h2 _ _ _ (rel3.trans g).s
theorem st_aug {i : Nat} {op : Operator} {e : Ex} {y : Str} {yp pos : Pos} {v : Expr} (hN : X.N.Nodup) (hi : X.N[i]? = some y) (hl : Loc X.env.scope y) (hf : X.fn y = true) (he : PE X v (tE X T F Z e)) : PS X (.AugAssign (.Name y yp) op v pos) (tS X T Z (ex F M (.aug i op e))) := by
  refine wkS (ps_aug hN hi hl he (ip_aug op) (.inl hf)) ?_
  rintro En σ H ⟨ρ, W, R, h⟩
  simp only [ex] at h
  split at h
  · rename_i x es
    obtain ⟨o, e1, v0, rfl, r0⟩ := R.at_ i _ es
    refine ⟨v0, e1, ρ, W, R, (PostE.bind h).post R fun p1 ρ1 h1 u H1 W1 o1 => ?_⟩
    obtain ⟨y, ey, h1⟩ := PostS.val .pk h1
    obtain ⟨z, ez, h1⟩ := PostS.val .dAug h1
    obtain ⟨ρ', e5, h1⟩ := PostS.val .putV h1
    refine aug_ok (K := T.K) (W := W1) (RepD.k (r0.adv R.wl (o1.go.step.adv R))) (peek_ok o1.go.rel o1.rep (pk_of ey)) ez fun w rw' => ?_
    obtain ⟨g, _⟩ := put_go o1.go.rel e5 rw'
    exact h1 _ _ _ (o1.go.s.trans g)
  · exact h.elim
theorem st_augI {i : Nat} {op : Operator} {ix e : Ex} {y : Str} {yp ip pos : Pos} {ix' v : Expr} (hsl : notSlice ix' = true) (tk : T.K = X.K) (hv : PE X (.Name y yp) (tVar i)) (hi : PE X ix' (tE X T F Z ix)) (he : PE X v (tE X T F Z e)) : PS X (.AugAssign (.Subscript (.Name y yp) ix' ip) op v pos) (tS X T Z (ex F M (.augI i op ix e))) := by
  refine wkS (ps_augS hv hi get_listP he (ip_aug op) set_list (by cases ix' <;> first | (intros; rfl) | cases hsl)) ?_
  rintro En σ H ⟨ρ, W, R, h⟩
  obtain ⟨⟨p0, ρ0⟩, e0, h⟩ := PostS.val (r := evVar i ρ) .evVar h
  obtain ⟨e00, v0, s0, q0⟩ := slot_peek e0 R
  subst e00
  refine ⟨v0, s0, ρ0, W, R, (PostE.bind h).post R fun p1 ρ1 h1 u H1 W1 o1 => ?_⟩
  obtain ⟨x, ex0, h1⟩ := PostS.val .pk h1
  have h1' : isLst x = true ∧ PostS X Z T ((pk p1 ρ1).bind fun k => (dIdx x k).bind fun u => (ev F e ρ1).bind fun r => (pk r.1 r.2).bind fun y => (dAug op u y).bind fun z => (mutSlot i r.2 fun d => dSet d k z).bind fun ρ' => .ok (.nx, ρ')) σ H ρ0 W En := by
    dsimp only at h1
    unfold need at h1
    split at h1
    · exact ⟨by assumption, h1⟩
    · exact h1.elim
  obtain ⟨lx, h1⟩ := h1'
  obtain ⟨k, ek, h1⟩ := PostS.val .pk h1
  obtain ⟨w, ew, h1w⟩ := PostS.val .dIdx h1
  clear h1
  have kx := peek_ok o1.go.rel (q0.step R o1.go.step o1.go.mon) (pk_of ex0)
  have kk := peek_ok o1.go.rel o1.rep (pk_of ek)
  cases x with
  | lst l =>
    obtain ⟨a, us, ea, ha, r⟩ := kx.lst
    cases k with
    | int n =>
      obtain ⟨vw, e2, rw2⟩ := atI_rep r (of_ok (show Rs.of (atI l n) = .ok w from ew))
      refine ⟨a, us, n, vw, ea, kk.int, by rw [← tk]; exact .of ha, e2, ρ1, W1, o1.go.rel, ((PostE.bind h1w).move o1.go.s).post o1.go.rel fun p2 ρ2 h2 u2 H2 W2 o2 => ?_⟩
      obtain ⟨y, ey, h2⟩ := PostS.val .pk h2
      obtain ⟨z, ez, h2⟩ := PostS.val .dAug h2
      obtain ⟨ρ', e5, h2⟩ := PostS.val (.mutSlot fun _ => .dSet) h2
      refine aug_ok (K := T.K) (W := W2) (RepD.k (rw2.adv o1.go.rel.wl (o2.go.step.adv o1.go.rel))) (peek_ok o2.go.rel o2.rep (pk_of ey)) ez fun w' rw' => ?_
      refine set_slot o2.go.rel s0 (k := .int n) (.inr kk.int) rw' e5 fun H' g => h2 _ _ _ ((o1.go.trans o2.go).trans g).s
    | _ => cases ew
  | _ => cases lx
theorem st_expr {e : Ex} {v : Expr} {pos : Pos} (hn : notComp v = true) (he : PE X v (tE X T F Z e)) : PS X (.Expr v pos) (tS X T Z (ex F M (.expr e))) := by
  refine wkS (ps_expr he (swap_no hn)) ?_
  rintro En σ H ⟨ρ, W, R, h⟩
  exact ⟨ρ, W, R, (PostE.bind h).post R fun p1 ρ1 h1 v H1 W1 o1 => h1 _ _ _ o1.go.s⟩
theorem st_ret {e : Ex} {v : Expr} {pos : Pos} (he : PE X v (tE X T F Z e)) : PS X (.Return (some v) pos) (tS X T Z (ex F M (.ret e))) := by
  refine wkS (ps_ret he) ?_
  rintro En σ H ⟨ρ, W, R, h⟩
  exact ⟨ρ, W, R, (PostE.bind h).post R fun p1 ρ1 h1 v H1 W1 o1 => h1 _ _ _ _ (OutS.of o1)⟩
theorem st_retN {pos : Pos} : PS X (.Return none pos) (tS X T Z (ex F M .retN)) := by
  refine wkS ps_retN ?_
  rintro En σ H ⟨ρ, W, R, h⟩
  exact h .non σ H W ⟨GoS.refl R, rfl, fun _ e => by cases e⟩
theorem st_ite {c : Tx} {a b : Sxs} {c' : Expr} {a' b' : List Stmt} {pos : Pos} (hc : PT X c' (tT X T F Z c)) (ha : PSs X a' (tS X T Z (exs F M a))) (hb : PSs X b' (tS X T Z (exs F M b))) : PS X (.If c' a' b' pos) (tS X T Z (ex F M (.ite c a b))) := by
  refine wkS (ps_if hc ha hb) ?_
  rintro En σ H ⟨ρ, W, R, h⟩
  refine ⟨ρ, W, R, (PostE.bind h).post R fun k ρ1 h1 H1 W1 g1 => ?_⟩
  cases k with
  | true => rw [if_pos rfl]; exact ⟨ρ1, W1, g1.rel, PostS.move h1 g1.s⟩
  | false => rw [if_neg (by simp)]; exact ⟨ρ1, W1, g1.rel, PostS.move h1 g1.s⟩
theorem st_whl {c : Tx} {b : Sxs} {c' : Expr} {b' : List Stmt} {pos : Pos} (hp : PassesOwn (model X.prog X.w) X.A X.env X.xe) (hc : PT X c' (tT X T F Z c)) (hb : PSs X b' (tS X T Z (exs F M b))) : PS X (.While c' b' [] pos) (tS X T Z (ex F M (.whl c b))) := by
  refine wkS (ps_while hp hc hb) ?_
  rintro En σ H ⟨ρ, W, R, h⟩
  refine ⟨fun m σ H => ∃ ρ W, Rel T σ H ρ W ∧ PostS X Z T (whileR (evT F c) (exs F M b) m ρ) σ H ρ W En, ⟨M, ρ, W, R, h⟩, ?_⟩
  rintro m σ H ⟨ρ, W, R, h⟩
  cases m with
  | zero => exact h.elim
  | succ m =>
    refine ⟨ρ, W, R, (PostE.bind (r := evT F c ρ) h).post R fun k ρ1 h1 H1 W1 g1 => ?_⟩
    cases k with
    | false => rw [if_neg (by simp)]; exact h1 _ _ _ g1.s
    | true =>
      rw [if_pos rfl]
      refine ⟨fun σ H => ∃ ρ W, Rel T σ H ρ W ∧ PostS X Z T (whileR (evT F c) (exs F M b) m ρ) σ H ρ W En, fun σ' H' q => ⟨m, Nat.lt_succ_self m, q⟩, ρ1, W1, g1.rel, ?_⟩
      have h2 : PostS X Z T ((exs F M b ρ1).bind fun q => match q.1 with
        | .nx => whileR (evT F c) (exs F M b) m q.2
        | .ct => whileR (evT F c) (exs F M b) m q.2
        | .bk => .ok (.nx, q.2)
        | .rt p => .ok (.rt p, q.2)) σ H1 ρ1 W1 En := PostS.move h1 g1.s
      cases e : exs F M b ρ1 with
      | bad => rw [e] at h2; exact h2
      | err er => rw [e] at h2; exact h2
      | ok q =>
        obtain ⟨f, ρ2⟩ := q
        rw [e] at h2
        cases f with
        | nx => exact fun σ' H' W' g => ⟨ρ2, W', g.rel, PostS.move h2 g⟩
        | ct => exact fun σ' H' W' g => ⟨ρ2, W', g.rel, PostS.move h2 g⟩
        | bk => exact h2
        | rt p => exact h2
theorem st_for {tg : Tg} {it : Ie} {b : Sxs} {tg' it' : Expr} {b' : List Stmt} {pos : Pos} (tk : T.K = X.K) (hp : PassesOwn (model X.prog X.w) X.A X.env X.xe) (hc : X.calm = true) (hi : PI X tg' it' (tI X T F Z it)) (hg : PG X tg' (gT X.K tg)) (hb : PSs X b' (tS X T Z (exs F M b)))
    (hs : ∀ x, foldedSetIterable it' X.env x = pure x) : PS X (.For tg' it' b' [] pos) (tS X T Z (ex F M (.for_ tg it b))) := by
  refine wkS (ps_for hp hc hi hg hb hs) ?_
  rintro En σ H ⟨ρ, W, R, h⟩
  refine ⟨ρ, W, R, (PostE.bind h).post R fun lp ρ1 h1 J H1 W1 g1 feed => ?_⟩
  obtain ⟨l, p⟩ := lp
  dsimp only at h1 feed
  generalize hbody : (fun (d : D) (ρ1 : Env') => (asgT tg d ρ1).bind (exs F M b)) = body at h1
  have h1 : PostS X Z T ((forR body l (lockP p ρ1).2).bind (endFor (lockP p ρ1).1)) σ H1 ρ1 W1 En := PostS.move h1 g1.s
  have gl := lock_go g1.rel p
  refine ⟨fun i m σ' H' => m = l.length - i ∧ i ≤ l.length ∧ ∃ ρi Wi, Rel T σ' H' ρi Wi ∧ GoS T σ H1 (lockP p ρ1).2 W1 σ' H' ρi Wi ∧ forR body l (lockP p ρ1).2 = forR body (l.drop i) ρi,
    ⟨_, rfl, Nat.zero_le _, _, _, gl.rel, GoS.refl gl.rel, rfl⟩, ?_⟩
  rintro i m σ' H' ⟨rfl, hil, ρi, Wi, Ri, gi, ei⟩
  obtain ⟨fd, fs⟩ := feed _ _ _ _ Ri gi.step
  by_cases hlt : i < l.length
  · have hd : l[i]? = some l[i] := List.getElem?_eq_getElem hlt
    refine .inr ⟨(fd i _ hd).1, fun σ' H' => ∃ ρi Wi, Rel T σ' H' ρi Wi ∧ GoS T σ H1 (lockP p ρ1).2 W1 σ' H' ρi Wi ∧ forR body l (lockP p ρ1).2 = forR body (l.drop (i + 1)) ρi, fun σ2 H2 q => ⟨_, by omega, rfl, hlt, q⟩, fun x H2 y => ?_⟩
    obtain ⟨ly, rx⟩ := (fd i _ hd).2 x H2 y
    rw [drop_cons hd] at ei
    have ei : forR body l (lockP p ρ1).2 = (body l[i] ρi).bind fun q => match q.1 with
      | .nx => forR body (l.drop (i + 1)) q.2
      | .ct => forR body (l.drop (i + 1)) q.2
      | .bk => .ok (.nx, q.2)
      | .rt p => .ok (.rt p, q.2) := ei
    rw [ei] at h1
    have hbi : body l[i] ρi = (asgT tg l[i] ρi).bind (exs F M b) := by rw [← hbody]
    rw [hbi] at h1 ei
    have gy := Lay.go Ri ly
    cases ea : asgT tg l[i] ρi with
    | bad => rw [ea] at h1; exact h1.elim
    | err x => exact absurd ea (NoErr.asgT x)
    | ok ρ2 =>
      rw [ea] at h1 ei
      rw [← tk]
      refine gT_ok gy.rel ea rx fun σ3 g3 _ _ => ?_
      have gg := (gi.trans gy.s).trans g3
      refine ⟨ρ2, Wi, g3.rel, ?_⟩
      cases e : exs F M b ρ2 with
      | bad =>
        rw [show (Rs.ok ρ2).bind (exs F M b) = exs F M b ρ2 from rfl, e] at h1
        exact h1.elim
      | err er =>
        rw [show (Rs.ok ρ2).bind (exs F M b) = exs F M b ρ2 from rfl, e] at h1
        have h1 : ErrS X Z T er σ H1 ρ1 W1 := h1
        exact fun σ4 H4 ρ4 W4 g4 => h1 _ _ _ _ (gl.s.trans (gg.trans g4))
      | ok q =>
        obtain ⟨f, ρ4⟩ := q
        rw [show (Rs.ok ρ2).bind (exs F M b) = exs F M b ρ2 from rfl, e] at h1 ei
        cases f with
        | nx => exact fun σ4 H4 W4 g4 => ⟨ρ4, W4, g4.rel, gg.trans g4, ei⟩
        | ct => exact fun σ4 H4 W4 g4 => ⟨ρ4, W4, g4.rel, gg.trans g4, ei⟩
        | bk =>
          intro σ4 H4 W4 g4
          have h1 : PostS X Z T ((unlock (lockP p ρ1).1 ρ4).bind fun ρ => .ok (.nx, ρ)) σ H1 ρ1 W1 En := h1
          obtain ⟨ρ5, e5, h1⟩ := PostS.val .unlock h1
          exact h1 _ _ _ (unlock_go g1.rel (gg.trans g4) e5)
        | rt p2 =>
          intro v σ4 H4 W4 o4
          have h1 : EndS T σ H1 ρ1 W1 En (.rt p2) ρ4 := h1
          exact h1 v _ _ _ ((gl.s.trans gg).out o4)
  · have e : i = l.length := by omega
    subst e
    refine .inl ⟨fs, ?_⟩
    rw [List.drop_length] at ei
    rw [ei] at h1
    have h1 : PostS X Z T ((unlock (lockP p ρ1).1 ρi).bind fun ρ => .ok (.nx, ρ)) σ H1 ρ1 W1 En := h1
    obtain ⟨ρ5, e5, h1⟩ := PostS.val .unlock h1
    exact h1 _ _ _ (unlock_go g1.rel gi e5)
end
end Dv

set_option Elab.async false
set_option linter.all false
set_option maxRecDepth 100000
set_option maxHeartbeats 2000000
namespace Dv
open PySem PySem.Spec PyProof.Rows L2

section
variable {X : Cx} {Z : WX} {T : Tc} {F : Fn} {G : Gn} {np : Nat} {σ σ' σ1 : Sg} {H H0 H1 H2 H' : Hp} {ρ ρ1 ρ2 ρ' ρf ρb ρq : Env'} {W W1 W2 W' : AS} {K : PySem.W.Frag} {ds : List D} {sc : Scope} {N : List Str} {En : Ends} {M : Nat}
/-! ### data without lists, wherever lists may change -/
mutual
theorem RepD.anyW : ∀ {d : D} {v : V}, noL d = true → RepD K H W v d → RepD K H W' v d
  | .non, _, _, h => h
  | .bl _, _, _, h => h
  | .int _, _, _, h => h
  | .str _, _, _, h => h
  | .tup _, _, n, h => by
    obtain ⟨a, vs, e, q, r⟩ := h
    exact ⟨a, vs, e, q, RepDs.anyW n r⟩
  | .lst _, _, n, _ => by cases n
  | .scr _, _, n, _ => by cases n
  | .dic _ _, _, n, _ => by cases n
theorem RepDs.anyW : ∀ {ds : List D} {vs : List V}, noLs ds = true → RepDs K H W vs ds → RepDs K H W' vs ds
  | [], _, _, h => h
  | _ :: _, _, n, h => by
    obtain ⟨v, r, e, q, s⟩ := h
    obtain ⟨n1, n2⟩ := and2 n
    exact ⟨v, r, e, RepD.anyW n1 q, RepDs.anyW n2 s⟩
end
mutual
theorem RepD.ofT : ∀ {d : D} {v : V}, RepD K H (fun _ => True) v d → RepD K H W v d
  | .non, _, h => h
  | .bl _, _, h => h
  | .int _, _, h => h
  | .str _, _, h => h
  | .tup _, _, h => by
    obtain ⟨a, vs, e, q, r⟩ := h
    exact ⟨a, vs, e, q, RepDs.ofT r⟩
  | .lst _, _, h => by
    obtain ⟨a, vs, e, q, w, r⟩ := h
    exact absurd trivial w
  | .scr _, _, h => by
    obtain ⟨a, e, q⟩ := h
    rcases q with ⟨_, w⟩ | q | q
    · exact absurd trivial w
    · exact ⟨a, e, .inr (.inl q)⟩
    · exact ⟨a, e, .inr (.inr q)⟩
  | .dic _ _, _, h => by
    obtain ⟨a, vs, e, q, w, k, r⟩ := h
    exact absurd trivial w
theorem RepDs.ofT : ∀ {ds : List D} {vs : List V}, RepDs K H (fun _ => True) vs ds → RepDs K H W vs ds
  | [], _, h => h
  | _ :: _, _, h => by
    obtain ⟨v, r, e, q, s⟩ := h
    exact ⟨v, r, e, RepD.ofT q, RepDs.ofT s⟩
end
theorem RepDs.rev : ∀ {ds : List D} {vs : List V}, RepDs K H W vs ds → RepDs K H W vs.reverse ds.reverse
  | [], _, h => by rw [show _ = [] from h]; exact rfl
  | _ :: _, _, h => by
    obtain ⟨v, r, rfl, q, s⟩ := h
    rw [List.reverse_cons, List.reverse_cons]
    exact (RepDs.rev s).append (.one q)

/-! ### raise -/
theorem zip_rev_fst {α β : Type} : ∀ {l : List α} {m : List β}, l.length = m.length → (l.zip m).map (·.1) = l ∧ (l.zip m).map (·.2) = m
  | [], [], _ => ⟨rfl, rfl⟩
  | [], _ :: _, h => by cases h
  | _ :: _, [], h => by cases h
  | a :: l, b :: m, h => by
    obtain ⟨h1, h2⟩ := zip_rev_fst (l := l) (m := m) (by simpa using h)
    exact ⟨by rw [List.zip_cons_cons, List.map_cons, h1], by rw [List.zip_cons_cons, List.map_cons, h2]⟩
theorem zip_rev {α β γ : Type} {l : List α} {m : List β} {k : List γ} (h1 : l.length = m.length) (h2 : l.length = k.length) : (l.zip k).reverse = ((l.zip m).reverse.map (·.1)).zip k.reverse := by
  rw [List.map_reverse, (zip_rev_fst h1).1, List.zip_eq_zipWith, List.zip_eq_zipWith]
  rw [List.reverse_zipWith h2]
theorem st_rz {c : Str} {fs : List Str} {es : Exs} {p pos pos2 : Pos} {l' : List Expr} (E : Env1 X T F Z G np) (hg : Gl X c) (hn : (c == ("__debug__" : Str)) = false) {q : ErC} (hq : q ∈ G.ec) (hnm : q.nm = c) (hfl : q.fl = fs) (hne : l' ≠ []) (he : PA X l' (tA X T F Z es)) (st : ∀ a ∈ l', notStar a = true) :
    PS X (.Raise (some (.Call (.Name c p) l' [] pos)) none pos2) (tS X T Z (ex F M (.rz c fs es))) := by
  subst hnm hfl
  obtain ⟨D, hm, k⟩ := E.ec q hq
  cases l' with
  | nil => exact absurd rfl hne
  | cons e' l' =>
  have kf : ∃ f0 fr, q.fl = f0 :: fr := by
    cases h : q.fl with
    | nil => exact absurd h k.ne
    | cons a b => exact ⟨a, b, rfl⟩
  obtain ⟨f0, fr, hfl⟩ := kf
  have kx := k.x
  rw [hfl] at kx
  have hmk := pmk_exi (p := p) (pos := pos) kx hm hg (E.rm fun z => by rw [z] at hq; cases hq) he (by have := k.ln; rw [hfl] at this; simp at this; omega) hn (star_of (st e' List.mem_cons_self)) (plain_of fun a h => st a (List.mem_cons_of_mem _ h))
  refine wkS (ps_raise E.calm E.tz hmk) ?_
  rintro En σ H ⟨ρ, W, R, h⟩
  refine ⟨ρ, W, R, (PostE.bind (r := evs F es ρ) h).post R fun ps ρ1 h1 vs H1 W1 o1 => ?_⟩
  obtain ⟨⟨ds, ρ2⟩, ed, h2⟩ := PostS.val .of h1
  dsimp only at h2
  have h3 : (ds.length = q.fl.length ∧ noLs ds = true) ∧ ErrS X Z T ⟨q.nm, (q.fl.zip ds).reverse⟩ σ H ρ W := by
    unfold need at h2
    split at h2
    · exact ⟨by assumption, h2⟩
    · exact h2.elim
  obtain ⟨⟨hl, nl⟩, h3⟩ := h3
  obtain ⟨W2, g, r⟩ := o1.data (of_ok ed)
  have hlv : vs.length = q.fl.length := by rw [r.length]; exact hl
  refine ⟨by rw [hlv, hfl], fun d hd => ?_⟩
  refine h3 _ _ _ _ g.s (.ref D) (some d) _ ⟨hm, .inr ⟨d, vs.reverse, rfl, ?_, ?_⟩⟩ fun b o hb _ => by rw [upd_ne (ne_of_none hb hd)]; exact hb
  · rw [upd_same, ← hfl]
    congr 2
    exact zip_rev (by rw [hl]) (by rw [hlv])
  · rw [List.map_reverse, (zip_rev_fst (by rw [hl])).2]
    have ad : Adv H1 W2 (upd H1 d (.xd ((f0 :: fr).zip vs).reverse)) W2 := adv_new hd
    have r2 := ((r.adv g.rel.wl ad).anyW (W' := fun _ => True) nl).rev
    rw [← E.tk]
    exact r2

/-! ### all slots locked -/
theorem lockA_get {i : Nat} : (lockA ρ)[i]? = (ρ[i]?).map fun o => o.map S.lock := by
  unfold lockA
  rw [List.getElem?_map]
theorem lock_lck {s : S} {b : Bool} {d : D} (h : s.lock = .lck b d) : s = .own b d ∨ s = .lck b d := by
  cases s <;> simp [S.lock] at h <;> simp [h]
theorem lockA_own {i : Nat} {b : Bool} {d : D} : (lockA ρ)[i]? ≠ some (some (.own b d)) := fun h => by
  rw [lockA_get] at h
  cases e : ρ[i]? with
  | none => rw [e] at h; cases h
  | some o =>
    rw [e] at h
    cases o with
    | none => cases h
    | some s => cases s <;> cases h
theorem lockA_lck {i : Nat} {b : Bool} {d : D} : (lockA ρ)[i]? = some (some (.lck b d)) ↔ ρ[i]? = some (some (.own b d)) ∨ ρ[i]? = some (some (.lck b d)) := by
  rw [lockA_get]
  cases e : ρ[i]? with
  | none => simp
  | some o =>
    cases o with
    | none => simp
    | some s => cases s <;> simp [S.lock]
theorem lockA_bor {i : Nat} : (∃ s, (lockA ρ)[i]? = some (some s) ∧ isBor s) ↔ ∃ s, ρ[i]? = some (some s) ∧ isBor s := by
  rw [lockA_get]
  cases e : ρ[i]? with
  | none => simp
  | some o =>
    cases o with
    | none => simp
    | some s =>
      cases s with
      | own b d => cases b <;> simp [S.lock, isBor]
      | _ => simp [S.lock, isBor]
theorem ownA_lockA {i : Nat} {a : Addr} : OwnA σ (lockA ρ) i a ↔ OwnA σ ρ i a := by
  unfold OwnA
  constructor
  · rintro ⟨h | ⟨b, d, h⟩, h2⟩
    · obtain ⟨b, d, h⟩ := h; exact absurd h lockA_own
    · rcases lockA_lck.mp h with h | h
      · exact ⟨.inl ⟨b, d, h⟩, h2⟩
      · exact ⟨.inr ⟨b, d, h⟩, h2⟩
  · rintro ⟨⟨b, d, h⟩ | ⟨b, d, h⟩, h2⟩
    · exact ⟨.inr ⟨b, d, lockA_lck.mpr (.inl h)⟩, h2⟩
    · exact ⟨.inr ⟨b, d, lockA_lck.mpr (.inr h)⟩, h2⟩
theorem ownU_lockA {i : Nat} {a : Addr} : ¬ OwnU σ (lockA ρ) i a := fun ⟨⟨b, d, h⟩, _⟩ => lockA_own h
theorem rel_lockA : Rel T σ H (lockA ρ) W ↔ Rel T σ H ρ W := by
  have hs : ∀ (o : Option V) (s : S), RelS T H W o s.lock ↔ RelS T H W o s := fun o s => by cases s <;> exact Iff.rfl
  constructor
  · intro R
    refine ⟨by rw [← R.len]; simp [lockA], fun i s h => ?_, fun i j a h1 h2 => R.sep i j a (ownA_lockA.mpr h1) (ownA_lockA.mpr h2), R.wl, fun i d a h hv => ?_, R.fzk, fun i a h => ?_⟩
    · obtain ⟨o, e, q⟩ := R.at_ i s.lock (by rw [lockA_get, h]; rfl)
      exact ⟨o, e, (hs o s).mp q⟩
    · exact R.fr i d a (.inr (lockA_lck.mpr h)) hv
    · obtain ⟨h1, h2⟩ := R.bor i a h
      exact ⟨h1, lockA_bor.mp h2⟩
  · intro R
    refine ⟨by rw [← R.len]; simp [lockA], fun i s h => ?_, fun i j a h1 h2 => R.sep i j a (ownA_lockA.mp h1) (ownA_lockA.mp h2), R.wl, fun i d a h hv => ?_, R.fzk, fun i a h => ?_⟩
    · rw [lockA_get] at h
      cases e : ρ[i]? with
      | none => rw [e] at h; cases h
      | some u =>
        rw [e] at h
        cases u with
        | none => cases h
        | some s' =>
          cases h
          obtain ⟨o, e, q⟩ := R.at_ i s' e
          exact ⟨o, e, (hs o s').mpr q⟩
    · rcases h with h | h
      · exact absurd h lockA_own
      · exact R.fr i d a (lockA_lck.mp h) hv
    · obtain ⟨h1, h2⟩ := R.bor i a h
      exact ⟨h1, lockA_bor.mpr h2⟩
/-- more objects -/
theorem Rel.more (R : Rel T σ H ρ W) (k : ∀ b o, H b = some o → H' b = some o) : Rel T σ H' ρ W := by
  have ad : Adv H W H' W := fun b o e w => ⟨k b o e, w⟩
  refine ⟨R.len, fun i s e => ?_, R.sep, fun x w => ?_, R.fr, fun x h => R.fzk x ?_, R.bor⟩
  · obtain ⟨o, e1, q⟩ := R.at_ i s e
    refine ⟨o, e1, ?_⟩
    cases s with
    | val d => obtain ⟨v, e2, r⟩ := q; exact ⟨v, e2, r.adv R.wl ad⟩
    | brz d => obtain ⟨v, e2, r⟩ := q; exact ⟨v, e2, r.adv R.wl ad⟩
    | own b d => obtain ⟨c, ob, e2, e3, w, r⟩ := q; exact ⟨c, ob, e2, k _ _ e3, w, r.adv R.wl ad⟩
    | lck b d => obtain ⟨c, ob, e2, e3, w, r⟩ := q; exact ⟨c, ob, e2, k _ _ e3, w, r.adv R.wl ad⟩
  · obtain ⟨o, e, m⟩ := R.wl x w
    exact ⟨o, k _ _ e, m⟩
  · cases e : H x with
    | none => rfl
    | some o => rw [k x o e] at h; cases h
theorem GoS.more (R : Rel T σ H ρ W) (k : ∀ b o, H b = some o → H' b = some o) : GoS T σ H ρ W σ H' ρ W := by
  refine ⟨R.more k, fun b o e n => ⟨k b o e, n, Iff.rfl⟩, fun x h => ?_, fun i a h => .inl ⟨i, h⟩, fun i b d h => ⟨h, rfl⟩⟩
  cases e : H x with
  | none => rfl
  | some o => rw [k x o e] at h; cases h
/-- what runs with all slots locked changes nothing that stood -/
theorem Go.unlockA (R : Rel T σ H ρ W) (g : Go T σ H (lockA ρ) W H' (lockA ρ) W') : GoS T σ H ρ W σ H' ρ W' :=
  ⟨rel_lockA.mp g.rel, fun b o e n => ⟨(g.step b o e fun i => ownU_lockA).1, n, (g.step b o e fun i => ownU_lockA).2.2⟩, g.dom, fun i a h => .inl ⟨i, h⟩, fun i b d h => ⟨h, rfl⟩⟩

/-! ### a try's body -/
def PostB (X : Cx) (Z : WX) (T : Tc) (r : Rs Tr) (σ : Sg) (H : Hp) (ρ : Env') (W : AS) (En : Ends) : Prop := match r with
  | .ok (.fin q) => EndS T σ H ρ W En q.1 q.2
  | .ok (.thr er ρ1) => ∀ σ1 H1 W1, GoS T σ H ρ W σ1 H1 ρ1 W1 → ∀ cls d H', ErrR X.mg X.K er cls d H' → (∀ b o, H1 b = some o → H' b = some o) → Z cls d σ1 H'
  | _ => False
def tBd (X : Cx) (T : Tc) (Z : WX) (f : Env' → Rs Tr) : TS := fun D σ H => ∃ ρ W, Rel T σ H ρ W ∧ PostB X Z T (f ρ) σ H ρ W D
theorem PostB.move {r : Rs Tr} (h : PostB X Z T r σ H ρ W En) (g : GoS T σ H ρ W σ1 H1 ρ1 W1) : PostB X Z T r σ1 H1 ρ1 W1 En := by
  cases r with
  | ok t =>
    cases t with
    | fin q => exact EndS.move h g
    | thr er ρ2 => exact fun σ2 H2 W2 g2 => h _ _ _ (g.trans g2)
  | err er => exact h
  | bad => exact h
theorem sb_nil : PSs X [] (tBd X T Z (exT F M .nil)) := by
  refine wkSs pss_nil ?_
  rintro En σ H ⟨ρ, W, R, h⟩
  exact h _ _ _ (GoS.refl R)
theorem sb_cons {t : Tb} {l : Tbs} {s' : Stmt} {l' : List Stmt} (h1 : PS X s' (tBd X T Z (exT1 F M t))) (h2 : PSs X l' (tBd X T Z (exT F M l))) : PSs X (s' :: l') (tBd X T Z (exT F M (.cons t l))) := by
  refine wkSs (pss_cons h1 h2) ?_
  rintro En σ H ⟨ρ, W, R, h⟩
  refine ⟨ρ, W, R, ?_⟩
  have h : PostB X Z T ((exT1 F M t ρ).bind fun q => match q with
    | .fin (.nx, ρ') => exT F M l ρ'
    | q => .ok q) σ H ρ W En := h
  cases e : exT1 F M t ρ with
  | bad => rw [e] at h; exact h
  | err er => rw [e] at h; exact h
  | ok q =>
    rw [e] at h
    cases q with
    | thr er ρ1 => exact h
    | fin q =>
      obtain ⟨f, ρ1⟩ := q
      cases f with
      | nx => exact fun σ' H' W' g => ⟨ρ1, W', g.rel, PostB.move h g⟩
      | bk => exact h
      | ct => exact h
      | rt p => exact h
theorem sb_thr {o : Option Nat} {e : Ex} {r : Env' → D → Rs Tr} (R : Rel T σ H ρ W) {k : D → Prop}
    (h : PostB X Z T (match ev F e (lockA ρ) with
      | .ok (.val d, ρ1) => need (ρ1 = lockA ρ) (r ρ d)
      | .ok _ => .bad
      | .err er => .ok (.thr er ρ)
      | .bad => .bad) σ H ρ W En) {Q : VK}
    (q : ∀ v H' W' d, GoS T σ H ρ W σ H' ρ W' → RepD T.K H' W' v d → PostB X Z T (r ρ d) σ H ρ W En → Q v H') : tE X T F Z e σ H Q := by
  refine ⟨lockA ρ, W, rel_lockA.mpr R, ?_⟩
  cases ee : ev F e (lockA ρ) with
  | bad => rw [ee] at h; exact h.elim
  | err er =>
    rw [ee] at h
    intro cls d H' he k
    exact h σ H W (GoS.refl R) cls d H' he fun b o hb => k b o hb fun i => ownU_lockA
  | ok y =>
    obtain ⟨p, ρ1⟩ := y
    rw [ee] at h
    cases p with
    | own d => exact h.elim
    | at_ i => exact h.elim
    | val d =>
      have h2 : PostB X Z T (need (ρ1 = lockA ρ) (r ρ d)) σ H ρ W En := h
      clear h
      unfold need at h2
      split at h2
      · rename_i e1
        subst e1
        exact fun v H' W' o => q v H' W' d (Go.unlockA R o.go) o.rep h2
      · exact h2.elim
theorem sb_thrN {e : Ex} {v : Expr} {pos : Pos} (hn : notComp v = true) (he : PE X v (tE X T F Z e)) : PS X (.Expr v pos) (tBd X T Z (exT1 F M (.thr none e))) := by
  refine wkS (ps_expr he (swap_no hn)) ?_
  rintro En σ H ⟨ρ, W, R, h⟩
  refine sb_thr (o := none) (k := fun _ => True) (r := fun ρ d => .ok (.fin (.nx, ρ))) R ?_ fun v H' W' d g rp h2 => h2 _ _ _ g
  have h : PostB X Z T (match ev F e (lockA ρ) with
    | .ok (.val d, ρ1) => need (ρ1 = lockA ρ) (.ok (.fin (.nx, ρ)))
    | .ok _ => .bad
    | .err er => .ok (.thr er ρ)
    | .bad => .bad) σ H ρ W En := h
  exact h
theorem sb_thrS {i : Nat} {e : Ex} {y : Str} {py pos : Pos} {v : Expr} (hN : X.N.Nodup) (hi : X.N[i]? = some y) (hl : Loc X.env.scope y) (hf : X.fn y = true) (hn : notComp v = true) (he : PE X v (tE X T F Z e)) : PS X (.Assign [.Name y py] v pos) (tBd X T Z (exT1 F M (.thr (some i) e))) := by
  refine wkS (ps_set hN hi hl he (swap_no hn) (.inl hf)) ?_
  rintro En σ H ⟨ρ, W, R, h⟩
  refine sb_thr (En := En) (o := some i) (k := fun _ => True) (r := fun ρ d => (putV i d ρ).bind fun ρ' => .ok (.fin (.nx, ρ'))) R ?_ fun v H' W' d g rp h2 => ?_
  · exact (show PostB X Z T (exT1 F M (.thr (some i) e) ρ) σ H ρ W En from h)
  cases e1 : putV i d ρ with
  | bad => rw [e1] at h2; exact h2.elim
  | err er => exact absurd e1 (NoErr.putV er)
  | ok ρ' =>
    rw [e1] at h2
    obtain ⟨g2, _⟩ := put_go g.rel e1 rp
    exact h2 _ _ _ (g.trans g2)
theorem sb_qt {s : Sx} {s' : Stmt} (h : PS X s' (tS X T Z (ex F M s))) : PS X s' (tBd X T Z (exT1 F M (.qt s))) := by
  refine wkS h ?_
  rintro En σ H ⟨ρ, W, R, h⟩
  refine ⟨ρ, W, R, ?_⟩
  have h : PostB X Z T ((ex F M s ρ).quiet.bind fun q => .ok (.fin q)) σ H ρ W En := h
  cases e : ex F M s ρ with
  | bad => rw [e] at h; exact h.elim
  | err er => rw [e] at h; exact h.elim
  | ok q => rw [e] at h; exact h
theorem sb_ite {c : Tx} {a b : Tbs} {c' : Expr} {a' b' : List Stmt} {pos : Pos} (hc : PT X c' (tT X T F Z c)) (ha : PSs X a' (tBd X T Z (exT F M a))) (hb : PSs X b' (tBd X T Z (exT F M b))) : PS X (.If c' a' b' pos) (tBd X T Z (exT1 F M (.ite c a b))) := by
  refine wkS (ps_if hc ha hb) ?_
  rintro En σ H ⟨ρ, W, R, h⟩
  have h : PostB X Z T ((evT F c ρ).quiet.bind fun r => match r.1 with
    | true => exT F M a r.2
    | false => exT F M b r.2) σ H ρ W En := h
  refine ⟨ρ, W, R, ?_⟩
  cases e : evT F c ρ with
  | bad => rw [e] at h; exact h.elim
  | err er => rw [e] at h; exact h.elim
  | ok q =>
    obtain ⟨k, ρ1⟩ := q
    rw [e] at h
    intro H1 W1 g1
    cases k with
    | true => rw [if_pos rfl]; exact ⟨ρ1, W1, g1.rel, PostB.move h g1.s⟩
    | false => rw [if_neg (by simp)]; exact ⟨ρ1, W1, g1.rel, PostB.move h g1.s⟩
end
end Dv

set_option Elab.async false
set_option linter.all false
set_option maxRecDepth 100000
set_option maxHeartbeats 2000000
namespace Dv
open PySem PySem.Spec PyProof.Rows L2

theorem local_of {sc : Scope} {x : Str} (h : isLocal sc x = true) : sc.names.lookup x = some .local := by
  unfold isLocal at h
  split at h
  · rename_i e; exact e
  · cases h
def KeepH (H H' : Hp) : Prop := ∀ b o, H b = some o → H' b = some o
theorem KeepH.refl {H : Hp} : KeepH H H := fun _ _ h => h
theorem KeepH.trans {H H1 H2 : Hp} (a : KeepH H H1) (b : KeepH H1 H2) : KeepH H H2 := fun x o h => b x o (a x o h)
theorem KeepH.new {H : Hp} {a : Addr} {o : HO} (n : H a = none) : KeepH H (upd H a o) := fun b u h => by rw [upd_ne (ne_of_none h n)]; exact h
section
variable {X : Cx} {Z : WX} {T : Tc} {F : Fn} {G : Gn} {np : Nat} {σ σ' σ1 : Sg} {H H0 H1 H2 H' : Hp} {ρ ρ1 ρ2 ρ' ρf ρb ρq : Env'} {W W1 W2 W' : AS} {K : PySem.W.Frag} {ds : List D} {sc : Scope} {N : List Str} {En : Ends} {M : Nat}
theorem pe_not {e : Expr} {t : TE} (h : ∀ σ H Q, ¬ t σ H Q) : PE X e t := ⟨fun pins s σ H Q I q => (h _ _ _ q).elim⟩
theorem pt_no {e : Expr} {t : TT} (h : ∀ σ H Q, ¬ t σ H Q) : PT X e t := ⟨fun pins s σ H Q I q => (h _ _ _ q).elim⟩
/-- a slot emptied -/
theorem none_go (R : Rel T σ H ρ W) {i : Nat} {x : Option V} (hf : freeSlot i ρ = true) : GoS T σ H ρ W (σ.set i x) H (ρ.set i none) W := by
  obtain ⟨nb, nl, hi⟩ := free_bor hf
  have back : ∀ (j : Nat) (s : S), (ρ.set i none)[j]? = some (some s) → i ≠ j ∧ ρ[j]? = some (some s) := fun j s h => by
    rcases getq_set h with ⟨rfl, k, _⟩ | ⟨ne, k⟩
    · cases k
    · exact ⟨ne, k⟩
  have own : ∀ j a, OwnA (σ.set i x) (ρ.set i none) j a → OwnA σ ρ j a := fun j a ⟨h1, h2⟩ => by
    rcases h1 with ⟨c, y, h1⟩ | ⟨c, y, h1⟩
    all_goals
      obtain ⟨ne, k⟩ := back _ _ h1
      rw [List.getElem?_set_ne ne] at h2
    · exact ⟨.inl ⟨c, y, k⟩, h2⟩
    · exact ⟨.inr ⟨c, y, k⟩, h2⟩
  refine ⟨⟨by simp [R.len], fun j s h => ?_, fun j k a h1 h2 => R.sep j k a (own j a h1) (own k a h2), R.wl, fun j d a h1 h2 => ?_, R.fzk, fun j b h => ?_⟩, fun b o h n => ⟨h, fun j z => n j ?_, Iff.rfl⟩, fun _ h => h, fun j a h => .inl ⟨j, own j a h⟩, fun j c y h => ?_⟩
  · obtain ⟨ne, k⟩ := back _ _ h
    rw [List.getElem?_set_ne ne]
    exact R.at_ j s k
  · rcases h1 with h1 | h1
    all_goals
      obtain ⟨ne, k⟩ := back _ _ h1
      rw [List.getElem?_set_ne ne] at h2
    · exact R.fr j d a (.inl k) h2
    · exact R.fr j d a (.inr k) h2
  · obtain ⟨h1, s, h2, h3⟩ := R.bor j b h
    have ne : i ≠ j := fun z => by subst z; exact nb s h2 h3
    exact ⟨by rw [List.getElem?_set_ne ne]; exact h1, s, by rw [List.getElem?_set_ne ne]; exact h2, h3⟩
  · obtain ⟨⟨c, y, h1⟩, h2⟩ := z
    obtain ⟨ne, k⟩ := back _ _ h1
    rw [List.getElem?_set_ne ne] at h2
    exact ⟨⟨c, y, k⟩, h2⟩
  · have ne : i ≠ j := fun z => by subst z; exact nl c y h
    exact ⟨by rw [List.getElem?_set_ne ne]; exact h, by rw [List.getElem?_set_ne ne]⟩

/-! ### an except suite -/
/-- the caught exception: at slot j, its class, its dict -/
structure Hnd (X : Cx) (T : Tc) (G : Gn) (er : Er) (p : ErC) (a : Addr) (cls : Value) (d : Option Addr) (j : Nat) (σ : Sg) (H : Hp) (ρ : Env') (W : AS) : Prop where
  rel : Rel T σ H ρ W
  pin : p ∈ G.ec
  fl : er.val.map (·.1) = p.fl.reverse
  cl : ∃ D, X.mg p.nm = some (.ref D) ∧ cls = .ref D
  sl : σ[j]? = some (some (.ref a))
  pj : ρ[j]? = some none
  vs : ∃ dd vs, d = some dd ∧ H dd = some (.xd ((er.val.map (·.1)).zip vs)) ∧ RepDs T.K H W vs (er.val.map (·.2))
variable {er : Er} {p : ErC} {a : Addr} {cls : Value} {d : Option Addr} {j : Nat} {oe : Obj} {pn : List (Addr × Obj)}
theorem adv_keep (k : KeepH H H') : Adv H W H' W := fun b o e w => ⟨k b o e, w⟩
theorem Hnd.more (h : Hnd X T G er p a cls d j σ H ρ W) (k : KeepH H H') : Hnd X T G er p a cls d j σ H' ρ W := by
  obtain ⟨dd, vs, e, q, r⟩ := h.vs
  exact ⟨h.rel.more k, h.pin, h.fl, h.cl, h.sl, h.pj, dd, vs, e, k _ _ q, r.adv h.rel.wl (adv_keep k)⟩
/-- what the module says of the classes -/
structure ClK (X : Cx) (T : Tc) (G : Gn) : Prop where
  tk : T.K = X.K
  ec : ∀ p ∈ G.ec, ∃ D, X.mg p.nm = some (.ref D) ∧ ErK X.prog X.K X.mg p D
  free : ∀ x ∈ G.free, X.mg x = none
  hi : ∀ f ∈ G.hi, HotK X.prog X.w X.K X.mg X.base f
  rh : G.hi ≠ [] → L2H.RoomH 1 X.A
theorem Hnd.clsK (h : Hnd X T G er p a cls d j σ H ρ W) (C : ClK X T G) : ∃ D, cls = .ref D ∧ ErK X.prog X.K X.mg p D := by
  obtain ⟨D, m, rfl⟩ := h.cl
  obtain ⟨D', m', k⟩ := C.ec p h.pin
  rw [m] at m'
  cases m'
  exact ⟨D, rfl, k⟩
def tHx (X : Cx) (T : Tc) (G : Gn) (a : Addr) (cls : Value) (d : Option Addr) (j : Nat) (e : Hx) : TE := fun σ H Q => ∃ er p ρ W, Hnd X T G er p a cls d j σ H ρ W ∧ match eh er e ρ with
  | .ok dd => ∀ v H', KeepH H H' → RepD T.K H' W v dd → Q v H'
  | _ => False
def tHxs (X : Cx) (T : Tc) (G : Gn) (a : Addr) (cls : Value) (d : Option Addr) (j : Nat) (l : Hxs) : TA := fun σ H Q => ∃ er p ρ W, Hnd X T G er p a cls d j σ H ρ W ∧ match ehs er l ρ with
  | .ok dd => ∀ v H', KeepH H H' → RepDs T.K H' W v dd → Q v H'
  | _ => False
def tHt (X : Cx) (T : Tc) (G : Gn) (a : Addr) (cls : Value) (d : Option Addr) (j : Nat) (t : Ht) : TT := fun σ H Q => ∃ er p ρ W, Hnd X T G er p a cls d j σ H ρ W ∧ match et er p t ρ with
  | .ok b => ∀ H', KeepH H H' → Q b H'
  | _ => False
theorem lookup_zip : ∀ {l : List Str} {vs : List V} {ds : List D} {f : Str} {x : D}, RepDs K H W vs ds → l.length = ds.length → (l.zip ds).lookup f = some x → ∃ v, (l.zip vs).lookup f = some v ∧ RepD K H W v x
  | [], _, _, _, _, _, _, e => by simp at e
  | g :: l, _, [], _, _, _, h, _ => by cases h
  | g :: l, _, d :: ds, f, x, r, h, e => by
    obtain ⟨v, t, rfl, q, s⟩ := r
    rw [List.zip_cons_cons, List.lookup_cons] at e ⊢
    cases hb : (f == g) with
    | true => rw [hb] at e; cases e; exact ⟨v, rfl, q⟩
    | false => rw [hb] at e; exact lookup_zip s (by simpa using h) e
theorem zip_self : ∀ (l : List (Str × D)), (l.map (·.1)).zip (l.map (·.2)) = l
  | [] => rfl
  | a :: l => by rw [List.map_cons, List.map_cons, List.zip_cons_cons, zip_self l]
theorem lookup_fst : ∀ {l : List (Str × D)} {f : Str} {x : D}, l.lookup f = some x → f ∈ l.map (·.1)
  | [], _, _, e => by cases e
  | (g, y) :: l, f, x, e => by
    rw [List.lookup_cons] at e
    cases hb : (f == g) with
    | true => exact List.mem_map.mpr ⟨(g, y), List.mem_cons_self, (beq_iff_eq.mp hb).symm⟩
    | false => rw [hb] at e; exact List.mem_cons_of_mem _ (lookup_fst e)
mutual
theorem hx_ok (C : ClK X T G) (hz : Zc cls d oe) (hf : ∃ vs, oe.data = .fields vs) {e : Str} (hj : X.N[j]? = some e) : ∀ (x : Hx) {x' : Expr}, ckHx X.N X.env.scope e x x' = true → PE (X.suite a ((a, oe) :: pn)) x' (tHx X T G a cls d j x)
  | .cst dd, x', h => by
    cases x' with
    | Constant c k pos =>
      obtain ⟨v, q, r⟩ := cst_ok (X := X.suite a ((a, oe) :: pn)) (k := k) (pos := pos) h
      refine wkE q ?_
      rintro σ H Q ⟨er, p, ρ, W, hh, q⟩
      exact q v H .refl (by rw [C.tk]; exact r H W)
    | _ => cases h
  | .var i, x', h => by
    cases x' with
    | Name x pos =>
      obtain ⟨h1, h2⟩ := and2 h
      obtain ⟨h3, h4⟩ := and2 h1
      obtain ⟨n1, n2, n3⟩ := name_of h2
      refine wkE (pe_var (X := X.suite a ((a, oe) :: pn)) (of_decide_eq_true h3) (vis_of h4) n1 n2) ?_
      rintro σ H Q ⟨er, p, ρ, W, hh, q⟩
      unfold eh at q
      cases e1 : ρ[i]? with
      | none => rw [e1] at q; exact q.elim
      | some o =>
        cases o with
        | none => rw [e1] at q; exact q.elim
        | some s =>
          cases s with
          | val dd =>
            rw [e1] at q
            obtain ⟨o, e2, v, rfl, r⟩ := hh.rel.at_ i _ e1
            exact ⟨v, e2, q v H .refl r⟩
          | _ => rw [e1] at q; exact q.elim
    | _ => cases h
  | .fld f, x', h => by
    cases x' with
    | Attribute o f' pos =>
      cases o with
      | Name x xp =>
        obtain ⟨h1, h2⟩ := and2 h
        obtain ⟨h3, h4⟩ := and2 h1
        obtain ⟨h5, h6⟩ := and2 h3
        obtain ⟨n1, n2, n3⟩ := name_of h4
        have hx : x = e := of_decide_eq_true h5
        have hff : f' = f := of_decide_eq_true h2
        subst hx hff
        by_cases k : ∃ D dd, cls = .ref D ∧ d = some dd ∧ XfC X.K D ∧ PySem.W.findIn X.K (.ref D) f' = some none
        · obtain ⟨D, dd, rfl, rfl, k1, k2⟩ := k
          refine wkE (pe_xf (X := X) (a := a) (pn := pn) k1 k2 hz hf (pe_var (X := X.suite a ((a, oe) :: pn)) hj (vis_of h6) n1 n2)) ?_
          rintro σ H Q ⟨er, p, ρ, W, hh, q⟩
          obtain ⟨dd', vs, e1, e2, r⟩ := hh.vs
          cases e1
          unfold eh at q
          cases e3 : er.val.lookup f' with
          | none => rw [e3] at q; exact q.elim
          | some z =>
            rw [e3] at q
            obtain ⟨v, e4, r2⟩ := lookup_zip (l := er.val.map (·.1)) r (by simp) (by rw [zip_self]; exact e3)
            exact ⟨_, hh.sl, rfl, rfl, dd, _, v, rfl, e2, e4, q v H .refl r2⟩
        · refine pe_not ?_
          rintro σ H Q ⟨er, p, ρ, W, hh, q⟩
          obtain ⟨D, rfl, kk⟩ := hh.clsK C
          obtain ⟨dd, vs, rfl, e2, r⟩ := hh.vs
          refine k ⟨D, dd, rfl, rfl, kk.f, kk.x.no f' ?_⟩
          unfold eh at q
          cases e3 : er.val.lookup f' with
          | none => rw [e3] at q; exact q.elim
          | some z =>
            have := lookup_fst e3
            rw [hh.fl, List.mem_reverse] at this
            exact this
      | _ => cases h
    | _ => cases h
  | .tup l, x', h => by
    cases x' with
    | Tuple l' k pos =>
      refine wkE (pe_tup (hxs_ok C hz hf hj l h)) ?_
      rintro σ H Q ⟨er, p, ρ, W, hh, q⟩
      refine ⟨er, p, ρ, W, hh, ?_⟩
      have q : match (ehs er l ρ).bind fun ds => need (ds.length ≤ sizeLine) (.ok (.tup ds)) with
        | .ok dd => ∀ v H', KeepH H H' → RepD T.K H' W v dd → Q v H'
        | _ => False := q
      cases e1 : ehs er l ρ with
      | bad => rw [e1] at q; exact q.elim
      | err x => rw [e1] at q; exact q.elim
      | ok ds =>
        rw [e1] at q
        by_cases hl : ds.length ≤ sizeLine
        · rw [show ((Rs.ok ds).bind fun ds => need (ds.length ≤ sizeLine) (Rs.ok (D.tup ds))) = Rs.ok (D.tup ds) from if_pos hl] at q
          intro vs H1 k1 r1
          refine ⟨by rw [r1.length]; exact hl, fun b nb => ?_⟩
          exact q _ _ (k1.trans (.new nb)) ⟨b, vs, rfl, .of upd_same, r1.adv (hh.rel.more k1).wl (adv_new nb)⟩
        · rw [show ((Rs.ok ds).bind fun ds => need (ds.length ≤ sizeLine) (Rs.ok (D.tup ds))) = Rs.bad from if_neg hl] at q
          exact q.elim
    | _ => cases h
theorem hxs_ok (C : ClK X T G) (hz : Zc cls d oe) (hf : ∃ vs, oe.data = .fields vs) {e : Str} (hj : X.N[j]? = some e) : ∀ (l : Hxs) {l' : List Expr}, ckHxs X.N X.env.scope e l l' = true → PA (X.suite a ((a, oe) :: pn)) l' (tHxs X T G a cls d j l)
  | .nil, l', h => by
    cases l' with
    | nil =>
      refine wkA pa_nil ?_
      rintro σ H Q ⟨er, p, ρ, W, hh, q⟩
      exact q [] H .refl rfl
    | cons _ _ => cases h
  | .cons x l, l', h => by
    cases l' with
    | nil => cases h
    | cons x' l' =>
      obtain ⟨h1, h2⟩ := and2 h
      obtain ⟨h3, h4⟩ := and2 h1
      refine wkA (pa_cons (hx_ok C hz hf hj x h4) (hxs_ok C hz hf hj l h2) (star_of h3)) ?_
      rintro σ H Q ⟨er, p, ρ, W, hh, q⟩
      refine ⟨er, p, ρ, W, hh, ?_⟩
      have q : match (eh er x ρ).bind fun d => (ehs er l ρ).bind fun ds => .ok (d :: ds) with
        | .ok dd => ∀ v H', KeepH H H' → RepDs T.K H' W v dd → Q v H'
        | _ => False := q
      cases e1 : eh er x ρ with
      | bad => rw [e1] at q; exact q.elim
      | err x => rw [e1] at q; exact q.elim
      | ok dx =>
        rw [e1] at q
        intro v H1 k1 r1
        refine ⟨er, p, ρ, W, hh.more k1, ?_⟩
        cases e2 : ehs er l ρ with
        | bad => rw [e2] at q; exact q.elim
        | err x => rw [e2] at q; exact q.elim
        | ok dl =>
          rw [e2] at q
          exact fun vs H2 k2 r2 => q (v :: vs) H2 (k1.trans k2) ⟨v, vs, rfl, r1.adv (hh.rel.more k1).wl (adv_keep k2), r2⟩
end
/-! #### tests -/
theorem glo_of {c : Str} {e : Expr} (h : isGlo X.env.scope c e = true) : ∃ p, e = .Name c p ∧ Gl X c ∧ (c == ("__debug__" : Str)) = false := by
  cases e with
  | Name y p =>
    obtain ⟨h1, h2⟩ := and2 h
    obtain ⟨h3, h4⟩ := and2 h1
    have : y = c := of_decide_eq_true h3
    subst this
    exact ⟨p, rfl, gl_of h4, (name_of h2).1⟩
  | _ => cases h
def refV (X : Cx) (c : Str) : V := match X.mg c with
  | some (.ref C) => .ref C
  | _ => .non
theorem refs_ok {Y : Cx} (hm : Y.mg = X.mg) (he : Y.env = X.env) : ∀ {cs : List Str} {l' : List Expr}, allGlo X.env.scope cs l' = true → (∀ c ∈ cs, ∃ C, X.mg c = some (.ref C)) → PA Y l' (fun σ H Q => Q (cs.map (refV X)) H) ∧ (∀ b ∈ l', notStar b = true) ∧ l'.length = cs.length
  | [], [], _, _ => ⟨pa_nil, fun b h => (List.not_mem_nil h).elim, rfl⟩
  | c :: cs, a :: l', h, k => by
    obtain ⟨h1, h2⟩ := and2 h
    obtain ⟨p, rfl, g, n⟩ := glo_of (X := X) h1
    obtain ⟨q, s, z⟩ := refs_ok (Y := Y) hm he h2 fun c' hc => k c' (List.mem_cons_of_mem _ hc)
    obtain ⟨C, hC⟩ := k c List.mem_cons_self
    have gY : Gl Y c := by unfold Gl at g ⊢; rw [he]; exact g
    refine ⟨wkA (pa_cons (pe_glob (v := .ref C) gY (by rw [hm]; exact hC) rfl n) q (star_of rfl)) fun σ H Q q => ?_, fun b hb => ?_, by rw [List.length_cons, List.length_cons, z]⟩
    · have : refV X c = .ref C := by unfold refV; rw [hC]
      rw [List.map_cons, this] at q
      exact q
    · rcases List.mem_cons.mp hb with rfl | hb
      · rfl
      · exact s b hb
  | [], _ :: _, h, _ => by cases h
  | _ :: _, [], h, _ => by cases h
theorem lookup_mem {l : List (Str × Bool)} {c : Str} {b : Bool} (h : l.lookup c = some b) : (c, b) ∈ l := by
  induction l with
  | nil => cases h
  | cons x l ih =>
    obtain ⟨y, z⟩ := x
    rw [List.lookup_cons] at h
    cases e : (c == y) with
    | true => rw [e] at h; cases h; rw [beq_iff_eq.mp e]; exact List.mem_cons_self
    | false => rw [e] at h; exact List.mem_cons_of_mem _ (ih h)
theorem erIs_ok {mg : Str → Option Value} {prog : Program} {D : Addr} {c : Str} {b : Bool} (k : ErK prog K mg p D) (h : erIs p c = .ok b) : ∃ C, mg c = some (.ref C) ∧ PySem.W.exmOne K (.ref D) (.ref C) = some b ∧ PySem.W.kitOne K (.ref D) (.ref C) = some b := by
  unfold erIs at h
  exact k.s (c, b) (lookup_mem (of_ok h))
theorem erAny_ok {D : Addr} (k : ErK X.prog X.K X.mg p D) : ∀ {cs : List Str} {b : Bool}, erAny p cs = .ok b → (∀ c ∈ cs, ∃ C, X.mg c = some (.ref C)) ∧ ∀ its : List Value, Vals (cs.map (refV X)) its → PySem.W.kitAny X.K (.ref D) its = some b
  | [], b, h => by
    cases h
    refine ⟨fun c hc => (by cases hc), fun its r => ?_⟩
    cases r
    rfl
  | c :: cs, b, h => by
    unfold erAny at h
    cases e : erIs p c with
    | bad => rw [e] at h; cases h
    | err x => rw [e] at h; cases h
    | ok z =>
      rw [e] at h
      change (erAny p cs).bind _ = _ at h
      cases e2 : erAny p cs with
      | bad => rw [e2] at h; cases h
      | err x => rw [e2] at h; cases h
      | ok r =>
        rw [e2] at h
        cases h
        obtain ⟨C, h1, _, h3⟩ := erIs_ok k e
        obtain ⟨g1, g2⟩ := erAny_ok k e2
        have hv : refV X c = .ref C := by unfold refV; rw [h1]
        refine ⟨fun c' hc => ?_, fun its r => ?_⟩
        · rcases List.mem_cons.mp hc with rfl | hc
          · exact ⟨C, h1⟩
          · exact g1 c' hc
        · rw [List.map_cons, hv] at r
          cases r with
          | cons r1 r2 =>
            cases r1
            unfold PySem.W.kitAny
            rw [h3]
            cases z with
            | true => rfl
            | false => exact g2 _ r2
theorem isx_args {x y : Str} (C : ClK X T G) (hz : Zc cls d oe) (hf : ∃ vs, oe.data = .fields vs) (hj : X.N[j]? = some y) (hx : x = "isinstance") (gx : Gl X x) (fx : x ∈ G.free) (vy : Vis X.env.scope y) (ny : okName y = true)
    {a' : Expr} (ta : TE) (sa : notStar a' = true) (pa : PE (X.suite a ((a, oe) :: pn)) a' ta) {px py pos : Pos} {D dd : Addr} (ec : cls = .ref D) (ed : d = some dd) (k : XcC X.K D) :
    PE (X.suite a ((a, oe) :: pn)) (.Call (.Name x px) [.Name y py, a'] [] pos) (tCB (rIsX X.K D a dd) (fun σ H Q => ∃ v, σ[j]? = some (some v) ∧ ta σ H fun u H1 => Q [v, u] H1)) := by
  subst hx ec ed
  obtain ⟨n1, n2, n3⟩ := name_of ny
  exact pe_callB (X := X.suite a ((a, oe) :: pn)) (call_isX k hz hf) gx (C.free _ fx) PyProof.Rows.boot_isinstance (pa_cons (pe_var (X := X.suite a ((a, oe) :: pn)) hj vy n1 n2) (pa_cons pa pa_nil (star_of sa)) (star_of rfl)) (by decide +kernel) (by decide +kernel) (star_of rfl) (plain_of fun c hc => by
        rcases List.mem_cons.mp hc with rfl | hc
        · exact sa
        · cases hc)
def tHand (X : Cx) (T : Tc) (G : Gn) (a : Addr) (cls : Value) (d : Option Addr) (j : Nat) (t : Hts) : TT := fun σ H Q => ∃ er p ρ W, Hnd X T G er p a cls d j σ H ρ W ∧ match etAnd er p t ρ with
  | .ok b => ∀ H', KeepH H H' → Q b H'
  | _ => False
def tHor (X : Cx) (T : Tc) (G : Gn) (a : Addr) (cls : Value) (d : Option Addr) (j : Nat) (t : Hts) : TT := fun σ H Q => ∃ er p ρ W, Hnd X T G er p a cls d j σ H ρ W ∧ match etOr er p t ρ with
  | .ok b => ∀ H', KeepH H H' → Q b H'
  | _ => False
mutual
theorem ht_ok (C : ClK X T G) (hz : Zc cls d oe) (hf : ∃ vs, oe.data = .fields vs) {e : Str} (hj : X.N[j]? = some e) : ∀ (t : Ht) {t' : Expr}, ckHt G X.N X.env.scope e t t' = true → PT (X.suite a ((a, oe) :: pn)) t' (tHt X T G a cls d j t)
  | .isx c, t', h => by
    unfold ckHt at h
    split at h
    · rename_i c0 x px y py a' pos heq
      cases heq
      obtain ⟨h1, h2⟩ := and2 h
      obtain ⟨h3, h4⟩ := and2 h1
      obtain ⟨h5, h6⟩ := and2 h3
      obtain ⟨h7, h8⟩ := and2 h5
      obtain ⟨h9, h10⟩ := and2 h7
      obtain ⟨h11, h12⟩ := and2 h9
      have hy : y = e := of_decide_eq_true h8
      subst hy
      obtain ⟨pa, rfl, gc, nc⟩ := glo_of (X := X) h2
      by_cases k : (∃ D dd, cls = .ref D ∧ d = some dd ∧ XcC X.K D) ∧ ∃ Cc, X.mg c = some (.ref Cc)
      · obtain ⟨⟨D, dd, e1, e2, k1⟩, Cc, hC⟩ := k
        refine wkT (pt_val (isx_args C hz hf hj (of_decide_eq_true h11) (gl_of h12) (of_decide_eq_true h10) (vis_of h6) h4 _ rfl (pe_glob (X := X.suite a ((a, oe) :: pn)) (v := .ref Cc) gc hC rfl nc) e1 e2 k1)) ?_
        rintro σ H Q ⟨er, p, ρ, W, hh, q⟩
        subst e1 e2
        obtain ⟨D', e3, kk⟩ := hh.clsK C
        cases e3
        obtain ⟨dd', vs, e4, e5, r⟩ := hh.vs
        cases e4
        have q : match erIs p c with
          | .ok b => ∀ H', KeepH H H' → Q b H'
          | _ => False := q
        cases e6 : erIs p c with
        | bad => rw [e6] at q; exact q.elim
        | err x => rw [e6] at q; exact q.elim
        | ok b =>
          rw [e6] at q
          obtain ⟨C', h1, _, h3⟩ := erIs_ok kk e6
          rw [hC] at h1
          cases h1
          exact ⟨_, hh.sl, _, b, _, rfl, e5, .inl ⟨Cc, rfl, h3⟩, b, rfl, q H .refl⟩
      · refine pt_no ?_
        rintro σ H Q ⟨er, p, ρ, W, hh, q⟩
        obtain ⟨D, rfl, kk⟩ := hh.clsK C
        obtain ⟨dd, vs, rfl, e2, r⟩ := hh.vs
        have q : match erIs p c with
          | .ok b => ∀ H', KeepH H H' → Q b H'
          | _ => False := q
        cases e6 : erIs p c with
        | bad => rw [e6] at q; exact q.elim
        | err x => rw [e6] at q; exact q.elim
        | ok b =>
          obtain ⟨C', h1, _, h3⟩ := erIs_ok kk e6
          exact k ⟨⟨D, dd, rfl, rfl, kk.i⟩, C', h1⟩
    all_goals first | (cases h; done) | (rename_i z; cases z)
  | .isxs cs, t', h => by
    unfold ckHt at h
    split at h
    · rename_i z; cases z
    · rename_i c0 x px y py l' kt pt pos heq
      cases heq
      obtain ⟨h0, hlen⟩ := and2 h
      obtain ⟨h1, h2⟩ := and2 h0
      obtain ⟨h3, h4⟩ := and2 h1
      obtain ⟨h5, h6⟩ := and2 h3
      obtain ⟨h7, h8⟩ := and2 h5
      obtain ⟨h9, h10⟩ := and2 h7
      obtain ⟨h11, h12⟩ := and2 h9
      have hy : y = e := of_decide_eq_true h8
      subst hy
      have hlen : cs.length ≤ 1000 := of_decide_eq_true hlen
      by_cases k : (∃ D dd, cls = .ref D ∧ d = some dd ∧ XcC X.K D) ∧ ∀ c ∈ cs, ∃ Cc, X.mg c = some (.ref Cc)
      · obtain ⟨⟨D, dd, e1, e2, k1⟩, hC⟩ := k
        obtain ⟨pa, st, _⟩ := refs_ok (X := X) (Y := X.suite a ((a, oe) :: pn)) rfl rfl h2 hC
        refine wkT (pt_val (isx_args C hz hf hj (of_decide_eq_true h11) (gl_of h12) (of_decide_eq_true h10) (vis_of h6) h4 _ rfl (pe_tup pa) e1 e2 k1)) ?_
        rintro σ H Q ⟨er, p, ρ, W, hh, q⟩
        subst e1 e2
        obtain ⟨D', e3, kk⟩ := hh.clsK C
        cases e3
        obtain ⟨dd', vs, e4, e5, r⟩ := hh.vs
        cases e4
        have q : match erAny p cs with
          | .ok b => ∀ H', KeepH H H' → Q b H'
          | _ => False := q
        cases e6 : erAny p cs with
        | bad => rw [e6] at q; exact q.elim
        | err x => rw [e6] at q; exact q.elim
        | ok b =>
          rw [e6] at q
          obtain ⟨h1, h3⟩ := erAny_ok kk e6
          refine ⟨_, hh.sl, by rw [List.length_map]; have := sizeLine_eq; omega, fun b' nb => ?_⟩
          exact ⟨_, b, _, rfl, by rw [upd_ne (ne_of_none e5 nb)]; exact e5, .inr ⟨b', _, rfl, upd_same, h3⟩, b, rfl, q _ (.new nb)⟩
      · refine pt_no ?_
        rintro σ H Q ⟨er, p, ρ, W, hh, q⟩
        obtain ⟨D, rfl, kk⟩ := hh.clsK C
        obtain ⟨dd, vs, rfl, e2, r⟩ := hh.vs
        have q : match erAny p cs with
          | .ok b => ∀ H', KeepH H H' → Q b H'
          | _ => False := q
        cases e6 : erAny p cs with
        | bad => rw [e6] at q; exact q.elim
        | err x => rw [e6] at q; exact q.elim
        | ok b =>
          exact k ⟨⟨D, dd, rfl, rfl, kk.i⟩, (erAny_ok kk e6).1⟩
    all_goals first | (cases h; done) | (rename_i z; cases z)
  | .ty t x, t', h => by
    unfold ckHt at h
    split at h
    · rename_i z; cases z
    · rename_i z; cases z
    · rename_i t0 x0 f px x' y py pos heq
      cases heq
      obtain ⟨h1, h2⟩ := and2 h
      obtain ⟨h3, h4⟩ := and2 h1
      obtain ⟨h5, h6⟩ := and2 h3
      obtain ⟨h7, h8⟩ := and2 h5
      obtain ⟨h9, h10⟩ := and2 h7
      obtain ⟨h11, h12⟩ := and2 h9
      obtain ⟨h13, h14⟩ := and2 h11
      have hf0 : f = "isinstance" := of_decide_eq_true h13
      have hy : y = t.sn := of_decide_eq_true h10
      subst hf0 hy
      obtain ⟨n1, n2, n3⟩ := name_of (ty_ok_name t)
      have py : PE (X.suite a ((a, oe) :: pn)) (.Name t.sn py) (tC (.ty t.nm)) := pe_bltn (X := X.suite a ((a, oe) :: pn)) (gl_of (X := X) h8) (C.free _ (of_decide_eq_true h6)) (ty_boot t) rfl n3 n1
      refine wkT (pt_val (pe_callB (X := X.suite a ((a, oe) :: pn)) call_isi (gl_of (X := X) h14) (C.free _ (of_decide_eq_true h12)) PyProof.Rows.boot_isinstance (pa_cons (hx_ok C hz hf hj x h2) (pa_cons py pa_nil (star_of rfl)) (star_of h4)) (by decide +kernel) (by decide +kernel) (star_of h4) (plain_of fun c hc => by
        rcases List.mem_cons.mp hc with rfl | hc
        · rfl
        · cases hc))) ?_
      rintro σ H Q ⟨er, p, ρ, W, hh, q⟩
      refine ⟨er, p, ρ, W, hh, ?_⟩
      have q : match (eh er x ρ).bind (isTy t) with
        | .ok b => ∀ H', KeepH H H' → Q b H'
        | _ => False := q
      cases e1 : eh er x ρ with
      | bad => rw [e1] at q; exact q.elim
      | err x => rw [e1] at q; exact q.elim
      | ok dx =>
        rw [e1] at q
        have q : match isTy t dx with
          | .ok b => ∀ H', KeepH H H' → Q b H'
          | _ => False := q
        cases e2 : isTy t dx with
        | bad => rw [e2] at q; exact q.elim
        | err x => rw [e2] at q; exact q.elim
        | ok b =>
          rw [e2] at q
          intro v H1 k1 r1
          rw [C.tk] at r1
          exact ⟨v, .ty t.nm, _, _, b, rfl, .ty _, tyx_of r1.k (isTy_ns e2), kit_ty (kit_tab t dx b e2), b, rfl, q H1 k1⟩
    all_goals first | (cases h; done) | (rename_i z; cases z)
  | .isI g x, t', h => by
    unfold ckHt at h
    split at h
    · rename_i z; cases z
    · rename_i z; cases z
    · rename_i z; cases z
    · rename_i g0 x0 f px x' pos heq
      cases heq
      obtain ⟨h1, h2⟩ := and2 h
      obtain ⟨h3, h4⟩ := and2 h1
      obtain ⟨h5, h6⟩ := and2 h3
      obtain ⟨h7, h8⟩ := and2 h5
      obtain ⟨h9, h10⟩ := and2 h7
      have hf0 : f = g := of_decide_eq_true h9
      subst hf0
      have hg := of_decide_eq_true h6
      obtain ⟨fa, fd, y, F, m, kp, bi⟩ := C.hi f hg
      have rm := C.rh fun z => by rw [z] at hg; cases hg
      have rm2 : L2H.RoomH 1 (X.suite a ((a, oe) :: pn)).A := ⟨rm.dp, rm.un⟩
      refine wkT (pt_val (pe_callZ (X := X.suite a ((a, oe) :: pn)) (q := (a, oe)) F rm2 List.mem_cons_self (gl_of (X := X) h10) m kp bi (pa_cons (hx_ok C hz hf hj x h2) pa_nil (star_of h4)) (name_of h8).1 (star_of h4) (plain_of fun c hc => by cases hc))) ?_
      rintro σ H Q ⟨er, p, ρ, W, hh, q⟩
      refine ⟨er, p, ρ, W, hh, ?_⟩
      have q : match (eh er x ρ).bind fun d => (isTy .int d).bind fun a => (isTy .bool d).bind fun b => .ok (a && !b) with
        | .ok b => ∀ H', KeepH H H' → Q b H'
        | _ => False := q
      cases e1 : eh er x ρ with
      | bad => rw [e1] at q; exact q.elim
      | err x => rw [e1] at q; exact q.elim
      | ok dx =>
        rw [e1] at q
        have q : match (isTy .int dx).bind fun a => (isTy .bool dx).bind fun b => .ok (a && !b) with
          | .ok b => ∀ H', KeepH H H' → Q b H'
          | _ => False := q
        cases e2 : isTy .int dx with
        | bad => rw [e2] at q; exact q.elim
        | err x => rw [e2] at q; exact q.elim
        | ok b1 =>
          rw [e2] at q
          have q : match (isTy .bool dx).bind fun b => .ok (b1 && !b) with
            | .ok b => ∀ H', KeepH H H' → Q b H'
            | _ => False := q
          cases e3 : isTy .bool dx with
          | bad => rw [e3] at q; exact q.elim
          | err x => rw [e3] at q; exact q.elim
          | ok b2 =>
            rw [e3] at q
            intro v H1 k1 r1
            rw [C.tk] at r1
            refine ⟨v, rfl, v, .ty "int", _, _, b1, rfl, .ty _, tyx_of r1.k (isTy_ns e2), kit_ty (kit_tab .int dx b1 e2), b1, rfl, ?_⟩
            cases b1 with
            | false => rw [if_neg (by simp)]; exact ⟨_, rfl, q H1 k1⟩
            | true =>
              rw [if_pos rfl]
              exact ⟨v, .ty "bool", _, _, b2, rfl, .ty _, tyx_of r1.k (isTy_ns e3), kit_ty (kit_tab .bool dx b2 e3), b2, rfl, _, rfl, q H1 k1⟩
    all_goals first | (cases h; done) | (rename_i z; cases z)
  | .not_ t, t', h => by
    cases t' with
    | UnaryOp op x pos =>
      cases op with
      | Not =>
        refine wkT (pt_not (ht_ok C hz hf hj t h)) ?_
        rintro σ H Q ⟨er, p, ρ, W, hh, q⟩
        refine ⟨er, p, ρ, W, hh, ?_⟩
        have q : match (et er p t ρ).bind fun b => .ok (!b) with
          | .ok b => ∀ H', KeepH H H' → Q b H'
          | _ => False := q
        cases e1 : et er p t ρ with
        | bad => rw [e1] at q; exact q.elim
        | err x => rw [e1] at q; exact q.elim
        | ok b => rw [e1] at q; exact q
      | _ => cases h
    | _ => cases h
  | .and_ l, t', h => by
    cases t' with
    | BoolOp op l' pos =>
      cases op with
      | And =>
        obtain ⟨h1, h2⟩ := and2 h
        exact wkT ((hts_ok C hz hf hj l h2 (fun z => by subst z; cases h1)).1 pos).pt fun σ H Q q => q
      | Or => cases h
    | _ => cases h
  | .or_ l, t', h => by
    cases t' with
    | BoolOp op l' pos =>
      cases op with
      | Or =>
        obtain ⟨h1, h2⟩ := and2 h
        exact wkT ((hts_ok C hz hf hj l h2 (fun z => by subst z; cases h1)).2 pos).pt fun σ H Q q => q
      | And => cases h
    | _ => cases h
theorem hts_ok (C : ClK X T G) (hz : Zc cls d oe) (hf : ∃ vs, oe.data = .fields vs) {e : Str} (hj : X.N[j]? = some e) : ∀ (l : Hts) {l' : List Expr}, ckHts G X.N X.env.scope e l l' = true → l' ≠ [] →
    (∀ pos, PW (X.suite a ((a, oe) :: pn)) (.BoolOp .And l' pos) (tHand X T G a cls d j l)) ∧ ∀ pos, PW (X.suite a ((a, oe) :: pn)) (.BoolOp .Or l' pos) (tHor X T G a cls d j l)
  | .nil, l', h, n => by
    cases l' with
    | nil => exact absurd rfl n
    | cons _ _ => cases h
  | .cons t l, l', h, _ => by
    cases l' with
    | nil => cases h
    | cons t' l' =>
      obtain ⟨h1, h2⟩ := and2 h
      have ht := ht_ok C hz hf hj t h1
      cases l' with
      | nil =>
        cases l with
        | cons _ _ => cases h2
        | nil =>
          constructor
          · refine fun pos => wkW (pw_and1 ht) ?_
            rintro σ H Q ⟨er, p, ρ, W, hh, q⟩
            refine ⟨er, p, ρ, W, hh, ?_⟩
            have q : match (et er p t ρ).bind fun b => match b with
              | true => .ok true
              | false => .ok false with
              | .ok b => ∀ H', KeepH H H' → Q b H'
              | _ => False := q
            cases e1 : et er p t ρ with
            | bad => rw [e1] at q; exact q.elim
            | err x => rw [e1] at q; exact q.elim
            | ok b => rw [e1] at q; cases b <;> exact q
          · refine fun pos => wkW (pw_or1 ht) ?_
            rintro σ H Q ⟨er, p, ρ, W, hh, q⟩
            refine ⟨er, p, ρ, W, hh, ?_⟩
            have q : match (et er p t ρ).bind fun b => match b with
              | true => .ok true
              | false => .ok false with
              | .ok b => ∀ H', KeepH H H' → Q b H'
              | _ => False := q
            cases e1 : et er p t ρ with
            | bad => rw [e1] at q; exact q.elim
            | err x => rw [e1] at q; exact q.elim
            | ok b => rw [e1] at q; cases b <;> exact q
      | cons u' l' =>
        obtain ⟨g1, g2⟩ := hts_ok C hz hf hj l h2 (fun z => by cases z)
        constructor
        · refine fun pos => wkW (pw_and ht (g1 pos)) ?_
          rintro σ H Q ⟨er, p, ρ, W, hh, q⟩
          refine ⟨er, p, ρ, W, hh, ?_⟩
          have q : match (et er p t ρ).bind fun b => match b with
            | true => etAnd er p l ρ
            | false => .ok false with
            | .ok b => ∀ H', KeepH H H' → Q b H'
            | _ => False := q
          cases e1 : et er p t ρ with
          | bad => rw [e1] at q; exact q.elim
          | err x => rw [e1] at q; exact q.elim
          | ok b =>
            rw [e1] at q
            intro H1 k1
            cases b with
            | false => rw [if_neg (by simp)]; exact q H1 k1
            | true =>
              rw [if_pos rfl]
              refine ⟨er, p, ρ, W, hh.more k1, ?_⟩
              have q : match etAnd er p l ρ with
                | .ok b => ∀ H', KeepH H H' → Q b H'
                | _ => False := q
              cases e2 : etAnd er p l ρ with
              | bad => rw [e2] at q; exact q.elim
              | err x => rw [e2] at q; exact q.elim
              | ok b => rw [e2] at q; exact fun H2 k2 => q H2 (k1.trans k2)
        · refine fun pos => wkW (pw_or ht (g2 pos)) ?_
          rintro σ H Q ⟨er, p, ρ, W, hh, q⟩
          refine ⟨er, p, ρ, W, hh, ?_⟩
          have q : match (et er p t ρ).bind fun b => match b with
            | true => .ok true
            | false => etOr er p l ρ with
            | .ok b => ∀ H', KeepH H H' → Q b H'
            | _ => False := q
          cases e1 : et er p t ρ with
          | bad => rw [e1] at q; exact q.elim
          | err x => rw [e1] at q; exact q.elim
          | ok b =>
            rw [e1] at q
            intro H1 k1
            cases b with
            | true => rw [if_pos rfl]; exact q H1 k1
            | false =>
              rw [if_neg (by simp)]
              refine ⟨er, p, ρ, W, hh.more k1, ?_⟩
              have q : match etOr er p l ρ with
                | .ok b => ∀ H', KeepH H H' → Q b H'
                | _ => False := q
              cases e2 : etOr er p l ρ with
              | bad => rw [e2] at q; exact q.elim
              | err x => rw [e2] at q; exact q.elim
              | ok b => rw [e2] at q; exact fun H2 k2 => q H2 (k1.trans k2)
end

/-! #### statements -/
def EndH (X : Cx) (T : Tc) (G : Gn) (a : Addr) (cls : Value) (d : Option Addr) (j : Nat) (er : Er) (p : ErC) (σ : Sg) (H : Hp) (ρ : Env') (W : AS) (En : Ends) (q : Fl × Env') : Prop := match q.1 with
  | .nx => ∀ σ' H' W', GoS T σ H ρ W σ' H' q.2 W' → Hnd X T G er p a cls d j σ' H' q.2 W' → En.nx σ' H'
  | .rt pp => ∀ v σ' H' W', OutS T σ H ρ W pp σ' q.2 v H' W' → En.rt v H'
  | _ => False
theorem EndH.move {q : Fl × Env'} (h : EndH X T G a cls d j er p σ H ρ W En q) (g : GoS T σ H ρ W σ1 H1 ρ1 W1) : EndH X T G a cls d j er p σ1 H1 ρ1 W1 En q := by
  obtain ⟨f, ρ2⟩ := q
  cases f with
  | nx => exact fun σ2 H2 W2 g2 hh => h _ _ _ (g.trans g2) hh
  | rt pp => exact fun v σ2 H2 W2 o => h _ _ _ _ (g.out o)
  | bk => exact h
  | ct => exact h
def okK {α : Type} (r : Rs α) (k : α → Prop) : Prop := match r with
  | .ok q => k q
  | _ => False
def tHs (X : Cx) (T : Tc) (G : Gn) (a : Addr) (cls : Value) (d : Option Addr) (j : Nat) (f : Er → ErC → Env' → Rs (Fl × Env')) : TS := fun En σ H => ∃ er p ρ W, Hnd X T G er p a cls d j σ H ρ W ∧ okK (f er p ρ) (EndH X T G a cls d j er p σ H ρ W En)
theorem bind_ex {α β : Type} {r : Rs α} {f : α → Rs β} {k : β → Prop} (h : okK (r.bind f) k) : ∃ x, r = .ok x ∧ okK (f x) k := by
  cases r with
  | ok x => exact ⟨x, rfl, h⟩
  | err x => exact h.elim
  | bad => exact h.elim
mutual
theorem hs_ok (C : ClK X T G) (hz : Zc cls d oe) (hf : ∃ vs, oe.data = .fields vs) {e : Str} (hj : X.N[j]? = some e) : ∀ (s : Hs) {s' : Stmt}, ckHs G X.N X.env.scope e s s' = true → PS (X.suite a ((a, oe) :: pn)) s' (tHs X T G a cls d j fun er p => esH er p s)
  | .ret x, s', h => by
    cases s' with
    | Return v pos =>
      cases v with
      | none => cases h
      | some x' =>
        refine wkS (ps_ret (hx_ok C hz hf hj x h)) ?_
        rintro En σ H ⟨er, p, ρ, W, hh, q⟩
        have q : okK ((eh er x ρ).bind fun d => .ok (.rt (.val d), ρ)) (EndH X T G a cls d j er p σ H ρ W En) := q
        obtain ⟨dd, e1, q⟩ := bind_ex q
        refine ⟨er, p, ρ, W, hh, ?_⟩
        rw [e1]
        exact fun v H' k r => q v σ H' W ⟨GoS.more hh.rel k, r, fun _ z => by cases z⟩
    | _ => cases h
  | .ite t b, s', h => by
    cases s' with
    | If t' b' el pos =>
      cases el with
      | cons _ _ => cases h
      | nil =>
        obtain ⟨h1, h2⟩ := and2 h
        refine wkS (ps_if (ht_ok C hz hf hj t h1) (hss_ok C hz hf hj b h2) pss_nil) ?_
        rintro En σ H ⟨er, p, ρ, W, hh, q⟩
        have q : okK ((et er p t ρ).bind fun k => match k with
          | true => essH er p b ρ
          | false => .ok (.nx, ρ)) (EndH X T G a cls d j er p σ H ρ W En) := q
        obtain ⟨k, e1, q⟩ := bind_ex q
        refine ⟨er, p, ρ, W, hh, ?_⟩
        rw [e1]
        intro H1 k1
        cases k with
        | false => rw [if_neg (by simp)]; exact q σ H1 W (GoS.more hh.rel k1) (hh.more k1)
        | true =>
          rw [if_pos rfl]
          refine ⟨er, p, ρ, W, hh.more k1, ?_⟩
          dsimp only at q
          cases e2 : essH er p b ρ with
          | bad => rw [e2] at q; exact q.elim
          | err x => rw [e2] at q; exact q.elim
          | ok y =>
            rw [e2] at q
            show okK (essH er p b ρ) _
            rw [e2]
            exact EndH.move q (GoS.more hh.rel k1)
    | _ => cases h
  | .app i x, s', h => by
    unfold ckHs at h
    split at h
    · rename_i z; cases z
    · rename_i z; cases z
    · rename_i i0 x0 y yp m apos x' pos pos2 z
      cases z
      obtain ⟨h1, h2⟩ := and2 h
      obtain ⟨h3, h4⟩ := and2 h1
      obtain ⟨h5, h6⟩ := and2 h3
      obtain ⟨h7, h8⟩ := and2 h5
      obtain ⟨h9, h10⟩ := and2 h7
      obtain ⟨h11, h12⟩ := and2 h9
      obtain ⟨h13, h14⟩ := and2 h11
      have hm : m = "append" := of_decide_eq_true h13
      subst hm
      obtain ⟨n1, n2, n3⟩ := name_of h10
      obtain ⟨f2, f3⟩ := Mm.facts .append
      have st : ∀ b ∈ [x'], notStar b = true := fun b hb => by
        rcases List.mem_cons.mp hb with rfl | hb
        · exact h4
        · cases hb
      have pe := pe_bm (X := X.suite a ((a, oe) :: pn)) (apos := apos) (cpos := pos) PySem.F.plainAttrs_list f2 f3 (mt_Mm .append) (pe_var (X := X.suite a ((a, oe) :: pn)) (pos := yp) (of_decide_eq_true h14) (vis_of h12) n1 n2) (pa_cons (hx_ok C hz hf hj x h2) pa_nil (star_of h4)) rfl (few_of st (by simp)) h6 (star_of h4) (plain_of fun b z => by cases z)
      refine wkS (ps_expr pe (swap_no rfl)) ?_
      rintro En σ H ⟨er, p, ρ, W, hh, q⟩
      have q : okK ((eh er x ρ).bind fun d => (mutSlot i ρ fun x => (dMm .append x [d]).bind fun y => .ok y.2).bind fun ρ' => .ok (.nx, ρ')) (EndH X T G a cls d j er p σ H ρ W En) := q
      obtain ⟨dd, e1, q⟩ := bind_ex q
      obtain ⟨ρ', e2, q⟩ := bind_ex q
      have q : ∀ σ' H' W', GoS T σ H ρ W σ' H' ρ' W' → Hnd X T G er p a cls d j σ' H' ρ' W' → En.nx σ' H' := q
      unfold mutSlot at e2
      split at e2
      · rename_i b d0 es
        obtain ⟨d1, e3, e2⟩ := bind_ok e2
        obtain ⟨⟨y1, y2⟩, e4, e3⟩ := bind_ok e3
        cases e3
        cases e2
        obtain ⟨l0, rfl⟩ := dMm_lst e4
        obtain ⟨o, s0, a', ob, rfl, ha, wa, us, rfl, r⟩ := hh.rel.at_ _ _ es
        have ne : i ≠ j := fun z => by subst z; rw [hh.pj] at es; cases es
        refine ⟨_, s0, .inl ⟨rfl, us, .of ha⟩, er, p, ρ, W, hh, ?_⟩
        rw [e1]
        intro v H1 k1 r1
        have h1 := hh.more k1
        obtain ⟨o, s1, a2, ob, e5, ha1, wa1, us1, rfl, r2⟩ := h1.rel.at_ _ _ es
        rw [s0] at s1
        cases s1
        cases e5
        unfold L2.tNil
        dsimp only
        refine mm_ok ha1 r2 (RepDs.one r1) e4 fun v2 o' kv ko => ?_
        have g2 := mut_at h1.rel es s0 ko
        have g := (GoS.more hh.rel k1).trans g2.s
        refine q σ _ W g ⟨g.rel, h1.pin, h1.fl, h1.cl, h1.sl, by rw [List.getElem?_set_ne ne]; exact h1.pj, ?_⟩
        obtain ⟨ddx, vs, ed, ex, rx⟩ := h1.vs
        refine ⟨ddx, vs, ed, ?_, rx.adv h1.rel.wl (g2.step.adv h1.rel)⟩
        have na : ddx ≠ a' := fun z => by rw [z, ha1] at ex; cases ex
        rw [upd_ne na]
        exact ex
      · cases e2
    · cases h
theorem hss_ok (C : ClK X T G) (hz : Zc cls d oe) (hf : ∃ vs, oe.data = .fields vs) {e : Str} (hj : X.N[j]? = some e) : ∀ (l : Hss) {l' : List Stmt}, ckHss G X.N X.env.scope e l l' = true → PSs (X.suite a ((a, oe) :: pn)) l' (tHs X T G a cls d j fun er p => essH er p l)
  | .nil, l', h => by
    cases l' with
    | nil =>
      refine wkSs pss_nil ?_
      rintro En σ H ⟨er, p, ρ, W, hh, q⟩
      exact q σ H W (GoS.refl hh.rel) hh
    | cons _ _ => cases h
  | .cons s l, l', h => by
    cases l' with
    | nil => cases h
    | cons s' l' =>
      obtain ⟨h1, h2⟩ := and2 h
      refine wkSs (pss_cons (hs_ok C hz hf hj s h1) (hss_ok C hz hf hj l h2)) ?_
      rintro En σ H ⟨er, p, ρ, W, hh, q⟩
      have q : okK ((esH er p s ρ).bind fun q => match q.1 with
        | .nx => essH er p l q.2
        | _ => .ok q) (EndH X T G a cls d j er p σ H ρ W En) := q
      obtain ⟨⟨f, ρ1⟩, e1, q⟩ := bind_ex q
      refine ⟨er, p, ρ, W, hh, ?_⟩
      show okK (esH er p s ρ) _
      rw [e1]
      cases f with
      | nx =>
        intro σ1 H1 W1 g h1
        refine ⟨er, p, ρ1, W1, h1, ?_⟩
        dsimp only at q ⊢
        cases e2 : essH er p l ρ1 with
        | bad => rw [e2] at q; exact q.elim
        | err x => rw [e2] at q; exact q.elim
        | ok y => rw [e2] at q; exact EndH.move q g
      | rt pp => exact q
      | bk => exact q
      | ct => exact q
end

/-! ### try -/
theorem st_try {b : Tbs} {tab : List ErC} {c : Str} {i : Nat} {h : Hss} {e : Str} {np' pos pos' : Pos} {b' : List Stmt} {h0 : Stmt} {h' : List Stmt} (C : ClK X T G) (hs : X.stack = X.env :: X.outer) (hfr : X.env.frame = some X.env.locals) (hN : X.N.Nodup) (hi : X.N[i]? = some e) (hl : isLocal X.env.scope e = true)
    (tk : Takes X Z) (gx : Gl X c) (nc : (c == ("__debug__" : Str)) = false) (hin : ∀ p ∈ tab, p ∈ G.ec) (hc : ∃ Cc, X.mg c = some (.ref Cc)) (hh : ckHss G X.N X.env.scope e h (h0 :: h') = true)
    (hb : ∀ (W : WX) (pn : List (Addr × Obj)) (xe : Value → Shared → Prop), Takes (X.tr pn xe) W → PassesOwn (model X.prog X.w) X.A X.env xe → PSs (X.tr pn xe) b' (tBd X T W (exT F M b))) :
    PS X (.Try b' [.ExceptHandler (some (.Name c np')) (some e) (h0 :: h') pos'] [] [] pos) (tS X T Z (ex F M (.tr_ b tab c i h))) := by
  obtain ⟨Cc, hC⟩ := hc
  refine wkS (ps_try_as (i := i) hs hfr hN hi (local_of hl) ⟨gx, nc, .inl hC⟩ tk hb (fun a oe cls d pn hz hf => hss_ok C hz hf hi h hh)) ?_
  rintro En σ H ⟨ρ, W, R, q⟩
  refine ⟨ρ, W, R, ?_⟩
  have q : PostS X Z T ((exT F M b ρ).quiet.bind (catch_ tab c i h)) σ H ρ W En := q
  cases e1 : exT F M b ρ with
  | bad => rw [e1] at q; exact q
  | err x => rw [e1] at q; exact q
  | ok t =>
    rw [e1] at q
    cases t with
    | fin y => exact q
    | thr er ρ1 =>
      intro σ1 H1 W1 g cls d H' er' k
      have q : PostS X Z T ((erOf tab er).bind fun p => (erIs p c).bind fun k => match k with
        | true => need (freeSlot i ρ1 = true) ((essH er p h (ρ1.set i none)).quiet.bind noJump)
        | false => .err er) σ H ρ W En := q
      obtain ⟨p, e2, q⟩ := PostS.val .of q
      obtain ⟨kb, e3, q⟩ := PostS.val .of q
      have e2 := of_ok e2
      have hp := List.mem_of_find?_eq_some e2
      have hq := List.find?_some e2
      have hq : p.nm = er.cls ∧ er.val.map (·.1) = p.fl.reverse := of_decide_eq_true hq
      obtain ⟨D, hm, kk⟩ := C.ec p (hin p hp)
      have hm' : cls = .ref D := by
        have := er'.1
        rw [← hq.1, hm] at this
        exact (Option.some.inj this).symm
      subst hm'
      obtain ⟨C', m1, m2, m3⟩ := erIs_ok kk e3
      rw [hC] at m1
      cases m1
      refine ⟨kb, m2, fun ek a na => ?_, fun ek => ?_⟩
      · subst ek
        dsimp only at q
        have q : freeSlot i ρ1 = true ∧ PostS X Z T ((essH er p h (ρ1.set i none)).quiet.bind noJump) σ H ρ W En := by
          unfold need at q
          split at q
          · exact ⟨by assumption, q⟩
          · exact q.elim
        obtain ⟨fs, q⟩ := q
        have gm := GoS.more g.rel k
        have gn := none_go (x := some (.ref a)) gm.rel fs
        have gg := g.trans (gm.trans gn)
        obtain ⟨nb, nl, hil⟩ := free_bor fs
        have hilσ : i < σ1.length := by rw [← g.rel.len]; exact hil
        have hnd : Hnd X T G er p a (.ref D) d i (σ1.set i (some (.ref a))) H' (ρ1.set i none) W1 := by
          refine ⟨gn.rel, hin p hp, hq.2, ⟨D, hm, rfl⟩, by rw [List.getElem?_set_self hilσ], by rw [List.getElem?_set_self hil], ?_⟩
          rcases er'.2 with z | ⟨dd, vs, z1, z2, z3⟩
          · have := hq.2
            rw [z] at this
            exact absurd (List.reverse_eq_nil_iff.mp this.symm) kk.ne
          · exact ⟨dd, vs, z1, z2, by rw [C.tk]; exact z3.ofT⟩
        refine ⟨er, p, ρ1.set i none, W1, hnd, ?_⟩
        dsimp only
        cases e4 : essH er p h (ρ1.set i none) with
        | bad => rw [e4] at q; exact q.elim
        | err x => rw [e4] at q; exact q.elim
        | ok y =>
          rw [e4] at q
          obtain ⟨f, ρ2⟩ := y
          cases f with
          | nx =>
            intro σ2 H2 W2 g2 h2
            have hf2 : freeSlot i ρ2 = true := by unfold freeSlot; rw [h2.pj]
            have g3 := none_go (x := none) g2.rel hf2
            have e5 : ρ2.set i none = ρ2 := by
              refine List.ext_getElem? fun m => ?_
              by_cases em : i = m
              · subst em
                rw [List.getElem?_set_self (free_bor hf2).2.2, h2.pj]
              · rw [List.getElem?_set_ne em]
            rw [e5] at g3
            exact q _ _ _ (gg.trans (g2.trans g3))
          | rt pp => exact fun v σ2 H2 W2 o => q v σ2 H2 W2 (gg.out o)
          | bk => exact q.elim
          | ct => exact q.elim
      · subst ek
        exact q _ _ _ _ g (.ref D) d H' er' fun b o hb _ => k b o hb
end
end Dv

set_option Elab.async false
set_option linter.all false
set_option maxRecDepth 100000
set_option maxHeartbeats 2000000
namespace Dv
open PySem PySem.Spec PyProof.Rows L2
section
variable {X : Cx} {Z : WX} {T : Tc} {F : Fn} {G : Gn} {np : Nat} {σ σ' σ1 : Sg} {H H0 H1 H2 H' : Hp} {ρ ρ1 ρ2 ρ' ρf ρb ρq : Env'} {W W1 W2 W' : AS} {K : PySem.W.Frag} {ds : List D} {sc : Scope} {N : List Str} {En : Ends} {M : Nat}
/-! ### names alone -/
def getVs (σ : Sg) : List Nat → List V → Prop
  | [], vs => vs = []
  | i :: is, vs => ∃ v r, vs = v :: r ∧ σ[i]? = some (some v) ∧ getVs σ is r
def tVars (is : List Nat) : TA := fun σ H Q => ∃ vs, getVs σ is vs ∧ Q vs H
theorem pa_vars : ∀ {is : List Nat} {l : List Expr}, ckVs X.N X.env.scope is l = true → PA X l (tVars is) ∧ ∀ b ∈ l, notStar b = true
  | [], [], _ => ⟨wkA pa_nil fun σ H Q ⟨vs, e, q⟩ => by
    have e : vs = [] := e
    subst e
    exact q, fun b h => (List.not_mem_nil h).elim⟩
  | i :: is, .Name x p :: l, h => by
    obtain ⟨h1, h2⟩ := and2 h
    obtain ⟨h3, h4⟩ := and2 h1
    obtain ⟨h5, h6⟩ := and2 h3
    obtain ⟨n1, n2, n3⟩ := name_of h4
    obtain ⟨q1, q2⟩ := pa_vars h2
    refine ⟨wkA (pa_cons (pe_var (of_decide_eq_true h5) (vis_of h6) n1 n2) q1 (star_of rfl)) fun σ H Q ⟨vs, e, q⟩ => ?_, fun b hb => ?_⟩
    · obtain ⟨v, r, rfl, e1, e2⟩ := e
      exact ⟨v, e1, r, e2, q⟩
    · rcases List.mem_cons.mp hb with rfl | hb
      · rfl
      · exact q2 b hb
theorem evs_vars (R : Rel T σ H ρ W) : ∀ {is : List Nat} {ps : List P} {ρ1 : Env'}, evs F (vars is) ρ = .ok (ps, ρ1) → ρ1 = ρ ∧ ps.length = is.length ∧ ∃ vs, getVs σ is vs ∧ RepPs T σ H H ρ W vs ps
  | [], ps, ρ1, e => by cases e; exact ⟨rfl, rfl, [], rfl, rfl⟩
  | i :: is, ps, ρ1, e => by
    obtain ⟨⟨p, ρa⟩, e1, e⟩ := bind_ok (show (evVar i ρ).bind (fun r => (evs F (vars is) r.2).bind fun q => .ok (r.1 :: q.1, q.2)) = .ok (ps, ρ1) from e)
    obtain ⟨⟨qs, ρb⟩, e2, e⟩ := bind_ok e
    cases e
    obtain ⟨z1, v, s, q⟩ := slot_peek e1 R
    rw [z1] at e2
    obtain ⟨z2, hl, vs, g, r⟩ := evs_vars R e2
    refine ⟨z2, by simp [hl], v :: vs, ⟨v, vs, rfl, s, g⟩, v, vs, rfl, q, fun d a z _ => ?_, r⟩
    subst z
    unfold evVar at e1
    split at e1 <;> cases e1
theorem getVs_ali {x y : Nat} {v : V} (hx : x < σ.length) (hy : σ[y]? = some (some v)) : ∀ {is : List Nat} {vs : List V}, getVs σ (aliV x y is) vs → getVs (σ.set x (some v)) is vs
  | [], _, h => h
  | i :: is, _, h => by
    obtain ⟨u, r, rfl, e, h⟩ := h
    refine ⟨u, r, rfl, ?_, getVs_ali hx hy h⟩
    by_cases c : i = x
    · subst c
      have e : σ[if i = i then y else i]? = some (some u) := e
      rw [if_pos rfl, hy] at e
      cases e
      rw [List.getElem?_set_self hx]
    · have e : σ[if i = x then y else i]? = some (some u) := e
      rw [if_neg c] at e
      rw [List.getElem?_set_ne (Ne.symm c)]
      exact e
/-- f(x, ..) handed on, its arguments' slots told otherwise -/
theorem al_core (tk : T.K = X.K) {f : Str} {n : Nat} {js : List Nat} {vs2 : List V} (R : Rel T σ H ρ W) (hn : ∀ as, F.call f as ≠ .bad → as.length = n) (dv : ∀ H W, RepDs X.K H W vs2 (F.dfl f js.length)) (h : PostS X Z T (aliC F f js ρ) σ H ρ W En) :
    ∃ vs, getVs σ js vs ∧ spOf F X.mg X.K n f (vs ++ vs2) H En.rt (WE Z0 σ) := by
  have h : PostS X Z T ((evs F (vars js) ρ).quiet.bind fun r => (doCall F f r.1 r.2).quiet.bind fun q => .ok (.rt q.1, q.2)) σ H ρ W En := h
  cases ee : evs F (vars js) ρ with
  | bad => rw [ee] at h; exact h.elim
  | err x =>
    rw [ee] at h
    exact h.elim
  | ok r =>
    obtain ⟨ps, ρ1⟩ := r
    obtain ⟨rfl, hl, vs, g, rp⟩ := evs_vars R ee
    rw [ee] at h
    refine ⟨vs, g, ?_⟩
    have h : PostS X Z T ((doCall F f ps ρ1).quiet.bind fun q => .ok (.rt q.1, q.2)) σ H ρ1 W En := h
    refine call_run (Z := Z0) tk ⟨Go.refl R, rp⟩ hn (by rw [hl]; exact dv) ?_
    cases e2 : doCall F f ps ρ1 with
    | bad => rw [e2] at h; exact h.elim
    | err x => rw [e2] at h; exact h.elim
    | ok q =>
      rw [e2] at h
      exact fun v H' W' o => h v σ H' W' (OutS.of o)
/-- the reading of a call, by its arguments' values -/
theorem ali_call {f : Str} {mn n : Nat} {is : List Nat} {l' : List Expr} {p pos : Pos} {e' : Expr} (tk : T.K = X.K) (c : Callee X F f n mn) (hg : Gl X f) (hv : ckVs X.N X.env.scope is (e' :: l') = true) (h1 : mn ≤ (e' :: l').length) (h2 : (e' :: l').length ≤ n) (hdb : (f == ("__debug__" : Str)) = false) :
    ∃ t : TE, PE X (.Call (.Name f p) (e' :: l') [] pos) t ∧ ∀ (js : List Nat), js.length = (e' :: l').length → ∀ {σ σ2 : Sg} {H : Hp} {ρ : Env'} {W : AS} {En : Ends}, Rel T σ H ρ W → (∀ vs, getVs σ js vs → getVs σ2 is vs) → PostS X Z T (aliC F f js ρ) σ H ρ W En → t σ2 H En.rt := by
  obtain ⟨k, fa, fd, pn, Gf, hr, hm, hk, rfl, hn, hb⟩ := c.ex
  obtain ⟨dvl, dvs, bd, hd, dv⟩ := hb _ h1 h2
  obtain ⟨pa, st⟩ := pa_vars hv
  refine ⟨_, pe_callSD (E := WE Z0) Gf hr hg hm hk bd hd (fun σ => passAt takes0 σ) pa hdb (star_of (st e' List.mem_cons_self)) (plain_of fun a h => st a (List.mem_cons_of_mem _ h)), fun js hj σ σ2 H ρ W En R gv h => ?_⟩
  obtain ⟨vs, g, q⟩ := al_core tk R hn (by rw [hj]; exact dv) h
  exact ⟨vs, gv vs g, q⟩
theorem ckVs_len : ∀ {is : List Nat} {l : List Expr}, ckVs N sc is l = true → is.length = l.length
  | [], [], _ => rfl
  | i :: is, .Name x p :: l, h => by
    obtain ⟨h1, h2⟩ := and2 h
    simp [ckVs_len h2]
theorem st_ali {c : Tx} {x y : Nat} {f : Str} {mn n : Nat} {is : List Nat} {c' e' : Expr} {nx ny : Str} {px py p pos pos1 pos2 pos3 : Pos} {l' : List Expr} (tk : T.K = X.K) (hN : X.N.Nodup) (hc : PT X c' (tT X T F Z c)) (hx : X.N[x]? = some nx) (lx : Loc X.env.scope nx) (fx : X.fn nx = true) (hy : X.N[y]? = some ny) (vy : Vis X.env.scope ny) (oy : okName ny = true)
    (cl : Callee X F f n mn) (hg : Gl X f) (hv : ckVs X.N X.env.scope is (e' :: l') = true) (h1 : mn ≤ (e' :: l').length) (h2 : (e' :: l').length ≤ n) (hdb : (f == ("__debug__" : Str)) = false) :
    PSs X [.If c' [.Assign [.Name nx px] (.Name ny py) pos1] [] pos2, .Return (some (.Call (.Name f p) (e' :: l') [] pos)) pos3] (tS X T Z (exs F M (.ali c x y f is))) := by
  obtain ⟨n1, n2, n3⟩ := name_of oy
  obtain ⟨t, pe, ht⟩ := ali_call (Z := Z) (p := p) (pos := pos) tk cl hg hv h1 h2 hdb
  have hl := ckVs_len hv
  refine wkSs (pss_cons (ps_if hc (pss_cons (ps_set (i := x) hN hx lx (pe_var hy vy n1 n2) rfl (.inl fx)) pss_nil) pss_nil) (pss_cons (ps_ret pe) pss_nil)) ?_
  rintro En σ H ⟨ρ, W, R, h⟩
  refine ⟨ρ, W, R, (PostE.bind (r := evT F c ρ) h).post R fun k ρ1 h1 H1 W1 g1 => ?_⟩
  cases k with
  | false =>
    rw [if_neg (by simp)]
    have h1 : PostS X Z T (aliC F f is ρ1) σ H ρ W En := h1
    exact ht is hl g1.rel (fun _ z => z) (PostS.move h1 g1.s)
  | true =>
    rw [if_pos rfl]
    have h1 : PostS X Z T ((evVar y ρ1).bind fun _ => need (freeSlot x ρ1 = true) (aliC F f (aliV x y is) ρ1)) σ H ρ W En := h1
    obtain ⟨⟨py0, ρy⟩, ey, h1⟩ := PostS.val .evVar h1
    obtain ⟨_, v, hyv, _⟩ := slot_peek ey g1.rel
    have h2 : freeSlot x ρ1 = true ∧ PostS X Z T (aliC F f (aliV x y is) ρ1) σ H ρ W En := by
      unfold need at h1
      split at h1
      · exact ⟨by assumption, h1⟩
      · exact h1.elim
    obtain ⟨hf, h2⟩ := h2
    have hxl : x < σ.length := by rw [← g1.rel.len]; exact (free_bor hf).2.2
    exact ⟨v, hyv, ht (aliV x y is) (by rw [← hl]; simp [aliV]) g1.rel (fun vs z => getVs_ali hxl hyv z) (PostS.move h2 g1.s)⟩
/-! ### two parts exchanged -/
theorem sub_swap {y z : Str} {yp zp ip1 ip2 pt pt2 : Pos} {i1 i2 a b : Expr} {kt k2 : Nat} {env : Env} (ha : notStar a = true) (hb : notStar b = true) : swappedStores [.Tuple [.Subscript (.Name y yp) i1 ip1, .Subscript (.Name z zp) i2 ip2] kt pt] (.Tuple [a, b] k2 pt2) env = pure none := by
  have e1 : (match a with | .Starred .. => true | _ => false) = false := by cases a <;> first | rfl | cases ha
  have e2 : (match b with | .Starred .. => true | _ => false) = false := by cases b <;> first | rfl | cases hb
  unfold swappedStores
  by_cases h : env.blockKind = .function <;> simp [h]
theorem st_parI {i j : Nat} {ix1 ix2 a b : Ex} {y z : Str} {yp zp ip1 ip2 pt pt2 pos : Pos} {i1 i2 a' b' : Expr} {kt k2 : Nat} (tk : T.K = X.K) (hcalm : X.calm = true) (s1 : notSlice i1 = true) (s2 : notSlice i2 = true) (v1 : PE X (.Name y yp) (tVar i)) (v2 : PE X (.Name z zp) (tVar j)) (p1 : PE X i1 (tE X T F Z ix1)) (p2 : PE X i2 (tE X T F Z ix2))
    (ha : PE X a' (tE X T F Z a)) (hb : PE X b' (tE X T F Z b)) (sa : notStar a' = true) (sb : notStar b' = true) (htup : PE X (.Tuple [a', b'] k2 pt2) (tE X T F Z (.tup (.cons a (.cons b .nil))))) :
    PS X (.Assign [.Tuple [.Subscript (.Name y yp) i1 ip1, .Subscript (.Name z zp) i2 ip2] kt pt] (.Tuple [a', b'] k2 pt2) pos) (tS X T Z (ex F M (.parI i ix1 j ix2 a b))) := by
  have g1 := pg_sub (pos := ip1) v1 p1 set_list (by cases i1 <;> first | (intro _; rfl) | cases s1)
  have g2 := pg_sub (pos := ip2) v2 p2 set_list (by cases i2 <;> first | (intro _; rfl) | cases s2)
  refine wkS (ps_asg htup (pg_tup hcalm (pgs_cons g1 (pgs_cons g2 pgs_nil))) (by rfl) (sub_swap sa sb) rfl) ?_
  rintro En σ H ⟨ρ, W, R, h⟩
  refine ⟨ρ, W, R, (PostE.bind h).post R fun p ρ1 h1 v H1 W1 o => ?_⟩
  dsimp only at h1
  split at h1
  · rename_i x y
    have r : RepD T.K H1 W1 v (.tup [x, y]) := o.rep
    obtain ⟨aa, vs, rfl, tq, u1, r1, rfl, rx, u2, r2, rfl, ry, rfl⟩ := r
    refine ⟨aa, [u1, u2], rfl, by rw [← tk]; exact tq.sq, rfl, u1, [u2], rfl, ?_⟩
    obtain ⟨⟨p0, ρ0⟩, e0, h5⟩ := PostS.val .evVar h1
    obtain ⟨z0, v0, s0, q0⟩ := slot_peek e0 o.go.rel
    dsimp only at h5
    rw [z0] at h5
    refine ⟨v0, s0, ρ1, W1, o.go.rel, ((PostE.bind h5).move o.go.s).post o.go.rel fun p2 ρ2 h2 w H2 W2 o2 => ?_⟩
    obtain ⟨k, e4, h2⟩ := PostS.val .pk h2
    obtain ⟨ρ', e5, h2⟩ := PostS.val (.mutSlot fun _ => .dSet) h2
    have kk := peek_ok o2.go.rel o2.rep (pk_of e4)
    have rx2 := RepD.adv o.go.rel.wl (o2.go.step.adv o.go.rel) rx
    have ry2 := RepD.adv o.go.rel.wl (o2.go.step.adv o.go.rel) ry
    refine set_slot o2.go.rel s0 kk rx2 e5 fun H3 g3 => ?_
    have go3 := (o.go.trans o2.go).trans g3
    have ry3 := RepD.adv o2.go.rel.wl (g3.step.adv o2.go.rel) ry2
    refine ⟨u2, [], rfl, ?_⟩
    obtain ⟨⟨p9, ρ9⟩, e9, h6⟩ := PostS.val .evVar h2
    obtain ⟨z9, v9, s9, q9⟩ := slot_peek e9 g3.rel
    dsimp only at h6
    rw [z9] at h6
    refine ⟨v9, s9, ρ', W2, g3.rel, ((PostE.bind h6).move go3.s).post g3.rel fun p4 ρ4 h4 w4 H4 W4 o4 => ?_⟩
    obtain ⟨k2, e6, h4⟩ := PostS.val .pk h4
    obtain ⟨ρ8, e8, h4⟩ := PostS.val (.mutSlot fun _ => .dSet) h4
    have kk2 := peek_ok o4.go.rel o4.rep (pk_of e6)
    have ry4 := RepD.adv g3.rel.wl (o4.go.step.adv g3.rel) ry3
    refine set_slot o4.go.rel s9 kk2 ry4 e8 fun H5 g5 => ?_
    exact ⟨rfl, h4 _ _ _ ((go3.trans o4.go).trans g5).s⟩
  · exact h1.elim
end
end Dv

set_option Elab.async false
set_option linter.all false
set_option maxRecDepth 100000
set_option maxHeartbeats 2000000
namespace Dv
open PySem PySem.Spec PyProof.Rows L2

section
variable {T : Tc} {F : Fn} {G : Gn} {np : Nat} {M : Nat}
theorem loc_of {sc : Scope} {x : Str} (h : isLoc sc x = true) : Loc sc x := by
  unfold isLoc at h
  split at h
  · rename_i e; exact .inl e
  · rename_i e; exact .inr e
  · cases h
theorem aug_of {a b : Operator} (h : augEq a b = true) : a = b := by cases a <;> cases b <;> first | rfl | cases h
/-- what a def's body runs in -/
structure Env2 (X : Cx) (T : Tc) (F : Fn) (Z : WX) (G : Gn) (np : Nat) : Prop extends Env1 X T F Z G np where
  fnT : ∀ x, X.fn x = true
  kind : X.env.scope.kind = .function
  po : PassesOwn (model X.prog X.w) X.A X.env X.xe
  stk : X.stack = X.env :: X.outer
  frm : X.env.frame = some X.env.locals
theorem Env2.tr {X : Cx} {Z W : WX} (E : Env2 X T F Z G np) {pn : List (Addr × Obj)} {xe : Value → Shared → Prop} (tk : Takes (X.tr pn xe) W) (po : PassesOwn (model X.prog X.w) X.A X.env xe) : Env2 (X.tr pn xe) T F W G np :=
  ⟨⟨E.tk, E.calm, E.nd, E.hu, E.glo, E.free, E.bt, fun p hp => ⟨(E.fs p hp).ex⟩, tk, E.bm, E.ec, E.rm, E.hi, E.rh⟩, E.fnT, E.kind, po, E.stk, E.frm⟩
theorem Env1.clk {X : Cx} {Z : WX} (E : Env1 X T F Z G np) : ClK X T G := ⟨E.tk, E.ec, E.free, E.hi, E.rh⟩
/-- a comprehension stored at once -/
theorem comp_set {X : Cx} {Z : WX} (E : Env1 X T F Z G np) {e : Ex} {v : Expr} {i : Nat} {y : Str} {py pos : Pos} (hy : X.N[i]? = some y) (h : ckE G X.N np X.env.scope e v = true) (hn : notComp v = false) (hl : isLocal X.env.scope y = true) (hsw : swapsWith v (some (.Name y py)) pos.line X.env = pure true) :
    PS X (.Assign [.Name y py] v pos) (tAsg (tE X T F Z e) (gName i)) := by
  cases v with
  | ListComp elt' gs scope cpos =>
    cases e with
    | comp elt tg it ifs own =>
      rcases gs with _ | ⟨⟨tg', it', ifs', as⟩, _ | ⟨_, _⟩⟩
      · cases h
      · obtain ⟨h1, h2⟩ := and2 h
        obtain ⟨h3, h4⟩ := and2 h1
        obtain ⟨h5, h6⟩ := and2 h3
        obtain ⟨h7, h8⟩ := and2 h5
        obtain ⟨h9, h10⟩ := and2 h7
        obtain ⟨h11, h12⟩ := and2 h9
        obtain ⟨h13, h14⟩ := and2 h11
        obtain ⟨h15, h16⟩ := and2 h13
        have h0 : as = 0 := of_decide_eq_true h15
        subst h0
        have ok := blkOk_by h12
        have ow : (own.map fun i => (X.N.getD i ⟨#[]⟩, i)).map (·.2) = own := by rw [List.map_map]; exact List.map_id' own
        have pc := ps_setLc (py := py) (spos := pos) (g := gT X.K tg) (wi := tI X T F Z it) (tt := tCl X T F Z0 ifs) (te := tE X T F Z0 elt) E.calm E.nd hy (local_of hl) hsw (snd_I it E h16) ok
          (fun s H C cl fp => tg_ok (X := X.blk s H scope (compEnvC scope cl C X.env) fp) (sc := scope) E.calm E.nd (fun x hx => by
            unfold isLoc at hx
            split at hx
            · rename_i e
              have : (relS scope X.env.scope).names.lookup x = some .local := lookup_relS_keep (by decide) e
              exact ⟨.inl this, .inr this⟩
            · rename_i e
              have : (relS scope X.env.scope).names.lookup x = some .cell := lookup_relS_keep (by decide) e
              exact ⟨.inr this, .inl (by show (scope.names.lookup x == some .cell) = true; rw [e]; rfl)⟩
            · cases hx) h6)
          (fun s H C cl fp => snd_C ifs (E.blk s H scope (compEnvC scope cl C X.env) fp) h4)
          (fun s H C cl fp => snd_E elt (E.blk s H scope (compEnvC scope cl C X.env) fp) h2) (fold_of h14)
        rw [ow] at pc
        refine wkS pc fun D σ H q => ?_
        refine comp_tLc E.tk (fun i hi => ?_) (fun i hi => ?_) q
        · cases hb : T.bm i with
          | none => rfl
          | some a =>
            have := E.bm i a hb
            rw [List.all_eq_true] at h10
            have h3 := of_decide_eq_true (h10 i hi)
            omega
        · rw [List.all_eq_true] at h8
          exact of_decide_eq_true (h8 i hi)
      · simp [ckE] at h
    | _ => simp [ckE, asCall] at h
  | SetComp _ _ _ _ => cases e <;> simp [ckE, asCall] at h
  | DictComp _ _ _ _ _ => cases e <;> simp [ckE, asCall] at h
  | _ => cases hn

theorem sole_no {v t : Expr} {n : Nat} {env : Env} (h : notComp v = true) : swapsWithSole [t] v n env = pure false := by
  unfold swapsWithSole
  exact swap_no h
theorem ck_two {s : Sx} {t u : Expr} {r : List Expr} {v : Expr} {pos : Pos} {N : List Str} {sc : Scope} (nb : s ≠ .bad) (h : ckS G N np sc s (.Assign (t :: u :: r) v pos) = true) : False := by
  unfold ckS at h
  split at h
  all_goals first | (cases h; done) | (rename_i e; cases e; done) | (rename_i e _; cases e; done) | exact nb rfl
theorem par_of {i j : Nat} {a b : Ex} {s' : Stmt} {N : List Str} {sc : Scope} (h : ckS G N np sc (.par i j a b) s' = true) : ∃ x px y py kt pt a' b' k2 pt2 pos, s' = .Assign [.Tuple [.Name x px, .Name y py] kt pt] (.Tuple [a', b'] k2 pt2) pos := by
  unfold ckS at h
  split at h
  all_goals first | (rename_i e _; cases e; done) | (cases h; done) | skip
  all_goals first | (simp_all; done) | skip
mutual
theorem snd_S : ∀ (s : Sx) {X : Cx} {Z : WX} (E : Env2 X T F Z G np) {s' : Stmt}, ckS G X.N np X.env.scope s s' = true → PS X s' (tS X T Z (ex F M s))
  | .set i e, X, Z, E, s', h => by
    cases s' with
    | Assign ts v pos =>
      rcases ts with _ | ⟨t, _ | ⟨_, _⟩⟩
      · cases h
      · cases t with
        | Name y py =>
          obtain ⟨h1, h2⟩ := and2 h
          obtain ⟨h3, h4⟩ := and2 h1
          obtain ⟨h5, h6⟩ := and2 h3
          have hy := of_decide_eq_true h5
          exact wkS (set_ok E.nd hy (loc_of h6) (E.fnT _) E.kind h4 (snd_E e E.toEnv1 h2) fun hn hl hsw => comp_set E.toEnv1 hy h2 hn hl hsw) fun D σ H q => set_read (F := F) q
        | _ => cases h
      · exact (ck_two (h := h) (by intro z; cases z)).elim
    | _ => cases h
  | .setT l e, X, Z, E, s', h => by
    cases s' with
    | Assign ts v pos =>
      rcases ts with _ | ⟨t, _ | ⟨_, _⟩⟩
      · cases h
      · cases t with
        | Tuple es k tp =>
          obtain ⟨h1, h2⟩ := and2 h
          obtain ⟨h3, h4⟩ := and2 h1
          obtain ⟨h5, h6⟩ := and2 h3
          have hg := tg_ok (X := X) (sc := X.env.scope) E.calm E.nd (fun x hx => ⟨loc_of hx, .inl (E.fnT x)⟩) h4
          exact st_setT E.tk (snd_E e E.toEnv1 h2) hg (sole_no h6) (by cases v <;> first | rfl | cases h5) rfl
        | _ => cases h
      · exact (ck_two (h := h) (by intro z; cases z)).elim
    | _ => cases h
  | .par i j a b, X, Z, E, s', h => by
    obtain ⟨x, px, y, py, kt, pt, a', b', k2, pt2, pos, rfl⟩ := par_of h
    obtain ⟨h1, h2⟩ := and2 h
    obtain ⟨h3, h4⟩ := and2 h1
    obtain ⟨h5, h6⟩ := and2 h3
    obtain ⟨h7, h8⟩ := and2 h5
    obtain ⟨h9, h10⟩ := and2 h7
    have hw := par_swap (pt := pt) (pt2 := pt2) (kt := kt) (k2 := k2) E.kind h6
    obtain ⟨g1, g2⟩ := and2 h6
    obtain ⟨g3, g4⟩ := and2 g1
    obtain ⟨g5, g6⟩ := and2 g3
    obtain ⟨g7, g8⟩ := and2 g5
    obtain ⟨g9, g10⟩ := and2 g7
    obtain ⟨g11, g12⟩ := and2 g9
    obtain ⟨g13, g14⟩ := and2 g11
    exact st_par E.calm E.nd (of_decide_eq_true h9) (of_decide_eq_true h10) (of_decide_eq_true h8) (local_of g13) (local_of g14) (snd_E a E.toEnv1 h4) (snd_E b E.toEnv1 h2) g8 g6 hw
  | .setI i ix e, X, Z, E, s', h => by
    cases s' with
    | Assign ts v pos =>
      rcases ts with _ | ⟨t, _ | ⟨_, _⟩⟩
      · cases h
      · cases t with
        | Subscript o ix' ip =>
          cases o with
          | Name y yp =>
            obtain ⟨h1, h2⟩ := and2 h
            obtain ⟨h3, h4⟩ := and2 h1
            obtain ⟨h5, h6⟩ := and2 h3
            obtain ⟨h7, h8⟩ := and2 h5
            obtain ⟨h9, h10⟩ := and2 h7
            obtain ⟨n1, n2, n3⟩ := name_of h8
            exact st_setI h6 (pe_var (of_decide_eq_true h9) (vis_of h10) n1 n2) (snd_E ix E.toEnv1 h4) (snd_E e E.toEnv1 h2)
          | _ => cases h
        | _ => cases h
      · exact (ck_two (h := h) (by intro z; cases z)).elim
    | _ => cases h
  | .parI i ix1 j ix2 a b, X, Z, E, s', h => by
    unfold ckS at h
    split at h
    all_goals first | (cases h; done) | (rename_i z; cases z; done) | skip
    rename_i i0 ix10 j0 ix20 a0 b0 y yp ix1' ip1 z zp ix2' ip2 kt pt a' b' k2 pt2 pos zz
    cases zz
    obtain ⟨h, h1⟩ := and2 h
    obtain ⟨h, h2⟩ := and2 h
    obtain ⟨h, h3⟩ := and2 h
    obtain ⟨h, h4⟩ := and2 h
    obtain ⟨h, h5⟩ := and2 h
    obtain ⟨h, h6⟩ := and2 h
    obtain ⟨h, h7⟩ := and2 h
    obtain ⟨h, h8⟩ := and2 h
    obtain ⟨h, h9⟩ := and2 h
    obtain ⟨h, h10⟩ := and2 h
    obtain ⟨h, h11⟩ := and2 h
    obtain ⟨h, h12⟩ := and2 h
    obtain ⟨h13, h14⟩ := and2 h
    obtain ⟨n1, n2, n3⟩ := name_of h12
    obtain ⟨m1, m2, m3⟩ := name_of h7
    have ck : ckEs G X.N np X.env.scope (.cons a (.cons b .nil)) [a', b'] = true := by
      show (notStar a' && ckE G X.N np X.env.scope a a' && (notStar b' && ckE G X.N np X.env.scope b b' && true)) = true
      rw [h2, h1, h4, h3]
      rfl
    exact st_parI E.tk E.calm h11 h6 (pe_var (of_decide_eq_true h13) (vis_of h14) n1 n2) (pe_var (of_decide_eq_true h9) (vis_of h8) m1 m2) (snd_E ix1 E.toEnv1 h10) (snd_E ix2 E.toEnv1 h5) (snd_E a E.toEnv1 h2) (snd_E b E.toEnv1 h1) h4 h3 (s_tup (snd_Es _ E.toEnv1 ck))
  | .aug i op e, X, Z, E, s', h => by
    cases s' with
    | AugAssign t op' v pos =>
      cases t with
      | Name y yp =>
        obtain ⟨h1, h2⟩ := and2 h
        obtain ⟨h3, h4⟩ := and2 h1
        obtain ⟨h5, h6⟩ := and2 h3
        have ho : op = op' := aug_of h5
        subst ho
        exact st_aug E.nd (of_decide_eq_true h6) (loc_of h4) (E.fnT _) (snd_E e E.toEnv1 h2)
      | _ => cases h
    | _ => cases h
  | .augI i op ix e, X, Z, E, s', h => by
    cases s' with
    | AugAssign t op' v pos =>
      cases t with
      | Subscript o ix' ip =>
        cases o with
        | Name y yp =>
          obtain ⟨h1, h2⟩ := and2 h
          obtain ⟨h3, h4⟩ := and2 h1
          obtain ⟨h5, h6⟩ := and2 h3
          obtain ⟨h7, h8⟩ := and2 h5
          obtain ⟨h9, h10⟩ := and2 h7
          obtain ⟨h11, h12⟩ := and2 h9
          have ho : op = op' := aug_of h11
          subst ho
          obtain ⟨n1, n2, n3⟩ := name_of h8
          exact st_augI h6 E.tk (pe_var (of_decide_eq_true h12) (vis_of h10) n1 n2) (snd_E ix E.toEnv1 h4) (snd_E e E.toEnv1 h2)
        | _ => cases h
      | _ => cases h
    | _ => cases h
  | .expr e, X, Z, E, s', h => by
    cases s' with
    | Expr v pos =>
      obtain ⟨h1, h2⟩ := and2 h
      exact st_expr h1 (snd_E e E.toEnv1 h2)
    | _ => cases h
  | .ret e, X, Z, E, s', h => by
    cases s' with
    | Return v pos =>
      cases v with
      | some v => exact st_ret (snd_E e E.toEnv1 h)
      | none => cases h
    | _ => cases h
  | .retN, X, Z, E, s', h => by
    cases s' with
    | Return v pos =>
      cases v with
      | some v => cases h
      | none => exact st_retN
    | _ => cases h
  | .ite c a b, X, Z, E, s', h => by
    cases s' with
    | If c' a' b' pos =>
      obtain ⟨h1, h2⟩ := and2 h
      obtain ⟨h3, h4⟩ := and2 h1
      exact st_ite (snd_T c E.toEnv1 h3) (snd_Ss a E h4) (snd_Ss b E h2)
    | _ => cases h
  | .whl c b, X, Z, E, s', h => by
    cases s' with
    | While c' b' el pos =>
      cases el with
      | nil =>
        obtain ⟨h1, h2⟩ := and2 h
        exact st_whl E.po (snd_T c E.toEnv1 h1) (snd_Ss b E h2)
      | cons _ _ => cases h
    | _ => cases h
  | .for_ tg it b, X, Z, E, s', h => by
    cases s' with
    | For tg' it' b' el pos =>
      cases el with
      | nil =>
        obtain ⟨h1, h2⟩ := and2 h
        obtain ⟨h3, h4⟩ := and2 h1
        obtain ⟨h5, h6⟩ := and2 h3
        have hg := tg_ok (X := X) (sc := X.env.scope) E.calm E.nd (fun x hx => ⟨loc_of hx, .inl (E.fnT x)⟩) h4
        exact st_for E.tk E.po E.calm (snd_I it E.toEnv1 h5) hg (snd_Ss b E h2) (fold_of h6)
      | cons _ _ => cases h
    | _ => cases h
  | .brk, X, Z, E, s', h => by
    cases s' with
    | Break pos =>
      refine wkS ps_break ?_
      rintro En σ H ⟨ρ, W, R, h⟩
      exact h _ _ _ (GoS.refl R)
    | _ => cases h
  | .cnt, X, Z, E, s', h => by
    cases s' with
    | Continue pos =>
      refine wkS ps_continue ?_
      rintro En σ H ⟨ρ, W, R, h⟩
      exact h _ _ _ (GoS.refl R)
    | _ => cases h
  | .pass, X, Z, E, s', h => by
    cases s' with
    | Pass pos =>
      refine wkS ps_pass ?_
      rintro En σ H ⟨ρ, W, R, h⟩
      exact h _ _ _ (GoS.refl R)
    | _ => cases h
  | .rz c fs es, X, Z, E, s', h => by
    unfold ckS at h
    split at h
    all_goals first | (cases h; done) | (rename_i z; cases z; done) | skip
    rename_i c0 fs0 es0 y yp l' pos pos2 z
    cases z
    obtain ⟨h1, h2⟩ := and2 h
    obtain ⟨h3, h4⟩ := and2 h1
    obtain ⟨h5, h6⟩ := and2 h3
    obtain ⟨h7, h8⟩ := and2 h5
    obtain ⟨h9, h10⟩ := and2 h7
    have hy : y = c := of_decide_eq_true h9
    subst hy
    obtain ⟨q, hq, hq2⟩ := List.any_eq_true.mp h6
    obtain ⟨q1, q2⟩ := and2 hq2
    exact st_rz E.toEnv1 (gl_of h10) (name_of h8).1 hq (of_decide_eq_true q1) (of_decide_eq_true q2) (fun z => by subst z; cases h4) (snd_Es es E.toEnv1 h2) (ckEs_star h2)
  | .tr_ b tab c i hd, X, Z, E, s', h => by
    unfold ckS at h
    split at h
    all_goals first | (cases h; done) | (rename_i z; cases z; done) | skip
    rename_i b0 tab0 c0 i0 h0 b' x xp e h' pos' pos z
    cases z
    obtain ⟨h1, h2⟩ := and2 h
    obtain ⟨h3, h4⟩ := and2 h1
    obtain ⟨h5, h6⟩ := and2 h3
    obtain ⟨h7, h8⟩ := and2 h5
    obtain ⟨h9, h10⟩ := and2 h7
    obtain ⟨h11, h12⟩ := and2 h9
    obtain ⟨h13, h14⟩ := and2 h11
    obtain ⟨h15, h16⟩ := and2 h13
    obtain ⟨h17, h18⟩ := and2 h15
    obtain ⟨h19, h20⟩ := and2 h17
    have hx : x = c := of_decide_eq_true h19
    subst hx
    cases h' with
    | nil => cases h6
    | cons s0 h' =>
    have hin : ∀ p ∈ tab, p ∈ G.ec := fun p hp => of_decide_eq_true (List.all_eq_true.mp h10 p hp)
    refine st_try E.toEnv1.clk E.stk E.frm E.nd (of_decide_eq_true h16) h14 E.tz (gl_of h20) (name_of h18).1 hin ?_ h4 fun W pn xe tk po => snd_Bs2 b (E.tr tk po) h2
    obtain ⟨p, hp, hp2⟩ := List.any_eq_true.mp h8
    obtain ⟨q, hq, hq2⟩ := List.any_eq_true.mp hp2
    obtain ⟨D, _, k⟩ := E.ec p (hin p hp)
    obtain ⟨C, hC, _⟩ := k.s q hq
    rw [of_decide_eq_true hq2] at hC
    exact ⟨C, hC⟩
  | .bad, X, Z, E, s', h => ⟨fun pins s σ H D I q => by
    obtain ⟨ρ, W, R, q⟩ := q
    exact q.elim⟩
theorem snd_Ss : ∀ (l : Sxs) {X : Cx} {Z : WX} (E : Env2 X T F Z G np) {l' : List Stmt}, ckSs G X.N np X.env.scope l l' = true → PSs X l' (tS X T Z (exs F M l))
  | .nil, X, Z, E, l', h => by
    cases l' with
    | nil =>
      refine wkSs pss_nil ?_
      rintro En σ H ⟨ρ, W, R, h⟩
      exact h _ _ _ (GoS.refl R)
    | cons _ _ => cases h
  | .cons s l, X, Z, E, l', h => by
    cases l' with
    | nil => cases h
    | cons s' l' =>
      obtain ⟨h1, h2⟩ := and2 h
      refine wkSs (pss_cons (snd_S s E h1) (snd_Ss l E h2)) ?_
      rintro En σ H ⟨ρ, W, R, h⟩
      refine ⟨ρ, W, R, ?_⟩
      have h : PostS X Z T ((ex F M s ρ).bind fun q => match q.1 with
        | .nx => exs F M l q.2
        | _ => .ok q) σ H ρ W En := h
      cases e : ex F M s ρ with
      | bad => rw [e] at h; exact h
      | err er => rw [e] at h; exact h
      | ok q =>
        obtain ⟨f, ρ1⟩ := q
        rw [e] at h
        cases f with
        | nx => exact fun σ' H' W' g => ⟨ρ1, W', g.rel, PostS.move h g⟩
        | bk => exact h
        | ct => exact h
        | rt p => exact h
  | .ali c x y f is, X, Z, E, l', h => by
    unfold ckSs at h
    split at h
    all_goals first | (cases h; done) | (rename_i z; cases z; done) | skip
    rename_i c0 x0 y0 f0 is0 c' nx px ny py pos1 pos2 g p la pos pos3 zz
    cases zz
    obtain ⟨h, h1⟩ := and2 h
    obtain ⟨h, h2⟩ := and2 h
    obtain ⟨h, h3⟩ := and2 h
    obtain ⟨h, h4⟩ := and2 h
    obtain ⟨h, h5⟩ := and2 h
    obtain ⟨h, h6⟩ := and2 h
    obtain ⟨h, h7⟩ := and2 h
    obtain ⟨h, h8⟩ := and2 h
    obtain ⟨h, h9⟩ := and2 h
    obtain ⟨h, h10⟩ := and2 h
    obtain ⟨h11, h12⟩ := and2 h
    have hg : g = f := of_decide_eq_true h6
    subst hg
    obtain ⟨q, hq, hq2⟩ := List.any_eq_true.mp h3
    obtain ⟨q3, q4⟩ := and2 hq2
    obtain ⟨q5, q6⟩ := and2 q3
    have cl := E.fs q hq
    rw [show q.1 = g from of_decide_eq_true q5] at cl
    cases la with
    | nil => cases h2
    | cons e' la => exact st_ali E.tk E.nd (snd_T c E.toEnv1 h11) (of_decide_eq_true h12) (loc_of h10) (E.fnT _) (of_decide_eq_true h9) (vis_of h8) h7 cl (gl_of h5) h1 (of_decide_eq_true q6) (of_decide_eq_true q4) (name_of h4).1
theorem snd_Bs2 : ∀ (l : Tbs) {X : Cx} {Z : WX} (E : Env2 X T F Z G np) {l' : List Stmt}, ckTbs G X.N np X.env.scope l l' = true → PSs X l' (tBd X T Z (exT F M l))
  | .nil, X, Z, E, l', h => by
    cases l' with
    | nil => exact sb_nil
    | cons _ _ => cases h
  | .cons s l, X, Z, E, l', h => by
    cases l' with
    | nil => cases h
    | cons s' l' =>
      obtain ⟨h1, h2⟩ := and2 h
      exact sb_cons (snd_B2 s E h1) (snd_Bs2 l E h2)
theorem snd_B2 : ∀ (t : Tb) {X : Cx} {Z : WX} (E : Env2 X T F Z G np) {s' : Stmt}, ckTb G X.N np X.env.scope t s' = true → PS X s' (tBd X T Z (exT1 F M t))
  | .thr none e, X, Z, E, s', h => by
    cases s' with
    | Expr v pos =>
      obtain ⟨h1, h2⟩ := and2 h
      exact sb_thrN h1 (snd_E e E.toEnv1 h2)
    | _ => cases h
  | .thr (some i) e, X, Z, E, s', h => by
    cases s' with
    | Assign ts v pos =>
      rcases ts with _ | ⟨t, _ | ⟨_, _⟩⟩
      · cases h
      · cases t with
        | Name y py =>
          obtain ⟨h1, h2⟩ := and2 h
          obtain ⟨h3, h4⟩ := and2 h1
          obtain ⟨h5, h6⟩ := and2 h3
          exact sb_thrS E.nd (of_decide_eq_true h5) (loc_of h6) (E.fnT _) h4 (snd_E e E.toEnv1 h2)
        | _ => cases h
      · cases t <;> cases h
    | _ => cases h
  | .qt s, X, Z, E, s', h => sb_qt (snd_S s E h)
  | .ite c a b, X, Z, E, s', h => by
    cases s' with
    | If c' a' b' pos =>
      obtain ⟨h1, h2⟩ := and2 h
      obtain ⟨h3, h4⟩ := and2 h1
      exact sb_ite (snd_T c E.toEnv1 h3) (snd_Bs2 a E h4) (snd_Bs2 b E h2)
    | _ => cases h
end
end
end Dv

set_option Elab.async false
set_option linter.all false
set_option maxRecDepth 100000
set_option maxHeartbeats 1000000
namespace Dv
open PySem PySem.Spec PyProof.Rows L2

/-! ### a def keeps its promise -/
/-- what is known of a def, wherever it is called from -/
structure DefK (P : Program) (w : World) (K : PySem.W.Frag) (mg : Str → Option Value) (base : Heap) (F : Fn) (k : Nat) (f : Str) (np mn : Nat) : Prop where
  ex : ∃ (fa : Addr) (fd : FuncData) (ps : List Str), FnOk P w K mg base (L2.CX P w) k fa fd ps (spOf F mg K ps.length f) ∧ mg f = some (.ref fa) ∧ PySem.W.keepIn K (.ref fa) = true ∧
    ps.length = np ∧ (∀ as, F.call f as ≠ .bad → as.length = np) ∧
    ∀ n, mn ≤ n → n ≤ np → ∃ (ds : List Value) (dvs : List V), Binds K fd ps ds ∧ Vals dvs ds ∧ ∀ H W, RepDs K H W dvs (F.dfl f n)
theorem DefK.mono {P : Program} {w : World} {K : PySem.W.Frag} {mg : Str → Option Value} {base : Heap} {F : Fn} {j k : Nat} {f : Str} {np mn : Nat} (h : DefK P w K mg base F j f np mn) (le : j ≤ k) : DefK P w K mg base F k f np mn := by
  obtain ⟨fa, fd, ps, h1, h2⟩ := h.ex
  exact ⟨fa, fd, ps, h1.mono le, h2⟩
/-- what is known of the module's names -/
structure GloK (P : Program) (w : World) (base : Heap) (K : PySem.W.Frag) (mg : Str → Option Value) (F : Fn) (G : Gn) : Prop where
  glo : ∀ x d, F.glo x = some d → ∃ u v, mg x = some u ∧ RelV v u ∧ ∀ H W, RepD K H W v d
  free : ∀ x ∈ G.free, mg x = none
  bt : ∀ p ∈ G.bt, mg p.1 = some (.builtin p.2)
  ec : ∀ p ∈ G.ec, ∃ D, mg p.nm = some (.ref D) ∧ ErK P K mg p D
  hi : ∀ f ∈ G.hi, HotK P w K mg base f

theorem rs_bind {α β : Type} {r : Rs α} {f : α → Rs β} {y : β} (h : r.bind f = .ok y) : ∃ x, r = .ok x ∧ f x = .ok y := by
  cases r with
  | ok a => exact ⟨a, rfl, h⟩
  | err _ => cases h
  | bad => cases h

def bmOf (vs : List V) (as : List A) (i : Nat) : Option Addr := match as[i]?, vs[i]? with
  | some (.own _), some (.ref a) => some a
  | some (.rd _), some (.ref a) => some a
  | _, _ => none

section
variable {K : PySem.W.Frag} {H : Hp} {W : AS} {vs : List V} {as : List A} {N : List Str}
theorem env_get {i n : Nat} {s : S} (h : (envOf n as)[i]? = some (some s)) : ∃ a, as[i]? = some a ∧ s = a.slot := by
  unfold envOf at h
  by_cases hi : i < as.length
  · rw [List.getElem?_append_left (by simpa using hi), List.getElem?_map] at h
    cases e : as[i]? with
    | none => rw [e] at h; cases h
    | some a => rw [e] at h; cases h; exact ⟨a, rfl, rfl⟩
  · rw [List.getElem?_append_right (by simpa using hi), List.getElem?_replicate] at h
    split at h <;> cases h
theorem env_at {i n : Nat} {a : A} (h : as[i]? = some a) : (envOf n as)[i]? = some (some a.slot) := by
  have hi := (List.getElem?_eq_some_iff.mp h).1
  unfold envOf
  rw [List.getElem?_append_left (by simpa using hi), List.getElem?_map, h]
  rfl
theorem start_at {i : Nat} {v : V} (h : vs[i]? = some v) : (L2.start N vs)[i]? = some (some v) := by
  have hi := (List.getElem?_eq_some_iff.mp h).1
  unfold L2.start
  rw [List.getElem?_append_left (by simpa using hi), List.getElem?_map, h]
  rfl
theorem start_get {i : Nat} {v : V} (h : (L2.start N vs)[i]? = some (some v)) : vs[i]? = some v := by
  unfold L2.start at h
  by_cases hi : i < vs.length
  · rw [List.getElem?_append_left (by simpa using hi), List.getElem?_map] at h
    cases e : vs[i]? with
    | none => rw [e] at h; cases h
    | some a => rw [e] at h; cases h; rfl
  · rw [List.getElem?_append_right (by simpa using hi), List.getElem?_replicate] at h
    split at h <;> cases h
theorem bm_mut {i : Nat} {b : Addr} (h : bmOf vs as i = some b) : vs[i]? = some (.ref b) ∧ ∃ a, as[i]? = some a ∧ isMut a ∧ isBor a.slot := by
  unfold bmOf at h
  split at h
  · rename_i e1 e2; cases h; exact ⟨e2, _, e1, trivial, trivial⟩
  · rename_i e1 e2; cases h; exact ⟨e2, _, e1, trivial, trivial⟩
  · cases h
theorem own_arg {i n : Nat} {b : Addr} (h : OwnA (L2.start N vs) (envOf n as) i b) : vs[i]? = some (.ref b) ∧ ∃ a, as[i]? = some a ∧ isMut a := by
  obtain ⟨h1, h2⟩ := h
  refine ⟨start_get h2, ?_⟩
  rcases h1 with ⟨c, d, e⟩ | ⟨c, d, e⟩
  all_goals
    obtain ⟨a, e1, e2⟩ := env_get e
    refine ⟨a, e1, ?_⟩
    cases a <;> first | trivial | cases e2
theorem rel_start (wl : WL H W) (ar : ArgR K H W vs as) : Rel ⟨K, fun a => H a = none, bmOf vs as⟩ (L2.start N vs) H (envOf N.length as) W := by
  have hl := ar.length
  refine ⟨?_, fun i s h => ?_, fun i j b h1 h2 => ?_, wl, fun i d a h _ => ?_, fun _ h => h, fun i b h => ?_⟩
  · unfold envOf L2.start
    simp [hl]
  · obtain ⟨a, e1, rfl⟩ := env_get h
    obtain ⟨v, e2, q⟩ := ar.get e1
    refine ⟨_, start_at e2, ?_⟩
    cases a with
    | val d => exact ⟨v, rfl, q⟩
    | own d => obtain ⟨b, o, rfl, x, y, z⟩ := q; exact ⟨b, o, rfl, x, y, z⟩
    | rd d => obtain ⟨b, o, rfl, x, y, z⟩ := q; exact ⟨b, o, rfl, x, y, z⟩
  · obtain ⟨v1, a1, x1, m1⟩ := own_arg h1
    obtain ⟨v2, a2, x2, m2⟩ := own_arg h2
    exact ar.dst x1 x2 m1 m2 v1 v2
  · rcases h with h | h
    all_goals
      obtain ⟨x, _, e⟩ := env_get h
      cases x <;> cases e
  · obtain ⟨e, a, e1, _, e2⟩ := bm_mut h
    exact ⟨start_at e, a.slot, env_at e1, e2⟩

theorem outs_get : ∀ {as r : List A} {ρ : Env'}, outArgs as ρ = .ok r → ∀ (j : Nat) (a x : A), as[j]? = some a → r[j]? = some x → outArg a ρ[j]? = .ok x
  | [], _, _, _, _, _, _, e, _ => by simp at e
  | b :: as, r, ρ, h, j, a, x, e1, e2 => by
    unfold outArgs at h
    cases h1 : outArg b ρ.head? with
    | bad => rw [h1] at h; cases h
    | err _ => rw [h1] at h; cases h
    | ok y =>
      rw [h1] at h
      change (outArgs as ρ.tail).bind _ = _ at h
      cases h2 : outArgs as ρ.tail with
      | bad => rw [h2] at h; cases h
      | err _ => rw [h2] at h; cases h
      | ok t =>
        rw [h2] at h
        cases h
        cases j with
        | zero =>
          cases e1; cases e2
          rw [← List.head?_eq_getElem?]
          exact h1
        | succ j =>
          have := outs_get h2 j a x (by simpa using e1) (by simpa using e2)
          cases ρ <;> simpa using this

theorem outs_same : ∀ {as r : List A} {ρ ρ2 : Env'}, outArgs as ρ2 = .ok r → (∀ (j : Nat) (x : A), as[j]? = some x → (∃ d, x = .val d) ∨ ρ2[j]? = ρ[j]?) → outArgs as ρ = .ok r
  | [], _, _, _, h, _ => h
  | b :: as, r, ρ, ρ2, h, w => by
    unfold outArgs at h ⊢
    obtain ⟨y, h1, h2⟩ := rs_bind h
    obtain ⟨t, h3, h4⟩ := rs_bind h2
    have e1 : outArg b ρ.head? = .ok y := by
      rcases w 0 b rfl with ⟨d, rfl⟩ | e
      · exact h1
      · rw [List.head?_eq_getElem?, ← e, ← List.head?_eq_getElem?]; exact h1
    have e2 : outArgs as ρ.tail = .ok t := outs_same h3 fun j x hj => by
      have := w (j + 1) x (by simpa using hj)
      rw [List.getElem?_tail, List.getElem?_tail]
      exact this
    rw [e1]
    show (outArgs as ρ.tail).bind _ = _
    rw [e2]
    exact h4

theorem end_ok {T : Tc} {H' : Hp} {W' : AS} {σ' : Sg} {ρ' : Env'} {r : Re} {as' : List A} {v : V} (hT : T = ⟨K, fun a => H a = none, bmOf vs as⟩) (ar : ArgR K H W vs as) (g : GoS T (L2.start N vs) H (envOf N.length as) W σ' H' ρ' W') (ho : outArgs as ρ' = .ok as')
    (hr : ResR K H H' W' v r) : CallEnd K H W vs as r as' v H' W' := by
  subst hT
  refine ⟨fun b o h n => ?_, g.dom, g.rel.wl, fun j v a x e1 e2 e3 => ?_, hr⟩
  · obtain ⟨h1, _, h2⟩ := g.step b o h fun i ⟨⟨c, d, e⟩, q⟩ => by
      obtain ⟨a, e1, e2⟩ := env_get e
      cases a with
      | own d => exact n ⟨i, d, e1, start_get q⟩
      | _ => cases e2
    exact ⟨h1, h2⟩
  · have ho := outs_get ho j a x e2 e3
    cases a with
    | val d => cases x <;> trivial
    | rd d => cases x <;> trivial
    | own d =>
      obtain ⟨v', e4, b, o, rfl, _⟩ := ar.get e2
      rw [e1] at e4; cases e4
      have hb : bmOf vs as j = some b := by unfold bmOf; rw [e2, e1]
      obtain ⟨hs, s, hs2, _⟩ := g.rel.bor j b hb
      rw [hs2] at ho
      obtain ⟨o', e5, q⟩ := g.rel.at_ j s hs2
      rw [hs] at e5; cases e5
      cases s with
      | val d => cases ho
      | own c d => cases c with
        | true => cases ho; obtain ⟨b', o', z, q⟩ := q; cases z; exact ⟨b, o', rfl, q⟩
        | false => cases ho
      | lck c d => cases c with
        | true => cases ho; obtain ⟨b', o', z, q⟩ := q; cases z; exact ⟨b, o', rfl, q⟩
        | false => cases ho
      | brz d => cases ho; obtain ⟨v', z, q⟩ := q; cases z; exact q
end

theorem NoErr.outArgs : ∀ {as : List A} {ρ : Env'} {e : Er}, outArgs as ρ ≠ .err e
  | [], _, _, h => by cases h
  | a :: as, ρ, e, h => by
    unfold Dv.outArgs at h
    cases h1 : outArg a ρ.head? with
    | bad => rw [h1] at h; cases h
    | err _ =>
      unfold outArg at h1
      split at h1 <;> first | cases h1 | (split at h1 <;> cases h1)
    | ok y =>
      rw [h1] at h
      change (Dv.outArgs as ρ.tail).bind _ = _ at h
      cases h2 : Dv.outArgs as ρ.tail with
      | bad => rw [h2] at h; cases h
      | err _ => exact NoErr.outArgs h2
      | ok t => rw [h2] at h; cases h
theorem fin_noerr {as : List A} {q : Fl × Env'} {e : Er} : finish as q ≠ .err e := fun h => by
  obtain ⟨f, ρ⟩ := q
  cases f with
  | nx =>
    change (outArgs as ρ).bind _ = _ at h
    cases h2 : outArgs as ρ with
    | bad => rw [h2] at h; cases h
    | err _ => exact NoErr.outArgs h2
    | ok t => rw [h2] at h; cases h
  | rt p =>
    change (retOf p ρ).bind _ = _ at h
    cases h1 : retOf p ρ with
    | bad => rw [h1] at h; cases h
    | err _ =>
      unfold retOf at h1
      split at h1 <;> first | cases h1 | (split at h1 <;> cases h1)
    | ok t =>
      rw [h1] at h
      change (outArgs as t.2).bind _ = _ at h
      cases h2 : outArgs as t.2 with
      | bad => rw [h2] at h; cases h
      | err _ => exact NoErr.outArgs h2
      | ok t => rw [h2] at h; cases h
  | bk => cases h
  | ct => cases h

/-- THE RULE: a def, by its body's value -/
theorem def_ok {P : Program} {w : World} {K : PySem.W.Frag} {mg : Str → Option Value} {base : Heap} {k : Nat} {fa : Addr} {name qual : Str} {params : Arguments} {body : List Stmt} {scope : Scope} {dV kV doc pm cdv ct oc : Value} {an od : Option Addr}
    {osl : Array (Option Value)} {N ps : List Str} {F F2 : Fn} {G : Gn} {f : Str} {b : Sxs} (lk : K.lookup fa = some ⟨oc, od, .func (PySem.W.fnOf name qual params body scope dV kV doc pm an cdv ct), osl⟩) (hcd : PySem.W.codeIn K cdv qual = true) (S : FnScope N ps scope)
    (gk : GloK P w base K mg F G) (hk2 : 2 ≤ k) (hfs : ∀ p ∈ G.fs, DefK P w K mg base F k p.1 p.2.1 p.2.2) (hc : ckSs G N ps.length scope b body = true)
    (hF : ∀ as, F2.call f as ≠ .bad → as.length = ps.length ∧ ∃ M, runDef F M N.length b as = F2.call f as) :
    FnOk P w K mg base (L2.CX P w) (k + 1) fa (PySem.W.fnOf name qual params body scope dV kV doc pm an cdv ct) ps (spOf F2 mg K ps.length f) := by
  refine fn_of lk hcd S (fun vs H Q E h => h.1) fun A outer s H vs Q E hr ⟨hl, W, as, wl, ar, q⟩ => ?_
  have nb : F2.call f as ≠ .bad := fun e => by rw [e] at q; exact q
  obtain ⟨_, M, hM⟩ := hF as nb
  have E2 : Env2 (cxOf (L2.CX P w) P w K mg base N qual scope fa cdv A outer s H E) ⟨K, fun a => H a = none, bmOf vs as⟩ F (fun cls d _ H => E cls d H) G ps.length := by
    refine ⟨⟨rfl, rfl, S.nd, ?_, gk.glo, gk.free, gk.bt, fun p hp => ?_, takes_of rfl rfl rfl rfl, fun i a h => ?_, gk.ec, fun z => hr.mono hk2, gk.hi, fun z => L2H.roomH_of (hr.mono (Nat.le_trans (by decide) hk2))⟩, fun _ => rfl, S.kind, passes_of rfl, rfl, rfl⟩
    · have := hr.un
      show (A.deeper (envOfC qual scope s.heap.objs.size fa cdv)).units + 65 < cLine
      omega
    · obtain ⟨fa', fd', ps', h1, h2, h3, h4, h5, h6⟩ := (hfs p hp).ex
      exact ⟨k, fa', fd', ps', h1, hr, h2, h3, h4, h5, h6⟩
    · obtain ⟨h1, _⟩ := bm_mut h
      have := (List.getElem?_eq_some_iff.mp h1).1
      omega
  have R := rel_start (N := N) wl ar
  refine ⟨_, snd_Ss (M := M) b E2 hc, envOf N.length as, W, R, ?_⟩
  unfold runDef at hM
  cases hx : exs F M b (envOf N.length as) with
  | bad =>
    rw [hx] at hM
    exact nb hM.symm
  | err er =>
    rw [hx] at hM
    rw [← hM] at q
    intro σ1 H1 ρ1 W1 g cls d H' e kp
    refine q cls d H' e fun x o h n => ?_
    obtain ⟨h1, n1, _⟩ := g.step x o h fun i ⟨⟨c, d, e⟩, z⟩ => by
      obtain ⟨a, e1, e2⟩ := env_get e
      cases a with
      | own d => exact n ⟨i, d, e1, start_get z⟩
      | _ => cases e2
    exact kp x o h1 n1
  | ok y =>
    obtain ⟨fl, ρ'⟩ := y
    rw [hx] at hM
    change finish as (fl, ρ') = F2.call f as at hM
    cases hcall : F2.call f as with
    | bad => exact absurd hcall nb
    | err er => rw [hcall] at hM; exact absurd hM fin_noerr
    | ok ra =>
      obtain ⟨r, as'⟩ := ra
      rw [hcall] at q hM
      change ∀ v H' W', CallEnd K H W vs as r as' v H' W' → Q v H' at q
      cases fl with
      | bk => cases hM
      | ct => cases hM
      | nx =>
        obtain ⟨t, h1, h2⟩ := rs_bind (show (outArgs as ρ').bind _ = _ from hM)
        cases h2
        intro σ' H' W' g
        exact q _ _ _ (end_ok rfl ar g h1 rfl)
      | rt p =>
        obtain ⟨⟨r', ρ2⟩, h1, h2⟩ := rs_bind (show (retOf p ρ').bind _ = _ from hM)
        obtain ⟨t, h3, h4⟩ := rs_bind (show (outArgs as ρ2).bind _ = _ from h2)
        cases h4
        intro v σ' H' W' o
        cases p with
        | val d =>
          cases h1
          exact q _ _ _ (end_ok rfl ar o.go h3 o.rep)
        | own d =>
          cases h1
          obtain ⟨a, ob, rfl, h5, h6, _, h7, h8⟩ := o.rep
          exact q _ _ _ (end_ok rfl ar o.go h3 ⟨a, ob, rfl, h7, h5, h6, h8⟩)
        | at_ i =>
          have hv : σ'[i]? = some (some v) := o.rep
          unfold retOf at h1
          dsimp only at h1
          split at h1
          · rename_i d e
            cases h1
            obtain ⟨ov, e1, a, ob, e2, h5, h6, h8⟩ := o.go.rel.at_ i _ e
            rw [hv] at e1; cases e1; cases e2
            have h7 := o.go.rel.fr i d a (.inl e) hv
            have hn : ∀ j x, as[j]? = some x → isMut x → j ≠ i := fun j x hj hm e5 => by
              subst e5
              cases x with
              | val d => exact hm
              | rd d =>
                obtain ⟨v', e6, b', _, rfl, _⟩ := ar.get hj
                have hb : bmOf vs as j = some b' := by unfold bmOf; rw [hj, e6]
                obtain ⟨_, s, e7, e8⟩ := o.go.rel.bor j b' hb
                rw [e] at e7; cases e7; exact e8
              | own d =>
                obtain ⟨v', e6, b', _, rfl, _⟩ := ar.get hj
                have hb : bmOf vs as j = some b' := by unfold bmOf; rw [hj, e6]
                obtain ⟨_, s, e7, e8⟩ := o.go.rel.bor j b' hb
                rw [e] at e7; cases e7; exact e8
            have h9 : outArgs as ρ' = .ok as' := outs_same h3 fun j x hj => by
              by_cases hm : isMut x
              · exact .inr (by rw [List.getElem?_set_ne (Ne.symm (hn j x hj hm))])
              · cases x with
                | val d => exact .inl ⟨d, rfl⟩
                | _ => exact absurd trivial hm
            exact q _ _ _ (end_ok rfl ar o.go h9 ⟨a, ob, rfl, h7, h5, h6, h8⟩)
          · rename_i d e
            cases h1
            obtain ⟨W2, R2, rd, st, mo⟩ := freeze_at o.go.rel e hv
            have g2 : GoS ⟨K, fun a => H a = none, bmOf vs as⟩ σ' H' ρ' W' σ' H' (ρ'.set i (some (thaw true d))) W2 := ⟨R2, st, fun _ h => h, fun j b hb => .inl ⟨j, mo j b hb⟩, fun j b d hj => ⟨by
              have ne : i ≠ j := fun z => by subst z; rw [e] at hj; cases hj
              rw [List.getElem?_set_ne ne]; exact hj, rfl⟩⟩
            exact q _ _ _ (end_ok rfl ar (o.go.trans g2) h3 rd)
          · cases h1
end Dv

set_option Elab.async false
set_option linter.all false
set_option maxRecDepth 100000
set_option maxHeartbeats 1000000
namespace Dv
open PySem PySem.Spec PyProof.Rows L2

/-! ### a module's defs, one behind another -/
/-- a def: its name, how many parameters, how few arguments, how many slots, its text, what fills up a call with n arguments -/
structure Dm where
  f : Str
  np : Nat
  mn : Nat
  n : Nat
  body : Sxs
  dfl : Nat → List D := fun _ => []
/-- what the defs compute; each one calls only those behind it -/
noncomputable def mkF (glo : Str → Option D) (M : Nat) : List Dm → Fn
  | [] => ⟨fun _ _ => .bad, glo, fun _ _ => []⟩
  | d :: ds => ⟨fun f as => if f = d.f then (if as.length = d.np then runDef (mkF glo M ds) M d.n d.body as else .bad) else (mkF glo M ds).call f as, glo, fun f n => if f = d.f then d.dfl n else (mkF glo M ds).dfl f n⟩
def gnOf (free : List Str) (bt : List (Str × String)) (ec : List ErC) (hi : List Str) (ds : List Dm) : Gn := ⟨free, bt, ds.map fun e => (e.f, e.np, e.mn), ec, hi⟩
structure GloF (P : Program) (w : World) (base : Heap) (K : PySem.W.Frag) (mg : Str → Option Value) (glo : Str → Option D) (free : List Str) (bt : List (Str × String)) (ec : List ErC) (hi : List Str) : Prop where
  glo : ∀ x d, glo x = some d → ∃ u v, mg x = some u ∧ RelV v u ∧ ∀ H W, RepD K H W v d
  free : ∀ x ∈ free, mg x = none
  bt : ∀ p ∈ bt, mg p.1 = some (.builtin p.2)
  ec : ∀ p ∈ ec, ∃ D, mg p.nm = some (.ref D) ∧ ErK P K mg p D
  hi : ∀ f ∈ hi, HotK P w K mg base f
section
variable {P : Program} {w : World} {K : PySem.W.Frag} {mg : Str → Option Value} {base : Heap} {glo : Str → Option D} {M : Nat} {ds : List Dm} {k : Nat} {free : List Str} {bt : List (Str × String)} {ec : List ErC} {hi : List Str}
theorem mkF_glo : (mkF glo M ds).glo = glo := by cases ds <;> rfl
theorem GloF.gk (g : GloF P w base K mg glo free bt ec hi) : GloK P w base K mg (mkF glo M ds) (gnOf free bt ec hi ds) := ⟨by rw [mkF_glo]; exact g.glo, g.free, g.bt, g.ec, g.hi⟩
def AllK (P : Program) (w : World) (K : PySem.W.Frag) (mg : Str → Option Value) (base : Heap) (glo : Str → Option D) (M : Nat) (ds : List Dm) (k : Nat) : Prop := ∀ d ∈ ds, DefK P w K mg base (mkF glo M ds) k d.f d.np d.mn
theorem all_nil : AllK P w K mg base glo M [] k := fun d h => by cases h
theorem spOf_congr {F F' : Fn} {n : Nat} {f : Str} (h : F'.call f = F.call f) : spOf F' mg K n f = spOf F mg K n f := by
  funext vs H Q E
  unfold spOf
  rw [h]
/-- what a def needs to be called with fewer arguments -/
def BindsD (K : PySem.W.Frag) (fd : FuncData) (ps : List Str) (d : Dm) : Prop := ∀ n, d.mn ≤ n → n ≤ d.np → ∃ (ds' : List Value) (dvs' : List V), Binds K fd ps ds' ∧ Vals dvs' ds' ∧ ∀ H W, RepDs K H W dvs' (d.dfl n)
theorem mkF_self {d : Dm} (as : List A) : (mkF glo M (d :: ds)).call d.f as = if as.length = d.np then runDef (mkF glo M ds) M d.n d.body as else .bad := if_pos rfl
theorem law_fn {d : Dm} {x qual : Str} {params : Arguments} {body : List Stmt} {scope : Scope} {dvs : List V} {kws : List (Str × V)} {fa : Addr} {fd : FuncData} {N ps : List Str} (A : AllK P w K mg base glo M ds k) (g : GloF P w base K mg glo free bt ec hi) (k2 : 2 ≤ k)
    (FD : FunD K x qual params body scope dvs kws fa fd) (S : FnScope N ps scope) (hN : N.length = d.n) (hp : ps.length = d.np) (hc : ckSs (gnOf free bt ec hi ds) N d.np scope d.body body = true) :
    FnOk P w K mg base (L2.CX P w) (k + 1) fa fd ps (spOf (mkF glo M (d :: ds)) mg K ps.length d.f) := by
  obtain ⟨oc, od, dV, kV, doc, pm, an, cdv, ct, osl, rfl, lk, hcd, _, _⟩ := FD.ex
  refine def_ok (F := mkF glo M ds) (b := d.body) lk hcd S g.gk k2 (fun p hp => ?_) (by rw [hp]; exact hc) fun as h => ?_
  · obtain ⟨e, he, rfl⟩ := List.mem_map.mp hp
    exact A e he
  · rw [mkF_self] at h ⊢
    split at h
    · rename_i hl
      rw [if_pos hl, hp, hN]
      exact ⟨hl, M, rfl⟩
    · exact absurd rfl h
theorem all_cons {d : Dm} {x qual : Str} {params : Arguments} {body : List Stmt} {scope : Scope} {dvs : List V} {kws : List (Str × V)} {fa : Addr} {fd : FuncData} {N ps : List Str} (A : AllK P w K mg base glo M ds k) (g : GloF P w base K mg glo free bt ec hi) (k2 : 2 ≤ k)
    (FD : FunD K x qual params body scope dvs kws fa fd) (S : FnScope N ps scope) (hn : (ds.all fun e => decide (e.f ≠ d.f)) = true) (hN : N.length = d.n) (hp : ps.length = d.np) (hc : ckSs (gnOf free bt ec hi ds) N d.np scope d.body body = true) (hm : mg d.f = some (.ref fa))
    (hb : BindsD K fd ps d) : AllK P w K mg base glo M (d :: ds) (k + 1) := by
  have hself := mkF_self (glo := glo) (M := M) (ds := ds) (d := d)
  have fn : FnOk P w K mg base (L2.CX P w) (k + 1) fa fd ps (spOf (mkF glo M (d :: ds)) mg K ps.length d.f) := law_fn A g k2 FD S hN hp hc
  have one : DefK P w K mg base (mkF glo M (d :: ds)) (k + 1) d.f d.np d.mn := by
    refine ⟨fa, fd, ps, fn, hm, FD.kp, hp, fun as h => ?_, fun n h1 h2 => ?_⟩
    · rw [hself] at h
      split at h
      · assumption
      · exact absurd rfl h
    · obtain ⟨ds', dvs', b1, b2, b3⟩ := hb n h1 h2
      refine ⟨ds', dvs', b1, b2, fun H W => ?_⟩
      have : (mkF glo M (d :: ds)).dfl d.f n = d.dfl n := if_pos rfl
      rw [this]
      exact b3 H W
  intro e he
  rcases List.mem_cons.mp he with rfl | he
  · exact one
  · have ne : e.f ≠ d.f := of_decide_eq_true (List.all_eq_true.mp hn e he)
    have c1 : (mkF glo M (d :: ds)).call e.f = (mkF glo M ds).call e.f := funext fun as => if_neg ne
    have c2 : (mkF glo M (d :: ds)).dfl e.f = (mkF glo M ds).dfl e.f := funext fun n => if_neg ne
    obtain ⟨fa', fd', ps', h1, h2, h3, h4, h5, h6⟩ := (A e he).ex
    refine ⟨fa', fd', ps', ?_, h2, h3, h4, fun as h => h5 as (by rw [← c1]; exact h), fun n h7 h8 => ?_⟩
    · rw [spOf_congr c1]
      exact h1.mono (Nat.le_succ k)
    · rw [c2]
      exact h6 n h7 h8
/-- no defaults -/
theorem binds_all {d : Dm} {x qual : Str} {params : Arguments} {body : List Stmt} {scope : Scope} {kws : List (Str × V)} {fa : Addr} {fd : FuncData} {ps : List Str} (FD : FunD K x qual params body scope [] kws fa fd) (h1 : d.mn = d.np) (h2 : d.dfl d.np = [])
    (h : ∀ (kV doc pm : Value) (an : Option Addr) (cdv ct : Value) (us : List Value), us.length = ps.length → bindArgs (PySem.W.fnOf x qual params body scope .none kV doc pm an cdv ct) ⟨us, []⟩ = pure (ps.zip us)) : BindsD K fd ps d := fun n a b => by
  obtain rfl : n = d.np := Nat.le_antisymm b (h1 ▸ a)
  exact ⟨[], [], FD.bindsN h, .nil, fun H W => by rw [h2]; rfl⟩

/-! ### the law's end -/
theorem FnOk.ex {ι : Type} {CX : CXT} {f : Addr} {fd : FuncData} {ps : List Str} {sp : ι → Sp} (h : ∀ i, FnOk P w K mg base CX k f fd ps (sp i)) : FnOk P w K mg base CX k f fd ps fun vs H Q E => ∃ i, sp i vs H Q E :=
  ⟨fun vs H Q E ⟨i, z⟩ => (h i).len vs H Q E z, fun A outer s H args us vs Q E hr he hb hv ⟨i, z⟩ => (h i).run A outer s H args us vs Q E hr he hb hv z⟩
theorem walk_ofEB {l : PySem.W.OpenLaw} {n k : Nat} {q : Program} {loose : List Str} {XP : (Str → Option Value) → Heap → Prop} {YP : World → Heap → Prop} {d : DefRec} {CX : World → CXT} {x : Str}
    (hn : l.most = some n) (hn2 : n ≤ sizeLine) (hdf : d.params.defaults = []) (hr : Room k callerA)
    (F : ∀ (w : World) (mg : Str → Option Value) (fa : Addr) (h : Heap), YP w h → h.Ns mainGlobals mg → mg d.name = some (.ref fa) →
      ∃ (K : PySem.W.Frag) (fd : FuncData) (sp : Sp), K.In h ∧ (∀ (s : Shared) (u : Value), BindsTo s fd ⟨[u], []⟩ [(x, u)]) ∧
        (∀ (H : Hp) (a : Addr) (ns : List Int), ns.length ≤ n → (∀ z ∈ ns, Builtin.Int.intBits z ≤ 1048576) → SqL K H a (ns.map V.int) → sp [.ref a] H (fun v _ => v = .bl true) fun _ _ _ => False) ∧
        ∀ base : Heap, K.In base → base.Ns mainGlobals mg → FnOk l.prog w K mg base (CX w) k fa fd [x] sp)
    (hCX : ∀ (w : World) (H : Hp) (s : Shared) (e : Value) (s' : Shared), CX w [] H s (fun _ _ _ => False) e s' → False) :
    PySem.W.WalkO q loose XP YP l.row.toRowW d [] (fun f vs => PySem.call f vs) := by
  refine Att.attach_callB hn hdf fun w s₀ s₁ mg mb fa o pm cd doc a vs ns G Y ho hd hcd hmg hobj hints hlen hbits hg => ?_
  obtain ⟨K, fd, sp, KX, hb, hsp, hF⟩ := F w mg fa _ Y G.T.g hmg
  exact law_call KX G.T.g G.T.b G.T.builtins G.T.nolimit hg hobj hints (Nat.le_trans hlen hn2) hr hF hb (fun H hO hS => hsp H a ns hlen hbits hS) fun H e s' => hCX w H s₁ e s'
theorem cx_none (P : Program) (w : World) (H : Hp) (s : Shared) (e : Value) (s' : Shared) (h : L2.CX P w [] H s (fun _ _ _ => False) e s') : False := by
  obtain ⟨_, _, _, _, _, _, _, _, _, _, _, _, z⟩ := h
  exact z
theorem sp_law {F : Fn} {f : Str} {H : Hp} {a : Addr} {ns : List Int} {as' : List A} (hS : SqL K H a (ns.map V.int)) (h : F.call f [.val (.scr ns)] = .ok (.val (.bl true), as')) :
    spOf F mg K 1 f [.ref a] H (fun v _ => v = .bl true) fun _ _ _ => False := by
  refine ⟨rfl, fun _ => False, [.val (.scr ns)], fun _ z => z.elim, ⟨.ref a, [], rfl, ⟨a, rfl, ?_⟩, fun z => z.elim, rfl⟩, ?_⟩
  · rcases hS with (h | h) | h
    · exact .inl ⟨h, fun z => z⟩
    · exact .inr (.inl h)
    · exact .inr (.inr h)
  · rw [h]
    exact fun v H' W' ce => ce.res
end
end Dv

set_option Elab.async false
set_option linter.all false
set_option maxRecDepth 100000
namespace Dv
open PySem PySem.Spec PyProof.Rows L2
section
variable {K : PySem.W.Frag} {C : Addr} {fs : List Str} {file : Str} {P : Program}
def oexB (K : PySem.W.Frag) (C : Addr) : Bool := (match K.lookup C with
  | some ⟨.type t, _, .cls cd, sl⟩ => decide (t = "type") && cd.hasDict && !cd.hasDel && (match cd.mro with
    | .ref C' :: bm => decide (C' = C) && PySem.HandSPX.refsVE bm
    | _ => false) && (match sl.toList with
    | [_, _, _, _, some (.builtin id), _] => decide (id = "ValueError.__new__")
    | _ => false)
  | _ => false) && (decide (PySem.W.findIn K (.ref C) "__setattr__" = some (some (.builtin "object.__setattr__"))) && (decide (PySem.W.subIn K (.ref C) (.type "BaseException") = some true) && (decide (PySem.W.typeIn K (.ref C) = some (.type "type")) && PySem.W.keepIn K (.ref C))))
theorem oexB_ok (h : oexB K C = true) : OexC K C := by
  obtain ⟨h1, h2⟩ := and2 h
  obtain ⟨h3, h4⟩ := and2 h2
  obtain ⟨h5, h6⟩ := and2 h4
  obtain ⟨h7, h8⟩ := and2 h6
  refine ⟨?_, of_decide_eq_true h3, of_decide_eq_true h5, of_decide_eq_true h7, h8⟩
  split at h1
  · rename_i t dd cd sl e
    obtain ⟨g1, g2⟩ := and2 h1
    obtain ⟨g3, g4⟩ := and2 g1
    obtain ⟨g5, g6⟩ := and2 g3
    obtain ⟨g7, g8⟩ := and2 g5
    obtain ⟨c1, c2, c3, c4, c5, c6, c7, c8, c9, c10, c11⟩ := cd
    dsimp only at g4 g6 g8
    split at g4
    · rename_i C' bm
      obtain ⟨m1, m2⟩ := and2 g4
      have e1 : C' = C := of_decide_eq_true m1
      subst e1
      split at g2
      · rename_i k0 k1 k2 k3 id k5 es
        have e2 : id = "ValueError.__new__" := of_decide_eq_true g2
        have e3 : t = "type" := of_decide_eq_true g7
        have e4 : c11 = false := by simpa using g6
        subst e2 e3 e4 g8
        have e5 : sl = #[k0, k1, k2, k3, some (.builtin "ValueError.__new__"), k5] := by
          rw [← Array.toArray_toList (xs := sl), es]
        subst e5
        exact ⟨c1, c5, c4, c2, bm, c7, c8, c9, c10, dd, k0, k1, k2, k3, k5, e, m2⟩
      · cases g2
    · cases g4
  · cases h1
def parB (fs : List Str) : Arguments → Bool
  | ⟨[], as, none, [], [], none, []⟩ => decide (as.map (·.arg) = ("self" : Str) :: fs)
  | _ => false
def exfB (K : PySem.W.Frag) (C : Addr) (file : Str) (fs : List Str) : Bool := match PySem.W.findIn K (.ref C) "__init__" with
  | some (some (.ref fI)) => decide (PySem.W.typeIn K (.ref fI) = some (.type "function")) && (match K.lookup fI with
    | some ⟨_, _, .func fd, _⟩ => (match fd.code, fd.closure, fd.body, fd.defaults with
      | .ref cda, [(n, cc)], .stmts body, .none => decide (n = "__class__") && (decide (fd.globals = mainGlobals) && (decide (fd.builtins = builtinsNs) && (PySem.W.codeIn K (.ref cda) fd.qualname && ((match K.lookup cda with
        | some ⟨_, _, .fields vs, _⟩ => (match (vs[2]? : Option Value) with
          | some (Value.str f _) => file == f
          | _ => false)
        | _ => false) && ((match K.lookup cc with
        | some ⟨_, _, .cell (some (.ref C')), _⟩ => decide (C' = C)
        | _ => false) && (iniB fs body && (iniS fs fd.scope && parB fs fd.params)))))))
      | _, _, _, _ => false)
    | _ => false)
  | _ => false
/-- the class's __init__ takes its fields -/
def BindP (fs : List Str) : Prop := ∀ as : List Arg, as.map (·.arg) = ("self" : Str) :: fs → ∀ (name qual : Str) (body : List Stmt) (scope : Scope) (kV doc pm : Value) (an : Option Addr) (cdv ct : Value) (cc : Addr) (us : List Value), us.length = fs.length + 1 →
  bindArgs (PySem.W.ksFn name qual ⟨[], as, none, [], [], none, []⟩ body scope .none kV doc pm an cdv ct cc) ⟨us, []⟩ = pure ((("self" : Str) :: fs).zip us)
theorem par_bind {fs : List Str} {ps : Arguments} (h : parB fs ps = true) (hl : BindP fs) {name qual : Str} {body : List Stmt} {scope : Scope} {kV doc pm : Value} {an : Option Addr} {cdv ct : Value} {cc : Addr} :
    (∃ ar, (ps.posonlyargs ++ ps.args).head? = some ar ∧ ar.arg = "self") ∧ ∀ K, Binds K (PySem.W.ksFn name qual ps body scope .none kV doc pm an cdv ct cc) ("self" :: fs) [] := by
  unfold parB at h
  split at h
  · rename_i as
    have h := of_decide_eq_true h
    refine ⟨?_, fun K => Binds.all fun us hu => hl as h _ _ _ _ _ _ _ _ _ _ _ us hu⟩
    rcases as with _ | ⟨⟨a0, b0, c0⟩, as⟩
    · cases h
    · rw [List.map_cons] at h
      exact ⟨_, rfl, (List.cons.inj h).1⟩
  · cases h
theorem map1 {as : List Arg} {x y : Str} (h : as.map (·.arg) = [x, y]) : ∃ b0 c0 b1 c1, as = [⟨x, b0, c0⟩, ⟨y, b1, c1⟩] := by
  rcases as with _ | ⟨⟨a0, b0, c0⟩, _ | ⟨⟨a1, b1, c1⟩, _ | ⟨_, _⟩⟩⟩
  · cases h
  · cases h
  · cases h; exact ⟨_, _, _, _, rfl⟩
  · cases h
theorem map2 {as : List Arg} {x y z : Str} (h : as.map (·.arg) = [x, y, z]) : ∃ b0 c0 b1 c1 b2 c2, as = [⟨x, b0, c0⟩, ⟨y, b1, c1⟩, ⟨z, b2, c2⟩] := by
  rcases as with _ | ⟨⟨a0, b0, c0⟩, _ | ⟨⟨a1, b1, c1⟩, _ | ⟨⟨a2, b2, c2⟩, _ | ⟨_, _⟩⟩⟩⟩
  · cases h
  · cases h
  · cases h
  · cases h; exact ⟨_, _, _, _, _, _, rfl⟩
  · cases h
theorem bp_at : BindP ["at"] := fun as h _ _ _ _ _ _ _ _ _ _ _ us hu => by
  obtain ⟨_, _, _, _, rfl⟩ := map1 h
  match us, hu with
  | [_, _], _ => rfl
theorem bp_value : BindP ["value"] := fun as h _ _ _ _ _ _ _ _ _ _ _ us hu => by
  obtain ⟨_, _, _, _, rfl⟩ := map1 h
  match us, hu with
  | [_, _], _ => rfl
theorem bp_name : BindP ["name"] := fun as h _ _ _ _ _ _ _ _ _ _ _ us hu => by
  obtain ⟨_, _, _, _, rfl⟩ := map1 h
  match us, hu with
  | [_, _], _ => rfl
theorem bp_ring : BindP ["ring"] := fun as h _ _ _ _ _ _ _ _ _ _ _ us hu => by
  obtain ⟨_, _, _, _, rfl⟩ := map1 h
  match us, hu with
  | [_, _], _ => rfl
theorem bp_companies : BindP ["companies"] := fun as h _ _ _ _ _ _ _ _ _ _ _ us hu => by
  obtain ⟨_, _, _, _, rfl⟩ := map1 h
  match us, hu with
  | [_, _], _ => rfl
theorem bp_at_reason : BindP ["at", "reason"] := fun as h _ _ _ _ _ _ _ _ _ _ _ us hu => by
  obtain ⟨_, _, _, _, _, _, rfl⟩ := map2 h
  match us, hu with
  | [_, _, _], _ => rfl
/-- all that is asked of an own exception's class -/
def erB (K : PySem.W.Frag) (file : Str) (p : ErC) : Bool := (fun C => He.eqO (PySem.W.nsIn K mainGlobals p.nm) (some (some (.ref C))) && (oexB K C && (PySem.W.hasDictIn K C && (He.eqO (PySem.W.ks_superIn K C C "__init__") (some (some (.builtin "ValueError.__init__"))) && (decide (PySem.W.subIn K (.ref C) (.type "ValueError") = some true) &&
  (decide (PySem.W.mroIn K C (.ref C) = some true) && (He.eqO (PySem.W.nsIn K cStatics "thirdparty.any") (some none) && (He.eqO (PySem.W.nsIn K mainGlobals "super") (some none) && ((p.fl.all fun f => He.eqO (PySem.W.findIn K (.ref C) f) (some none)) && (exfB K C file p.fl &&
  (decide (p.fl.length = 1 ∨ p.fl.length = 2) && (decide p.fl.Nodup && (xfB K C && (PySem.W.isClsIn K C && (He.eqO (PySem.W.findIn K (.ref C) "__class__") (some (some (.builtin "object.__class__"))) && (He.eqO (PySem.W.specialIn K (.builtin "object.__class__") "__get__") (some (some (.builtin "getset_descriptor.__get__"))) &&
  (decide (PySem.W.takesIn K (.builtin "object.__class__") = some true) && (decide (PySem.W.mroIn K C (.type "object") = some true) && (p.sub.all fun q => He.eqO (PySem.W.nsIn K mainGlobals q.1) (some (some (.ref (He.ga K q.1)))) && (decide (PySem.W.exmOne K (.ref C) (.ref (He.ga K q.1)) = some q.2) && decide (PySem.W.kitOne K (.ref C) (.ref (He.ga K q.1)) = some q.2))))))))))))))))))))) (He.ga K p.nm)
theorem erB_ok {p : ErC} {h : Heap} {mg : Str → Option Value} (X : K.In h) (G : h.Ns mainGlobals mg) (hfile : (P.main.file : Str) = file) (htop : (P.main.scope.names.lookup ("super" : Str)).isSome = false) (hbp : BindP p.fl) (e : erB K file p = true) : ∃ D, mg p.nm = some (.ref D) ∧ ErK P K mg p D := by
  unfold erB at e
  dsimp only at e
  obtain ⟨h0, e⟩ := and2 e
  obtain ⟨h1, e⟩ := and2 e
  obtain ⟨h2, e⟩ := and2 e
  obtain ⟨h3, e⟩ := and2 e
  obtain ⟨h4, e⟩ := and2 e
  obtain ⟨h5, e⟩ := and2 e
  obtain ⟨h6, e⟩ := and2 e
  obtain ⟨h7, e⟩ := and2 e
  obtain ⟨h8, e⟩ := and2 e
  obtain ⟨h9, e⟩ := and2 e
  obtain ⟨h10, e⟩ := and2 e
  obtain ⟨h11, e⟩ := and2 e
  obtain ⟨h12, e⟩ := and2 e
  obtain ⟨h13, e⟩ := and2 e
  obtain ⟨h14, e⟩ := and2 e
  obtain ⟨h15, e⟩ := and2 e
  obtain ⟨h16, e⟩ := and2 e
  obtain ⟨h17, h18⟩ := and2 e
  have hl := of_decide_eq_true h10
  have hx := xfB_ok h12
  have ho := oexB_ok h1
  have hn : p.fl ≠ [] := fun z => by rw [z] at hl; simp at hl
  refine ⟨_, PySem.W.mg_of X G (He.eqO_ok h0), ⟨ho, h2, He.eqO_ok h3, of_decide_eq_true h4, of_decide_eq_true h5, He.eqO_ok h6, htop, He.eqO_ok h7, fun f hf => He.eqO_ok (List.all_eq_true.mp h8 f hf), ?_⟩, hn, by omega, of_decide_eq_true h11,
    ⟨hx.ga, hx.gg, hx.exC, hx.hdC, h13, He.eqO_ok h14, He.eqO_ok h15, of_decide_eq_true h16, of_decide_eq_true h17⟩, hx, fun q hq => ?_⟩
  · unfold exfB at h9
    split at h9
    · rename_i fI e1
      obtain ⟨g1, g2⟩ := and2 h9
      split at g2
      · rename_i oc od fd osl e2
        split at g2
        · rename_i cda n cc body e3 e4 e5 e6
          obtain ⟨f1, g2⟩ := and2 g2
          obtain ⟨f2, g2⟩ := and2 g2
          obtain ⟨f3, g2⟩ := and2 g2
          obtain ⟨f4, g2⟩ := and2 g2
          obtain ⟨f5, g2⟩ := and2 g2
          obtain ⟨f6, g2⟩ := and2 g2
          obtain ⟨f7, g2⟩ := and2 g2
          obtain ⟨f8, f9⟩ := and2 g2
          obtain ⟨n1, n2, n3, n4, n5, n6, n7, n8, n9, n10, n11, n12, n13, n14, n15⟩ := fd
          dsimp only at e3 e4 e5 e6 f2 f3 f4 f8 f9
          have z1 := of_decide_eq_true f1
          have z2 := of_decide_eq_true f2
          have z3 := of_decide_eq_true f3
          subst e3 e4 e5 e6 z1 z2 z3
          split at f5
          · rename_i ccl cdd vs ccs e7
            split at f5
            · rename_i f tf e8
              split at f6
              · rename_i cl cld C' csl e9
                have z4 : C' = _ := of_decide_eq_true f6
                subst z4
                obtain ⟨⟨ar, a1, a2⟩, a3⟩ := par_bind (name := n1) (qual := n2) (body := body) (scope := n5) (kV := n9) (doc := n10) (pm := n11) (an := n12) (cdv := .ref cda) (ct := n14) (cc := cc) f9 hbp
                exact ⟨fI, cda, cc, n1, n2, n3, body, n5, .none, n9, n10, n11, n14, oc, n12, od, osl, ccl, cdd, vs, ccs, f, tf, cl, cld, csl, ar, e1, of_decide_eq_true g1, e2, f4, e7, e8, by rw [hfile]; exact f5, e9, f7, f8, a1, a2, a3 K⟩
              · cases f6
            · cases f5
          · cases f5
        · cases g2
      · cases g2
    · cases h9
  · obtain ⟨g1, g2⟩ := and2 (List.all_eq_true.mp h18 q hq)
    obtain ⟨g3, g4⟩ := and2 g2
    exact ⟨_, PySem.W.mg_of X G (He.eqO_ok g1), of_decide_eq_true g3, of_decide_eq_true g4⟩
theorem hot_of {w : World} {mg : Str → Option Value} {base : Heap} {f x qual p : Str} {params : Arguments} {body : List Stmt} {scope : Scope} {kws : List (Str × V)} {fa : Addr} {fd : FuncData} (FD : FunD K x qual params body scope [] kws fa fd) (S : FnScope [p] [p] scope) (hb : intB scope p body = true)
    (m1 : mg "isinstance" = none) (m2 : mg "int" = none) (m3 : mg "bool" = none) (hm : mg f = some (.ref fa))
    (h : ∀ (kV doc pm : Value) (an : Option Addr) (cdv ct : Value) (us : List Value), us.length = [p].length → bindArgs (PySem.W.fnOf x qual params body scope .none kV doc pm an cdv ct) ⟨us, []⟩ = pure ([p].zip us)) : HotK P w K mg base f := by
  have bi := FD.bindsN h
  obtain ⟨oc, od, dV, kV, doc, pm, an, cdv, ct, osl, rfl, lk, hcd, _, _⟩ := FD.ex
  exact ⟨fa, _, p, isInt_ok lk hcd S hb m1 m2 m3, hm, FD.kp, bi⟩
end
end Dv

set_option Elab.async false
set_option linter.all false
set_option maxRecDepth 100000
set_option maxHeartbeats 1000000
namespace Dv
open PySem PySem.Spec PyProof.Rows L2


/-- an equation that is not looked through -/
theorem nd {α : Sort _} {a b : α} (h : a = b) : a = b := h
noncomputable def nxt (F : Fn) (N : Nat) (l : Sxs) (q : Fl × Env') : Rs (Fl × Env') := match q.1 with
    | .nx => exs F N l q.2
    | _ => .ok q
noncomputable def brn (F : Fn) (N : Nat) (a b : Sxs) (r : Bool × Env') : Rs (Fl × Env') := match r.1 with
    | true => exs F N a r.2
    | false => exs F N b r.2
noncomputable def brE (F : Fn) (a b : Ex) (r : Bool × Env') : Rs (P × Env') := match r.1 with
    | true => ev F a r.2
    | false => ev F b r.2
noncomputable def nAnd (F : Fn) (l : Exs) (r : Bool × Env') : Rs (Bool × Env') := match r.1 with
    | true => evAnd F l r.2
    | false => .ok (false, r.2)
noncomputable def nOr (F : Fn) (l : Exs) (r : Bool × Env') : Rs (Bool × Env') := match r.1 with
    | true => .ok (true, r.2)
    | false => evOr F l r.2
noncomputable def nTAnd (F : Fn) (l : Txs) (r : Bool × Env') : Rs (Bool × Env') := match r.1 with
    | true => evTAnd F l r.2
    | false => .ok (false, r.2)
noncomputable def nTOr (F : Fn) (l : Txs) (r : Bool × Env') : Rs (Bool × Env') := match r.1 with
    | true => .ok (true, r.2)
    | false => evTOr F l r.2
section
variable {F : Fn} {N : Nat} {ρ : Env'}
@[simp] theorem nxt_nx {l : Sxs} : nxt F N l (.nx, ρ) = exs F N l ρ := nd rfl
@[simp] theorem nxt_rt {l : Sxs} {p : P} : nxt F N l (.rt p, ρ) = .ok (.rt p, ρ) := nd rfl
@[simp] theorem nxt_bk {l : Sxs} : nxt F N l (.bk, ρ) = .ok (.bk, ρ) := nd rfl
@[simp] theorem nxt_ct {l : Sxs} : nxt F N l (.ct, ρ) = .ok (.ct, ρ) := nd rfl
@[simp] theorem brn_t {a b : Sxs} : brn F N a b (true, ρ) = exs F N a ρ := nd rfl
@[simp] theorem brn_f {a b : Sxs} : brn F N a b (false, ρ) = exs F N b ρ := nd rfl
@[simp] theorem brE_t {a b : Ex} : brE F a b (true, ρ) = ev F a ρ := nd rfl
@[simp] theorem brE_f {a b : Ex} : brE F a b (false, ρ) = ev F b ρ := nd rfl
@[simp] theorem nAnd_t {l : Exs} : nAnd F l (true, ρ) = evAnd F l ρ := nd rfl
@[simp] theorem nAnd_f {l : Exs} : nAnd F l (false, ρ) = .ok (false, ρ) := nd rfl
@[simp] theorem nOr_t {l : Exs} : nOr F l (true, ρ) = .ok (true, ρ) := nd rfl
@[simp] theorem nOr_f {l : Exs} : nOr F l (false, ρ) = evOr F l ρ := nd rfl
@[simp] theorem nTAnd_t {l : Txs} : nTAnd F l (true, ρ) = evTAnd F l ρ := nd rfl
@[simp] theorem nTAnd_f {l : Txs} : nTAnd F l (false, ρ) = .ok (false, ρ) := nd rfl
@[simp] theorem nTOr_t {l : Txs} : nTOr F l (true, ρ) = .ok (true, ρ) := nd rfl
@[simp] theorem nAnd_nil {b : Bool} : nAnd F .nil (b, ρ) = .ok (b, ρ) := by cases b <;> rfl
@[simp] theorem nOr_nil {b : Bool} : nOr F .nil (b, ρ) = .ok (b, ρ) := by cases b <;> rfl
@[simp] theorem nTAnd_nil {b : Bool} : nTAnd F .nil (b, ρ) = .ok (b, ρ) := by cases b <;> rfl
@[simp] theorem nTOr_nil {b : Bool} : nTOr F .nil (b, ρ) = .ok (b, ρ) := by cases b <;> rfl
@[simp] theorem nTOr_f {l : Txs} : nTOr F l (false, ρ) = evTOr F l ρ := nd rfl
end
/-- what follows is looked at only when its turn comes -/
theorem rs_bind_congr {α β : Type} {x y : Rs α} {f : α → Rs β} (h : x = y) : x.bind f = y.bind f := by rw [h]

/-! ### running by simp -/
section
variable {F : Fn} {N : Nat} {ρ : Env'} {α β : Type}
@[simp] theorem r_bind_ok {a : α} {f : α → Rs β} : (Rs.ok a).bind f = f a := nd rfl
@[simp] theorem bind_err {e : Er} {f : α → Rs β} : (Rs.err e : Rs α).bind f = .err e := nd rfl
@[simp] theorem bind_bad {f : α → Rs β} : (Rs.bad : Rs α).bind f = .bad := nd rfl
@[simp] theorem of_some {a : α} : Rs.of (some a) = .ok a := nd rfl
@[simp] theorem r_quiet_ok {a : α} : (Rs.ok a).quiet = .ok a := nd rfl
@[simp] theorem need_true {p : Prop} {x : Rs α} (h : p) : need p x = x := if_pos h

@[simp] theorem r_ev_var {i : Nat} : ev F (.var i) ρ = evVar i ρ := nd rfl
@[simp] theorem r_ev_cst {d : D} : ev F (.cst d) ρ = .ok (.val d, ρ) := nd rfl
@[simp] theorem r_ev_glo {x : Str} : ev F (.glo x) ρ = (Rs.of (F.glo x)).bind fun d => .ok (.val d, ρ) := nd rfl
@[simp] theorem r_ev_bin {op : Operator} {a b : Ex} : ev F (.bin op a b) ρ = (ev F a ρ).bind fun r => (ev F b r.2).bind fun q => (pk r.1 q.2).bind fun x => (pk q.1 q.2).bind fun y => (dBin op x y).bind fun p => .ok (p, q.2) := nd rfl
@[simp] theorem r_ev_neg {a : Ex} : ev F (.neg a) ρ = (ev F a ρ).bind fun r => (pk r.1 r.2).bind fun x => match x with
    | .int i => .ok (.val (.int (-i)), r.2)
    | _ => .bad := nd rfl
@[simp] theorem r_ev_cmp {op : CmpOp} {a b : Ex} : ev F (.cmp op a b) ρ = (ev F a ρ).bind fun r => (ev F b r.2).bind fun q => (pk r.1 q.2).bind fun x => (pk q.1 q.2).bind fun y => (dCmp op x y).bind fun c => .ok (.val (.bl c), q.2) := nd rfl
@[simp] theorem r_ev_chn {op op' : CmpOp} {a b c : Ex} : ev F (.chn op op' a b c) ρ = (ev F a ρ).bind fun r => (ev F b r.2).bind fun q => (pk r.1 q.2).bind fun x => (pk q.1 q.2).bind fun y => (dCmp op x y).bind fun k =>
      match k with
      | false => .ok (.val (.bl false), q.2)
      | true => (ev F c q.2).bind fun u => (pk q.1 u.2).bind fun y' => (pk u.1 u.2).bind fun z => (dCmp op' y' z).bind fun k' => .ok (.val (.bl k'), u.2) := nd rfl
@[simp] theorem r_ev_and_ {l : Exs} : ev F (.and_ l) ρ = (evAnd F l ρ).bind fun r => .ok (.val (.bl r.1), r.2) := nd rfl
@[simp] theorem r_ev_or_ {l : Exs} : ev F (.or_ l) ρ = (evOr F l ρ).bind fun r => .ok (.val (.bl r.1), r.2) := nd rfl
@[simp] theorem r_ev_not_ {a : Ex} : ev F (.not_ a) ρ = (ev F a ρ).bind fun r0 => (asB r0).bind fun r => .ok (.val (.bl (!r.1)), r.2) := nd rfl
@[simp] theorem r_ev_ite {c : Tx} {a b : Ex} : ev F (.ite c a b) ρ = (evT F c ρ).bind (brE F a b) := nd rfl
@[simp] theorem r_ev_tup {l : Exs} : ev F (.tup l) ρ = (evs F l ρ).bind fun r => (Rs.of (toDs r.1 r.2)).bind fun q => need (q.1.length ≤ sizeLine) (.ok (.val (.tup q.1), q.2)) := nd rfl
@[simp] theorem r_ev_lst {l : Exs} : ev F (.lst l) ρ = (evs F l ρ).bind fun r => (Rs.of (toDs r.1 r.2)).bind fun q => need (q.1.length ≤ sizeLine) (.ok (.own (.lst q.1), q.2)) := nd rfl
@[simp] theorem r_ev_idx {a i : Ex} : ev F (.idx a i) ρ = (ev F a ρ).bind fun r => (ev F i r.2).bind fun q => (pk r.1 q.2).bind fun x => (pk q.1 q.2).bind fun y => (dIdx x y).bind fun d => .ok (.val d, q.2) := nd rfl
@[simp] theorem r_ev_slc {a : Ex} {lo hi : Eo} : ev F (.slc a lo hi) ρ = (ev F a ρ).bind fun r => (evo F lo r.2).bind fun u => (evo F hi u.2).bind fun w => (pk r.1 w.2).bind fun x => (dSlc x u.1 w.1).bind fun p => .ok (p, w.2) := nd rfl
@[simp] theorem r_ev_call {f : Str} {l : Exs} : ev F (.call f l) ρ = (evs F l ρ).bind fun r => doCall F f r.1 r.2 := nd rfl
@[simp] theorem r_ev_blt {b : Bl} {l : Exs} : ev F (.blt b l) ρ = (evs F l ρ).bind fun r => (pks r.1 r.2).bind fun ds => (dBl b ds).bind fun p => .ok (p, r.2) := nd rfl
@[simp] theorem r_ev_isi {t : Ty} {a : Ex} : ev F (.isi t a) ρ = (ev F a ρ).bind fun r => (pk r.1 r.2).bind fun x => (isTy t x).bind fun b => .ok (.val (.bl b), r.2) := nd rfl
@[simp] theorem r_ev_met {m : Me} {o : Ex} {l : Exs} : ev F (.met m o l) ρ = (ev F o ρ).bind fun r => (pk r.1 r.2).bind fun d0 => need (hasTy m d0 = true) <| (evs F l r.2).bind fun q => (pk r.1 q.2).bind fun x => (pks q.1 q.2).bind fun ds => (dMe m x ds).bind fun p => .ok (p, q.2) := nd rfl
theorem r_ev_chg {m : Mm} {i : Nat} {l : Exs} : ev F (.chg m i l) ρ = (evVar i ρ).bind fun r => (pk r.1 r.2).bind fun d0 => need (isLst d0 = true) <| (evs F l r.2).bind fun q => (Rs.of (toDs q.1 q.2)).bind fun t => match t.2[i]? with
    | some (some (.own b d)) => (dMm m d t.1).bind fun y => .ok (.val y.1, t.2.set i (some (.own b y.2)))
    | _ => .bad := rfl
@[simp] theorem r_ev_comp {elt : Ex} {tg : Tg} {it : Ie} {ifs : To} {own : List Nat} : ev F (.comp elt tg it ifs own) ρ = (evi F it ρ).bind fun r =>
      (mapR (fun d ρ1 => (asgT tg d (wipeR ρ1 own)).bind fun ρ2 => (evc F ifs ρ2).quiet.bind fun c => match c.1 with
        | true => (ev F elt c.2).quiet.bind fun p => (Rs.of (toD p.1 p.2)).bind fun y => .ok (some y.1, y.2)
        | false => .ok (none, c.2)) r.1.1 (wipeR (lockP r.1.2 r.2).2 own)).bind fun q =>
      (unlock (lockP r.1.2 r.2).1 (backR (lockP r.1.2 r.2).2 q.2 own)).bind fun ρ' => need (q.1.length < sizeLine) (.ok (.own (.lst q.1), ρ')) := nd rfl
@[simp] theorem r_evs_nil  : evs F (.nil) ρ = .ok ([], ρ) := nd rfl
@[simp] theorem r_evs_cons {e : Ex} {l : Exs} : evs F (.cons e l) ρ = (ev F e ρ).bind fun r => (evs F l r.2).bind fun q => .ok (r.1 :: q.1, q.2) := nd rfl
@[simp] theorem r_evo_none  : evo F (.none) ρ = .ok (none, ρ) := nd rfl
@[simp] theorem r_evo_some {e : Ex} : evo F (.some e) ρ = (ev F e ρ).bind fun r => (pk r.1 r.2).bind fun x => match x with
    | .int i => .ok (some i, r.2)
    | _ => .bad := nd rfl
@[simp] theorem r_evc_none  : evc F (.none) ρ = .ok (true, ρ) := nd rfl
@[simp] theorem r_evc_some {t : Tx} : evc F (.some t) ρ = evT F t ρ := nd rfl
@[simp] theorem r_evT_val {e : Ex} : evT F (.val e) ρ = (ev F e ρ).bind fun r => (pk r.1 r.2).bind fun x => (truth x).bind fun b => .ok (b, r.2) := nd rfl
@[simp] theorem r_evT_cmp {op : CmpOp} {a b : Ex} : evT F (.cmp op a b) ρ = (ev F a ρ).bind fun r => (ev F b r.2).bind fun q => (pk r.1 q.2).bind fun x => (pk q.1 q.2).bind fun y => (dCmp op x y).bind fun c => .ok (c, q.2) := nd rfl
@[simp] theorem r_evT_and_ {l : Txs} : evT F (.and_ l) ρ = evTAnd F l ρ := nd rfl
@[simp] theorem r_evT_or_ {l : Txs} : evT F (.or_ l) ρ = evTOr F l ρ := nd rfl
@[simp] theorem r_evT_not_ {a : Tx} : evT F (.not_ a) ρ = (evT F a ρ).bind fun r => .ok (!r.1, r.2) := nd rfl
@[simp] theorem r_evAnd_nil  : evAnd F (.nil) ρ = .ok (true, ρ) := nd rfl
@[simp] theorem r_evAnd_cons {e : Ex} {l : Exs} : evAnd F (.cons e l) ρ = (ev F e ρ).bind fun r0 => (asB r0).bind (nAnd F l) := nd rfl
@[simp] theorem r_evOr_nil  : evOr F (.nil) ρ = .ok (false, ρ) := nd rfl
@[simp] theorem r_evOr_cons {e : Ex} {l : Exs} : evOr F (.cons e l) ρ = (ev F e ρ).bind fun r0 => (asB r0).bind (nOr F l) := nd rfl
@[simp] theorem r_evTAnd_nil  : evTAnd F (.nil) ρ = .ok (true, ρ) := nd rfl
@[simp] theorem r_evTAnd_cons {e : Tx} {l : Txs} : evTAnd F (.cons e l) ρ = (evT F e ρ).bind (nTAnd F l) := nd rfl
@[simp] theorem r_evTOr_nil  : evTOr F (.nil) ρ = .ok (false, ρ) := nd rfl
@[simp] theorem r_evTOr_cons {e : Tx} {l : Txs} : evTOr F (.cons e l) ρ = (evT F e ρ).bind (nTOr F l) := nd rfl
@[simp] theorem r_evi_seq {e : Ex} : evi F (.seq e) ρ = (ev F e ρ).bind fun r => (pk r.1 r.2).bind fun x => (items x).bind fun l => .ok ((l, r.1), r.2) := nd rfl
@[simp] theorem r_evi_rng {a : Ex} : evi F (.rng a) ρ = (ev F a ρ).bind fun r => match r.1 with
    | .val (.int j) => need (inR j) (.ok ((rng 0 j.toNat, .val .non), r.2))
    | _ => .bad := nd rfl
@[simp] theorem r_evi_rng2 {a b : Ex} : evi F (.rng2 a b) ρ = (ev F a ρ).bind fun r => (ev F b r.2).bind fun q => match r.1, q.1 with
    | .val (.int i), .val (.int j) => need (inR i ∧ inR j) (.ok ((rng i (j - i).toNat, .val .non), q.2))
    | _, _ => .bad := nd rfl
@[simp] theorem r_evi_enm {e : Ex} : evi F (.enm e) ρ = (ev F e ρ).bind fun r => (pk r.1 r.2).bind fun x => (itemsL x).bind fun l => .ok ((enmD l, r.1), r.2) := nd rfl
@[simp] theorem r_evi_zip {l : Exs} : evi F (.zip l) ρ = (evs F l ρ).bind fun r => (Rs.of (toDs r.1 r.2)).bind fun q => (itemss q.1).bind fun t => .ok ((zipD t, .val .non), q.2) := nd rfl
@[simp] theorem r_evT_chn {op op' : CmpOp} {a b c : Ex} : evT F (.chn op op' a b c) ρ = (ev F (.chn op op' a b c) ρ).bind asB := by
  rw [r_ev_chn]
  show (ev F a ρ).bind _ = _
  cases ev F a ρ with
  | bad => rfl
  | err e => rfl
  | ok r =>
    show (ev F b r.2).bind _ = ((ev F b r.2).bind _).bind _
    cases ev F b r.2 with
    | bad => rfl
    | err e => rfl
    | ok q =>
      show (pk r.1 q.2).bind _ = ((pk r.1 q.2).bind _).bind _
      cases pk r.1 q.2 with
      | bad => rfl
      | err e => rfl
      | ok x =>
        show (pk q.1 q.2).bind _ = ((pk q.1 q.2).bind _).bind _
        cases pk q.1 q.2 with
        | bad => rfl
        | err e => rfl
        | ok y =>
          show (dCmp op x y).bind _ = ((dCmp op x y).bind _).bind _
          cases dCmp op x y with
          | bad => rfl
          | err e => rfl
          | ok k =>
            cases k with
            | false => rfl
            | true =>
              show (ev F c q.2).bind _ = ((ev F c q.2).bind _).bind _
              cases ev F c q.2 with
              | bad => rfl
              | err e => rfl
              | ok u =>
                show (pk q.1 u.2).bind _ = ((pk q.1 u.2).bind _).bind _
                cases pk q.1 u.2 with
                | bad => rfl
                | err e => rfl
                | ok y' =>
                  show (pk u.1 u.2).bind _ = ((pk u.1 u.2).bind _).bind _
                  cases pk u.1 u.2 with
                  | bad => rfl
                  | err e => rfl
                  | ok z =>
                    show (dCmp op' y' z).bind _ = ((dCmp op' y' z).bind _).bind _
                    cases dCmp op' y' z <;> rfl
@[simp] theorem r_ex_set {i : Nat} {e : Ex} : ex F N (.set i e) ρ = (ev F e ρ).bind fun r => (asgP i r.1 r.2).bind fun ρ' => .ok (.nx, ρ') := nd rfl
@[simp] theorem r_ex_setT {l : List Nat} {e : Ex} : ex F N (.setT l e) ρ = (ev F e ρ).bind fun r => match r.1 with
    | .val (.tup ds) => (putVs l ds r.2).bind fun ρ' => .ok (.nx, ρ')
    | _ => .bad := nd rfl
@[simp] theorem r_ex_par {i j : Nat} {a b : Ex} : ex F N (.par i j a b) ρ = (ev F a ρ).bind fun r => (ev F b r.2).bind fun q => match r.1, q.1 with
    | .val x, .val y => (putVs [i, j] [x, y] q.2).bind fun ρ' => .ok (.nx, ρ')
    | _, _ => .bad := nd rfl
@[simp] theorem r_ex_setI {i : Nat} {ix e : Ex} : ex F N (.setI i ix e) ρ = (ev F e ρ).bind fun r => (evVar i r.2).bind fun o => (ev F ix o.2).bind fun q => (Rs.of (toD r.1 q.2)).bind fun t => (pk q.1 t.2).bind fun k =>
      (mutSlot i t.2 fun d => dSet d k t.1).bind fun ρ' => .ok (.nx, ρ') := nd rfl
theorem r_ex_aug {i : Nat} {op : Operator} {e : Ex} : ex F N (.aug i op e) ρ = match ρ[i]? with
    | some (some (.val x)) => (ev F e ρ).bind fun r => (pk r.1 r.2).bind fun y => (dAug op x y).bind fun z => (putV i z r.2).bind fun ρ' => .ok (.nx, ρ')
    | _ => .bad := rfl
@[simp] theorem r_ex_augI {i : Nat} {op : Operator} {ix e : Ex} : ex F N (.augI i op ix e) ρ = (evVar i ρ).bind fun o => (ev F ix o.2).bind fun q => (pk o.1 q.2).bind fun x => need (isLst x = true) <| (pk q.1 q.2).bind fun k => (dIdx x k).bind fun u => (ev F e q.2).bind fun r => (pk r.1 r.2).bind fun y =>
      (dAug op u y).bind fun z => (mutSlot i r.2 fun d => dSet d k z).bind fun ρ' => .ok (.nx, ρ') := nd rfl
@[simp] theorem r_ex_expr {e : Ex} : ex F N (.expr e) ρ = (ev F e ρ).bind fun r => .ok (.nx, r.2) := nd rfl
@[simp] theorem r_ex_ret {e : Ex} : ex F N (.ret e) ρ = (ev F e ρ).bind fun r => .ok (.rt r.1, r.2) := nd rfl
@[simp] theorem r_ex_retN  : ex F N (.retN) ρ = .ok (.rt (.val .non), ρ) := nd rfl
@[simp] theorem r_ex_ite {c : Tx} {a b : Sxs} : ex F N (.ite c a b) ρ = (evT F c ρ).bind (brn F N a b) := nd rfl
@[simp] theorem r_ex_whl {c : Tx} {b : Sxs} : ex F N (.whl c b) ρ = whileR (evT F c) (exs F N b) N ρ := nd rfl
@[simp] theorem r_ex_for_ {tg : Tg} {it : Ie} {b : Sxs} : ex F N (.for_ tg it b) ρ = (evi F it ρ).bind fun r => (forR (fun d ρ1 => (asgT tg d ρ1).bind (exs F N b)) r.1.1 (lockP r.1.2 r.2).2).bind (endFor (lockP r.1.2 r.2).1) := nd rfl
@[simp] theorem r_ex_brk  : ex F N (.brk) ρ = .ok (.bk, ρ) := nd rfl
@[simp] theorem r_ex_cnt  : ex F N (.cnt) ρ = .ok (.ct, ρ) := nd rfl
@[simp] theorem r_ex_pass  : ex F N (.pass) ρ = .ok (.nx, ρ) := nd rfl
@[simp] theorem r_ex_bad  : ex F N (.bad) ρ = .bad := nd rfl
@[simp] theorem r_ex_rz {c : Str} {fs : List Str} {es : Exs} : ex F N (.rz c fs es) ρ = (evs F es ρ).bind fun r => (Rs.of (toDs r.1 r.2)).bind fun q => need (q.1.length = fs.length ∧ noLs q.1 = true) (.err ⟨c, (fs.zip q.1).reverse⟩) := nd rfl
@[simp] theorem r_ex_tr {b : Tbs} {tab : List ErC} {c : Str} {i : Nat} {h : Hss} : ex F N (.tr_ b tab c i h) ρ = (exT F N b ρ).quiet.bind (catch_ tab c i h) := nd rfl
@[simp] theorem r_lockA_nil : lockA [] = [] := rfl
@[simp] theorem r_lockA_cons {o : Option S} {ρ : Env'} : lockA (o :: ρ) = o.map S.lock :: lockA ρ := rfl
@[simp] theorem r_lock_val {d : D} : (S.val d).lock = .val d := rfl
@[simp] theorem r_lock_own {b : Bool} {d : D} : (S.own b d).lock = .lck b d := rfl
@[simp] theorem r_lock_lck {b : Bool} {d : D} : (S.lck b d).lock = .lck b d := rfl
@[simp] theorem r_lock_brz {d : D} : (S.brz d).lock = .brz d := rfl
@[simp] theorem r_exT_nil : exT F N .nil ρ = .ok (.fin (.nx, ρ)) := nd rfl
noncomputable def nxtT (F : Fn) (N : Nat) (l : Tbs) (q : Tr) : Rs Tr := match q with
    | .fin (.nx, ρ') => exT F N l ρ'
    | q => .ok q
@[simp] theorem nxtT_nx {l : Tbs} : nxtT F N l (.fin (.nx, ρ)) = exT F N l ρ := nd rfl
@[simp] theorem nxtT_rt {l : Tbs} {p : P} : nxtT F N l (.fin (.rt p, ρ)) = .ok (.fin (.rt p, ρ)) := nd rfl
@[simp] theorem nxtT_thr {l : Tbs} {er : Er} : nxtT F N l (.thr er ρ) = .ok (.thr er ρ) := nd rfl
@[simp] theorem r_exT_cons {t : Tb} {l : Tbs} : exT F N (.cons t l) ρ = (exT1 F N t ρ).bind (nxtT F N l) := nd rfl
noncomputable def thrE (ρ : Env') (o : Option Nat) : Rs (P × Env') → Rs Tr
    | .ok (.val d, ρ1) => need (ρ1 = lockA ρ) (match o with
      | none => .ok (.fin (.nx, ρ))
      | some i => (putV i d ρ).bind fun ρ' => .ok (.fin (.nx, ρ')))
    | .ok _ => .bad
    | .err er => .ok (.thr er ρ)
    | .bad => .bad
@[simp] theorem r_exT1_thr {o : Option Nat} {e : Ex} : exT1 F N (.thr o e) ρ = thrE ρ o (ev F e (lockA ρ)) := nd rfl
@[simp] theorem thrE_err {o : Option Nat} {er : Er} : thrE ρ o (.err er) = .ok (.thr er ρ) := nd rfl
@[simp] theorem thrE_none {d : D} {ρ1 : Env'} : thrE ρ none (.ok (.val d, ρ1)) = need (ρ1 = lockA ρ) (.ok (.fin (.nx, ρ))) := nd rfl
@[simp] theorem thrE_some {i : Nat} {d : D} {ρ1 : Env'} : thrE ρ (some i) (.ok (.val d, ρ1)) = need (ρ1 = lockA ρ) ((putV i d ρ).bind fun ρ' => .ok (.fin (.nx, ρ'))) := nd rfl
@[simp] theorem r_exT1_qt {s : Sx} : exT1 F N (.qt s) ρ = (ex F N s ρ).quiet.bind fun q => .ok (.fin q) := nd rfl
@[simp] theorem r_catch_fin {tab : List ErC} {c : Str} {i : Nat} {h : Hss} {q : Fl × Env'} : catch_ tab c i h (.fin q) = .ok q := nd rfl
@[simp] theorem r_catch_thr {tab : List ErC} {c : Str} {i : Nat} {h : Hss} {er : Er} : catch_ tab c i h (.thr er ρ) = (erOf tab er).bind fun p => (erIs p c).bind fun k => match k with
    | true => need (freeSlot i ρ = true) ((essH er p h (ρ.set i none)).quiet.bind noJump)
    | false => .err er := nd rfl
@[simp] theorem r_noJump_rt {p : P} : noJump (.rt p, ρ) = .ok (.rt p, ρ) := nd rfl
@[simp] theorem r_noJump_nx : noJump (.nx, ρ) = .ok (.nx, ρ) := nd rfl
@[simp] theorem r_vars_nil : vars [] = .nil := rfl
@[simp] theorem r_vars_cons {i : Nat} {is : List Nat} : vars (i :: is) = .cons (.var i) (vars is) := rfl
@[simp] theorem r_aliV_nil {x y : Nat} : aliV x y [] = [] := rfl
@[simp] theorem r_aliV_cons {x y i : Nat} {is : List Nat} : aliV x y (i :: is) = (if i = x then y else i) :: aliV x y is := rfl
@[simp] theorem r_aliC {f : Str} {is : List Nat} : aliC F f is ρ = (evs F (vars is) ρ).quiet.bind fun r => (doCall F f r.1 r.2).quiet.bind fun q => .ok (.rt q.1, q.2) := nd rfl
noncomputable def brA (F : Fn) (x y : Nat) (f : Str) (is : List Nat) (r : Bool × Env') : Rs (Fl × Env') := match r.1 with
    | true => (evVar y r.2).bind fun _ => need (freeSlot x r.2 = true) (aliC F f (aliV x y is) r.2)
    | false => aliC F f is r.2
@[simp] theorem brA_t {x y : Nat} {f : Str} {is : List Nat} : brA F x y f is (true, ρ) = (evVar y ρ).bind fun _ => need (freeSlot x ρ = true) (aliC F f (aliV x y is) ρ) := nd rfl
@[simp] theorem brA_f {x y : Nat} {f : Str} {is : List Nat} : brA F x y f is (false, ρ) = aliC F f is ρ := nd rfl
@[simp] theorem r_exs_ali {c : Tx} {x y : Nat} {f : Str} {is : List Nat} : exs F N (.ali c x y f is) ρ = (evT F c ρ).bind (brA F x y f is) := nd rfl
@[simp] theorem r_ex_parI {i j : Nat} {ix1 ix2 a b : Ex} : ex F N (.parI i ix1 j ix2 a b) ρ = (ev F (.tup (.cons a (.cons b .nil))) ρ).bind fun r => match r.1 with
    | .val (.tup [x, y]) => (evVar i r.2).bind fun o => (ev F ix1 o.2).bind fun q => (pk q.1 q.2).bind fun k => (mutSlot i q.2 fun d => dSet d k x).bind fun ρ1 =>
        (evVar j ρ1).bind fun o2 => (ev F ix2 o2.2).bind fun q2 => (pk q2.1 q2.2).bind fun k2 => (mutSlot j q2.2 fun d => dSet d k2 y).bind fun ρ2 => .ok (.nx, ρ2)
    | _ => .bad := nd rfl
@[simp] theorem r_exs_nil  : exs F N (.nil) ρ = .ok (.nx, ρ) := nd rfl
@[simp] theorem r_exs_cons {s : Sx} {l : Sxs} : exs F N (.cons s l) ρ = (ex F N s ρ).bind (nxt F N l) := nd rfl

@[simp] theorem pk_val {d : D} : pk (.val d) ρ = .ok d := nd rfl
@[simp] theorem pk_own {d : D} : pk (.own d) ρ = .ok d := nd rfl
@[simp] theorem pks_nil : pks [] ρ = .ok [] := nd rfl
@[simp] theorem pks_cons {p : P} {ps : List P} : pks (p :: ps) ρ = (pk p ρ).bind fun d => (pks ps ρ).bind fun ds => .ok (d :: ds) := nd rfl
@[simp] theorem toD_val {d : D} : toD (.val d) ρ = some (d, ρ) := nd rfl
@[simp] theorem toD_own {d : D} : toD (.own d) ρ = some (d, ρ) := nd rfl
@[simp] theorem thaw_t {d : D} : thaw true d = .brz d := nd rfl
@[simp] theorem thaw_f {d : D} : thaw false d = .val d := nd rfl
@[simp] theorem toDs_nil : toDs [] ρ = some ([], ρ) := nd rfl
@[simp] theorem toDs_cons {p : P} {ps : List P} : toDs (p :: ps) ρ = (toD p ρ).bind fun r => (toDs ps r.2).bind fun q => some (r.1 :: q.1, q.2) := nd rfl
@[simp] theorem asgP_val {i : Nat} {d : D} : asgP i (.val d) ρ = putV i d ρ := nd rfl
@[simp] theorem asgP_own {i : Nat} {d : D} : asgP i (.own d) ρ = if freeSlot i ρ = true then .ok (ρ.set i (some (.own false d))) else .bad := nd rfl
@[simp] theorem asgP_at {i j : Nat} : asgP i (.at_ j) ρ = (Rs.of (toD (.at_ j) ρ)).bind fun r => putV i r.1 r.2 := nd rfl
@[simp] theorem putV_d {i : Nat} {d : D} : putV i d ρ = if freeSlot i ρ = true then .ok (ρ.set i (some (.val d))) else .bad := nd rfl
@[simp] theorem putVs_nil : putVs [] [] ρ = .ok ρ := nd rfl
@[simp] theorem putVs_cons {i : Nat} {is : List Nat} {d : D} {ds : List D} : putVs (i :: is) (d :: ds) ρ = (putV i d ρ).bind (putVs is ds) := nd rfl
@[simp] theorem asgT_nm {i : Nat} {d : D} : asgT (.nm i) d ρ = putV i d ρ := nd rfl
@[simp] theorem asgT_tp {is : List Nat} {ds : List D} : asgT (.tp is) (.tup ds) ρ = putVs is ds ρ := nd rfl
@[simp] theorem lockP_val {d : D} : lockP (.val d) ρ = (none, ρ) := nd rfl
@[simp] theorem lockP_owned {d : D} : lockP (.own d) ρ = (none, ρ) := nd rfl
@[simp] theorem unlock_none : unlock none ρ = .ok ρ := nd rfl
@[simp] theorem wipe_nil : wipeR ρ [] = ρ := nd rfl
@[simp] theorem wipe_cons {v : Nat} {vs : List Nat} : wipeR ρ (v :: vs) = (wipeR ρ vs).set v none := nd rfl
@[simp] theorem back_nil {ρ0 : Env'} : backR ρ0 ρ [] = ρ := nd rfl
@[simp] theorem back_cons {ρ0 : Env'} {v : Nat} {vs : List Nat} : backR ρ0 ρ (v :: vs) = (backR ρ0 ρ vs).set v (ρ0.getD v none) := nd rfl
@[simp] theorem toArgs_nil : toArgs [] ρ = .ok [] := nd rfl
@[simp] theorem toArgs_cons {p : P} {ps : List P} : toArgs (p :: ps) ρ = (toArg p ρ).bind fun a => (toArgs ps ρ).bind fun as => .ok (a :: as) := nd rfl
@[simp] theorem toArg_val {d : D} : toArg (.val d) ρ = .ok (.val d) := nd rfl
@[simp] theorem toArg_owned {d : D} : toArg (.own d) ρ = .ok (.own d) := nd rfl
@[simp] theorem ats_nil : ats [] = [] := nd rfl
@[simp] theorem ats_at {i : Nat} {ps : List P} : ats (.at_ i :: ps) = i :: ats ps := nd rfl
@[simp] theorem ats_val {d : D} {ps : List P} : ats (.val d :: ps) = ats ps := nd rfl
@[simp] theorem ats_own {d : D} {ps : List P} : ats (.own d :: ps) = ats ps := nd rfl
@[simp] theorem backArgs_nil {as : List A} : backArgs [] as ρ = .ok ρ := nd rfl
@[simp] theorem backArgs_cons {p : P} {ps : List P} {a : A} {as : List A} : backArgs (p :: ps) (a :: as) ρ = (backArg p a ρ).bind (backArgs ps as) := nd rfl
@[simp] theorem backArg_val {d : D} {a : A} : backArg (.val d) a ρ = .ok ρ := nd rfl
@[simp] theorem backArg_owned {d : D} {a : A} : backArg (.own d) a ρ = .ok ρ := nd rfl
@[simp] theorem re_val {d : D} : (Re.val d).p = .val d := nd rfl
@[simp] theorem re_own {d : D} : (Re.own d).p = .own d := nd rfl
@[simp] theorem doCall_d {f : Str} {ps : List P} : doCall F f ps ρ = need ((ats ps).Nodup) ((toArgs ps ρ).bind fun as => (F.call f (as ++ (F.dfl f ps.length).map .val)).bind fun r => (backArgs ps r.2 ρ).bind fun ρ' => .ok (r.1.p, ρ')) := nd rfl
@[simp] theorem mapR_nil {f : D → Env' → Rs (Option D × Env')} : mapR f [] ρ = .ok ([], ρ) := nd rfl
@[simp] theorem forR_nil {f : D → Env' → Rs (Fl × Env')} : forR f [] ρ = .ok (.nx, ρ) := nd rfl
@[simp] theorem asB_bl {b : Bool} {ρ : Env'} : asB (.val (.bl b), ρ) = .ok (b, ρ) := nd rfl
@[simp] theorem endFor_nx {o : Option Nat} : endFor o (.nx, ρ) = (unlock o ρ).bind fun ρ => .ok (.nx, ρ) := nd rfl
@[simp] theorem endFor_rt {o : Option Nat} {p : P} : endFor o (.rt p, ρ) = .ok (.rt p, ρ) := nd rfl
@[simp] theorem isLst_l {l : List D} : isLst (.lst l) = true := nd rfl
@[simp] theorem slot_val {d : D} : (A.val d).slot = .val d := nd rfl
@[simp] theorem slot_own {d : D} : (A.own d).slot = .own true d := nd rfl
@[simp] theorem slot_rd {d : D} : (A.rd d).slot = .lck true d := nd rfl
@[simp] theorem runDef_d {n : Nat} {b : Sxs} {as : List A} : runDef F N n b as = (exs F N b (envOf n as)).bind (finish as) := nd rfl
@[simp] theorem finish_nx {as : List A} : finish as (.nx, ρ) = (outArgs as ρ).bind fun r => .ok (.val .non, r) := nd rfl
@[simp] theorem finish_rt {as : List A} {p : P} : finish as (.rt p, ρ) = (retOf p ρ).bind fun t => (outArgs as t.2).bind fun r => .ok (t.1, r) := nd rfl
@[simp] theorem retOf_val {d : D} : retOf (.val d) ρ = .ok (.val d, ρ) := nd rfl
@[simp] theorem retOf_own {d : D} : retOf (.own d) ρ = .ok (.own d, ρ) := nd rfl
@[simp] theorem outArgs_nil : outArgs [] ρ = .ok [] := nd rfl
@[simp] theorem outArgs_cons {a : A} {as : List A} : outArgs (a :: as) ρ = (outArg a ρ.head?).bind fun x => (outArgs as ρ.tail).bind fun r => .ok (x :: r) := nd rfl
@[simp] theorem outArg_val {d : D} {o : Option (Option S)} : outArg (.val d) o = .ok (.val d) := nd rfl
@[simp] theorem outArg_rd {d : D} {o : Option (Option S)} : outArg (.rd d) o = .ok (.rd d) := nd rfl
@[simp] theorem outArg_own {d d' : D} : outArg (.own d) (some (some (.own true d'))) = .ok (.own d') := nd rfl
@[simp] theorem outArg_lck {d d' : D} : outArg (.own d) (some (some (.lck true d'))) = .ok (.own d') := nd rfl
@[simp] theorem outArg_brz {d d' : D} : outArg (.own d) (some (some (.brz d'))) = .ok (.val d') := nd rfl
/-! a slot looked at -/
noncomputable def gVar (i : Nat) (ρ : Env') : Option (Option S) → Rs (P × Env')
  | some (some (.val d)) => .ok (.val d, ρ)
  | some (some (.brz d)) => .ok (.val d, ρ)
  | some (some (.own b d)) => .ok (.at_ i, ρ)
  | some (some (.lck b d)) => .ok (.at_ i, ρ)
  | _ => .bad
def gPk  : Option (Option S) → Rs D
  | some (some (.val d)) => .ok d
  | some (some (.own b d)) => .ok d
  | some (some (.lck b d)) => .ok d
  | some (some (.brz d)) => .ok d
  | _ => .bad
def gD (i : Nat) (ρ : Env') : Option (Option S) → Option (D × Env')
  | some (some (.val d)) => some (d, ρ)
  | some (some (.brz d)) => some (d, ρ)
  | some (some (.own b d)) => some (d, ρ.set i (some (thaw b d)))
  | _ => none
def gLock (i : Nat) (ρ : Env') : Option (Option S) → Option Nat × Env'
  | some (some (.own b d)) => (some i, ρ.set i (some (.lck b d)))
  | _ => (none, ρ)
def gUn (i : Nat) (ρ : Env') : Option (Option S) → Rs Env'
  | some (some (.lck b d)) => .ok (ρ.set i (some (.own b d)))
  | _ => .bad
def gArg  : Option (Option S) → Rs A
  | some (some (.val d)) => .ok (.val d)
  | some (some (.brz d)) => .ok (.val d)
  | some (some (.own b d)) => .ok (.own d)
  | some (some (.lck b d)) => .ok (.rd d)
  | _ => .bad
noncomputable def gMut (i : Nat) (ρ : Env') (f : D → Rs D) : Option (Option S) → Rs Env'
  | some (some (.own b d)) => (f d).bind fun d' => .ok (ρ.set i (some (.own b d')))
  | _ => .bad
def gRet (i : Nat) (ρ : Env') : Option (Option S) → Rs (Re × Env')
  | some (some (.own false d)) => .ok (.own d, ρ.set i none)
  | some (some (.own true d)) => .ok (.val d, ρ.set i (some (.brz d)))
  | _ => .bad
noncomputable def gAug (F : Fn) (i : Nat) (op : Operator) (e : Ex) (ρ : Env') : Option (Option S) → Rs (Fl × Env')
  | some (some (.val d)) => (ev F e ρ).bind fun r => (pk r.1 r.2).bind fun y => (dAug op d y).bind fun z => (putV i z r.2).bind fun ρ' => .ok (.nx, ρ')
  | _ => .bad
noncomputable def gChg (m : Mm) (i : Nat) (t : List D × Env') : Option (Option S) → Rs (P × Env')
  | some (some (.own b d)) => (dMm m d t.1).bind fun y => .ok (.val y.1, t.2.set i (some (.own b y.2)))
  | _ => .bad
def gFree : Option (Option S) → Bool
  | some none => true
  | some (some (.val _)) => true
  | some (some (.own false _)) => true
  | _ => false
def gBack (i : Nat) (ρ : Env') : Option (Option S) → A → Rs Env'
  | some (some (.own b _)), .own d => .ok (ρ.set i (some (.own b d)))
  | some (some (.own b _)), .val d => .ok (ρ.set i (some (thaw b d)))
  | some (some (.own _ _)), .rd _ => .bad
  | _, _ => .ok ρ
@[simp] theorem c1_gVar {i : Nat} {d : D} : gVar i ρ (some (some (.val d))) = .ok (.val d, ρ) := nd rfl
@[simp] theorem c2_gVar {i : Nat} {d : D} : gVar i ρ (some (some (.brz d))) = .ok (.val d, ρ) := nd rfl
@[simp] theorem c3_gVar {i : Nat} {b : Bool} {d : D} : gVar i ρ (some (some (.own b d))) = .ok (.at_ i, ρ) := nd rfl
@[simp] theorem c4_gVar {i : Nat} {b : Bool} {d : D} : gVar i ρ (some (some (.lck b d))) = .ok (.at_ i, ρ) := nd rfl
@[simp] theorem c5_gPk  {d : D} : gPk  (some (some (.val d))) = .ok d := nd rfl
@[simp] theorem c6_gPk  {b : Bool} {d : D} : gPk  (some (some (.own b d))) = .ok d := nd rfl
@[simp] theorem c7_gPk  {b : Bool} {d : D} : gPk  (some (some (.lck b d))) = .ok d := nd rfl
@[simp] theorem c8_gPk  {d : D} : gPk  (some (some (.brz d))) = .ok d := nd rfl
@[simp] theorem c9_gD {i : Nat} {d : D} : gD i ρ (some (some (.val d))) = some (d, ρ) := nd rfl
@[simp] theorem c10_gD {i : Nat} {d : D} : gD i ρ (some (some (.brz d))) = some (d, ρ) := nd rfl
@[simp] theorem c11_gD {i : Nat} {b : Bool} {d : D} : gD i ρ (some (some (.own b d))) = some (d, ρ.set i (some (thaw b d))) := nd rfl
@[simp] theorem c12_gLock {i : Nat} {b : Bool} {d : D} : gLock i ρ (some (some (.own b d))) = (some i, ρ.set i (some (.lck b d))) := nd rfl
@[simp] theorem c13_gUn {i : Nat} {b : Bool} {d : D} : gUn i ρ (some (some (.lck b d))) = .ok (ρ.set i (some (.own b d))) := nd rfl
@[simp] theorem c14_gArg  {d : D} : gArg  (some (some (.val d))) = .ok (.val d) := nd rfl
@[simp] theorem c15_gArg  {d : D} : gArg  (some (some (.brz d))) = .ok (.val d) := nd rfl
@[simp] theorem c16_gArg  {b : Bool} {d : D} : gArg  (some (some (.own b d))) = .ok (.own d) := nd rfl
@[simp] theorem c17_gArg  {b : Bool} {d : D} : gArg  (some (some (.lck b d))) = .ok (.rd d) := nd rfl
@[simp] theorem c18_gMut {i : Nat} {f : D → Rs D} {b : Bool} {d : D} : gMut i ρ f (some (some (.own b d))) = (f d).bind fun d' => .ok (ρ.set i (some (.own b d'))) := nd rfl
@[simp] theorem c19_gRet {i : Nat} {d : D} : gRet i ρ (some (some (.own false d))) = .ok (.own d, ρ.set i none) := nd rfl
@[simp] theorem c20_gRet {i : Nat} {d : D} : gRet i ρ (some (some (.own true d))) = .ok (.val d, ρ.set i (some (.brz d))) := nd rfl
@[simp] theorem c21_gAug {i : Nat} {op : Operator} {e : Ex} {d : D} : gAug F i op e ρ (some (some (.val d))) = (ev F e ρ).bind fun r => (pk r.1 r.2).bind fun y => (dAug op d y).bind fun z => (putV i z r.2).bind fun ρ' => .ok (.nx, ρ') := nd rfl
@[simp] theorem c22_gChg {m : Mm} {i : Nat} {t : List D × Env'} {b : Bool} {d : D} : gChg m i t (some (some (.own b d))) = (dMm m d t.1).bind fun y => .ok (.val y.1, t.2.set i (some (.own b y.2))) := nd rfl
@[simp] theorem c_lck {i : Nat} {b : Bool} {d : D} : gLock i ρ (some (some (.lck b d))) = (none, ρ) := nd rfl
@[simp] theorem f1 : gFree (some none) = true := nd rfl
@[simp] theorem f2 {d : D} : gFree (some (some (.val d))) = true := nd rfl
@[simp] theorem f3 {d : D} : gFree (some (some (.own false d))) = true := nd rfl
@[simp] theorem b1 {i : Nat} {b : Bool} {d d2 : D} : gBack i ρ (some (some (.own b d))) (.own d2) = .ok (ρ.set i (some (.own b d2))) := nd rfl
@[simp] theorem b2 {i : Nat} {b : Bool} {d d2 : D} : gBack i ρ (some (some (.own b d))) (.val d2) = .ok (ρ.set i (some (thaw b d2))) := nd rfl
@[simp] theorem b3 {i : Nat} {b : Bool} {d : D} {a : A} : gBack i ρ (some (some (.lck b d))) a = .ok ρ := by cases a <;> rfl
@[simp] theorem evVar_d {i : Nat} : evVar i ρ = gVar i ρ ρ[i]? := by
  unfold evVar gVar
  rcases ρ[i]? with _ | _ | s
  all_goals first | rfl | (cases s <;> first | rfl | (rename_i b _; cases b <;> rfl))
@[simp] theorem pk_at {i : Nat} : pk (.at_ i) ρ = gPk ρ[i]? := by
  unfold pk peek gPk
  dsimp only <;> rcases ρ[i]? with _ | _ | s
  all_goals first | rfl | (cases s <;> first | rfl | (rename_i b _; cases b <;> rfl))
@[simp] theorem toD_at {i : Nat} : toD (.at_ i) ρ = gD i ρ ρ[i]? := by
  unfold toD gD
  dsimp only <;> rcases ρ[i]? with _ | _ | s
  all_goals first | rfl | (cases s <;> first | rfl | (rename_i b _; cases b <;> rfl))
@[simp] theorem free_d {i : Nat} : freeSlot i ρ = gFree ρ[i]? := by
  unfold freeSlot gFree
  rcases ρ[i]? with _ | _ | s
  all_goals first | rfl | (cases s <;> first | rfl | (rename_i b _; cases b <;> rfl))
@[simp] theorem lock_at {i : Nat} : lockP (.at_ i) ρ = gLock i ρ ρ[i]? := by
  unfold lockP gLock
  dsimp only <;> rcases ρ[i]? with _ | _ | s
  all_goals first | rfl | (cases s <;> first | rfl | (rename_i b _; cases b <;> rfl))
@[simp] theorem unlock_at {i : Nat} : unlock (some i) ρ = gUn i ρ ρ[i]? := by
  unfold unlock gUn
  dsimp only <;> rcases ρ[i]? with _ | _ | s
  all_goals first | rfl | (cases s <;> first | rfl | (rename_i b _; cases b <;> rfl))
@[simp] theorem toArg_at {i : Nat} : toArg (.at_ i) ρ = gArg ρ[i]? := by
  unfold toArg gArg
  dsimp only <;> rcases ρ[i]? with _ | _ | s
  all_goals first | rfl | (cases s <;> first | rfl | (rename_i b _; cases b <;> rfl))
@[simp] theorem backArg_at {i : Nat} {a : A} : backArg (.at_ i) a ρ = gBack i ρ ρ[i]? a := by
  unfold backArg gBack
  dsimp only <;> rcases ρ[i]? with _ | _ | s
  all_goals first | rfl | (cases s <;> first | rfl | (rename_i b _; cases b <;> rfl) | (cases a <;> rfl))
@[simp] theorem mutSlot_d {i : Nat} {f : D → Rs D} : mutSlot i ρ f = gMut i ρ f ρ[i]? := by
  unfold mutSlot gMut
  rcases ρ[i]? with _ | _ | s
  all_goals first | rfl | (cases s <;> first | rfl | (rename_i b _; cases b <;> rfl))
@[simp] theorem retOf_at {i : Nat} : retOf (.at_ i) ρ = gRet i ρ ρ[i]? := by
  unfold retOf gRet
  dsimp only <;> rcases ρ[i]? with _ | _ | s
  all_goals first | rfl | (cases s <;> first | rfl | (rename_i b _; cases b <;> rfl))
@[simp] theorem g_aug {i : Nat} {op : Operator} {e : Ex} : ex F N (.aug i op e) ρ = gAug F i op e ρ ρ[i]? := by
  rw [r_ex_aug]
  unfold gAug
  rcases ρ[i]? with _ | _ | s
  all_goals first | rfl | (cases s <;> rfl)
@[simp] theorem g_chg {m : Mm} {i : Nat} {l : Exs} : ev F (.chg m i l) ρ = (evVar i ρ).bind fun r => (pk r.1 r.2).bind fun d0 => need (isLst d0 = true) <| (evs F l r.2).bind fun q => (Rs.of (toDs q.1 q.2)).bind fun t => gChg m i t t.2[i]? := by
  rw [r_ev_chg]
  refine congrArg _ (funext fun r => congrArg _ (funext fun d0 => congrArg _ (congrArg _ (funext fun q => congrArg _ (funext fun t => ?_)))))
  unfold gChg
  rcases t.2[i]? with _ | _ | s
  all_goals first | rfl | (cases s <;> rfl)
@[simp] theorem c24_dBin {i : Int} {j : Int} : dBin (.Add) (.int i) (.int j) = .ok (.val (.int (i + j))) := nd rfl
@[simp] theorem c25_dBin {x : Str} {y : Str} : dBin (.Add) (.str x) (.str y) = need (x.length + y.length ≤ sizeLine) (.ok (.val (.str (x ++ y)))) := nd rfl
@[simp] theorem c26_dBin {a : List D} {b : List D} : dBin (.Add) (.lst a) (.lst b) = need (a.length + b.length ≤ sizeLine) (.ok (.own (.lst (a ++ b)))) := nd rfl
@[simp] theorem c27_dBin {a : List D} {b : List D} : dBin (.Add) (.tup a) (.tup b) = need (a.length + b.length ≤ sizeLine) (.ok (.val (.tup (a ++ b)))) := nd rfl
@[simp] theorem c28_dBin {i : Int} {j : Int} : dBin (.Sub) (.int i) (.int j) = .ok (.val (.int (i - j))) := nd rfl
@[simp] theorem c29_dBin {i : Int} {j : Int} : dBin (.Mult) (.int i) (.int j) = need (CMulX i j) (.ok (.val (.int (i * j)))) := nd rfl
@[simp] theorem c30_dBin {k : Int} {l : List D} : dBin (.Mult) (.lst l) (.int k) = need (-(2 ^ 63) ≤ k ∧ k < 2 ^ 63 ∧ l.length * k.toNat ≤ sizeLine) (.ok (.own (.lst (List.replicate k.toNat l).flatten))) := nd rfl
@[simp] theorem c31_dBin {n : Int} {x : Str} : dBin (.Mult) (.str x) (.int n) = need (MulOk x n) (.ok (.val (.str (Txt.mul x n)))) := nd rfl
@[simp] theorem c32_dBin {i : Int} {j : Int} : dBin (.FloorDiv) (.int i) (.int j) = need (CDvX i j) (.ok (.val (.int (i.fdiv j)))) := nd rfl
@[simp] theorem c33_dBin {i : Int} {j : Int} : dBin (.Mod) (.int i) (.int j) = need (j ≠ 0) (.ok (.val (.int (i.fmod j)))) := nd rfl
@[simp] theorem c34_dBin {i : Int} {j : Int} : dBin (.Pow) (.int i) (.int j) = need (CPow i j) (.ok (.val (.int (i ^ j.toNat)))) := nd rfl
@[simp] theorem c35_dBin {i : Int} {j : Int} : dBin (.LShift) (.int i) (.int j) = need (CShl i j) (.ok (.val (.int (i * 2 ^ j.toNat)))) := nd rfl
@[simp] theorem c36_dCmp {a : D} {b : D} : dCmp (.Eq) (a) (b) = need (shp a = true ∧ shp b = true) (.ok (deq a b)) := nd rfl
@[simp] theorem c37_dCmp {a : D} {b : D} : dCmp (.NotEq) (a) (b) = need (shp a = true ∧ shp b = true) (.ok (!deq a b)) := nd rfl
@[simp] theorem c38_dCmp {i : Int} {j : Int} : dCmp (.Lt) (.int i) (.int j) = .ok (decide (i < j)) := nd rfl
@[simp] theorem c39_dCmp {i : Int} {j : Int} : dCmp (.LtE) (.int i) (.int j) = .ok (decide (i ≤ j)) := nd rfl
@[simp] theorem c40_dCmp {i : Int} {j : Int} : dCmp (.Gt) (.int i) (.int j) = .ok (decide (j < i)) := nd rfl
@[simp] theorem c41_dCmp {i : Int} {j : Int} : dCmp (.GtE) (.int i) (.int j) = .ok (decide (j ≤ i)) := nd rfl
@[simp] theorem c42_dCmp {a : D} : dCmp (.Is) (a) (.non) = .ok (match a with | .non => true | _ => false) := nd rfl
@[simp] theorem c43_dCmp {a : D} : dCmp (.IsNot) (a) (.non) = .ok (match a with | .non => false | _ => true) := nd rfl
@[simp] theorem c44_dCmp {a : D} {b : D} : dCmp (.In) (a) (b) = dIn a b := nd rfl
@[simp] theorem c45_dCmp {a : D} {b : D} : dCmp (.NotIn) (a) (b) = (dIn a b).bind fun c => .ok (!c) := nd rfl
@[simp] theorem c46_dIdx {i : Int} {l : List D} : dIdx (.tup l) (.int i) = .of (atI l i) := nd rfl
@[simp] theorem c47_dIdx {i : Int} {l : List D} : dIdx (.lst l) (.int i) = .of (atI l i) := nd rfl
@[simp] theorem c48_dIdx {i : Int} {l : List Int} : dIdx (.scr l) (.int i) = (Rs.of (atI l i)).bind fun k => .ok (.int k) := nd rfl
@[simp] theorem c49_dIdx {i : Int} {z : Str} : dIdx (.str z) (.int i) = need (z.length ≤ sizeLine) ((Rs.of (atI z.cps.toList i)).bind fun c => .ok (.str (chr1 c))) := nd rfl
@[simp] theorem c50_items {l : List D} : items (.tup l) = .ok l := nd rfl
@[simp] theorem c51_items {l : List D} : items (.lst l) = .ok l := nd rfl
@[simp] theorem c52_items {l : List Int} : items (.scr l) = .ok (l.map .int) := nd rfl
@[simp] theorem c53_items {x : Str} : items (.str x) = .ok (x.cps.toList.map fun c => .str (chr1 c)) := nd rfl
@[simp] theorem c54_itemsL {l : List D} : itemsL (.lst l) = .ok l := nd rfl
@[simp] theorem c54b_itemsL {l : List D} : itemsL (.tup l) = .ok l := nd rfl
@[simp] theorem c55_dLen {l : List D} : dLen (.tup l) = .ok l.length := nd rfl
@[simp] theorem c56_dLen {l : List D} : dLen (.lst l) = .ok l.length := nd rfl
@[simp] theorem c57_dLen {l : List Int} : dLen (.scr l) = .ok l.length := nd rfl
@[simp] theorem c58_dLen {x : Str} : dLen (.str x) = need (x.length ≤ sizeLine) (.ok x.length) := nd rfl
@[simp] theorem c59_dBl {d : D} : dBl (.len) ([d]) = (dLen d).bind fun n => .ok (.val (.int n)) := nd rfl
@[simp] theorem c60_dBl {i : Int} : dBl (.abs) ([.int i]) = .ok (.val (.int (if i < 0 then -i else i))) := nd rfl
@[simp] theorem c61_dBl {i : Int} : dBl (.int) ([.int i]) = .ok (.val (.int i)) := nd rfl
@[simp] theorem c62_dBl {k : Bool} : dBl (.int) ([.bl k]) = .ok (.val (.int (if k then 1 else 0))) := nd rfl
@[simp] theorem c63_dBl {l : List D} : dBl (.tuple) ([.tup l]) = .ok (.val (.tup l)) := nd rfl
@[simp] theorem c64_dBl {l : List D} : dBl (.tuple) ([.lst l]) = .ok (.val (.tup l)) := nd rfl
@[simp] theorem c65_dBl {l : List Int} : dBl (.tuple) ([.scr l]) = .ok (.val (.tup (l.map .int))) := nd rfl
@[simp] theorem c66_dBl {l : List D} : dBl (.list) ([.tup l]) = .ok (.own (.lst l)) := nd rfl
@[simp] theorem c67_dBl {l : List D} : dBl (.list) ([.lst l]) = .ok (.own (.lst l)) := nd rfl
@[simp] theorem c68_dBl {l : List Int} : dBl (.list) ([.scr l]) = .ok (.own (.lst (l.map .int))) := nd rfl
@[simp] theorem c69_dBl {l : List D} : dBl (.all) ([.lst l]) = (Rs.of (bls l)).bind fun bs => .ok (.val (.bl (bs.all id))) := nd rfl
@[simp] theorem c70_dBl {l : List D} : dBl (.any) ([.lst l]) = (Rs.of (bls l)).bind fun bs => .ok (.val (.bl (bs.any id))) := nd rfl
@[simp] theorem c71_dBl {l : List D} : dBl (.sum) ([.lst l]) = (Rs.of (intsD l)).bind fun is => .ok (.val (.int is.sum)) := nd rfl
@[simp] theorem c72_dBl {i : Int} {j : Int} : dBl (.gcd) ([.int i, .int j]) = .ok (.val (.int ((Nat.gcd i.natAbs j.natAbs : Nat) : Int))) := nd rfl
@[simp] theorem c73_dBl {i : Int} {j : Int} : dBl (.min2) ([.int i, .int j]) = .ok (.val (.int (if j < i then j else i))) := nd rfl
@[simp] theorem c74_dBl {i : Int} {j : Int} : dBl (.max2) ([.int i, .int j]) = .ok (.val (.int (if j > i then j else i))) := nd rfl
@[simp] theorem c75_truth  : truth (.non) = .ok false := nd rfl
@[simp] theorem c76_truth {b : Bool} : truth (.bl b) = .ok b := nd rfl
@[simp] theorem c77_truth {i : Int} : truth (.int i) = .ok (i != 0) := nd rfl
@[simp] theorem c78_truth {x : Str} : truth (.str x) = need (x.length ≤ sizeLine) (.ok ((x.length : Int) != 0)) := nd rfl
@[simp] theorem c79_truth {l : List D} : truth (.tup l) = .ok (!l.isEmpty) := nd rfl
@[simp] theorem c80_truth {l : List D} : truth (.lst l) = .ok (!l.isEmpty) := nd rfl
@[simp] theorem c81_truth {l : List Int} : truth (.scr l) = .ok (!l.isEmpty) := nd rfl
@[simp] theorem c82_dMe {a : Str} {l : List D} : dMe (.join) (.str a) ([.lst l]) = (Rs.of (strsD l)).bind fun ys => need ((ys.map (·.length)).sum + ys.length * a.length ≤ 16777216) (.ok (.val (.str (Txt.join a ys)))) := nd rfl
@[simp] theorem c83_dMe {a : Str} {l : List D} : dMe (.join) (.str a) ([.tup l]) = (Rs.of (strsD l)).bind fun ys => need ((ys.map (·.length)).sum + ys.length * a.length ≤ 16777216) (.ok (.val (.str (Txt.join a ys)))) := nd rfl
@[simp] theorem c84_dMe {a : Str} {b : Str} : dMe (.split) (.str a) ([.str b]) = need ((b.length == 0) = false ∧ a.length + 2 ≤ sizeLine) (.ok (.own (.lst ((Txt.split a b).map .str)))) := nd rfl
@[simp] theorem c85_dMe {l : List D} {x : D} : dMe (.index) (.lst l) ([x]) = need (shp x = true ∧ shp (.lst l) = true) (match l.findIdx? fun z => deq z x with | some j => .ok (.val (.int (j : Nat))) | none => .bad) := nd rfl
@[simp] theorem c86_dMm {l : List D} {d : D} : dMm (.append) (.lst l) ([d]) = need (l.length < sizeLine) (.ok (.non, .lst (l ++ [d]))) := nd rfl
@[simp] theorem c87_dMm {l : List D} : dMm (.pop) (.lst l) ([]) = (Rs.of (l[l.length - 1]?)).bind fun y => .ok (y, .lst l.dropLast) := nd rfl
@[simp] theorem c88_dMm {i : Int} {l : List D} {d : D} : dMm (.insert) (.lst l) ([.int i, d]) = need (l.length < sizeLine ∧ 0 ≤ i ∧ i < 2 ^ 63) (.ok (.non, .lst (l.take i.toNat ++ [d] ++ l.drop i.toNat))) := nd rfl
@[simp] theorem c89_dMm {i : Int} {l : List D} : dMm (.popAt) (.lst l) ([.int i]) = need (-(2 ^ 63) ≤ i ∧ i < 2 ^ 63) ((Rs.of (seqIndex? i l.length)).bind fun k => (Rs.of l[k]?).bind fun y => .ok (y, .lst (l.eraseIdx k))) := nd rfl
@[simp] theorem c90_dAug {i : Int} {j : Int} : dAug (.Add) (.int i) (.int j) = .ok (.int (i + j)) := nd rfl
@[simp] theorem c91_dAug {i : Int} {j : Int} : dAug (.Sub) (.int i) (.int j) = .ok (.int (i - j)) := nd rfl
@[simp] theorem c92_dAug {x : Str} {y : Str} : dAug (.Add) (.str x) (.str y) = need (x.length + y.length ≤ sizeLine) (.ok (.str (x ++ y))) := nd rfl
@[simp] theorem c93_dSet {k : Int} {l : List D} {d : D} : dSet (.lst l) (.int k) (d) = (Rs.of (ixN l.length k)).bind fun j => .ok (.lst (l.set j d)) := nd rfl
@[simp] theorem c94_itemss {a : List D} {b : List D} : itemss ([.lst a, .lst b]) = .ok [a, b] := nd rfl
@[simp] theorem c95_itemss {a : List D} {b : List D} : itemss ([.tup a, .tup b]) = .ok [a, b] := nd rfl
@[simp] theorem c95b_itemss {a b : List D} : itemss ([.lst a, .tup b]) = .ok [a, b] := nd rfl
@[simp] theorem c95c_itemss {a b : List D} : itemss ([.tup a, .lst b]) = .ok [a, b] := nd rfl
@[simp] theorem c96_dSlc {z : Str} {lo : Option Int} {hi : Option Int} : dSlc (.str z) (lo) (hi) = need (z.length ≤ sizeLine) (.ok (.val (.str (cutS z lo hi)))) := nd rfl
@[simp] theorem c97_dSlc {l : List D} {lo : Option Int} {hi : Option Int} : dSlc (.lst l) (lo) (hi) = .ok (.own (.lst ((l.drop (HT.sIx l.length 0 lo)).take (HT.sIx l.length l.length hi - HT.sIx l.length 0 lo)))) := nd rfl
@[simp] theorem c98_dSlc {l : List D} {lo : Option Int} {hi : Option Int} : dSlc (.tup l) (lo) (hi) = .ok (.val (.tup ((l.drop (HT.sIx l.length 0 lo)).take (HT.sIx l.length l.length hi - HT.sIx l.length 0 lo)))) := nd rfl
@[simp] theorem c99_bls : bls ([]) = some [] := nd rfl
@[simp] theorem c100_bls {b : Bool} {ds : List D} : bls (.bl b :: ds) = (bls ds).map (b :: ·) := nd rfl
@[simp] theorem c101_intsD : intsD ([]) = some [] := nd rfl
@[simp] theorem c102_intsD {b : Int} {ds : List D} : intsD (.int b :: ds) = (intsD ds).map (b :: ·) := nd rfl
@[simp] theorem c103_strsD : strsD ([]) = some [] := nd rfl
@[simp] theorem c104_strsD {b : Str} {ds : List D} : strsD (.str b :: ds) = (strsD ds).map (b :: ·) := nd rfl
@[simp] theorem dIn_str {i j : Str} : dIn (.str i) (.str j) = .ok (strIn i j) := nd rfl
@[simp] theorem dIn_lst {x : D} {l : List D} : dIn x (.lst l) = need (shp x = true ∧ shp (.lst l) = true) (.ok (l.any fun z => deq z x)) := nd rfl
@[simp] theorem dIn_tup {x : D} {l : List D} : dIn x (.tup l) = need (shp x = true ∧ shp (.tup l) = true) (.ok (l.any fun z => deq z x)) := nd rfl
@[simp] theorem isTy_tt {l : List D} : isTy .tup (.tup l) = .ok true := nd rfl
@[simp] theorem isTy_tl {l : List D} : isTy .tup (.lst l) = .ok false := nd rfl
@[simp] theorem isTy_ll {l : List D} : isTy .lst (.lst l) = .ok true := nd rfl
@[simp] theorem isTy_ss {x : Str} : isTy .str (.str x) = .ok true := nd rfl
@[simp] theorem isTy_ii {x : Int} : isTy .int (.int x) = .ok true := nd rfl
@[simp] theorem isTy_ib {x : Bool} : isTy .int (.bl x) = .ok true := nd rfl
@[simp] theorem isTy_bb {x : Bool} : isTy .bool (.bl x) = .ok true := nd rfl
@[simp] theorem isTy_bi {x : Int} : isTy .bool (.int x) = .ok false := nd rfl
@[simp] theorem isLst_i {l : List D} : isLst (.lst l) = true := nd rfl
@[simp] theorem hasTy_j {x : Str} : hasTy .join (.str x) = true := nd rfl
@[simp] theorem hasTy_s {x : Str} : hasTy .split (.str x) = true := nd rfl
@[simp] theorem atI_0 {α : Type} {x : α} {l : List α} : atI (x :: l) 0 = some x := by simp [atI, ixN]
@[simp] theorem atI_1 {α : Type} {x y : α} {l : List α} : atI (x :: y :: l) 1 = some y := by
  unfold atI ixN
  rw [if_pos (by decide), if_pos (by simp; omega)]
  rfl
@[simp] theorem atI_2 {α : Type} {x y z : α} {l : List α} : atI (x :: y :: z :: l) 2 = some z := by
  unfold atI ixN
  rw [if_pos (by decide), if_pos (by simp; omega)]
  rfl
@[simp] theorem atI_3 {α : Type} {x y z w : α} {l : List α} : atI (x :: y :: z :: w :: l) 3 = some w := by
  unfold atI ixN
  rw [if_pos (by decide), if_pos (by simp; omega)]
  rfl
@[simp] theorem mkF_glo2 {glo : Str → Option D} {M : Nat} {ds : List Dm} : (mkF glo M ds).glo = glo := mkF_glo
theorem dfl_cons {glo : Str → Option D} {M : Nat} {d : Dm} {ds : List Dm} (h1 : d.dfl = fun _ => []) (h2 : ∀ f n, (mkF glo M ds).dfl f n = []) (f : Str) (n : Nat) : (mkF glo M (d :: ds)).dfl f n = [] := by
  show (if f = d.f then d.dfl n else (mkF glo M ds).dfl f n) = []
  split
  · rw [h1]
  · exact h2 f n
/-- a table's def, seen from a larger one -/
theorem lift {glo : Str → Option D} {M : Nat} {f : Str} {ds : List Dm} : ∀ (l : List Dm), (l.all fun e => decide (f ≠ e.f)) = true → (mkF glo M (l ++ ds)).call f = (mkF glo M ds).call f
  | [], _ => rfl
  | d :: l, h => by
    rw [List.all_cons, Bool.and_eq_true] at h
    exact (show (mkF glo M (d :: (l ++ ds))).call f = _ from funext fun as => if_neg (of_decide_eq_true h.1)).trans (lift l h.2)
theorem nodfl {glo : Str → Option D} {M : Nat} {f : Str} {n : Nat} : ∀ {ds : List Dm}, (∀ d ∈ ds, d.dfl = fun _ => []) → (mkF glo M ds).dfl f n = []
  | [], _ => rfl
  | d :: l, h => by
    show (if f = d.f then d.dfl n else (mkF glo M l).dfl f n) = []
    split
    · rw [h d List.mem_cons_self]
    · exact nodfl fun e he => h e (List.mem_cons_of_mem _ he)
end
end Dv

set_option Elab.async false
set_option linter.all false
set_option maxRecDepth 100000
set_option maxHeartbeats 1000000
namespace Dv
open PySem PySem.Spec PyProof.Rows L2

/-! ### loops by what holds -/
theorem mapR_gen {f : D → Env' → Rs (Option D × Env')} : ∀ {l : List D} {I : Nat → List D → Env' → Prop} {ρ : Env'} {k : Nat} {out : List D},
    (∀ (i : Nat) (d : D) (out : List D) (ρ : Env'), l[i]? = some d → I (k + i) out ρ → ∃ y ρ', f d ρ = .ok (y, ρ') ∧ I (k + i + 1) (out ++ y.toList) ρ') → I k out ρ →
    ∃ o ρ', mapR f l ρ = .ok (o, ρ') ∧ I (k + l.length) (out ++ o) ρ'
  | [], I, ρ, k, out, _, h => ⟨[], ρ, rfl, by simpa using h⟩
  | d :: l, I, ρ, k, out, step, h => by
    obtain ⟨y, ρ1, e1, h1⟩ := step 0 d out ρ rfl h
    obtain ⟨o, ρ2, e2, h2⟩ := mapR_gen (l := l) (I := I) (ρ := ρ1) (k := k + 1) (out := out ++ y.toList) (fun i d out ρ e hi => by
      have := step (i + 1) d out ρ (by simpa using e) (by rw [show k + (i + 1) = k + 1 + i by omega]; exact hi)
      rw [show k + (i + 1) = k + 1 + i by omega] at this
      exact this) h1
    rw [List.length_cons, show k + (l.length + 1) = k + 1 + l.length by omega]
    cases y with
    | none =>
      refine ⟨o, ρ2, ?_, by simpa using h2⟩
      show (f d ρ).bind _ = _
      rw [e1]
      show (mapR f l ρ1).bind _ = _
      rw [e2]
      rfl
    | some y =>
      refine ⟨y :: o, ρ2, ?_, by simpa using h2⟩
      show (f d ρ).bind _ = _
      rw [e1]
      show (mapR f l ρ1).bind _ = _
      rw [e2]
      rfl
theorem forR_gen {f : D → Env' → Rs (Fl × Env')} : ∀ {l : List D} {I : Nat → Env' → Prop} {ρ : Env'} {k : Nat},
    (∀ (i : Nat) (d : D) (ρ : Env'), l[i]? = some d → I (k + i) ρ → ∃ ρ', f d ρ = .ok (.nx, ρ') ∧ I (k + i + 1) ρ') → I k ρ → ∃ ρ', forR f l ρ = .ok (.nx, ρ') ∧ I (k + l.length) ρ'
  | [], I, ρ, k, _, h => ⟨ρ, rfl, h⟩
  | d :: l, I, ρ, k, step, h => by
    obtain ⟨ρ1, e1, h1⟩ := step 0 d ρ rfl h
    obtain ⟨ρ2, e2, h2⟩ := forR_gen (l := l) (I := I) (ρ := ρ1) (k := k + 1) (fun i d ρ e hi => by
      have := step (i + 1) d ρ (by simpa using e) (by rw [show k + (i + 1) = k + 1 + i by omega]; exact hi)
      rw [show k + (i + 1) = k + 1 + i by omega] at this
      exact this) h1
    refine ⟨ρ2, ?_, ?_⟩
    · show (f d ρ).bind _ = _
      rw [e1]
      exact e2
    · rw [List.length_cons, show k + (l.length + 1) = k + 1 + l.length by omega]
      exact h2
theorem whileR_gen {t : Env' → Rs (Bool × Env')} {b : Env' → Rs (Fl × Env')} {I : Env' → Prop} {Q : Env' → Prop} (μ : Env' → Nat)
    (step : ∀ ρ, I ρ → (∃ ρ', t ρ = .ok (false, ρ') ∧ Q ρ') ∨ ∃ ρ1 ρ2, t ρ = .ok (true, ρ1) ∧ b ρ1 = .ok (.nx, ρ2) ∧ I ρ2 ∧ μ ρ2 < μ ρ) :
    ∀ {N : Nat} {ρ : Env'}, μ ρ < N → I ρ → ∃ ρ', whileR t b N ρ = .ok (.nx, ρ') ∧ Q ρ'
  | 0, ρ, h, _ => by omega
  | N + 1, ρ, h, hi => by
    rcases step ρ hi with ⟨ρ', e, q⟩ | ⟨ρ1, ρ2, e1, e2, h2, lt⟩
    · refine ⟨ρ', ?_, q⟩
      show (t ρ).bind _ = _
      rw [e]
      rfl
    · obtain ⟨ρ', e3, q⟩ := whileR_gen μ step (N := N) (ρ := ρ2) (by omega) h2
      refine ⟨ρ', ?_, q⟩
      show (t ρ).bind _ = _
      rw [e1]
      show (b ρ1).bind _ = _
      rw [e2]
      exact e3
theorem wR_len : ∀ (own : List Nat) (ρ : Env'), (wipeR ρ own).length = ρ.length
  | [], _ => rfl
  | v :: vs, ρ => by rw [wipe_cons, List.length_set, wR_len vs ρ]
theorem bR_len {ρ0 : Env'} : ∀ (own : List Nat) (ρ : Env'), (backR ρ0 ρ own).length = ρ.length
  | [], _ => rfl
  | v :: vs, ρ => by rw [back_cons, List.length_set, bR_len vs ρ]
theorem wR_get : ∀ (own : List Nat) (ρ : Env') (j : Nat), (wipeR ρ own)[j]? = if j ∈ own then (if j < ρ.length then some none else none) else ρ[j]?
  | [], _, _ => rfl
  | v :: vs, ρ, j => by
    rw [wipe_cons]
    by_cases e : v = j
    · subst e
      rw [if_pos List.mem_cons_self]
      by_cases lt : v < ρ.length
      · rw [if_pos lt, List.getElem?_set_self (by rw [wR_len]; exact lt)]
      · rw [if_neg lt, List.getElem?_eq_none (by rw [List.length_set, wR_len]; omega)]
    · rw [List.getElem?_set_ne e, wR_get vs ρ j]
      by_cases h : j ∈ vs
      · rw [if_pos h, if_pos (List.mem_cons_of_mem _ h)]
      · rw [if_neg h, if_neg (by simp [h, Ne.symm e])]
theorem bR_get {ρ0 : Env'} : ∀ (own : List Nat) (ρ : Env') (j : Nat), (backR ρ0 ρ own)[j]? = if j ∈ own then (if j < ρ.length then some (ρ0.getD j none) else none) else ρ[j]?
  | [], _, _ => rfl
  | v :: vs, ρ, j => by
    rw [back_cons]
    by_cases e : v = j
    · subst e
      rw [if_pos List.mem_cons_self]
      by_cases lt : v < ρ.length
      · rw [if_pos lt, List.getElem?_set_self (by rw [bR_len]; exact lt)]
      · rw [if_neg lt, List.getElem?_eq_none (by rw [List.length_set, bR_len]; omega)]
    · rw [List.getElem?_set_ne e, bR_get vs ρ j]
      by_cases h : j ∈ vs
      · rw [if_pos h, if_pos (List.mem_cons_of_mem _ h)]
      · rw [if_neg h, if_neg (by simp [h, Ne.symm e])]
theorem wipe_idem {own : List Nat} {ρ : Env'} : wipeR (wipeR ρ own) own = wipeR ρ own := List.ext_getElem? fun j => by
  rw [wR_get, wR_get, wR_len]
  by_cases h : j ∈ own
  · rw [if_pos h, if_pos h]
  · rw [if_neg h, if_neg h]
theorem back_wipe {ρ0 : Env'} {own : List Nat} {ρ : Env'} : backR ρ0 (wipeR ρ own) own = backR ρ0 ρ own := List.ext_getElem? fun j => by
  rw [bR_get, bR_get, wR_get, wR_len]
  by_cases h : j ∈ own
  · rw [if_pos h, if_pos h]
  · rw [if_neg h, if_neg h, if_neg h]
/-- a turn of a comprehension -/
noncomputable def turnR (F : Fn) (elt : Ex) (tg : Tg) (ifs : To) (d : D) (ρ : Env') : Rs (Option D × Env') := (asgT tg d ρ).bind fun ρ2 => (evc F ifs ρ2).quiet.bind fun c => match c.1 with
        | true => (ev F elt c.2).quiet.bind fun p => (Rs.of (toD p.1 p.2)).bind fun y => .ok (some y.1, y.2)
        | false => .ok (none, c.2)
/-- a comprehension, by what holds of the made items and of the other slots -/
theorem comp_gen {F : Fn} {elt : Ex} {tg : Tg} {it : Ie} {ifs : To} {own : List Nat} {ρ ρ1 : Env'} {l : List D} {p : P} (hi : evi F it ρ = .ok ((l, p), ρ1)) (I : Nat → List D → Env' → Prop)
    (step : ∀ (i : Nat) (d : D) (out : List D) (ρ : Env'), l[i]? = some d → wipeR ρ own = ρ → I i out ρ → ∃ y ρ', turnR F elt tg ifs d ρ = .ok (y, ρ') ∧ I (i + 1) (out ++ y.toList) (wipeR ρ' own)) (h0 : I 0 [] (wipeR (lockP p ρ1).2 own)) :
    ∃ out ρ2, I l.length out ρ2 ∧ ev F (.comp elt tg it ifs own) ρ = (unlock (lockP p ρ1).1 (backR (lockP p ρ1).2 ρ2 own)).bind fun ρ' => need (out.length < sizeLine) (.ok (.own (.lst out), ρ')) := by
  obtain ⟨o, ρ', e, h⟩ := mapR_gen (f := fun d ρ => turnR F elt tg ifs d (wipeR ρ own)) (l := l) (I := fun i out ρ => I i out (wipeR ρ own)) (k := 0) (out := []) (ρ := wipeR (lockP p ρ1).2 own) (fun i d out ρ e h => by
    rw [Nat.zero_add] at h ⊢
    exact step i d out (wipeR ρ own) e wipe_idem h) (by rw [wipe_idem]; exact h0)
  rw [Nat.zero_add, List.nil_append] at h
  refine ⟨o, wipeR ρ' own, h, ?_⟩
  rw [r_ev_comp, hi]
  show (mapR (fun d ρ => turnR F elt tg ifs d (wipeR ρ own)) l (wipeR (lockP p ρ1).2 own)).bind _ = _
  rw [e, back_wipe]
  rfl
end Dv

set_option Elab.async false
set_option linter.all false
set_option maxRecDepth 100000
set_option maxHeartbeats 1000000
namespace Dv
open PySem PySem.Spec PyProof.Rows L2

/-! ### the draws that all laws share -/
def bBegin : Sxs := (.cons 
    (.ret (.lst (.cons (.comp (.blt .int (.cons (.var 1) .nil)) (.nm 1) (.seq (.var 0)) .none [1]) (.cons (.cst (.int 0)) (.cons (.cst (.int 0)) (.cons (.cst (.int 7)) (.cons (.cst (.int 3)) .nil))))))) .nil)
def bDraw : Sxs := (.cons 
    (.ite (.cmp .Gt (.idx (.var 0) (.cst (.int 2))) (.cst (.int 0))) (.cons 
    (.set 3 (.idx (.var 0) (.cst (.int 2)))) (.cons 
    (.setI 0 (.cst (.int 2)) (.bin .FloorDiv (.var 3) (.var 1))) (.cons 
    (.ret (.bin .Mod (.blt .int (.cons (.var 3) .nil)) (.var 1))) .nil))) .nil) (.cons 
    (.set 2 (.cst (.int 0))) (.cons 
    (.ite (.cmp .Lt (.idx (.var 0) (.cst (.int 1))) (.blt .len (.cons (.idx (.var 0) (.cst (.int 0))) .nil))) (.cons 
    (.set 4 (.idx (.idx (.var 0) (.cst (.int 0))) (.idx (.var 0) (.cst (.int 1))))) (.cons 
    (.set 2 (.bin .Add (.bin .Mult (.cst (.int 2)) (.blt .abs (.cons (.var 4) .nil))) (.blt .int (.cons (.cmp .Lt (.var 4) (.cst (.int 0))) .nil)))) .nil)) .nil) (.cons 
    (.augI 0 .Add (.cst (.int 1)) (.cst (.int 1))) (.cons 
    (.ite (.cmp .GtE (.var 2) (.bin .Mult (.cst (.int 2)) (.bin .Pow (.cst (.int 10)) (.cst (.int 18))))) (.cons 
    (.set 3 (.bin .Mod (.blt .int (.cons (.bin .FloorDiv (.var 2) (.cst (.int 2))) .nil)) (.bin .LShift (.cst (.int 1)) (.cst (.int 6000))))) (.cons 
    (.setI 0 (.cst (.int 2)) (.bin .FloorDiv (.var 3) (.var 1))) (.cons 
    (.ret (.bin .Mod (.blt .int (.cons (.var 3) .nil)) (.var 1))) .nil))) .nil) (.cons 
    (.setI 0 (.cst (.int 3)) (.bin .Mod (.blt .int (.cons (.bin .Add (.bin .Add (.bin .Add (.bin .Mult (.idx (.var 0) (.cst (.int 3))) (.cst (.int 48271))) (.bin .Mult (.bin .Mod (.blt .int (.cons (.var 2) .nil)) (.cst (.int 2147483629))) (.cst (.int 16807)))) (.bin .Mult (.idx (.var 0) (.cst (.int 1))) (.cst (.int 69621)))) (.cst (.int 11))) .nil)) (.cst (.int 2147483647)))) (.cons 
    (.ret (.bin .Mod (.blt .int (.cons (.bin .FloorDiv (.idx (.var 0) (.cst (.int 3))) (.cst (.int 16))) .nil)) (.var 1))) .nil)))))))
def dS1 : Sx := (.ite (.cmp .Gt (.idx (.var 0) (.cst (.int 2))) (.cst (.int 0))) (.cons 
    (.set 3 (.idx (.var 0) (.cst (.int 2)))) (.cons 
    (.setI 0 (.cst (.int 2)) (.bin .FloorDiv (.var 3) (.var 1))) (.cons 
    (.ret (.bin .Mod (.blt .int (.cons (.var 3) .nil)) (.var 1))) .nil))) .nil)
def dS3 : Sx := (.ite (.cmp .Lt (.idx (.var 0) (.cst (.int 1))) (.blt .len (.cons (.idx (.var 0) (.cst (.int 0))) .nil))) (.cons 
    (.set 4 (.idx (.idx (.var 0) (.cst (.int 0))) (.idx (.var 0) (.cst (.int 1))))) (.cons 
    (.set 2 (.bin .Add (.bin .Mult (.cst (.int 2)) (.blt .abs (.cons (.var 4) .nil))) (.blt .int (.cons (.cmp .Lt (.var 4) (.cst (.int 0))) .nil)))) .nil)) .nil)
def bDraw2 : Sxs := (.cons 
    (.augI 0 .Add (.cst (.int 1)) (.cst (.int 1))) (.cons 
    (.ite (.cmp .GtE (.var 2) (.bin .Mult (.cst (.int 2)) (.bin .Pow (.cst (.int 10)) (.cst (.int 18))))) (.cons 
    (.set 3 (.bin .Mod (.blt .int (.cons (.bin .FloorDiv (.var 2) (.cst (.int 2))) .nil)) (.bin .LShift (.cst (.int 1)) (.cst (.int 6000))))) (.cons 
    (.setI 0 (.cst (.int 2)) (.bin .FloorDiv (.var 3) (.var 1))) (.cons 
    (.ret (.bin .Mod (.blt .int (.cons (.var 3) .nil)) (.var 1))) .nil))) .nil) (.cons 
    (.setI 0 (.cst (.int 3)) (.bin .Mod (.blt .int (.cons (.bin .Add (.bin .Add (.bin .Add (.bin .Mult (.idx (.var 0) (.cst (.int 3))) (.cst (.int 48271))) (.bin .Mult (.bin .Mod (.blt .int (.cons (.var 2) .nil)) (.cst (.int 2147483629))) (.cst (.int 16807)))) (.bin .Mult (.idx (.var 0) (.cst (.int 1))) (.cst (.int 69621)))) (.cst (.int 11))) .nil)) (.cst (.int 2147483647)))) (.cons 
    (.ret (.bin .Mod (.blt .int (.cons (.bin .FloorDiv (.idx (.var 0) (.cst (.int 3))) (.cst (.int 16))) .nil)) (.var 1))) .nil))))
def dS4 : Sx := (.augI 0 .Add (.cst (.int 1)) (.cst (.int 1)))
def dS5 : Sx := (.ite (.cmp .GtE (.var 2) (.bin .Mult (.cst (.int 2)) (.bin .Pow (.cst (.int 10)) (.cst (.int 18))))) (.cons 
    (.set 3 (.bin .Mod (.blt .int (.cons (.bin .FloorDiv (.var 2) (.cst (.int 2))) .nil)) (.bin .LShift (.cst (.int 1)) (.cst (.int 6000))))) (.cons 
    (.setI 0 (.cst (.int 2)) (.bin .FloorDiv (.var 3) (.var 1))) (.cons 
    (.ret (.bin .Mod (.blt .int (.cons (.var 3) .nil)) (.var 1))) .nil))) .nil)
def dS6 (A B C E G Q : Int) : Sx := (.setI 0 (.cst (.int 3)) (.bin .Mod (.blt .int (.cons (.bin .Add (.bin .Add (.bin .Add (.bin .Mult (.idx (.var 0) (.cst (.int 3))) (.cst (.int A))) (.bin .Mult (.bin .Mod (.blt .int (.cons (.var 2) .nil)) (.cst (.int B))) (.cst (.int C)))) (.bin .Mult (.idx (.var 0) (.cst (.int 1))) (.cst (.int E)))) (.cst (.int G))) .nil)) (.cst (.int Q))))
def bDraw3 : Sxs := (.cons 
    (.ret (.bin .Mod (.blt .int (.cons (.bin .FloorDiv (.idx (.var 0) (.cst (.int 3))) (.cst (.int 16))) .nil)) (.var 1))) .nil)
def bPick : Sxs := (.cons 
    (.ret (.idx (.var 1) (.call "_law_draw" (.cons (.var 0) (.cons (.blt .len (.cons (.var 1) .nil)) .nil))))) .nil)
def bRare : Sxs := (.cons 
    (.ret (.cmp .Eq (.call "_law_draw" (.cons (.var 0) (.cons (.var 1) .nil))) (.bin .FloorDiv (.var 1) (.cst (.int 2))))) .nil)
theorem bits_lt {x : Int} {k : Nat} (h : x.natAbs < 2 ^ k) : Builtin.Int.intBits x ≤ k := by
  unfold Builtin.Int.intBits
  split
  · omega
  · rename_i hx
    have : x.natAbs ≠ 0 := by simpa using hx
    exact (Nat.log2_lt this).mpr h
theorem bits_neg {x : Int} : Builtin.Int.intBits (-x) = Builtin.Int.intBits x := by
  unfold Builtin.Int.intBits
  rw [Int.natAbs_neg]
  by_cases h : x = 0
  · subst h; rfl
  · have h1 : (-x == 0) = false := by simpa using h
    have h2 : (x == 0) = false := by simpa using h
    rw [h1, h2]
theorem bits_nn {x : Int} {k : Nat} (h0 : 0 ≤ x) (h : x < 2 ^ k) : Builtin.Int.intBits x ≤ k := bits_lt (by
  have e : ((2 : Int) ^ k) = ((2 ^ k : Nat) : Int) := by push_cast; rfl
  rw [e] at h
  omega)
theorem ofb_lt {x : Int} {k : Nat} (h : Builtin.Int.intBits x ≤ k) : x.natAbs < 2 ^ k := by
  unfold Builtin.Int.intBits at h
  split at h
  · rename_i hx
    have : x = 0 := by simpa using hx
    subst this
    exact Nat.two_pow_pos k
  · rename_i hx
    have : x.natAbs ≠ 0 := by simpa using hx
    exact (Nat.log2_lt this).mp h
/-- a divisor of one digit or few -/
theorem dv_ok {i j : Int} (h : 0 < j) (h2 : j < 2 ^ 64) : CDvX i j := by
  refine ⟨by omega, ?_⟩
  unfold Builtin.divisionGoesByPylong
  have : j.natAbs.log2 < 64 := (Nat.log2_lt (by omega)).mpr (by omega)
  have e : (j == 0) = false := by simpa using (by omega : j ≠ 0)
  simp only [e]
  have q : ¬ (j.natAbs.log2 / 30 + 1 > 300) := by omega
  simp [q]

/-- 1 << 6000 -/
def big : Int := ((2 ^ 6000 : Nat) : Int)
theorem big_pos : 0 < big := by
  unfold big
  have : 0 < 2 ^ 6000 := Nat.two_pow_pos 6000
  omega
theorem pow_nat (n : Nat) : (1 : Int) * 2 ^ n = ((2 ^ n : Nat) : Int) := by
  rw [Int.one_mul]
  push_cast
  rfl
theorem sh_ok : CShl 1 ((6000 : Nat) : Int) := by decide +kernel
theorem sh_big (n : Nat) (h : CShl 1 (n : Int)) : dBin .LShift (.int 1) (.int (n : Int)) = .ok (.val (.int ((2 ^ n : Nat) : Int))) := by
  show need (CShl 1 (n : Int)) _ = _
  rw [need_true h, Int.toNat_natCast, pow_nat]
@[simp high] theorem sh_big2 : dBin .LShift (.int 1) (.int 6000) = .ok (.val (.int big)) := sh_big 6000 sh_ok
theorem fdiv_le {f m : Int} (h0 : 0 ≤ f) (hm : 0 < m) : f.fdiv m ≤ f := by
  rw [Int.fdiv_eq_ediv_of_nonneg _ (by omega)]
  exact Int.ediv_le_self _ h0
/-- the state of the draws, behind at most n of them -/
structure DS (n : Nat) (d : D) : Prop where
  ex : ∃ (cs : List Int) (p f s : Int), d = .lst [.lst (cs.map .int), .int p, .int f, .int s, .int 3] ∧ (∀ c ∈ cs, Builtin.Int.intBits c ≤ 1048576) ∧ cs.length ≤ 63 ∧ 0 ≤ p ∧ p ≤ n ∧ 0 ≤ f ∧ f < big ∧ 0 ≤ s ∧ s < 2 ^ 31
theorem DS.mono {n m : Nat} {d : D} (h : DS n d) (le : n ≤ m) : DS m d := by
  obtain ⟨cs, p, f, s, e, h1, h2, h3, h4, h5⟩ := h.ex
  exact ⟨cs, p, f, s, e, h1, h2, h3, by omega, h5⟩

theorem begin_ok {F : Fn} {M : Nat} {ns : List Int} (hl : ns.length ≤ 63) : runDef F M 2 bBegin [.val (.scr ns)] = .ok (.own (.lst [.lst (ns.map .int), .int 0, .int 0, .int 7, .int 3]), [.val (.scr ns)]) := by
  obtain ⟨o, ρ2, ⟨h1, h2⟩, e⟩ := comp_gen (F := F) (elt := .blt .int (.cons (.var 1) .nil)) (tg := .nm 1) (it := .seq (.var 0)) (ifs := .none) (own := [1]) (ρ := [some (.val (.scr ns)), none]) (l := ns.map .int) (p := .val (.scr ns)) (ρ1 := [some (.val (.scr ns)), none]) (by simp [items])
    (I := fun i out ρ => out = (ns.map D.int).take i ∧ ρ = [some (.val (.scr ns)), none])
      (fun i d out ρ e _ ⟨h1, h2⟩ => by
        obtain ⟨z, hz, rfl⟩ := List.mem_map.mp (List.mem_of_getElem? e)
        refine ⟨some (.int z), [some (.val (.scr ns)), some (.val (.int z))], ?_, ?_, ?_⟩
        · rw [h2]
          simp [turnR, dBl]
        · rw [h1, List.take_succ, e]
        · simp) ⟨rfl, by simp⟩
  rw [List.take_length] at h1
  subst h1 h2
  have hq : ns.length < 16777216 := by omega
  simp [bBegin, envOf, -r_ev_comp, e, sizeLine, hq]

theorem fdiv_lt {f m : Int} {k : Nat} (h0 : 0 ≤ f) (h : f < 2 ^ k) (hm : 0 < m) : f.fdiv m < 2 ^ k := by
  have h1 : f.fdiv m ≤ f := by
    rw [Int.fdiv_eq_ediv_of_nonneg _ (by omega)]
    exact Int.ediv_le_self _ h0
  omega
theorem exs_nx {F : Fn} {M : Nat} {t : Sx} {l : Sxs} {ρ ρ' : Env'} (h : ex F M t ρ = .ok (.nx, ρ')) : exs F M (.cons t l) ρ = exs F M l ρ' := by
  rw [r_exs_cons, h]
  rfl
theorem dS6_ok {F : Fn} {M : Nat} {A B C E G Q p f s sz m : Int} {x : D} {o3 o4 : Option S} (hB : B ≠ 0) (hQ : Q ≠ 0) (m2 : CMulX s A) (m3 : CMulX (sz.fmod B) C) (m4 : CMulX p E) :
    ex F M (dS6 A B C E G Q) [some (.own true (.lst [x, .int p, .int f, .int s, .int 3])), some (.val (.int m)), some (.val (.int sz)), o3, o4] =
    .ok (.nx, [some (.own true (.lst [x, .int p, .int f, .int ((s * A + sz.fmod B * C + p * E + G).fmod Q), .int 3])), some (.val (.int m)), some (.val (.int sz)), o3, o4]) := by
  simp [dS6, ixN, hB, hQ, m2, m3, m4]
theorem draw_ok {F : Fn} {M : Nat} {n : Nat} {d : D} {m : Int} (hd : DS n d) (hn : n < 2 ^ 60) (h0 : 0 < m) (h1 : m < 2 ^ 64) :
    ∃ r d', runDef F M 5 bDraw [.own d, .val (.int m)] = .ok (.val (.int r), [.own d', .val (.int m)]) ∧ 0 ≤ r ∧ r < m ∧ DS (n + 1) d' := by
  obtain ⟨cs, p, f, s, rfl, hb, hl, hp0, hpn, hf0, hf1, hs0, hs1⟩ := hd.ex
  have dv : ∀ i, CDvX i m := fun i => dv_ok h0 h1
  have hm : m ≠ 0 := by omega
  have fm : ∀ x : Int, 0 ≤ x.fmod m ∧ x.fmod m < m := fun x => ⟨Int.fmod_nonneg_of_pos _ h0, Int.fmod_lt_of_pos _ h0⟩
  by_cases hf : 0 < f
  · refine ⟨f.fmod m, .lst [.lst (cs.map .int), .int p, .int (f.fdiv m), .int s, .int 3], ?_, (fm f).1, (fm f).2, ⟨cs, p, f.fdiv m, s, rfl, hb, hl, hp0, by omega, Int.fdiv_nonneg hf0 (by omega), Int.lt_of_le_of_lt (fdiv_le hf0 h0) hf1, hs0, hs1⟩⟩
    simp [bDraw, envOf, ixN, hf, dv, hm]
  · have mx : ∀ (a b : Int), Builtin.Int.intBits a ≤ 2000000 → Builtin.Int.intBits b ≤ 2000000 → CMulX a b := fun a b h1 h2 => by
      unfold CMulX
      omega
    have b2 : Builtin.Int.intBits 2 ≤ 2000000 := by decide +kernel
    have pw : CPow 10 18 := by decide +kernel
    have m1 : CMulX 2 1000000000000000000 := by decide +kernel
    have m2 : CMulX s 48271 := mx _ _ (Nat.le_trans (bits_nn (k := 31) hs0 (by omega)) (by omega)) (by decide +kernel)
    have m3 : ∀ x : Int, CMulX (x.fmod 2147483629) 16807 := fun x => mx _ _ (Nat.le_trans (bits_nn (k := 31) (Int.fmod_nonneg_of_pos _ (by omega)) (Int.lt_trans (Int.fmod_lt_of_pos _ (by omega)) (by omega))) (by omega)) (by decide +kernel)
    have m4 : CMulX (p + 1) 69621 := mx _ _ (Nat.le_trans (bits_nn (k := 62) (by omega) (by omega)) (by omega)) (by decide +kernel)
    have dv2 : ∀ i, CDvX i 2 := fun i => dv_ok (by decide) (by decide)
    have dv16 : ∀ i, CDvX i 16 := fun i => dv_ok (by decide) (by decide)
    -- the cell's size
    obtain ⟨sz, hsz⟩ : ∃ sz : Int, sz = if p < cs.length then 2 * (if (cs.getD p.toNat 0) < 0 then -(cs.getD p.toNat 0) else cs.getD p.toNat 0) + (if decide ((cs.getD p.toNat 0) < 0) = true then 1 else 0) else 0 := ⟨_, rfl⟩
    have key : ex F M ((.ite (.cmp .Lt (.idx (.var 0) (.cst (.int 1))) (.blt .len (.cons (.idx (.var 0) (.cst (.int 0))) .nil))) (.cons
        (.set 4 (.idx (.idx (.var 0) (.cst (.int 0))) (.idx (.var 0) (.cst (.int 1))))) (.cons
        (.set 2 (.bin .Add (.bin .Mult (.cst (.int 2)) (.blt .abs (.cons (.var 4) .nil))) (.blt .int (.cons (.cmp .Lt (.var 4) (.cst (.int 0))) .nil)))) .nil)) .nil))
        [some (.own true (.lst [.lst (cs.map .int), .int p, .int f, .int s, .int 3])), some (.val (.int m)), some (.val (.int 0)), none, none] =
        .ok (.nx, [some (.own true (.lst [.lst (cs.map .int), .int p, .int f, .int s, .int 3])), some (.val (.int m)), some (.val (.int sz)), none, if p < cs.length then some (.val (.int (cs.getD p.toNat 0))) else none]) := by
      by_cases hp : p < cs.length
      · have hp2 : p.toNat < cs.length := by omega
        have ha : atI (cs.map D.int) p = some (.int (cs.getD p.toNat 0)) := by
          unfold atI ixN
          rw [if_pos hp0, if_pos (by simpa using hp)]
          simp [List.getElem?_eq_getElem hp2]
        have mc : CMulX 2 (if (cs.getD p.toNat 0) < 0 then -(cs.getD p.toNat 0) else cs.getD p.toNat 0) := mx _ _ b2 (by
          have h := hb _ (List.getElem_mem hp2)
          have e : cs.getD p.toNat 0 = cs[p.toNat] := by simp [List.getElem?_eq_getElem hp2]
          rw [e]
          split
          · rw [bits_neg]; omega
          · omega)
        rw [if_pos hp] at hsz ⊢
        subst hsz
        generalize cs.getD p.toNat 0 = c at *
        simp [ha, hp, mc]
      · rw [if_neg hp] at hsz ⊢
        subst hsz
        simp [hp]
    have e3 : exs F M bDraw (envOf 5 [.own (.lst [.lst (cs.map .int), .int p, .int f, .int s, .int 3]), .val (.int m)]) = exs F M bDraw2 [some (.own true (.lst [.lst (cs.map .int), .int p, .int f, .int s, .int 3])), some (.val (.int m)), some (.val (.int sz)), none, if p < cs.length then some (.val (.int (cs.getD p.toNat 0))) else none] := by
      rw [show bDraw = .cons dS1 (.cons (.set 2 (.cst (.int 0))) (.cons dS3 bDraw2)) from rfl]
      have h1 : ex F M dS1 [some (.own true (.lst [.lst (cs.map .int), .int p, .int f, .int s, .int 3])), some (.val (.int m)), none, none, none] = .ok (.nx, [some (.own true (.lst [.lst (cs.map .int), .int p, .int f, .int s, .int 3])), some (.val (.int m)), none, none, none]) := by
        simp [dS1, hf]
      have h2 : ex F M (.set 2 (.cst (.int 0))) [some (.own true (.lst [.lst (cs.map .int), .int p, .int f, .int s, .int 3])), some (.val (.int m)), none, none, none] = .ok (.nx, [some (.own true (.lst [.lst (cs.map .int), .int p, .int f, .int s, .int 3])), some (.val (.int m)), some (.val (.int 0)), none, none]) := by
        simp
      rw [r_exs_cons, show envOf 5 [A.own (.lst [.lst (cs.map .int), .int p, .int f, .int s, .int 3]), .val (.int m)] = [some (.own true (.lst [.lst (cs.map .int), .int p, .int f, .int s, .int 3])), some (.val (.int m)), none, none, none] from rfl, h1]
      show exs F M _ _ = _
      rw [r_exs_cons, h2]
      show exs F M _ _ = _
      rw [r_exs_cons]
      rw [show ex F M dS3 _ = _ from key]
      rfl
    rw [runDef_d, e3]
    clear e3 key hsz
    generalize (if p < cs.length then some (S.val (.int (cs.getD p.toNat 0))) else none) = o4
    by_cases hz : 2000000000000000000 ≤ sz
    · refine ⟨((sz.fdiv 2).fmod big).fmod m, .lst [.lst (cs.map .int), .int (p + 1), .int (((sz.fdiv 2).fmod big).fdiv m), .int s, .int 3], ?_, (fm _).1, (fm _).2,
        ⟨cs, p + 1, ((sz.fdiv 2).fmod big).fdiv m, s, rfl, hb, hl, by omega, by omega, Int.fdiv_nonneg (Int.fmod_nonneg_of_pos _ big_pos) (by omega), Int.lt_of_le_of_lt (fdiv_le (Int.fmod_nonneg_of_pos _ big_pos) h0) (Int.fmod_lt_of_pos _ big_pos), hs0, hs1⟩⟩
      have n0 : big ≠ 0 := by have := big_pos; omega
      simp [bDraw2, ixN, hz, dv, hm, pw, m1, dv2, n0]
    · have g := fun x : Int => Int.fmod_nonneg_of_pos x (b := 2147483647) (by decide)
      have g2 := fun x : Int => Int.fmod_lt_of_pos x (b := 2147483647) (by decide)
      have c4 : ex F M dS4 [some (.own true (.lst [.lst (cs.map .int), .int p, .int f, .int s, .int 3])), some (.val (.int m)), some (.val (.int sz)), none, o4] = .ok (.nx, [some (.own true (.lst [.lst (cs.map .int), .int (p + 1), .int f, .int s, .int 3])), some (.val (.int m)), some (.val (.int sz)), none, o4]) := by
        simp [dS4, ixN]
      have c5 : ex F M dS5 [some (.own true (.lst [.lst (cs.map .int), .int (p + 1), .int f, .int s, .int 3])), some (.val (.int m)), some (.val (.int sz)), none, o4] = .ok (.nx, [some (.own true (.lst [.lst (cs.map .int), .int (p + 1), .int f, .int s, .int 3])), some (.val (.int m)), some (.val (.int sz)), none, o4]) := by
        simp [dS5, hz, pw, m1]
      have c6 := dS6_ok (F := F) (M := M) (m := m) (x := .lst (cs.map .int)) (f := f) (o3 := none) (o4 := o4) (G := 11) (Q := 2147483647) (by decide) (by decide) m2 (m3 sz) m4
      have g3 := g (s * 48271 + sz.fmod 2147483629 * 16807 + (p + 1) * 69621 + 11)
      have g4 := g2 (s * 48271 + sz.fmod 2147483629 * 16807 + (p + 1) * 69621 + 11)
      generalize (s * 48271 + sz.fmod 2147483629 * 16807 + (p + 1) * 69621 + 11).fmod 2147483647 = s' at c6 g3 g4
      refine ⟨(s'.fdiv 16).fmod m, .lst [.lst (cs.map .int), .int (p + 1), .int f, .int s', .int 3], ?_, (fm _).1, (fm _).2,
        ⟨cs, p + 1, f, s', rfl, hb, hl, by omega, by omega, hf0, hf1, g3, by omega⟩⟩
      have c7 : (exs F M bDraw3 [some (.own true (.lst [.lst (cs.map .int), .int (p + 1), .int f, .int s', .int 3])), some (.val (.int m)), some (.val (.int sz)), none, o4]).bind (finish [.own (.lst [.lst (cs.map .int), .int p, .int f, .int s, .int 3]), .val (.int m)]) =
          .ok (.val (.int ((s'.fdiv 16).fmod m)), [.own (.lst [.lst (cs.map .int), .int (p + 1), .int f, .int s', .int 3]), .val (.int m)]) := by
        simp [bDraw3, ixN, dv, hm, dv16]
      have c8 : exs F M bDraw2 [some (.own true (.lst [.lst (cs.map .int), .int p, .int f, .int s, .int 3])), some (.val (.int m)), some (.val (.int sz)), none, o4] = exs F M bDraw3 [some (.own true (.lst [.lst (cs.map .int), .int (p + 1), .int f, .int s', .int 3])), some (.val (.int m)), some (.val (.int sz)), none, o4] :=
        (exs_nx c4).trans ((exs_nx c5).trans (exs_nx c6))
      rw [c8]
      exact c7
end Dv

set_option Elab.async false
set_option linter.all false
set_option maxRecDepth 100000
set_option maxHeartbeats 1000000
namespace Dv
open PySem PySem.Spec PyProof.Rows L2

/-! ### texts as lists of characters -/
def st (l : List Nat) : Str := ⟨l.toArray⟩
theorem st_of (x : Str) : x = st x.cps.toList := by
  unfold st
  rw [Array.toArray_toList]
@[simp] theorem st_cps {l : List Nat} : (st l).cps.toList = l := rfl
@[simp] theorem st_len {l : List Nat} : (st l).length = l.length := rfl
theorem chr1_st {c : Nat} : chr1 c = st [c] := rfl
@[simp] theorem st_app {a b : List Nat} : st a ++ st b = st (a ++ b) := by
  show Str.append (st a) (st b) = _
  unfold Str.append st
  simp
theorem st_inj {a b : List Nat} : st a = st b ↔ a = b := ⟨fun h => by
  have := congrArg (fun x : Str => x.cps.toList) h
  simpa using this, fun h => by rw [h]⟩
theorem shp_st {l : List Nat} (h : ∀ c ∈ l, c < 128) : shp (.str (st l)) = true := by
  have e : PyData.strOk (st l) = true := by
    show l.toArray.all (fun x => decide (x < 1114112)) = true
    rw [List.all_toArray, List.all_eq_true]
    exact fun c hc => decide_eq_true (by have := h c hc; omega)
  show (PyData.strOk (st l) && decide (PyData.depth (.str (st l)) ≤ 64)) = true
  rw [e]
  rfl
@[simp] theorem deq_str {x y : Str} : deq (.str x) (.str y) = decide (x = y) := by
  show PyData.eqv (.str x) (.str y) = _
  unfold PyData.eqv
  by_cases h : x = y
  · simp [h]
  · simp [h]
@[simp] theorem shp_int {x : Int} : shp (.int x) = true := rfl
@[simp] theorem deq_int {x y : Int} : deq (.int x) (.int y) = decide (x = y) := by
  show PyData.eqv (.int x) (.int y) = _
  unfold PyData.eqv
  by_cases h : x = y
  · simp [h]
  · simp [h]
theorem items_st {l : List Nat} : items (.str (st l)) = .ok (l.map fun c => .str (st [c])) := rfl
theorem empty_st : (Str.empty) = st [] := rfl
theorem join_st : ∀ (ls : List (List Nat)), Txt.join (st []) (ls.map st) = st ls.flatten := by
  intro ls
  rw [show Txt.join (st []) (ls.map st) = Builtin.Str.glued (st []) (ls.map st) from rfl, PySem.StrLaws.glued_eq_join]
  induction ls with
  | nil => rfl
  | cons a r ih =>
    cases r with
    | nil => simp [Str.join]
    | cons b r =>
      show st a ++ st [] ++ Str.join (st []) ((b :: r).map st) = _
      rw [ih]
      simp
theorem strs_st : ∀ (ls : List (List Nat)), strsD (ls.map fun l => D.str (st l)) = some (ls.map st)
  | [] => rfl
  | a :: r => by
    show (strsD (r.map fun l => D.str (st l))).map _ = _
    rw [strs_st r]
    rfl
theorem atI_nat {α : Type} {l : List α} {i : Int} (h0 : 0 ≤ i) (h : i < l.length) : atI l i = l[i.toNat]? := by
  unfold atI ixN
  rw [if_pos h0, if_pos h]
  rfl
theorem cut_st {l : List Nat} {a b : Nat} (h : a ≤ b) (hb : b ≤ l.length) : cutS (st l) (some (a : Int)) (some (b : Int)) = st ((l.drop a).take (b - a)) := by
  unfold cutS
  rw [HT.sIx_nat, HT.sIx_nat, st_len, Nat.min_eq_left hb, Nat.min_eq_left (Nat.le_trans h hb)]
  rfl
theorem mul_st {l : List Nat} {n : Nat} (h : 0 < n) : Txt.mul (st l) (n : Int) = st (List.replicate n l).flatten := by
  unfold Txt.mul
  rw [if_neg (by omega)]
  by_cases h1 : ((n : Int) == 1 || (st l).length == 0) = true
  · rw [if_pos h1]
    rw [Bool.or_eq_true] at h1
    rcases h1 with h1 | h1
    · have : n = 1 := by have := beq_iff_eq.mp h1; omega
      subst this
      simp
    · have : l = [] := by
        have := beq_iff_eq.mp h1
        rw [st_len] at this
        exact List.length_eq_zero_iff.mp this
      subst this
      simp
  · rw [if_neg h1]
    have g : ∀ (k : Nat) (acc : Array Nat), (List.replicate k (st l).cps).foldl (· ++ ·) acc = acc ++ ((List.replicate k l).flatten).toArray := by
      intro k
      induction k with
      | zero => intro acc; simp
      | succ k ih =>
        intro acc
        rw [List.replicate_succ, List.foldl_cons, ih, List.replicate_succ, List.flatten_cons]
        show acc ++ l.toArray ++ _ = _
        simp
    have e := g n #[]
    rw [Int.toNat_natCast, e]
    unfold st
    simp
theorem mulOk_st {l : List Nat} {n : Nat} (h : n ≤ 1000) (hl : l.length ≤ 1000) : MulOk (st l) (n : Int) := by
  refine ⟨?_, fun h1 _ => ?_, fun _ _ => ?_⟩
  · simp; omega
  · rw [st_len]
    have : (9223372036854775807 : Int) / n ≥ 1000000000 := by
      apply Int.le_ediv_of_mul_le (by omega)
      omega
    have e : (2 : Int) ^ 63 - 1 = 9223372036854775807 := by decide
    rw [e]
    omega
  · unfold Builtin.Str.tooLong
    rw [st_len, Int.toNat_natCast]
    have : l.length * n ≤ 1000 * 1000 := Nat.mul_le_mul hl h
    simp [sizeLine]
    omega
end Dv
namespace Dv
open PySem PySem.Spec PyProof.Rows L2
theorem nil_st : (Str.ofString "") = st [] := by decide +kernel
theorem join_ok {ls : List (List Nat)} (h : ls.flatten.length ≤ 16777216) : dMe .join (.str (Str.ofString "")) [.lst (ls.map fun l => .str (st l))] = .ok (.val (.str (st ls.flatten))) := by
  rw [nil_st]
  show (Rs.of (strsD (ls.map fun l => .str (st l)))).bind _ = _
  rw [strs_st]
  show need _ _ = _
  have e : ((ls.map st).map (·.length)).sum = ls.flatten.length := by
    rw [List.map_map, List.length_flatten]
    rfl
  rw [need_true (by rw [e, st_len]; simpa using h), join_st]
end Dv
namespace Dv
open PySem PySem.Spec PyProof.Rows L2
/-- a for loop that ends by itself -/
theorem for_ok {F : Fn} {N : Nat} {tg : Tg} {it : Ie} {b : Sxs} {ρ ρ1 ρ' : Env'} {l : List D} {p : P} (hi : evi F it ρ = .ok ((l, p), ρ1)) (h : forR (fun d ρ1 => (asgT tg d ρ1).bind (exs F N b)) l (lockP p ρ1).2 = .ok (.nx, ρ')) :
    ex F N (.for_ tg it b) ρ = (unlock (lockP p ρ1).1 ρ').bind fun ρ => .ok (.nx, ρ) := by
  rw [r_ex_for_, hi]
  show (forR _ _ _).bind _ = _
  rw [h]
  rfl
end Dv

set_option Elab.async false
set_option linter.all false
set_option maxRecDepth 100000
set_option maxHeartbeats 1000000
namespace Dv
open PySem PySem.Spec PyProof.Rows L2

/-! ### plain data -/
def nice : Nat → D → Prop
  | 0, d => match d with | .non => True | .int _ => True | .str x => PyData.strOk x = true | _ => False
  | k + 1, d => match d with | .non => True | .int _ => True | .str x => PyData.strOk x = true | .tup l => ∀ e ∈ l, nice k e | .lst l => ∀ e ∈ l, nice k e | _ => False
@[simp] theorem nice_int {k : Nat} {i : Int} : nice k (.int i) := by cases k <;> trivial
@[simp] theorem nice_non {k : Nat} : nice k .non := by cases k <;> trivial
theorem nice_str {k : Nat} {x : Str} (h : PyData.strOk x = true) : nice k (.str x) := by cases k <;> exact h
@[simp] theorem nice_tup {k : Nat} {l : List D} : nice (k + 1) (.tup l) ↔ ∀ e ∈ l, nice k e := Iff.rfl
@[simp] theorem nice_lst {k : Nat} {l : List D} : nice (k + 1) (.lst l) ↔ ∀ e ∈ l, nice k e := Iff.rfl
theorem nice_up : ∀ {k : Nat} {d : D}, nice k d → nice (k + 1) d
  | 0, d, h => by
    cases d <;> first | trivial | exact h | exact h.elim
  | k + 1, d, h => by
    cases d <;> first | trivial | exact h | exact h.elim | (intro e he; exact nice_up (h e he))
theorem canLayAll_map {l : List PyData} (h : ∀ d ∈ l, d.canLay0 = true) : PyData.canLayAll0 l = true := by
  induction l with
  | nil => rfl
  | cons a t ih =>
    rw [PyData.canLayAll0, h a List.mem_cons_self, ih fun d hd => h d (List.mem_cons_of_mem _ hd)]
    rfl
theorem depthAll_map {l : List PyData} {k : Nat} (h : ∀ d ∈ l, d.depth ≤ k) : PyData.depthAll l ≤ k := by
  induction l with
  | nil => exact Nat.zero_le _
  | cons a t ih =>
    rw [PyData.depthAll]
    exact Nat.max_le.mpr ⟨h a List.mem_cons_self, ih fun d hd => h d (List.mem_cons_of_mem _ hd)⟩
theorem nice_lay : ∀ {k : Nat} {d : D}, nice k d → (toPy d).canLay0 = true ∧ (toPy d).depth ≤ k
  | 0, d, h => by
    cases d with
    | non => exact ⟨rfl, Nat.le_refl 0⟩
    | int i => exact ⟨rfl, Nat.le_refl 0⟩
    | str x => exact ⟨h, Nat.le_refl 0⟩
    | _ => exact h.elim
  | k + 1, d, h => by
    have key : ∀ l : List D, (∀ e ∈ l, nice k e) → PyData.canLayAll0 (toPys l) = true ∧ PyData.depthAll (toPys l) ≤ k := fun l hl => by
      rw [toPys_map]
      refine ⟨canLayAll_map fun d hd => ?_, depthAll_map fun d hd => ?_⟩
      all_goals
        obtain ⟨e, he, rfl⟩ := List.mem_map.mp hd
      · exact (nice_lay (hl e he)).1
      · exact (nice_lay (hl e he)).2
    cases d with
    | non => exact ⟨rfl, Nat.zero_le _⟩
    | int i => exact ⟨rfl, Nat.zero_le _⟩
    | str x => exact ⟨h, Nat.zero_le _⟩
    | tup l => exact ⟨(key l h).1, Nat.succ_le_succ (key l h).2⟩
    | lst l => exact ⟨(key l h).1, Nat.succ_le_succ (key l h).2⟩
    | _ => exact h.elim
theorem nice_shp {k : Nat} {d : D} (h : nice k d) (hk : k ≤ 64) : shp d = true := by
  obtain ⟨h1, h2⟩ := nice_lay h
  show SeqAt.shaped (toPy d) = true
  unfold SeqAt.shaped
  rw [h1, Bool.true_and]
  exact decide_eq_true (Nat.le_trans h2 hk)
theorem nice_eq : ∀ {k : Nat} {d e : D}, nice k d → nice k e → (PyData.eqv (toPy d) (toPy e) = true ↔ d = e) := by
  have key : ∀ {k : Nat}, (∀ {d e : D}, nice k d → nice k e → (PyData.eqv (toPy d) (toPy e) = true ↔ d = e)) → ∀ l m : List D, (∀ e ∈ l, nice k e) → (∀ e ∈ m, nice k e) → (PyData.eqvAll (toPys l) (toPys m) = true ↔ l = m) := by
    intro k ih l
    induction l with
    | nil =>
      intro m _ _
      cases m with
      | nil => simp [toPys, PyData.eqvAll]
      | cons b m => simp [toPys, PyData.eqvAll]
    | cons a l il =>
      intro m hl hm
      cases m with
      | nil => simp [toPys, PyData.eqvAll]
      | cons b m =>
        rw [toPys, toPys, PyData.eqvAll, Bool.and_eq_true, ih (hl a List.mem_cons_self) (hm b List.mem_cons_self), il m (fun d hd => hl d (List.mem_cons_of_mem _ hd)) (fun d hd => hm d (List.mem_cons_of_mem _ hd)), List.cons.injEq]
  intro k
  induction k with
  | zero =>
    intro d e hd he
    cases d <;> first | exact hd.elim | (cases e <;> first | exact he.elim | simp [toPy, PyData.eqv])
  | succ k ih =>
    intro d e hd he
    cases d <;> first | exact hd.elim | (cases e <;> first | exact he.elim | (rename_i l m; rw [toPy, toPy, PyData.eqv, key ih l m hd he]; simp) | simp [toPy, PyData.eqv])
noncomputable instance : DecidableEq D := fun _ _ => Classical.propDecidable _
theorem deq_nice {k : Nat} {d e : D} (h1 : nice k d) (h2 : nice k e) : deq d e = decide (d = e) := by
  by_cases h : d = e
  · rw [decide_eq_true h]
    exact (nice_eq h1 h2).mpr h
  · rw [decide_eq_false h]
    cases hb : deq d e with
    | false => rfl
    | true => exact absurd ((nice_eq h1 h2).mp hb) h
theorem eq_nice {k : Nat} {d e : D} (h1 : nice k d) (h2 : nice k e) (hk : k ≤ 64) : dCmp .Eq d e = .ok (decide (d = e)) := by
  rw [c36_dCmp, need_true ⟨nice_shp h1 hk, nice_shp h2 hk⟩, deq_nice h1 h2]
theorem ne_nice {k : Nat} {d e : D} (h1 : nice k d) (h2 : nice k e) (hk : k ≤ 64) : dCmp .NotEq d e = .ok (!decide (d = e)) := by
  rw [c37_dCmp, need_true ⟨nice_shp h1 hk, nice_shp h2 hk⟩, deq_nice h1 h2]

/-! ### amounts -/
def oB : Nat := 2 ^ 4000
def oC : Nat := 2 ^ 8002
theorem lt_oB {n : Nat} (h : n < 2 ^ 2000) : n < oB := Nat.lt_of_lt_of_le h (Nat.pow_le_pow_right (by decide) (by decide))
theorem oB_oC : oB * oB + oB * oB < oC := by
  have e : oB * oB = 2 ^ 8000 := by unfold oB; rw [← Nat.pow_add]
  have e2 : oC = 2 ^ 8000 * 2 ^ 2 := by unfold oC; rw [← Nat.pow_add]
  have h : 0 < 2 ^ 8000 := Nat.two_pow_pos _
  rw [e, e2]
  generalize 2 ^ 8000 = x at *
  omega
theorem oB_pos : 0 < oB := Nat.two_pow_pos _
/-- an amount -/
def am (q : Rat) : D := .tup [.int q.num, .int (q.den : Nat)]
theorem am_inj {p q : Rat} : am p = am q ↔ p = q := by
  refine ⟨fun h => ?_, fun h => by rw [h]⟩
  unfold am at h
  injection h with h
  injection h with h1 h2
  injection h2 with h2 _
  injection h1 with h1
  injection h2 with h2
  exact Rat.ext h1 (by omega)
@[simp] theorem am_eq {p q : Rat} : (am p = am q) = (p = q) := propext am_inj
@[simp] theorem am0 : D.tup [.int 0, .int 1] = am 0 := rfl
@[simp] theorem am1 : D.tup [.int 1, .int 1] = am 1 := rfl
theorem am_int (i : Int) : D.tup [.int i, .int 1] = am (i : Rat) := rfl
@[simp] theorem am_i0 {q : Rat} : dIdx (am q) (.int 0) = .ok (.int q.num) := rfl
@[simp] theorem am_i1 {q : Rat} : dIdx (am q) (.int 1) = .ok (.int (q.den : Nat)) := by
  unfold am
  simp
@[simp] theorem nice_am {k : Nat} {q : Rat} : nice (k + 1) (am q) := by
  intro e he
  simp at he
  rcases he with rfl | rfl <;> exact nice_int
@[simp] theorem am_not_non {q : Rat} : ¬ (am q = .non) := by intro h; unfold am at h; cases h
/-- an amount of which the program may do sums -/
def Ok (q : Rat) : Prop := q.num.natAbs < oB ∧ q.den < oB
theorem mulX_B {i j : Int} (h1 : i.natAbs < oB) (h2 : j.natAbs < oB) : CMulX i j := by
  have a := bits_lt (k := 4000) h1
  have b := bits_lt (k := 4000) h2
  unfold CMulX
  omega
theorem mul_B {i j : Int} (h1 : i.natAbs < oB) (h2 : j.natAbs < oB) : (i * j).natAbs ≤ oB * oB := by
  rw [Int.natAbs_mul]
  exact Nat.mul_le_mul (Nat.le_of_lt h1) (Nat.le_of_lt h2)
theorem dvX {i j : Int} (h0 : j ≠ 0) (h : j.natAbs < oC) : CDvX i j := by
  refine ⟨h0, PyProof.noPylong_of_log2 ?_⟩
  have : j.natAbs.log2 < 8002 := (Nat.log2_lt (by omega)).mpr h
  omega
theorem red_pos {n d : Int} (hd : 0 < d) : n.fdiv ((Nat.gcd n.natAbs d.natAbs : Nat) : Int) = (Rat.divInt n d).num ∧ d.fdiv ((Nat.gcd n.natAbs d.natAbs : Nat) : Int) = ((Rat.divInt n d).den : Int) := by
  rw [Rat.num_divInt, Rat.den_divInt, if_neg (by omega), Int.sign_eq_one_of_pos hd, Int.one_mul]
  have e : Int.gcd d n = Nat.gcd n.natAbs d.natAbs := Nat.gcd_comm _ _
  rw [e]
  refine ⟨Int.fdiv_eq_ediv_of_nonneg _ (by omega), ?_⟩
  rw [Int.fdiv_eq_ediv_of_nonneg _ (by omega), Int.natCast_ediv]
  congr 1
  omega
theorem red_neg {n d : Int} (hd : d < 0) : n.fdiv (-((Nat.gcd n.natAbs d.natAbs : Nat) : Int)) = (Rat.divInt n d).num ∧ d.fdiv (-((Nat.gcd n.natAbs d.natAbs : Nat) : Int)) = ((Rat.divInt n d).den : Int) := by
  have h := red_pos (n := -n) (d := -d) (by omega)
  rw [Int.natAbs_neg, Int.natAbs_neg, Rat.neg_divInt_neg] at h
  rw [← h.1, ← h.2]
  refine ⟨?_, ?_⟩
  · rw [← Int.neg_fdiv_neg, Int.neg_neg]
  · rw [← Int.neg_fdiv_neg, Int.neg_neg]
theorem gcd_lt {n d : Int} (h0 : d ≠ 0) (h : d.natAbs < oC) : ((Nat.gcd n.natAbs d.natAbs : Nat) : Int).natAbs < oC ∧ 0 < Nat.gcd n.natAbs d.natAbs := by
  have h1 : Nat.gcd n.natAbs d.natAbs ≤ d.natAbs := Nat.gcd_le_right _ (by omega)
  refine ⟨by omega, Nat.gcd_pos_of_pos_right _ (by omega)⟩

/-! the law's own -/
def bGcdB : Sxs := (.cons 
    (.par 2 3 (.var 3) (.bin .Mod (.blt .int (.cons (.var 2) .nil)) (.var 3))) .nil)
def bGcdS : Sx := (.whl (.cmp .Gt (.var 3) (.cst (.int 0))) bGcdB)
def bGcd : Sxs := (.cons 
    (.set 2 (.blt .abs (.cons (.var 0) .nil))) (.cons 
    (.set 3 (.blt .abs (.cons (.var 1) .nil))) (.cons 
    bGcdS (.cons 
    (.ret (.var 2)) .nil))))
def bAmount : Sxs := (.cons 
    (.set 2 (.call "_law_gcd" (.cons (.var 0) (.cons (.var 1) .nil)))) (.cons 
    (.ite (.cmp .Lt (.var 1) (.cst (.int 0))) (.cons 
    (.set 2 (.neg (.var 2))) .nil) .nil) (.cons 
    (.ret (.tup (.cons (.bin .FloorDiv (.var 0) (.var 2)) (.cons (.bin .FloorDiv (.var 1) (.var 2)) .nil)))) .nil)))
def bLPlus : Sxs := (.cons 
    (.ret (.call "_law_amount" (.cons (.bin .Add (.bin .Mult (.idx (.var 0) (.cst (.int 0))) (.idx (.var 1) (.cst (.int 1)))) (.bin .Mult (.idx (.var 1) (.cst (.int 0))) (.idx (.var 0) (.cst (.int 1))))) (.cons (.bin .Mult (.idx (.var 0) (.cst (.int 1))) (.idx (.var 1) (.cst (.int 1)))) .nil)))) .nil)
def bLMinus : Sxs := (.cons 
    (.ret (.call "_law_amount" (.cons (.bin .Sub (.bin .Mult (.idx (.var 0) (.cst (.int 0))) (.idx (.var 1) (.cst (.int 1)))) (.bin .Mult (.idx (.var 1) (.cst (.int 0))) (.idx (.var 0) (.cst (.int 1))))) (.cons (.bin .Mult (.idx (.var 0) (.cst (.int 1))) (.idx (.var 1) (.cst (.int 1)))) .nil)))) .nil)
def bLTimes : Sxs := (.cons 
    (.ret (.call "_law_amount" (.cons (.bin .Mult (.idx (.var 0) (.cst (.int 0))) (.idx (.var 1) (.cst (.int 0)))) (.cons (.bin .Mult (.idx (.var 0) (.cst (.int 1))) (.idx (.var 1) (.cst (.int 1)))) .nil)))) .nil)
/-- also the program's is_less -/
def bLess : Sxs := (.cons 
    (.ret (.cmp .Lt (.bin .Mult (.idx (.var 0) (.cst (.int 0))) (.idx (.var 1) (.cst (.int 1)))) (.bin .Mult (.idx (.var 1) (.cst (.int 0))) (.idx (.var 0) (.cst (.int 1)))))) .nil)
theorem gcd_loop {F : Fn} {M : Nat} {a b : Option S} : ∀ (N x y : Nat), y < N → whileR (evT F (.cmp .Gt (.var 3) (.cst (.int 0)))) (exs F M bGcdB) N [a, b, some (.val (.int (x : Nat))), some (.val (.int (y : Nat)))] =
    .ok (.nx, [a, b, some (.val (.int ((Nat.gcd x y : Nat) : Int))), some (.val (.int 0))])
  | 0, _, _, h => by omega
  | N + 1, x, y, h => by
    show (evT F _ _).bind _ = _
    by_cases hy : y = 0
    · subst hy
      simp
    · have hp : 0 < y := by omega
      have eb : exs F M bGcdB [a, b, some (.val (.int (x : Nat))), some (.val (.int (y : Nat)))] = .ok (.nx, [a, b, some (.val (.int (y : Nat))), some (.val (.int ((x % y : Nat) : Int)))]) := by
        have e : (x : Int).fmod (y : Int) = ((x % y : Nat) : Int) := by
          rw [Int.fmod_eq_emod_of_nonneg _ (by omega)]
          rfl
        rw [← e]
        simp [bGcdB, hy]
      have ih := gcd_loop (F := F) (M := M) (a := a) (b := b) N y (x % y) (by have := Nat.mod_lt x (Nat.pos_of_ne_zero hy); omega)
      have g : Nat.gcd y (x % y) = Nat.gcd x y := by rw [Nat.gcd_comm, ← Nat.gcd_rec, Nat.gcd_comm]
      rw [g] at ih
      simp only [r_evT_cmp, r_ev_var, evVar_d, List.getElem?_cons_succ, List.getElem?_cons_zero, c1_gVar, r_bind_ok, r_ev_cst, pk_val, c40_dCmp, decide_eq_true (show (0 : Int) < (y : Int) by omega), eb, ih]
theorem gcd_run {F : Fn} {M : Nat} {a b : Int} (h : b.natAbs < M) : runDef F M 4 bGcd [.val (.int a), .val (.int b)] = .ok (.val (.int ((Nat.gcd a.natAbs b.natAbs : Nat) : Int)), [.val (.int a), .val (.int b)]) := by
  have ab : ∀ x : Int, (if x < 0 then -x else x) = (x.natAbs : Int) := fun x => by split <;> omega
  have e := gcd_loop (F := F) (M := M) (a := some (.val (.int a))) (b := some (.val (.int b))) M a.natAbs b.natAbs h
  simp [bGcd, Dv.envOf, ab, bGcdS, e]
def AmountS (c : List A → Rs (Re × List A)) : Prop := ∀ n d : Int, d ≠ 0 → d.natAbs < oC → c [.val (.int n), .val (.int d)] = .ok (.val (am (Rat.divInt n d)), [.val (.int n), .val (.int d)])
theorem amount_run {F : Fn} {M : Nat} (hg : ∀ n d : Int, d.natAbs < oC → F.call "_law_gcd" [.val (.int n), .val (.int d)] = .ok (.val (.int ((Nat.gcd n.natAbs d.natAbs : Nat) : Int)), [.val (.int n), .val (.int d)])) (hdfl : ∀ n, F.dfl "_law_gcd" n = []) : AmountS (runDef F M 3 bAmount) := fun n d h0 h => by
  obtain ⟨g1, g2⟩ := gcd_lt (n := n) h0 h
  have hg := hg n d h
  have k2 : 2 ≤ sizeLine := by decide
  unfold am
  by_cases hd : d < 0
  · obtain ⟨r1, r2⟩ := red_neg (n := n) hd
    generalize Nat.gcd n.natAbs d.natAbs = g at *
    have dv : ∀ i, CDvX i (-(g : Int)) := fun i => dvX (by omega) (by omega)
    simp [bAmount, Dv.envOf, hdfl, hg, hd, dv, r1, r2, k2]
  · obtain ⟨r1, r2⟩ := red_pos (n := n) (d := d) (by omega)
    generalize Nat.gcd n.natAbs d.natAbs = g at *
    have dv : ∀ i, CDvX i (g : Int) := fun i => dvX (by omega) (by omega)
    simp [bAmount, Dv.envOf, hdfl, hg, hd, dv, r1, r2, k2]
def BinS (f : Rat → Rat → Rat) (c : List A → Rs (Re × List A)) : Prop := ∀ a b : Rat, Ok a → Ok b → c [.val (am a), .val (am b)] = .ok (.val (am (f a b)), [.val (am a), .val (am b)])
theorem den_lt {a b : Rat} (ha : Ok a) (hb : Ok b) : ((a.den : Int) * (b.den : Int)).natAbs < oC ∧ (a.den : Int) * (b.den : Int) ≠ 0 ∧ CMulX a.num b.den ∧ CMulX b.num a.den ∧ CMulX a.den b.den ∧ CMulX a.num b.num := by
  have h1 : (a.den : Int).natAbs < oB := ha.2
  have h2 : (b.den : Int).natAbs < oB := hb.2
  have h3 := mul_B h1 h2
  have h4 := oB_oC
  have p1 := a.den_pos
  have p2 := b.den_pos
  exact ⟨by omega, Int.ne_of_gt (Int.mul_pos (by omega) (by omega)), mulX_B ha.1 h2, mulX_B hb.1 h1, mulX_B h1 h2, mulX_B ha.1 hb.1⟩
theorem add_divInt (a b : Rat) : a + b = Rat.divInt (a.num * b.den + b.num * a.den) ((a.den : Int) * b.den) := by
  rw [Rat.add_def', ← Int.natCast_mul, Rat.divInt_ofNat]
theorem sub_divInt (a b : Rat) : a - b = Rat.divInt (a.num * b.den - b.num * a.den) ((a.den : Int) * b.den) := by
  rw [Rat.sub_def', ← Int.natCast_mul, Rat.divInt_ofNat]
theorem mul_divInt (a b : Rat) : a * b = Rat.divInt (a.num * b.num) ((a.den : Int) * b.den) := by
  rw [Rat.mul_def', ← Int.natCast_mul, Rat.divInt_ofNat]
section
variable {F : Fn} {M : Nat}
theorem lplus_run (hA : AmountS (F.call "_law_amount")) (hdfl : ∀ n, F.dfl "_law_amount" n = []) : BinS (· + ·) (runDef F M 2 bLPlus) := fun a b ha hb => by
  obtain ⟨h1, h2, m1, m2, m3, m4⟩ := den_lt ha hb
  have e := hA (a.num * b.den + b.num * a.den) (a.den * b.den) h2 h1
  rw [← add_divInt] at e
  simp [bLPlus, Dv.envOf, hdfl, m1, m2, m3, e]
theorem lminus_run (hA : AmountS (F.call "_law_amount")) (hdfl : ∀ n, F.dfl "_law_amount" n = []) : BinS (· - ·) (runDef F M 2 bLMinus) := fun a b ha hb => by
  obtain ⟨h1, h2, m1, m2, m3, m4⟩ := den_lt ha hb
  have e := hA (a.num * b.den - b.num * a.den) (a.den * b.den) h2 h1
  rw [← sub_divInt] at e
  simp [bLMinus, Dv.envOf, hdfl, m1, m2, m3, e]
theorem ltimes_run (hA : AmountS (F.call "_law_amount")) (hdfl : ∀ n, F.dfl "_law_amount" n = []) : BinS (· * ·) (runDef F M 2 bLTimes) := fun a b ha hb => by
  obtain ⟨h1, h2, m1, m2, m3, m4⟩ := den_lt ha hb
  have e := hA (a.num * b.num) (a.den * b.den) h2 h1
  rw [← mul_divInt] at e
  simp [bLTimes, Dv.envOf, hdfl, m3, m4, e]
def LessS (c : List A → Rs (Re × List A)) : Prop := ∀ a b : Rat, Ok a → Ok b → c [.val (am a), .val (am b)] = .ok (.val (.bl (decide (a < b))), [.val (am a), .val (am b)])
theorem less_run : LessS (runDef F M 2 bLess) := fun a b ha hb => by
  obtain ⟨h1, h2, m1, m2, m3, m4⟩ := den_lt ha hb
  simp [bLess, Dv.envOf, m1, m2, Rat.lt_iff]
end

/-! the program's -/
def bReduced : Sxs := (.cons 
    (.ite (.cmp .Eq (.var 1) (.cst (.int 1))) (.cons 
    (.ret (.tup (.cons (.var 0) (.cons (.cst (.int 1)) .nil)))) .nil) .nil) (.cons 
    (.set 2 (.blt .gcd (.cons (.var 0) (.cons (.var 1) .nil)))) (.cons 
    (.ret (.tup (.cons (.bin .FloorDiv (.var 0) (.var 2)) (.cons (.bin .FloorDiv (.var 1) (.var 2)) .nil)))) .nil)))
def bPlus : Sxs := (.cons 
    (.ite (.cmp .Eq (.idx (.var 0) (.cst (.int 1))) (.idx (.var 1) (.cst (.int 1)))) (.cons 
    (.ret (.call "reduced" (.cons (.bin .Add (.idx (.var 0) (.cst (.int 0))) (.idx (.var 1) (.cst (.int 0)))) (.cons (.idx (.var 0) (.cst (.int 1))) .nil)))) .nil) .nil) (.cons 
    (.ret (.call "reduced" (.cons (.bin .Add (.bin .Mult (.idx (.var 0) (.cst (.int 0))) (.idx (.var 1) (.cst (.int 1)))) (.bin .Mult (.idx (.var 1) (.cst (.int 0))) (.idx (.var 0) (.cst (.int 1))))) (.cons (.bin .Mult (.idx (.var 0) (.cst (.int 1))) (.idx (.var 1) (.cst (.int 1)))) .nil)))) .nil))
def bMinus : Sxs := (.cons 
    (.ite (.cmp .Eq (.idx (.var 0) (.cst (.int 1))) (.idx (.var 1) (.cst (.int 1)))) (.cons 
    (.ret (.call "reduced" (.cons (.bin .Sub (.idx (.var 0) (.cst (.int 0))) (.idx (.var 1) (.cst (.int 0)))) (.cons (.idx (.var 0) (.cst (.int 1))) .nil)))) .nil) .nil) (.cons 
    (.ret (.call "reduced" (.cons (.bin .Sub (.bin .Mult (.idx (.var 0) (.cst (.int 0))) (.idx (.var 1) (.cst (.int 1)))) (.bin .Mult (.idx (.var 1) (.cst (.int 0))) (.idx (.var 0) (.cst (.int 1))))) (.cons (.bin .Mult (.idx (.var 0) (.cst (.int 1))) (.idx (.var 1) (.cst (.int 1)))) .nil)))) .nil))
def bTimes : Sxs := (.cons 
    (.ret (.call "reduced" (.cons (.bin .Mult (.idx (.var 0) (.cst (.int 0))) (.idx (.var 1) (.cst (.int 0)))) (.cons (.bin .Mult (.idx (.var 0) (.cst (.int 1))) (.idx (.var 1) (.cst (.int 1)))) .nil)))) .nil)
def bSign : Sxs := (.cons 
    (.ite (.cmp .Lt (.idx (.var 0) (.cst (.int 0))) (.cst (.int 0))) (.cons 
    (.ret (.neg (.cst (.int 1)))) .nil) .nil) (.cons 
    (.ite (.cmp .Gt (.idx (.var 0) (.cst (.int 0))) (.cst (.int 0))) (.cons 
    (.ret (.cst (.int 1))) .nil) .nil) (.cons 
    (.ret (.cst (.int 0))) .nil)))
section
variable {F : Fn} {M : Nat}
def RedS (c : List A → Rs (Re × List A)) : Prop := ∀ n d : Int, 0 < d → d.natAbs < oC → c [.val (.int n), .val (.int d)] = .ok (.val (am (Rat.divInt n d)), [.val (.int n), .val (.int d)])
theorem divInt_one (n : Int) : Rat.divInt n 1 = (n : Rat) := by
  rw [Rat.divInt_eq_div]
  grind
theorem reduced_run : RedS (runDef F M 3 bReduced) := fun n d h0 h => by
  have k2 : 2 ≤ sizeLine := by decide
  have eq1 := eq_nice (k := 0) (d := .int d) (e := .int 1) nice_int nice_int (by decide)
  by_cases h1 : d = 1
  · subst h1
    rw [divInt_one]
    simp [bReduced, Dv.envOf, -c36_dCmp, eq1, k2, am_int]
  · obtain ⟨r1, r2⟩ := red_pos (n := n) (d := d) h0
    obtain ⟨g1, g2⟩ := gcd_lt (n := n) (d := d) (by omega) h
    unfold am
    have dv : ∀ i, CDvX i ((Nat.gcd n.natAbs d.natAbs : Nat) : Int) := fun i => dvX (by omega) (by omega)
    have ne : ¬ (D.int d = D.int 1) := fun e => h1 (by injection e)
    simp only [decide_eq_false ne] at eq1
    simp [bReduced, Dv.envOf, -c36_dCmp, eq1, k2, dv, r1, r2]
theorem same_den {a b : Rat} (h : (a.den : Int) = b.den) : Rat.divInt (a.num + b.num) a.den = a + b ∧ Rat.divInt (a.num - b.num) a.den = a - b := by
  have ea := Rat.num_divInt_den a
  have eb := Rat.num_divInt_den b
  have hz : (a.den : Int) ≠ 0 := by have := a.den_pos; omega
  have hq : ((a.den : Int) : Rat) ≠ 0 := fun e => hz (Rat.intCast_eq_zero_iff.mp e)
  rw [← h] at eb
  rw [Rat.divInt_eq_div] at ea eb ⊢
  rw [Rat.divInt_eq_div, Rat.intCast_add, Rat.intCast_sub]
  constructor <;> grind
theorem plus_run (hR : RedS (F.call "reduced")) (hdfl : ∀ n, F.dfl "reduced" n = []) : BinS (· + ·) (runDef F M 2 bPlus) := fun a b ha hb => by
  obtain ⟨h1, h2, m1, m2, m3, m4⟩ := den_lt ha hb
  have p1 := a.den_pos
  have p2 := b.den_pos
  have eq1 := eq_nice (k := 0) (d := .int (a.den : Int)) (e := .int (b.den : Int)) nice_int nice_int (by decide)
  by_cases hs : (a.den : Int) = b.den
  · have hl : a.den < oB := ha.2
    have hx := oB_oC
    have hy : oB ≤ oB * oB := Nat.le_mul_of_pos_left _ oB_pos
    have e := hR (a.num + b.num) a.den (by omega) (by omega)
    rw [(same_den hs).1] at e
    simp only [decide_eq_true (congrArg D.int hs)] at eq1
    simp [bPlus, Dv.envOf, -c36_dCmp, eq1, hdfl, e]
  · have e := hR (a.num * b.den + b.num * a.den) (a.den * b.den) (by have := Int.mul_pos (a := a.den) (b := b.den) (by omega) (by omega); omega) h1
    rw [← add_divInt] at e
    have ne : ¬ (D.int (a.den : Int) = D.int (b.den : Int)) := fun e => hs (by injection e)
    simp only [decide_eq_false ne] at eq1
    simp [bPlus, Dv.envOf, -c36_dCmp, eq1, hdfl, m1, m2, m3, e]
theorem minus_run (hR : RedS (F.call "reduced")) (hdfl : ∀ n, F.dfl "reduced" n = []) : BinS (· - ·) (runDef F M 2 bMinus) := fun a b ha hb => by
  obtain ⟨h1, h2, m1, m2, m3, m4⟩ := den_lt ha hb
  have p1 := a.den_pos
  have p2 := b.den_pos
  have eq1 := eq_nice (k := 0) (d := .int (a.den : Int)) (e := .int (b.den : Int)) nice_int nice_int (by decide)
  by_cases hs : (a.den : Int) = b.den
  · have hl : a.den < oB := ha.2
    have hx := oB_oC
    have hy : oB ≤ oB * oB := Nat.le_mul_of_pos_left _ oB_pos
    have e := hR (a.num - b.num) a.den (by omega) (by omega)
    rw [(same_den hs).2] at e
    simp only [decide_eq_true (congrArg D.int hs)] at eq1
    simp [bMinus, Dv.envOf, -c36_dCmp, eq1, hdfl, e]
  · have e := hR (a.num * b.den - b.num * a.den) (a.den * b.den) (by have := Int.mul_pos (a := a.den) (b := b.den) (by omega) (by omega); omega) h1
    rw [← sub_divInt] at e
    have ne : ¬ (D.int (a.den : Int) = D.int (b.den : Int)) := fun e => hs (by injection e)
    simp only [decide_eq_false ne] at eq1
    simp [bMinus, Dv.envOf, -c36_dCmp, eq1, hdfl, m1, m2, m3, e]
theorem times_run (hR : RedS (F.call "reduced")) (hdfl : ∀ n, F.dfl "reduced" n = []) : BinS (· * ·) (runDef F M 2 bTimes) := fun a b ha hb => by
  obtain ⟨h1, h2, m1, m2, m3, m4⟩ := den_lt ha hb
  have p1 := a.den_pos
  have p2 := b.den_pos
  have e := hR (a.num * b.num) (a.den * b.den) (by have := Int.mul_pos (a := a.den) (b := b.den) (by omega) (by omega); omega) h1
  rw [← mul_divInt] at e
  simp [bTimes, Dv.envOf, hdfl, m3, m4, e]
theorem sign_run (a : Rat) : runDef F M 1 bSign [.val (am a)] = .ok (.val (.int (if a < 0 then -1 else if 0 < a then 1 else 0)), [.val (am a)]) := by
  have e1 : a < 0 ↔ a.num < 0 := by rw [Rat.lt_iff]; simp
  have e2 : 0 < a ↔ 0 < a.num := by rw [Rat.lt_iff]; simp
  by_cases h1 : a.num < 0
  · simp [bSign, Dv.envOf, h1, e1]
  · by_cases h2 : 0 < a.num
    · simp [bSign, Dv.envOf, h1, e1, h2, e2]
    · simp [bSign, Dv.envOf, h1, e1, h2, e2]
end
end Dv

set_option Elab.async false
set_option linter.all false
set_option maxRecDepth 100000
set_option maxHeartbeats 1000000
set_option exponentiation.threshold 20
namespace Dv
open PySem PySem.Spec PyProof.Rows L2

/-! ### sizes of amounts -/
/-- n bits above, n bits below -/
def K (n : Nat) (q : Rat) : Prop := q.num.natAbs < 2 ^ n ∧ q.den < 2 ^ n
theorem K.ok {n : Nat} {q : Rat} (h : K n q) (hn : n ≤ 4000) : Ok q := ⟨Nat.lt_of_lt_of_le h.1 (Nat.pow_le_pow_right (by decide) hn), Nat.lt_of_lt_of_le h.2 (Nat.pow_le_pow_right (by decide) hn)⟩
theorem K.mono {n m : Nat} {q : Rat} (h : K n q) (hn : n ≤ m) : K m q := ⟨Nat.lt_of_lt_of_le h.1 (Nat.pow_le_pow_right (by decide) hn), Nat.lt_of_lt_of_le h.2 (Nat.pow_le_pow_right (by decide) hn)⟩
theorem K.divInt {n d : Int} {k : Nat} (h1 : n.natAbs < 2 ^ k) (h2 : d.natAbs < 2 ^ k) (h3 : 1 ≤ k) : K k (Rat.divInt n d) := by
  refine ⟨?_, ?_⟩
  · rw [Rat.num_divInt, Int.natAbs_ediv_of_dvd]
    · refine Nat.lt_of_le_of_lt (Nat.div_le_self _ _) ?_
      rw [Int.natAbs_mul]
      refine Nat.lt_of_le_of_lt (Nat.mul_le_mul_right _ ?_) (by rw [Nat.one_mul]; exact h1)
      rw [Int.natAbs_sign]
      split <;> omega
    · exact Int.dvd_trans (by rw [Int.gcd_comm]; exact Int.gcd_dvd_left ..) (Int.dvd_mul_left _ _)
  · rw [Rat.den_divInt]
    split
    · exact Nat.one_lt_two_pow (by omega)
    · exact Nat.lt_of_le_of_lt (Nat.div_le_self _ _) h2
theorem two_mul_pow (n : Nat) : 2 ^ n + 2 ^ n = 2 ^ (n + 1) := by rw [Nat.pow_succ]; omega
theorem K.sum {a b : Rat} {n m : Nat} (ha : K n a) (hb : K m b) (s : Int) (hs : s = a.num * b.den + b.num * a.den ∨ s = a.num * b.den - b.num * a.den) : s.natAbs < 2 ^ (n + m + 1) ∧ ((a.den : Int) * b.den).natAbs < 2 ^ (n + m + 1) := by
  have x1 : a.num.natAbs * b.den < 2 ^ n * 2 ^ m := Nat.mul_lt_mul_of_lt_of_le ha.1 (Nat.le_of_lt hb.2) (Nat.two_pow_pos _)
  have x2 : b.num.natAbs * a.den < 2 ^ m * 2 ^ n := Nat.mul_lt_mul_of_lt_of_le hb.1 (Nat.le_of_lt ha.2) (Nat.two_pow_pos _)
  have x3 : a.den * b.den < 2 ^ n * 2 ^ m := Nat.mul_lt_mul_of_lt_of_le ha.2 (Nat.le_of_lt hb.2) (Nat.two_pow_pos _)
  rw [Nat.mul_comm (2 ^ m)] at x2
  rw [← Nat.pow_add] at x1 x2 x3
  rw [← two_mul_pow]
  have y1 : (a.num * b.den).natAbs = a.num.natAbs * b.den := Int.natAbs_mul ..
  have y2 : (b.num * a.den).natAbs = b.num.natAbs * a.den := Int.natAbs_mul ..
  have y3 : ((a.den : Int) * b.den).natAbs = a.den * b.den := Int.natAbs_mul ..
  rw [y3]
  generalize 2 ^ (n + m) = z at *
  generalize a.num * b.den = u at *
  generalize b.num * a.den = v at *
  rcases hs with rfl | rfl <;> omega
theorem K.add {a b : Rat} {n m : Nat} (ha : K n a) (hb : K m b) : K (n + m + 1) (a + b) := by
  rw [add_divInt]
  obtain ⟨h1, h2⟩ := K.sum ha hb _ (.inl rfl)
  exact K.divInt h1 h2 (by omega)
theorem K.sub {a b : Rat} {n m : Nat} (ha : K n a) (hb : K m b) : K (n + m + 1) (a - b) := by
  rw [sub_divInt]
  obtain ⟨h1, h2⟩ := K.sum ha hb _ (.inr rfl)
  exact K.divInt h1 h2 (by omega)
theorem K.mul {a b : Rat} {n m : Nat} (ha : K n a) (hb : K m b) : K (n + m + 1) (a * b) := by
  rw [mul_divInt]
  have x1 : a.num.natAbs * b.num.natAbs < 2 ^ n * 2 ^ m := Nat.mul_lt_mul_of_lt_of_le ha.1 (Nat.le_of_lt hb.1) (Nat.two_pow_pos _)
  rw [← Nat.pow_add] at x1
  obtain ⟨h1, h2⟩ := K.sum ha hb _ (.inl rfl)
  refine K.divInt ?_ h2 (by omega)
  rw [Int.natAbs_mul, ← two_mul_pow]
  omega
theorem K.int {i : Int} {n : Nat} (h : i.natAbs < 2 ^ n) (h1 : 1 ≤ n) : K n (i : Rat) := ⟨h, Nat.one_lt_two_pow (by omega)⟩
theorem K.zero : K 1 0 := K.int (i := 0) (by decide) (by decide)
theorem K.one : K 1 1 := K.int (i := 1) (by decide) (by decide)
/-- a multiple of 1/L, of at most N of them -/
def Bd (L N : Nat) (q : Rat) : Prop := ∃ n : Int, q * (L : Rat) = (n : Rat) ∧ n.natAbs ≤ N
theorem Bd.k {L N k : Nat} {q : Rat} (h : Bd L N q) (h0 : 0 < L) (h1 : L < 2 ^ k) (h2 : N < 2 ^ k) (h3 : 1 ≤ k) : K k q := by
  obtain ⟨n, e, hn⟩ := h
  have hL : (L : Rat) ≠ 0 := by
    intro z
    have := Rat.natCast_eq_zero_iff.mp z
    omega
  have e2 : q = Rat.divInt n (L : Int) := by
    rw [Rat.divInt_eq_div, ← e, Rat.intCast_natCast]
    grind
  rw [e2]
  exact K.divInt (by omega) (by simpa using h1) h3
theorem Bd.mono {L N M : Nat} {q : Rat} (h : Bd L N q) (hn : N ≤ M) : Bd L M q := by
  obtain ⟨n, e, h1⟩ := h
  exact ⟨n, e, by omega⟩
theorem Bd.add {L N M : Nat} {a b : Rat} (ha : Bd L N a) (hb : Bd L M b) : Bd L (N + M) (a + b) := by
  obtain ⟨n, e, h1⟩ := ha
  obtain ⟨m, e2, h2⟩ := hb
  exact ⟨n + m, by rw [Rat.intCast_add, ← e, ← e2]; grind, by omega⟩
theorem Bd.sub {L N M : Nat} {a b : Rat} (ha : Bd L N a) (hb : Bd L M b) : Bd L (N + M) (a - b) := by
  obtain ⟨n, e, h1⟩ := ha
  obtain ⟨m, e2, h2⟩ := hb
  exact ⟨n - m, by rw [Rat.intCast_sub, ← e, ← e2]; grind, by omega⟩
theorem Bd.mul {L N L' M : Nat} {a b : Rat} (ha : Bd L N a) (hb : Bd L' M b) : Bd (L * L') (N * M) (a * b) := by
  obtain ⟨n, e, h1⟩ := ha
  obtain ⟨m, e2, h2⟩ := hb
  refine ⟨n * m, by rw [Rat.intCast_mul, ← e, ← e2, Rat.natCast_mul]; grind, ?_⟩
  rw [Int.natAbs_mul]
  exact Nat.mul_le_mul h1 h2
theorem Bd.lift {L N : Nat} {a : Rat} (c : Nat) (ha : Bd L N a) : Bd (L * c) (N * c) a := by
  obtain ⟨n, e, h1⟩ := ha
  refine ⟨n * c, by rw [Rat.intCast_mul, ← e, Rat.natCast_mul, Rat.intCast_natCast]; grind, ?_⟩
  rw [Int.natAbs_mul]
  exact Nat.mul_le_mul h1 (by simp)
theorem Bd.int {L N : Nat} {i : Int} (h : i.natAbs * L ≤ N) : Bd L N (i : Rat) := ⟨i * L, by rw [Rat.intCast_mul, Rat.intCast_natCast], by rw [Int.natAbs_mul]; simpa using h⟩
theorem Bd.zero {L N : Nat} : Bd L N 0 := ⟨0, by grind, by simp⟩
theorem Bd.divInt {n d : Int} {L N : Nat} (c : Int) (hd : d ≠ 0) (hL : (L : Int) = d * c) (hN : (n * c).natAbs ≤ N) : Bd L N (Rat.divInt n d) := by
  have hq : (d : Rat) ≠ 0 := fun e => hd (Rat.intCast_eq_zero_iff.mp e)
  refine ⟨n * c, ?_, hN⟩
  have e : (L : Rat) = (d : Rat) * (c : Rat) := by rw [← Rat.intCast_mul, ← hL, Rat.intCast_natCast]
  rw [Rat.divInt_eq_div, e, Rat.intCast_mul]
  grind

/-! ### comprehensions -/
noncomputable def turnW (F : Fn) (elt : Ex) (tg : Tg) (ifs : To) (own : List Nat) (d : D) (ρ : Env') : Rs (Option D × Env') := (turnR F elt tg ifs d ρ).bind fun r => .ok (r.1, wipeR r.2 own)
theorem turnW_ok {F : Fn} {elt : Ex} {tg : Tg} {ifs : To} {own : List Nat} {d : D} {ρ ρ2 : Env'} {y : Option D} (h : turnW F elt tg ifs own d ρ = .ok (y, ρ2)) : ∃ ρ', turnR F elt tg ifs d ρ = .ok (y, ρ') ∧ wipeR ρ' own = ρ2 := by
  unfold turnW at h
  cases e : turnR F elt tg ifs d ρ with
  | bad => rw [e] at h; cases h
  | err x => rw [e] at h; cases h
  | ok r =>
    rw [e] at h
    have h : Rs.ok (r.1, wipeR r.2 own) = Rs.ok (y, ρ2) := h
    injection h with h
    injection h with h1 h2
    exact ⟨r.2, by rw [← h1], h2⟩
section
variable {F : Fn} {elt : Ex} {tg : Tg} {it : Ie} {ifs : To} {own : List Nat} {ρ ρ1 ρw : Env'} {p : P} {α β : Type} {xs : List α} {f : α → D}
/-- what a comprehension hands on -/
noncomputable def compEnd (p : P) (ρ1 ρw : Env') (own : List Nat) (out : List D) : Rs (P × Env') := (unlock (lockP p ρ1).1 (backR (lockP p ρ1).2 ρw own)).bind fun ρ' => .ok (.own (.lst out), ρ')
theorem comp_fm {g : α → Option D} (hi : evi F it ρ = .ok ((xs.map f, p), ρ1)) (hw : wipeR (lockP p ρ1).2 own = ρw) (hl : xs.length < sizeLine)
    (step : ∀ x ∈ xs, turnW F elt tg ifs own (f x) ρw = .ok (g x, ρw)) : ev F (.comp elt tg it ifs own) ρ = compEnd p ρ1 ρw own (xs.filterMap g) := by
  obtain ⟨out, ρ2, ⟨h1, h2⟩, e⟩ := comp_gen (F := F) (elt := elt) (tg := tg) (ifs := ifs) (own := own) hi (fun i out ρ => out = (xs.take i).filterMap g ∧ ρ = ρw) (fun i d out ρ ed _ ⟨h1, h2⟩ => by
    rw [List.getElem?_map] at ed
    cases hx : xs[i]? with
    | none => rw [hx] at ed; cases ed
    | some x =>
      rw [hx] at ed
      cases ed
      obtain ⟨ρ', e1, e2⟩ := turnW_ok (step x (List.mem_of_getElem? hx))
      subst h2
      refine ⟨g x, ρ', e1, ?_, e2⟩
      rw [h1, List.take_succ, hx, List.filterMap_append]
      cases hg : g x <;> simp [hg]) ⟨rfl, hw⟩
  rw [List.length_map, List.take_of_length_le (Nat.le_refl _)] at h1
  subst h1 h2
  rw [e]
  exact congrArg _ (funext fun _ => need_true (Nat.lt_of_le_of_lt (List.length_filterMap_le _ _) hl))
theorem comp_map {g : α → D} (hi : evi F it ρ = .ok ((xs.map f, p), ρ1)) (hw : wipeR (lockP p ρ1).2 own = ρw) (hl : xs.length < sizeLine)
    (step : ∀ x ∈ xs, turnW F elt tg ifs own (f x) ρw = .ok (some (g x), ρw)) : ev F (.comp elt tg it ifs own) ρ = compEnd p ρ1 ρw own (xs.map g) := by
  rw [comp_fm (g := fun x => some (g x)) hi hw hl step]
  exact congrArg _ (by induction xs <;> simp_all)
/-- with draws -/
theorem comp_dr {E : D → Env'} {h : β → D} {Q : Nat → β → Prop} {d : D} {n : Nat} (c : Nat) (hi : evi F it ρ = .ok ((xs.map f, p), ρ1)) (hw : wipeR (lockP p ρ1).2 own = E d) (hl : xs.length < sizeLine) (hd : DS n d)
    (step : ∀ i x d, xs[i]? = some x → DS (n + c * i) d → ∃ z d', turnW F elt tg ifs own (f x) (E d) = .ok (some (h z), E d') ∧ Q i z ∧ DS (n + c * i + c) d') :
    ∃ (zs : List β) (d' : D), zs.length = xs.length ∧ (∀ i z, zs[i]? = some z → Q i z) ∧ DS (n + c * xs.length) d' ∧ ev F (.comp elt tg it ifs own) ρ = compEnd p ρ1 (E d') own (zs.map h) := by
  obtain ⟨out, ρ2, ⟨zs, d', h1, h2, h3, h4, h5⟩, e⟩ := comp_gen (F := F) (elt := elt) (tg := tg) (ifs := ifs) (own := own) hi (fun i out ρ => ∃ (zs : List β) (d' : D), out = zs.map h ∧ zs.length = i ∧ (∀ i z, zs[i]? = some z → Q i z) ∧ DS (n + c * i) d' ∧ ρ = E d') (fun i d out ρ ed _ ⟨zs, d', h1, h2, h3, h4, h5⟩ => by
    rw [List.getElem?_map] at ed
    cases hx : xs[i]? with
    | none => rw [hx] at ed; cases ed
    | some x =>
      rw [hx] at ed
      cases ed
      obtain ⟨z, d2, t, q, hd2⟩ := step i x d' hx h4
      obtain ⟨ρ', e1, e2⟩ := turnW_ok t
      subst h5
      refine ⟨some (h z), ρ', e1, zs ++ [z], d2, by rw [h1]; simp, by simp [h2], fun j y hy => ?_, by rw [Nat.mul_succ, ← Nat.add_assoc]; exact hd2, e2⟩
      by_cases hj : j < zs.length
      · rw [List.getElem?_append_left hj] at hy
        exact h3 j y hy
      · rw [List.getElem?_append_right (by omega)] at hy
        have : j - zs.length = 0 := by
          rcases Nat.eq_zero_or_pos (j - zs.length) with k | k
          · exact k
          · rw [List.getElem?_eq_none (by simp; omega)] at hy; cases hy
        rw [this] at hy
        cases hy
        obtain rfl : j = i := by omega
        exact q) ⟨[], d, rfl, rfl, fun i z hz => by simp at hz, hd, hw⟩
  rw [List.length_map] at h2 h4
  subst h1 h5
  refine ⟨zs, d', h2, h3, h4, ?_⟩
  rw [e]
  exact congrArg _ (funext fun _ => need_true (by rw [List.length_map, h2]; exact hl))
end
theorem rng_map {n : Nat} : rng 0 n = (List.range n).map fun k => D.int (k : Nat) := List.map_congr_left fun k _ => by rw [Int.zero_add]
theorem evi_rng {F : Fn} {a : Ex} {ρ ρ' : Env'} {n : Nat} (h : ev F a ρ = .ok (.val (.int (n : Nat)), ρ')) (hn : n < 2 ^ 62) : evi F (.rng a) ρ = .ok (((List.range n).map fun k => D.int (k : Nat), .val .non), ρ') := by
  have : inR (n : Int) := by
    unfold inR
    constructor
    · omega
    · have : ((2 : Int) ^ 62) = ((2 ^ 62 : Nat) : Int) := by push_cast; rfl
      rw [this]
      omega
  rw [r_evi_rng, h]
  show need (inR n) _ = _
  rw [need_true this, Int.toNat_natCast, rng_map]
theorem rng2_map {a n : Nat} (h : a ≤ n) : rng (a : Nat) ((n : Int) - (a : Int)).toNat = (List.range (n - a)).map fun k => D.int ((a + k : Nat) : Int) := by
  have : ((n : Int) - (a : Int)).toNat = n - a := by omega
  rw [this]
  exact List.map_congr_left fun k _ => by push_cast; rfl
theorem evi_seq {F : Fn} {a : Ex} {ρ ρ' : Env'} {p : P} {x : D} {l : List D} (h : ev F a ρ = .ok (p, ρ')) (h2 : pk p ρ' = .ok x) (h3 : items x = .ok l) : evi F (.seq a) ρ = .ok ((l, p), ρ') := by
  rw [r_evi_seq, h]
  show (pk p ρ').bind _ = _
  rw [h2]
  show (items x).bind _ = _
  rw [h3]
  rfl

/-! ### for loops -/
section
variable {F : Fn} {N : Nat} {tg : Tg} {it : Ie} {b : Sxs} {ρ ρ1 ρ' : Env'} {p : P} {α β : Type} {xs : List α} {f : α → D}
noncomputable def turnX (F : Fn) (N : Nat) (tg : Tg) (b : Sxs) (d : D) (ρ : Env') : Rs (Fl × Env') := (asgT tg d ρ).bind (exs F N b)
theorem forR_ct {f : D → Env' → Rs (Fl × Env')} : ∀ {l : List D} {I : Nat → Env' → Prop} {ρ : Env'} {k : Nat},
    (∀ (i : Nat) (d : D) (ρ : Env'), l[i]? = some d → I (k + i) ρ → ∃ ρ', (f d ρ = .ok (.nx, ρ') ∨ f d ρ = .ok (.ct, ρ')) ∧ I (k + i + 1) ρ') → I k ρ → ∃ ρ', forR f l ρ = .ok (.nx, ρ') ∧ I (k + l.length) ρ'
  | [], I, ρ, k, _, h => ⟨ρ, rfl, h⟩
  | d :: l, I, ρ, k, step, h => by
    obtain ⟨ρ1, e1, h1⟩ := step 0 d ρ rfl h
    obtain ⟨ρ2, e2, h2⟩ := forR_ct (l := l) (I := I) (ρ := ρ1) (k := k + 1) (fun i d ρ e hi => by
      have := step (i + 1) d ρ (by simpa using e) (by rw [show k + (i + 1) = k + 1 + i by omega]; exact hi)
      rw [show k + (i + 1) = k + 1 + i by omega] at this
      exact this) h1
    refine ⟨ρ2, ?_, ?_⟩
    · show (f d ρ).bind _ = _
      rcases e1 with e1 | e1 <;> rw [e1] <;> exact e2
    · rw [List.length_cons, show k + (l.length + 1) = k + 1 + l.length by omega]
      exact h2
/-- a loop that ends by itself, by what holds -/
theorem for_st (I : Nat → Env' → Prop) (hi : evi F it ρ = .ok ((xs.map f, p), ρ1)) (h0 : I 0 (lockP p ρ1).2)
    (step : ∀ i x ρ, xs[i]? = some x → I i ρ → ∃ ρ', (turnX F N tg b (f x) ρ = .ok (.nx, ρ') ∨ turnX F N tg b (f x) ρ = .ok (.ct, ρ')) ∧ I (i + 1) ρ') :
    ∃ ρ', I xs.length ρ' ∧ ex F N (.for_ tg it b) ρ = (unlock (lockP p ρ1).1 ρ').bind fun ρ => .ok (.nx, ρ) := by
  obtain ⟨ρ', e, h⟩ := forR_ct (f := turnX F N tg b) (l := xs.map f) (I := I) (k := 0) (ρ := (lockP p ρ1).2) (fun i d ρ ed h => by
    rw [Nat.zero_add] at h ⊢
    rw [List.getElem?_map] at ed
    cases hx : xs[i]? with
    | none => rw [hx] at ed; cases ed
    | some x =>
      rw [hx] at ed
      cases ed
      exact step i x ρ hx h) h0
  rw [Nat.zero_add, List.length_map] at h
  exact ⟨ρ', h, for_ok hi e⟩
/-- .. of a state s: what is computed in plain words -/
theorem for_fd {σ : Type} (E : σ → Env' → Prop) (Inv : Nat → σ → Prop) {s0 : σ} (hi : evi F it ρ = .ok ((xs.map f, p), ρ1)) (h0 : E s0 (lockP p ρ1).2) (i0 : Inv 0 s0)
    (step : ∀ i x s ρ, xs[i]? = some x → Inv i s → E s ρ → ∃ s' ρ', (turnX F N tg b (f x) ρ = .ok (.nx, ρ') ∨ turnX F N tg b (f x) ρ = .ok (.ct, ρ')) ∧ E s' ρ' ∧ Inv (i + 1) s') :
    ∃ s' ρ', E s' ρ' ∧ Inv xs.length s' ∧ ex F N (.for_ tg it b) ρ = (unlock (lockP p ρ1).1 ρ').bind fun ρ => .ok (.nx, ρ) := by
  obtain ⟨ρ', ⟨s, h1, h2⟩, e⟩ := for_st (F := F) (N := N) (tg := tg) (b := b) (fun i ρ => ∃ s, E s ρ ∧ Inv i s) hi ⟨s0, h0, i0⟩ fun i x ρ hx ⟨s, h1, h2⟩ => by
    obtain ⟨s', ρ', e, h3, h4⟩ := step i x s ρ hx h2 h1
    exact ⟨ρ', e, s', h3, h4⟩
  exact ⟨s, ρ', h1, h2, e⟩
end
theorem fr_none : gFree (some none) = true := rfl
end Dv

set_option Elab.async false
set_option linter.all false
namespace Dv
open PySem PySem.Spec PyProof.Rows L2
/-- a module's constant that is a tuple -/
theorem tupL_ok {K : PySem.W.Frag} {x : Str} {vs : List He.Dv} (h : He.tupB K x vs = true) (H : Hp) : TupL K H (He.ga K x) (vs.map (He.Dv.v K)) := by
  unfold He.tupB at h
  cases q : K.lookup (He.ga K x) with
  | none =>
    rw [q] at h
    cases h
  | some o =>
    obtain ⟨oc, od, dt, osl⟩ := o
    rw [q] at h
    cases oc with
    | type c =>
      cases dt with
      | seq its n =>
        obtain ⟨h1, h2⟩ := Bool.and_eq_true_iff.mp (show (decide (c = "tuple") && (decide (its.size ≤ sizeLine) && He.relAll (vs.map (He.Dv.v K)) its.toList)) = true from h)
        obtain ⟨h3, h4⟩ := Bool.and_eq_true_iff.mp h2
        exact .inr ⟨_, its, n, q, congrArg Value.type (of_decide_eq_true h1), rfl, of_decide_eq_true h3, He.relAll_ok h4⟩
      | _ => cases h
    | _ => cases dt <;> cases h
/-- a table's def's defaults, seen from a larger one -/
theorem liftD {glo : Str → Option D} {M : Nat} {f : Str} {n : Nat} {ds : List Dm} : ∀ (l : List Dm), (l.all fun e => decide (f ≠ e.f)) = true → (mkF glo M (l ++ ds)).dfl f n = (mkF glo M ds).dfl f n
  | [], _ => rfl
  | d :: l, h => by
    rw [List.all_cons, Bool.and_eq_true] at h
    exact (show (mkF glo M (d :: (l ++ ds))).dfl f n = _ from if_neg (of_decide_eq_true h.1)).trans (liftD l h.2)
theorem dfl_self {glo : Str → Option D} {M : Nat} {n : Nat} {d : Dm} {ds : List Dm} : (mkF glo M (d :: ds)).dfl d.f n = d.dfl n := if_pos rfl
end Dv

set_option Elab.async false
set_option linter.all false
set_option maxRecDepth 100000
namespace Dv
open PySem PySem.Spec PyProof.Rows L2
/-- what is reached from the module's names, and the table of the static constants -/
def KC (g : Addr → Option Obj) (n : Nat) : PySem.W.Frag := (match g cStatics with
  | some o => [(cStatics, o)]
  | none => []) ++ He.frT g (He.asD g n)
theorem KC_in {h : Heap} {n : Nat} : (KC h.get? n).In h := by
  intro a o e
  unfold KC at e
  cases q : h.get? cStatics with
  | none =>
    rw [q] at e
    exact He.frT_in _ _ e
  | some o' =>
    rw [q] at e
    change List.lookup a ((cStatics, o') :: He.frT h.get? (He.asD h.get? n)) = some o at e
    rw [List.lookup_cons] at e
    cases b : (a == cStatics) with
    | true =>
      rw [b] at e
      cases e
      rw [beq_iff_eq.mp b]
      exact q
    | false =>
      rw [b] at e
      exact He.frT_in _ _ e
abbrev AlC : Type := He.AlD × Bool
def obsC (n : Nat) (fa : List He.Fa) (fn : List He.DefD) (ex : PySem.W.Frag → Bool) (g : Addr → Option Obj) : AlC := (He.obsD fa fn (KC g n), ex (KC g n))
def hookC (n : Nat) (fa : List He.Fa) (fn : List He.DefD) (ex : PySem.W.Frag → Bool) : PySem.W.Hook where
  α := AlC
  obs := fun s => obsC n fa fn ex s.heap.get?
  val := fun _ => (He.valD fn, true)
  says := fun _ h => ∃ K : PySem.W.Frag, K.In h ∧ He.SaysD fa fn K ∧ ex K = true
  of := fun _ _ e => ⟨_, KC_in, congrArg (fun z : AlC => z.1) e, congrArg (fun z : AlC => z.2) e⟩
  keeps := fun _ _ _ ⟨K, hK, c⟩ k => ⟨K, PySem.W.Frag.In.keeps hK k, c⟩
theorem obsC_eq {n : Nat} {fa : List He.Fa} {fn : List He.DefD} {ex : PySem.W.Frag → Bool} {g : Addr → Option Obj} {s : Shared} (h : ∀ a, g a = s.heap.get? a) : obsC n fa fn ex g = (hookC n fa fn ex).obs s := by
  have e : g = s.heap.get? := funext h
  rw [e] <;> rfl
end Dv

set_option Elab.async false
set_option linter.all false
set_option maxRecDepth 100000
set_option maxHeartbeats 1000000
set_option exponentiation.threshold 100
namespace Dv
open PySem PySem.Spec PyProof.Rows L2

/-! ### what most laws have in common -/
def DrawS (c : List A → Rs (Re × List A)) : Prop := ∀ {n : Nat} {d : D} {m : Int}, DS n d → n < 2 ^ 60 → 0 < m → m < 2 ^ 64 → ∃ (r : Nat) (d' : D), c [.own d, .val (.int m)] = .ok (.val (.int (r : Nat)), [.own d', .val (.int m)]) ∧ (r : Int) < m ∧ DS (n + 1) d'
theorem draw_run {F : Fn} {M : Nat} : DrawS (runDef F M 5 bDraw) := fun {n d m} hd hn h0 h1 => by
  obtain ⟨r, d', e, h2, h3, h4⟩ := draw_ok (F := F) (M := M) hd hn h0 h1
  refine ⟨r.toNat, d', ?_, by omega, h4⟩
  rw [Int.toNat_of_nonneg h2]
  exact e
theorem atI_mapG {α : Type} {l : List α} {g : α → D} {k : Nat} {x : α} (h : l[k]? = some x) : atI (l.map g) (k : Int) = some (g x) := by
  have hk := (List.getElem?_eq_some_iff.mp h).1
  rw [atI_nat (by omega) (by rw [List.length_map]; omega), Int.toNat_natCast, List.getElem?_map, h]
  rfl
theorem perm_erase {α : Type} : ∀ {l : List α} {i : Nat} (h : i < l.length), (l[i] :: l.eraseIdx i).Perm l
  | a :: l, 0, _ => .refl _
  | a :: l, i + 1, h => by
    rw [List.eraseIdx_cons_succ, List.getElem_cons_succ]
    exact (List.Perm.swap _ _ _).trans (List.Perm.cons a (perm_erase (by simpa using h)))
section
variable {F : Fn} {elt : Ex} {tg : Tg} {it : Ie} {ifs : To} {own : List Nat} {ρ ρ1 ρw ρ' : Env'} {p : P} {α β : Type} {xs : List α} {f : α → D}
theorem comp_mapE {g : α → D} (hi : evi F it ρ = .ok ((xs.map f, p), ρ1)) (hw : wipeR (lockP p ρ1).2 own = ρw) (hl : xs.length < sizeLine)
    (step : ∀ x ∈ xs, turnW F elt tg ifs own (f x) ρw = .ok (some (g x), ρw)) (he : ∀ out, compEnd p ρ1 ρw own out = .ok (.own (.lst out), ρ')) : ev F (.comp elt tg it ifs own) ρ = .ok (.own (.lst (xs.map g)), ρ') := by
  rw [comp_map hi hw hl step, he]
theorem comp_fmE {g : α → Option D} (hi : evi F it ρ = .ok ((xs.map f, p), ρ1)) (hw : wipeR (lockP p ρ1).2 own = ρw) (hl : xs.length < sizeLine)
    (step : ∀ x ∈ xs, turnW F elt tg ifs own (f x) ρw = .ok (g x, ρw)) (he : ∀ out, compEnd p ρ1 ρw own out = .ok (.own (.lst out), ρ')) : ev F (.comp elt tg it ifs own) ρ = .ok (.own (.lst (xs.filterMap g)), ρ') := by
  rw [comp_fm hi hw hl step, he]
theorem comp_drE {E E' : D → Env'} {h : β → D} {Q : Nat → β → Prop} {d : D} {n : Nat} (c : Nat) (hi : evi F it ρ = .ok ((xs.map f, p), ρ1)) (hw : wipeR (lockP p ρ1).2 own = E d) (hl : xs.length < sizeLine) (hd : DS n d)
    (step : ∀ i x d, xs[i]? = some x → DS (n + c * i) d → ∃ z d', turnW F elt tg ifs own (f x) (E d) = .ok (some (h z), E d') ∧ Q i z ∧ DS (n + c * i + c) d') (he : ∀ d out, compEnd p ρ1 (E d) own out = .ok (.own (.lst out), E' d)) :
    ∃ (zs : List β) (d' : D), ev F (.comp elt tg it ifs own) ρ = .ok (.own (.lst (zs.map h)), E' d') ∧ zs.length = xs.length ∧ (∀ i z, zs[i]? = some z → Q i z) ∧ DS (n + c * xs.length) d' := by
  obtain ⟨zs, d', h1, h2, h3, e⟩ := comp_dr c hi hw hl hd step
  exact ⟨zs, d', e.trans (he _ _), h1, h2, h3⟩
end
theorem atI_rng {g : Nat → D} {n k : Nat} (h : k < n) : atI ((List.range n).map g) (k : Int) = some (g k) := atI_mapG (by simp [h])
theorem atI_get {l : List D} {k : Nat} (h : k < l.length) : atI l (k : Int) = some l[k] := by
  rw [atI_nat (by omega) (by omega), Int.toNat_natCast, List.getElem?_eq_getElem h]
section
variable {F : Fn} {M : Nat}
theorem rare_run (hD : DrawS (F.call "_law_draw")) (hdfl : ∀ n, F.dfl "_law_draw" n = []) {n : Nat} {d : D} {m : Int} (hd : DS n d) (hn : n < 2 ^ 60) (h0 : 0 < m) (h1 : m < 2 ^ 64) :
    ∃ b d', runDef F M 2 bRare [.own d, .val (.int m)] = .ok (.val (.bl b), [.own d', .val (.int m)]) ∧ DS (n + 1) d' := by
  obtain ⟨r, d', e, _, h⟩ := hD hd hn h0 h1
  have dv := dv_ok (i := m) (j := 2) (by decide) (by decide)
  have eq1 := eq_nice (k := 0) (d := .int (r : Nat)) (e := .int (m.fdiv 2)) nice_int nice_int (by decide)
  exact ⟨decide (D.int (r : Nat) = D.int (m.fdiv 2)), d', by simp [bRare, Dv.envOf, e, hdfl, dv, -c36_dCmp, eq1, -D.int.injEq], h⟩
theorem pick_run (hD : DrawS (F.call "_law_draw")) (hdfl : ∀ n, F.dfl "_law_draw" n = []) {n : Nat} {d : D} {row : List D} {R : A} (hR : R = .own (.lst row) ∨ R = .val (.lst row) ∨ R = .val (.tup row)) (hd : DS n d) (hn : n < 2 ^ 60) (h0 : 0 < row.length) (h1 : row.length < 2 ^ 62) :
    ∃ x d', runDef F M 2 bPick [.own d, R] = .ok (.val x, [.own d', R]) ∧ x ∈ row ∧ DS (n + 1) d' := by
  obtain ⟨r, d', e, h3, h⟩ := hD (m := (row.length : Int)) hd hn (by omega) (by omega)
  have hr : r < row.length := by omega
  refine ⟨row[r], d', ?_, List.getElem_mem hr, h⟩
  have ha := atI_get hr
  rcases hR with rfl | rfl | rfl <;> simp [bPick, Dv.envOf, e, hdfl, ha]
def bShufB : Sxs := (.cons 
    (.expr (.chg .append 3 (.cons (.chg .popAt 2 (.cons (.call "_law_draw" (.cons (.var 0) (.cons (.blt .len (.cons (.var 2) .nil)) .nil))) .nil)) .nil))) .nil)
def bShufS : Sx := (.for_ (.nm 4) (.rng (.blt .len (.cons (.var 2) .nil))) bShufB)
def bShuf : Sxs := (.cons 
    (.set 2 (.blt .list (.cons (.var 1) .nil))) (.cons 
    (.set 3 (.lst .nil)) (.cons 
    bShufS (.cons 
    (.ret (.var 3)) .nil))))
theorem shuf_loop (hD : DrawS (F.call "_law_draw")) (hdfl : ∀ n, F.dfl "_law_draw" n = []) {n : Nat} {d : D} {row : List D} {s : S} (hd : DS n d) (hn : n < 2 ^ 59) (h1 : row.length < 16777216) :
    ∃ row' d' o, ex F M bShufS [some (.own true d), some s, some (.own false (.lst row)), some (.own false (.lst [])), none] = .ok (.nx, [some (.own true d'), some s, some (.own false (.lst [])), some (.own false (.lst row')), o]) ∧ row'.Perm row ∧ DS (n + row.length) d' := by
  obtain ⟨ρ', ⟨left, found, d', o, rfl, hp, hl, hd', _⟩, e⟩ := for_st (F := F) (N := M) (tg := .nm 4) (it := .rng (.blt .len (.cons (.var 2) .nil))) (b := bShufB) (ρ := [some (.own true d), some s, some (.own false (.lst row)), some (.own false (.lst [])), none])
    (ρ1 := [some (.own true d), some s, some (.own false (.lst row)), some (.own false (.lst [])), none]) (xs := List.range row.length) (f := fun k => .int (k : Nat)) (p := .val .non)
    (fun i ρ => ∃ left found d' o, ρ = [some (.own true d'), some s, some (.own false (.lst left)), some (.own false (.lst found)), o] ∧ (left ++ found).Perm row ∧ left.length + i = row.length ∧ DS (n + i) d' ∧ gFree (some o) = true)
    (evi_rng (by simp) (by omega)) ⟨row, [], d, none, by simp, by simp, by simp, hd, rfl⟩
    (fun i x ρ hx ⟨left, found, d', o, e, hp, hl, hd', ho⟩ => by
      subst e
      have hi : i < row.length := by simpa using (List.getElem?_eq_some_iff.mp hx).1
      obtain ⟨r, d2, e2, h3, h4⟩ := hD (m := (left.length : Int)) hd' (by omega) (by omega) (by omega)
      have hr : r < left.length := by omega
      have hs : seqIndex? (r : Int) left.length = some r := by
        simp [seqIndex?, hr, show ¬ ((r : Int) < 0) by omega]
      have hb : -(2 ^ 63) ≤ (r : Int) ∧ (r : Int) < 2 ^ 63 := by constructor <;> omega
      have hlen := hp.length_eq
      rw [List.length_append] at hlen
      have hf : found.length < sizeLine := by unfold sizeLine; omega
      refine ⟨[some (.own true d2), some s, some (.own false (.lst (left.eraseIdx r))), some (.own false (.lst (found ++ [left[r]]))), some (.val (.int (x : Nat)))], .inl ?_, left.eraseIdx r, found ++ [left[r]], d2, _, rfl, ?_, ?_, h4, rfl⟩
      · simp only [Int.reducePow, Int.reduceNeg] at hb
        simp [turnX, bShufB, ho, e2, hdfl, hs, hf, List.getElem?_eq_getElem hr, hb]
      · rw [← List.append_assoc]
        refine List.Perm.trans ?_ hp
        refine List.Perm.trans List.perm_append_comm ?_
        rw [← List.append_assoc]
        exact List.Perm.append_right _ (perm_erase hr)
      · rw [List.length_eraseIdx_of_lt hr]
        omega)
  rw [List.length_range] at hl hd'
  have hl0 : left = [] := List.eq_nil_of_length_eq_zero (by omega)
  subst hl0
  rw [List.nil_append] at hp
  exact ⟨found, d', o, (show ex F M bShufS _ = _ from e).trans (by simp), hp, hd'⟩
theorem shuf_run (hD : DrawS (F.call "_law_draw")) (hdfl : ∀ n, F.dfl "_law_draw" n = []) {n : Nat} {d : D} {row : List D} {R : A} (hR : R = .own (.lst row) ∨ R = .val (.lst row) ∨ R = .val (.tup row)) (hd : DS n d) (hn : n < 2 ^ 59) (h1 : row.length < 16777216) :
    ∃ row' d', runDef F M 5 bShuf [.own d, R] = .ok (.own (.lst row'), [.own d', R]) ∧ row'.Perm row ∧ DS (n + row.length) d' := by
  obtain ⟨row', d', o, e, h2, h3⟩ := shuf_loop (M := M) (s := R.slot) hD hdfl hd hn h1
  refine ⟨row', d', ?_, h2, h3⟩
  rcases hR with rfl | rfl | rfl <;> simp at e <;> simp [bShuf, Dv.envOf, e]
/-! what is an amount -/
def bIsInt : Sxs := (.cons 
    (.ret (.and_ (.cons (.isi .int (.var 0)) (.cons (.not_ (.isi .bool (.var 0))) .nil)))) .nil)
theorem is_int_run {i : Int} : runDef F M 1 bIsInt [.val (.int i)] = .ok (.val (.bl true), [.val (.int i)]) := by
  simp [bIsInt, Dv.envOf]
def bIsAmE : Ex := (.call "_law_is_int" (.cons (.var 1) .nil))
def bIsAmC : Ex := (.comp bIsAmE (.nm 1) (.seq (.var 0)) .none [1])
def bIsAm : Sxs := (.cons 
    (.ite (.or_ (.cons (.not_ (.val (.isi .tup (.var 0)))) (.cons (.cmp .NotEq (.blt .len (.cons (.var 0) .nil)) (.cst (.int 2))) (.cons (.not_ (.val (.blt .all (.cons bIsAmC .nil)))) .nil)))) (.cons 
    (.ret (.cst (.bl false))) .nil) .nil) (.cons 
    (.ret (.and_ (.cons (.cmp .GtE (.idx (.var 0) (.cst (.int 1))) (.cst (.int 1))) (.cons (.cmp .Eq (.call "_law_gcd" (.cons (.idx (.var 0) (.cst (.int 0))) (.cons (.idx (.var 0) (.cst (.int 1))) .nil))) (.cst (.int 1))) .nil)))) .nil))
theorem is_am_run (hI : ∀ i : Int, F.call "_law_is_int" [.val (.int i)] = .ok (.val (.bl true), [.val (.int i)])) (hg : ∀ n d : Int, d.natAbs < oC → F.call "_law_gcd" [.val (.int n), .val (.int d)] = .ok (.val (.int ((Nat.gcd n.natAbs d.natAbs : Nat) : Int)), [.val (.int n), .val (.int d)]))
    (hdfl : ∀ n, F.dfl "_law_is_int" n = []) (hdfl2 : ∀ n, F.dfl "_law_gcd" n = []) {q : Rat} (hq : Ok q) : runDef F M 2 bIsAm [.val (am q)] = .ok (.val (.bl true), [.val (am q)]) := by
  have e : ev F bIsAmC [some (.val (am q)), none] = .ok (.own (.lst [.bl true, .bl true]), [some (.val (am q)), none]) :=
    comp_mapE (xs := [q.num, (q.den : Int)]) (f := D.int) (g := fun _ => .bl true) (ρ1 := [some (.val (am q)), none]) (ρw := [some (.val (am q)), none]) (p := .val (am q))
      (by simp [am]) (by simp) (by simp [sizeLine]) (fun x _ => by simp [turnW, turnR, bIsAmE, hI, hdfl]) (fun out => by simp [compEnd])
  have hx := oB_oC
  have hy : oB ≤ oB * oB := Nat.le_mul_of_pos_left _ oB_pos
  have hl : q.den < oB := hq.2
  have g := hg q.num q.den (by omega)
  have g1 : Nat.gcd q.num.natAbs (q.den : Int).natAbs = 1 := q.reduced
  rw [g1] at g
  have ne2 := ne_nice (k := 0) (d := .int 2) (e := .int 2) nice_int nice_int (by decide)
  have eq1 := eq_nice (k := 0) (d := .int 1) (e := .int 1) nice_int nice_int (by decide)
  have hd1 : (1 : Int) ≤ (q.den : Int) := by have := q.den_pos; omega
  have e1 : isTy .tup (am q) = .ok true := rfl
  have e2 : dLen (am q) = .ok 2 := rfl
  simp [bIsAm, Dv.envOf, e1, e2, -c37_dCmp, -c36_dCmp, ne2, eq1, e, g, hdfl, hdfl2, hd1]
def bIsRowE : Ex := (.call "_law_is_amount" (.cons (.var 2) .nil))
def bIsRowC : Ex := (.comp bIsRowE (.nm 2) (.seq (.var 0)) .none [2])
def bIsRow : Sxs := (.cons 
    (.ret (.and_ (.cons (.isi .tup (.var 0)) (.cons (.cmp .Eq (.blt .len (.cons (.var 0) .nil)) (.var 1)) (.cons (.blt .all (.cons bIsRowC .nil)) .nil))))) .nil)
theorem bls_true {α : Type} {l : List α} : bls (l.map fun _ => D.bl true) = some (l.map fun _ => true) := by
  induction l with
  | nil => rfl
  | cons a t ih =>
    rw [List.map_cons, List.map_cons, bls, ih]
    rfl
@[simp] theorem all_tt {α : Type} {l : List α} : (l.all fun _ => true) = true := by simp
theorem all_true {α : Type} {l : List α} : ((l.map fun _ => true).all id) = true := by simp
theorem is_row_run (hA : ∀ q : Rat, Ok q → F.call "_law_is_amount" [.val (am q)] = .ok (.val (.bl true), [.val (am q)])) (hdfl : ∀ n, F.dfl "_law_is_amount" n = []) {l : List Rat} {n : Nat} (hn : n = l.length) (hl : l.length < sizeLine) (h : ∀ q ∈ l, Ok q) :
    runDef F M 3 bIsRow [.val (.tup (l.map am)), .val (.int (n : Nat))] = .ok (.val (.bl true), [.val (.tup (l.map am)), .val (.int (n : Nat))]) := by
  subst hn
  have e : ev F bIsRowC [some (.val (.tup (l.map am))), some (.val (.int (l.length : Nat))), none] = .ok (.own (.lst (l.map fun _ => .bl true)), [some (.val (.tup (l.map am))), some (.val (.int (l.length : Nat))), none]) :=
    comp_mapE (xs := l) (f := am) (g := fun _ => .bl true) (ρ1 := [some (.val (.tup (l.map am))), some (.val (.int (l.length : Nat))), none]) (ρw := [some (.val (.tup (l.map am))), some (.val (.int (l.length : Nat))), none]) (p := .val (.tup (l.map am)))
      (by simp) (by simp) hl (fun x hx => by simp [turnW, turnR, bIsRowE, hA x (h x hx), hdfl]) (fun out => by simp [compEnd])
  have eq1 := eq_nice (k := 0) (d := .int (l.length : Nat)) (e := .int (l.length : Nat)) nice_int nice_int (by decide)
  have b1 := bls_true (l := l)
  generalize l.map (fun _ => D.bl true) = bl at *
  simp [bIsRow, Dv.envOf, -c36_dCmp, eq1, e, b1]
end
end Dv
namespace Dv
open PySem PySem.Spec PyProof.Rows L2
/-- how often a while may turn -/
def MM : Nat := oC + 1000001
theorem MM_oC : oC ≤ MM := Nat.le_add_right _ _
theorem MM_lo : 1000001 ≤ MM := Nat.le_add_left _ _
def bLInt : Sxs := (.cons 
    (.ret (.tup (.cons (.var 0) (.cons (.cst (.int 1)) .nil)))) .nil)
theorem lint_run {F : Fn} {M : Nat} (i : Int) : runDef F M 1 bLInt [.val (.int i)] = .ok (.val (am (i : Rat)), [.val (.int i)]) := by
  have k2 : 2 ≤ sizeLine := by decide
  simp [bLInt, Dv.envOf, k2, am_int]
end Dv
namespace Dv
open PySem PySem.Spec PyProof.Rows L2
theorem divInt_pos {n d : Int} (hn : 0 < n) (hd : 0 < d) : 0 < Rat.divInt n d := by
  rw [Rat.divInt_eq_div, Rat.lt_div_iff (Rat.intCast_pos.mpr hd), Rat.zero_mul]
  exact Rat.intCast_pos.mpr hn
theorem divInt_nn {n d : Int} (hn : 0 ≤ n) (hd : 0 < d) : 0 ≤ Rat.divInt n d := Rat.divInt_nonneg hn (Int.le_of_lt hd)
theorem rng_congr {n : Nat} {f g : Nat → D} (h : ∀ k, k < n → f k = g k) : (List.range n).map f = (List.range n).map g := List.map_congr_left fun k hk => h k (List.mem_range.mp hk)
theorem rng_snoc {n : Nat} {f : Nat → D} : (List.range (n + 1)).map f = (List.range n).map f ++ [f n] := by rw [List.range_succ, List.map_append]; rfl
theorem len_lt {n : Nat} (h : n < 16777216) : n < sizeLine := h
theorem len_le {n : Nat} (h : n ≤ 16777216) : n ≤ sizeLine := h
end Dv
namespace Dv
open PySem PySem.Spec PyProof.Rows L2
theorem oC_big {x : Nat} (h : x < 2 ^ 64) : x < oC := Nat.lt_of_lt_of_le h (Nat.pow_le_pow_right (by decide) (by decide))
@[simp] theorem atI_4 {α : Type} {x y z w v : α} {l : List α} : atI (x :: y :: z :: w :: v :: l) 4 = some v := by
  unfold atI ixN
  rw [if_pos (by decide), if_pos (by simp; omega)]
  rfl
@[simp] theorem atI_5 {α : Type} {x y z w v u : α} {l : List α} : atI (x :: y :: z :: w :: v :: u :: l) 5 = some u := by
  unfold atI ixN
  rw [if_pos (by decide), if_pos (by simp; omega)]
  rfl
end Dv
namespace Dv
open PySem PySem.Spec PyProof.Rows L2
section
variable {F : Fn} {N : Nat} {tg : Tg} {it : Ie} {b : Sxs} {ρ ρ1 ρ' : Env'} {S : Sx}
/-- a loop over a range -/
theorem for_rng (hS : S = .for_ tg it b) {m : Nat} (I : Nat → Env' → Prop) (hi : evi F it ρ = .ok (((List.range m).map fun k => D.int (k : Nat), .val .non), ρ1)) (h0 : I 0 ρ1)
    (step : ∀ i ρ, i < m → I i ρ → ∃ ρ', (turnX F N tg b (.int (i : Nat)) ρ = .ok (.nx, ρ') ∨ turnX F N tg b (.int (i : Nat)) ρ = .ok (.ct, ρ')) ∧ I (i + 1) ρ') : ∃ ρ', I m ρ' ∧ ex F N S ρ = .ok (.nx, ρ') := by
  obtain ⟨ρ', h, e⟩ := for_st (F := F) (N := N) (tg := tg) (b := b) (xs := List.range m) (f := fun k => D.int (k : Nat)) I hi h0 fun i x ρ hx hI => by
    obtain ⟨hi, rfl⟩ := List.getElem?_eq_some_iff.mp hx
    rw [List.getElem_range]
    rw [List.length_range] at hi
    exact step i ρ hi hI
  rw [List.length_range] at h
  subst hS
  exact ⟨ρ', h, e⟩
/-- a loop over a value's items -/
theorem for_val (hS : S = .for_ tg it b) {α : Type} {xs : List α} {f : α → D} {d : D} (I : Nat → Env' → Prop) (hi : evi F it ρ = .ok ((xs.map f, .val d), ρ1)) (h0 : I 0 ρ1)
    (step : ∀ i x ρ, xs[i]? = some x → I i ρ → ∃ ρ', (turnX F N tg b (f x) ρ = .ok (.nx, ρ') ∨ turnX F N tg b (f x) ρ = .ok (.ct, ρ')) ∧ I (i + 1) ρ') : ∃ ρ', I xs.length ρ' ∧ ex F N S ρ = .ok (.nx, ρ') := by
  obtain ⟨ρ', h, e⟩ := for_st (F := F) (N := N) (tg := tg) (b := b) (xs := xs) (f := f) I hi h0 step
  subst hS
  exact ⟨ρ', h, e⟩
/-- .. of a slot's list, locked meanwhile -/
theorem for_slot (hS : S = .for_ tg it b) {α : Type} {xs : List α} {f : α → D} {j : Nat} (I : Nat → Env' → Prop) (hi : evi F it ρ = .ok ((xs.map f, .at_ j), ρ1)) {o : Option Nat} {ρl : Env'} (hl : lockP (.at_ j) ρ1 = (o, ρl)) (h0 : I 0 ρl)
    (step : ∀ i x ρ, xs[i]? = some x → I i ρ → ∃ ρ', (turnX F N tg b (f x) ρ = .ok (.nx, ρ') ∨ turnX F N tg b (f x) ρ = .ok (.ct, ρ')) ∧ I (i + 1) ρ') : ∃ ρ', I xs.length ρ' ∧ ex F N S ρ = (unlock o ρ').bind fun ρ => .ok (.nx, ρ) := by
  obtain ⟨ρ', h, e⟩ := for_st (F := F) (N := N) (tg := tg) (b := b) (xs := xs) (f := f) I hi (by rw [hl]; exact h0) step
  subst hS
  rw [hl] at e
  exact ⟨ρ', h, e⟩
end
end Dv
namespace Dv
open PySem PySem.Spec PyProof.Rows L2
theorem Bd.k60 {L N : Nat} {q : Rat} (h : Bd L N q) (h0 : 0 < L) (h1 : L < 2 ^ 60) (h2 : N < 2 ^ 60) : K 60 q := h.k h0 h1 h2 (by decide)
theorem K.ok60 {q : Rat} (h : K 60 q) : Ok q := h.ok (by decide)
end Dv
namespace Dv
open PySem PySem.Spec PyProof.Rows L2
@[simp high] theorem eq_int {i j : Int} : dCmp .Eq (.int i) (.int j) = .ok (decide (i = j)) := by
  rw [eq_nice (k := 0) nice_int nice_int (by decide)]
  simp
@[simp high] theorem ne_int {i j : Int} : dCmp .NotEq (.int i) (.int j) = .ok (!decide (i = j)) := by
  rw [ne_nice (k := 0) nice_int nice_int (by decide)]
  simp
/-- numbers as data -/
abbrev iD (z : Nat) : D := .int (z : Nat)
theorem nice_ints {k : Nat} {l : List Nat} : nice (k + 1) (.lst (l.map iD)) := fun e he => by
  obtain ⟨z, _, rfl⟩ := List.mem_map.mp he
  exact nice_int
theorem in_ints {k : Nat} {l : List Nat} : dIn (.int (k : Nat)) (.lst (l.map iD)) = .ok (decide (k ∈ l)) := by
  rw [dIn_lst, need_true ⟨nice_shp (k := 0) nice_int (by decide), nice_shp (k := 1) nice_ints (by decide)⟩]
  congr 1
  rw [List.any_map]
  by_cases h : k ∈ l
  · rw [decide_eq_true h, List.any_eq_true]
    exact ⟨k, h, by show deq _ _ = true; rw [deq_nice (k := 0) nice_int nice_int]; simp⟩
  · rw [decide_eq_false h, List.any_eq_false]
    intro x hx
    show ¬ deq _ _ = true
    rw [deq_nice (k := 0) nice_int nice_int]
    simp
    intro e
    exact h (by rw [show k = x by omega]; exact hx)
theorem map_rng {α β : Type} {l : List α} (f : α → β) (d0 : α) : l.map f = (List.range l.length).map fun k => f (l.getD k d0) := by
  apply List.ext_getElem
  · simp
  · intro i h1 h2
    simp at h1 ⊢
    simp [h1]
theorem mul_small {i j : Int} (h1 : i.natAbs < 2 ^ 64) (h2 : j.natAbs < 2 ^ 64) : CMulX i j := by
  have a := bits_lt h1
  have b := bits_lt h2
  unfold CMulX
  omega
end Dv

set_option Elab.async false
set_option linter.all false
set_option maxRecDepth 100000
set_option maxHeartbeats 1000000
namespace Dv
open PySem PySem.Spec PyProof.Rows L2
theorem perm_map {α β : Type} {f : α → β} {l m : List β} (h : l.Perm m) : ∀ ts : List α, m = ts.map f → ∃ ts' : List α, l = ts'.map f ∧ ts'.Perm ts := by
  induction h with
  | nil => intro ts e; exact ⟨ts, e, .refl _⟩
  | cons x _ ih =>
    intro ts e
    cases ts with
    | nil => cases e
    | cons t ts =>
      rw [List.map_cons] at e
      injection e with e1 e2
      obtain ⟨ts', h1, h2⟩ := ih ts e2
      exact ⟨t :: ts', by rw [List.map_cons, h1, e1], List.Perm.cons t h2⟩
  | swap x y l =>
    intro ts e
    cases ts with
    | nil => cases e
    | cons t ts => cases ts with
      | nil => cases e
      | cons u ts =>
        rw [List.map_cons, List.map_cons] at e
        injection e with e1 e2
        injection e2 with e2 e3
        exact ⟨u :: t :: ts, by rw [List.map_cons, List.map_cons, e1, e2, e3], List.Perm.swap _ _ _⟩
  | trans _ _ ih1 ih2 =>
    intro ts e
    obtain ⟨ts1, h1, h2⟩ := ih2 ts e
    obtain ⟨ts2, h3, h4⟩ := ih1 ts1 h1
    exact ⟨ts2, h3, h4.trans h2⟩
theorem forR_bk {f : D → Env' → Rs (Fl × Env')} {Q : Env' → Prop} : ∀ {l : List D} {I : Nat → Env' → Prop} {ρ : Env'} {k : Nat},
    (∀ (i : Nat) (d : D) (ρ : Env'), l[i]? = some d → I (k + i) ρ → ∃ ρ', ((f d ρ = .ok (.nx, ρ') ∨ f d ρ = .ok (.ct, ρ')) ∧ I (k + i + 1) ρ') ∨ (f d ρ = .ok (.bk, ρ') ∧ Q ρ')) → I k ρ → ∃ ρ', forR f l ρ = .ok (.nx, ρ') ∧ (I (k + l.length) ρ' ∨ Q ρ')
  | [], I, ρ, k, _, h => ⟨ρ, rfl, .inl h⟩
  | d :: l, I, ρ, k, step, h => by
    obtain ⟨ρ1, ⟨e1, h1⟩ | ⟨e1, q⟩⟩ := step 0 d ρ rfl h
    · obtain ⟨ρ2, e2, h2⟩ := forR_bk (l := l) (I := I) (ρ := ρ1) (k := k + 1) (fun i d ρ e hi => by
        have := step (i + 1) d ρ (by simpa using e) (by rw [show k + (i + 1) = k + 1 + i by omega]; exact hi)
        rw [show k + (i + 1) = k + 1 + i by omega] at this
        exact this) h1
      refine ⟨ρ2, ?_, ?_⟩
      · show (f d ρ).bind _ = _
        rcases e1 with e1 | e1 <;> rw [e1] <;> exact e2
      · rw [List.length_cons, show k + (l.length + 1) = k + 1 + l.length by omega]
        exact h2
    · refine ⟨ρ1, ?_, .inr q⟩
      show (f d ρ).bind _ = _
      rw [e1]
      rfl
/-- a loop over a value's items that may break off -/
theorem for_vbk {F : Fn} {N : Nat} {tg : Tg} {it : Ie} {b : Sxs} {ρ ρ1 : Env'} {S : Sx} (hS : S = .for_ tg it b) {α : Type} {xs : List α} {f : α → D} {d : D} (I : Nat → Env' → Prop) (Q : Env' → Prop) (hi : evi F it ρ = .ok ((xs.map f, .val d), ρ1)) (h0 : I 0 ρ1)
    (step : ∀ i x ρ, xs[i]? = some x → I i ρ → ∃ ρ', ((turnX F N tg b (f x) ρ = .ok (.nx, ρ') ∨ turnX F N tg b (f x) ρ = .ok (.ct, ρ')) ∧ I (i + 1) ρ') ∨ (turnX F N tg b (f x) ρ = .ok (.bk, ρ') ∧ Q ρ')) : ∃ ρ', (I xs.length ρ' ∨ Q ρ') ∧ ex F N S ρ = .ok (.nx, ρ') := by
  obtain ⟨ρ', e, h⟩ := forR_bk (f := turnX F N tg b) (l := xs.map f) (I := I) (Q := Q) (k := 0) (ρ := ρ1) (fun i d ρ ed h => by
    rw [Nat.zero_add] at h ⊢
    rw [List.getElem?_map] at ed
    cases hx : xs[i]? with
    | none => rw [hx] at ed; cases ed
    | some x =>
      rw [hx] at ed
      cases ed
      exact step i x ρ hx h) h0
  rw [Nat.zero_add, List.length_map] at h
  subst hS
  exact ⟨ρ', h, for_ok hi e⟩
/-- a loop over a new list's items -/
theorem for_new {F : Fn} {N : Nat} {tg : Tg} {it : Ie} {b : Sxs} {ρ ρ1 : Env'} {S : Sx} (hS : S = .for_ tg it b) {α : Type} {xs : List α} {f : α → D} {d : D} (I : Nat → Env' → Prop) (hi : evi F it ρ = .ok ((xs.map f, .own d), ρ1)) (h0 : I 0 ρ1)
    (step : ∀ i x ρ, xs[i]? = some x → I i ρ → ∃ ρ', (turnX F N tg b (f x) ρ = .ok (.nx, ρ') ∨ turnX F N tg b (f x) ρ = .ok (.ct, ρ')) ∧ I (i + 1) ρ') : ∃ ρ', I xs.length ρ' ∧ ex F N S ρ = .ok (.nx, ρ') := by
  obtain ⟨ρ', h, e⟩ := for_st (F := F) (N := N) (tg := tg) (b := b) (xs := xs) (f := f) I hi h0 step
  subst hS
  exact ⟨ρ', h, e⟩

theorem forR_rt {f : D → Env' → Rs (Fl × Env')} {Q : P → Env' → Prop} : ∀ {l : List D} {I : Nat → Env' → Prop} {ρ : Env'} {k : Nat},
    (∀ (i : Nat) (d : D) (ρ : Env'), l[i]? = some d → I (k + i) ρ → (∃ ρ', (f d ρ = .ok (.nx, ρ') ∨ f d ρ = .ok (.ct, ρ')) ∧ I (k + i + 1) ρ') ∨ ∃ p ρ', f d ρ = .ok (.rt p, ρ') ∧ Q p ρ') → I k ρ →
    (∃ ρ', forR f l ρ = .ok (.nx, ρ') ∧ I (k + l.length) ρ') ∨ ∃ p ρ', forR f l ρ = .ok (.rt p, ρ') ∧ Q p ρ'
  | [], I, ρ, k, _, h => .inl ⟨ρ, rfl, h⟩
  | d :: l, I, ρ, k, step, h => by
    rcases step 0 d ρ rfl h with ⟨ρ1, e1, h1⟩ | ⟨p, ρ1, e1, q⟩
    · rcases forR_rt (l := l) (I := I) (ρ := ρ1) (k := k + 1) (fun i d ρ e hi => by
        have := step (i + 1) d ρ (by simpa using e) (by rw [show k + (i + 1) = k + 1 + i by omega]; exact hi)
        rw [show k + (i + 1) = k + 1 + i by omega] at this
        exact this) h1 with ⟨ρ2, e2, h2⟩ | ⟨p, ρ2, e2, h2⟩
      · refine .inl ⟨ρ2, ?_, ?_⟩
        · show (f d ρ).bind _ = _
          rcases e1 with e1 | e1 <;> rw [e1] <;> exact e2
        · rw [List.length_cons, show k + (l.length + 1) = k + 1 + l.length by omega]
          exact h2
      · refine .inr ⟨p, ρ2, ?_, h2⟩
        show (f d ρ).bind _ = _
        rcases e1 with e1 | e1 <;> rw [e1] <;> exact e2
    · refine .inr ⟨p, ρ1, ?_, q⟩
      show (f d ρ).bind _ = _
      rw [e1]
      rfl
/-- a loop over a value's items that may return -/
theorem for_vrt {F : Fn} {N : Nat} {tg : Tg} {it : Ie} {b : Sxs} {ρ ρ1 : Env'} {S : Sx} (hS : S = .for_ tg it b) {α : Type} {xs : List α} {f : α → D} {d : D} (I : Nat → Env' → Prop) (Q : P → Env' → Prop) (hi : evi F it ρ = .ok ((xs.map f, .val d), ρ1)) (h0 : I 0 ρ1)
    (step : ∀ i x ρ, xs[i]? = some x → I i ρ → (∃ ρ', (turnX F N tg b (f x) ρ = .ok (.nx, ρ') ∨ turnX F N tg b (f x) ρ = .ok (.ct, ρ')) ∧ I (i + 1) ρ') ∨ ∃ p ρ', turnX F N tg b (f x) ρ = .ok (.rt p, ρ') ∧ Q p ρ') :
    (∃ ρ', I xs.length ρ' ∧ ex F N S ρ = .ok (.nx, ρ')) ∨ ∃ p ρ', Q p ρ' ∧ ex F N S ρ = .ok (.rt p, ρ') := by
  have key := forR_rt (f := turnX F N tg b) (l := xs.map f) (I := I) (Q := Q) (k := 0) (ρ := ρ1) (fun i d ρ ed h => by
    rw [Nat.zero_add] at h ⊢
    rw [List.getElem?_map] at ed
    cases hx : xs[i]? with
    | none => rw [hx] at ed; cases ed
    | some x =>
      rw [hx] at ed
      cases ed
      exact step i x ρ hx h) h0
  rw [Nat.zero_add, List.length_map] at key
  subst hS
  rcases key with ⟨ρ', e, h⟩ | ⟨p, ρ', e, h⟩
  · exact .inl ⟨ρ', h, for_ok hi e⟩
  · refine .inr ⟨p, ρ', h, ?_⟩
    rw [r_ex_for_, hi]
    show (forR (turnX F N tg b) (xs.map f) ρ1).bind _ = _
    rw [e]
    rfl
theorem zip_rng {n : Nat} {f g : Nat → D} : zipD [(List.range n).map f, (List.range n).map g] = (List.range n).map fun k => D.tup [f k, g k] := by
  apply List.ext_getElem
  · simp [zipD]
  · intro i h1 h2
    simp [zipD]
theorem enm_rng {n : Nat} {f : Nat → D} : enmD ((List.range n).map f) = (List.range n).map fun k => D.tup [.int (k : Nat), f k] := by
  apply List.ext_getElem
  · simp [enmD]
  · intro i h1 h2
    simp [enmD]
theorem nice_ams {α : Type} {us : List α} (f : α → Rat) : nice 2 (.tup (us.map fun t => am (f t))) := fun x hx => by
  obtain ⟨t, _, rfl⟩ := List.mem_map.mp hx
  exact nice_am
theorem draw_frac {a b : Nat} {c : Int} {L N : Nat} (hb : 0 < b) (hL : (L : Int) = (b : Int) * c) (hN : a * c.natAbs ≤ N) : Bd L N (Rat.divInt (a : Int) (b : Int)) := Bd.divInt c (by omega) hL (by rw [Int.natAbs_mul]; exact hN)
theorem slc_take {l : List D} {k : Nat} : dSlc (.tup l) none (some (k : Int)) = .ok (.val (.tup (l.take k))) := by
  rw [c98_dSlc]
  have h1 : HT.sIx l.length 0 none = 0 := rfl
  have h2 : HT.sIx l.length l.length (some (k : Int)) = min k l.length := HT.sIx_nat _ _ k
  rw [h1, h2, Nat.sub_zero, List.drop_zero]
  by_cases h : k ≤ l.length
  · rw [Nat.min_eq_left h]
  · rw [Nat.min_eq_right (by omega), List.take_of_length_le (Nat.le_refl _), List.take_of_length_le (by omega)]
end Dv

set_option Elab.async false
set_option linter.all false
set_option maxRecDepth 100000
set_option maxHeartbeats 0
namespace Wk16
open PySem PySem.Spec PyProof.Rows L2 Dv
def top (i : Nat) : Stmt := PySem.Challenge.pw_cedewheel_k16_journals_checked.main.body.getD i (.Pass ⟨0, 0, 0, 0⟩)
def frees : List Str := ["abs", "bool", "int", "isinstance", "len", "list", "max", "min", "range", "str", "tuple"]
def bts : List (Str × String) := []
def ecs : List ErC := [⟨"BadEntry", ["at", "reason"], [("BadAmount", false), ("BadEntry", true), ("BadPart", false), ("BadRates", false), ("BadText", false), ("CedeError", true), ("NoSettlement", false), ("OwnTaker", false), ("TooFew", false), ("TooMany", false), ("TooSteep", false), ("Twice", false), ("Unknown", false), ("Unlike", false), ("Unvalued", false)]⟩]
def his : List Str := ["_law_is_int"]
def glo (x : Str) : Option D := if x = "MOST_ENTRIES" then some (.int 60) else if x = "MOST_EVENTS" then some (.int 12) else none
def E__law_begin_0 : Ex := (.blt .int (.cons (.var 1) .nil))
def C__law_begin_0 : Ex := (.comp E__law_begin_0 (.nm 1) (.seq (.var 0)) .none [1])
def b__law_begin : Sxs := (.cons 
    (.ret (.lst (.cons C__law_begin_0 (.cons (.cst (.int 0)) (.cons (.cst (.int 0)) (.cons (.cst (.int 7)) (.cons (.cst (.int 3)) .nil))))))) .nil)
def d__law_begin : Dm := ⟨"_law_begin", 1, 1, 2, b__law_begin, fun _ => []⟩
def ds0 : List Dm := []
noncomputable def F0 (M : Nat) : Fn := mkF glo M ds0
def N__law_begin : List Str := ["script", "cell"]
def P__law_begin : List Str := ["script"]
theorem sc__law_begin : FnScope N__law_begin P__law_begin (defScope (top 32)) := ⟨by kernel_rfl, by kernel_rfl, by kernel_rfl, by decide +kernel, by kernel_rfl, by decide +kernel, by decide +kernel⟩
theorem ck__law_begin : ckSs (gnOf frees bts ecs his ds0) N__law_begin 1 (defScope (top 32)) b__law_begin (defBody (top 32)) = true := by decide +kernel
def b__law_draw : Sxs := (.cons 
    (.ite (.cmp .Gt (.idx (.var 0) (.cst (.int 2))) (.cst (.int 0))) (.cons 
    (.set 3 (.idx (.var 0) (.cst (.int 2)))) (.cons 
    (.setI 0 (.cst (.int 2)) (.bin .FloorDiv (.var 3) (.var 1))) (.cons 
    (.ret (.bin .Mod (.blt .int (.cons (.var 3) .nil)) (.var 1))) .nil))) .nil) (.cons 
    (.set 2 (.cst (.int 0))) (.cons 
    (.ite (.cmp .Lt (.idx (.var 0) (.cst (.int 1))) (.blt .len (.cons (.idx (.var 0) (.cst (.int 0))) .nil))) (.cons 
    (.set 4 (.idx (.idx (.var 0) (.cst (.int 0))) (.idx (.var 0) (.cst (.int 1))))) (.cons 
    (.set 2 (.bin .Add (.bin .Mult (.cst (.int 2)) (.blt .abs (.cons (.var 4) .nil))) (.blt .int (.cons (.cmp .Lt (.var 4) (.cst (.int 0))) .nil)))) .nil)) .nil) (.cons 
    (.augI 0 .Add (.cst (.int 1)) (.cst (.int 1))) (.cons 
    (.ite (.cmp .GtE (.var 2) (.bin .Mult (.cst (.int 2)) (.bin .Pow (.cst (.int 10)) (.cst (.int 18))))) (.cons 
    (.set 3 (.bin .Mod (.blt .int (.cons (.bin .FloorDiv (.var 2) (.cst (.int 2))) .nil)) (.bin .LShift (.cst (.int 1)) (.cst (.int 6000))))) (.cons 
    (.setI 0 (.cst (.int 2)) (.bin .FloorDiv (.var 3) (.var 1))) (.cons 
    (.ret (.bin .Mod (.blt .int (.cons (.var 3) .nil)) (.var 1))) .nil))) .nil) (.cons 
    (.setI 0 (.cst (.int 3)) (.bin .Mod (.blt .int (.cons (.bin .Add (.bin .Add (.bin .Add (.bin .Mult (.idx (.var 0) (.cst (.int 3))) (.cst (.int 48271))) (.bin .Mult (.bin .Mod (.blt .int (.cons (.var 2) .nil)) (.cst (.int 2147483629))) (.cst (.int 16807)))) (.bin .Mult (.idx (.var 0) (.cst (.int 1))) (.cst (.int 69621)))) (.cst (.int 11))) .nil)) (.cst (.int 2147483647)))) (.cons 
    (.ret (.bin .Mod (.blt .int (.cons (.bin .FloorDiv (.idx (.var 0) (.cst (.int 3))) (.cst (.int 16))) .nil)) (.var 1))) .nil)))))))
def d__law_draw : Dm := ⟨"_law_draw", 2, 2, 5, b__law_draw, fun _ => []⟩
def ds1 : List Dm := d__law_begin :: ds0
noncomputable def F1 (M : Nat) : Fn := mkF glo M ds1
def N__law_draw : List Str := ["d", "many", "size", "found", "cell"]
def P__law_draw : List Str := ["d", "many"]
theorem sc__law_draw : FnScope N__law_draw P__law_draw (defScope (top 33)) := ⟨by kernel_rfl, by kernel_rfl, by kernel_rfl, by decide +kernel, by kernel_rfl, by decide +kernel, by decide +kernel⟩
theorem ck__law_draw : ckSs (gnOf frees bts ecs his ds1) N__law_draw 2 (defScope (top 33)) b__law_draw (defBody (top 33)) = true := by decide +kernel
def B__law_shuffled_0 : Sxs := (.cons 
    (.expr (.chg .append 3 (.cons (.chg .popAt 2 (.cons (.call "_law_draw" (.cons (.var 0) (.cons (.blt .len (.cons (.var 2) .nil)) .nil))) .nil)) .nil))) .nil)
def S__law_shuffled_0 : Sx := (.for_ (.nm 4) (.rng (.blt .len (.cons (.var 2) .nil))) B__law_shuffled_0)
def b__law_shuffled : Sxs := (.cons 
    (.set 2 (.blt .list (.cons (.var 1) .nil))) (.cons 
    (.set 3 (.lst .nil)) (.cons 
    S__law_shuffled_0 (.cons 
    (.ret (.var 3)) .nil))))
def d__law_shuffled : Dm := ⟨"_law_shuffled", 2, 2, 5, b__law_shuffled, fun _ => []⟩
def ds2 : List Dm := d__law_draw :: ds1
noncomputable def F2 (M : Nat) : Fn := mkF glo M ds2
def N__law_shuffled : List Str := ["d", "row", "left", "found", "k"]
def P__law_shuffled : List Str := ["d", "row"]
theorem sc__law_shuffled : FnScope N__law_shuffled P__law_shuffled (defScope (top 37)) := ⟨by kernel_rfl, by kernel_rfl, by kernel_rfl, by decide +kernel, by kernel_rfl, by decide +kernel, by decide +kernel⟩
theorem ck__law_shuffled : ckSs (gnOf frees bts ecs his ds2) N__law_shuffled 2 (defScope (top 37)) b__law_shuffled (defBody (top 37)) = true := by decide +kernel
def b__law_pool : Sxs := (.cons 
    (.set 0 (.cst (.str "a b2 sum1 ark r k0 carry z9z full tail n m8 aa busy cnt p t4 even2 ab1 head u v2 w lowest high "))) (.cons 
    (.set 0 (.bin .Add (.var 0) (.cst (.str "mid s t e f g h i j k x y q7 deep turn gate l5 hold next1 o c0 d two zz1 near far9 last ring2 ")))) (.cons 
    (.set 0 (.bin .Add (.var 0) (.cst (.str "aaaaaaa8 b c1 top2 net3 row col7 v booka money1 rates toy inn onto thenb overs shares")))) (.cons 
    (.ret (.met .split (.var 0) (.cons (.cst (.str " ")) .nil))) .nil))))
def d__law_pool : Dm := ⟨"_law_pool", 0, 0, 1, b__law_pool, fun _ => []⟩
def ds3 : List Dm := d__law_shuffled :: ds2
noncomputable def F3 (M : Nat) : Fn := mkF glo M ds3
def N__law_pool : List Str := ["text"]
def P__law_pool : List Str := []
theorem sc__law_pool : FnScope N__law_pool P__law_pool (defScope (top 38)) := ⟨by kernel_rfl, by kernel_rfl, by kernel_rfl, by decide +kernel, by kernel_rfl, by decide +kernel, by decide +kernel⟩
theorem ck__law_pool : ckSs (gnOf frees bts ecs his ds3) N__law_pool 0 (defScope (top 38)) b__law_pool (defBody (top 38)) = true := by decide +kernel
def B__law_gcd_0 : Sxs := (.cons 
    (.par 2 3 (.var 3) (.bin .Mod (.blt .int (.cons (.var 2) .nil)) (.var 3))) .nil)
def S__law_gcd_0 : Sx := (.whl (.cmp .Gt (.var 3) (.cst (.int 0))) B__law_gcd_0)
def b__law_gcd : Sxs := (.cons 
    (.set 2 (.blt .abs (.cons (.var 0) .nil))) (.cons 
    (.set 3 (.blt .abs (.cons (.var 1) .nil))) (.cons 
    S__law_gcd_0 (.cons 
    (.ret (.var 2)) .nil))))
def d__law_gcd : Dm := ⟨"_law_gcd", 2, 2, 4, b__law_gcd, fun _ => []⟩
def ds4 : List Dm := d__law_pool :: ds3
noncomputable def F4 (M : Nat) : Fn := mkF glo M ds4
def N__law_gcd : List Str := ["a", "b", "one", "two"]
def P__law_gcd : List Str := ["a", "b"]
theorem sc__law_gcd : FnScope N__law_gcd P__law_gcd (defScope (top 40)) := ⟨by kernel_rfl, by kernel_rfl, by kernel_rfl, by decide +kernel, by kernel_rfl, by decide +kernel, by decide +kernel⟩
theorem ck__law_gcd : ckSs (gnOf frees bts ecs his ds4) N__law_gcd 2 (defScope (top 40)) b__law_gcd (defBody (top 40)) = true := by decide +kernel
def b__law_amount : Sxs := (.cons 
    (.set 2 (.call "_law_gcd" (.cons (.var 0) (.cons (.var 1) .nil)))) (.cons 
    (.ite (.cmp .Lt (.var 1) (.cst (.int 0))) (.cons 
    (.set 2 (.neg (.var 2))) .nil) .nil) (.cons 
    (.ret (.tup (.cons (.bin .FloorDiv (.var 0) (.var 2)) (.cons (.bin .FloorDiv (.var 1) (.var 2)) .nil)))) .nil)))
def d__law_amount : Dm := ⟨"_law_amount", 2, 2, 3, b__law_amount, fun _ => []⟩
def ds5 : List Dm := d__law_gcd :: ds4
noncomputable def F5 (M : Nat) : Fn := mkF glo M ds5
def N__law_amount : List Str := ["n", "d", "common"]
def P__law_amount : List Str := ["n", "d"]
theorem sc__law_amount : FnScope N__law_amount P__law_amount (defScope (top 41)) := ⟨by kernel_rfl, by kernel_rfl, by kernel_rfl, by decide +kernel, by kernel_rfl, by decide +kernel, by decide +kernel⟩
theorem ck__law_amount : ckSs (gnOf frees bts ecs his ds5) N__law_amount 2 (defScope (top 41)) b__law_amount (defBody (top 41)) = true := by decide +kernel
def b__law_gap : Sxs := (.cons 
    (.set 1 (.idx (.lst (.cons (.cst (.int 1)) (.cons (.cst (.int 1)) (.cons (.cst (.int 1)) (.cons (.cst (.int 2)) (.cons (.cst (.int 3)) .nil)))))) (.call "_law_draw" (.cons (.var 0) (.cons (.cst (.int 5)) .nil))))) (.cons 
    (.ret (.call "_law_amount" (.cons (.bin .Add (.cst (.int 1)) (.call "_law_draw" (.cons (.var 0) (.cons (.cst (.int 24)) .nil)))) (.cons (.var 1) .nil)))) .nil))
def d__law_gap : Dm := ⟨"_law_gap", 1, 1, 2, b__law_gap, fun _ => []⟩
def ds6 : List Dm := d__law_amount :: ds5
noncomputable def F6 (M : Nat) : Fn := mkF glo M ds6
def N__law_gap : List Str := ["d", "under"]
def P__law_gap : List Str := ["d"]
theorem sc__law_gap : FnScope N__law_gap P__law_gap (defScope (top 45)) := ⟨by kernel_rfl, by kernel_rfl, by kernel_rfl, by decide +kernel, by kernel_rfl, by decide +kernel, by decide +kernel⟩
theorem ck__law_gap : ckSs (gnOf frees bts ecs his ds6) N__law_gap 1 (defScope (top 45)) b__law_gap (defBody (top 45)) = true := by decide +kernel
def b__law_plus : Sxs := (.cons 
    (.ret (.call "_law_amount" (.cons (.bin .Add (.bin .Mult (.idx (.var 0) (.cst (.int 0))) (.idx (.var 1) (.cst (.int 1)))) (.bin .Mult (.idx (.var 1) (.cst (.int 0))) (.idx (.var 0) (.cst (.int 1))))) (.cons (.bin .Mult (.idx (.var 0) (.cst (.int 1))) (.idx (.var 1) (.cst (.int 1)))) .nil)))) .nil)
def d__law_plus : Dm := ⟨"_law_plus", 2, 2, 2, b__law_plus, fun _ => []⟩
def ds7 : List Dm := d__law_gap :: ds6
noncomputable def F7 (M : Nat) : Fn := mkF glo M ds7
def N__law_plus : List Str := ["a", "b"]
def P__law_plus : List Str := ["a", "b"]
theorem sc__law_plus : FnScope N__law_plus P__law_plus (defScope (top 42)) := ⟨by kernel_rfl, by kernel_rfl, by kernel_rfl, by decide +kernel, by kernel_rfl, by decide +kernel, by decide +kernel⟩
theorem ck__law_plus : ckSs (gnOf frees bts ecs his ds7) N__law_plus 2 (defScope (top 42)) b__law_plus (defBody (top 42)) = true := by decide +kernel
def B__law_ends_0 : Sxs := (.cons 
    (.expr (.chg .append 3 (.cons (.var 2) .nil))) (.cons 
    (.set 2 (.call "_law_plus" (.cons (.var 2) (.cons (.call "_law_gap" (.cons (.var 0) .nil)) .nil)))) .nil))
def S__law_ends_0 : Sx := (.for_ (.nm 4) (.rng (.var 1)) B__law_ends_0)
def b__law_ends : Sxs := (.cons 
    (.set 2 (.tup (.cons (.cst (.int 0)) (.cons (.cst (.int 1)) .nil)))) (.cons 
    (.ite (.cmp .Eq (.call "_law_draw" (.cons (.var 0) (.cons (.cst (.int 2)) .nil))) (.cst (.int 0))) (.cons 
    (.set 2 (.call "_law_gap" (.cons (.var 0) .nil))) .nil) .nil) (.cons 
    (.set 3 (.lst .nil)) (.cons 
    S__law_ends_0 (.cons 
    (.ret (.var 3)) .nil)))))
def d__law_ends : Dm := ⟨"_law_ends", 2, 2, 5, b__law_ends, fun _ => []⟩
def ds8 : List Dm := d__law_plus :: ds7
noncomputable def F8 (M : Nat) : Fn := mkF glo M ds8
def N__law_ends : List Str := ["d", "many", "at", "found", "k"]
def P__law_ends : List Str := ["d", "many"]
theorem sc__law_ends : FnScope N__law_ends P__law_ends (defScope (top 46)) := ⟨by kernel_rfl, by kernel_rfl, by kernel_rfl, by decide +kernel, by kernel_rfl, by decide +kernel, by decide +kernel⟩
theorem ck__law_ends : ckSs (gnOf frees bts ecs his ds8) N__law_ends 2 (defScope (top 46)) b__law_ends (defBody (top 46)) = true := by decide +kernel
def b__law_part : Sxs := (.cons 
    (.set 1 (.idx (.lst (.cons (.cst (.int 1)) (.cons (.cst (.int 2)) (.cons (.cst (.int 2)) (.cons (.cst (.int 3)) (.cons (.cst (.int 4)) (.cons (.cst (.int 5)) (.cons (.cst (.int 6)) .nil)))))))) (.call "_law_draw" (.cons (.var 0) (.cons (.cst (.int 7)) .nil))))) (.cons 
    (.ret (.call "_law_amount" (.cons (.bin .Add (.cst (.int 1)) (.call "_law_draw" (.cons (.var 0) (.cons (.var 1) .nil)))) (.cons (.var 1) .nil)))) .nil))
def d__law_part : Dm := ⟨"_law_part", 1, 1, 2, b__law_part, fun _ => []⟩
def ds9 : List Dm := d__law_ends :: ds8
noncomputable def F9 (M : Nat) : Fn := mkF glo M ds9
def N__law_part : List Str := ["d", "under"]
def P__law_part : List Str := ["d"]
theorem sc__law_part : FnScope N__law_part P__law_part (defScope (top 44)) := ⟨by kernel_rfl, by kernel_rfl, by kernel_rfl, by decide +kernel, by kernel_rfl, by decide +kernel, by decide +kernel⟩
theorem ck__law_part : ckSs (gnOf frees bts ecs his ds9) N__law_part 1 (defScope (top 44)) b__law_part (defBody (top 44)) = true := by decide +kernel
def B__law_normal_0 : Sxs := (.cons 
    (.ite (.cmp .NotEq (.idx (.var 3) (.cst (.int 1))) (.var 2)) (.cons 
    (.expr (.chg .append 1 (.cons (.tup (.cons (.idx (.var 3) (.cst (.int 0))) (.cons (.idx (.var 3) (.cst (.int 1))) .nil))) .nil))) (.cons 
    (.set 2 (.idx (.var 3) (.cst (.int 1)))) .nil)) .nil) .nil)
def S__law_normal_0 : Sx := (.for_ (.nm 3) (.seq (.var 0)) B__law_normal_0)
def b__law_normal : Sxs := (.cons 
    (.set 1 (.lst .nil)) (.cons 
    (.set 2 (.tup (.cons (.cst (.int 0)) (.cons (.cst (.int 1)) .nil)))) (.cons 
    S__law_normal_0 (.cons 
    (.ret (.blt .tuple (.cons (.var 1) .nil))) .nil))))
def d__law_normal : Dm := ⟨"_law_normal", 1, 1, 4, b__law_normal, fun _ => []⟩
def ds10 : List Dm := d__law_part :: ds9
noncomputable def F10 (M : Nat) : Fn := mkF glo M ds10
def N__law_normal : List Str := ["pairs", "found", "last", "pair"]
def P__law_normal : List Str := ["pairs"]
theorem sc__law_normal : FnScope N__law_normal P__law_normal (defScope (top 43)) := ⟨by kernel_rfl, by kernel_rfl, by kernel_rfl, by decide +kernel, by kernel_rfl, by decide +kernel, by decide +kernel⟩
theorem ck__law_normal : ckSs (gnOf frees bts ecs his ds10) N__law_normal 1 (defScope (top 43)) b__law_normal (defBody (top 43)) = true := by decide +kernel
def B__law_line_0 : Sxs := (.cons 
    (.set 4 (.idx (.lst (.cons (.tup (.cons (.cst (.int 0)) (.cons (.cst (.int 1)) .nil))) (.cons (.tup (.cons (.cst (.int 1)) (.cons (.cst (.int 1)) .nil))) (.cons (.call "_law_part" (.cons (.var 0) .nil)) (.cons (.call "_law_part" (.cons (.var 0) .nil)) .nil))))) (.call "_law_draw" (.cons (.var 0) (.cons (.cst (.int 4)) .nil))))) (.cons 
    (.expr (.chg .append 2 (.cons (.tup (.cons (.var 3) (.cons (.var 4) .nil))) .nil))) .nil))
def S__law_line_0 : Sx := (.for_ (.nm 3) (.seq (.call "_law_ends" (.cons (.var 0) (.cons (.var 1) .nil)))) B__law_line_0)
def b__law_line : Sxs := (.cons 
    (.set 2 (.lst .nil)) (.cons 
    S__law_line_0 (.cons 
    (.ret (.call "_law_normal" (.cons (.var 2) .nil))) .nil)))
def d__law_line : Dm := ⟨"_law_line", 2, 2, 5, b__law_line, fun _ => []⟩
def ds11 : List Dm := d__law_normal :: ds10
noncomputable def F11 (M : Nat) : Fn := mkF glo M ds11
def N__law_line : List Str := ["d", "many", "pairs", "at", "slope"]
def P__law_line : List Str := ["d", "many"]
theorem sc__law_line : FnScope N__law_line P__law_line (defScope (top 47)) := ⟨by kernel_rfl, by kernel_rfl, by kernel_rfl, by decide +kernel, by kernel_rfl, by decide +kernel, by decide +kernel⟩
theorem ck__law_line : ckSs (gnOf frees bts ecs his ds11) N__law_line 2 (defScope (top 47)) b__law_line (defBody (top 47)) = true := by decide +kernel
def E__law_shields_1 : Ex := (.call "_law_line" (.cons (.var 0) (.cons (.call "_law_draw" (.cons (.var 0) (.cons (.cst (.int 4)) .nil))) .nil)))
def C__law_shields_1 : Ex := (.comp E__law_shields_1 (.nm 9) (.rng (.cst (.int 3))) .none [9])
def B__law_shields_0 : Sxs := (.cons 
    (.set 6 (.call "_law_draw" (.cons (.var 0) (.cons (.var 1) .nil)))) (.cons 
    (.set 7 (.bin .Mod (.blt .int (.cons (.bin .Add (.bin .Add (.var 6) (.cst (.int 1))) (.call "_law_draw" (.cons (.var 0) (.cons (.bin .Sub (.var 1) (.cst (.int 1))) .nil)))) .nil)) (.var 1))) (.cons 
    (.set 8 C__law_shields_1) (.cons 
    (.expr (.chg .append 4 (.cons (.tup (.cons (.cst (.str "shield")) (.cons (.idx (.var 3) (.var 5)) (.cons (.var 6) (.cons (.var 7) (.cons (.idx (.var 8) (.cst (.int 0))) (.cons (.idx (.var 8) (.cst (.int 1))) (.cons (.idx (.var 8) (.cst (.int 2))) (.cons (.call "_law_draw" (.cons (.var 0) (.cons (.cst (.int 20)) .nil))) .nil))))))))) .nil))) .nil))))
def S__law_shields_0 : Sx := (.for_ (.nm 5) (.rng (.var 2)) B__law_shields_0)
def b__law_shields : Sxs := (.cons 
    (.set 3 (.call "_law_shuffled" (.cons (.var 0) (.cons (.call "_law_pool" .nil) .nil)))) (.cons 
    (.set 4 (.lst .nil)) (.cons 
    S__law_shields_0 (.cons 
    (.ret (.blt .tuple (.cons (.var 4) .nil))) .nil))))
def d__law_shields : Dm := ⟨"_law_shields", 3, 3, 10, b__law_shields, fun _ => []⟩
def ds12 : List Dm := d__law_line :: ds11
noncomputable def F12 (M : Nat) : Fn := mkF glo M ds12
def N__law_shields : List Str := ["d", "companies", "many", "pool", "found", "k", "one", "two", "lines", "side"]
def P__law_shields : List Str := ["d", "companies", "many"]
theorem sc__law_shields : FnScope N__law_shields P__law_shields (defScope (top 48)) := ⟨by kernel_rfl, by kernel_rfl, by kernel_rfl, by decide +kernel, by kernel_rfl, by decide +kernel, by decide +kernel⟩
theorem ck__law_shields : ckSs (gnOf frees bts ecs his ds12) N__law_shields 3 (defScope (top 48)) b__law_shields (defBody (top 48)) = true := by decide +kernel
def b__law_rare : Sxs := (.cons 
    (.ret (.cmp .Eq (.call "_law_draw" (.cons (.var 0) (.cons (.var 1) .nil))) (.bin .FloorDiv (.var 1) (.cst (.int 2))))) .nil)
def d__law_rare : Dm := ⟨"_law_rare", 2, 2, 2, b__law_rare, fun _ => []⟩
def ds13 : List Dm := d__law_shields :: ds12
noncomputable def F13 (M : Nat) : Fn := mkF glo M ds13
def N__law_rare : List Str := ["d", "many"]
def P__law_rare : List Str := ["d", "many"]
theorem sc__law_rare : FnScope N__law_rare P__law_rare (defScope (top 36)) := ⟨by kernel_rfl, by kernel_rfl, by kernel_rfl, by decide +kernel, by kernel_rfl, by decide +kernel, by decide +kernel⟩
theorem ck__law_rare : ckSs (gnOf frees bts ecs his ds13) N__law_rare 2 (defScope (top 36)) b__law_rare (defBody (top 36)) = true := by decide +kernel
def b__law_pick : Sxs := (.cons 
    (.ret (.idx (.var 1) (.call "_law_draw" (.cons (.var 0) (.cons (.blt .len (.cons (.var 1) .nil)) .nil))))) .nil)
def d__law_pick : Dm := ⟨"_law_pick", 2, 2, 2, b__law_pick, fun _ => []⟩
def ds14 : List Dm := d__law_rare :: ds13
noncomputable def F14 (M : Nat) : Fn := mkF glo M ds14
def N__law_pick : List Str := ["d", "row"]
def P__law_pick : List Str := ["d", "row"]
theorem sc__law_pick : FnScope N__law_pick P__law_pick (defScope (top 34)) := ⟨by kernel_rfl, by kernel_rfl, by kernel_rfl, by decide +kernel, by kernel_rfl, by decide +kernel, by decide +kernel⟩
theorem ck__law_pick : ckSs (gnOf frees bts ecs his ds14) N__law_pick 2 (defScope (top 34)) b__law_pick (defBody (top 34)) = true := by decide +kernel
def E__law_names_0 : Ex := (.idx (.var 1) (.cst (.int 2)))
def C__law_names_0 : Ex := (.comp E__law_names_0 (.nm 1) (.seq (.var 0)) (.some (.cmp .Eq (.idx (.var 1) (.cst (.int 0))) (.cst (.str "event")))) [1])
def b__law_names : Sxs := (.cons 
    (.ret C__law_names_0) .nil)
def d__law_names : Dm := ⟨"_law_names", 1, 1, 2, b__law_names, fun _ => []⟩
def ds15 : List Dm := d__law_pick :: ds14
noncomputable def F15 (M : Nat) : Fn := mkF glo M ds15
def N__law_names : List Str := ["journal", "entry"]
def P__law_names : List Str := ["journal"]
theorem sc__law_names : FnScope N__law_names P__law_names (defScope (top 51)) := ⟨by kernel_rfl, by kernel_rfl, by kernel_rfl, by decide +kernel, by kernel_rfl, by decide +kernel, by decide +kernel⟩
theorem ck__law_names : ckSs (gnOf frees bts ecs his ds15) N__law_names 1 (defScope (top 51)) b__law_names (defBody (top 51)) = true := by decide +kernel
def b__law_strange : Sxs := (.cons 
    (.ret (.idx (.lst (.cons (.neg (.cst (.int 1))) (.cons (.var 1) (.cons (.bin .Sub (.neg (.cst (.int 1))) (.call "_law_draw" (.cons (.var 0) (.cons (.cst (.int 90)) .nil)))) (.cons (.bin .Add (.bin .Add (.var 1) (.cst (.int 1))) (.call "_law_draw" (.cons (.var 0) (.cons (.cst (.int 900)) .nil)))) .nil))))) (.call "_law_draw" (.cons (.var 0) (.cons (.cst (.int 4)) .nil))))) .nil)
def d__law_strange : Dm := ⟨"_law_strange", 2, 2, 2, b__law_strange, fun _ => []⟩
def ds16 : List Dm := d__law_names :: ds15
noncomputable def F16 (M : Nat) : Fn := mkF glo M ds16
def N__law_strange : List Str := ["d", "many"]
def P__law_strange : List Str := ["d", "many"]
theorem sc__law_strange : FnScope N__law_strange P__law_strange (defScope (top 50)) := ⟨by kernel_rfl, by kernel_rfl, by kernel_rfl, by decide +kernel, by kernel_rfl, by decide +kernel, by decide +kernel⟩
theorem ck__law_strange : ckSs (gnOf frees bts ecs his ds16) N__law_strange 2 (defScope (top 50)) b__law_strange (defBody (top 50)) = true := by decide +kernel
def b__law_report : Sxs := (.cons 
    (.set 6 (.call "_law_pick" (.cons (.var 0) (.cons (.var 3) .nil)))) (.cons 
    (.ite (.and_ (.cons (.cmp .Gt (.blt .len (.cons (.var 2) .nil)) (.cst (.int 0))) (.cons (.cmp .NotIn (.var 5) (.tup (.cons (.cst (.int 2)) (.cons (.cst (.int 3)) (.cons (.cst (.int 6)) (.cons (.cst (.int 7)) .nil)))))) .nil))) (.cons 
    (.set 6 (.call "_law_pick" (.cons (.var 0) (.cons (.var 2) .nil)))) .nil) .nil) (.cons 
    (.set 7 (.call "_law_draw" (.cons (.var 0) (.cons (.var 1) .nil)))) (.cons 
    (.ite (.cmp .In (.var 5) (.tup (.cons (.cst (.int 4)) (.cons (.cst (.int 5)) (.cons (.cst (.int 6)) (.cons (.cst (.int 7)) .nil)))))) (.cons 
    (.set 7 (.call "_law_strange" (.cons (.var 0) (.cons (.var 1) .nil)))) .nil) .nil) (.cons 
    (.ret (.tup (.cons (.cst (.str "report")) (.cons (.var 4) (.cons (.var 6) (.cons (.var 7) (.cons (.call "_law_amount" (.cons (.bin .Sub (.call "_law_draw" (.cons (.var 0) (.cons (.cst (.int 120)) .nil))) (.cst (.int 30))) (.cons (.bin .Add (.cst (.int 1)) (.call "_law_draw" (.cons (.var 0) (.cons (.cst (.int 3)) .nil)))) .nil))) .nil))))))) .nil)))))
def d__law_report : Dm := ⟨"_law_report", 6, 6, 8, b__law_report, fun _ => []⟩
def ds17 : List Dm := d__law_strange :: ds16
noncomputable def F17 (M : Nat) : Fn := mkF glo M ds17
def N__law_report : List Str := ["d", "companies", "names", "others", "heard", "mask", "event", "company"]
def P__law_report : List Str := ["d", "companies", "names", "others", "heard", "mask"]
theorem sc__law_report : FnScope N__law_report P__law_report (defScope (top 54)) := ⟨by kernel_rfl, by kernel_rfl, by kernel_rfl, by decide +kernel, by kernel_rfl, by decide +kernel, by decide +kernel⟩
theorem ck__law_report : ckSs (gnOf frees bts ecs his ds17) N__law_report 6 (defScope (top 54)) b__law_report (defBody (top 54)) = true := by decide +kernel
def b__law_endorse : Sxs := (.cons 
    (.set 4 (.call "_law_draw" (.cons (.var 0) (.cons (.blt .max2 (.cons (.cst (.int 1)) (.cons (.var 1) .nil))) .nil)))) (.cons 
    (.ite (.or_ (.cons (.cmp .Eq (.var 1) (.cst (.int 0))) (.cons (.cmp .In (.var 3) (.tup (.cons (.cst (.int 4)) (.cons (.cst (.int 5)) (.cons (.cst (.int 6)) (.cons (.cst (.int 7)) .nil)))))) .nil))) (.cons 
    (.set 4 (.call "_law_strange" (.cons (.var 0) (.cons (.var 1) .nil)))) .nil) .nil) (.cons 
    (.set 5 (.idx (.lst (.cons (.cst (.int 0)) (.cons (.var 2) (.cons (.blt .max2 (.cons (.cst (.int 0)) (.cons (.bin .Sub (.var 2) (.call "_law_draw" (.cons (.var 0) (.cons (.cst (.int 9)) .nil)))) .nil))) (.cons (.cst (.int 1000)) (.cons (.call "_law_draw" (.cons (.var 0) (.cons (.cst (.int 1001)) .nil))) .nil)))))) (.call "_law_draw" (.cons (.var 0) (.cons (.cst (.int 5)) .nil))))) (.cons 
    (.ret (.tup (.cons (.cst (.str "endorse")) (.cons (.var 2) (.cons (.var 5) (.cons (.var 4) (.cons (.call "_law_line" (.cons (.var 0) (.cons (.call "_law_draw" (.cons (.var 0) (.cons (.cst (.int 3)) .nil))) .nil))) .nil))))))) .nil))))
def d__law_endorse : Dm := ⟨"_law_endorse", 4, 4, 6, b__law_endorse, fun _ => []⟩
def ds18 : List Dm := d__law_report :: ds17
noncomputable def F18 (M : Nat) : Fn := mkF glo M ds18
def N__law_endorse : List Str := ["d", "many", "heard", "mask", "shield", "since"]
def P__law_endorse : List Str := ["d", "many", "heard", "mask"]
theorem sc__law_endorse : FnScope N__law_endorse P__law_endorse (defScope (top 53)) := ⟨by kernel_rfl, by kernel_rfl, by kernel_rfl, by decide +kernel, by kernel_rfl, by decide +kernel, by decide +kernel⟩
theorem ck__law_endorse : ckSs (gnOf frees bts ecs his ds18) N__law_endorse 4 (defScope (top 53)) b__law_endorse (defBody (top 53)) = true := by decide +kernel
def b__law_pop : Sxs := (.cons 
    (.ret (.chg .popAt 1 (.cons (.call "_law_draw" (.cons (.var 0) (.cons (.blt .len (.cons (.var 1) .nil)) .nil))) .nil))) .nil)
def d__law_pop : Dm := ⟨"_law_pop", 2, 2, 2, b__law_pop, fun _ => []⟩
def ds19 : List Dm := d__law_endorse :: ds18
noncomputable def F19 (M : Nat) : Fn := mkF glo M ds19
def N__law_pop : List Str := ["d", "row"]
def P__law_pop : List Str := ["d", "row"]
theorem sc__law_pop : FnScope N__law_pop P__law_pop (defScope (top 35)) := ⟨by kernel_rfl, by kernel_rfl, by kernel_rfl, by decide +kernel, by kernel_rfl, by decide +kernel, by decide +kernel⟩
theorem ck__law_pop : ckSs (gnOf frees bts ecs his ds19) N__law_pop 2 (defScope (top 35)) b__law_pop (defBody (top 35)) = true := by decide +kernel
def b__law_event : Sxs := (.cons 
    (.set 5 (.call "_law_pop" (.cons (.var 0) (.cons (.var 2) .nil)))) (.cons 
    (.ite (.and_ (.cons (.cmp .In (.var 4) (.tup (.cons (.cst (.int 4)) (.cons (.cst (.int 5)) (.cons (.cst (.int 6)) (.cons (.cst (.int 7)) .nil)))))) (.cons (.cmp .Gt (.blt .len (.cons (.var 1) .nil)) (.cst (.int 0))) .nil))) (.cons 
    (.set 5 (.call "_law_pick" (.cons (.var 0) (.cons (.var 1) .nil)))) .nil) .nil) (.cons 
    (.set 6 (.blt .max2 (.cons (.cst (.int 0)) (.cons (.bin .Sub (.var 3) (.idx (.lst (.cons (.cst (.int 0)) (.cons (.cst (.int 0)) (.cons (.cst (.int 1)) (.cons (.call "_law_draw" (.cons (.var 0) (.cons (.cst (.int 9)) .nil))) (.cons (.call "_law_draw" (.cons (.var 0) (.cons (.cst (.int 1001)) .nil))) .nil)))))) (.call "_law_draw" (.cons (.var 0) (.cons (.cst (.int 5)) .nil))))) .nil)))) (.cons 
    (.ite (.and_ (.cons (.cmp .In (.var 4) (.tup (.cons (.cst (.int 2)) (.cons (.cst (.int 3)) (.cons (.cst (.int 6)) (.cons (.cst (.int 7)) .nil)))))) (.cons (.cmp .Lt (.var 3) (.cst (.int 1000))) .nil))) (.cons 
    (.set 6 (.blt .min2 (.cons (.cst (.int 1000)) (.cons (.bin .Add (.bin .Add (.var 3) (.cst (.int 1))) (.call "_law_draw" (.cons (.var 0) (.cons (.idx (.lst (.cons (.cst (.int 1)) (.cons (.cst (.int 5)) (.cons (.cst (.int 900)) .nil)))) (.call "_law_draw" (.cons (.var 0) (.cons (.cst (.int 3)) .nil)))) .nil)))) .nil)))) .nil) .nil) (.cons 
    (.ret (.tup (.cons (.cst (.str "event")) (.cons (.var 3) (.cons (.var 5) (.cons (.var 6) .nil)))))) .nil)))))
def d__law_event : Dm := ⟨"_law_event", 5, 5, 7, b__law_event, fun _ => []⟩
def ds20 : List Dm := d__law_pop :: ds19
noncomputable def F20 (M : Nat) : Fn := mkF glo M ds20
def N__law_event : List Str := ["d", "names", "pool", "heard", "mask", "name", "since"]
def P__law_event : List Str := ["d", "names", "pool", "heard", "mask"]
theorem sc__law_event : FnScope N__law_event P__law_event (defScope (top 52)) := ⟨by kernel_rfl, by kernel_rfl, by kernel_rfl, by decide +kernel, by kernel_rfl, by decide +kernel, by decide +kernel⟩
theorem ck__law_event : ckSs (gnOf frees bts ecs his ds20) N__law_event 5 (defScope (top 52)) b__law_event (defBody (top 52)) = true := by decide +kernel
def b__law_heard : Sxs := (.cons 
    (.ret (.blt .min2 (.cons (.cst (.int 1000)) (.cons (.bin .Add (.var 1) (.idx (.lst (.cons (.cst (.int 0)) (.cons (.cst (.int 0)) (.cons (.cst (.int 1)) (.cons (.call "_law_draw" (.cons (.var 0) (.cons (.cst (.int 4)) .nil))) (.cons (.call "_law_draw" (.cons (.var 0) (.cons (.cst (.int 60)) .nil))) .nil)))))) (.call "_law_draw" (.cons (.var 0) (.cons (.cst (.int 5)) .nil))))) .nil)))) .nil)
def d__law_heard : Dm := ⟨"_law_heard", 2, 2, 2, b__law_heard, fun _ => []⟩
def ds21 : List Dm := d__law_event :: ds20
noncomputable def F21 (M : Nat) : Fn := mkF glo M ds21
def N__law_heard : List Str := ["d", "last"]
def P__law_heard : List Str := ["d", "last"]
theorem sc__law_heard : FnScope N__law_heard P__law_heard (defScope (top 49)) := ⟨by kernel_rfl, by kernel_rfl, by kernel_rfl, by decide +kernel, by kernel_rfl, by decide +kernel, by decide +kernel⟩
theorem ck__law_heard : ckSs (gnOf frees bts ecs his ds21) N__law_heard 2 (defScope (top 49)) b__law_heard (defBody (top 49)) = true := by decide +kernel
def b__law_entry : Sxs := (.cons 
    (.set 8 (.call "_law_names" (.cons (.var 3) .nil))) (.cons 
    (.set 9 (.cst (.int 0))) (.cons 
    (.ite (.cmp .Gt (.blt .len (.cons (.var 3) .nil)) (.cst (.int 0))) (.cons 
    (.set 9 (.idx (.idx (.var 3) (.bin .Sub (.blt .len (.cons (.var 3) .nil)) (.cst (.int 1)))) (.cst (.int 1)))) .nil) .nil) (.cons 
    (.set 10 (.call "_law_heard" (.cons (.var 0) (.cons (.var 9) .nil)))) (.cons 
    (.ite (.and_ (.cons (.cmp .In (.var 7) (.tup (.cons (.cst (.int 1)) (.cons (.cst (.int 3)) (.cons (.cst (.int 5)) (.cons (.cst (.int 7)) .nil)))))) (.cons (.cmp .Gt (.var 9) (.cst (.int 0))) .nil))) (.cons 
    (.set 10 (.bin .Sub (.bin .Sub (.var 9) (.cst (.int 1))) (.call "_law_draw" (.cons (.var 0) (.cons (.idx (.lst (.cons (.cst (.int 1)) (.cons (.var 9) .nil))) (.call "_law_draw" (.cons (.var 0) (.cons (.cst (.int 2)) .nil)))) .nil))))) .nil) .nil) (.cons 
    (.ite (.cmp .Eq (.var 6) (.cst (.int 0))) (.cons 
    (.ret (.call "_law_event" (.cons (.var 0) (.cons (.var 8) (.cons (.var 5) (.cons (.var 10) (.cons (.var 7) .nil))))))) .nil) .nil) (.cons 
    (.ite (.cmp .Eq (.var 6) (.cst (.int 1))) (.cons 
    (.ret (.call "_law_endorse" (.cons (.var 0) (.cons (.var 2) (.cons (.var 10) (.cons (.var 7) .nil)))))) .nil) .nil) (.cons 
    (.set 11 (.call "_law_names" (.cons (.var 4) .nil))) (.ali (.or_ (.cons (.cmp .Eq (.blt .len (.cons (.var 11) .nil)) (.cst (.int 0))) (.cons (.cmp .Eq (.call "_law_draw" (.cons (.var 0) (.cons (.cst (.int 2)) .nil))) (.cst (.int 0))) .nil))) 11 5 "_law_report" [0, 1, 8, 11, 10, 7])))))))))
def d__law_entry : Dm := ⟨"_law_entry", 8, 8, 12, b__law_entry, fun _ => []⟩
def ds22 : List Dm := d__law_heard :: ds21
noncomputable def F22 (M : Nat) : Fn := mkF glo M ds22
def N__law_entry : List Str := ["d", "companies", "many", "ahead", "behind", "pool", "kind", "mask", "names", "last", "heard", "others"]
def P__law_entry : List Str := ["d", "companies", "many", "ahead", "behind", "pool", "kind", "mask"]
theorem sc__law_entry : FnScope N__law_entry P__law_entry (defScope (top 55)) := ⟨by kernel_rfl, by kernel_rfl, by kernel_rfl, by decide +kernel, by kernel_rfl, by decide +kernel, by decide +kernel⟩
theorem ck__law_entry : ckSs (gnOf frees bts ecs his ds22) N__law_entry 8 (defScope (top 55)) b__law_entry (defBody (top 55)) = true := by decide +kernel
def B__law_base_0 : Sxs := (.cons 
    (.set 9 (.call "_law_pick" (.cons (.var 0) (.cons (.var 6) .nil)))) (.cons 
    (.set 10 (.blt .len (.cons (.call "_law_names" (.cons (.var 7) .nil)) .nil))) (.cons 
    (.ite (.and_ (.cons (.cmp .Eq (.var 9) (.cst (.int 0))) (.cons (.cmp .Eq (.var 10) (.var 5)) .nil))) (.cons 
    (.set 9 (.cst (.int 2))) .nil) .nil) (.cons 
    (.ite (.and_ (.cons (.cmp .Eq (.var 9) (.cst (.int 1))) (.cons (.cmp .Eq (.var 2) (.cst (.int 0))) .nil))) (.cons 
    (.set 9 (.cst (.int 2))) .nil) .nil) (.cons 
    (.ite (.and_ (.cons (.cmp .Eq (.var 9) (.cst (.int 2))) (.cons (.cmp .Eq (.var 10) (.cst (.int 0))) .nil))) (.cons 
    (.set 9 (.cst (.int 0))) .nil) .nil) (.cons 
    (.expr (.chg .append 7 (.cons (.call "_law_entry" (.cons (.var 0) (.cons (.var 1) (.cons (.var 2) (.cons (.var 7) (.cons (.lst .nil) (.cons (.var 3) (.cons (.var 9) (.cons (.cst (.int 0)) .nil))))))))) .nil))) .nil))))))
def S__law_base_0 : Sx := (.for_ (.nm 8) (.rng (.var 4)) B__law_base_0)
def b__law_base : Sxs := (.cons 
    (.set 4 (.call "_law_draw" (.cons (.var 0) (.cons (.cst (.int 12)) .nil)))) (.cons 
    (.set 5 (.cst (.int 12))) (.cons 
    (.set 6 (.lst (.cons (.cst (.int 0)) (.cons (.cst (.int 0)) (.cons (.cst (.int 1)) (.cons (.cst (.int 2)) (.cons (.cst (.int 2)) (.cons (.cst (.int 2)) .nil)))))))) (.cons 
    (.ite (.val (.call "_law_rare" (.cons (.var 0) (.cons (.cst (.int 14)) .nil)))) (.cons 
    (.set 4 (.bin .Add (.cst (.int 57)) (.call "_law_draw" (.cons (.var 0) (.cons (.cst (.int 6)) .nil))))) .nil) (.cons 
    (.ite (.val (.call "_law_rare" (.cons (.var 0) (.cons (.cst (.int 10)) .nil)))) (.cons 
    (.set 4 (.bin .Add (.cst (.int 11)) (.call "_law_draw" (.cons (.var 0) (.cons (.cst (.int 5)) .nil))))) (.cons 
    (.set 5 (.cst (.int 14))) (.cons 
    (.set 6 (.lst (.cons (.cst (.int 0)) (.cons (.cst (.int 0)) (.cons (.cst (.int 0)) (.cons (.cst (.int 0)) (.cons (.cst (.int 0)) (.cons (.cst (.int 2)) .nil)))))))) .nil))) .nil) .nil)) (.cons 
    (.set 7 (.lst .nil)) (.cons 
    S__law_base_0 (.cons 
    (.ret (.var 7)) .nil)))))))
def d__law_base : Dm := ⟨"_law_base", 4, 4, 11, b__law_base, fun _ => []⟩
def ds23 : List Dm := d__law_entry :: ds22
noncomputable def F23 (M : Nat) : Fn := mkF glo M ds23
def N__law_base : List Str := ["d", "companies", "many", "pool", "size", "most", "kinds", "found", "k", "kind", "events"]
def P__law_base : List Str := ["d", "companies", "many", "pool"]
theorem sc__law_base : FnScope N__law_base P__law_base (defScope (top 56)) := ⟨by kernel_rfl, by kernel_rfl, by kernel_rfl, by decide +kernel, by kernel_rfl, by decide +kernel, by decide +kernel⟩
theorem ck__law_base : ckSs (gnOf frees bts ecs his ds23) N__law_base 4 (defScope (top 56)) b__law_base (defBody (top 56)) = true := by decide +kernel
def b__law_is_int : Sxs := (.cons 
    (.ret (.and_ (.cons (.isi .int (.var 0)) (.cons (.not_ (.isi .bool (.var 0))) .nil)))) .nil)
def d__law_is_int : Dm := ⟨"_law_is_int", 1, 1, 1, b__law_is_int, fun _ => []⟩
def ds24 : List Dm := d__law_base :: ds23
noncomputable def F24 (M : Nat) : Fn := mkF glo M ds24
def N__law_is_int : List Str := ["thing"]
def P__law_is_int : List Str := ["thing"]
theorem sc__law_is_int : FnScope N__law_is_int P__law_is_int (defScope (top 39)) := ⟨by kernel_rfl, by kernel_rfl, by kernel_rfl, by decide +kernel, by kernel_rfl, by decide +kernel, by decide +kernel⟩
theorem ck__law_is_int : ckSs (gnOf frees bts ecs his ds24) N__law_is_int 1 (defScope (top 39)) b__law_is_int (defBody (top 39)) = true := by decide +kernel
def b_heard_too_soon : Sxs := (.cons 
    (.ret (.and_ (.cons (.cmp .Gt (.blt .len (.cons (.var 0) .nil)) (.cst (.int 0))) (.cons (.cmp .Lt (.idx (.var 1) (.cst (.int 1))) (.idx (.idx (.var 0) (.neg (.cst (.int 1)))) (.cst (.int 1)))) .nil)))) .nil)
def d_heard_too_soon : Dm := ⟨"heard_too_soon", 2, 2, 2, b_heard_too_soon, fun _ => []⟩
def ds25 : List Dm := d__law_is_int :: ds24
noncomputable def F25 (M : Nat) : Fn := mkF glo M ds25
def N_heard_too_soon : List Str := ["ahead", "entry"]
def P_heard_too_soon : List Str := ["ahead", "entry"]
theorem sc_heard_too_soon : FnScope N_heard_too_soon P_heard_too_soon (defScope (top 22)) := ⟨by kernel_rfl, by kernel_rfl, by kernel_rfl, by decide +kernel, by kernel_rfl, by decide +kernel, by decide +kernel⟩
theorem ck_heard_too_soon : ckSs (gnOf frees bts ecs his ds25) N_heard_too_soon 2 (defScope (top 22)) b_heard_too_soon (defBody (top 22)) = true := by decide +kernel
def E_events_of_0 : Ex := (.var 1)
def C_events_of_0 : Ex := (.comp E_events_of_0 (.nm 1) (.seq (.var 0)) (.some (.cmp .Eq (.idx (.var 1) (.cst (.int 0))) (.cst (.str "event")))) [1])
def b_events_of : Sxs := (.cons 
    (.ret C_events_of_0) .nil)
def d_events_of : Dm := ⟨"events_of", 1, 1, 2, b_events_of, fun _ => []⟩
def ds26 : List Dm := d_heard_too_soon :: ds25
noncomputable def F26 (M : Nat) : Fn := mkF glo M ds26
def N_events_of : List Str := ["journal", "entry"]
def P_events_of : List Str := ["journal"]
theorem sc_events_of : FnScope N_events_of P_events_of (defScope (top 19)) := ⟨by kernel_rfl, by kernel_rfl, by kernel_rfl, by decide +kernel, by kernel_rfl, by decide +kernel, by decide +kernel⟩
theorem ck_events_of : ckSs (gnOf frees bts ecs his ds26) N_events_of 1 (defScope (top 19)) b_events_of (defBody (top 19)) = true := by decide +kernel
def b_is_one_too_many : Sxs := (.cons 
    (.ite (.cmp .GtE (.blt .len (.cons (.var 0) .nil)) (.glo "MOST_ENTRIES")) (.cons 
    (.ret (.cst (.bl true))) .nil) .nil) (.cons 
    (.ret (.and_ (.cons (.cmp .Eq (.idx (.var 1) (.cst (.int 0))) (.cst (.str "event"))) (.cons (.cmp .GtE (.blt .len (.cons (.call "events_of" (.cons (.var 0) .nil)) .nil)) (.glo "MOST_EVENTS")) .nil)))) .nil))
def d_is_one_too_many : Dm := ⟨"is_one_too_many", 2, 2, 2, b_is_one_too_many, fun _ => []⟩
def ds27 : List Dm := d_events_of :: ds26
noncomputable def F27 (M : Nat) : Fn := mkF glo M ds27
def N_is_one_too_many : List Str := ["ahead", "entry"]
def P_is_one_too_many : List Str := ["ahead", "entry"]
theorem sc_is_one_too_many : FnScope N_is_one_too_many P_is_one_too_many (defScope (top 23)) := ⟨by kernel_rfl, by kernel_rfl, by kernel_rfl, by decide +kernel, by kernel_rfl, by decide +kernel, by decide +kernel⟩
theorem ck_is_one_too_many : ckSs (gnOf frees bts ecs his ds27) N_is_one_too_many 2 (defScope (top 23)) b_is_one_too_many (defBody (top 23)) = true := by decide +kernel
def b_is_early : Sxs := (.cons 
    (.ret (.and_ (.cons (.cmp .Eq (.idx (.var 0) (.cst (.int 0))) (.cst (.str "event"))) (.cons (.cmp .Lt (.idx (.var 0) (.cst (.int 1))) (.idx (.var 0) (.cst (.int 3)))) .nil)))) .nil)
def d_is_early : Dm := ⟨"is_early", 1, 1, 1, b_is_early, fun _ => []⟩
def ds28 : List Dm := d_is_one_too_many :: ds27
noncomputable def F28 (M : Nat) : Fn := mkF glo M ds28
def N_is_early : List Str := ["entry"]
def P_is_early : List Str := ["entry"]
theorem sc_is_early : FnScope N_is_early P_is_early (defScope (top 24)) := ⟨by kernel_rfl, by kernel_rfl, by kernel_rfl, by decide +kernel, by kernel_rfl, by decide +kernel, by decide +kernel⟩
theorem ck_is_early : ckSs (gnOf frees bts ecs his ds28) N_is_early 1 (defScope (top 24)) b_is_early (defBody (top 24)) = true := by decide +kernel
def B_event_entry_0 : Sxs := (.cons 
    (.ite (.cmp .Eq (.idx (.var 2) (.cst (.int 2))) (.var 1)) (.cons 
    (.ret (.var 2)) .nil) .nil) .nil)
def S_event_entry_0 : Sx := (.for_ (.nm 2) (.seq (.call "events_of" (.cons (.var 0) .nil))) B_event_entry_0)
def b_event_entry : Sxs := (.cons 
    S_event_entry_0 (.cons 
    (.ret (.cst .non)) .nil))
def d_event_entry : Dm := ⟨"event_entry", 2, 2, 3, b_event_entry, fun _ => []⟩
def ds29 : List Dm := d_is_early :: ds28
noncomputable def F29 (M : Nat) : Fn := mkF glo M ds29
def N_event_entry : List Str := ["journal", "event", "entry"]
def P_event_entry : List Str := ["journal", "event"]
theorem sc_event_entry : FnScope N_event_entry P_event_entry (defScope (top 20)) := ⟨by kernel_rfl, by kernel_rfl, by kernel_rfl, by decide +kernel, by kernel_rfl, by decide +kernel, by decide +kernel⟩
theorem ck_event_entry : ckSs (gnOf frees bts ecs his ds29) N_event_entry 2 (defScope (top 20)) b_event_entry (defBody (top 20)) = true := by decide +kernel
def b_is_declared : Sxs := (.cons 
    (.ret (.cmp .IsNot (.call "event_entry" (.cons (.var 0) (.cons (.var 1) .nil))) (.cst .non))) .nil)
def d_is_declared : Dm := ⟨"is_declared", 2, 2, 2, b_is_declared, fun _ => []⟩
def ds30 : List Dm := d_event_entry :: ds29
noncomputable def F30 (M : Nat) : Fn := mkF glo M ds30
def N_is_declared : List Str := ["journal", "event"]
def P_is_declared : List Str := ["journal", "event"]
theorem sc_is_declared : FnScope N_is_declared P_is_declared (defScope (top 21)) := ⟨by kernel_rfl, by kernel_rfl, by kernel_rfl, by decide +kernel, by kernel_rfl, by decide +kernel, by decide +kernel⟩
theorem ck_is_declared : ckSs (gnOf frees bts ecs his ds30) N_is_declared 2 (defScope (top 21)) b_is_declared (defBody (top 21)) = true := by decide +kernel
def b_is_declared_twice : Sxs := (.cons 
    (.ret (.and_ (.cons (.cmp .Eq (.idx (.var 1) (.cst (.int 0))) (.cst (.str "event"))) (.cons (.call "is_declared" (.cons (.var 0) (.cons (.idx (.var 1) (.cst (.int 2))) .nil))) .nil)))) .nil)
def d_is_declared_twice : Dm := ⟨"is_declared_twice", 2, 2, 2, b_is_declared_twice, fun _ => []⟩
def ds31 : List Dm := d_is_declared :: ds30
noncomputable def F31 (M : Nat) : Fn := mkF glo M ds31
def N_is_declared_twice : List Str := ["ahead", "entry"]
def P_is_declared_twice : List Str := ["ahead", "entry"]
theorem sc_is_declared_twice : FnScope N_is_declared_twice P_is_declared_twice (defScope (top 25)) := ⟨by kernel_rfl, by kernel_rfl, by kernel_rfl, by decide +kernel, by kernel_rfl, by decide +kernel, by decide +kernel⟩
theorem ck_is_declared_twice : ckSs (gnOf frees bts ecs his ds31) N_is_declared_twice 2 (defScope (top 25)) b_is_declared_twice (defBody (top 25)) = true := by decide +kernel
def b_is_of_nothing : Sxs := (.cons 
    (.ret (.and_ (.cons (.cmp .Eq (.idx (.var 1) (.cst (.int 0))) (.cst (.str "report"))) (.cons (.not_ (.call "is_declared" (.cons (.var 0) (.cons (.idx (.var 1) (.cst (.int 2))) .nil)))) .nil)))) .nil)
def d_is_of_nothing : Dm := ⟨"is_of_nothing", 2, 2, 2, b_is_of_nothing, fun _ => []⟩
def ds32 : List Dm := d_is_declared_twice :: ds31
noncomputable def F32 (M : Nat) : Fn := mkF glo M ds32
def N_is_of_nothing : List Str := ["ahead", "entry"]
def P_is_of_nothing : List Str := ["ahead", "entry"]
theorem sc_is_of_nothing : FnScope N_is_of_nothing P_is_of_nothing (defScope (top 26)) := ⟨by kernel_rfl, by kernel_rfl, by kernel_rfl, by decide +kernel, by kernel_rfl, by decide +kernel, by decide +kernel⟩
theorem ck_is_of_nothing : ckSs (gnOf frees bts ecs his ds32) N_is_of_nothing 2 (defScope (top 26)) b_is_of_nothing (defBody (top 26)) = true := by decide +kernel
def b_has_strange_number : Sxs := (.cons 
    (.ite (.cmp .Eq (.idx (.var 2) (.cst (.int 0))) (.cst (.str "report"))) (.cons 
    (.ret (.not_ (.chn .LtE .Lt (.cst (.int 0)) (.idx (.var 2) (.cst (.int 3))) (.var 0)))) .nil) .nil) (.cons 
    (.ite (.cmp .Eq (.idx (.var 2) (.cst (.int 0))) (.cst (.str "endorse"))) (.cons 
    (.ret (.not_ (.chn .LtE .Lt (.cst (.int 0)) (.idx (.var 2) (.cst (.int 3))) (.blt .len (.cons (.var 1) .nil))))) .nil) .nil) (.cons 
    (.ret (.cst (.bl false))) .nil)))
def d_has_strange_number : Dm := ⟨"has_strange_number", 3, 3, 3, b_has_strange_number, fun _ => []⟩
def ds33 : List Dm := d_is_of_nothing :: ds32
noncomputable def F33 (M : Nat) : Fn := mkF glo M ds33
def N_has_strange_number : List Str := ["companies", "shields", "entry"]
def P_has_strange_number : List Str := ["companies", "shields", "entry"]
theorem sc_has_strange_number : FnScope N_has_strange_number P_has_strange_number (defScope (top 27)) := ⟨by kernel_rfl, by kernel_rfl, by kernel_rfl, by decide +kernel, by kernel_rfl, by decide +kernel, by decide +kernel⟩
theorem ck_has_strange_number : ckSs (gnOf frees bts ecs his ds33) N_has_strange_number 3 (defScope (top 27)) b_has_strange_number (defBody (top 27)) = true := by decide +kernel
def b_reason_against : Sxs := (.cons 
    (.ite (.val (.call "heard_too_soon" (.cons (.var 2) (.cons (.var 3) .nil)))) (.cons 
    (.ret (.cst (.str "order"))) .nil) .nil) (.cons 
    (.ite (.val (.call "is_one_too_many" (.cons (.var 2) (.cons (.var 3) .nil)))) (.cons 
    (.ret (.cst (.str "many"))) .nil) .nil) (.cons 
    (.ite (.val (.call "is_early" (.cons (.var 3) .nil))) (.cons 
    (.ret (.cst (.str "early"))) .nil) .nil) (.cons 
    (.ite (.val (.call "is_declared_twice" (.cons (.var 2) (.cons (.var 3) .nil)))) (.cons 
    (.ret (.cst (.str "twice"))) .nil) .nil) (.cons 
    (.ite (.val (.call "is_of_nothing" (.cons (.var 2) (.cons (.var 3) .nil)))) (.cons 
    (.ret (.cst (.str "unknown"))) .nil) .nil) (.cons 
    (.ite (.val (.call "has_strange_number" (.cons (.var 0) (.cons (.var 1) (.cons (.var 3) .nil))))) (.cons 
    (.ret (.cst (.str "number"))) .nil) .nil) (.cons 
    (.ret (.cst .non)) .nil)))))))
def d_reason_against : Dm := ⟨"reason_against", 4, 4, 4, b_reason_against, fun _ => []⟩
def ds34 : List Dm := d_has_strange_number :: ds33
noncomputable def F34 (M : Nat) : Fn := mkF glo M ds34
def N_reason_against : List Str := ["companies", "shields", "ahead", "entry"]
def P_reason_against : List Str := ["companies", "shields", "ahead", "entry"]
theorem sc_reason_against : FnScope N_reason_against P_reason_against (defScope (top 28)) := ⟨by kernel_rfl, by kernel_rfl, by kernel_rfl, by decide +kernel, by kernel_rfl, by decide +kernel, by decide +kernel⟩
theorem ck_reason_against : ckSs (gnOf frees bts ecs his ds34) N_reason_against 4 (defScope (top 28)) b_reason_against (defBody (top 28)) = true := by decide +kernel
def b_check_entry : Sxs := (.cons 
    (.set 4 (.call "reason_against" (.cons (.var 0) (.cons (.var 1) (.cons (.var 2) (.cons (.var 3) .nil)))))) (.cons 
    (.ite (.cmp .IsNot (.var 4) (.cst .non)) (.cons 
    (.rz "BadEntry" ["at", "reason"] (.cons (.blt .len (.cons (.var 2) .nil)) (.cons (.var 4) .nil))) .nil) .nil) .nil))
def d_check_entry : Dm := ⟨"check_entry", 4, 4, 5, b_check_entry, fun _ => []⟩
def ds35 : List Dm := d_reason_against :: ds34
noncomputable def F35 (M : Nat) : Fn := mkF glo M ds35
def N_check_entry : List Str := ["companies", "shields", "ahead", "entry", "reason"]
def P_check_entry : List Str := ["companies", "shields", "ahead", "entry"]
theorem sc_check_entry : FnScope N_check_entry P_check_entry (defScope (top 29)) := ⟨by kernel_rfl, by kernel_rfl, by kernel_rfl, by decide +kernel, by kernel_rfl, by decide +kernel, by decide +kernel⟩
theorem ck_check_entry : ckSs (gnOf frees bts ecs his ds35) N_check_entry 4 (defScope (top 29)) b_check_entry (defBody (top 29)) = true := by decide +kernel
def B_check_journal_0 : Sxs := (.cons 
    (.expr (.call "check_entry" (.cons (.var 0) (.cons (.var 1) (.cons (.var 3) (.cons (.var 4) .nil)))))) (.cons 
    (.expr (.chg .append 3 (.cons (.var 4) .nil))) .nil))
def S_check_journal_0 : Sx := (.for_ (.nm 4) (.seq (.var 2)) B_check_journal_0)
def b_check_journal : Sxs := (.cons 
    (.set 3 (.lst .nil)) (.cons 
    S_check_journal_0 .nil))
def d_check_journal : Dm := ⟨"check_journal", 3, 3, 5, b_check_journal, fun _ => []⟩
def ds36 : List Dm := d_check_entry :: ds35
noncomputable def F36 (M : Nat) : Fn := mkF glo M ds36
def N_check_journal : List Str := ["companies", "shields", "journal", "ahead", "entry"]
def P_check_journal : List Str := ["companies", "shields", "journal"]
theorem sc_check_journal : FnScope N_check_journal P_check_journal (defScope (top 30)) := ⟨by kernel_rfl, by kernel_rfl, by kernel_rfl, by decide +kernel, by kernel_rfl, by decide +kernel, by decide +kernel⟩
theorem ck_check_journal : ckSs (gnOf frees bts ecs his ds36) N_check_journal 3 (defScope (top 30)) b_check_journal (defBody (top 30)) = true := by decide +kernel
def H__law_told_0 : Hss := (.cons (.ite (.or_ (.cons (.not_ (.isx "BadEntry")) (.cons (.isxs ["BadAmount", "BadPart", "BadRates", "BadText", "NoSettlement"]) .nil))) (.cons (.ret (.tup (.cons (.cst (.str "other")) (.cons (.cst (.int 0)) .nil)))) .nil)) (.cons (.ite (.isxs ["OwnTaker", "TooFew", "TooMany", "TooSteep", "Twice", "Unknown", "Unlike", "Unvalued"]) (.cons (.ret (.tup (.cons (.cst (.str "other")) (.cons (.cst (.int 1)) .nil)))) .nil)) (.cons (.ite (.or_ (.cons (.not_ (.isI "_law_is_int" (.fld "at"))) (.cons (.not_ (.ty .str (.fld "reason"))) .nil))) (.cons (.ret (.tup (.cons (.cst (.str "other")) (.cons (.cst (.int 2)) .nil)))) .nil)) (.cons (.ret (.tup (.cons (.cst (.str "bad")) (.cons (.fld "at") (.cons (.fld "reason") .nil))))) .nil))))
def T__law_told_0 : Tbs := (.cons (.thr (some 4) (.call "check_journal" (.cons (.var 0) (.cons (.var 1) (.cons (.blt .tuple (.cons (.var 2) .nil)) .nil))))) .nil)
def b__law_told : Sxs := (.cons 
    (.tr_ T__law_told_0 ecs "CedeError" 3 H__law_told_0) (.cons 
    (.ret (.tup (.cons (.cst (.str "fine")) (.cons (.var 4) .nil)))) .nil))
def d__law_told : Dm := ⟨"_law_told", 3, 3, 5, b__law_told, fun _ => []⟩
def ds37 : List Dm := d_check_journal :: ds36
noncomputable def F37 (M : Nat) : Fn := mkF glo M ds37
def N__law_told : List Str := ["companies", "shields", "journal", "e", "told"]
def P__law_told : List Str := ["companies", "shields", "journal"]
theorem sc__law_told : FnScope N__law_told P__law_told (defScope (top 59)) := ⟨by kernel_rfl, by kernel_rfl, by kernel_rfl, by decide +kernel, by kernel_rfl, by decide +kernel, by decide +kernel⟩
theorem ck__law_told : ckSs (gnOf frees bts ecs his ds37) N__law_told 3 (defScope (top 59)) b__law_told (defBody (top 59)) = true := by decide +kernel
def b__law_reason : Sxs := (.cons 
    (.ite (.and_ (.cons (.cmp .Gt (.blt .len (.cons (.var 2) .nil)) (.cst (.int 0))) (.cons (.cmp .Lt (.idx (.var 3) (.cst (.int 1))) (.idx (.idx (.var 2) (.bin .Sub (.blt .len (.cons (.var 2) .nil)) (.cst (.int 1)))) (.cst (.int 1)))) .nil))) (.cons 
    (.ret (.cst (.str "order"))) .nil) .nil) (.cons 
    (.set 4 (.call "_law_names" (.cons (.var 2) .nil))) (.cons 
    (.ite (.or_ (.cons (.cmp .GtE (.blt .len (.cons (.var 2) .nil)) (.cst (.int 60))) (.cons (.and_ (.cons (.cmp .Eq (.idx (.var 3) (.cst (.int 0))) (.cst (.str "event"))) (.cons (.cmp .GtE (.blt .len (.cons (.var 4) .nil)) (.cst (.int 12))) .nil))) .nil))) (.cons 
    (.ret (.cst (.str "many"))) .nil) .nil) (.cons 
    (.ite (.cmp .Eq (.idx (.var 3) (.cst (.int 0))) (.cst (.str "event"))) (.cons 
    (.ite (.cmp .Gt (.idx (.var 3) (.cst (.int 3))) (.idx (.var 3) (.cst (.int 1)))) (.cons 
    (.ret (.cst (.str "early"))) .nil) .nil) (.cons 
    (.ite (.cmp .In (.idx (.var 3) (.cst (.int 2))) (.var 4)) (.cons 
    (.ret (.cst (.str "twice"))) .nil) .nil) (.cons 
    (.ret (.cst .non)) .nil))) .nil) (.cons 
    (.ite (.and_ (.cons (.cmp .Eq (.idx (.var 3) (.cst (.int 0))) (.cst (.str "report"))) (.cons (.cmp .NotIn (.idx (.var 3) (.cst (.int 2))) (.var 4)) .nil))) (.cons 
    (.ret (.cst (.str "unknown"))) .nil) .nil) (.cons 
    (.set 5 (.var 0)) (.cons 
    (.ite (.cmp .Eq (.idx (.var 3) (.cst (.int 0))) (.cst (.str "endorse"))) (.cons 
    (.set 5 (.var 1)) .nil) .nil) (.cons 
    (.ite (.chn .LtE .Lt (.cst (.int 0)) (.idx (.var 3) (.cst (.int 3))) (.var 5)) (.cons 
    (.ret (.cst .non)) .nil) .nil) (.cons 
    (.ret (.cst (.str "number"))) .nil)))))))))
def d__law_reason : Dm := ⟨"_law_reason", 4, 4, 6, b__law_reason, fun _ => []⟩
def ds38 : List Dm := d__law_told :: ds37
noncomputable def F38 (M : Nat) : Fn := mkF glo M ds38
def N__law_reason : List Str := ["companies", "many", "ahead", "entry", "names", "most"]
def P__law_reason : List Str := ["companies", "many", "ahead", "entry"]
theorem sc__law_reason : FnScope N__law_reason P__law_reason (defScope (top 57)) := ⟨by kernel_rfl, by kernel_rfl, by kernel_rfl, by decide +kernel, by kernel_rfl, by decide +kernel, by decide +kernel⟩
theorem ck__law_reason : ckSs (gnOf frees bts ecs his ds38) N__law_reason 4 (defScope (top 57)) b__law_reason (defBody (top 57)) = true := by decide +kernel
def B__law_first_0 : Sxs := (.cons 
    (.set 4 (.call "_law_reason" (.cons (.var 0) (.cons (.var 1) (.cons (.slc (.var 2) .none (.some (.var 3))) (.cons (.idx (.var 2) (.var 3)) .nil)))))) (.cons 
    (.ite (.cmp .NotEq (.var 4) (.cst .non)) (.cons 
    (.ret (.tup (.cons (.cst (.str "bad")) (.cons (.var 3) (.cons (.var 4) .nil))))) .nil) .nil) .nil))
def S__law_first_0 : Sx := (.for_ (.nm 3) (.rng (.blt .len (.cons (.var 2) .nil))) B__law_first_0)
def b__law_first : Sxs := (.cons 
    S__law_first_0 (.cons 
    (.ret (.tup (.cons (.cst (.str "fine")) (.cons (.cst .non) .nil)))) .nil))
def d__law_first : Dm := ⟨"_law_first", 3, 3, 5, b__law_first, fun _ => []⟩
def ds39 : List Dm := d__law_reason :: ds38
noncomputable def F39 (M : Nat) : Fn := mkF glo M ds39
def N__law_first : List Str := ["companies", "many", "journal", "at", "reason"]
def P__law_first : List Str := ["companies", "many", "journal"]
theorem sc__law_first : FnScope N__law_first P__law_first (defScope (top 58)) := ⟨by kernel_rfl, by kernel_rfl, by kernel_rfl, by decide +kernel, by kernel_rfl, by decide +kernel, by decide +kernel⟩
theorem ck__law_first : ckSs (gnOf frees bts ecs his ds39) N__law_first 3 (defScope (top 58)) b__law_first (defBody (top 58)) = true := by decide +kernel
def b__law_right : Sxs := (.cons 
    (.ret (.cmp .Eq (.call "_law_told" (.cons (.var 0) (.cons (.var 1) (.cons (.var 2) .nil)))) (.call "_law_first" (.cons (.var 0) (.cons (.blt .len (.cons (.var 1) .nil)) (.cons (.var 2) .nil)))))) .nil)
def d__law_right : Dm := ⟨"_law_right", 3, 3, 3, b__law_right, fun _ => []⟩
def ds40 : List Dm := d__law_first :: ds39
noncomputable def F40 (M : Nat) : Fn := mkF glo M ds40
def N__law_right : List Str := ["companies", "shields", "journal"]
def P__law_right : List Str := ["companies", "shields", "journal"]
theorem sc__law_right : FnScope N__law_right P__law_right (defScope (top 60)) := ⟨by kernel_rfl, by kernel_rfl, by kernel_rfl, by decide +kernel, by kernel_rfl, by decide +kernel, by decide +kernel⟩
theorem ck__law_right : ckSs (gnOf frees bts ecs his ds40) N__law_right 3 (defScope (top 60)) b__law_right (defBody (top 60)) = true := by decide +kernel
def B_law_1 : Sxs := (.cons 
    (.set 13 (.call "_law_entry" (.cons (.var 1) (.cons (.var 2) (.cons (.var 3) (.cons (.var 7) (.cons (.lst .nil) (.cons (.var 5) (.cons (.var 9) (.cons (.var 11) .nil)))))))))) (.cons 
    (.ite (.not_ (.val (.call "_law_right" (.cons (.var 2) (.cons (.var 4) (.cons (.bin .Add (.var 7) (.lst (.cons (.var 13) .nil))) .nil)))))) (.cons 
    (.ret (.cst (.bl false))) .nil) .nil) .nil))
def S_law_1 : Sx := (.for_ (.nm 11) (.seq (.tup (.cons (.cst (.int 0)) (.cons (.cst (.int 1)) (.cons (.cst (.int 2)) (.cons (.cst (.int 4)) .nil)))))) B_law_1)
def B_law_0 : Sxs := (.cons 
    S_law_1 .nil)
def S_law_0 : Sx := (.for_ (.nm 9) (.rng (.cst (.int 3))) B_law_0)
def B_law_2 : Sxs := (.cons 
    (.set 12 (.call "_law_draw" (.cons (.var 1) (.cons (.bin .Add (.blt .len (.cons (.var 6) .nil)) (.cst (.int 1))) .nil)))) (.cons 
    (.set 13 (.call "_law_entry" (.cons (.var 1) (.cons (.var 2) (.cons (.var 3) (.cons (.slc (.var 6) .none (.some (.var 12))) (.cons (.slc (.var 6) (.some (.var 12)) .none) (.cons (.var 5) (.cons (.call "_law_draw" (.cons (.var 1) (.cons (.cst (.int 3)) .nil))) (.cons (.bin .Add (.cst (.int 1)) (.call "_law_draw" (.cons (.var 1) (.cons (.cst (.int 7)) .nil)))) .nil)))))))))) (.cons 
    (.ite (.not_ (.val (.call "_law_right" (.cons (.var 2) (.cons (.var 4) (.cons (.bin .Add (.bin .Add (.slc (.var 6) .none (.some (.var 12))) (.lst (.cons (.var 13) .nil))) (.slc (.var 6) (.some (.var 12)) .none)) .nil)))))) (.cons 
    (.ret (.cst (.bl false))) .nil) .nil) (.cons 
    (.set 14 (.slc (.var 4) .none (.some (.call "_law_draw" (.cons (.var 1) (.cons (.bin .Add (.var 3) (.cst (.int 1))) .nil)))))) (.cons 
    (.set 15 (.bin .Add (.var 2) (.call "_law_draw" (.cons (.var 1) (.cons (.bin .Sub (.cst (.int 9)) (.var 2)) .nil))))) (.cons 
    (.ite (.cmp .Eq (.blt .len (.cons (.var 14) .nil)) (.cst (.int 0))) (.cons 
    (.set 15 (.bin .Add (.cst (.int 1)) (.call "_law_draw" (.cons (.var 1) (.cons (.cst (.int 8)) .nil))))) .nil) .nil) (.cons 
    (.ite (.not_ (.val (.call "_law_right" (.cons (.var 15) (.cons (.var 14) (.cons (.var 6) .nil)))))) (.cons 
    (.ret (.cst (.bl false))) .nil) .nil) .nil)))))))
def S_law_2 : Sx := (.for_ (.nm 10) (.rng (.cst (.int 4))) B_law_2)
def b_law : Sxs := (.cons 
    (.set 1 (.call "_law_begin" (.cons (.var 0) .nil))) (.cons 
    (.set 2 (.idx (.lst (.cons (.cst (.int 1)) (.cons (.cst (.int 2)) (.cons (.cst (.int 2)) (.cons (.cst (.int 3)) (.cons (.cst (.int 3)) (.cons (.cst (.int 4)) (.cons (.cst (.int 5)) (.cons (.cst (.int 8)) .nil))))))))) (.call "_law_draw" (.cons (.var 1) (.cons (.cst (.int 8)) .nil))))) (.cons 
    (.set 3 (.idx (.lst (.cons (.cst (.int 0)) (.cons (.cst (.int 1)) (.cons (.cst (.int 1)) (.cons (.cst (.int 2)) (.cons (.cst (.int 2)) (.cons (.cst (.int 3)) (.cons (.cst (.int 6)) .nil)))))))) (.call "_law_draw" (.cons (.var 1) (.cons (.cst (.int 7)) .nil))))) (.cons 
    (.ite (.cmp .Eq (.var 2) (.cst (.int 1))) (.cons 
    (.set 3 (.cst (.int 0))) .nil) .nil) (.cons 
    (.set 4 (.call "_law_shields" (.cons (.var 1) (.cons (.var 2) (.cons (.var 3) .nil))))) (.cons 
    (.set 5 (.call "_law_pool" .nil)) (.cons 
    (.set 6 (.call "_law_base" (.cons (.var 1) (.cons (.var 2) (.cons (.var 3) (.cons (.var 5) .nil)))))) (.cons 
    (.ite (.not_ (.val (.call "_law_right" (.cons (.var 2) (.cons (.var 4) (.cons (.var 6) .nil)))))) (.cons 
    (.ret (.cst (.bl false))) .nil) .nil) (.cons 
    (.set 7 (.var 6)) (.cons 
    (.set 8 (.call "_law_first" (.cons (.var 2) (.cons (.var 3) (.cons (.var 6) .nil))))) (.cons 
    (.ite (.cmp .Eq (.idx (.var 8) (.cst (.int 0))) (.cst (.str "bad"))) (.cons 
    (.set 7 (.slc (.var 6) .none (.some (.idx (.var 8) (.cst (.int 1)))))) (.cons 
    (.ite (.not_ (.val (.call "_law_right" (.cons (.var 2) (.cons (.var 4) (.cons (.var 7) .nil)))))) (.cons 
    (.ret (.cst (.bl false))) .nil) .nil) .nil)) .nil) (.cons 
    S_law_0 (.cons 
    S_law_2 (.cons 
    (.ret (.call "_law_right" (.cons (.var 2) (.cons (.var 4) (.cons (.var 6) .nil))))) .nil))))))))))))))
def d_law : Dm := ⟨"law", 1, 1, 16, b_law, fun _ => []⟩
def ds41 : List Dm := d__law_right :: ds40
noncomputable def F41 (M : Nat) : Fn := mkF glo M ds41
def N_law : List Str := ["script", "d", "companies", "many", "shields", "pool", "base", "right", "due", "kind", "turn", "mask", "at", "one", "fewer", "others"]
def P_law : List Str := ["script"]
theorem sc_law : FnScope N_law P_law (defScope (top 61)) := ⟨by kernel_rfl, by kernel_rfl, by kernel_rfl, by decide +kernel, by kernel_rfl, by decide +kernel, by decide +kernel⟩
theorem ck_law : ckSs (gnOf frees bts ecs his ds41) N_law 1 (defScope (top 61)) b_law (defBody (top 61)) = true := by decide +kernel
def ds42 : List Dm := d_law :: ds41
noncomputable def FU (M : Nat) : Fn := mkF glo M ds42
@[simp] theorem gl0 {M : Nat} : (F0 M).glo = glo := mkF_glo
@[simp] theorem gl1 {M : Nat} : (F1 M).glo = glo := mkF_glo
@[simp] theorem gl2 {M : Nat} : (F2 M).glo = glo := mkF_glo
@[simp] theorem gl3 {M : Nat} : (F3 M).glo = glo := mkF_glo
@[simp] theorem gl4 {M : Nat} : (F4 M).glo = glo := mkF_glo
@[simp] theorem gl5 {M : Nat} : (F5 M).glo = glo := mkF_glo
@[simp] theorem gl6 {M : Nat} : (F6 M).glo = glo := mkF_glo
@[simp] theorem gl7 {M : Nat} : (F7 M).glo = glo := mkF_glo
@[simp] theorem gl8 {M : Nat} : (F8 M).glo = glo := mkF_glo
@[simp] theorem gl9 {M : Nat} : (F9 M).glo = glo := mkF_glo
@[simp] theorem gl10 {M : Nat} : (F10 M).glo = glo := mkF_glo
@[simp] theorem gl11 {M : Nat} : (F11 M).glo = glo := mkF_glo
@[simp] theorem gl12 {M : Nat} : (F12 M).glo = glo := mkF_glo
@[simp] theorem gl13 {M : Nat} : (F13 M).glo = glo := mkF_glo
@[simp] theorem gl14 {M : Nat} : (F14 M).glo = glo := mkF_glo
@[simp] theorem gl15 {M : Nat} : (F15 M).glo = glo := mkF_glo
@[simp] theorem gl16 {M : Nat} : (F16 M).glo = glo := mkF_glo
@[simp] theorem gl17 {M : Nat} : (F17 M).glo = glo := mkF_glo
@[simp] theorem gl18 {M : Nat} : (F18 M).glo = glo := mkF_glo
@[simp] theorem gl19 {M : Nat} : (F19 M).glo = glo := mkF_glo
@[simp] theorem gl20 {M : Nat} : (F20 M).glo = glo := mkF_glo
@[simp] theorem gl21 {M : Nat} : (F21 M).glo = glo := mkF_glo
@[simp] theorem gl22 {M : Nat} : (F22 M).glo = glo := mkF_glo
@[simp] theorem gl23 {M : Nat} : (F23 M).glo = glo := mkF_glo
@[simp] theorem gl24 {M : Nat} : (F24 M).glo = glo := mkF_glo
@[simp] theorem gl25 {M : Nat} : (F25 M).glo = glo := mkF_glo
@[simp] theorem gl26 {M : Nat} : (F26 M).glo = glo := mkF_glo
@[simp] theorem gl27 {M : Nat} : (F27 M).glo = glo := mkF_glo
@[simp] theorem gl28 {M : Nat} : (F28 M).glo = glo := mkF_glo
@[simp] theorem gl29 {M : Nat} : (F29 M).glo = glo := mkF_glo
@[simp] theorem gl30 {M : Nat} : (F30 M).glo = glo := mkF_glo
@[simp] theorem gl31 {M : Nat} : (F31 M).glo = glo := mkF_glo
@[simp] theorem gl32 {M : Nat} : (F32 M).glo = glo := mkF_glo
@[simp] theorem gl33 {M : Nat} : (F33 M).glo = glo := mkF_glo
@[simp] theorem gl34 {M : Nat} : (F34 M).glo = glo := mkF_glo
@[simp] theorem gl35 {M : Nat} : (F35 M).glo = glo := mkF_glo
@[simp] theorem gl36 {M : Nat} : (F36 M).glo = glo := mkF_glo
@[simp] theorem gl37 {M : Nat} : (F37 M).glo = glo := mkF_glo
@[simp] theorem gl38 {M : Nat} : (F38 M).glo = glo := mkF_glo
@[simp] theorem gl39 {M : Nat} : (F39 M).glo = glo := mkF_glo
@[simp] theorem gl40 {M : Nat} : (F40 M).glo = glo := mkF_glo
@[simp] theorem gl41 {M : Nat} : (F41 M).glo = glo := mkF_glo
theorem up__law_begin {M : Nat} : (FU M).call "_law_begin" = (mkF glo M ds1).call "_law_begin" := lift (ds := ds1) [d_law, d__law_right, d__law_first, d__law_reason, d__law_told, d_check_journal, d_check_entry, d_reason_against, d_has_strange_number, d_is_of_nothing, d_is_declared_twice, d_is_declared, d_event_entry, d_is_early, d_is_one_too_many, d_events_of, d_heard_too_soon, d__law_is_int, d__law_base, d__law_entry, d__law_heard, d__law_event, d__law_pop, d__law_endorse, d__law_report, d__law_strange, d__law_names, d__law_pick, d__law_rare, d__law_shields, d__law_line, d__law_normal, d__law_part, d__law_ends, d__law_plus, d__law_gap, d__law_amount, d__law_gcd, d__law_pool, d__law_shuffled, d__law_draw] (by decide +kernel)
theorem run__law_begin {M : Nat} {as : List A} (h : as.length = 1) : (FU M).call "_law_begin" as = runDef (F0 M) M 2 b__law_begin as := (congrFun up__law_begin as).trans ((mkF_self as).trans (if_pos h))
theorem up__law_draw {M : Nat} : (FU M).call "_law_draw" = (mkF glo M ds2).call "_law_draw" := lift (ds := ds2) [d_law, d__law_right, d__law_first, d__law_reason, d__law_told, d_check_journal, d_check_entry, d_reason_against, d_has_strange_number, d_is_of_nothing, d_is_declared_twice, d_is_declared, d_event_entry, d_is_early, d_is_one_too_many, d_events_of, d_heard_too_soon, d__law_is_int, d__law_base, d__law_entry, d__law_heard, d__law_event, d__law_pop, d__law_endorse, d__law_report, d__law_strange, d__law_names, d__law_pick, d__law_rare, d__law_shields, d__law_line, d__law_normal, d__law_part, d__law_ends, d__law_plus, d__law_gap, d__law_amount, d__law_gcd, d__law_pool, d__law_shuffled] (by decide +kernel)
theorem run__law_draw {M : Nat} {as : List A} (h : as.length = 2) : (FU M).call "_law_draw" as = runDef (F1 M) M 5 b__law_draw as := (congrFun up__law_draw as).trans ((mkF_self as).trans (if_pos h))
theorem up__law_shuffled {M : Nat} : (FU M).call "_law_shuffled" = (mkF glo M ds3).call "_law_shuffled" := lift (ds := ds3) [d_law, d__law_right, d__law_first, d__law_reason, d__law_told, d_check_journal, d_check_entry, d_reason_against, d_has_strange_number, d_is_of_nothing, d_is_declared_twice, d_is_declared, d_event_entry, d_is_early, d_is_one_too_many, d_events_of, d_heard_too_soon, d__law_is_int, d__law_base, d__law_entry, d__law_heard, d__law_event, d__law_pop, d__law_endorse, d__law_report, d__law_strange, d__law_names, d__law_pick, d__law_rare, d__law_shields, d__law_line, d__law_normal, d__law_part, d__law_ends, d__law_plus, d__law_gap, d__law_amount, d__law_gcd, d__law_pool] (by decide +kernel)
theorem run__law_shuffled {M : Nat} {as : List A} (h : as.length = 2) : (FU M).call "_law_shuffled" as = runDef (F2 M) M 5 b__law_shuffled as := (congrFun up__law_shuffled as).trans ((mkF_self as).trans (if_pos h))
theorem up__law_pool {M : Nat} : (FU M).call "_law_pool" = (mkF glo M ds4).call "_law_pool" := lift (ds := ds4) [d_law, d__law_right, d__law_first, d__law_reason, d__law_told, d_check_journal, d_check_entry, d_reason_against, d_has_strange_number, d_is_of_nothing, d_is_declared_twice, d_is_declared, d_event_entry, d_is_early, d_is_one_too_many, d_events_of, d_heard_too_soon, d__law_is_int, d__law_base, d__law_entry, d__law_heard, d__law_event, d__law_pop, d__law_endorse, d__law_report, d__law_strange, d__law_names, d__law_pick, d__law_rare, d__law_shields, d__law_line, d__law_normal, d__law_part, d__law_ends, d__law_plus, d__law_gap, d__law_amount, d__law_gcd] (by decide +kernel)
theorem run__law_pool {M : Nat} {as : List A} (h : as.length = 0) : (FU M).call "_law_pool" as = runDef (F3 M) M 1 b__law_pool as := (congrFun up__law_pool as).trans ((mkF_self as).trans (if_pos h))
theorem up__law_gcd {M : Nat} : (FU M).call "_law_gcd" = (mkF glo M ds5).call "_law_gcd" := lift (ds := ds5) [d_law, d__law_right, d__law_first, d__law_reason, d__law_told, d_check_journal, d_check_entry, d_reason_against, d_has_strange_number, d_is_of_nothing, d_is_declared_twice, d_is_declared, d_event_entry, d_is_early, d_is_one_too_many, d_events_of, d_heard_too_soon, d__law_is_int, d__law_base, d__law_entry, d__law_heard, d__law_event, d__law_pop, d__law_endorse, d__law_report, d__law_strange, d__law_names, d__law_pick, d__law_rare, d__law_shields, d__law_line, d__law_normal, d__law_part, d__law_ends, d__law_plus, d__law_gap, d__law_amount] (by decide +kernel)
theorem run__law_gcd {M : Nat} {as : List A} (h : as.length = 2) : (FU M).call "_law_gcd" as = runDef (F4 M) M 4 b__law_gcd as := (congrFun up__law_gcd as).trans ((mkF_self as).trans (if_pos h))
theorem up__law_amount {M : Nat} : (FU M).call "_law_amount" = (mkF glo M ds6).call "_law_amount" := lift (ds := ds6) [d_law, d__law_right, d__law_first, d__law_reason, d__law_told, d_check_journal, d_check_entry, d_reason_against, d_has_strange_number, d_is_of_nothing, d_is_declared_twice, d_is_declared, d_event_entry, d_is_early, d_is_one_too_many, d_events_of, d_heard_too_soon, d__law_is_int, d__law_base, d__law_entry, d__law_heard, d__law_event, d__law_pop, d__law_endorse, d__law_report, d__law_strange, d__law_names, d__law_pick, d__law_rare, d__law_shields, d__law_line, d__law_normal, d__law_part, d__law_ends, d__law_plus, d__law_gap] (by decide +kernel)
theorem run__law_amount {M : Nat} {as : List A} (h : as.length = 2) : (FU M).call "_law_amount" as = runDef (F5 M) M 3 b__law_amount as := (congrFun up__law_amount as).trans ((mkF_self as).trans (if_pos h))
theorem up__law_gap {M : Nat} : (FU M).call "_law_gap" = (mkF glo M ds7).call "_law_gap" := lift (ds := ds7) [d_law, d__law_right, d__law_first, d__law_reason, d__law_told, d_check_journal, d_check_entry, d_reason_against, d_has_strange_number, d_is_of_nothing, d_is_declared_twice, d_is_declared, d_event_entry, d_is_early, d_is_one_too_many, d_events_of, d_heard_too_soon, d__law_is_int, d__law_base, d__law_entry, d__law_heard, d__law_event, d__law_pop, d__law_endorse, d__law_report, d__law_strange, d__law_names, d__law_pick, d__law_rare, d__law_shields, d__law_line, d__law_normal, d__law_part, d__law_ends, d__law_plus] (by decide +kernel)
theorem run__law_gap {M : Nat} {as : List A} (h : as.length = 1) : (FU M).call "_law_gap" as = runDef (F6 M) M 2 b__law_gap as := (congrFun up__law_gap as).trans ((mkF_self as).trans (if_pos h))
theorem up__law_plus {M : Nat} : (FU M).call "_law_plus" = (mkF glo M ds8).call "_law_plus" := lift (ds := ds8) [d_law, d__law_right, d__law_first, d__law_reason, d__law_told, d_check_journal, d_check_entry, d_reason_against, d_has_strange_number, d_is_of_nothing, d_is_declared_twice, d_is_declared, d_event_entry, d_is_early, d_is_one_too_many, d_events_of, d_heard_too_soon, d__law_is_int, d__law_base, d__law_entry, d__law_heard, d__law_event, d__law_pop, d__law_endorse, d__law_report, d__law_strange, d__law_names, d__law_pick, d__law_rare, d__law_shields, d__law_line, d__law_normal, d__law_part, d__law_ends] (by decide +kernel)
theorem run__law_plus {M : Nat} {as : List A} (h : as.length = 2) : (FU M).call "_law_plus" as = runDef (F7 M) M 2 b__law_plus as := (congrFun up__law_plus as).trans ((mkF_self as).trans (if_pos h))
theorem up__law_ends {M : Nat} : (FU M).call "_law_ends" = (mkF glo M ds9).call "_law_ends" := lift (ds := ds9) [d_law, d__law_right, d__law_first, d__law_reason, d__law_told, d_check_journal, d_check_entry, d_reason_against, d_has_strange_number, d_is_of_nothing, d_is_declared_twice, d_is_declared, d_event_entry, d_is_early, d_is_one_too_many, d_events_of, d_heard_too_soon, d__law_is_int, d__law_base, d__law_entry, d__law_heard, d__law_event, d__law_pop, d__law_endorse, d__law_report, d__law_strange, d__law_names, d__law_pick, d__law_rare, d__law_shields, d__law_line, d__law_normal, d__law_part] (by decide +kernel)
theorem run__law_ends {M : Nat} {as : List A} (h : as.length = 2) : (FU M).call "_law_ends" as = runDef (F8 M) M 5 b__law_ends as := (congrFun up__law_ends as).trans ((mkF_self as).trans (if_pos h))
theorem up__law_part {M : Nat} : (FU M).call "_law_part" = (mkF glo M ds10).call "_law_part" := lift (ds := ds10) [d_law, d__law_right, d__law_first, d__law_reason, d__law_told, d_check_journal, d_check_entry, d_reason_against, d_has_strange_number, d_is_of_nothing, d_is_declared_twice, d_is_declared, d_event_entry, d_is_early, d_is_one_too_many, d_events_of, d_heard_too_soon, d__law_is_int, d__law_base, d__law_entry, d__law_heard, d__law_event, d__law_pop, d__law_endorse, d__law_report, d__law_strange, d__law_names, d__law_pick, d__law_rare, d__law_shields, d__law_line, d__law_normal] (by decide +kernel)
theorem run__law_part {M : Nat} {as : List A} (h : as.length = 1) : (FU M).call "_law_part" as = runDef (F9 M) M 2 b__law_part as := (congrFun up__law_part as).trans ((mkF_self as).trans (if_pos h))
theorem up__law_normal {M : Nat} : (FU M).call "_law_normal" = (mkF glo M ds11).call "_law_normal" := lift (ds := ds11) [d_law, d__law_right, d__law_first, d__law_reason, d__law_told, d_check_journal, d_check_entry, d_reason_against, d_has_strange_number, d_is_of_nothing, d_is_declared_twice, d_is_declared, d_event_entry, d_is_early, d_is_one_too_many, d_events_of, d_heard_too_soon, d__law_is_int, d__law_base, d__law_entry, d__law_heard, d__law_event, d__law_pop, d__law_endorse, d__law_report, d__law_strange, d__law_names, d__law_pick, d__law_rare, d__law_shields, d__law_line] (by decide +kernel)
theorem run__law_normal {M : Nat} {as : List A} (h : as.length = 1) : (FU M).call "_law_normal" as = runDef (F10 M) M 4 b__law_normal as := (congrFun up__law_normal as).trans ((mkF_self as).trans (if_pos h))
theorem up__law_line {M : Nat} : (FU M).call "_law_line" = (mkF glo M ds12).call "_law_line" := lift (ds := ds12) [d_law, d__law_right, d__law_first, d__law_reason, d__law_told, d_check_journal, d_check_entry, d_reason_against, d_has_strange_number, d_is_of_nothing, d_is_declared_twice, d_is_declared, d_event_entry, d_is_early, d_is_one_too_many, d_events_of, d_heard_too_soon, d__law_is_int, d__law_base, d__law_entry, d__law_heard, d__law_event, d__law_pop, d__law_endorse, d__law_report, d__law_strange, d__law_names, d__law_pick, d__law_rare, d__law_shields] (by decide +kernel)
theorem run__law_line {M : Nat} {as : List A} (h : as.length = 2) : (FU M).call "_law_line" as = runDef (F11 M) M 5 b__law_line as := (congrFun up__law_line as).trans ((mkF_self as).trans (if_pos h))
theorem up__law_shields {M : Nat} : (FU M).call "_law_shields" = (mkF glo M ds13).call "_law_shields" := lift (ds := ds13) [d_law, d__law_right, d__law_first, d__law_reason, d__law_told, d_check_journal, d_check_entry, d_reason_against, d_has_strange_number, d_is_of_nothing, d_is_declared_twice, d_is_declared, d_event_entry, d_is_early, d_is_one_too_many, d_events_of, d_heard_too_soon, d__law_is_int, d__law_base, d__law_entry, d__law_heard, d__law_event, d__law_pop, d__law_endorse, d__law_report, d__law_strange, d__law_names, d__law_pick, d__law_rare] (by decide +kernel)
theorem run__law_shields {M : Nat} {as : List A} (h : as.length = 3) : (FU M).call "_law_shields" as = runDef (F12 M) M 10 b__law_shields as := (congrFun up__law_shields as).trans ((mkF_self as).trans (if_pos h))
theorem up__law_rare {M : Nat} : (FU M).call "_law_rare" = (mkF glo M ds14).call "_law_rare" := lift (ds := ds14) [d_law, d__law_right, d__law_first, d__law_reason, d__law_told, d_check_journal, d_check_entry, d_reason_against, d_has_strange_number, d_is_of_nothing, d_is_declared_twice, d_is_declared, d_event_entry, d_is_early, d_is_one_too_many, d_events_of, d_heard_too_soon, d__law_is_int, d__law_base, d__law_entry, d__law_heard, d__law_event, d__law_pop, d__law_endorse, d__law_report, d__law_strange, d__law_names, d__law_pick] (by decide +kernel)
theorem run__law_rare {M : Nat} {as : List A} (h : as.length = 2) : (FU M).call "_law_rare" as = runDef (F13 M) M 2 b__law_rare as := (congrFun up__law_rare as).trans ((mkF_self as).trans (if_pos h))
theorem up__law_pick {M : Nat} : (FU M).call "_law_pick" = (mkF glo M ds15).call "_law_pick" := lift (ds := ds15) [d_law, d__law_right, d__law_first, d__law_reason, d__law_told, d_check_journal, d_check_entry, d_reason_against, d_has_strange_number, d_is_of_nothing, d_is_declared_twice, d_is_declared, d_event_entry, d_is_early, d_is_one_too_many, d_events_of, d_heard_too_soon, d__law_is_int, d__law_base, d__law_entry, d__law_heard, d__law_event, d__law_pop, d__law_endorse, d__law_report, d__law_strange, d__law_names] (by decide +kernel)
theorem run__law_pick {M : Nat} {as : List A} (h : as.length = 2) : (FU M).call "_law_pick" as = runDef (F14 M) M 2 b__law_pick as := (congrFun up__law_pick as).trans ((mkF_self as).trans (if_pos h))
theorem up__law_names {M : Nat} : (FU M).call "_law_names" = (mkF glo M ds16).call "_law_names" := lift (ds := ds16) [d_law, d__law_right, d__law_first, d__law_reason, d__law_told, d_check_journal, d_check_entry, d_reason_against, d_has_strange_number, d_is_of_nothing, d_is_declared_twice, d_is_declared, d_event_entry, d_is_early, d_is_one_too_many, d_events_of, d_heard_too_soon, d__law_is_int, d__law_base, d__law_entry, d__law_heard, d__law_event, d__law_pop, d__law_endorse, d__law_report, d__law_strange] (by decide +kernel)
theorem run__law_names {M : Nat} {as : List A} (h : as.length = 1) : (FU M).call "_law_names" as = runDef (F15 M) M 2 b__law_names as := (congrFun up__law_names as).trans ((mkF_self as).trans (if_pos h))
theorem up__law_strange {M : Nat} : (FU M).call "_law_strange" = (mkF glo M ds17).call "_law_strange" := lift (ds := ds17) [d_law, d__law_right, d__law_first, d__law_reason, d__law_told, d_check_journal, d_check_entry, d_reason_against, d_has_strange_number, d_is_of_nothing, d_is_declared_twice, d_is_declared, d_event_entry, d_is_early, d_is_one_too_many, d_events_of, d_heard_too_soon, d__law_is_int, d__law_base, d__law_entry, d__law_heard, d__law_event, d__law_pop, d__law_endorse, d__law_report] (by decide +kernel)
theorem run__law_strange {M : Nat} {as : List A} (h : as.length = 2) : (FU M).call "_law_strange" as = runDef (F16 M) M 2 b__law_strange as := (congrFun up__law_strange as).trans ((mkF_self as).trans (if_pos h))
theorem up__law_report {M : Nat} : (FU M).call "_law_report" = (mkF glo M ds18).call "_law_report" := lift (ds := ds18) [d_law, d__law_right, d__law_first, d__law_reason, d__law_told, d_check_journal, d_check_entry, d_reason_against, d_has_strange_number, d_is_of_nothing, d_is_declared_twice, d_is_declared, d_event_entry, d_is_early, d_is_one_too_many, d_events_of, d_heard_too_soon, d__law_is_int, d__law_base, d__law_entry, d__law_heard, d__law_event, d__law_pop, d__law_endorse] (by decide +kernel)
theorem run__law_report {M : Nat} {as : List A} (h : as.length = 6) : (FU M).call "_law_report" as = runDef (F17 M) M 8 b__law_report as := (congrFun up__law_report as).trans ((mkF_self as).trans (if_pos h))
theorem up__law_endorse {M : Nat} : (FU M).call "_law_endorse" = (mkF glo M ds19).call "_law_endorse" := lift (ds := ds19) [d_law, d__law_right, d__law_first, d__law_reason, d__law_told, d_check_journal, d_check_entry, d_reason_against, d_has_strange_number, d_is_of_nothing, d_is_declared_twice, d_is_declared, d_event_entry, d_is_early, d_is_one_too_many, d_events_of, d_heard_too_soon, d__law_is_int, d__law_base, d__law_entry, d__law_heard, d__law_event, d__law_pop] (by decide +kernel)
theorem run__law_endorse {M : Nat} {as : List A} (h : as.length = 4) : (FU M).call "_law_endorse" as = runDef (F18 M) M 6 b__law_endorse as := (congrFun up__law_endorse as).trans ((mkF_self as).trans (if_pos h))
theorem up__law_pop {M : Nat} : (FU M).call "_law_pop" = (mkF glo M ds20).call "_law_pop" := lift (ds := ds20) [d_law, d__law_right, d__law_first, d__law_reason, d__law_told, d_check_journal, d_check_entry, d_reason_against, d_has_strange_number, d_is_of_nothing, d_is_declared_twice, d_is_declared, d_event_entry, d_is_early, d_is_one_too_many, d_events_of, d_heard_too_soon, d__law_is_int, d__law_base, d__law_entry, d__law_heard, d__law_event] (by decide +kernel)
theorem run__law_pop {M : Nat} {as : List A} (h : as.length = 2) : (FU M).call "_law_pop" as = runDef (F19 M) M 2 b__law_pop as := (congrFun up__law_pop as).trans ((mkF_self as).trans (if_pos h))
theorem up__law_event {M : Nat} : (FU M).call "_law_event" = (mkF glo M ds21).call "_law_event" := lift (ds := ds21) [d_law, d__law_right, d__law_first, d__law_reason, d__law_told, d_check_journal, d_check_entry, d_reason_against, d_has_strange_number, d_is_of_nothing, d_is_declared_twice, d_is_declared, d_event_entry, d_is_early, d_is_one_too_many, d_events_of, d_heard_too_soon, d__law_is_int, d__law_base, d__law_entry, d__law_heard] (by decide +kernel)
theorem run__law_event {M : Nat} {as : List A} (h : as.length = 5) : (FU M).call "_law_event" as = runDef (F20 M) M 7 b__law_event as := (congrFun up__law_event as).trans ((mkF_self as).trans (if_pos h))
theorem up__law_heard {M : Nat} : (FU M).call "_law_heard" = (mkF glo M ds22).call "_law_heard" := lift (ds := ds22) [d_law, d__law_right, d__law_first, d__law_reason, d__law_told, d_check_journal, d_check_entry, d_reason_against, d_has_strange_number, d_is_of_nothing, d_is_declared_twice, d_is_declared, d_event_entry, d_is_early, d_is_one_too_many, d_events_of, d_heard_too_soon, d__law_is_int, d__law_base, d__law_entry] (by decide +kernel)
theorem run__law_heard {M : Nat} {as : List A} (h : as.length = 2) : (FU M).call "_law_heard" as = runDef (F21 M) M 2 b__law_heard as := (congrFun up__law_heard as).trans ((mkF_self as).trans (if_pos h))
theorem up__law_entry {M : Nat} : (FU M).call "_law_entry" = (mkF glo M ds23).call "_law_entry" := lift (ds := ds23) [d_law, d__law_right, d__law_first, d__law_reason, d__law_told, d_check_journal, d_check_entry, d_reason_against, d_has_strange_number, d_is_of_nothing, d_is_declared_twice, d_is_declared, d_event_entry, d_is_early, d_is_one_too_many, d_events_of, d_heard_too_soon, d__law_is_int, d__law_base] (by decide +kernel)
theorem run__law_entry {M : Nat} {as : List A} (h : as.length = 8) : (FU M).call "_law_entry" as = runDef (F22 M) M 12 b__law_entry as := (congrFun up__law_entry as).trans ((mkF_self as).trans (if_pos h))
theorem up__law_base {M : Nat} : (FU M).call "_law_base" = (mkF glo M ds24).call "_law_base" := lift (ds := ds24) [d_law, d__law_right, d__law_first, d__law_reason, d__law_told, d_check_journal, d_check_entry, d_reason_against, d_has_strange_number, d_is_of_nothing, d_is_declared_twice, d_is_declared, d_event_entry, d_is_early, d_is_one_too_many, d_events_of, d_heard_too_soon, d__law_is_int] (by decide +kernel)
theorem run__law_base {M : Nat} {as : List A} (h : as.length = 4) : (FU M).call "_law_base" as = runDef (F23 M) M 11 b__law_base as := (congrFun up__law_base as).trans ((mkF_self as).trans (if_pos h))
theorem up__law_is_int {M : Nat} : (FU M).call "_law_is_int" = (mkF glo M ds25).call "_law_is_int" := lift (ds := ds25) [d_law, d__law_right, d__law_first, d__law_reason, d__law_told, d_check_journal, d_check_entry, d_reason_against, d_has_strange_number, d_is_of_nothing, d_is_declared_twice, d_is_declared, d_event_entry, d_is_early, d_is_one_too_many, d_events_of, d_heard_too_soon] (by decide +kernel)
theorem run__law_is_int {M : Nat} {as : List A} (h : as.length = 1) : (FU M).call "_law_is_int" as = runDef (F24 M) M 1 b__law_is_int as := (congrFun up__law_is_int as).trans ((mkF_self as).trans (if_pos h))
theorem up_heard_too_soon {M : Nat} : (FU M).call "heard_too_soon" = (mkF glo M ds26).call "heard_too_soon" := lift (ds := ds26) [d_law, d__law_right, d__law_first, d__law_reason, d__law_told, d_check_journal, d_check_entry, d_reason_against, d_has_strange_number, d_is_of_nothing, d_is_declared_twice, d_is_declared, d_event_entry, d_is_early, d_is_one_too_many, d_events_of] (by decide +kernel)
theorem run_heard_too_soon {M : Nat} {as : List A} (h : as.length = 2) : (FU M).call "heard_too_soon" as = runDef (F25 M) M 2 b_heard_too_soon as := (congrFun up_heard_too_soon as).trans ((mkF_self as).trans (if_pos h))
theorem up_events_of {M : Nat} : (FU M).call "events_of" = (mkF glo M ds27).call "events_of" := lift (ds := ds27) [d_law, d__law_right, d__law_first, d__law_reason, d__law_told, d_check_journal, d_check_entry, d_reason_against, d_has_strange_number, d_is_of_nothing, d_is_declared_twice, d_is_declared, d_event_entry, d_is_early, d_is_one_too_many] (by decide +kernel)
theorem run_events_of {M : Nat} {as : List A} (h : as.length = 1) : (FU M).call "events_of" as = runDef (F26 M) M 2 b_events_of as := (congrFun up_events_of as).trans ((mkF_self as).trans (if_pos h))
theorem up_is_one_too_many {M : Nat} : (FU M).call "is_one_too_many" = (mkF glo M ds28).call "is_one_too_many" := lift (ds := ds28) [d_law, d__law_right, d__law_first, d__law_reason, d__law_told, d_check_journal, d_check_entry, d_reason_against, d_has_strange_number, d_is_of_nothing, d_is_declared_twice, d_is_declared, d_event_entry, d_is_early] (by decide +kernel)
theorem run_is_one_too_many {M : Nat} {as : List A} (h : as.length = 2) : (FU M).call "is_one_too_many" as = runDef (F27 M) M 2 b_is_one_too_many as := (congrFun up_is_one_too_many as).trans ((mkF_self as).trans (if_pos h))
theorem up_is_early {M : Nat} : (FU M).call "is_early" = (mkF glo M ds29).call "is_early" := lift (ds := ds29) [d_law, d__law_right, d__law_first, d__law_reason, d__law_told, d_check_journal, d_check_entry, d_reason_against, d_has_strange_number, d_is_of_nothing, d_is_declared_twice, d_is_declared, d_event_entry] (by decide +kernel)
theorem run_is_early {M : Nat} {as : List A} (h : as.length = 1) : (FU M).call "is_early" as = runDef (F28 M) M 1 b_is_early as := (congrFun up_is_early as).trans ((mkF_self as).trans (if_pos h))
theorem up_event_entry {M : Nat} : (FU M).call "event_entry" = (mkF glo M ds30).call "event_entry" := lift (ds := ds30) [d_law, d__law_right, d__law_first, d__law_reason, d__law_told, d_check_journal, d_check_entry, d_reason_against, d_has_strange_number, d_is_of_nothing, d_is_declared_twice, d_is_declared] (by decide +kernel)
theorem run_event_entry {M : Nat} {as : List A} (h : as.length = 2) : (FU M).call "event_entry" as = runDef (F29 M) M 3 b_event_entry as := (congrFun up_event_entry as).trans ((mkF_self as).trans (if_pos h))
theorem up_is_declared {M : Nat} : (FU M).call "is_declared" = (mkF glo M ds31).call "is_declared" := lift (ds := ds31) [d_law, d__law_right, d__law_first, d__law_reason, d__law_told, d_check_journal, d_check_entry, d_reason_against, d_has_strange_number, d_is_of_nothing, d_is_declared_twice] (by decide +kernel)
theorem run_is_declared {M : Nat} {as : List A} (h : as.length = 2) : (FU M).call "is_declared" as = runDef (F30 M) M 2 b_is_declared as := (congrFun up_is_declared as).trans ((mkF_self as).trans (if_pos h))
theorem up_is_declared_twice {M : Nat} : (FU M).call "is_declared_twice" = (mkF glo M ds32).call "is_declared_twice" := lift (ds := ds32) [d_law, d__law_right, d__law_first, d__law_reason, d__law_told, d_check_journal, d_check_entry, d_reason_against, d_has_strange_number, d_is_of_nothing] (by decide +kernel)
theorem run_is_declared_twice {M : Nat} {as : List A} (h : as.length = 2) : (FU M).call "is_declared_twice" as = runDef (F31 M) M 2 b_is_declared_twice as := (congrFun up_is_declared_twice as).trans ((mkF_self as).trans (if_pos h))
theorem up_is_of_nothing {M : Nat} : (FU M).call "is_of_nothing" = (mkF glo M ds33).call "is_of_nothing" := lift (ds := ds33) [d_law, d__law_right, d__law_first, d__law_reason, d__law_told, d_check_journal, d_check_entry, d_reason_against, d_has_strange_number] (by decide +kernel)
theorem run_is_of_nothing {M : Nat} {as : List A} (h : as.length = 2) : (FU M).call "is_of_nothing" as = runDef (F32 M) M 2 b_is_of_nothing as := (congrFun up_is_of_nothing as).trans ((mkF_self as).trans (if_pos h))
theorem up_has_strange_number {M : Nat} : (FU M).call "has_strange_number" = (mkF glo M ds34).call "has_strange_number" := lift (ds := ds34) [d_law, d__law_right, d__law_first, d__law_reason, d__law_told, d_check_journal, d_check_entry, d_reason_against] (by decide +kernel)
theorem run_has_strange_number {M : Nat} {as : List A} (h : as.length = 3) : (FU M).call "has_strange_number" as = runDef (F33 M) M 3 b_has_strange_number as := (congrFun up_has_strange_number as).trans ((mkF_self as).trans (if_pos h))
theorem up_reason_against {M : Nat} : (FU M).call "reason_against" = (mkF glo M ds35).call "reason_against" := lift (ds := ds35) [d_law, d__law_right, d__law_first, d__law_reason, d__law_told, d_check_journal, d_check_entry] (by decide +kernel)
theorem run_reason_against {M : Nat} {as : List A} (h : as.length = 4) : (FU M).call "reason_against" as = runDef (F34 M) M 4 b_reason_against as := (congrFun up_reason_against as).trans ((mkF_self as).trans (if_pos h))
theorem up_check_entry {M : Nat} : (FU M).call "check_entry" = (mkF glo M ds36).call "check_entry" := lift (ds := ds36) [d_law, d__law_right, d__law_first, d__law_reason, d__law_told, d_check_journal] (by decide +kernel)
theorem run_check_entry {M : Nat} {as : List A} (h : as.length = 4) : (FU M).call "check_entry" as = runDef (F35 M) M 5 b_check_entry as := (congrFun up_check_entry as).trans ((mkF_self as).trans (if_pos h))
theorem up_check_journal {M : Nat} : (FU M).call "check_journal" = (mkF glo M ds37).call "check_journal" := lift (ds := ds37) [d_law, d__law_right, d__law_first, d__law_reason, d__law_told] (by decide +kernel)
theorem run_check_journal {M : Nat} {as : List A} (h : as.length = 3) : (FU M).call "check_journal" as = runDef (F36 M) M 5 b_check_journal as := (congrFun up_check_journal as).trans ((mkF_self as).trans (if_pos h))
theorem up__law_told {M : Nat} : (FU M).call "_law_told" = (mkF glo M ds38).call "_law_told" := lift (ds := ds38) [d_law, d__law_right, d__law_first, d__law_reason] (by decide +kernel)
theorem run__law_told {M : Nat} {as : List A} (h : as.length = 3) : (FU M).call "_law_told" as = runDef (F37 M) M 5 b__law_told as := (congrFun up__law_told as).trans ((mkF_self as).trans (if_pos h))
theorem up__law_reason {M : Nat} : (FU M).call "_law_reason" = (mkF glo M ds39).call "_law_reason" := lift (ds := ds39) [d_law, d__law_right, d__law_first] (by decide +kernel)
theorem run__law_reason {M : Nat} {as : List A} (h : as.length = 4) : (FU M).call "_law_reason" as = runDef (F38 M) M 6 b__law_reason as := (congrFun up__law_reason as).trans ((mkF_self as).trans (if_pos h))
theorem up__law_first {M : Nat} : (FU M).call "_law_first" = (mkF glo M ds40).call "_law_first" := lift (ds := ds40) [d_law, d__law_right] (by decide +kernel)
theorem run__law_first {M : Nat} {as : List A} (h : as.length = 3) : (FU M).call "_law_first" as = runDef (F39 M) M 5 b__law_first as := (congrFun up__law_first as).trans ((mkF_self as).trans (if_pos h))
theorem up__law_right {M : Nat} : (FU M).call "_law_right" = (mkF glo M ds41).call "_law_right" := lift (ds := ds41) [d_law] (by decide +kernel)
theorem run__law_right {M : Nat} {as : List A} (h : as.length = 3) : (FU M).call "_law_right" as = runDef (F40 M) M 3 b__law_right as := (congrFun up__law_right as).trans ((mkF_self as).trans (if_pos h))
theorem up_law {M : Nat} : (FU M).call "law" = (mkF glo M ds42).call "law" := lift (ds := ds42) [] (by decide +kernel)
theorem run_law {M : Nat} {as : List A} (h : as.length = 1) : (FU M).call "law" as = runDef (F41 M) M 16 b_law as := (congrFun up_law as).trans ((mkF_self as).trans (if_pos h))
@[simp] theorem up2__law_draw {M : Nat} : (F2 M).call "_law_draw" = (FU M).call "_law_draw" := (lift (ds := ds2) [] (by decide +kernel)).trans up__law_draw.symm
@[simp] theorem dfl2__law_draw {M : Nat} (n : Nat) : (F2 M).dfl "_law_draw" n = [] := (liftD (ds := ds2) [] (by decide +kernel)).trans dfl_self
@[simp] theorem up5__law_gcd {M : Nat} : (F5 M).call "_law_gcd" = (FU M).call "_law_gcd" := (lift (ds := ds5) [] (by decide +kernel)).trans up__law_gcd.symm
@[simp] theorem dfl5__law_gcd {M : Nat} (n : Nat) : (F5 M).dfl "_law_gcd" n = [] := (liftD (ds := ds5) [] (by decide +kernel)).trans dfl_self
@[simp] theorem up6__law_draw {M : Nat} : (F6 M).call "_law_draw" = (FU M).call "_law_draw" := (lift (ds := ds2) [d__law_amount, d__law_gcd, d__law_pool, d__law_shuffled] (by decide +kernel)).trans up__law_draw.symm
@[simp] theorem dfl6__law_draw {M : Nat} (n : Nat) : (F6 M).dfl "_law_draw" n = [] := (liftD (ds := ds2) [d__law_amount, d__law_gcd, d__law_pool, d__law_shuffled] (by decide +kernel)).trans dfl_self
@[simp] theorem up6__law_amount {M : Nat} : (F6 M).call "_law_amount" = (FU M).call "_law_amount" := (lift (ds := ds6) [] (by decide +kernel)).trans up__law_amount.symm
@[simp] theorem dfl6__law_amount {M : Nat} (n : Nat) : (F6 M).dfl "_law_amount" n = [] := (liftD (ds := ds6) [] (by decide +kernel)).trans dfl_self
@[simp] theorem up7__law_amount {M : Nat} : (F7 M).call "_law_amount" = (FU M).call "_law_amount" := (lift (ds := ds6) [d__law_gap] (by decide +kernel)).trans up__law_amount.symm
@[simp] theorem dfl7__law_amount {M : Nat} (n : Nat) : (F7 M).dfl "_law_amount" n = [] := (liftD (ds := ds6) [d__law_gap] (by decide +kernel)).trans dfl_self
@[simp] theorem up8__law_draw {M : Nat} : (F8 M).call "_law_draw" = (FU M).call "_law_draw" := (lift (ds := ds2) [d__law_plus, d__law_gap, d__law_amount, d__law_gcd, d__law_pool, d__law_shuffled] (by decide +kernel)).trans up__law_draw.symm
@[simp] theorem dfl8__law_draw {M : Nat} (n : Nat) : (F8 M).dfl "_law_draw" n = [] := (liftD (ds := ds2) [d__law_plus, d__law_gap, d__law_amount, d__law_gcd, d__law_pool, d__law_shuffled] (by decide +kernel)).trans dfl_self
@[simp] theorem up8__law_gap {M : Nat} : (F8 M).call "_law_gap" = (FU M).call "_law_gap" := (lift (ds := ds7) [d__law_plus] (by decide +kernel)).trans up__law_gap.symm
@[simp] theorem dfl8__law_gap {M : Nat} (n : Nat) : (F8 M).dfl "_law_gap" n = [] := (liftD (ds := ds7) [d__law_plus] (by decide +kernel)).trans dfl_self
@[simp] theorem up8__law_plus {M : Nat} : (F8 M).call "_law_plus" = (FU M).call "_law_plus" := (lift (ds := ds8) [] (by decide +kernel)).trans up__law_plus.symm
@[simp] theorem dfl8__law_plus {M : Nat} (n : Nat) : (F8 M).dfl "_law_plus" n = [] := (liftD (ds := ds8) [] (by decide +kernel)).trans dfl_self
@[simp] theorem up9__law_draw {M : Nat} : (F9 M).call "_law_draw" = (FU M).call "_law_draw" := (lift (ds := ds2) [d__law_ends, d__law_plus, d__law_gap, d__law_amount, d__law_gcd, d__law_pool, d__law_shuffled] (by decide +kernel)).trans up__law_draw.symm
@[simp] theorem dfl9__law_draw {M : Nat} (n : Nat) : (F9 M).dfl "_law_draw" n = [] := (liftD (ds := ds2) [d__law_ends, d__law_plus, d__law_gap, d__law_amount, d__law_gcd, d__law_pool, d__law_shuffled] (by decide +kernel)).trans dfl_self
@[simp] theorem up9__law_amount {M : Nat} : (F9 M).call "_law_amount" = (FU M).call "_law_amount" := (lift (ds := ds6) [d__law_ends, d__law_plus, d__law_gap] (by decide +kernel)).trans up__law_amount.symm
@[simp] theorem dfl9__law_amount {M : Nat} (n : Nat) : (F9 M).dfl "_law_amount" n = [] := (liftD (ds := ds6) [d__law_ends, d__law_plus, d__law_gap] (by decide +kernel)).trans dfl_self
@[simp] theorem up11__law_ends {M : Nat} : (F11 M).call "_law_ends" = (FU M).call "_law_ends" := (lift (ds := ds9) [d__law_normal, d__law_part] (by decide +kernel)).trans up__law_ends.symm
@[simp] theorem dfl11__law_ends {M : Nat} (n : Nat) : (F11 M).dfl "_law_ends" n = [] := (liftD (ds := ds9) [d__law_normal, d__law_part] (by decide +kernel)).trans dfl_self
@[simp] theorem up11__law_part {M : Nat} : (F11 M).call "_law_part" = (FU M).call "_law_part" := (lift (ds := ds10) [d__law_normal] (by decide +kernel)).trans up__law_part.symm
@[simp] theorem dfl11__law_part {M : Nat} (n : Nat) : (F11 M).dfl "_law_part" n = [] := (liftD (ds := ds10) [d__law_normal] (by decide +kernel)).trans dfl_self
@[simp] theorem up11__law_draw {M : Nat} : (F11 M).call "_law_draw" = (FU M).call "_law_draw" := (lift (ds := ds2) [d__law_normal, d__law_part, d__law_ends, d__law_plus, d__law_gap, d__law_amount, d__law_gcd, d__law_pool, d__law_shuffled] (by decide +kernel)).trans up__law_draw.symm
@[simp] theorem dfl11__law_draw {M : Nat} (n : Nat) : (F11 M).dfl "_law_draw" n = [] := (liftD (ds := ds2) [d__law_normal, d__law_part, d__law_ends, d__law_plus, d__law_gap, d__law_amount, d__law_gcd, d__law_pool, d__law_shuffled] (by decide +kernel)).trans dfl_self
@[simp] theorem up11__law_normal {M : Nat} : (F11 M).call "_law_normal" = (FU M).call "_law_normal" := (lift (ds := ds11) [] (by decide +kernel)).trans up__law_normal.symm
@[simp] theorem dfl11__law_normal {M : Nat} (n : Nat) : (F11 M).dfl "_law_normal" n = [] := (liftD (ds := ds11) [] (by decide +kernel)).trans dfl_self
@[simp] theorem up12__law_shuffled {M : Nat} : (F12 M).call "_law_shuffled" = (FU M).call "_law_shuffled" := (lift (ds := ds3) [d__law_line, d__law_normal, d__law_part, d__law_ends, d__law_plus, d__law_gap, d__law_amount, d__law_gcd, d__law_pool] (by decide +kernel)).trans up__law_shuffled.symm
@[simp] theorem dfl12__law_shuffled {M : Nat} (n : Nat) : (F12 M).dfl "_law_shuffled" n = [] := (liftD (ds := ds3) [d__law_line, d__law_normal, d__law_part, d__law_ends, d__law_plus, d__law_gap, d__law_amount, d__law_gcd, d__law_pool] (by decide +kernel)).trans dfl_self
@[simp] theorem up12__law_pool {M : Nat} : (F12 M).call "_law_pool" = (FU M).call "_law_pool" := (lift (ds := ds4) [d__law_line, d__law_normal, d__law_part, d__law_ends, d__law_plus, d__law_gap, d__law_amount, d__law_gcd] (by decide +kernel)).trans up__law_pool.symm
@[simp] theorem dfl12__law_pool {M : Nat} (n : Nat) : (F12 M).dfl "_law_pool" n = [] := (liftD (ds := ds4) [d__law_line, d__law_normal, d__law_part, d__law_ends, d__law_plus, d__law_gap, d__law_amount, d__law_gcd] (by decide +kernel)).trans dfl_self
@[simp] theorem up12__law_draw {M : Nat} : (F12 M).call "_law_draw" = (FU M).call "_law_draw" := (lift (ds := ds2) [d__law_line, d__law_normal, d__law_part, d__law_ends, d__law_plus, d__law_gap, d__law_amount, d__law_gcd, d__law_pool, d__law_shuffled] (by decide +kernel)).trans up__law_draw.symm
@[simp] theorem dfl12__law_draw {M : Nat} (n : Nat) : (F12 M).dfl "_law_draw" n = [] := (liftD (ds := ds2) [d__law_line, d__law_normal, d__law_part, d__law_ends, d__law_plus, d__law_gap, d__law_amount, d__law_gcd, d__law_pool, d__law_shuffled] (by decide +kernel)).trans dfl_self
@[simp] theorem up12__law_line {M : Nat} : (F12 M).call "_law_line" = (FU M).call "_law_line" := (lift (ds := ds12) [] (by decide +kernel)).trans up__law_line.symm
@[simp] theorem dfl12__law_line {M : Nat} (n : Nat) : (F12 M).dfl "_law_line" n = [] := (liftD (ds := ds12) [] (by decide +kernel)).trans dfl_self
@[simp] theorem up13__law_draw {M : Nat} : (F13 M).call "_law_draw" = (FU M).call "_law_draw" := (lift (ds := ds2) [d__law_shields, d__law_line, d__law_normal, d__law_part, d__law_ends, d__law_plus, d__law_gap, d__law_amount, d__law_gcd, d__law_pool, d__law_shuffled] (by decide +kernel)).trans up__law_draw.symm
@[simp] theorem dfl13__law_draw {M : Nat} (n : Nat) : (F13 M).dfl "_law_draw" n = [] := (liftD (ds := ds2) [d__law_shields, d__law_line, d__law_normal, d__law_part, d__law_ends, d__law_plus, d__law_gap, d__law_amount, d__law_gcd, d__law_pool, d__law_shuffled] (by decide +kernel)).trans dfl_self
@[simp] theorem up14__law_draw {M : Nat} : (F14 M).call "_law_draw" = (FU M).call "_law_draw" := (lift (ds := ds2) [d__law_rare, d__law_shields, d__law_line, d__law_normal, d__law_part, d__law_ends, d__law_plus, d__law_gap, d__law_amount, d__law_gcd, d__law_pool, d__law_shuffled] (by decide +kernel)).trans up__law_draw.symm
@[simp] theorem dfl14__law_draw {M : Nat} (n : Nat) : (F14 M).dfl "_law_draw" n = [] := (liftD (ds := ds2) [d__law_rare, d__law_shields, d__law_line, d__law_normal, d__law_part, d__law_ends, d__law_plus, d__law_gap, d__law_amount, d__law_gcd, d__law_pool, d__law_shuffled] (by decide +kernel)).trans dfl_self
@[simp] theorem up16__law_draw {M : Nat} : (F16 M).call "_law_draw" = (FU M).call "_law_draw" := (lift (ds := ds2) [d__law_names, d__law_pick, d__law_rare, d__law_shields, d__law_line, d__law_normal, d__law_part, d__law_ends, d__law_plus, d__law_gap, d__law_amount, d__law_gcd, d__law_pool, d__law_shuffled] (by decide +kernel)).trans up__law_draw.symm
@[simp] theorem dfl16__law_draw {M : Nat} (n : Nat) : (F16 M).dfl "_law_draw" n = [] := (liftD (ds := ds2) [d__law_names, d__law_pick, d__law_rare, d__law_shields, d__law_line, d__law_normal, d__law_part, d__law_ends, d__law_plus, d__law_gap, d__law_amount, d__law_gcd, d__law_pool, d__law_shuffled] (by decide +kernel)).trans dfl_self
@[simp] theorem up17__law_pick {M : Nat} : (F17 M).call "_law_pick" = (FU M).call "_law_pick" := (lift (ds := ds15) [d__law_strange, d__law_names] (by decide +kernel)).trans up__law_pick.symm
@[simp] theorem dfl17__law_pick {M : Nat} (n : Nat) : (F17 M).dfl "_law_pick" n = [] := (liftD (ds := ds15) [d__law_strange, d__law_names] (by decide +kernel)).trans dfl_self
@[simp] theorem up17__law_draw {M : Nat} : (F17 M).call "_law_draw" = (FU M).call "_law_draw" := (lift (ds := ds2) [d__law_strange, d__law_names, d__law_pick, d__law_rare, d__law_shields, d__law_line, d__law_normal, d__law_part, d__law_ends, d__law_plus, d__law_gap, d__law_amount, d__law_gcd, d__law_pool, d__law_shuffled] (by decide +kernel)).trans up__law_draw.symm
@[simp] theorem dfl17__law_draw {M : Nat} (n : Nat) : (F17 M).dfl "_law_draw" n = [] := (liftD (ds := ds2) [d__law_strange, d__law_names, d__law_pick, d__law_rare, d__law_shields, d__law_line, d__law_normal, d__law_part, d__law_ends, d__law_plus, d__law_gap, d__law_amount, d__law_gcd, d__law_pool, d__law_shuffled] (by decide +kernel)).trans dfl_self
@[simp] theorem up17__law_strange {M : Nat} : (F17 M).call "_law_strange" = (FU M).call "_law_strange" := (lift (ds := ds17) [] (by decide +kernel)).trans up__law_strange.symm
@[simp] theorem dfl17__law_strange {M : Nat} (n : Nat) : (F17 M).dfl "_law_strange" n = [] := (liftD (ds := ds17) [] (by decide +kernel)).trans dfl_self
@[simp] theorem up17__law_amount {M : Nat} : (F17 M).call "_law_amount" = (FU M).call "_law_amount" := (lift (ds := ds6) [d__law_strange, d__law_names, d__law_pick, d__law_rare, d__law_shields, d__law_line, d__law_normal, d__law_part, d__law_ends, d__law_plus, d__law_gap] (by decide +kernel)).trans up__law_amount.symm
@[simp] theorem dfl17__law_amount {M : Nat} (n : Nat) : (F17 M).dfl "_law_amount" n = [] := (liftD (ds := ds6) [d__law_strange, d__law_names, d__law_pick, d__law_rare, d__law_shields, d__law_line, d__law_normal, d__law_part, d__law_ends, d__law_plus, d__law_gap] (by decide +kernel)).trans dfl_self
@[simp] theorem up18__law_draw {M : Nat} : (F18 M).call "_law_draw" = (FU M).call "_law_draw" := (lift (ds := ds2) [d__law_report, d__law_strange, d__law_names, d__law_pick, d__law_rare, d__law_shields, d__law_line, d__law_normal, d__law_part, d__law_ends, d__law_plus, d__law_gap, d__law_amount, d__law_gcd, d__law_pool, d__law_shuffled] (by decide +kernel)).trans up__law_draw.symm
@[simp] theorem dfl18__law_draw {M : Nat} (n : Nat) : (F18 M).dfl "_law_draw" n = [] := (liftD (ds := ds2) [d__law_report, d__law_strange, d__law_names, d__law_pick, d__law_rare, d__law_shields, d__law_line, d__law_normal, d__law_part, d__law_ends, d__law_plus, d__law_gap, d__law_amount, d__law_gcd, d__law_pool, d__law_shuffled] (by decide +kernel)).trans dfl_self
@[simp] theorem up18__law_strange {M : Nat} : (F18 M).call "_law_strange" = (FU M).call "_law_strange" := (lift (ds := ds17) [d__law_report] (by decide +kernel)).trans up__law_strange.symm
@[simp] theorem dfl18__law_strange {M : Nat} (n : Nat) : (F18 M).dfl "_law_strange" n = [] := (liftD (ds := ds17) [d__law_report] (by decide +kernel)).trans dfl_self
@[simp] theorem up18__law_line {M : Nat} : (F18 M).call "_law_line" = (FU M).call "_law_line" := (lift (ds := ds12) [d__law_report, d__law_strange, d__law_names, d__law_pick, d__law_rare, d__law_shields] (by decide +kernel)).trans up__law_line.symm
@[simp] theorem dfl18__law_line {M : Nat} (n : Nat) : (F18 M).dfl "_law_line" n = [] := (liftD (ds := ds12) [d__law_report, d__law_strange, d__law_names, d__law_pick, d__law_rare, d__law_shields] (by decide +kernel)).trans dfl_self
@[simp] theorem up19__law_draw {M : Nat} : (F19 M).call "_law_draw" = (FU M).call "_law_draw" := (lift (ds := ds2) [d__law_endorse, d__law_report, d__law_strange, d__law_names, d__law_pick, d__law_rare, d__law_shields, d__law_line, d__law_normal, d__law_part, d__law_ends, d__law_plus, d__law_gap, d__law_amount, d__law_gcd, d__law_pool, d__law_shuffled] (by decide +kernel)).trans up__law_draw.symm
@[simp] theorem dfl19__law_draw {M : Nat} (n : Nat) : (F19 M).dfl "_law_draw" n = [] := (liftD (ds := ds2) [d__law_endorse, d__law_report, d__law_strange, d__law_names, d__law_pick, d__law_rare, d__law_shields, d__law_line, d__law_normal, d__law_part, d__law_ends, d__law_plus, d__law_gap, d__law_amount, d__law_gcd, d__law_pool, d__law_shuffled] (by decide +kernel)).trans dfl_self
@[simp] theorem up20__law_pop {M : Nat} : (F20 M).call "_law_pop" = (FU M).call "_law_pop" := (lift (ds := ds20) [] (by decide +kernel)).trans up__law_pop.symm
@[simp] theorem dfl20__law_pop {M : Nat} (n : Nat) : (F20 M).dfl "_law_pop" n = [] := (liftD (ds := ds20) [] (by decide +kernel)).trans dfl_self
@[simp] theorem up20__law_pick {M : Nat} : (F20 M).call "_law_pick" = (FU M).call "_law_pick" := (lift (ds := ds15) [d__law_pop, d__law_endorse, d__law_report, d__law_strange, d__law_names] (by decide +kernel)).trans up__law_pick.symm
@[simp] theorem dfl20__law_pick {M : Nat} (n : Nat) : (F20 M).dfl "_law_pick" n = [] := (liftD (ds := ds15) [d__law_pop, d__law_endorse, d__law_report, d__law_strange, d__law_names] (by decide +kernel)).trans dfl_self
@[simp] theorem up20__law_draw {M : Nat} : (F20 M).call "_law_draw" = (FU M).call "_law_draw" := (lift (ds := ds2) [d__law_pop, d__law_endorse, d__law_report, d__law_strange, d__law_names, d__law_pick, d__law_rare, d__law_shields, d__law_line, d__law_normal, d__law_part, d__law_ends, d__law_plus, d__law_gap, d__law_amount, d__law_gcd, d__law_pool, d__law_shuffled] (by decide +kernel)).trans up__law_draw.symm
@[simp] theorem dfl20__law_draw {M : Nat} (n : Nat) : (F20 M).dfl "_law_draw" n = [] := (liftD (ds := ds2) [d__law_pop, d__law_endorse, d__law_report, d__law_strange, d__law_names, d__law_pick, d__law_rare, d__law_shields, d__law_line, d__law_normal, d__law_part, d__law_ends, d__law_plus, d__law_gap, d__law_amount, d__law_gcd, d__law_pool, d__law_shuffled] (by decide +kernel)).trans dfl_self
@[simp] theorem up21__law_draw {M : Nat} : (F21 M).call "_law_draw" = (FU M).call "_law_draw" := (lift (ds := ds2) [d__law_event, d__law_pop, d__law_endorse, d__law_report, d__law_strange, d__law_names, d__law_pick, d__law_rare, d__law_shields, d__law_line, d__law_normal, d__law_part, d__law_ends, d__law_plus, d__law_gap, d__law_amount, d__law_gcd, d__law_pool, d__law_shuffled] (by decide +kernel)).trans up__law_draw.symm
@[simp] theorem dfl21__law_draw {M : Nat} (n : Nat) : (F21 M).dfl "_law_draw" n = [] := (liftD (ds := ds2) [d__law_event, d__law_pop, d__law_endorse, d__law_report, d__law_strange, d__law_names, d__law_pick, d__law_rare, d__law_shields, d__law_line, d__law_normal, d__law_part, d__law_ends, d__law_plus, d__law_gap, d__law_amount, d__law_gcd, d__law_pool, d__law_shuffled] (by decide +kernel)).trans dfl_self
@[simp] theorem up22__law_report {M : Nat} : (F22 M).call "_law_report" = (FU M).call "_law_report" := (lift (ds := ds18) [d__law_heard, d__law_event, d__law_pop, d__law_endorse] (by decide +kernel)).trans up__law_report.symm
@[simp] theorem dfl22__law_report {M : Nat} (n : Nat) : (F22 M).dfl "_law_report" n = [] := (liftD (ds := ds18) [d__law_heard, d__law_event, d__law_pop, d__law_endorse] (by decide +kernel)).trans dfl_self
@[simp] theorem up22__law_draw {M : Nat} : (F22 M).call "_law_draw" = (FU M).call "_law_draw" := (lift (ds := ds2) [d__law_heard, d__law_event, d__law_pop, d__law_endorse, d__law_report, d__law_strange, d__law_names, d__law_pick, d__law_rare, d__law_shields, d__law_line, d__law_normal, d__law_part, d__law_ends, d__law_plus, d__law_gap, d__law_amount, d__law_gcd, d__law_pool, d__law_shuffled] (by decide +kernel)).trans up__law_draw.symm
@[simp] theorem dfl22__law_draw {M : Nat} (n : Nat) : (F22 M).dfl "_law_draw" n = [] := (liftD (ds := ds2) [d__law_heard, d__law_event, d__law_pop, d__law_endorse, d__law_report, d__law_strange, d__law_names, d__law_pick, d__law_rare, d__law_shields, d__law_line, d__law_normal, d__law_part, d__law_ends, d__law_plus, d__law_gap, d__law_amount, d__law_gcd, d__law_pool, d__law_shuffled] (by decide +kernel)).trans dfl_self
@[simp] theorem up22__law_names {M : Nat} : (F22 M).call "_law_names" = (FU M).call "_law_names" := (lift (ds := ds16) [d__law_heard, d__law_event, d__law_pop, d__law_endorse, d__law_report, d__law_strange] (by decide +kernel)).trans up__law_names.symm
@[simp] theorem dfl22__law_names {M : Nat} (n : Nat) : (F22 M).dfl "_law_names" n = [] := (liftD (ds := ds16) [d__law_heard, d__law_event, d__law_pop, d__law_endorse, d__law_report, d__law_strange] (by decide +kernel)).trans dfl_self
@[simp] theorem up22__law_endorse {M : Nat} : (F22 M).call "_law_endorse" = (FU M).call "_law_endorse" := (lift (ds := ds19) [d__law_heard, d__law_event, d__law_pop] (by decide +kernel)).trans up__law_endorse.symm
@[simp] theorem dfl22__law_endorse {M : Nat} (n : Nat) : (F22 M).dfl "_law_endorse" n = [] := (liftD (ds := ds19) [d__law_heard, d__law_event, d__law_pop] (by decide +kernel)).trans dfl_self
@[simp] theorem up22__law_event {M : Nat} : (F22 M).call "_law_event" = (FU M).call "_law_event" := (lift (ds := ds21) [d__law_heard] (by decide +kernel)).trans up__law_event.symm
@[simp] theorem dfl22__law_event {M : Nat} (n : Nat) : (F22 M).dfl "_law_event" n = [] := (liftD (ds := ds21) [d__law_heard] (by decide +kernel)).trans dfl_self
@[simp] theorem up22__law_heard {M : Nat} : (F22 M).call "_law_heard" = (FU M).call "_law_heard" := (lift (ds := ds22) [] (by decide +kernel)).trans up__law_heard.symm
@[simp] theorem dfl22__law_heard {M : Nat} (n : Nat) : (F22 M).dfl "_law_heard" n = [] := (liftD (ds := ds22) [] (by decide +kernel)).trans dfl_self
@[simp] theorem up23__law_draw {M : Nat} : (F23 M).call "_law_draw" = (FU M).call "_law_draw" := (lift (ds := ds2) [d__law_entry, d__law_heard, d__law_event, d__law_pop, d__law_endorse, d__law_report, d__law_strange, d__law_names, d__law_pick, d__law_rare, d__law_shields, d__law_line, d__law_normal, d__law_part, d__law_ends, d__law_plus, d__law_gap, d__law_amount, d__law_gcd, d__law_pool, d__law_shuffled] (by decide +kernel)).trans up__law_draw.symm
@[simp] theorem dfl23__law_draw {M : Nat} (n : Nat) : (F23 M).dfl "_law_draw" n = [] := (liftD (ds := ds2) [d__law_entry, d__law_heard, d__law_event, d__law_pop, d__law_endorse, d__law_report, d__law_strange, d__law_names, d__law_pick, d__law_rare, d__law_shields, d__law_line, d__law_normal, d__law_part, d__law_ends, d__law_plus, d__law_gap, d__law_amount, d__law_gcd, d__law_pool, d__law_shuffled] (by decide +kernel)).trans dfl_self
@[simp] theorem up23__law_rare {M : Nat} : (F23 M).call "_law_rare" = (FU M).call "_law_rare" := (lift (ds := ds14) [d__law_entry, d__law_heard, d__law_event, d__law_pop, d__law_endorse, d__law_report, d__law_strange, d__law_names, d__law_pick] (by decide +kernel)).trans up__law_rare.symm
@[simp] theorem dfl23__law_rare {M : Nat} (n : Nat) : (F23 M).dfl "_law_rare" n = [] := (liftD (ds := ds14) [d__law_entry, d__law_heard, d__law_event, d__law_pop, d__law_endorse, d__law_report, d__law_strange, d__law_names, d__law_pick] (by decide +kernel)).trans dfl_self
@[simp] theorem up23__law_pick {M : Nat} : (F23 M).call "_law_pick" = (FU M).call "_law_pick" := (lift (ds := ds15) [d__law_entry, d__law_heard, d__law_event, d__law_pop, d__law_endorse, d__law_report, d__law_strange, d__law_names] (by decide +kernel)).trans up__law_pick.symm
@[simp] theorem dfl23__law_pick {M : Nat} (n : Nat) : (F23 M).dfl "_law_pick" n = [] := (liftD (ds := ds15) [d__law_entry, d__law_heard, d__law_event, d__law_pop, d__law_endorse, d__law_report, d__law_strange, d__law_names] (by decide +kernel)).trans dfl_self
@[simp] theorem up23__law_names {M : Nat} : (F23 M).call "_law_names" = (FU M).call "_law_names" := (lift (ds := ds16) [d__law_entry, d__law_heard, d__law_event, d__law_pop, d__law_endorse, d__law_report, d__law_strange] (by decide +kernel)).trans up__law_names.symm
@[simp] theorem dfl23__law_names {M : Nat} (n : Nat) : (F23 M).dfl "_law_names" n = [] := (liftD (ds := ds16) [d__law_entry, d__law_heard, d__law_event, d__law_pop, d__law_endorse, d__law_report, d__law_strange] (by decide +kernel)).trans dfl_self
@[simp] theorem up23__law_entry {M : Nat} : (F23 M).call "_law_entry" = (FU M).call "_law_entry" := (lift (ds := ds23) [] (by decide +kernel)).trans up__law_entry.symm
@[simp] theorem dfl23__law_entry {M : Nat} (n : Nat) : (F23 M).dfl "_law_entry" n = [] := (liftD (ds := ds23) [] (by decide +kernel)).trans dfl_self
@[simp] theorem up27_events_of {M : Nat} : (F27 M).call "events_of" = (FU M).call "events_of" := (lift (ds := ds27) [] (by decide +kernel)).trans up_events_of.symm
@[simp] theorem dfl27_events_of {M : Nat} (n : Nat) : (F27 M).dfl "events_of" n = [] := (liftD (ds := ds27) [] (by decide +kernel)).trans dfl_self
@[simp] theorem up29_events_of {M : Nat} : (F29 M).call "events_of" = (FU M).call "events_of" := (lift (ds := ds27) [d_is_early, d_is_one_too_many] (by decide +kernel)).trans up_events_of.symm
@[simp] theorem dfl29_events_of {M : Nat} (n : Nat) : (F29 M).dfl "events_of" n = [] := (liftD (ds := ds27) [d_is_early, d_is_one_too_many] (by decide +kernel)).trans dfl_self
@[simp] theorem up30_event_entry {M : Nat} : (F30 M).call "event_entry" = (FU M).call "event_entry" := (lift (ds := ds30) [] (by decide +kernel)).trans up_event_entry.symm
@[simp] theorem dfl30_event_entry {M : Nat} (n : Nat) : (F30 M).dfl "event_entry" n = [] := (liftD (ds := ds30) [] (by decide +kernel)).trans dfl_self
@[simp] theorem up31_is_declared {M : Nat} : (F31 M).call "is_declared" = (FU M).call "is_declared" := (lift (ds := ds31) [] (by decide +kernel)).trans up_is_declared.symm
@[simp] theorem dfl31_is_declared {M : Nat} (n : Nat) : (F31 M).dfl "is_declared" n = [] := (liftD (ds := ds31) [] (by decide +kernel)).trans dfl_self
@[simp] theorem up32_is_declared {M : Nat} : (F32 M).call "is_declared" = (FU M).call "is_declared" := (lift (ds := ds31) [d_is_declared_twice] (by decide +kernel)).trans up_is_declared.symm
@[simp] theorem dfl32_is_declared {M : Nat} (n : Nat) : (F32 M).dfl "is_declared" n = [] := (liftD (ds := ds31) [d_is_declared_twice] (by decide +kernel)).trans dfl_self
@[simp] theorem up34_heard_too_soon {M : Nat} : (F34 M).call "heard_too_soon" = (FU M).call "heard_too_soon" := (lift (ds := ds26) [d_has_strange_number, d_is_of_nothing, d_is_declared_twice, d_is_declared, d_event_entry, d_is_early, d_is_one_too_many, d_events_of] (by decide +kernel)).trans up_heard_too_soon.symm
@[simp] theorem dfl34_heard_too_soon {M : Nat} (n : Nat) : (F34 M).dfl "heard_too_soon" n = [] := (liftD (ds := ds26) [d_has_strange_number, d_is_of_nothing, d_is_declared_twice, d_is_declared, d_event_entry, d_is_early, d_is_one_too_many, d_events_of] (by decide +kernel)).trans dfl_self
@[simp] theorem up34_is_one_too_many {M : Nat} : (F34 M).call "is_one_too_many" = (FU M).call "is_one_too_many" := (lift (ds := ds28) [d_has_strange_number, d_is_of_nothing, d_is_declared_twice, d_is_declared, d_event_entry, d_is_early] (by decide +kernel)).trans up_is_one_too_many.symm
@[simp] theorem dfl34_is_one_too_many {M : Nat} (n : Nat) : (F34 M).dfl "is_one_too_many" n = [] := (liftD (ds := ds28) [d_has_strange_number, d_is_of_nothing, d_is_declared_twice, d_is_declared, d_event_entry, d_is_early] (by decide +kernel)).trans dfl_self
@[simp] theorem up34_is_early {M : Nat} : (F34 M).call "is_early" = (FU M).call "is_early" := (lift (ds := ds29) [d_has_strange_number, d_is_of_nothing, d_is_declared_twice, d_is_declared, d_event_entry] (by decide +kernel)).trans up_is_early.symm
@[simp] theorem dfl34_is_early {M : Nat} (n : Nat) : (F34 M).dfl "is_early" n = [] := (liftD (ds := ds29) [d_has_strange_number, d_is_of_nothing, d_is_declared_twice, d_is_declared, d_event_entry] (by decide +kernel)).trans dfl_self
@[simp] theorem up34_is_declared_twice {M : Nat} : (F34 M).call "is_declared_twice" = (FU M).call "is_declared_twice" := (lift (ds := ds32) [d_has_strange_number, d_is_of_nothing] (by decide +kernel)).trans up_is_declared_twice.symm
@[simp] theorem dfl34_is_declared_twice {M : Nat} (n : Nat) : (F34 M).dfl "is_declared_twice" n = [] := (liftD (ds := ds32) [d_has_strange_number, d_is_of_nothing] (by decide +kernel)).trans dfl_self
@[simp] theorem up34_is_of_nothing {M : Nat} : (F34 M).call "is_of_nothing" = (FU M).call "is_of_nothing" := (lift (ds := ds33) [d_has_strange_number] (by decide +kernel)).trans up_is_of_nothing.symm
@[simp] theorem dfl34_is_of_nothing {M : Nat} (n : Nat) : (F34 M).dfl "is_of_nothing" n = [] := (liftD (ds := ds33) [d_has_strange_number] (by decide +kernel)).trans dfl_self
@[simp] theorem up34_has_strange_number {M : Nat} : (F34 M).call "has_strange_number" = (FU M).call "has_strange_number" := (lift (ds := ds34) [] (by decide +kernel)).trans up_has_strange_number.symm
@[simp] theorem dfl34_has_strange_number {M : Nat} (n : Nat) : (F34 M).dfl "has_strange_number" n = [] := (liftD (ds := ds34) [] (by decide +kernel)).trans dfl_self
@[simp] theorem up35_reason_against {M : Nat} : (F35 M).call "reason_against" = (FU M).call "reason_against" := (lift (ds := ds35) [] (by decide +kernel)).trans up_reason_against.symm
@[simp] theorem dfl35_reason_against {M : Nat} (n : Nat) : (F35 M).dfl "reason_against" n = [] := (liftD (ds := ds35) [] (by decide +kernel)).trans dfl_self
@[simp] theorem up36_check_entry {M : Nat} : (F36 M).call "check_entry" = (FU M).call "check_entry" := (lift (ds := ds36) [] (by decide +kernel)).trans up_check_entry.symm
@[simp] theorem dfl36_check_entry {M : Nat} (n : Nat) : (F36 M).dfl "check_entry" n = [] := (liftD (ds := ds36) [] (by decide +kernel)).trans dfl_self
@[simp] theorem up37__law_is_int {M : Nat} : (F37 M).call "_law_is_int" = (FU M).call "_law_is_int" := (lift (ds := ds25) [d_check_journal, d_check_entry, d_reason_against, d_has_strange_number, d_is_of_nothing, d_is_declared_twice, d_is_declared, d_event_entry, d_is_early, d_is_one_too_many, d_events_of, d_heard_too_soon] (by decide +kernel)).trans up__law_is_int.symm
@[simp] theorem dfl37__law_is_int {M : Nat} (n : Nat) : (F37 M).dfl "_law_is_int" n = [] := (liftD (ds := ds25) [d_check_journal, d_check_entry, d_reason_against, d_has_strange_number, d_is_of_nothing, d_is_declared_twice, d_is_declared, d_event_entry, d_is_early, d_is_one_too_many, d_events_of, d_heard_too_soon] (by decide +kernel)).trans dfl_self
@[simp] theorem up37_check_journal {M : Nat} : (F37 M).call "check_journal" = (FU M).call "check_journal" := (lift (ds := ds37) [] (by decide +kernel)).trans up_check_journal.symm
@[simp] theorem dfl37_check_journal {M : Nat} (n : Nat) : (F37 M).dfl "check_journal" n = [] := (liftD (ds := ds37) [] (by decide +kernel)).trans dfl_self
@[simp] theorem up38__law_names {M : Nat} : (F38 M).call "_law_names" = (FU M).call "_law_names" := (lift (ds := ds16) [d__law_told, d_check_journal, d_check_entry, d_reason_against, d_has_strange_number, d_is_of_nothing, d_is_declared_twice, d_is_declared, d_event_entry, d_is_early, d_is_one_too_many, d_events_of, d_heard_too_soon, d__law_is_int, d__law_base, d__law_entry, d__law_heard, d__law_event, d__law_pop, d__law_endorse, d__law_report, d__law_strange] (by decide +kernel)).trans up__law_names.symm
@[simp] theorem dfl38__law_names {M : Nat} (n : Nat) : (F38 M).dfl "_law_names" n = [] := (liftD (ds := ds16) [d__law_told, d_check_journal, d_check_entry, d_reason_against, d_has_strange_number, d_is_of_nothing, d_is_declared_twice, d_is_declared, d_event_entry, d_is_early, d_is_one_too_many, d_events_of, d_heard_too_soon, d__law_is_int, d__law_base, d__law_entry, d__law_heard, d__law_event, d__law_pop, d__law_endorse, d__law_report, d__law_strange] (by decide +kernel)).trans dfl_self
@[simp] theorem up39__law_reason {M : Nat} : (F39 M).call "_law_reason" = (FU M).call "_law_reason" := (lift (ds := ds39) [] (by decide +kernel)).trans up__law_reason.symm
@[simp] theorem dfl39__law_reason {M : Nat} (n : Nat) : (F39 M).dfl "_law_reason" n = [] := (liftD (ds := ds39) [] (by decide +kernel)).trans dfl_self
@[simp] theorem up40__law_told {M : Nat} : (F40 M).call "_law_told" = (FU M).call "_law_told" := (lift (ds := ds38) [d__law_first, d__law_reason] (by decide +kernel)).trans up__law_told.symm
@[simp] theorem dfl40__law_told {M : Nat} (n : Nat) : (F40 M).dfl "_law_told" n = [] := (liftD (ds := ds38) [d__law_first, d__law_reason] (by decide +kernel)).trans dfl_self
@[simp] theorem up40__law_first {M : Nat} : (F40 M).call "_law_first" = (FU M).call "_law_first" := (lift (ds := ds40) [] (by decide +kernel)).trans up__law_first.symm
@[simp] theorem dfl40__law_first {M : Nat} (n : Nat) : (F40 M).dfl "_law_first" n = [] := (liftD (ds := ds40) [] (by decide +kernel)).trans dfl_self
@[simp] theorem up41__law_begin {M : Nat} : (F41 M).call "_law_begin" = (FU M).call "_law_begin" := (lift (ds := ds1) [d__law_right, d__law_first, d__law_reason, d__law_told, d_check_journal, d_check_entry, d_reason_against, d_has_strange_number, d_is_of_nothing, d_is_declared_twice, d_is_declared, d_event_entry, d_is_early, d_is_one_too_many, d_events_of, d_heard_too_soon, d__law_is_int, d__law_base, d__law_entry, d__law_heard, d__law_event, d__law_pop, d__law_endorse, d__law_report, d__law_strange, d__law_names, d__law_pick, d__law_rare, d__law_shields, d__law_line, d__law_normal, d__law_part, d__law_ends, d__law_plus, d__law_gap, d__law_amount, d__law_gcd, d__law_pool, d__law_shuffled, d__law_draw] (by decide +kernel)).trans up__law_begin.symm
@[simp] theorem dfl41__law_begin {M : Nat} (n : Nat) : (F41 M).dfl "_law_begin" n = [] := (liftD (ds := ds1) [d__law_right, d__law_first, d__law_reason, d__law_told, d_check_journal, d_check_entry, d_reason_against, d_has_strange_number, d_is_of_nothing, d_is_declared_twice, d_is_declared, d_event_entry, d_is_early, d_is_one_too_many, d_events_of, d_heard_too_soon, d__law_is_int, d__law_base, d__law_entry, d__law_heard, d__law_event, d__law_pop, d__law_endorse, d__law_report, d__law_strange, d__law_names, d__law_pick, d__law_rare, d__law_shields, d__law_line, d__law_normal, d__law_part, d__law_ends, d__law_plus, d__law_gap, d__law_amount, d__law_gcd, d__law_pool, d__law_shuffled, d__law_draw] (by decide +kernel)).trans dfl_self
@[simp] theorem up41__law_draw {M : Nat} : (F41 M).call "_law_draw" = (FU M).call "_law_draw" := (lift (ds := ds2) [d__law_right, d__law_first, d__law_reason, d__law_told, d_check_journal, d_check_entry, d_reason_against, d_has_strange_number, d_is_of_nothing, d_is_declared_twice, d_is_declared, d_event_entry, d_is_early, d_is_one_too_many, d_events_of, d_heard_too_soon, d__law_is_int, d__law_base, d__law_entry, d__law_heard, d__law_event, d__law_pop, d__law_endorse, d__law_report, d__law_strange, d__law_names, d__law_pick, d__law_rare, d__law_shields, d__law_line, d__law_normal, d__law_part, d__law_ends, d__law_plus, d__law_gap, d__law_amount, d__law_gcd, d__law_pool, d__law_shuffled] (by decide +kernel)).trans up__law_draw.symm
@[simp] theorem dfl41__law_draw {M : Nat} (n : Nat) : (F41 M).dfl "_law_draw" n = [] := (liftD (ds := ds2) [d__law_right, d__law_first, d__law_reason, d__law_told, d_check_journal, d_check_entry, d_reason_against, d_has_strange_number, d_is_of_nothing, d_is_declared_twice, d_is_declared, d_event_entry, d_is_early, d_is_one_too_many, d_events_of, d_heard_too_soon, d__law_is_int, d__law_base, d__law_entry, d__law_heard, d__law_event, d__law_pop, d__law_endorse, d__law_report, d__law_strange, d__law_names, d__law_pick, d__law_rare, d__law_shields, d__law_line, d__law_normal, d__law_part, d__law_ends, d__law_plus, d__law_gap, d__law_amount, d__law_gcd, d__law_pool, d__law_shuffled] (by decide +kernel)).trans dfl_self
@[simp] theorem up41__law_shields {M : Nat} : (F41 M).call "_law_shields" = (FU M).call "_law_shields" := (lift (ds := ds13) [d__law_right, d__law_first, d__law_reason, d__law_told, d_check_journal, d_check_entry, d_reason_against, d_has_strange_number, d_is_of_nothing, d_is_declared_twice, d_is_declared, d_event_entry, d_is_early, d_is_one_too_many, d_events_of, d_heard_too_soon, d__law_is_int, d__law_base, d__law_entry, d__law_heard, d__law_event, d__law_pop, d__law_endorse, d__law_report, d__law_strange, d__law_names, d__law_pick, d__law_rare] (by decide +kernel)).trans up__law_shields.symm
@[simp] theorem dfl41__law_shields {M : Nat} (n : Nat) : (F41 M).dfl "_law_shields" n = [] := (liftD (ds := ds13) [d__law_right, d__law_first, d__law_reason, d__law_told, d_check_journal, d_check_entry, d_reason_against, d_has_strange_number, d_is_of_nothing, d_is_declared_twice, d_is_declared, d_event_entry, d_is_early, d_is_one_too_many, d_events_of, d_heard_too_soon, d__law_is_int, d__law_base, d__law_entry, d__law_heard, d__law_event, d__law_pop, d__law_endorse, d__law_report, d__law_strange, d__law_names, d__law_pick, d__law_rare] (by decide +kernel)).trans dfl_self
@[simp] theorem up41__law_pool {M : Nat} : (F41 M).call "_law_pool" = (FU M).call "_law_pool" := (lift (ds := ds4) [d__law_right, d__law_first, d__law_reason, d__law_told, d_check_journal, d_check_entry, d_reason_against, d_has_strange_number, d_is_of_nothing, d_is_declared_twice, d_is_declared, d_event_entry, d_is_early, d_is_one_too_many, d_events_of, d_heard_too_soon, d__law_is_int, d__law_base, d__law_entry, d__law_heard, d__law_event, d__law_pop, d__law_endorse, d__law_report, d__law_strange, d__law_names, d__law_pick, d__law_rare, d__law_shields, d__law_line, d__law_normal, d__law_part, d__law_ends, d__law_plus, d__law_gap, d__law_amount, d__law_gcd] (by decide +kernel)).trans up__law_pool.symm
@[simp] theorem dfl41__law_pool {M : Nat} (n : Nat) : (F41 M).dfl "_law_pool" n = [] := (liftD (ds := ds4) [d__law_right, d__law_first, d__law_reason, d__law_told, d_check_journal, d_check_entry, d_reason_against, d_has_strange_number, d_is_of_nothing, d_is_declared_twice, d_is_declared, d_event_entry, d_is_early, d_is_one_too_many, d_events_of, d_heard_too_soon, d__law_is_int, d__law_base, d__law_entry, d__law_heard, d__law_event, d__law_pop, d__law_endorse, d__law_report, d__law_strange, d__law_names, d__law_pick, d__law_rare, d__law_shields, d__law_line, d__law_normal, d__law_part, d__law_ends, d__law_plus, d__law_gap, d__law_amount, d__law_gcd] (by decide +kernel)).trans dfl_self
@[simp] theorem up41__law_base {M : Nat} : (F41 M).call "_law_base" = (FU M).call "_law_base" := (lift (ds := ds24) [d__law_right, d__law_first, d__law_reason, d__law_told, d_check_journal, d_check_entry, d_reason_against, d_has_strange_number, d_is_of_nothing, d_is_declared_twice, d_is_declared, d_event_entry, d_is_early, d_is_one_too_many, d_events_of, d_heard_too_soon, d__law_is_int] (by decide +kernel)).trans up__law_base.symm
@[simp] theorem dfl41__law_base {M : Nat} (n : Nat) : (F41 M).dfl "_law_base" n = [] := (liftD (ds := ds24) [d__law_right, d__law_first, d__law_reason, d__law_told, d_check_journal, d_check_entry, d_reason_against, d_has_strange_number, d_is_of_nothing, d_is_declared_twice, d_is_declared, d_event_entry, d_is_early, d_is_one_too_many, d_events_of, d_heard_too_soon, d__law_is_int] (by decide +kernel)).trans dfl_self
@[simp] theorem up41__law_right {M : Nat} : (F41 M).call "_law_right" = (FU M).call "_law_right" := (lift (ds := ds41) [] (by decide +kernel)).trans up__law_right.symm
@[simp] theorem dfl41__law_right {M : Nat} (n : Nat) : (F41 M).dfl "_law_right" n = [] := (liftD (ds := ds41) [] (by decide +kernel)).trans dfl_self
@[simp] theorem up41__law_first {M : Nat} : (F41 M).call "_law_first" = (FU M).call "_law_first" := (lift (ds := ds40) [d__law_right] (by decide +kernel)).trans up__law_first.symm
@[simp] theorem dfl41__law_first {M : Nat} (n : Nat) : (F41 M).dfl "_law_first" n = [] := (liftD (ds := ds40) [d__law_right] (by decide +kernel)).trans dfl_self
@[simp] theorem up41__law_entry {M : Nat} : (F41 M).call "_law_entry" = (FU M).call "_law_entry" := (lift (ds := ds23) [d__law_right, d__law_first, d__law_reason, d__law_told, d_check_journal, d_check_entry, d_reason_against, d_has_strange_number, d_is_of_nothing, d_is_declared_twice, d_is_declared, d_event_entry, d_is_early, d_is_one_too_many, d_events_of, d_heard_too_soon, d__law_is_int, d__law_base] (by decide +kernel)).trans up__law_entry.symm
@[simp] theorem dfl41__law_entry {M : Nat} (n : Nat) : (F41 M).dfl "_law_entry" n = [] := (liftD (ds := ds23) [d__law_right, d__law_first, d__law_reason, d__law_told, d_check_journal, d_check_entry, d_reason_against, d_has_strange_number, d_is_of_nothing, d_is_declared_twice, d_is_declared, d_event_entry, d_is_early, d_is_one_too_many, d_events_of, d_heard_too_soon, d__law_is_int, d__law_base] (by decide +kernel)).trans dfl_self
@[simp] theorem glo_MOST_ENTRIES : glo "MOST_ENTRIES" = some (.int 60) := by kernel_rfl
@[simp] theorem glo_MOST_EVENTS : glo "MOST_EVENTS" = some (.int 12) := by kernel_rfl
def fn : List He.DefD := [⟨("_law_begin", none), "_law_begin", "_law_begin", defArgs (top 32), defBody (top 32), defScope (top 32), [], []⟩, ⟨("_law_draw", none), "_law_draw", "_law_draw", defArgs (top 33), defBody (top 33), defScope (top 33), [], []⟩, ⟨("_law_shuffled", none), "_law_shuffled", "_law_shuffled", defArgs (top 37), defBody (top 37), defScope (top 37), [], []⟩, ⟨("_law_pool", none), "_law_pool", "_law_pool", defArgs (top 38), defBody (top 38), defScope (top 38), [], []⟩, ⟨("_law_gcd", none), "_law_gcd", "_law_gcd", defArgs (top 40), defBody (top 40), defScope (top 40), [], []⟩, ⟨("_law_amount", none), "_law_amount", "_law_amount", defArgs (top 41), defBody (top 41), defScope (top 41), [], []⟩, ⟨("_law_gap", none), "_law_gap", "_law_gap", defArgs (top 45), defBody (top 45), defScope (top 45), [], []⟩, ⟨("_law_plus", none), "_law_plus", "_law_plus", defArgs (top 42), defBody (top 42), defScope (top 42), [], []⟩, ⟨("_law_ends", none), "_law_ends", "_law_ends", defArgs (top 46), defBody (top 46), defScope (top 46), [], []⟩, ⟨("_law_part", none), "_law_part", "_law_part", defArgs (top 44), defBody (top 44), defScope (top 44), [], []⟩, ⟨("_law_normal", none), "_law_normal", "_law_normal", defArgs (top 43), defBody (top 43), defScope (top 43), [], []⟩, ⟨("_law_line", none), "_law_line", "_law_line", defArgs (top 47), defBody (top 47), defScope (top 47), [], []⟩, ⟨("_law_shields", none), "_law_shields", "_law_shields", defArgs (top 48), defBody (top 48), defScope (top 48), [], []⟩, ⟨("_law_rare", none), "_law_rare", "_law_rare", defArgs (top 36), defBody (top 36), defScope (top 36), [], []⟩, ⟨("_law_pick", none), "_law_pick", "_law_pick", defArgs (top 34), defBody (top 34), defScope (top 34), [], []⟩, ⟨("_law_names", none), "_law_names", "_law_names", defArgs (top 51), defBody (top 51), defScope (top 51), [], []⟩, ⟨("_law_strange", none), "_law_strange", "_law_strange", defArgs (top 50), defBody (top 50), defScope (top 50), [], []⟩, ⟨("_law_report", none), "_law_report", "_law_report", defArgs (top 54), defBody (top 54), defScope (top 54), [], []⟩, ⟨("_law_endorse", none), "_law_endorse", "_law_endorse", defArgs (top 53), defBody (top 53), defScope (top 53), [], []⟩, ⟨("_law_pop", none), "_law_pop", "_law_pop", defArgs (top 35), defBody (top 35), defScope (top 35), [], []⟩, ⟨("_law_event", none), "_law_event", "_law_event", defArgs (top 52), defBody (top 52), defScope (top 52), [], []⟩, ⟨("_law_heard", none), "_law_heard", "_law_heard", defArgs (top 49), defBody (top 49), defScope (top 49), [], []⟩, ⟨("_law_entry", none), "_law_entry", "_law_entry", defArgs (top 55), defBody (top 55), defScope (top 55), [], []⟩, ⟨("_law_base", none), "_law_base", "_law_base", defArgs (top 56), defBody (top 56), defScope (top 56), [], []⟩, ⟨("_law_is_int", none), "_law_is_int", "_law_is_int", defArgs (top 39), defBody (top 39), defScope (top 39), [], []⟩, ⟨("heard_too_soon", none), "heard_too_soon", "heard_too_soon", defArgs (top 22), defBody (top 22), defScope (top 22), [], []⟩, ⟨("events_of", none), "events_of", "events_of", defArgs (top 19), defBody (top 19), defScope (top 19), [], []⟩, ⟨("is_one_too_many", none), "is_one_too_many", "is_one_too_many", defArgs (top 23), defBody (top 23), defScope (top 23), [], []⟩, ⟨("is_early", none), "is_early", "is_early", defArgs (top 24), defBody (top 24), defScope (top 24), [], []⟩, ⟨("event_entry", none), "event_entry", "event_entry", defArgs (top 20), defBody (top 20), defScope (top 20), [], []⟩, ⟨("is_declared", none), "is_declared", "is_declared", defArgs (top 21), defBody (top 21), defScope (top 21), [], []⟩, ⟨("is_declared_twice", none), "is_declared_twice", "is_declared_twice", defArgs (top 25), defBody (top 25), defScope (top 25), [], []⟩, ⟨("is_of_nothing", none), "is_of_nothing", "is_of_nothing", defArgs (top 26), defBody (top 26), defScope (top 26), [], []⟩, ⟨("has_strange_number", none), "has_strange_number", "has_strange_number", defArgs (top 27), defBody (top 27), defScope (top 27), [], []⟩, ⟨("reason_against", none), "reason_against", "reason_against", defArgs (top 28), defBody (top 28), defScope (top 28), [], []⟩, ⟨("check_entry", none), "check_entry", "check_entry", defArgs (top 29), defBody (top 29), defScope (top 29), [], []⟩, ⟨("check_journal", none), "check_journal", "check_journal", defArgs (top 30), defBody (top 30), defScope (top 30), [], []⟩, ⟨("_law_told", none), "_law_told", "_law_told", defArgs (top 59), defBody (top 59), defScope (top 59), [], []⟩, ⟨("_law_reason", none), "_law_reason", "_law_reason", defArgs (top 57), defBody (top 57), defScope (top 57), [], []⟩, ⟨("_law_first", none), "_law_first", "_law_first", defArgs (top 58), defBody (top 58), defScope (top 58), [], []⟩, ⟨("_law_right", none), "_law_right", "_law_right", defArgs (top 60), defBody (top 60), defScope (top 60), [], []⟩, ⟨("law", none), "law", "law", defArgs (top 61), defBody (top 61), defScope (top 61), [], []⟩]
def fa : List He.Fa := [.glo "_law_begin", .glo "_law_draw", .glo "_law_shuffled", .glo "_law_pool", .glo "_law_gcd", .glo "_law_amount", .glo "_law_gap", .glo "_law_plus", .glo "_law_ends", .glo "_law_part", .glo "_law_normal", .glo "_law_line", .glo "_law_shields", .glo "_law_rare", .glo "_law_pick", .glo "_law_names", .glo "_law_strange", .glo "_law_report", .glo "_law_endorse", .glo "_law_pop", .glo "_law_event", .glo "_law_heard", .glo "_law_entry", .glo "_law_base", .glo "_law_is_int", .glo "heard_too_soon", .glo "events_of", .glo "is_one_too_many", .glo "is_early", .glo "event_entry", .glo "is_declared", .glo "is_declared_twice", .glo "is_of_nothing", .glo "has_strange_number", .glo "reason_against", .glo "check_entry", .glo "check_journal", .glo "_law_told", .glo "_law_reason", .glo "_law_first", .glo "_law_right", .glo "law", .free "abs", .free "bool", .free "int", .free "isinstance", .free "len", .free "list", .free "max", .free "min", .free "range", .free "str", .free "tuple", .int "MOST_ENTRIES" 60, .int "MOST_EVENTS" 12]
def exl (K : PySem.W.Frag) : List Bool := [erB K (PySem.Challenge.pw_cedewheel_k16_journals_checked).main.file ⟨"BadEntry", ["at", "reason"], [("BadAmount", false), ("BadEntry", true), ("BadPart", false), ("BadRates", false), ("BadText", false), ("CedeError", true), ("NoSettlement", false), ("OwnTaker", false), ("TooFew", false), ("TooMany", false), ("TooSteep", false), ("Twice", false), ("Unknown", false), ("Unlike", false), ("Unvalued", false)]⟩]
def exB (K : PySem.W.Frag) : Bool := (exl K).all id
abbrev R : PySem.W.OpenRow := PySem.W.OpenLaw.row PySem.Challenge.rw_cedewheel_k16_journals_checked
abbrev hk : PySem.W.Hook := hookC 4 fa fn exB
def ob (s : PySem.W.SharedT) : AlC := obsC 4 fa fn exB (HandSHeadRun.getT s)
theorem ob_eq (s : PySem.W.SharedT) : ob s = hk.obs s.abs := obsC_eq (HandSHeadRun.getT_eq s)
def names0 : List PySem.Str := [PySem.Str.ofString "CedeError", PySem.Str.ofString "BadText", PySem.Str.ofString "BadAmount", PySem.Str.ofString "BadPart", PySem.Str.ofString "TooSteep", PySem.Str.ofString "TooMany", PySem.Str.ofString "TooFew", PySem.Str.ofString "Twice", PySem.Str.ofString "Unknown", PySem.Str.ofString "OwnTaker", PySem.Str.ofString "Unvalued", PySem.Str.ofString "BadRates", PySem.Str.ofString "NoSettlement", PySem.Str.ofString "Unlike", PySem.Str.ofString "BadEntry", PySem.Str.ofString "MOST_ENTRIES", PySem.Str.ofString "MOST_EVENTS", PySem.Str.ofString "events_of", PySem.Str.ofString "event_entry", PySem.Str.ofString "is_declared", PySem.Str.ofString "heard_too_soon", PySem.Str.ofString "is_one_too_many", PySem.Str.ofString "is_early", PySem.Str.ofString "is_declared_twice", PySem.Str.ofString "is_of_nothing", PySem.Str.ofString "has_strange_number", PySem.Str.ofString "reason_against", PySem.Str.ofString "check_entry", PySem.Str.ofString "check_journal", PySem.Str.ofString "_law_begin", PySem.Str.ofString "_law_draw", PySem.Str.ofString "_law_pick", PySem.Str.ofString "_law_pop", PySem.Str.ofString "_law_rare", PySem.Str.ofString "_law_shuffled"]
def names1 : List PySem.Str := [PySem.Str.ofString "_law_pool", PySem.Str.ofString "_law_is_int", PySem.Str.ofString "_law_gcd", PySem.Str.ofString "_law_amount", PySem.Str.ofString "_law_plus", PySem.Str.ofString "_law_normal", PySem.Str.ofString "_law_part", PySem.Str.ofString "_law_gap", PySem.Str.ofString "_law_ends", PySem.Str.ofString "_law_line", PySem.Str.ofString "_law_shields", PySem.Str.ofString "_law_heard", PySem.Str.ofString "_law_strange", PySem.Str.ofString "_law_names", PySem.Str.ofString "_law_event", PySem.Str.ofString "_law_endorse", PySem.Str.ofString "_law_report", PySem.Str.ofString "_law_entry", PySem.Str.ofString "_law_base", PySem.Str.ofString "_law_reason", PySem.Str.ofString "_law_first", PySem.Str.ofString "_law_told", PySem.Str.ofString "_law_right"]
def names : List PySem.Str := names0 ++ names1
theorem run (w : World) : HandSHeadRun.RunEq R (PySem.W.view R.prog [61]) hk ob 20000 names w := by
  intro os
  kernel_rfl
theorem gloF {P : Program} {w : World} {K : PySem.W.Frag} {mg : Str → Option Value} {h base : Heap} (X : K.In h) (G : h.Ns mainGlobals mg) (c : He.SaysD fa fn K) (m : exB K = true) (hP : P = PySem.Challenge.pw_cedewheel_k16_journals_checked) : GloF P w base K mg glo frees bts ecs his := by
  have m2 : ∀ (i : Nat) (b : Bool), (exl K)[i]? = some b → b = true := fun i b e => List.all_eq_true.mp m b (List.mem_of_getElem? e)
  subst hP
  refine ⟨fun x d e => ?_, fun x hx => ?_, fun p hp => ?_, fun p hp => ?_, fun f hf => ?_⟩
  · unfold glo at e
    split at e
    · rename_i hx
      cases e
      subst hx
      obtain ⟨t, ht⟩ := He.int_ok X G (c.fact 53 (f := .int "MOST_ENTRIES" 60) rfl)
      exact ⟨_, .int 60, ht, ⟨_, rfl⟩, fun _ _ => rfl⟩
    split at e
    · rename_i hx
      cases e
      subst hx
      obtain ⟨t, ht⟩ := He.int_ok X G (c.fact 54 (f := .int "MOST_EVENTS" 12) rfl)
      exact ⟨_, .int 12, ht, ⟨_, rfl⟩, fun _ _ => rfl⟩
    cases e
  · unfold frees at hx
    simp only [List.mem_cons, List.not_mem_nil, or_false] at hx
    rcases hx with rfl | rfl | rfl | rfl | rfl | rfl | rfl | rfl | rfl | rfl | rfl
    · exact He.free_ok X G (c.fact 42 (f := .free "abs") rfl)
    · exact He.free_ok X G (c.fact 43 (f := .free "bool") rfl)
    · exact He.free_ok X G (c.fact 44 (f := .free "int") rfl)
    · exact He.free_ok X G (c.fact 45 (f := .free "isinstance") rfl)
    · exact He.free_ok X G (c.fact 46 (f := .free "len") rfl)
    · exact He.free_ok X G (c.fact 47 (f := .free "list") rfl)
    · exact He.free_ok X G (c.fact 48 (f := .free "max") rfl)
    · exact He.free_ok X G (c.fact 49 (f := .free "min") rfl)
    · exact He.free_ok X G (c.fact 50 (f := .free "range") rfl)
    · exact He.free_ok X G (c.fact 51 (f := .free "str") rfl)
    · exact He.free_ok X G (c.fact 52 (f := .free "tuple") rfl)
  · cases hp
  · simp only [ecs, List.mem_cons, List.not_mem_nil, or_false] at hp
    rcases hp with rfl
    · exact erB_ok X G rfl (by kernel_rfl) bp_at_reason (m2 0 _ rfl)
  · simp only [his, List.mem_cons, List.not_mem_nil, or_false] at hf
    rcases hf with rfl
    · obtain ⟨fd, FD⟩ := c.def_ 24 rfl
      exact hot_of (p := "thing") FD sc__law_is_int (by decide +kernel) (He.free_ok X G (c.fact 45 (f := .free "isinstance") rfl)) (He.free_ok X G (c.fact 44 (f := .free "int") rfl)) (He.free_ok X G (c.fact 43 (f := .free "bool") rfl)) (He.glo_ok X G (c.fact 24 (f := .glo "_law_is_int") rfl)) (fun _ _ _ _ _ _ us hl => match us, hl with | [_], _ => rfl)
theorem chain0 {P : Program} {w : World} {K : PySem.W.Frag} {mg : Str → Option Value} {h base : Heap} (X : K.In h) (G : h.Ns mainGlobals mg) (c : He.SaysD fa fn K) (m : exB K = true) (hP : P = PySem.Challenge.pw_cedewheel_k16_journals_checked) (M : Nat) : AllK P w K mg base glo M ds41 43 := by
  have g : GloF P w base K mg glo frees bts ecs his := gloF X G c m hP
  have a0 : AllK P w K mg base glo M ds0 2 := all_nil
  obtain ⟨fd0, F0⟩ := c.def_ 0 rfl
  have a1 : AllK P w K mg base glo M ds1 3 := all_cons a0 g (by decide) F0 sc__law_begin (by decide +kernel) rfl rfl ck__law_begin (He.glo_ok X G (c.fact 0 (f := .glo "_law_begin") rfl))
    (binds_all F0 rfl rfl fun _ _ _ _ _ _ us hl => match us, hl with | [_], _ => rfl)
  obtain ⟨fd1, F1⟩ := c.def_ 1 rfl
  have a2 : AllK P w K mg base glo M ds2 4 := all_cons a1 g (by decide) F1 sc__law_draw (by decide +kernel) rfl rfl ck__law_draw (He.glo_ok X G (c.fact 1 (f := .glo "_law_draw") rfl))
    (binds_all F1 rfl rfl fun _ _ _ _ _ _ us hl => match us, hl with | [_, _], _ => rfl)
  obtain ⟨fd2, F2⟩ := c.def_ 2 rfl
  have a3 : AllK P w K mg base glo M ds3 5 := all_cons a2 g (by decide) F2 sc__law_shuffled (by decide +kernel) rfl rfl ck__law_shuffled (He.glo_ok X G (c.fact 2 (f := .glo "_law_shuffled") rfl))
    (binds_all F2 rfl rfl fun _ _ _ _ _ _ us hl => match us, hl with | [_, _], _ => rfl)
  obtain ⟨fd3, F3⟩ := c.def_ 3 rfl
  have a4 : AllK P w K mg base glo M ds4 6 := all_cons a3 g (by decide) F3 sc__law_pool (by decide +kernel) rfl rfl ck__law_pool (He.glo_ok X G (c.fact 3 (f := .glo "_law_pool") rfl))
    (binds_all F3 rfl rfl fun _ _ _ _ _ _ us hl => match us, hl with | [], _ => rfl)
  obtain ⟨fd4, F4⟩ := c.def_ 4 rfl
  have a5 : AllK P w K mg base glo M ds5 7 := all_cons a4 g (by decide) F4 sc__law_gcd (by decide +kernel) rfl rfl ck__law_gcd (He.glo_ok X G (c.fact 4 (f := .glo "_law_gcd") rfl))
    (binds_all F4 rfl rfl fun _ _ _ _ _ _ us hl => match us, hl with | [_, _], _ => rfl)
  obtain ⟨fd5, F5⟩ := c.def_ 5 rfl
  have a6 : AllK P w K mg base glo M ds6 8 := all_cons a5 g (by decide) F5 sc__law_amount (by decide +kernel) rfl rfl ck__law_amount (He.glo_ok X G (c.fact 5 (f := .glo "_law_amount") rfl))
    (binds_all F5 rfl rfl fun _ _ _ _ _ _ us hl => match us, hl with | [_, _], _ => rfl)
  obtain ⟨fd6, F6⟩ := c.def_ 6 rfl
  have a7 : AllK P w K mg base glo M ds7 9 := all_cons a6 g (by decide) F6 sc__law_gap (by decide +kernel) rfl rfl ck__law_gap (He.glo_ok X G (c.fact 6 (f := .glo "_law_gap") rfl))
    (binds_all F6 rfl rfl fun _ _ _ _ _ _ us hl => match us, hl with | [_], _ => rfl)
  obtain ⟨fd7, F7⟩ := c.def_ 7 rfl
  have a8 : AllK P w K mg base glo M ds8 10 := all_cons a7 g (by decide) F7 sc__law_plus (by decide +kernel) rfl rfl ck__law_plus (He.glo_ok X G (c.fact 7 (f := .glo "_law_plus") rfl))
    (binds_all F7 rfl rfl fun _ _ _ _ _ _ us hl => match us, hl with | [_, _], _ => rfl)
  obtain ⟨fd8, F8⟩ := c.def_ 8 rfl
  have a9 : AllK P w K mg base glo M ds9 11 := all_cons a8 g (by decide) F8 sc__law_ends (by decide +kernel) rfl rfl ck__law_ends (He.glo_ok X G (c.fact 8 (f := .glo "_law_ends") rfl))
    (binds_all F8 rfl rfl fun _ _ _ _ _ _ us hl => match us, hl with | [_, _], _ => rfl)
  obtain ⟨fd9, F9⟩ := c.def_ 9 rfl
  have a10 : AllK P w K mg base glo M ds10 12 := all_cons a9 g (by decide) F9 sc__law_part (by decide +kernel) rfl rfl ck__law_part (He.glo_ok X G (c.fact 9 (f := .glo "_law_part") rfl))
    (binds_all F9 rfl rfl fun _ _ _ _ _ _ us hl => match us, hl with | [_], _ => rfl)
  obtain ⟨fd10, F10⟩ := c.def_ 10 rfl
  have a11 : AllK P w K mg base glo M ds11 13 := all_cons a10 g (by decide) F10 sc__law_normal (by decide +kernel) rfl rfl ck__law_normal (He.glo_ok X G (c.fact 10 (f := .glo "_law_normal") rfl))
    (binds_all F10 rfl rfl fun _ _ _ _ _ _ us hl => match us, hl with | [_], _ => rfl)
  obtain ⟨fd11, F11⟩ := c.def_ 11 rfl
  have a12 : AllK P w K mg base glo M ds12 14 := all_cons a11 g (by decide) F11 sc__law_line (by decide +kernel) rfl rfl ck__law_line (He.glo_ok X G (c.fact 11 (f := .glo "_law_line") rfl))
    (binds_all F11 rfl rfl fun _ _ _ _ _ _ us hl => match us, hl with | [_, _], _ => rfl)
  obtain ⟨fd12, F12⟩ := c.def_ 12 rfl
  have a13 : AllK P w K mg base glo M ds13 15 := all_cons a12 g (by decide) F12 sc__law_shields (by decide +kernel) rfl rfl ck__law_shields (He.glo_ok X G (c.fact 12 (f := .glo "_law_shields") rfl))
    (binds_all F12 rfl rfl fun _ _ _ _ _ _ us hl => match us, hl with | [_, _, _], _ => rfl)
  obtain ⟨fd13, F13⟩ := c.def_ 13 rfl
  have a14 : AllK P w K mg base glo M ds14 16 := all_cons a13 g (by decide) F13 sc__law_rare (by decide +kernel) rfl rfl ck__law_rare (He.glo_ok X G (c.fact 13 (f := .glo "_law_rare") rfl))
    (binds_all F13 rfl rfl fun _ _ _ _ _ _ us hl => match us, hl with | [_, _], _ => rfl)
  obtain ⟨fd14, F14⟩ := c.def_ 14 rfl
  have a15 : AllK P w K mg base glo M ds15 17 := all_cons a14 g (by decide) F14 sc__law_pick (by decide +kernel) rfl rfl ck__law_pick (He.glo_ok X G (c.fact 14 (f := .glo "_law_pick") rfl))
    (binds_all F14 rfl rfl fun _ _ _ _ _ _ us hl => match us, hl with | [_, _], _ => rfl)
  obtain ⟨fd15, F15⟩ := c.def_ 15 rfl
  have a16 : AllK P w K mg base glo M ds16 18 := all_cons a15 g (by decide) F15 sc__law_names (by decide +kernel) rfl rfl ck__law_names (He.glo_ok X G (c.fact 15 (f := .glo "_law_names") rfl))
    (binds_all F15 rfl rfl fun _ _ _ _ _ _ us hl => match us, hl with | [_], _ => rfl)
  obtain ⟨fd16, F16⟩ := c.def_ 16 rfl
  have a17 : AllK P w K mg base glo M ds17 19 := all_cons a16 g (by decide) F16 sc__law_strange (by decide +kernel) rfl rfl ck__law_strange (He.glo_ok X G (c.fact 16 (f := .glo "_law_strange") rfl))
    (binds_all F16 rfl rfl fun _ _ _ _ _ _ us hl => match us, hl with | [_, _], _ => rfl)
  obtain ⟨fd17, F17⟩ := c.def_ 17 rfl
  have a18 : AllK P w K mg base glo M ds18 20 := all_cons a17 g (by decide) F17 sc__law_report (by decide +kernel) rfl rfl ck__law_report (He.glo_ok X G (c.fact 17 (f := .glo "_law_report") rfl))
    (binds_all F17 rfl rfl fun _ _ _ _ _ _ us hl => match us, hl with | [_, _, _, _, _, _], _ => rfl)
  obtain ⟨fd18, F18⟩ := c.def_ 18 rfl
  have a19 : AllK P w K mg base glo M ds19 21 := all_cons a18 g (by decide) F18 sc__law_endorse (by decide +kernel) rfl rfl ck__law_endorse (He.glo_ok X G (c.fact 18 (f := .glo "_law_endorse") rfl))
    (binds_all F18 rfl rfl fun _ _ _ _ _ _ us hl => match us, hl with | [_, _, _, _], _ => rfl)
  obtain ⟨fd19, F19⟩ := c.def_ 19 rfl
  have a20 : AllK P w K mg base glo M ds20 22 := all_cons a19 g (by decide) F19 sc__law_pop (by decide +kernel) rfl rfl ck__law_pop (He.glo_ok X G (c.fact 19 (f := .glo "_law_pop") rfl))
    (binds_all F19 rfl rfl fun _ _ _ _ _ _ us hl => match us, hl with | [_, _], _ => rfl)
  obtain ⟨fd20, F20⟩ := c.def_ 20 rfl
  have a21 : AllK P w K mg base glo M ds21 23 := all_cons a20 g (by decide) F20 sc__law_event (by decide +kernel) rfl rfl ck__law_event (He.glo_ok X G (c.fact 20 (f := .glo "_law_event") rfl))
    (binds_all F20 rfl rfl fun _ _ _ _ _ _ us hl => match us, hl with | [_, _, _, _, _], _ => rfl)
  obtain ⟨fd21, F21⟩ := c.def_ 21 rfl
  have a22 : AllK P w K mg base glo M ds22 24 := all_cons a21 g (by decide) F21 sc__law_heard (by decide +kernel) rfl rfl ck__law_heard (He.glo_ok X G (c.fact 21 (f := .glo "_law_heard") rfl))
    (binds_all F21 rfl rfl fun _ _ _ _ _ _ us hl => match us, hl with | [_, _], _ => rfl)
  obtain ⟨fd22, F22⟩ := c.def_ 22 rfl
  have a23 : AllK P w K mg base glo M ds23 25 := all_cons a22 g (by decide) F22 sc__law_entry (by decide +kernel) rfl rfl ck__law_entry (He.glo_ok X G (c.fact 22 (f := .glo "_law_entry") rfl))
    (binds_all F22 rfl rfl fun _ _ _ _ _ _ us hl => match us, hl with | [_, _, _, _, _, _, _, _], _ => rfl)
  obtain ⟨fd23, F23⟩ := c.def_ 23 rfl
  have a24 : AllK P w K mg base glo M ds24 26 := all_cons a23 g (by decide) F23 sc__law_base (by decide +kernel) rfl rfl ck__law_base (He.glo_ok X G (c.fact 23 (f := .glo "_law_base") rfl))
    (binds_all F23 rfl rfl fun _ _ _ _ _ _ us hl => match us, hl with | [_, _, _, _], _ => rfl)
  obtain ⟨fd24, F24⟩ := c.def_ 24 rfl
  have a25 : AllK P w K mg base glo M ds25 27 := all_cons a24 g (by decide) F24 sc__law_is_int (by decide +kernel) rfl rfl ck__law_is_int (He.glo_ok X G (c.fact 24 (f := .glo "_law_is_int") rfl))
    (binds_all F24 rfl rfl fun _ _ _ _ _ _ us hl => match us, hl with | [_], _ => rfl)
  obtain ⟨fd25, F25⟩ := c.def_ 25 rfl
  have a26 : AllK P w K mg base glo M ds26 28 := all_cons a25 g (by decide) F25 sc_heard_too_soon (by decide +kernel) rfl rfl ck_heard_too_soon (He.glo_ok X G (c.fact 25 (f := .glo "heard_too_soon") rfl))
    (binds_all F25 rfl rfl fun _ _ _ _ _ _ us hl => match us, hl with | [_, _], _ => rfl)
  obtain ⟨fd26, F26⟩ := c.def_ 26 rfl
  have a27 : AllK P w K mg base glo M ds27 29 := all_cons a26 g (by decide) F26 sc_events_of (by decide +kernel) rfl rfl ck_events_of (He.glo_ok X G (c.fact 26 (f := .glo "events_of") rfl))
    (binds_all F26 rfl rfl fun _ _ _ _ _ _ us hl => match us, hl with | [_], _ => rfl)
  obtain ⟨fd27, F27⟩ := c.def_ 27 rfl
  have a28 : AllK P w K mg base glo M ds28 30 := all_cons a27 g (by decide) F27 sc_is_one_too_many (by decide +kernel) rfl rfl ck_is_one_too_many (He.glo_ok X G (c.fact 27 (f := .glo "is_one_too_many") rfl))
    (binds_all F27 rfl rfl fun _ _ _ _ _ _ us hl => match us, hl with | [_, _], _ => rfl)
  obtain ⟨fd28, F28⟩ := c.def_ 28 rfl
  have a29 : AllK P w K mg base glo M ds29 31 := all_cons a28 g (by decide) F28 sc_is_early (by decide +kernel) rfl rfl ck_is_early (He.glo_ok X G (c.fact 28 (f := .glo "is_early") rfl))
    (binds_all F28 rfl rfl fun _ _ _ _ _ _ us hl => match us, hl with | [_], _ => rfl)
  obtain ⟨fd29, F29⟩ := c.def_ 29 rfl
  have a30 : AllK P w K mg base glo M ds30 32 := all_cons a29 g (by decide) F29 sc_event_entry (by decide +kernel) rfl rfl ck_event_entry (He.glo_ok X G (c.fact 29 (f := .glo "event_entry") rfl))
    (binds_all F29 rfl rfl fun _ _ _ _ _ _ us hl => match us, hl with | [_, _], _ => rfl)
  obtain ⟨fd30, F30⟩ := c.def_ 30 rfl
  have a31 : AllK P w K mg base glo M ds31 33 := all_cons a30 g (by decide) F30 sc_is_declared (by decide +kernel) rfl rfl ck_is_declared (He.glo_ok X G (c.fact 30 (f := .glo "is_declared") rfl))
    (binds_all F30 rfl rfl fun _ _ _ _ _ _ us hl => match us, hl with | [_, _], _ => rfl)
  obtain ⟨fd31, F31⟩ := c.def_ 31 rfl
  have a32 : AllK P w K mg base glo M ds32 34 := all_cons a31 g (by decide) F31 sc_is_declared_twice (by decide +kernel) rfl rfl ck_is_declared_twice (He.glo_ok X G (c.fact 31 (f := .glo "is_declared_twice") rfl))
    (binds_all F31 rfl rfl fun _ _ _ _ _ _ us hl => match us, hl with | [_, _], _ => rfl)
  obtain ⟨fd32, F32⟩ := c.def_ 32 rfl
  have a33 : AllK P w K mg base glo M ds33 35 := all_cons a32 g (by decide) F32 sc_is_of_nothing (by decide +kernel) rfl rfl ck_is_of_nothing (He.glo_ok X G (c.fact 32 (f := .glo "is_of_nothing") rfl))
    (binds_all F32 rfl rfl fun _ _ _ _ _ _ us hl => match us, hl with | [_, _], _ => rfl)
  obtain ⟨fd33, F33⟩ := c.def_ 33 rfl
  have a34 : AllK P w K mg base glo M ds34 36 := all_cons a33 g (by decide) F33 sc_has_strange_number (by decide +kernel) rfl rfl ck_has_strange_number (He.glo_ok X G (c.fact 33 (f := .glo "has_strange_number") rfl))
    (binds_all F33 rfl rfl fun _ _ _ _ _ _ us hl => match us, hl with | [_, _, _], _ => rfl)
  obtain ⟨fd34, F34⟩ := c.def_ 34 rfl
  have a35 : AllK P w K mg base glo M ds35 37 := all_cons a34 g (by decide) F34 sc_reason_against (by decide +kernel) rfl rfl ck_reason_against (He.glo_ok X G (c.fact 34 (f := .glo "reason_against") rfl))
    (binds_all F34 rfl rfl fun _ _ _ _ _ _ us hl => match us, hl with | [_, _, _, _], _ => rfl)
  obtain ⟨fd35, F35⟩ := c.def_ 35 rfl
  have a36 : AllK P w K mg base glo M ds36 38 := all_cons a35 g (by decide) F35 sc_check_entry (by decide +kernel) rfl rfl ck_check_entry (He.glo_ok X G (c.fact 35 (f := .glo "check_entry") rfl))
    (binds_all F35 rfl rfl fun _ _ _ _ _ _ us hl => match us, hl with | [_, _, _, _], _ => rfl)
  obtain ⟨fd36, F36⟩ := c.def_ 36 rfl
  have a37 : AllK P w K mg base glo M ds37 39 := all_cons a36 g (by decide) F36 sc_check_journal (by decide +kernel) rfl rfl ck_check_journal (He.glo_ok X G (c.fact 36 (f := .glo "check_journal") rfl))
    (binds_all F36 rfl rfl fun _ _ _ _ _ _ us hl => match us, hl with | [_, _, _], _ => rfl)
  obtain ⟨fd37, F37⟩ := c.def_ 37 rfl
  have a38 : AllK P w K mg base glo M ds38 40 := all_cons a37 g (by decide) F37 sc__law_told (by decide +kernel) rfl rfl ck__law_told (He.glo_ok X G (c.fact 37 (f := .glo "_law_told") rfl))
    (binds_all F37 rfl rfl fun _ _ _ _ _ _ us hl => match us, hl with | [_, _, _], _ => rfl)
  obtain ⟨fd38, F38⟩ := c.def_ 38 rfl
  have a39 : AllK P w K mg base glo M ds39 41 := all_cons a38 g (by decide) F38 sc__law_reason (by decide +kernel) rfl rfl ck__law_reason (He.glo_ok X G (c.fact 38 (f := .glo "_law_reason") rfl))
    (binds_all F38 rfl rfl fun _ _ _ _ _ _ us hl => match us, hl with | [_, _, _, _], _ => rfl)
  obtain ⟨fd39, F39⟩ := c.def_ 39 rfl
  have a40 : AllK P w K mg base glo M ds40 42 := all_cons a39 g (by decide) F39 sc__law_first (by decide +kernel) rfl rfl ck__law_first (He.glo_ok X G (c.fact 39 (f := .glo "_law_first") rfl))
    (binds_all F39 rfl rfl fun _ _ _ _ _ _ us hl => match us, hl with | [_, _, _], _ => rfl)
  obtain ⟨fd40, F40⟩ := c.def_ 40 rfl
  have a41 : AllK P w K mg base glo M ds41 43 := all_cons a40 g (by decide) F40 sc__law_right (by decide +kernel) rfl rfl ck__law_right (He.glo_ok X G (c.fact 40 (f := .glo "_law_right") rfl))
    (binds_all F40 rfl rfl fun _ _ _ _ _ _ us hl => match us, hl with | [_, _, _], _ => rfl)
  exact a41
theorem facts {P : Program} {w : World} {K : PySem.W.Frag} {h : Heap} {mg : Str → Option Value} {f : Addr} (X : K.In h) (G : h.Ns mainGlobals mg) (hfa : mg ("law" : Str) = some (.ref f)) (c : He.SaysD fa fn K) (m : exB K = true) (hP : P = PySem.Challenge.pw_cedewheel_k16_journals_checked) :
    ∃ fd : FuncData, (∀ (s : Shared) (v : Value), BindsTo s fd ⟨[v], []⟩ [("script", v)]) ∧ ∀ base : Heap, K.In base → base.Ns mainGlobals mg → FnOk P w K mg base (L2.CX P w) 44 f fd ["script"] fun vs H Q E => ∃ M, spOf (mkF glo M ds42) mg K 1 "law" vs H Q E := by
  obtain ⟨fd, F⟩ := c.def_ 41 rfl
  have hg : mg ("law" : Str) = some (.ref (He.ga K "law")) := He.glo_ok X G (c.fact 41 (f := .glo "law") rfl)
  have e := hfa.symm.trans hg
  cases e
  have b := FunD.bindsA (ps := ["script"]) F fun _ _ _ _ _ _ us hl => match us, hl with | [_], _ => rfl
  refine ⟨fd, fun s v => b s [v] rfl, fun base _ _ => FnOk.ex fun M => ?_⟩
  exact law_fn (d := d_law) (chain0 X G c m hP M) (gloF X G c m hP) (by decide) F sc_law rfl rfl ck_law
end Wk16

set_option Elab.async false
set_option linter.all false
set_option maxRecDepth 100000
set_option maxHeartbeats 4000000
namespace Wk16
open PySem PySem.Spec PyProof.Rows L2 Dv
theorem f__law_draw : DrawS ((FU MM).call "_law_draw") := fun {n d m} hd hn h0 h1 => by rw [run__law_draw rfl]; exact draw_run hd hn h0 h1
theorem f__law_rare : ∀ {n : Nat} {d : D} {m : Int}, DS n d → n < 2 ^ 60 → 0 < m → m < 2 ^ 64 → ∃ b d', (FU MM).call "_law_rare" [.own d, .val (.int m)] = .ok (.val (.bl b), [.own d', .val (.int m)]) ∧ DS (n + 1) d' := fun {n d m} hd hn h0 h1 => by rw [run__law_rare rfl]; exact rare_run (by rw [up13__law_draw]; exact f__law_draw) (fun n => dfl13__law_draw n) hd hn h0 h1
theorem f__law_pick : ∀ {n : Nat} {d : D} {row : List D} {R : A}, (R = .own (.lst row) ∨ R = .val (.lst row) ∨ R = .val (.tup row)) → DS n d → n < 2 ^ 60 → 0 < row.length → row.length < 2 ^ 62 → ∃ x d', (FU MM).call "_law_pick" [.own d, R] = .ok (.val x, [.own d', R]) ∧ x ∈ row ∧ DS (n + 1) d' := fun {n d row R} hR hd hn h0 h1 => by rw [run__law_pick rfl]; exact pick_run (by rw [up14__law_draw]; exact f__law_draw) (fun n => dfl14__law_draw n) hR hd hn h0 h1
theorem f__law_shuffled : ∀ {n : Nat} {d : D} {row : List D} {R : A}, (R = .own (.lst row) ∨ R = .val (.lst row) ∨ R = .val (.tup row)) → DS n d → n < 2 ^ 59 → row.length < 16777216 → ∃ row' d', (FU MM).call "_law_shuffled" [.own d, R] = .ok (.own (.lst row'), [.own d', R]) ∧ row'.Perm row ∧ DS (n + row.length) d' := fun {n d row R} hR hd hn h1 => by rw [run__law_shuffled rfl]; exact shuf_run (by rw [up2__law_draw]; exact f__law_draw) (fun n => dfl2__law_draw n) hR hd hn h1
theorem f__law_gcd : ∀ n d : Int, d.natAbs < oC → (FU MM).call "_law_gcd" [.val (.int n), .val (.int d)] = .ok (.val (.int ((Nat.gcd n.natAbs d.natAbs : Nat) : Int)), [.val (.int n), .val (.int d)]) := fun n d h => by rw [run__law_gcd rfl]; exact gcd_run (Nat.lt_of_lt_of_le h MM_oC)
theorem f__law_amount : AmountS ((FU MM).call "_law_amount") := fun n d h0 h => by rw [run__law_amount rfl]; exact amount_run (by rw [up5__law_gcd]; exact f__law_gcd) (fun n => dfl5__law_gcd n) n d h0 h
theorem f__law_plus : ∀ a b : Rat, Ok a → Ok b → (FU MM).call "_law_plus" [.val (am a), .val (am b)] = .ok (.val (am (a + b)), [.val (am a), .val (am b)]) := fun a b ha hb => by rw [run__law_plus rfl]; exact lplus_run (by rw [up7__law_amount]; exact f__law_amount) (fun n => dfl7__law_amount n) a b ha hb
theorem f__law_is_int : ∀ i : Int, (FU MM).call "_law_is_int" [.val (.int i)] = .ok (.val (.bl true), [.val (.int i)]) := fun i => by rw [run__law_is_int rfl]; exact is_int_run
end Wk16

set_option Elab.async false
set_option linter.all false
set_option maxRecDepth 100000
set_option maxHeartbeats 4000000
namespace Wk16
open PySem PySem.Spec PyProof.Rows L2 Dv
abbrev Ln := List (Rat × Rat)
def prD (p : Rat × Rat) : D := .tup [am p.1, am p.2]
def lnD (l : Ln) : D := .tup (l.map prD)
@[simp] theorem pr0 {p : Rat × Rat} : dIdx (prD p) (.int 0) = .ok (am p.1) := by simp [prD]
@[simp] theorem pr1 {p : Rat × Rat} : dIdx (prD p) (.int 1) = .ok (am p.2) := by simp [prD]
structure LineOk (l : Ln) : Prop where
  bd : ∀ p ∈ l, Bd 6 2000 p.1 ∧ Bd 60 60 p.2 ∧ 0 ≤ p.1
  asc : l.Pairwise fun p q => p.1 < q.1
  len : l.length ≤ 40
theorem gap_ok {n : Nat} {d : D} (hd : DS n d) (hn : n < 2 ^ 50) : ∃ q d', (FU MM).call "_law_gap" [.own d] = .ok (.val (am q), [.own d']) ∧ Bd 6 144 q ∧ 0 < q ∧ DS (n + 2) d' := by
  obtain ⟨r, d1, e1, h1, hd1⟩ := f__law_draw (m := 5) hd (by omega) (by omega) (by omega)
  obtain ⟨s, d2, e2, h2, hd2⟩ := f__law_draw (m := 24) hd1 (by omega) (by omega) (by omega)
  rw [run__law_gap rfl]
  have key : ∀ u c : Int, 0 < u → u < 4 → 0 ≤ c → c ≤ 6 → 6 = u * c → Bd 6 144 (Rat.divInt (1 + (s : Int)) u) ∧ 0 < Rat.divInt (1 + (s : Int)) u := fun u c h0 h1 h3 h4 h5 =>
    ⟨Bd.divInt c (by omega) h5 (by
      rw [Int.natAbs_mul]
      exact (show _ ≤ 24 * 6 from Nat.mul_le_mul (by omega) (by omega))), divInt_pos (by omega) h0⟩
  have am' : ∀ u : Int, 0 < u → u < 4 → (FU MM).call "_law_amount" [.val (.int (1 + (s : Int))), .val (.int u)] = .ok (.val (am (Rat.divInt (1 + (s : Int)) u)), [.val (.int (1 + (s : Int))), .val (.int u)]) := fun u h0 h1 => f__law_amount _ _ (by omega) (oC_big (by omega))
  have k5 : 5 ≤ sizeLine := by decide
  have a1 := am' 1 (by omega) (by omega)
  have a2 := am' 2 (by omega) (by omega)
  have a3 := am' 3 (by omega) (by omega)
  rcases (by omega : r = 0 ∨ r = 1 ∨ r = 2 ∨ r = 3 ∨ r = 4) with rfl | rfl | rfl | rfl | rfl
  · exact ⟨_, d2, by simp [b__law_gap, Dv.envOf, e1, e2, k5, a1], (key 1 6 (by omega) (by omega) (by omega) (by omega) (by omega)).1, (key 1 6 (by omega) (by omega) (by omega) (by omega) (by omega)).2, hd2⟩
  · exact ⟨_, d2, by simp [b__law_gap, Dv.envOf, e1, e2, k5, a1], (key 1 6 (by omega) (by omega) (by omega) (by omega) (by omega)).1, (key 1 6 (by omega) (by omega) (by omega) (by omega) (by omega)).2, hd2⟩
  · exact ⟨_, d2, by simp [b__law_gap, Dv.envOf, e1, e2, k5, a1], (key 1 6 (by omega) (by omega) (by omega) (by omega) (by omega)).1, (key 1 6 (by omega) (by omega) (by omega) (by omega) (by omega)).2, hd2⟩
  · exact ⟨_, d2, by simp [b__law_gap, Dv.envOf, e1, e2, k5, a2], (key 2 3 (by omega) (by omega) (by omega) (by omega) (by omega)).1, (key 2 3 (by omega) (by omega) (by omega) (by omega) (by omega)).2, hd2⟩
  · exact ⟨_, d2, by simp [b__law_gap, Dv.envOf, e1, e2, k5, a3], (key 3 2 (by omega) (by omega) (by omega) (by omega) (by omega)).1, (key 3 2 (by omega) (by omega) (by omega) (by omega) (by omega)).2, hd2⟩

theorem part_drawn {n : Nat} {d : D} (hd : DS n d) (hn : n < 2 ^ 50) : ∃ q d', (FU MM).call "_law_part" [.own d] = .ok (.val (am q), [.own d']) ∧ Bd 60 60 q ∧ 0 < q ∧ DS (n + 2) d' := by
  obtain ⟨r, d1, e1, h1, hd1⟩ := f__law_draw (m := 7) hd (by omega) (by omega) (by omega)
  rw [run__law_part rfl]
  have k7 : 7 ≤ sizeLine := by decide
  have go : ∀ u c : Int, 0 < u → u < 7 → 0 ≤ c → ((60 : Nat) : Int) = u * c → atI [D.int 1, .int 2, .int 2, .int 3, .int 4, .int 5, .int 6] (r : Int) = some (.int u) → ∃ q d', runDef (F9 MM) MM 2 b__law_part [.own d] = .ok (.val (am q), [.own d']) ∧ Bd 60 60 q ∧ 0 < q ∧ DS (n + 2) d' := fun u c u0 u1 c0 hc ha => by
    obtain ⟨s, d2, e2, h2, hd2⟩ := f__law_draw (m := u) hd1 (by omega) u0 (by omega)
    have e3 := f__law_amount (1 + (s : Int)) u (by omega) (oC_big (by omega))
    refine ⟨Rat.divInt (1 + (s : Int)) u, d2, by simp [b__law_part, Dv.envOf, e1, k7, ha, e2, e3], Bd.divInt c (by omega) hc ?_, divInt_pos (by omega) u0, hd2⟩
    have h3 : (1 + (s : Int)) * c ≤ u * c := Int.mul_le_mul_of_nonneg_right (by omega) c0
    have h4 : 0 ≤ (1 + (s : Int)) * c := Int.mul_nonneg (by omega) c0
    omega
  have at_ : ∀ k : Nat, (h : k < 7) → r = k → atI [D.int 1, .int 2, .int 2, .int 3, .int 4, .int 5, .int 6] (r : Int) = some ([D.int 1, .int 2, .int 2, .int 3, .int 4, .int 5, .int 6][k]'h) := fun k h e => by
    subst e
    exact atI_get (l := [D.int 1, .int 2, .int 2, .int 3, .int 4, .int 5, .int 6]) h
  rcases (by omega : r = 0 ∨ r = 1 ∨ r = 2 ∨ r = 3 ∨ r = 4 ∨ r = 5 ∨ r = 6) with h | h | h | h | h | h | h
  · exact go 1 60 (by omega) (by omega) (by omega) (by omega) (at_ 0 (by omega) h)
  · exact go 2 30 (by omega) (by omega) (by omega) (by omega) (at_ 1 (by omega) h)
  · exact go 2 30 (by omega) (by omega) (by omega) (by omega) (at_ 2 (by omega) h)
  · exact go 3 20 (by omega) (by omega) (by omega) (by omega) (at_ 3 (by omega) h)
  · exact go 4 15 (by omega) (by omega) (by omega) (by omega) (at_ 4 (by omega) h)
  · exact go 5 12 (by omega) (by omega) (by omega) (by omega) (at_ 5 (by omega) h)
  · exact go 6 10 (by omega) (by omega) (by omega) (by omega) (at_ 6 (by omega) h)
/-- ascending, not too large -/
structure Asc (l : List Rat) : Prop where
  bd : ∀ q ∈ l, Bd 6 2000 q ∧ 0 ≤ q
  asc : l.Pairwise (· < ·)
theorem Asc.snoc {l : List Rat} {q : Rat} (h : Asc l) (hq : Bd 6 2000 q) (h0 : 0 ≤ q) (hl : ∀ p ∈ l, p < q) : Asc (l ++ [q]) :=
  ⟨fun p hp => by
    rcases List.mem_append.mp hp with hp | hp
    · exact h.bd p hp
    · simp at hp; subst hp; exact ⟨hq, h0⟩, List.pairwise_append.mpr ⟨h.asc, List.pairwise_singleton _ _, fun a ha b hb => by simp at hb; subst hb; exact hl a ha⟩⟩
theorem ends_ok {n many : Nat} {d : D} (hd : DS n d) (hn : n < 2 ^ 45) (hm : many ≤ 5) : ∃ (l : List Rat) (d' : D), (FU MM).call "_law_ends" [.own d, .val (.int (many : Nat))] = .ok (.own (.lst (l.map am)), [.own d', .val (.int (many : Nat))]) ∧ Asc l ∧ l.length = many ∧ DS (n + 20) d' := by
  obtain ⟨r, d1, e1, h1, hd1⟩ := f__law_draw (m := 2) hd (by omega) (by omega) (by omega)
  have loop : ∀ (a0 : Rat) (d : D), DS (n + 3) d → Bd 6 144 a0 → 0 ≤ a0 → ∃ (l : List Rat) (d' : D) (at_ : Rat) (o : Option S), Dv.ex (F8 MM) MM S__law_ends_0 [some (.own true d), some (.val (.int (many : Nat))), some (.val (am a0)), some (.own false (.lst [])), none] = .ok (.nx, [some (.own true d'), some (.val (.int (many : Nat))), some (.val (am at_)), some (.own false (.lst (l.map am))), o]) ∧ Asc l ∧ l.length = many ∧ DS (n + 3 + 2 * many) d' := fun a0 d hd ha h0 => by
    obtain ⟨ρ', ⟨l, d', at_, o, rfl, hA, hll, hat, h0, hlt, hd', _⟩, e⟩ := for_rng (F := F8 MM) (N := MM) (S := S__law_ends_0) rfl (m := many) (ρ := [some (.own true d), some (.val (.int (many : Nat))), some (.val (am a0)), some (.own false (.lst [])), none])
      (ρ1 := [some (.own true d), some (.val (.int (many : Nat))), some (.val (am a0)), some (.own false (.lst [])), none])
      (fun i ρ => ∃ (l : List Rat) (d' : D) (at_ : Rat) (o : Option S), ρ = [some (.own true d'), some (.val (.int (many : Nat))), some (.val (am at_)), some (.own false (.lst (l.map am))), o] ∧ Asc l ∧ l.length = i ∧ Bd 6 (144 + 144 * i) at_ ∧ 0 ≤ at_ ∧ (∀ p ∈ l, p < at_) ∧ DS (n + 3 + 2 * i) d' ∧ gFree (some o) = true)
      (evi_rng (by simp) (by omega)) ⟨[], d, a0, none, rfl, ⟨fun q h => (List.not_mem_nil h).elim, List.Pairwise.nil⟩, rfl, ha, h0, fun q h => (List.not_mem_nil h).elim, hd, rfl⟩
      (fun i ρ hi ⟨l, d', at_, o, e, hA, hll, hat, h0, hlt, hd', ho⟩ => by
        subst e
        obtain ⟨q, d2, e2, hq, hp, hd2⟩ := gap_ok hd' (by omega)
        have e3 := f__law_plus at_ q ((hat.k60 (by omega) (by omega) (by omega)).ok60) ((hq.k60 (by omega) (by omega) (by omega)).ok60)
        have hz : l.length < sizeLine := len_lt (by omega)
        refine ⟨[some (.own true d2), some (.val (.int (many : Nat))), some (.val (am (at_ + q))), some (.own false (.lst ((l ++ [at_]).map am))), some (.val (.int (i : Nat)))], .inl ?_, l ++ [at_], d2, at_ + q, _, rfl, hA.snoc (hat.mono (by omega)) h0 hlt, by simp [hll], (hat.add hq).mono (by omega), by grind, fun p hp' => ?_, hd2.mono (by omega), rfl⟩
        · simp [turnX, B__law_ends_0, ho, e2, e3, hz]
        · rcases List.mem_append.mp hp' with h | h
          · have := hlt p h
            grind
          · simp at h
            subst h
            grind)
    exact ⟨l, d', at_, o, e, hA, hll, hd'⟩
  have k2 : 2 ≤ sizeLine := by decide
  rw [run__law_ends rfl]
  by_cases hr : r = 0
  · subst hr
    obtain ⟨q, d2, e2, hq, hp, hd2⟩ := gap_ok hd1 (by omega)
    obtain ⟨l, d3, at_, o, e3, hA, hl, hd3⟩ := loop q d2 hd2 hq (Rat.le_of_lt hp)
    exact ⟨l, d3, by simp [b__law_ends, Dv.envOf, k2, e1, e2, e3], hA, hl, hd3.mono (by omega)⟩
  · obtain ⟨l, d3, at_, o, e3, hA, hl, hd3⟩ := loop 0 d1 (hd1.mono (by omega)) Bd.zero Rat.le_refl
    exact ⟨l, d3, by simp [b__law_ends, Dv.envOf, k2, e1, hr, e3], hA, hl, hd3.mono (by omega)⟩
theorem normal_ok {l : Ln} (hl : l.length < 1000) : ∃ l' : Ln, (FU MM).call "_law_normal" [.own (.lst (l.map prD))] = .ok (.val (lnD l'), [.own (.lst (l.map prD))]) ∧ l'.Sublist l := by
  obtain ⟨ρ', ⟨f, last, o, rfl, hs, _⟩, e⟩ := for_slot (F := F10 MM) (N := MM) (S := S__law_normal_0) rfl (xs := l) (f := prD) (j := 0) (o := some 0) (ρ := [some (.own true (.lst (l.map prD))), some (.own false (.lst [])), some (.val (am 0)), none])
    (ρ1 := [some (.own true (.lst (l.map prD))), some (.own false (.lst [])), some (.val (am 0)), none]) (ρl := [some (.lck true (.lst (l.map prD))), some (.own false (.lst [])), some (.val (am 0)), none])
    (fun i ρ => ∃ (f : Ln) (last : Rat) (o : Option S), ρ = [some (.lck true (.lst (l.map prD))), some (.own false (.lst (f.map prD))), some (.val (am last)), o] ∧ f.Sublist (l.take i) ∧ gFree (some o) = true)
    (by simp) (by simp) ⟨[], 0, none, rfl, by simp, rfl⟩
    (fun i p ρ hx ⟨f, last, o, e, hs, ho⟩ => by
      subst e
      have q1 := ne_nice (k := 1) (d := am p.2) (e := am last) nice_am nice_am (by decide)
      have hi := (List.getElem?_eq_some_iff.mp hx).1
      have hf := hs.length_le
      rw [List.length_take] at hf
      have hz : f.length < sizeLine := len_lt (by omega)
      have k2 : 2 ≤ sizeLine := by decide
      have ht : l.take (i + 1) = l.take i ++ [p] := by rw [List.take_succ, hx]; rfl
      by_cases hc : p.2 = last
      · rw [decide_eq_true (am_inj.mpr hc)] at q1
        simp only [Bool.not_true] at q1
        refine ⟨[some (.lck true (.lst (l.map prD))), some (.own false (.lst (f.map prD))), some (.val (am last)), some (.val (prD p))], .inl ?_, f, last, _, rfl, by rw [ht]; exact hs.trans (List.sublist_append_left _ _), rfl⟩
        simp [turnX, B__law_normal_0, ho, -c37_dCmp, q1]
      · rw [decide_eq_false (fun z => hc (am_inj.mp z))] at q1
        simp only [Bool.not_false] at q1
        refine ⟨[some (.lck true (.lst (l.map prD))), some (.own false (.lst ((f ++ [p]).map prD))), some (.val (am p.2)), some (.val (prD p))], .inl ?_, f ++ [p], p.2, _, rfl, by rw [ht]; exact hs.append (List.Sublist.refl _), rfl⟩
        have hpr : prD p = .tup [am p.1, am p.2] := rfl
        simp [turnX, B__law_normal_0, ho, -c37_dCmp, q1, hz, k2, ← hpr])
  rw [List.take_length] at hs
  refine ⟨f, ?_, hs⟩
  have k2 : 2 ≤ sizeLine := by decide
  rw [run__law_normal rfl]
  simp [b__law_normal, Dv.envOf, k2, e, lnD]
theorem LineOk.of {l l' : Ln} (hA : Asc (l.map (·.1))) (hs : ∀ p ∈ l, Bd 60 60 p.2) (hl : l.length ≤ 40) (h : l'.Sublist l) : LineOk l' := by
  refine ⟨fun p hp => ?_, ?_, Nat.le_trans h.length_le hl⟩
  · have hp := h.subset hp
    have := hA.bd p.1 (List.mem_map.mpr ⟨p, hp, rfl⟩)
    exact ⟨this.1, hs p hp, this.2⟩
  · exact List.Pairwise.sublist h (List.pairwise_map.mp hA.asc)
theorem line_ok {n many : Nat} {d : D} (hd : DS n d) (hn : n < 2 ^ 44) (hm : many ≤ 5) : ∃ (l : Ln) (d' : D), (FU MM).call "_law_line" [.own d, .val (.int (many : Nat))] = .ok (.val (lnD l), [.own d', .val (.int (many : Nat))]) ∧ LineOk l ∧ DS (n + 60) d' := by
  obtain ⟨as, d1, e1, hA, hl, hd1⟩ := ends_ok hd (by omega) hm
  obtain ⟨ρ', ⟨l, d2, o3, o4, rfl, hm1, hs, hd2, _⟩, e⟩ := for_new (F := F11 MM) (N := MM) (S := S__law_line_0) rfl (xs := as) (f := am) (d := .lst (as.map am)) (ρ := [some (.own true d), some (.val (.int (many : Nat))), some (.own false (.lst [])), none, none])
    (ρ1 := [some (.own true d1), some (.val (.int (many : Nat))), some (.own false (.lst [])), none, none])
    (fun i ρ => ∃ (l : Ln) (d' : D) (o3 o4 : Option S), ρ = [some (.own true d'), some (.val (.int (many : Nat))), some (.own false (.lst (l.map prD))), o3, o4] ∧ l.map (·.1) = as.take i ∧ (∀ p ∈ l, Bd 60 60 p.2) ∧ DS (n + 20 + 5 * i) d' ∧ gFree (some o3) = true ∧ gFree (some o4) = true)
    (by simp [e1]) ⟨[], d1, none, none, rfl, rfl, fun p h => (List.not_mem_nil h).elim, hd1, rfl, rfl⟩
    (fun i a ρ hx ⟨l, d', o3, o4, e, hm1, hs, hd', g3, g4⟩ => by
      subst e
      have hi := (List.getElem?_eq_some_iff.mp hx).1
      obtain ⟨q1, d3, e3, hq1, _, hd3⟩ := part_drawn hd' (by omega)
      obtain ⟨q2, d4, e4, hq2, _, hd4⟩ := part_drawn hd3 (by omega)
      obtain ⟨r, d5, e5, h5, hd5⟩ := f__law_draw (m := 4) hd4 (by omega) (by omega) (by omega)
      have hll : l.length ≤ i := by
        have := congrArg List.length hm1
        rw [List.length_map, List.length_take] at this
        omega
      have hz : l.length < sizeLine := len_lt (by omega)
      have k2 : 2 ≤ sizeLine := by decide
      have k4 : 4 ≤ sizeLine := by decide
      have go : ∀ s : Rat, Bd 60 60 s → atI [am 0, am 1, am q1, am q2] (r : Int) = some (am s) → ∃ ρ', (turnX (F11 MM) MM (.nm 3) B__law_line_0 (am a) [some (.own true d'), some (.val (.int (many : Nat))), some (.own false (.lst (l.map prD))), o3, o4] = .ok (.nx, ρ') ∨
          turnX (F11 MM) MM (.nm 3) B__law_line_0 (am a) [some (.own true d'), some (.val (.int (many : Nat))), some (.own false (.lst (l.map prD))), o3, o4] = .ok (.ct, ρ')) ∧ ∃ (l : Ln) (d' : D) (o3 o4 : Option S), ρ' = [some (.own true d'), some (.val (.int (many : Nat))), some (.own false (.lst (l.map prD))), o3, o4] ∧
          l.map (·.1) = as.take (i + 1) ∧ (∀ p ∈ l, Bd 60 60 p.2) ∧ DS (n + 20 + 5 * (i + 1)) d' ∧ gFree (some o3) = true ∧ gFree (some o4) = true := fun s hsb ha => by
        refine ⟨[some (.own true d5), some (.val (.int (many : Nat))), some (.own false (.lst ((l ++ [(a, s)]).map prD))), some (.val (am a)), some (.val (am s))], .inl ?_, l ++ [(a, s)], d5, _, _, rfl, ?_, fun p hp => ?_, hd5.mono (by omega), rfl, rfl⟩
        · simp [turnX, B__law_line_0, g3, g4, e3, e4, e5, k2, k4, ha, hz, prD]
        · rw [List.map_append, hm1, List.take_succ, hx]
          rfl
        · rcases List.mem_append.mp hp with h | h
          · exact hs p h
          · simp at h; subst h; exact hsb
      rcases (by omega : r = 0 ∨ r = 1 ∨ r = 2 ∨ r = 3) with h | h | h | h
      · subst h; exact go 0 Bd.zero (atI_get (l := [am 0, am 1, am q1, am q2]) (k := 0) (by simp))
      · subst h; exact go 1 (Bd.int (i := 1) (by omega)) (atI_get (l := [am 0, am 1, am q1, am q2]) (k := 1) (by simp))
      · subst h; exact go q1 hq1 (atI_get (l := [am 0, am 1, am q1, am q2]) (k := 2) (by simp))
      · subst h; exact go q2 hq2 (atI_get (l := [am 0, am 1, am q1, am q2]) (k := 3) (by simp)))
  rw [List.take_length] at hm1
  have hll : l.length = as.length := by
    have := congrArg List.length hm1
    rw [List.length_map] at this
    exact this
  obtain ⟨l', e2, hsub⟩ := normal_ok (l := l) (by omega)
  refine ⟨l', d2, ?_, LineOk.of (by rw [hm1]; exact hA) hs (by omega) hsub, hd2.mono (by omega)⟩
  rw [run__law_line rfl]
  simp [b__law_line, Dv.envOf, e, e2]
end Wk16

set_option Elab.async false
set_option linter.all false
set_option maxRecDepth 100000
set_option maxHeartbeats 4000000
namespace Wk16
open PySem PySem.Spec PyProof.Rows L2 Dv
/-! ### texts -/
abbrev sok (x : Str) : Prop := PyData.strOk x = true
theorem eq_str {x y : Str} (hx : sok x) (hy : sok y) : dCmp .Eq (.str x) (.str y) = .ok (decide (x = y)) := by
  rw [eq_nice (k := 0) (nice_str hx) (nice_str hy) (by decide)]
  congr 1
  simp
theorem nice_strs {k : Nat} {l : List Str} (h : ∀ x ∈ l, sok x) : nice (k + 1) (.lst (l.map D.str)) := fun e he => by
  obtain ⟨z, hz, rfl⟩ := List.mem_map.mp he
  exact nice_str (h z hz)
theorem in_strs {x : Str} {l : List Str} (hx : sok x) (h : ∀ y ∈ l, sok y) : dIn (.str x) (.lst (l.map D.str)) = .ok (decide (x ∈ l)) := by
  rw [dIn_lst, need_true ⟨nice_shp (k := 0) (nice_str hx) (by decide), nice_shp (k := 1) (nice_strs h) (by decide)⟩]
  congr 1
  rw [List.any_map]
  by_cases hm : x ∈ l
  · rw [decide_eq_true hm, List.any_eq_true]
    exact ⟨x, hm, by show deq _ _ = true; rw [deq_nice (k := 0) (nice_str hx) (nice_str hx)]; simp⟩
  · rw [decide_eq_false hm, List.any_eq_false]
    intro y hy
    show ¬ deq _ _ = true
    rw [deq_nice (k := 0) (nice_str (h y hy)) (nice_str hx)]
    simp
    intro e
    exact hm (by rw [← e]; exact hy)
theorem sE : sok "event" := by decide +kernel
theorem sN : sok "endorse" := by decide +kernel
theorem sR : sok "report" := by decide +kernel
@[simp high] theorem q1 : dCmp .Eq (.str (Str.ofString "event")) (.str (Str.ofString "event")) = .ok true := (eq_str sE sE).trans (by simp)
@[simp high] theorem q2 : dCmp .Eq (.str (Str.ofString "endorse")) (.str (Str.ofString "event")) = .ok false := (eq_str sN sE).trans (congrArg _ (by decide +kernel))
@[simp high] theorem q3 : dCmp .Eq (.str (Str.ofString "report")) (.str (Str.ofString "event")) = .ok false := (eq_str sR sE).trans (congrArg _ (by decide +kernel))
@[simp high] theorem q4 : dCmp .Eq (.str (Str.ofString "event")) (.str (Str.ofString "report")) = .ok false := (eq_str sE sR).trans (congrArg _ (by decide +kernel))
@[simp high] theorem q5 : dCmp .Eq (.str (Str.ofString "endorse")) (.str (Str.ofString "report")) = .ok false := (eq_str sN sR).trans (congrArg _ (by decide +kernel))
@[simp high] theorem q6 : dCmp .Eq (.str (Str.ofString "report")) (.str (Str.ofString "report")) = .ok true := (eq_str sR sR).trans (by simp)
@[simp high] theorem q7 : dCmp .Eq (.str (Str.ofString "endorse")) (.str (Str.ofString "endorse")) = .ok true := (eq_str sN sN).trans (by simp)
@[simp high] theorem q8 : dCmp .Eq (.str (Str.ofString "report")) (.str (Str.ofString "endorse")) = .ok false := (eq_str sR sN).trans (congrArg _ (by decide +kernel))
/-! ### entries -/
inductive En where
  | ev (h : Int) (nm : Str) (s : Int)
  | en (h s sh : Int) (ln : D)
  | rp (h : Int) (nm : Str) (co : Int) (a : D)
def enD : En → D
  | .ev h nm s => .tup [.str "event", .int h, .str nm, .int s]
  | .en h s sh ln => .tup [.str "endorse", .int h, .int s, .int sh, ln]
  | .rp h nm co a => .tup [.str "report", .int h, .str nm, .int co, a]
def En.h : En → Int
  | .ev h _ _ => h
  | .en h _ _ _ => h
  | .rp h _ _ _ => h
def En.x : En → Int
  | .ev _ _ s => s
  | .en _ _ sh _ => sh
  | .rp _ _ co _ => co
def En.k : En → Str
  | .ev _ _ _ => "event"
  | .en _ _ _ _ => "endorse"
  | .rp _ _ _ _ => "report"
def En.nm? : En → Option Str
  | .ev _ nm _ => some nm
  | _ => none
def En.two : En → D
  | .ev _ nm _ => .str nm
  | .en _ s _ _ => .int s
  | .rp _ nm _ _ => .str nm
def En.Ok (e : En) : Prop := 0 ≤ e.h ∧ e.h ≤ 1000 ∧ match e with
  | .ev _ nm _ => sok nm
  | .rp _ nm _ _ => sok nm
  | _ => True
@[simp] theorem i0 {e : En} : dIdx (enD e) (.int 0) = .ok (.str e.k) := by cases e <;> simp [enD, En.k]
@[simp] theorem i1 {e : En} : dIdx (enD e) (.int 1) = .ok (.int e.h) := by cases e <;> simp [enD, En.h]
@[simp] theorem i2 {e : En} : dIdx (enD e) (.int 2) = .ok e.two := by cases e <;> simp [enD, En.two]
@[simp] theorem i3 {e : En} : dIdx (enD e) (.int 3) = .ok (.int e.x) := by cases e <;> simp [enD, En.x]
@[simp high] theorem kE {e : En} : dCmp .Eq (.str e.k) (.str (Str.ofString "event")) = .ok e.nm?.isSome := by cases e <;> simp [En.k, En.nm?]
def isR : En → Bool
  | .rp _ _ _ _ => true
  | _ => false
def isN : En → Bool
  | .en _ _ _ _ => true
  | _ => false
@[simp high] theorem kR {e : En} : dCmp .Eq (.str e.k) (.str (Str.ofString "report")) = .ok (isR e) := by cases e <;> simp [En.k, isR]
@[simp high] theorem kN {e : En} : dCmp .Eq (.str e.k) (.str (Str.ofString "endorse")) = .ok (isN e) := by
  cases e
  · exact (eq_str sE sN).trans (congrArg Rs.ok (show decide ((Str.ofString "event") = Str.ofString "endorse") = false by decide +kernel))
  · simp [En.k, isN]
  · simp [En.k, isN]
abbrev J (l : List En) : D := .lst (l.map enD)
def evN (l : List En) : List Str := l.filterMap En.nm?
def JOk (l : List En) : Prop := ∀ e ∈ l, e.Ok
theorem names_sok {l : List En} (h : JOk l) : ∀ x ∈ evN l, sok x := fun x hx => by
  obtain ⟨e, he, h2⟩ := List.mem_filterMap.mp hx
  have := (h e he).2.2
  cases e <;> simp [En.nm?] at h2
  subst h2
  exact this
theorem fm_names {l : List En} : (l.filterMap fun e => e.nm?.map D.str) = (evN l).map D.str := by
  unfold evN
  rw [List.map_filterMap]
section
variable {l : List En} {R : A}
/-- a list, a slot's own or data -/
abbrev Lst (R : A) (l : List D) : Prop := R = .own (.lst l) ∨ R = .val (.lst l)
theorem names_ok (hl : l.length < 1000) (hR : Lst R (l.map enD)) : (FU MM).call "_law_names" [R] = .ok (.own (.lst ((evN l).map D.str)), [R]) := by
  have hs : l.length < sizeLine := len_lt (by omega)
  rw [run__law_names rfl]
  rcases hR with rfl | rfl
  · have e := comp_fmE (F := F15 MM) (elt := E__law_names_0) (tg := .nm 1) (it := .seq (.var 0)) (ifs := .some (.cmp .Eq (.idx (.var 1) (.cst (.int 0))) (.cst (.str "event")))) (own := [1]) (xs := l) (f := enD) (g := fun e => e.nm?.map D.str)
      (ρ := [some (.own true (J l)), none]) (ρ1 := [some (.own true (J l)), none]) (ρw := [some (.lck true (J l)), none]) (p := .at_ 0) (ρ' := [some (.own true (J l)), none]) (by simp [J]) (by simp) hs
      (fun e _ => by cases e <;> simp [turnW, turnR, E__law_names_0, En.nm?, En.two, -c36_dCmp]) (fun out => by simp [compEnd])
    rw [fm_names] at e
    simp [b__law_names, C__law_names_0, Dv.envOf, e]
  · have e := comp_fmE (F := F15 MM) (elt := E__law_names_0) (tg := .nm 1) (it := .seq (.var 0)) (ifs := .some (.cmp .Eq (.idx (.var 1) (.cst (.int 0))) (.cst (.str "event")))) (own := [1]) (xs := l) (f := enD) (g := fun e => e.nm?.map D.str)
      (ρ := [some (.val (J l)), none]) (ρ1 := [some (.val (J l)), none]) (ρw := [some (.val (J l)), none]) (p := .val (J l)) (ρ' := [some (.val (J l)), none]) (by simp [J]) (by simp) hs
      (fun e _ => by cases e <;> simp [turnW, turnR, E__law_names_0, En.nm?, En.two, -c36_dCmp]) (fun out => by simp [compEnd])
    rw [fm_names] at e
    simp [b__law_names, C__law_names_0, Dv.envOf, e]
theorem fm_ev : ∀ {l : List En}, (l.filterMap fun e => if e.nm?.isSome then some (enD e) else none) = (l.filter fun e => e.nm?.isSome).map enD
  | [] => rfl
  | a :: l => by
    rw [List.filterMap_cons, List.filter_cons, fm_ev (l := l)]
    cases h : a.nm?.isSome <;> simp
theorem evs_ok (hl : l.length < 1000) (hR : Lst R (l.map enD)) : (FU MM).call "events_of" [R] = .ok (.own (J (l.filter fun e => e.nm?.isSome)), [R]) := by
  have hs : l.length < sizeLine := len_lt (by omega)
  rw [run_events_of rfl]
  rcases hR with rfl | rfl
  · have e := comp_fmE (F := F26 MM) (elt := E_events_of_0) (tg := .nm 1) (it := .seq (.var 0)) (ifs := .some (.cmp .Eq (.idx (.var 1) (.cst (.int 0))) (.cst (.str "event")))) (own := [1]) (xs := l) (f := enD) (g := fun e => if e.nm?.isSome then some (enD e) else none)
      (ρ := [some (.own true (J l)), none]) (ρ1 := [some (.own true (J l)), none]) (ρw := [some (.lck true (J l)), none]) (p := .at_ 0) (ρ' := [some (.own true (J l)), none]) (by simp [J]) (by simp) hs
      (fun e _ => by cases e <;> simp [turnW, turnR, E_events_of_0, En.nm?, -c36_dCmp]) (fun out => by simp [compEnd])
    rw [fm_ev] at e
    simp [b_events_of, C_events_of_0, Dv.envOf, e]
  · have e := comp_fmE (F := F26 MM) (elt := E_events_of_0) (tg := .nm 1) (it := .seq (.var 0)) (ifs := .some (.cmp .Eq (.idx (.var 1) (.cst (.int 0))) (.cst (.str "event")))) (own := [1]) (xs := l) (f := enD) (g := fun e => if e.nm?.isSome then some (enD e) else none)
      (ρ := [some (.val (J l)), none]) (ρ1 := [some (.val (J l)), none]) (ρw := [some (.val (J l)), none]) (p := .val (J l)) (ρ' := [some (.val (J l)), none]) (by simp [J]) (by simp) hs
      (fun e _ => by cases e <;> simp [turnW, turnR, E_events_of_0, En.nm?, -c36_dCmp]) (fun out => by simp [compEnd])
    rw [fm_ev] at e
    simp [b_events_of, C_events_of_0, Dv.envOf, e]
end
end Wk16

set_option Elab.async false
set_option linter.all false
set_option maxRecDepth 100000
set_option maxHeartbeats 4000000
namespace Wk16
open PySem PySem.Spec PyProof.Rows L2 Dv
/-- a loop over a new list's items that may return -/
theorem for_prt {F : Fn} {N : Nat} {tg : Tg} {it : Ie} {b : Sxs} {ρ ρ1 : Env'} {S : Sx} (hS : S = .for_ tg it b) {α : Type} {xs : List α} {f : α → D} {p0 : P} (I : Nat → Env' → Prop) (Q : P → Env' → Prop) (hi : evi F it ρ = .ok ((xs.map f, p0), ρ1)) (hk : lockP p0 ρ1 = (none, ρ1)) (h0 : I 0 ρ1)
    (step : ∀ i x ρ, xs[i]? = some x → I i ρ → (∃ ρ', (turnX F N tg b (f x) ρ = .ok (.nx, ρ') ∨ turnX F N tg b (f x) ρ = .ok (.ct, ρ')) ∧ I (i + 1) ρ') ∨ ∃ p ρ', turnX F N tg b (f x) ρ = .ok (.rt p, ρ') ∧ Q p ρ') :
    (∃ ρ', I xs.length ρ' ∧ ex F N S ρ = .ok (.nx, ρ')) ∨ ∃ p ρ', Q p ρ' ∧ ex F N S ρ = .ok (.rt p, ρ') := by
  have key := forR_rt (f := turnX F N tg b) (l := xs.map f) (I := I) (Q := Q) (k := 0) (ρ := ρ1) (fun i d ρ ed h => by
    rw [Nat.zero_add] at h ⊢
    rw [List.getElem?_map] at ed
    cases hx : xs[i]? with
    | none => rw [hx] at ed; cases ed
    | some x =>
      rw [hx] at ed
      cases ed
      exact step i x ρ hx h) h0
  rw [Nat.zero_add, List.length_map] at key
  subst hS
  rcases key with ⟨ρ', e, h⟩ | ⟨p, ρ', e, h⟩
  · refine .inl ⟨ρ', h, ?_⟩
    rw [r_ex_for_, hi]
    show (forR (turnX F N tg b) (xs.map f) (lockP p0 ρ1).2).bind (endFor (lockP p0 ρ1).1) = _
    rw [hk, e]
    rfl
  · refine .inr ⟨p, ρ', h, ?_⟩
    rw [r_ex_for_, hi]
    show (forR (turnX F N tg b) (xs.map f) (lockP p0 ρ1).2).bind (endFor (lockP p0 ρ1).1) = _
    rw [hk, e]
    rfl
def lastH (l : List En) : Int := match l.getLast? with
  | some e => e.h
  | none => 0
theorem last_at {l : List En} (h : l ≠ []) : ∃ z, l.getLast? = some z ∧ z ∈ l ∧ atI (l.map enD) ((l.length : Int) - 1) = some (enD z) ∧ atI (l.map enD) (-1) = some (enD z) := by
  have hl : 0 < l.length := List.length_pos_iff.mpr h
  refine ⟨l.getLast h, List.getLast?_eq_some_getLast h, List.getLast_mem h, ?_, ?_⟩
  · rw [atI_nat (by omega) (by simp; omega), List.getElem?_map, List.getLast_eq_getElem]
    have : ((l.length : Int) - 1).toNat = l.length - 1 := by omega
    rw [this, List.getElem?_eq_getElem (by omega)]
    rfl
  · unfold atI ixN
    rw [if_neg (by omega), if_pos (by simp; omega)]
    show (l.map enD)[_]? = _
    rw [List.getElem?_map, List.getLast_eq_getElem]
    have : (((l.map enD).length : Int) + -1).toNat = l.length - 1 := by simp; omega
    rw [List.length_map] at this
    simp
    have h2 : (-1 + (l.length : Int)).toNat = l.length - 1 := by omega
    rw [h2, List.getElem?_eq_getElem (by omega)]
    exact ⟨_, rfl, rfl⟩
noncomputable def rsn (co many : Int) (a : List En) (e : En) : Option Str :=
  if a ≠ [] ∧ e.h < lastH a then some "order"
  else if 60 ≤ a.length ∨ (e.nm?.isSome = true ∧ 12 ≤ (evN a).length) then some "many"
  else match e with
    | .ev h nm s => if h < s then some "early" else if nm ∈ evN a then some "twice" else none
    | .rp _ nm x _ => if nm ∉ evN a then some "unknown" else if 0 ≤ x ∧ x < co then none else some "number"
    | .en _ _ x _ => if 0 ≤ x ∧ x < many then none else some "number"
def rsD : Option Str → D
  | none => .non
  | some r => .str r
theorem evN_filter {l : List En} : (l.filter fun e => e.nm?.isSome).length = (evN l).length := by
  unfold evN
  induction l with
  | nil => rfl
  | cons a l ih => 
    rw [List.filter_cons, List.filterMap_cons]
    cases h : a.nm? with
    | none => simp [ih]
    | some x => simp [ih]
section
variable {l : List En} {R : A} {e : En} {nm : Str}
theorem ee_ok (hl : l.length < 1000) (ho : JOk l) (hn : sok nm) (hR : Lst R (l.map enD)) : ∃ d, (FU MM).call "event_entry" [R, .val (.str nm)] = .ok (.val d, [R, .val (.str nm)]) ∧ (nm ∈ evN l → ∃ t, d = .tup t) ∧ (nm ∉ evN l → d = .non) := by
  have e0 := evs_ok hl hR
  have hm : ∀ e ∈ l.filter fun e => e.nm?.isSome, e.Ok := fun e he => ho e (List.mem_filter.mp he).1
  obtain ⟨s, hs1, hs2⟩ : ∃ s : S, s = A.slot R ∧ True := ⟨_, rfl, trivial⟩
  have hi : evi (F29 MM) (.seq (.call "events_of" (.cons (.var 0) .nil))) [some s, some (.val (.str nm)), none] = .ok (((l.filter fun e => e.nm?.isSome).map enD, .own (J (l.filter fun e => e.nm?.isSome))), [some s, some (.val (.str nm)), none]) := by
    subst hs1
    rcases hR with rfl | rfl <;> simp [A.slot, e0]
  have key := for_prt (F := F29 MM) (N := MM) (S := S_event_entry_0) rfl (xs := l.filter fun e => e.nm?.isSome) (f := enD)
    (fun i ρ => (∀ e ∈ (l.filter fun e => e.nm?.isSome).take i, e.nm? ≠ some nm) ∧ ∃ o, ρ = [some s, some (.val (.str nm)), o] ∧ gFree (some o) = true)
    (fun p ρ => ∃ e o, p = .val (enD e) ∧ e ∈ l ∧ e.nm? = some nm ∧ ρ = [some s, some (.val (.str nm)), o]) hi rfl ⟨fun e h => by simp at h, none, rfl, rfl⟩
    (fun i x ρ hx ⟨h1, o, hρ, ho'⟩ => by
      subst hρ
      have hxm := List.mem_of_getElem? hx
      have hxo := (hm x hxm).2.2
      obtain ⟨hxl, hxs⟩ := List.mem_filter.mp hxm
      cases x with
      | ev h n2 s2 =>
        have eq1 := eq_str hxo hn
        by_cases c : n2 = nm
        · refine .inr ⟨.val (enD (.ev h n2 s2)), [some s, some (.val (.str nm)), some (.val (enD (.ev h n2 s2)))], ?_, .ev h n2 s2, _, rfl, hxl, by rw [c]; rfl, rfl⟩
          rw [decide_eq_true c] at eq1
          simp [turnX, B_event_entry_0, ho', En.two, -c36_dCmp, eq1]
        · refine .inl ⟨[some s, some (.val (.str nm)), some (.val (enD (.ev h n2 s2)))], .inl ?_, ?_, _, rfl, rfl⟩
          · rw [decide_eq_false c] at eq1
            simp [turnX, B_event_entry_0, ho', En.two, -c36_dCmp, eq1]
          · intro e he
            rw [List.take_succ, hx] at he
            rcases List.mem_append.mp he with he | he
            · exact h1 e he
            · simp at he
              subst he
              exact fun z => c (by simpa [En.nm?] using z)
      | en _ _ _ _ => simp [En.nm?] at hxs
      | rp _ _ _ _ => simp [En.nm?] at hxs)
  rw [run_event_entry rfl]
  rcases key with ⟨ρ', ⟨h1, o, rfl, _⟩, ef⟩ | ⟨p, ρ', ⟨e, o, rfl, he, hen, rfl⟩, ef⟩
  · rw [List.take_length] at h1
    have hno : nm ∉ evN l := fun h => by
      obtain ⟨e, he, h2⟩ := List.mem_filterMap.mp h
      exact h1 e (List.mem_filter.mpr ⟨he, by rw [h2]; rfl⟩) h2
    refine ⟨.non, ?_, fun h => absurd h hno, fun _ => rfl⟩
    subst hs1
    rcases hR with rfl | rfl <;> simp [b_event_entry, Dv.envOf, A.slot] at ef ⊢ <;> simp [ef]
  · have hyes : nm ∈ evN l := List.mem_filterMap.mpr ⟨e, he, hen⟩
    refine ⟨enD e, ?_, fun _ => by cases e <;> exact ⟨_, rfl⟩, fun h => absurd hyes h⟩
    subst hs1
    rcases hR with rfl | rfl <;> simp [b_event_entry, Dv.envOf, A.slot] at ef ⊢ <;> simp [ef]
theorem decl_ok (hl : l.length < 1000) (ho : JOk l) (hn : sok nm) (hR : Lst R (l.map enD)) : (FU MM).call "is_declared" [R, .val (.str nm)] = .ok (.val (.bl (decide (nm ∈ evN l))), [R, .val (.str nm)]) := by
  obtain ⟨d, e0, h1, h2⟩ := ee_ok hl ho hn hR
  rw [run_is_declared rfl]
  by_cases c : nm ∈ evN l
  · obtain ⟨t, rfl⟩ := h1 c
    rcases hR with rfl | rfl <;> simp [b_is_declared, Dv.envOf, e0, c]
  · obtain rfl := h2 c
    rcases hR with rfl | rfl <;> simp [b_is_declared, Dv.envOf, e0, c]
end
end Wk16

set_option Elab.async false
set_option linter.all false
set_option maxRecDepth 100000
set_option maxHeartbeats 4000000
namespace Wk16
open PySem PySem.Spec PyProof.Rows L2 Dv
section
variable {l : List En} {R : A} {e : En} {nm : Str} {co : Int} {sl : List D}
theorem hts_ok (hl : l.length < 1000) (hR : Lst R (l.map enD)) : (FU MM).call "heard_too_soon" [R, .val (enD e)] = .ok (.val (.bl (decide (l ≠ [] ∧ e.h < lastH l))), [R, .val (enD e)]) := by
  rw [run_heard_too_soon rfl]
  by_cases c : l = []
  · subst c
    rcases hR with rfl | rfl <;> simp [b_heard_too_soon, Dv.envOf]
  · obtain ⟨z, z1, z2, z3, z4⟩ := last_at c
    have hp : 0 < l.length := List.length_pos_iff.mpr c
    have hz : lastH l = z.h := by unfold lastH; rw [z1]
    rcases hR with rfl | rfl <;> simp [b_heard_too_soon, Dv.envOf, c, z4, hp, hz]
theorem iotm_ok (hl : l.length < 1000) (hR : Lst R (l.map enD)) : (FU MM).call "is_one_too_many" [R, .val (enD e)] = .ok (.val (.bl (decide (60 ≤ l.length ∨ (e.nm?.isSome = true ∧ 12 ≤ (evN l).length)))), [R, .val (enD e)]) := by
  rw [run_is_one_too_many rfl]
  have e0 := evs_ok hl hR
  have h2 := evN_filter (l := l)
  by_cases c : 60 ≤ l.length
  · have c2 : (60 : Int) ≤ (l.length : Int) := by omega
    rcases hR with rfl | rfl <;> simp [b_is_one_too_many, Dv.envOf, c, c2]
  · have c2 : ¬ (60 : Int) ≤ (l.length : Int) := by omega
    cases hk : e.nm?.isSome with
    | false => rcases hR with rfl | rfl <;> simp [b_is_one_too_many, Dv.envOf, c, c2, -c36_dCmp, hk]
    | true =>
      by_cases d : 12 ≤ (evN l).length
      · have d2 : (12 : Int) ≤ ((evN l).length : Int) := by omega
        rcases hR with rfl | rfl <;> simp [b_is_one_too_many, Dv.envOf, c, c2, -c36_dCmp, hk, e0, h2, d, d2]
      · have d2 : ¬ (12 : Int) ≤ ((evN l).length : Int) := by omega
        rcases hR with rfl | rfl <;> simp [b_is_one_too_many, Dv.envOf, c, c2, -c36_dCmp, hk, e0, h2, d, d2]
def early : En → Bool
  | .ev h _ s => decide (h < s)
  | _ => false
theorem early_ok : (FU MM).call "is_early" [.val (enD e)] = .ok (.val (.bl (early e)), [.val (enD e)]) := by
  rw [run_is_early rfl]
  cases e <;> simp [b_is_early, Dv.envOf, early, -c36_dCmp, En.nm?, En.h, En.x]
noncomputable def dtw (l : List En) : En → Bool
  | .ev _ nm _ => decide (nm ∈ evN l)
  | _ => false
theorem dtw_ok (hl : l.length < 1000) (ho : JOk l) (he : e.Ok) (hR : Lst R (l.map enD)) : (FU MM).call "is_declared_twice" [R, .val (enD e)] = .ok (.val (.bl (dtw l e)), [R, .val (enD e)]) := by
  rw [run_is_declared_twice rfl]
  cases e with
  | ev h n s =>
    have e0 := decl_ok hl ho he.2.2 hR
    rcases hR with rfl | rfl <;> simp [b_is_declared_twice, Dv.envOf, dtw, -c36_dCmp, En.nm?, En.two, e0]
  | en _ _ _ _ => rcases hR with rfl | rfl <;> simp [b_is_declared_twice, Dv.envOf, dtw, -c36_dCmp, En.nm?]
  | rp _ _ _ _ => rcases hR with rfl | rfl <;> simp [b_is_declared_twice, Dv.envOf, dtw, -c36_dCmp, En.nm?]
noncomputable def onth (l : List En) : En → Bool
  | .rp _ nm _ _ => !decide (nm ∈ evN l)
  | _ => false
theorem onth_ok (hl : l.length < 1000) (ho : JOk l) (he : e.Ok) (hR : Lst R (l.map enD)) : (FU MM).call "is_of_nothing" [R, .val (enD e)] = .ok (.val (.bl (onth l e)), [R, .val (enD e)]) := by
  rw [run_is_of_nothing rfl]
  cases e with
  | rp h n s a =>
    have e0 := decl_ok hl ho he.2.2 hR
    rcases hR with rfl | rfl <;> simp [b_is_of_nothing, Dv.envOf, onth, -c36_dCmp, isR, En.two, e0]
  | en _ _ _ _ => rcases hR with rfl | rfl <;> simp [b_is_of_nothing, Dv.envOf, onth, -c36_dCmp, isR]
  | ev _ _ _ => rcases hR with rfl | rfl <;> simp [b_is_of_nothing, Dv.envOf, onth, -c36_dCmp, isR]
def strg (co many : Int) : En → Bool
  | .rp _ _ x _ => !decide (0 ≤ x ∧ x < co)
  | .en _ _ x _ => !decide (0 ≤ x ∧ x < many)
  | _ => false
theorem strg_ok : (FU MM).call "has_strange_number" [.val (.int co), .val (.tup sl), .val (enD e)] = .ok (.val (.bl (strg co sl.length e)), [.val (.int co), .val (.tup sl), .val (enD e)]) := by
  rw [run_has_strange_number rfl]
  cases e with
  | ev _ _ _ => simp [b_has_strange_number, Dv.envOf, strg, -c36_dCmp, isR, isN]
  | rp _ _ x _ =>
    by_cases c : 0 ≤ x
    · simp [b_has_strange_number, Dv.envOf, strg, -c36_dCmp, isR, isN, En.x, c]
    · simp [b_has_strange_number, Dv.envOf, strg, -c36_dCmp, isR, isN, En.x, c]
  | en _ _ x _ =>
    by_cases c : 0 ≤ x
    · simp [b_has_strange_number, Dv.envOf, strg, -c36_dCmp, isR, isN, En.x, c]
    · simp [b_has_strange_number, Dv.envOf, strg, -c36_dCmp, isR, isN, En.x, c]
theorem rsn_eq {many : Int} : rsn co many l e = if decide (l ≠ [] ∧ e.h < lastH l) = true then some ("order" : Str) else if decide (60 ≤ l.length ∨ (e.nm?.isSome = true ∧ 12 ≤ (evN l).length)) = true then some ("many" : Str) else if early e = true then some ("early" : Str) else if dtw l e = true then some ("twice" : Str) else if onth l e = true then some ("unknown" : Str) else if strg co many e = true then some ("number" : Str) else none := by
  unfold rsn
  by_cases c1 : l ≠ [] ∧ e.h < lastH l
  · rw [if_pos c1, decide_eq_true c1, if_pos rfl]
  · rw [if_neg c1, decide_eq_false c1, if_neg Bool.false_ne_true]
    by_cases c2 : 60 ≤ l.length ∨ (e.nm?.isSome = true ∧ 12 ≤ (evN l).length)
    · rw [if_pos c2, decide_eq_true c2, if_pos rfl]
    · rw [if_neg c2, decide_eq_false c2, if_neg Bool.false_ne_true]
      cases e with
      | ev h n s => by_cases c : h < s <;> by_cases d : n ∈ evN l <;> simp [early, dtw, onth, strg, c, d]
      | rp h n x a => by_cases d : n ∈ evN l <;> by_cases c : 0 ≤ x ∧ x < co <;> simp [early, dtw, onth, strg, c, d]
      | en h s x a => by_cases c : 0 ≤ x ∧ x < many <;> simp [early, dtw, onth, strg, c]
theorem ra_ok (hl : l.length < 1000) (ho : JOk l) (he : e.Ok) (hR : Lst R (l.map enD)) : (FU MM).call "reason_against" [.val (.int co), .val (.tup sl), R, .val (enD e)] = .ok (.val (rsD (rsn co sl.length l e)), [.val (.int co), .val (.tup sl), R, .val (enD e)]) := by
  have e1 := hts_ok (e := e) hl hR
  have e2 := iotm_ok (e := e) hl hR
  have e3 := early_ok (e := e)
  have e4 := dtw_ok hl ho he hR
  have e5 := onth_ok hl ho he hR
  have e6 := strg_ok (co := co) (sl := sl) (e := e)
  rw [run_reason_against rfl, rsn_eq]
  generalize decide (l ≠ [] ∧ e.h < lastH l) = b1 at e1 ⊢
  generalize decide (60 ≤ l.length ∨ (e.nm?.isSome = true ∧ 12 ≤ (evN l).length)) = b2 at e2 ⊢
  generalize early e = b3 at e3 ⊢
  generalize dtw l e = b4 at e4 ⊢
  generalize onth l e = b5 at e5 ⊢
  generalize strg co sl.length e = b6 at e6 ⊢
  rcases hR with rfl | rfl <;> cases b1 <;> cases b2 <;> cases b3 <;> cases b4 <;> cases b5 <;> cases b6 <;> simp [b_reason_against, Dv.envOf, e1, e2, e3, e4, e5, e6, rsD]
end
end Wk16

set_option Elab.async false
set_option linter.all false
set_option maxRecDepth 100000
set_option maxHeartbeats 4000000
namespace Wk16
open PySem PySem.Spec PyProof.Rows L2 Dv
noncomputable def fb (co many : Int) : List En → List En → Option (Nat × Str)
  | _, [] => none
  | a, e :: r => match rsn co many a e with
    | some x => some (a.length, x)
    | none => fb co many (a ++ [e]) r
def bad (i : Nat) (r : Str) : Er := ⟨"BadEntry", [("reason", .str r), ("at", .int (i : Nat))]⟩
theorem rsn_sok {co many : Int} {a : List En} {e : En} {r : Str} (h : rsn co many a e = some r) : sok r := by
  rw [rsn_eq] at h
  repeat' split at h
  all_goals first | (cases h; decide +kernel) | cases h
theorem fb_sok {co many : Int} : ∀ {r a : List En} {i : Nat} {x : Str}, fb co many a r = some (i, x) → sok x
  | [], _, _, _, h => by cases h
  | e :: r, a, i, x, h => by
    unfold fb at h
    cases h1 : rsn co many a e with
    | some y => rw [h1] at h; cases h; exact rsn_sok h1
    | none => rw [h1] at h; exact fb_sok h
section
variable {l : List En} {R : A} {e : En} {co : Int} {sl : List D} {many : Int}
theorem ce_ok (hl : l.length < 1000) (ho : JOk l) (he : e.Ok) : (FU MM).call "check_entry" [.val (.int co), .val (.tup sl), .own (J l), .val (enD e)] = match rsn co sl.length l e with
    | none => .ok (.val .non, [.val (.int co), .val (.tup sl), .own (J l), .val (enD e)])
    | some r => .err (bad l.length r) := by
  have e0 := ra_ok (co := co) (sl := sl) hl ho he (.inl rfl : Lst (.own (J l)) _)
  rw [run_check_entry rfl]
  cases h : rsn co sl.length l e with
  | none =>
    rw [h] at e0
    simp [b_check_entry, Dv.envOf, e0, rsD]
  | some r =>
    rw [h] at e0
    have n2 : noLs [D.int (l.length : Nat), D.str r] = true := rfl
    simp [b_check_entry, Dv.envOf, e0, rsD, n2, bad]
def jE (co : Int) (sl : List D) (jl : D) (a : List En) (o : Option S) : Env' := [some (.val (.int co)), some (.val (.tup sl)), some (.val jl), some (.own false (J a)), o]
theorem cj_loop {jl : D} : ∀ {r a : List En} {o : Option S}, gFree (some o) = true → (a ++ r).length < 1000 → JOk (a ++ r) → (∃ o', fb co sl.length a r = none ∧ forR (turnX (F36 MM) MM (.nm 4) B_check_journal_0) (r.map enD) (jE co sl jl a o) = .ok (.nx, jE co sl jl (a ++ r) o')) ∨ ∃ i x, fb co sl.length a r = some (i, x) ∧ forR (turnX (F36 MM) MM (.nm 4) B_check_journal_0) (r.map enD) (jE co sl jl a o) = .err (bad i x)
  | [], a, o, ho, hl, hj => .inl ⟨o, rfl, by rw [List.append_nil]; rfl⟩
  | e :: r, a, o, ho, hl, hj => by
    have ha : a.length < 1000 := by simp at hl; omega
    have e0 := ce_ok (co := co) (sl := sl) ha (fun x hx => hj x (List.mem_append_left _ hx)) (hj e (by simp))
    have hz : a.length < sizeLine := len_lt (by omega)
    have step : ∀ y, turnX (F36 MM) MM (.nm 4) B_check_journal_0 (enD e) (jE co sl jl a o) = y → forR (turnX (F36 MM) MM (.nm 4) B_check_journal_0) ((e :: r).map enD) (jE co sl jl a o) = y.bind fun q => match q.1 with
      | .nx => forR (turnX (F36 MM) MM (.nm 4) B_check_journal_0) (r.map enD) q.2
      | .ct => forR (turnX (F36 MM) MM (.nm 4) B_check_journal_0) (r.map enD) q.2
      | .bk => .ok (.nx, q.2)
      | .rt p => .ok (.rt p, q.2) := fun y hy => by rw [← hy]; rfl
    unfold fb
    cases h : rsn co sl.length a e with
    | some x =>
      rw [h] at e0
      refine .inr ⟨_, _, rfl, ?_⟩
      rw [step (.err (bad a.length x)) (by simp [turnX, B_check_journal_0, jE, ho, e0])]
      rfl
    | none =>
      rw [h] at e0
      dsimp only at e0
      have t : turnX (F36 MM) MM (.nm 4) B_check_journal_0 (enD e) (jE co sl jl a o) = .ok (.nx, jE co sl jl (a ++ [e]) (some (.val (enD e)))) := by
        simp [turnX, B_check_journal_0, jE, ho, e0, hz]
      have ih := cj_loop (jl := jl) (r := r) (a := a ++ [e]) (o := some (.val (enD e))) rfl (by simpa using hl) (by simpa using hj)
      rw [step _ t]
      rw [List.append_assoc] at ih
      exact ih
theorem cj_ok (hl : l.length < 1000) (ho : JOk l) : (FU MM).call "check_journal" [.val (.int co), .val (.tup sl), .val (.tup (l.map enD))] = match fb co sl.length [] l with
    | none => .ok (.val .non, [.val (.int co), .val (.tup sl), .val (.tup (l.map enD))])
    | some p => .err (bad p.1 p.2) := by
  rw [run_check_journal rfl]
  rcases cj_loop (co := co) (sl := sl) (jl := .tup (l.map enD)) (r := l) (a := []) (o := none) rfl hl ho with ⟨o', h1, h2⟩ | ⟨i, x, h1, h2⟩
  · rw [h1]
    have e1 : ex (F36 MM) MM S_check_journal_0 (jE co sl (.tup (l.map enD)) [] none) = .ok (.nx, jE co sl (.tup (l.map enD)) l o') := by
      show ex (F36 MM) MM (.for_ (.nm 4) (.seq (.var 2)) B_check_journal_0) _ = _
      exact for_ok (l := l.map enD) (p := .val (.tup (l.map enD))) (ρ1 := jE co sl (.tup (l.map enD)) [] none) (by simp [jE]) h2
    have k0 : (0 : Nat) ≤ sizeLine := by decide
    have e2 : jE co sl (.tup (l.map enD)) [] none = [some (.val (.int co)), some (.val (.tup sl)), some (.val (.tup (l.map enD))), some (.own false (.lst [])), none] := rfl
    rw [e2] at e1
    simp [b_check_journal, Dv.envOf, k0, e1, jE]
  · rw [h1]
    have e1 : ex (F36 MM) MM S_check_journal_0 (jE co sl (.tup (l.map enD)) [] none) = .err (bad i x) := by
      show ex (F36 MM) MM (.for_ (.nm 4) (.seq (.var 2)) B_check_journal_0) _ = _
      rw [r_ex_for_, show evi (F36 MM) (.seq (.var 2)) (jE co sl (.tup (l.map enD)) [] none) = .ok ((l.map enD, .val (.tup (l.map enD))), jE co sl (.tup (l.map enD)) [] none) by simp [jE]]
      show (forR (turnX (F36 MM) MM (.nm 4) B_check_journal_0) (l.map enD) (jE co sl (.tup (l.map enD)) [] none)).bind _ = _
      rw [h2]
      rfl
    have k0 : (0 : Nat) ≤ sizeLine := by decide
    have e2 : jE co sl (.tup (l.map enD)) [] none = [some (.val (.int co)), some (.val (.tup sl)), some (.val (.tup (l.map enD))), some (.own false (.lst [])), none] := rfl
    rw [e2] at e1
    simp [b_check_journal, Dv.envOf, k0, e1]
def toldD : Option (Nat × Str) → D
  | none => .tup [.str "fine", .non]
  | some p => .tup [.str "bad", .int (p.1 : Nat), .str p.2]
theorem hss_skip {er : Er} {p : ErC} {t : Ht} {b l : Hss} {ρ : Env'} (h : et er p t ρ = .ok false) : essH er p (.cons (.ite t b) l) ρ = essH er p l ρ := by
  show ((et er p t ρ).bind _).bind _ = _
  rw [h]
  rfl
theorem hss_ret {er : Er} {p : ErC} {e : Hx} {l : Hss} {ρ : Env'} {d : D} (h : eh er e ρ = .ok d) : essH er p (.cons (.ret e) l) ρ = .ok (.rt (.val d), ρ) := by
  show ((eh er e ρ).bind _).bind _ = _
  rw [h]
  rfl
theorem eh_tup {er : Er} {l : Hxs} {ρ : Env'} {ds : List D} (h : ehs er l ρ = .ok ds) (hl : ds.length ≤ sizeLine) : eh er (.tup l) ρ = .ok (.tup ds) := by
  show (ehs er l ρ).bind _ = _
  rw [h]
  exact need_true hl
def pB : ErC := ⟨"BadEntry", ["at", "reason"], [("BadAmount", false), ("BadEntry", true), ("BadPart", false), ("BadRates", false), ("BadText", false), ("CedeError", true), ("NoSettlement", false), ("OwnTaker", false), ("TooFew", false), ("TooMany", false), ("TooSteep", false), ("Twice", false), ("Unknown", false), ("Unlike", false), ("Unvalued", false)]⟩
theorem er_of {i : Nat} {x : Str} : erOf ecs (bad i x) = .ok pB := rfl
theorem er_is : erIs pB "CedeError" = .ok true := rfl
theorem suite_ok {i : Nat} {x : Str} {ρ : Env'} : essH (bad i x) pB H__law_told_0 ρ = .ok (.rt (.val (toldD (some (i, x)))), ρ) := by
  unfold H__law_told_0
  rw [hss_skip (by rfl), hss_skip (by rfl), hss_skip (by rfl)]
  exact hss_ret (eh_tup (by rfl) (show 3 ≤ sizeLine by decide))
theorem told_ok (hl : l.length < 1000) (ho : JOk l) (hR : Lst R (l.map enD)) : (FU MM).call "_law_told" [.val (.int co), .val (.tup sl), R] = .ok (.val (toldD (fb co sl.length [] l)), [.val (.int co), .val (.tup sl), R]) := by
  have e0 := cj_ok (co := co) (sl := sl) hl ho
  have k2 : 2 ≤ sizeLine := by decide
  rw [run__law_told rfl]
  cases h : fb co sl.length [] l with
  | none =>
    rw [h] at e0
    dsimp only at e0
    rcases hR with rfl | rfl <;> simp [b__law_told, T__law_told_0, Dv.envOf, e0, toldD, k2]
  | some p =>
    rw [h] at e0
    dsimp only at e0
    have k : freeSlot 3 [some (A.slot (.val (.int co))), some (A.slot (.val (.tup sl))), some (A.slot R), none, none] = true := rfl
    rcases hR with rfl | rfl <;> simp [b__law_told, T__law_told_0, Dv.envOf, e0, er_of, er_is, suite_ok]
end
end Wk16

set_option Elab.async false
set_option linter.all false
set_option maxRecDepth 100000
set_option maxHeartbeats 4000000
namespace Wk16
open PySem PySem.Spec PyProof.Rows L2 Dv
section
variable {l : List En} {R : A} {e : En} {co : Int} {sl : List D} {many : Int}
theorem lr_ok (hl : l.length < 1000) (ho : JOk l) (he : e.Ok) : (FU MM).call "_law_reason" [.val (.int co), .val (.int many), .own (J l), .val (enD e)] = .ok (.val (rsD (rsn co many l e)), [.val (.int co), .val (.int many), .own (J l), .val (enD e)]) := by
  have e0 := names_ok hl (.inl rfl : Lst (.own (J l)) _)
  have ns := names_sok ho
  rw [run__law_reason rfl]
  unfold rsn
  by_cases c1 : l ≠ [] ∧ e.h < lastH l
  · obtain ⟨z, z1, z2, z3, z4⟩ := last_at c1.1
    have hp : 0 < l.length := List.length_pos_iff.mpr c1.1
    have hz : lastH l = z.h := by unfold lastH; rw [z1]
    have c2 := c1.2
    rw [hz] at c2
    rw [if_pos c1]
    simp [b__law_reason, Dv.envOf, z3, hp, c2, rsD]
  · rw [if_neg c1]
    have first : ∀ ρ, ρ = [some (.val (.int co)), some (.val (.int many)), some (.own true (J l)), some (.val (enD e)), none, none] → evT (F38 MM) (.and_ (.cons (.cmp .Gt (.blt .len (.cons (.var 2) .nil)) (.cst (.int 0))) (.cons (.cmp .Lt (.idx (.var 3) (.cst (.int 1))) (.idx (.idx (.var 2) (.bin .Sub (.blt .len (.cons (.var 2) .nil)) (.cst (.int 1)))) (.cst (.int 1)))) .nil))) ρ = .ok (false, ρ) := fun ρ hρ => by
      subst hρ
      by_cases c : l = []
      · subst c; simp
      · obtain ⟨z, z1, z2, z3, z4⟩ := last_at c
        have hp : 0 < l.length := List.length_pos_iff.mpr c
        have hz : lastH l = z.h := by unfold lastH; rw [z1]
        have c2 : ¬ e.h < z.h := fun q => c1 ⟨c, by rw [hz]; exact q⟩
        simp [z3, hp, c2]
    have first := first _ rfl
    have c60 : decide ((60 : Int) ≤ (l.length : Int)) = decide (60 ≤ l.length) := by
      by_cases h : 60 ≤ l.length
      · rw [decide_eq_true h, decide_eq_true (by omega)]
      · rw [decide_eq_false h, decide_eq_false (by omega)]
    have c12 : decide ((12 : Int) ≤ ((evN l).length : Int)) = decide (12 ≤ (evN l).length) := by
      by_cases h : 12 ≤ (evN l).length
      · rw [decide_eq_true h, decide_eq_true (by omega)]
      · rw [decide_eq_false h, decide_eq_false (by omega)]
    have head : runDef (F38 MM) MM 6 b__law_reason [.val (.int co), .val (.int many), .own (J l), .val (enD e)] = (exs (F38 MM) MM (match b__law_reason with
      | .cons _ r => r
      | r => r) [some (.val (.int co)), some (.val (.int many)), some (.own true (J l)), some (.val (enD e)), none, none]).bind (Dv.finish [.val (.int co), .val (.int many), .own (J l), .val (enD e)]) := by
      have : Dv.envOf 6 [A.val (.int co), .val (.int many), .own (J l), .val (enD e)] = [some (.val (.int co)), some (.val (.int many)), some (.own true (J l)), some (.val (enD e)), none, none] := rfl
      rw [runDef_d, this]
      unfold b__law_reason
      dsimp only
      rw [r_exs_cons, r_ex_ite, first]
      simp
    rw [head]
    by_cases c2 : 60 ≤ l.length ∨ (e.nm?.isSome = true ∧ 12 ≤ (evN l).length)
    · rw [if_pos c2]
      by_cases d1 : 60 ≤ l.length
      · simp [b__law_reason, e0, c60, d1, rsD]
      · obtain ⟨d2, d3⟩ := c2.resolve_left d1
        simp [b__law_reason, e0, c60, c12, d1, d2, d3, rsD, -c36_dCmp]
    · rw [if_neg c2]
      have d1 : ¬ 60 ≤ l.length := fun h => c2 (.inl h)
      cases e with
      | ev h n s =>
        have d2 : ¬ 12 ≤ (evN l).length := fun h => c2 (.inr ⟨rfl, h⟩)
        have i0 := in_strs he.2.2 ns
        by_cases q1 : h < s
        · simp [b__law_reason, e0, c60, c12, d1, d2, rsD, -c36_dCmp, En.nm?, En.x, En.h, q1]
        · by_cases q2 : n ∈ evN l
          · rw [decide_eq_true q2] at i0
            simp [b__law_reason, e0, c60, c12, d1, d2, rsD, -c36_dCmp, En.nm?, En.x, En.h, q1, q2, En.two, i0]
          · rw [decide_eq_false q2] at i0
            simp [b__law_reason, e0, c60, c12, d1, d2, rsD, -c36_dCmp, En.nm?, En.x, En.h, q1, q2, En.two, i0]
      | rp h n x a =>
        have i0 := in_strs he.2.2 ns
        by_cases q2 : n ∈ evN l
        · rw [decide_eq_true q2] at i0
          by_cases q3 : 0 ≤ x
          · by_cases q4 : x < co
            · simp [b__law_reason, e0, c60, c12, d1, rsD, -c36_dCmp, En.nm?, En.x, isR, isN, q2, En.two, i0, q3, q4]
            · simp [b__law_reason, e0, c60, c12, d1, rsD, -c36_dCmp, En.nm?, En.x, isR, isN, q2, En.two, i0, q3, q4]
          · simp [b__law_reason, e0, c60, c12, d1, rsD, -c36_dCmp, En.nm?, En.x, isR, isN, q2, En.two, i0, q3]
        · rw [decide_eq_false q2] at i0
          simp [b__law_reason, e0, c60, c12, d1, rsD, -c36_dCmp, En.nm?, isR, q2, En.two, i0]
      | en h s x a =>
        by_cases q3 : 0 ≤ x
        · by_cases q4 : x < many
          · simp [b__law_reason, e0, c60, c12, d1, rsD, -c36_dCmp, En.nm?, En.x, isR, isN, q3, q4]
          · simp [b__law_reason, e0, c60, c12, d1, rsD, -c36_dCmp, En.nm?, En.x, isR, isN, q3, q4]
        · simp [b__law_reason, e0, c60, c12, d1, rsD, -c36_dCmp, En.nm?, En.x, isR, isN, q3]
end
end Wk16

set_option Elab.async false
set_option linter.all false
set_option maxRecDepth 100000
set_option maxHeartbeats 4000000
namespace Wk16
open PySem PySem.Spec PyProof.Rows L2 Dv
theorem slL {l : List D} {k : Nat} : dSlc (.lst l) none (some (k : Int)) = .ok (.own (.lst (l.take k))) := by
  show Rs.ok (P.own (.lst ((l.drop (HT.sIx l.length 0 none)).take (HT.sIx l.length l.length (some (k : Int)) - HT.sIx l.length 0 none)))) = _
  rw [HT.sIx_nat]
  show Rs.ok (P.own (.lst ((l.drop 0).take (min k l.length - 0)))) = _
  rw [List.drop_zero, Nat.sub_zero]
  congr 3
  by_cases h : k ≤ l.length
  · rw [Nat.min_eq_left h]
  · rw [Nat.min_eq_right (by omega), List.take_of_length_le (Nat.le_refl _), List.take_of_length_le (by omega)]
theorem slR {l : List D} {k : Nat} : dSlc (.lst l) (some (k : Int)) none = .ok (.own (.lst (l.drop k))) := by
  show Rs.ok (P.own (.lst ((l.drop (HT.sIx l.length 0 (some (k : Int)))).take (HT.sIx l.length l.length none - HT.sIx l.length 0 (some (k : Int)))))) = _
  rw [HT.sIx_nat]
  show Rs.ok (P.own (.lst ((l.drop (min k l.length)).take (l.length - min k l.length)))) = _
  congr 3
  by_cases h : k ≤ l.length
  · rw [Nat.min_eq_left h, List.take_of_length_le (by rw [List.length_drop]; exact Nat.le_refl _)]
  · rw [Nat.min_eq_right (by omega), List.drop_eq_nil_of_le (Nat.le_refl _), List.drop_eq_nil_of_le (by omega), List.take_nil]
theorem fb_cons {co many : Int} {a r : List En} {e : En} : fb co many a (e :: r) = match rsn co many a e with
    | some x => some (a.length, x)
    | none => fb co many (a ++ [e]) r := rfl
section
variable {l : List En} {R : A} {e : En} {co : Int} {sl : List D} {many : Int}
theorem ne_non {o : Option Str} (h : ∀ r, o = some r → sok r) : dCmp .NotEq (rsD o) .non = .ok o.isSome := by
  cases o with
  | none => exact (ne_nice (k := 0) (by trivial) (by trivial) (by decide)).trans (by simp [rsD])
  | some r => exact (ne_nice (k := 0) (nice_str (h r rfl)) (by trivial) (by decide)).trans (by simp [rsD])
theorem lf_ok (hl : l.length < 1000) (ho : JOk l) (hR : Lst R (l.map enD)) : (FU MM).call "_law_first" [.val (.int co), .val (.int many), R] = .ok (.val (toldD (fb co many [] l)), [.val (.int co), .val (.int many), R]) := by
  obtain ⟨s, hs⟩ : ∃ s : S, s = A.slot R := ⟨_, rfl⟩
  have pv : ∀ (F : Fn) o3 o4, ∃ p, ev F (.var 2) [some (.val (.int co)), some (.val (.int many)), some s, o3, o4] = .ok (p, [some (.val (.int co)), some (.val (.int many)), some s, o3, o4]) ∧ pk p [some (.val (.int co)), some (.val (.int many)), some s, o3, o4] = .ok (J l) := fun F o3 o4 => by
    subst hs
    rcases hR with rfl | rfl
    · exact ⟨.at_ 2, by simp [A.slot], by simp [A.slot]⟩
    · exact ⟨.val (J l), by simp [A.slot], by simp [A.slot]⟩
  have hi : evi (F39 MM) (.rng (.blt .len (.cons (.var 2) .nil))) [some (.val (.int co)), some (.val (.int many)), some s, none, none] = .ok (((List.range l.length).map fun k => D.int (k : Nat), .val .non), [some (.val (.int co)), some (.val (.int many)), some s, none, none]) := by
    obtain ⟨p, e1, e2⟩ := pv (F39 MM) none none
    refine evi_rng ?_ (by omega)
    have e1 : gVar 2 [some (.val (.int co)), some (.val (.int many)), some s, none, none] (some (some s)) = .ok (p, [some (.val (.int co)), some (.val (.int many)), some s, none, none]) := by simpa using e1
    simp [e1, e2]
  have key := for_prt (F := F39 MM) (N := MM) (S := S__law_first_0) rfl (xs := List.range l.length) (f := fun k => D.int (k : Nat)) (p0 := .val .non)
    (fun i ρ => fb co many [] l = fb co many (l.take i) (l.drop i) ∧ ∃ o3 o4, ρ = [some (.val (.int co)), some (.val (.int many)), some s, o3, o4] ∧ gFree (some o3) = true ∧ gFree (some o4) = true)
    (fun p ρ => ∃ i r o3 o4, p = .val (toldD (some (i, r))) ∧ fb co many [] l = some (i, r) ∧ ρ = [some (.val (.int co)), some (.val (.int many)), some s, o3, o4]) hi rfl ⟨by rw [List.take_zero, List.drop_zero], none, none, rfl, rfl, rfl⟩
    (fun i x ρ hx ⟨h1, o3, o4, hρ, g3, g4⟩ => by
      subst hρ
      obtain ⟨hi, rfl⟩ := List.getElem?_eq_some_iff.mp hx
      rw [List.getElem_range]
      rw [List.length_range] at hi
      have hti : (l.take i).length = i := by rw [List.length_take]; omega
      have e1 := lr_ok (co := co) (many := many) (e := l[i]) (l := l.take i) (by omega) (fun x hx => ho x ((List.take_subset i l) hx)) (ho _ (List.getElem_mem hi))
      rw [J, List.map_take] at e1
      have hat : atI (l.map enD) (i : Int) = some (enD l[i]) := atI_mapG (List.getElem?_eq_getElem hi)
      obtain ⟨p, e2, e3⟩ := pv (F39 MM) (some (.val (.int (i : Nat)))) o4
      have e2 : gVar 2 [some (.val (.int co)), some (.val (.int many)), some s, some (.val (.int (i : Nat))), o4] (some (some s)) = .ok (p, [some (.val (.int co)), some (.val (.int many)), some s, some (.val (.int (i : Nat))), o4]) := by simpa using e2
      have e4 := ne_non (o := rsn co many (l.take i) l[i]) fun r h => rsn_sok h
      have k3 : 3 ≤ sizeLine := by decide
      rw [List.drop_eq_getElem_cons hi] at h1
      rw [fb_cons, hti] at h1
      cases h : rsn co many (l.take i) l[i] with
      | some r =>
        rw [h] at h1 e1 e4
        refine .inr ⟨.val (toldD (some (i, r))), [some (.val (.int co)), some (.val (.int many)), some s, some (.val (.int (i : Nat))), some (.val (.str r))], ?_, i, r, _, _, rfl, h1, rfl⟩
        simp [turnX, B__law_first_0, g3, g4, e2, e3, slL, hat, e1, rsD, -c37_dCmp, -c97_dSlc] at e4 ⊢
        simp [e4, k3, toldD]
      | none =>
        rw [h] at h1 e1 e4
        refine .inl ⟨[some (.val (.int co)), some (.val (.int many)), some s, some (.val (.int (i : Nat))), some (.val .non)], .inl ?_, ?_, _, _, rfl, rfl, rfl⟩
        · simp [turnX, B__law_first_0, g3, g4, e2, e3, slL, hat, e1, rsD, -c37_dCmp, -c97_dSlc] at e4 ⊢
          simp [e4]
        · dsimp only at h1
          rw [h1, List.take_succ, List.getElem?_eq_getElem hi]
          rfl)
  have k2 : 2 ≤ sizeLine := by decide
  rw [run__law_first rfl]
  have env : Dv.envOf 5 [A.val (.int co), .val (.int many), R] = [some (.val (.int co)), some (.val (.int many)), some s, none, none] := by rw [hs]; rfl
  have out : outArg R (some (some s)) = .ok R := by
    subst hs
    rcases hR with rfl | rfl <;> simp [A.slot]
  rw [runDef_d, env]
  unfold b__law_first
  rcases key with ⟨ρ', ⟨h1, o3, o4, rfl, _⟩, ef⟩ | ⟨p, ρ', ⟨i, r, o3, o4, rfl, hb, rfl⟩, ef⟩
  · rw [List.length_range, List.take_length, List.drop_length] at h1
    rw [h1, r_exs_cons, ef]
    show (exs _ _ _ _).bind _ = _
    simp [k2, fb, toldD, out]
  · rw [hb, r_exs_cons, ef]
    simp [out, toldD]
theorem right_ok {R : A} (hl : l.length < 1000) (ho : JOk l) (hR : Lst R (l.map enD)) : (FU MM).call "_law_right" [.val (.int co), .val (.tup sl), R] = .ok (.val (.bl true), [.val (.int co), .val (.tup sl), R]) := by
  have e1 := told_ok (co := co) (sl := sl) hl ho hR
  have e2 := lf_ok (co := co) (many := sl.length) hl ho hR
  have nt : nice 1 (toldD (fb co sl.length [] l)) := by
    cases h : fb co sl.length [] l with
    | none =>
      intro x hx
      simp [toldD] at hx
      rcases hx with rfl | rfl
      · exact nice_str (by decide +kernel)
      · trivial
    | some p =>
      intro x hx
      simp [toldD] at hx
      rcases hx with rfl | rfl | rfl
      · exact nice_str (by decide +kernel)
      · exact nice_int
      · exact nice_str (fb_sok (i := p.1) h)
  have e3 := eq_nice nt nt (by decide)
  rw [run__law_right rfl]
  rcases hR with rfl | rfl <;> simp [b__law_right, Dv.envOf, e1, e2, -c36_dCmp, e3]
end
end Wk16

set_option Elab.async false
set_option linter.all false
set_option maxRecDepth 100000
set_option maxHeartbeats 4000000
namespace Wk16
open PySem PySem.Spec PyProof.Rows L2 Dv
def poolA : Str := Str.ofString "a b2 sum1 ark r k0 carry z9z full tail n m8 aa busy cnt p t4 even2 ab1 head u v2 w lowest high "
def poolB : Str := Str.ofString "mid s t e f g h i j k x y q7 deep turn gate l5 hold next1 o c0 d two zz1 near far9 last ring2 "
def poolC : Str := Str.ofString "aaaaaaa8 b c1 top2 net3 row col7 v booka money1 rates toy inn onto thenb overs shares"
def poolT : Str := poolA ++ poolB ++ poolC
def poolL : List Str := Txt.split poolT " "
theorem pool_spl : poolL.map TL.tl = TL.spl (TL.tl " ") 0 [] (TL.tl poolT) := TL.split_spl _ _ (by decide +kernel) (TL.kind_ok (by decide +kernel))
theorem pool_len : poolL.length = 70 := by
  have h := congrArg List.length pool_spl
  rw [List.length_map] at h
  rw [h]
  decide +kernel
theorem pool_sok : ∀ x ∈ poolL, sok x := fun x hx => by
  have h : TL.tl x ∈ TL.spl (TL.tl " ") 0 [] (TL.tl poolT) := by rw [← pool_spl]; exact List.mem_map.mpr ⟨x, hx, rfl⟩
  have k : ∀ l ∈ TL.spl (TL.tl " ") 0 [] (TL.tl poolT), l.all (fun c => decide (c < 0x110000)) = true := by decide +kernel
  have := k _ h
  show x.cps.all _ = true
  rw [← Array.all_toList]
  exact this
theorem pool_ok : (FU MM).call "_law_pool" [] = .ok (.own (.lst (poolL.map D.str)), []) := by
  rw [run__law_pool rfl]
  have h1 : poolA.length + poolB.length ≤ sizeLine := by decide +kernel
  have h2 : (poolA ++ poolB).length + poolC.length ≤ sizeLine := by decide +kernel
  have h3 : ((Str.ofString " ").length == 0) = false ∧ poolT.length + 2 ≤ sizeLine := by decide +kernel
  have e1 : dBin .Add (.str poolA) (.str poolB) = .ok (.val (.str (poolA ++ poolB))) := need_true h1
  have e2 : dBin .Add (.str (poolA ++ poolB)) (.str poolC) = .ok (.val (.str poolT)) := need_true h2
  have e3 : Txt.split poolT (Str.ofString " ") = poolL := rfl
  have h4 : ¬ (Str.ofString " ").length = 0 ∧ poolT.length + 2 ≤ sizeLine := by decide +kernel
  have eb : b__law_pool = (.cons (.set 0 (.cst (.str poolA))) (.cons (.set 0 (.bin .Add (.var 0) (.cst (.str poolB)))) (.cons (.set 0 (.bin .Add (.var 0) (.cst (.str poolC)))) (.cons (.ret (.met .split (.var 0) (.cons (.cst (.str " ")) .nil))) .nil)))) := rfl
  rw [eb]
  have ht : hasTy .split (.str poolT) = true := rfl
  generalize poolA = a at e1 e2 ⊢
  generalize poolB = b at e1 e2 ⊢
  generalize poolC = c at e2 ⊢
  generalize poolT = t at e2 e3 ht h4 ⊢
  simp only [dBin] at e1 e2
  simp [Dv.envOf, e1, e2, ht, e3, need_true h4]
/-! ### ints drawn -/
theorem atI_ints {l : List Int} {r : Nat} (h : r < l.length) : atI (l.map D.int) (r : Int) = some (.int l[r]) := atI_mapG (List.getElem?_eq_getElem h)
theorem in_tup {m : Int} {l : List Int} : dIn (.int m) (.tup (l.map D.int)) = .ok (decide (m ∈ l)) := by
  have nl : nice 1 (.tup (l.map D.int)) := fun e he => by
    obtain ⟨z, _, rfl⟩ := List.mem_map.mp he
    exact nice_int
  show need _ _ = _
  rw [need_true ⟨nice_shp (k := 0) nice_int (by decide), nice_shp (k := 1) nl (by decide)⟩]
  congr 1
  rw [List.any_map]
  by_cases h : m ∈ l
  · rw [decide_eq_true h, List.any_eq_true]
    exact ⟨m, h, by show deq _ _ = true; rw [deq_nice (k := 0) nice_int nice_int]; simp⟩
  · rw [decide_eq_false h, List.any_eq_false]
    intro x hx
    show ¬ deq _ _ = true
    rw [deq_nice (k := 0) nice_int nice_int]
    simp
    intro e
    exact h (by rw [← e]; exact hx)
theorem in4 {m a b c e : Int} : dIn (.int m) (.tup [.int a, .int b, .int c, .int e]) = .ok (decide (m ∈ [a, b, c, e])) := in_tup (l := [a, b, c, e])
section
variable {n : Nat} {d : D}
theorem pop_ok {ps : List Str} (hd : DS n d) (hn : n < 2 ^ 50) (h0 : 0 < ps.length) (h1 : ps.length < 1000) : ∃ (k : Nat) (h : k < ps.length) (d' : D), (FU MM).call "_law_pop" [.own d, .own (.lst (ps.map D.str))] = .ok (.val (.str ps[k]), [.own d', .own (.lst ((ps.eraseIdx k).map D.str))]) ∧ DS (n + 1) d' := by
  obtain ⟨r, d', e, h3, h⟩ := f__law_draw (m := (ps.length : Int)) hd (by omega) (by omega) (by omega)
  have hr : r < ps.length := by omega
  refine ⟨r, hr, d', ?_, h⟩
  have hs : seqIndex? (r : Int) (ps.map D.str).length = some r := by
    rw [seqIndex_of (by omega) (by simp; omega)]
    simp
  have hg : (ps.map D.str)[r]? = some (.str ps[r]) := by simp [hr]
  have he : (ps.map D.str).eraseIdx r = (ps.eraseIdx r).map D.str := by
    rw [List.eraseIdx_eq_take_drop_succ, List.eraseIdx_eq_take_drop_succ, List.map_append, List.map_take, List.map_drop]
  have hb : -(2 ^ 63) ≤ (r : Int) ∧ (r : Int) < 2 ^ 63 := by constructor <;> omega
  simp only [Int.reducePow, Int.reduceNeg] at hb
  rw [run__law_pop rfl]
  simp only [List.length_map] at hs
  simp [b__law_pop, Dv.envOf, e, hs, hr, hb, he]
end
end Wk16

set_option Elab.async false
set_option linter.all false
set_option maxRecDepth 100000
set_option maxHeartbeats 4000000
namespace Wk16
open PySem PySem.Spec PyProof.Rows L2 Dv
section
variable {n : Nat} {d : D}
theorem at5 {a b c x y : Int} {r : Nat} (h : r < 5) : ∃ v : Int, atI [D.int a, .int b, .int c, .int x, .int y] (r : Int) = some (.int v) ∧ (v = a ∨ v = b ∨ v = c ∨ v = x ∨ v = y) := by
  have h2 : r < [a, b, c, x, y].length := h
  refine ⟨List.get _ ⟨r, h2⟩, atI_ints h2, ?_⟩
  have hm : List.get _ ⟨r, h2⟩ ∈ _ := List.get_mem _ ⟨r, h2⟩
  revert hm
  generalize List.get _ ⟨r, h2⟩ = v
  intro hm
  simpa using hm
theorem at4 {a b x y : Int} {r : Nat} (h : r < 4) : ∃ v : Int, atI [D.int a, .int b, .int x, .int y] (r : Int) = some (.int v) ∧ (v = a ∨ v = b ∨ v = x ∨ v = y) := by
  have h2 : r < [a, b, x, y].length := h
  refine ⟨List.get _ ⟨r, h2⟩, atI_ints h2, ?_⟩
  have hm : List.get _ ⟨r, h2⟩ ∈ _ := List.get_mem _ ⟨r, h2⟩
  revert hm
  generalize List.get _ ⟨r, h2⟩ = v
  intro hm
  simpa using hm
theorem at3 {a b x : Int} {r : Nat} (h : r < 3) : ∃ v : Int, atI [D.int a, .int b, .int x] (r : Int) = some (.int v) ∧ (v = a ∨ v = b ∨ v = x) := by
  have h2 : r < [a, b, x].length := h
  refine ⟨List.get _ ⟨r, h2⟩, atI_ints h2, ?_⟩
  have hm : List.get _ ⟨r, h2⟩ ∈ _ := List.get_mem _ ⟨r, h2⟩
  revert hm
  generalize List.get _ ⟨r, h2⟩ = v
  intro hm
  simpa using hm
theorem at2 {a b : Int} {r : Nat} (h : r < 2) : ∃ v : Int, atI [D.int a, .int b] (r : Int) = some (.int v) ∧ (v = a ∨ v = b) := by
  have h2 : r < [a, b].length := h
  refine ⟨List.get _ ⟨r, h2⟩, atI_ints h2, ?_⟩
  have hm : List.get _ ⟨r, h2⟩ ∈ _ := List.get_mem _ ⟨r, h2⟩
  revert hm
  generalize List.get _ ⟨r, h2⟩ = v
  intro hm
  simpa using hm
theorem heard_ok {last : Int} (hd : DS n d) (hn : n < 2 ^ 50) (h0 : 0 ≤ last) (h1 : last ≤ 1000) : ∃ (h : Int) (d' : D), (FU MM).call "_law_heard" [.own d, .val (.int last)] = .ok (.val (.int h), [.own d', .val (.int last)]) ∧ 0 ≤ h ∧ h ≤ 1000 ∧ DS (n + 3) d' := by
  obtain ⟨a, d1, e1, h1', hd1⟩ := f__law_draw (m := 4) hd (by omega) (by omega) (by omega)
  obtain ⟨b, d2, e2, h2', hd2⟩ := f__law_draw (m := 60) hd1 (by omega) (by omega) (by omega)
  obtain ⟨r, d3, e3, h3', hd3⟩ := f__law_draw (m := 5) hd2 (by omega) (by omega) (by omega)
  obtain ⟨v, ev, hv⟩ := at5 (a := 0) (b := 0) (c := 1) (x := a) (y := b) (r := r) (by omega)
  have k5 : 5 ≤ sizeLine := by decide
  have hv0 : 0 ≤ v := by omega
  refine ⟨if last + v < 1000 then last + v else 1000, d3, ?_, by split <;> omega, by split <;> omega, hd3⟩
  rw [run__law_heard rfl]
  simp [b__law_heard, Dv.envOf, e1, e2, e3, k5, ev]
theorem strange_ok {m : Int} (hd : DS n d) (hn : n < 2 ^ 50) : ∃ (h : Int) (d' : D), (FU MM).call "_law_strange" [.own d, .val (.int m)] = .ok (.val (.int h), [.own d', .val (.int m)]) ∧ DS (n + 3) d' := by
  obtain ⟨a, d1, e1, h1', hd1⟩ := f__law_draw (m := 90) hd (by omega) (by omega) (by omega)
  obtain ⟨b, d2, e2, h2', hd2⟩ := f__law_draw (m := 900) hd1 (by omega) (by omega) (by omega)
  obtain ⟨r, d3, e3, h3', hd3⟩ := f__law_draw (m := 4) hd2 (by omega) (by omega) (by omega)
  obtain ⟨v, ev, hv⟩ := at4 (a := -1) (b := m) (x := -1 - a) (y := m + 1 + b) (r := r) (by omega)
  have k4 : 4 ≤ sizeLine := by decide
  refine ⟨v, d3, ?_, hd3⟩
  rw [run__law_strange rfl]
  simp [b__law_strange, Dv.envOf, e1, e2, e3, k4, ev]
def bRepT : Sxs := match b__law_report with
  | .cons _ (.cons _ r) => r
  | r => r
theorem pickS {ps : List Str} {R : A} (hR : R = .own (.lst (ps.map D.str)) ∨ R = .val (.lst (ps.map D.str)) ∨ R = .val (.tup (ps.map D.str))) (hd : DS n d) (hn : n < 2 ^ 50) (h0 : 0 < ps.length) (h1 : ps.length < 1000) : ∃ (x : Str) (d' : D), (FU MM).call "_law_pick" [.own d, R] = .ok (.val (.str x), [.own d', R]) ∧ x ∈ ps ∧ DS (n + 1) d' := by
  obtain ⟨y, d', e, hy, h⟩ := f__law_pick hR hd (by omega) (by simpa using h0) (by simp; omega)
  obtain ⟨x, hx, rfl⟩ := List.mem_map.mp hy
  exact ⟨x, d', e, hx, h⟩
/-- a report, of names told, or others -/
theorem report_ok {co h mask : Int} {ns ps : List Str} (hd : DS n d) (hn : n < 2 ^ 45) (hc : 0 < co) (hc2 : co < 100) (hs1 : ∀ x ∈ ns, sok x) (hs2 : ∀ x ∈ ps, sok x) (h0 : 0 < ps.length) (h1 : ps.length < 1000) (h2 : ns.length < 1000) :
    ∃ (x : Str) (y : Int) (a : D) (d' : D), (FU MM).call "_law_report" [.own d, .val (.int co), .own (.lst (ns.map D.str)), .own (.lst (ps.map D.str)), .val (.int h), .val (.int mask)] =
      .ok (.val (enD (.rp h x y a)), [.own d', .val (.int co), .own (.lst (ns.map D.str)), .own (.lst (ps.map D.str)), .val (.int h), .val (.int mask)]) ∧ sok x ∧ DS (n + 10) d' := by
  obtain ⟨x1, d1, e1, hx1, hd1⟩ := pickS (.inl rfl) hd (by omega) h0 h1
  have tail : ∀ (x : Str) (d : D), DS (n + 2) d → ∃ (y : Int) (a d' : D), exs (F17 MM) MM bRepT [some (.own true d), some (.val (.int co)), some (.own true (.lst (ns.map D.str))), some (.own true (.lst (ps.map D.str))), some (.val (.int h)), some (.val (.int mask)), some (.val (.str x)), none] =
      .ok (.rt (.val (enD (.rp h x y a))), [some (.own true d'), some (.val (.int co)), some (.own true (.lst (ns.map D.str))), some (.own true (.lst (ps.map D.str))), some (.val (.int h)), some (.val (.int mask)), some (.val (.str x)), some (.val (.int y))]) ∧ DS (n + 10) d' := fun x d hd => by
    obtain ⟨c, d2, e2, _, hd2⟩ := f__law_draw (m := co) hd (by omega) hc (by omega)
    have k5 : 5 ≤ sizeLine := by decide
    have k4 : 4 ≤ sizeLine := by decide
    have last : ∀ (z : Int) (d : D), DS (n + 6) d → ∃ (a d' : D), exs (F17 MM) MM (match bRepT with
        | .cons _ (.cons _ r) => r
        | r => r) [some (.own true d), some (.val (.int co)), some (.own true (.lst (ns.map D.str))), some (.own true (.lst (ps.map D.str))), some (.val (.int h)), some (.val (.int mask)), some (.val (.str x)), some (.val (.int z))] =
      .ok (.rt (.val (enD (.rp h x z a))), [some (.own true d'), some (.val (.int co)), some (.own true (.lst (ns.map D.str))), some (.own true (.lst (ps.map D.str))), some (.val (.int h)), some (.val (.int mask)), some (.val (.str x)), some (.val (.int z))]) ∧ DS (n + 10) d' := fun z d hd => by
      obtain ⟨p, d3, e3, _, hd3⟩ := f__law_draw (m := 120) hd (by omega) (by omega) (by omega)
      obtain ⟨q, d4, e4, hq, hd4⟩ := f__law_draw (m := 3) hd3 (by omega) (by omega) (by omega)
      have e5 := f__law_amount ((p : Int) - 30) (1 + (q : Int)) (by omega) (oC_big (by omega))
      refine ⟨am (Rat.divInt ((p : Int) - 30) (1 + (q : Int))), d4, ?_, hd4.mono (by omega)⟩
      simp [bRepT, b__law_report, e3, e4, e5, k5, enD]
    cases hm : decide (mask ∈ [(4 : Int), 5, 6, 7]) with
    | true =>
      have i4 := in4 (m := mask) (a := 4) (b := 5) (c := 6) (e := 7)
      rw [hm] at i4
      obtain ⟨z, d3, e3, hd3⟩ := strange_ok (m := co) hd2 (by omega)
      obtain ⟨a, d4, e4, hd4⟩ := last z d3 (hd3.mono (by omega))
      refine ⟨z, a, d4, ?_, hd4⟩
      rw [bRepT, b__law_report] at e4
      simp [bRepT, b__law_report, e2, i4, e3, k4, -dIn_tup] at e4 ⊢
      exact e4
    | false =>
      have i4 := in4 (m := mask) (a := 4) (b := 5) (c := 6) (e := 7)
      rw [hm] at i4
      obtain ⟨a, d4, e4, hd4⟩ := last c d2 (hd2.mono (by omega))
      refine ⟨c, a, d4, ?_, hd4⟩
      rw [bRepT, b__law_report] at e4
      simp [bRepT, b__law_report, e2, i4, k4, -dIn_tup] at e4 ⊢
      exact e4
  rw [run__law_report rfl]
  have k4 : 4 ≤ sizeLine := by decide
  have i2 := in4 (m := mask) (a := 2) (b := 3) (c := 6) (e := 7)
  by_cases hns : ns = []
  · subst hns
    obtain ⟨y, a, d3, e3, hd3⟩ := tail x1 d1 (hd1.mono (by omega))
    refine ⟨x1, y, a, d3, ?_, hs2 _ hx1, hd3⟩
    rw [bRepT, b__law_report] at e3
    simp only [List.map_nil] at e3 e1 ⊢
    simp [b__law_report, Dv.envOf, e1] at e3 ⊢
    simp [e3]
  · have hp : 0 < ns.length := List.length_pos_iff.mpr hns
    cases hm : decide (mask ∈ [(2 : Int), 3, 6, 7]) with
    | true =>
      rw [hm] at i2
      obtain ⟨y, a, d3, e3, hd3⟩ := tail x1 d1 (hd1.mono (by omega))
      refine ⟨x1, y, a, d3, ?_, hs2 _ hx1, hd3⟩
      rw [bRepT, b__law_report] at e3
      simp [b__law_report, Dv.envOf, e1, hp, i2, k4, -dIn_tup] at e3 ⊢
      simp [e3]
    | false =>
      rw [hm] at i2
      obtain ⟨x2, d2, e2, hx2, hd2⟩ := pickS (ps := ns) (.inl rfl) hd1 (by omega) hp h2
      obtain ⟨y, a, d3, e3, hd3⟩ := tail x2 d2 hd2
      refine ⟨x2, y, a, d3, ?_, hs1 _ hx2, hd3⟩
      rw [bRepT, b__law_report] at e3
      simp [b__law_report, Dv.envOf, e1, hp, i2, e2, k4, -dIn_tup] at e3 ⊢
      simp [e3]
end
end Wk16

set_option Elab.async false
set_option linter.all false
set_option maxRecDepth 100000
set_option maxHeartbeats 4000000
namespace Wk16
open PySem PySem.Spec PyProof.Rows L2 Dv
section
variable {n : Nat} {d : D}
def bEndT : Sxs := match b__law_endorse with
  | .cons _ (.cons _ r) => r
  | r => r
theorem endorse_ok {m h mask : Int} (hd : DS n d) (hn : n < 2 ^ 40) (hm : m < 100) :
    ∃ (s sh : Int) (ln d' : D), (FU MM).call "_law_endorse" [.own d, .val (.int m), .val (.int h), .val (.int mask)] = .ok (.val (enD (.en h s sh ln)), [.own d', .val (.int m), .val (.int h), .val (.int mask)]) ∧ DS (n + 100) d' := by
  obtain ⟨c, d1, e1, _, hd1⟩ := f__law_draw (m := if 1 < m then m else 1) hd (by omega) (by split <;> omega) (by split <;> omega)
  have k5 : 5 ≤ sizeLine := by decide
  have k4 : 4 ≤ sizeLine := by decide
  have tail : ∀ (z : Int) (d : D), DS (n + 10) d → ∃ (s : Int) (ln d' : D), exs (F18 MM) MM bEndT [some (.own true d), some (.val (.int m)), some (.val (.int h)), some (.val (.int mask)), some (.val (.int z)), none] =
      .ok (.rt (.val (enD (.en h s z ln))), [some (.own true d'), some (.val (.int m)), some (.val (.int h)), some (.val (.int mask)), some (.val (.int z)), some (.val (.int s))]) ∧ DS (n + 100) d' := fun z d hd => by
    obtain ⟨a, d2, e2, _, hd2⟩ := f__law_draw (m := 9) hd (by omega) (by omega) (by omega)
    obtain ⟨b, d3, e3, _, hd3⟩ := f__law_draw (m := 1001) hd2 (by omega) (by omega) (by omega)
    obtain ⟨r, d4, e4, hr, hd4⟩ := f__law_draw (m := 5) hd3 (by omega) (by omega) (by omega)
    obtain ⟨q, d5, e5, hq, hd5⟩ := f__law_draw (m := 3) hd4 (by omega) (by omega) (by omega)
    obtain ⟨ln, d6, e6, _, hd6⟩ := line_ok (many := q) hd5 (by omega) (by omega)
    obtain ⟨v, ev, _⟩ := at5 (a := 0) (b := h) (c := if 0 < h - (a : Int) then h - (a : Int) else 0) (x := 1000) (y := b) (r := r) (by omega)
    refine ⟨v, lnD ln, d6, ?_, hd6.mono (by omega)⟩
    simp [bEndT, b__law_endorse, e2, e3, e4, e5, e6, k5, enD] at ev ⊢
    simp [ev, e5, e6, k5]
  rw [run__law_endorse rfl]
  have i4 := in4 (m := mask) (a := 4) (b := 5) (c := 6) (e := 7)
  have fin : ∀ b : Bool, b = (decide (m = 0) || decide (mask ∈ [(4 : Int), 5, 6, 7])) → ∃ (s sh : Int) (ln d' : D), runDef (F18 MM) MM 6 b__law_endorse [.own d, .val (.int m), .val (.int h), .val (.int mask)] = .ok (.val (enD (.en h s sh ln)), [.own d', .val (.int m), .val (.int h), .val (.int mask)]) ∧ DS (n + 100) d' := fun b hb => by
    cases b with
    | true =>
      obtain ⟨z, d2, e2, hd2⟩ := strange_ok (m := m) hd1 (by omega)
      obtain ⟨s, ln, d3, e3, hd3⟩ := tail z d2 (hd2.mono (by omega))
      refine ⟨s, z, ln, d3, ?_, hd3⟩
      rw [bEndT, b__law_endorse] at e3
      by_cases h0 : m = 0
      · subst h0
        simp [b__law_endorse, Dv.envOf, e1, e2, -dIn_tup] at e1 e3 ⊢
        simp [e1, e2, e3]
      · rw [decide_eq_false h0, Bool.false_or] at hb
        rw [← hb] at i4
        simp [b__law_endorse, Dv.envOf, e1, e2, h0, i4, k4, -dIn_tup] at e3 ⊢
        simp [e3]
    | false =>
      obtain ⟨s, ln, d3, e3, hd3⟩ := tail c d1 (hd1.mono (by omega))
      refine ⟨s, c, ln, d3, ?_, hd3⟩
      rw [bEndT, b__law_endorse] at e3
      have h0 : ¬ m = 0 := fun h0 => by rw [decide_eq_true h0] at hb; cases hb
      rw [decide_eq_false h0, Bool.false_or] at hb
      rw [← hb] at i4
      simp [b__law_endorse, Dv.envOf, e1, h0, i4, k4, -dIn_tup] at e3 ⊢
      simp [e3]
  exact fin _ rfl
def bEvT : Sxs := match b__law_event with
  | .cons _ (.cons _ r) => r
  | r => r
theorem event_ok {h mask : Int} {ns ps : List Str} (hd : DS n d) (hn : n < 2 ^ 40) (h0 : 0 ≤ h) (h1 : h ≤ 1000) (hs1 : ∀ x ∈ ns, sok x) (hs2 : ∀ x ∈ ps, sok x) (hp0 : 0 < ps.length) (hp1 : ps.length < 1000) (hn1 : ns.length < 1000) :
    ∃ (x : Str) (s : Int) (k : Nat) (d' : D), (FU MM).call "_law_event" [.own d, .own (.lst (ns.map D.str)), .own (.lst (ps.map D.str)), .val (.int h), .val (.int mask)] =
      .ok (.val (enD (.ev h x s)), [.own d', .own (.lst (ns.map D.str)), .own (.lst ((ps.eraseIdx k).map D.str)), .val (.int h), .val (.int mask)]) ∧ sok x ∧ DS (n + 10) d' := by
  obtain ⟨k, hk, d1, e1, hd1⟩ := pop_ok hd (by omega) hp0 hp1
  have k5 : 5 ≤ sizeLine := by decide
  have k4 : 4 ≤ sizeLine := by decide
  have k3 : 3 ≤ sizeLine := by decide
  have tail : ∀ (x : Str) (d : D), DS (n + 2) d → ∃ (s : Int) (d' : D), exs (F20 MM) MM bEvT [some (.own true d), some (.own true (.lst (ns.map D.str))), some (.own true (.lst ((ps.eraseIdx k).map D.str))), some (.val (.int h)), some (.val (.int mask)), some (.val (.str x)), none] =
      .ok (.rt (.val (enD (.ev h x s))), [some (.own true d'), some (.own true (.lst (ns.map D.str))), some (.own true (.lst ((ps.eraseIdx k).map D.str))), some (.val (.int h)), some (.val (.int mask)), some (.val (.str x)), some (.val (.int s))]) ∧ DS (n + 10) d' := fun x d hd => by
    obtain ⟨a, d2, e2, _, hd2⟩ := f__law_draw (m := 9) hd (by omega) (by omega) (by omega)
    obtain ⟨b, d3, e3, _, hd3⟩ := f__law_draw (m := 1001) hd2 (by omega) (by omega) (by omega)
    obtain ⟨r, d4, e4, hr, hd4⟩ := f__law_draw (m := 5) hd3 (by omega) (by omega) (by omega)
    obtain ⟨v, ev, _⟩ := at5 (a := 0) (b := 0) (c := 1) (x := a) (y := b) (r := r) (by omega)
    have i2 := in4 (m := mask) (a := 2) (b := 3) (c := 6) (e := 7)
    cases hm : decide (mask ∈ [(2 : Int), 3, 6, 7]) with
    | false =>
      rw [hm] at i2
      refine ⟨if 0 < h - v then h - v else 0, d4, ?_, hd4.mono (by omega)⟩
      simp [bEvT, b__law_event, e2, e3, e4, k5, k4, enD, ev, i2, -dIn_tup]
    | true =>
      rw [hm] at i2
      by_cases hh : h < 1000
      · obtain ⟨t, d5, e5, ht, hd5⟩ := f__law_draw (m := 3) hd4 (by omega) (by omega) (by omega)
        obtain ⟨w, ew, hw⟩ := at3 (a := 1) (b := 5) (x := 900) (r := t) (by omega)
        obtain ⟨u, d6, e6, hu, hd6⟩ := f__law_draw (m := w) hd5 (by omega) (by omega) (by omega)
        refine ⟨if h + 1 + (u : Int) < 1000 then h + 1 + (u : Int) else 1000, d6, ?_, hd6.mono (by omega)⟩
        simp [bEvT, b__law_event, e2, e3, e4, e5, e6, k5, k4, k3, enD, ev, ew, i2, hh, -dIn_tup]
      · refine ⟨if 0 < h - v then h - v else 0, d4, ?_, hd4.mono (by omega)⟩
        simp [bEvT, b__law_event, e2, e3, e4, k5, k4, enD, ev, i2, hh, -dIn_tup]
  rw [run__law_event rfl]
  have i4 := in4 (m := mask) (a := 4) (b := 5) (c := 6) (e := 7)
  have go1 : sok ps[k] := hs2 _ (List.getElem_mem hk)
  cases hm : decide (mask ∈ [(4 : Int), 5, 6, 7]) with
  | false =>
    rw [hm] at i4
    obtain ⟨s, d3, e3, hd3⟩ := tail ps[k] d1 (hd1.mono (by omega))
    refine ⟨ps[k], s, k, d3, ?_, go1, hd3⟩
    rw [bEvT, b__law_event] at e3
    simp [b__law_event, Dv.envOf, e1, i4, k4, -dIn_tup] at e3 ⊢
    simp [e3]
  | true =>
    rw [hm] at i4
    by_cases hns : ns = []
    · subst hns
      obtain ⟨s, d3, e3, hd3⟩ := tail ps[k] d1 (hd1.mono (by omega))
      refine ⟨ps[k], s, k, d3, ?_, go1, hd3⟩
      rw [bEvT, b__law_event] at e3
      simp [b__law_event, Dv.envOf, e1, i4, k4, -dIn_tup] at e3 ⊢
      simp [e3]
    · have hp : 0 < ns.length := List.length_pos_iff.mpr hns
      obtain ⟨x, d2, e2, hx, hd2⟩ := pickS (ps := ns) (.inl rfl) hd1 (by omega) hp hn1
      obtain ⟨s, d3, e3, hd3⟩ := tail x d2 (hd2.mono (by omega))
      refine ⟨x, s, k, d3, ?_, hs1 x hx, hd3⟩
      rw [bEvT, b__law_event] at e3
      simp [b__law_event, Dv.envOf, e1, i4, k4, e2, hp, -dIn_tup] at e3 ⊢
      simp [e3]
end
end Wk16

set_option Elab.async false
set_option linter.all false
set_option maxRecDepth 100000
set_option maxHeartbeats 4000000
namespace Wk16
open PySem PySem.Spec PyProof.Rows L2 Dv
section
variable {n : Nat} {d : D}
def bEntT : Sxs := match b__law_entry with
  | .cons _ (.cons _ (.cons _ r)) => r
  | r => r
def bEntU : Sxs := match bEntT with
  | .cons _ (.cons _ r) => r
  | r => r
theorem evN_len {l : List En} : (evN l).length ≤ l.length := List.length_filterMap_le _ _
theorem last_bd {l : List En} (ho : JOk l) : 0 ≤ lastH l ∧ lastH l ≤ 1000 := by
  unfold lastH
  cases h : l.getLast? with
  | none => exact ⟨Int.le_refl _, by decide⟩
  | some e =>
    have := ho e (List.mem_of_getLast? h)
    exact ⟨this.1, this.2.1⟩
theorem entry_ok {co many kind mask : Int} {es bs : List En} {ps : List Str} {R : A} (hd : DS n d) (hn : n < 2 ^ 38) (hc : 0 < co) (hc2 : co < 100) (hm : many < 100) (he : JOk es) (hel : es.length < 1000) (hb : JOk bs) (hbl : bs.length < 1000) (hs : ∀ x ∈ ps, sok x) (hp0 : 0 < ps.length) (hp1 : ps.length < 1000) (hR : Lst R (es.map enD)) :
    ∃ (e : En) (ps' : List Str) (d' : D), (FU MM).call "_law_entry" [.own d, .val (.int co), .val (.int many), R, .own (J bs), .own (.lst (ps.map D.str)), .val (.int kind), .val (.int mask)] =
      .ok (.val (enD e), [.own d', .val (.int co), .val (.int many), R, .own (J bs), .own (.lst (ps'.map D.str)), .val (.int kind), .val (.int mask)]) ∧ e.Ok ∧ (∀ x ∈ ps', sok x) ∧ ps.length - 1 ≤ ps'.length ∧ ps'.length ≤ ps.length ∧ (kind ≠ 0 → ps' = ps) ∧ (kind = 0 → e.nm?.isSome = true) ∧ (kind ≠ 0 → e.nm?.isSome = false) ∧ DS (n + 130) d' := by
  obtain ⟨s, hs'⟩ : ∃ s : S, s = A.slot R := ⟨_, rfl⟩
  have env : Dv.envOf 12 [.own d, .val (.int co), .val (.int many), R, .own (J bs), .own (.lst (ps.map D.str)), .val (.int kind), .val (.int mask)] = [some (.own true d), some (.val (.int co)), some (.val (.int many)), some s, some (.own true (J bs)), some (.own true (.lst (ps.map D.str))), some (.val (.int kind)), some (.val (.int mask)), none, none, none, none] := by rw [hs']; rfl
  have out : outArg R (some (some s)) = .ok R := by
    subst hs'
    rcases hR with rfl | rfl <;> simp [A.slot]
  have e1 := names_ok hel hR
  have n1 := names_sok he
  have hnl := evN_len (l := es)
  have lb := last_bd he
  have head : exs (F22 MM) MM b__law_entry [some (.own true d), some (.val (.int co)), some (.val (.int many)), some s, some (.own true (J bs)), some (.own true (.lst (ps.map D.str))), some (.val (.int kind)), some (.val (.int mask)), none, none, none, none] =
      exs (F22 MM) MM bEntT [some (.own true d), some (.val (.int co)), some (.val (.int many)), some s, some (.own true (J bs)), some (.own true (.lst (ps.map D.str))), some (.val (.int kind)), some (.val (.int mask)), some (.own false (.lst ((evN es).map D.str))), some (.val (.int (lastH es))), none, none] := by
    by_cases hes : es = []
    · subst hes
      subst hs'
      rcases hR with rfl | rfl <;> simp [b__law_entry, bEntT, A.slot, lastH] at e1 ⊢ <;> simp [e1]
    · obtain ⟨z, z1, z2, z3, z4⟩ := last_at hes
      have hp : 0 < es.length := List.length_pos_iff.mpr hes
      have hz : lastH es = z.h := by unfold lastH; rw [z1]
      subst hs'
      rcases hR with rfl | rfl <;> simp [b__law_entry, bEntT, A.slot, e1, hp, z3, hz]
  obtain ⟨h1, d1, e2, h10, h11, hd1⟩ := heard_ok hd (by omega) lb.1 lb.2
  have mid : ∃ (h : Int) (d' : D), exs (F22 MM) MM bEntT [some (.own true d), some (.val (.int co)), some (.val (.int many)), some s, some (.own true (J bs)), some (.own true (.lst (ps.map D.str))), some (.val (.int kind)), some (.val (.int mask)), some (.own false (.lst ((evN es).map D.str))), some (.val (.int (lastH es))), none, none] =
      exs (F22 MM) MM bEntU [some (.own true d'), some (.val (.int co)), some (.val (.int many)), some s, some (.own true (J bs)), some (.own true (.lst (ps.map D.str))), some (.val (.int kind)), some (.val (.int mask)), some (.own false (.lst ((evN es).map D.str))), some (.val (.int (lastH es))), some (.val (.int h)), none] ∧ 0 ≤ h ∧ h ≤ 1000 ∧ DS (n + 6) d' := by
    have i1 := in4 (m := mask) (a := 1) (b := 3) (c := 5) (e := 7)
    have k4 : 4 ≤ sizeLine := by decide
    have k2 : 2 ≤ sizeLine := by decide
    cases hmk : decide (mask ∈ [(1 : Int), 3, 5, 7]) with
    | false =>
      rw [hmk] at i1
      exact ⟨h1, d1, by simp [bEntT, bEntU, b__law_entry, e2, k4, i1, -dIn_tup], h10, h11, hd1.mono (by omega)⟩
    | true =>
      rw [hmk] at i1
      by_cases hl : 0 < lastH es
      · obtain ⟨r, d2, e3, hr, hd2⟩ := f__law_draw (m := 2) hd1 (by omega) (by omega) (by omega)
        obtain ⟨v, ev, hv⟩ := at2 (a := 1) (b := lastH es) (r := r) (by omega)
        obtain ⟨u, d3, e4, hu, hd3⟩ := f__law_draw (m := v) hd2 (by omega) (by omega) (by omega)
        exact ⟨lastH es - 1 - u, d3, by simp [bEntT, bEntU, b__law_entry, e2, e3, e4, k4, k2, i1, hl, ev, -dIn_tup], by omega, by omega, hd3.mono (by omega)⟩
      · exact ⟨h1, d1, by simp [bEntT, bEntU, b__law_entry, e2, k4, i1, hl, -dIn_tup], h10, h11, hd1.mono (by omega)⟩
  obtain ⟨h, d2, e3, h0, hh, hd2⟩ := mid
  rw [run__law_entry rfl, runDef_d, env, head, e3]
  by_cases c0 : kind = 0
  · subst c0
    obtain ⟨x, sn, k, d3, e4, hx, hd3⟩ := event_ok (mask := mask) hd2 (by omega) h0 hh n1 hs hp0 hp1 (by omega)
    refine ⟨.ev h x sn, ps.eraseIdx k, d3, ?_, ⟨h0, hh, hx⟩, fun y hy => hs y (List.mem_of_mem_eraseIdx hy), ?_, List.length_eraseIdx_le _ _, fun q => absurd rfl q, fun _ => rfl, fun q => absurd rfl q, hd3.mono (by omega)⟩
    · simp [bEntU, bEntT, b__law_entry, e4, out]
    · rw [List.length_eraseIdx]
      split <;> omega
  · by_cases c1 : kind = 1
    · subst c1
      obtain ⟨sn, sh, ln, d3, e4, hd3⟩ := endorse_ok (m := many) (h := h) (mask := mask) hd2 (by omega) hm
      exact ⟨.en h sn sh ln, ps, d3, by simp [bEntU, bEntT, b__law_entry, e4, out], ⟨h0, hh, trivial⟩, hs, by omega, by omega, fun _ => rfl, fun q => absurd q c0, fun _ => rfl, hd3.mono (by omega)⟩
    · have e5 := names_ok hbl (.inl rfl : Lst (.own (J bs)) _)
      have n5 := names_sok hb
      have hnb := evN_len (l := bs)
      by_cases hz : evN bs = []
      · obtain ⟨x, y, a, d3, e6, hx, hd3⟩ := report_ok (co := co) (h := h) (mask := mask) hd2 (by omega) hc hc2 n1 hs hp0 hp1 (by omega)
        refine ⟨.rp h x y a, ps, d3, ?_, ⟨h0, hh, hx⟩, hs, by omega, by omega, fun _ => rfl, fun q => absurd q c0, fun _ => rfl, hd3.mono (by omega)⟩
        rw [hz] at e5
        simp [bEntU, bEntT, b__law_entry, c0, c1, e5, e6, out]
      · have hp5 : 0 < (evN bs).length := List.length_pos_iff.mpr hz
        obtain ⟨r, d3, e7, hr, hd3⟩ := f__law_draw (m := 2) hd2 (by omega) (by omega) (by omega)
        by_cases hr0 : r = 0
        · subst hr0
          obtain ⟨x, y, a, d4, e6, hx, hd4⟩ := report_ok (co := co) (h := h) (mask := mask) hd3 (by omega) hc hc2 n1 hs hp0 hp1 (by omega)
          refine ⟨.rp h x y a, ps, d4, ?_, ⟨h0, hh, hx⟩, hs, by omega, by omega, fun _ => rfl, fun q => absurd q c0, fun _ => rfl, hd4.mono (by omega)⟩
          simp [bEntU, bEntT, b__law_entry, c0, c1, e5, hz, e7, e6, out]
        · obtain ⟨x, y, a, d4, e6, hx, hd4⟩ := report_ok (co := co) (h := h) (mask := mask) hd3 (by omega) hc hc2 n1 n5 hp5 (by omega) (by omega)
          refine ⟨.rp h x y a, ps, d4, ?_, ⟨h0, hh, hx⟩, hs, by omega, by omega, fun _ => rfl, fun q => absurd q c0, fun _ => rfl, hd4.mono (by omega)⟩
          simp [bEntU, bEntT, b__law_entry, c0, c1, e5, hz, e7, hr0, e6, out]
end
end Wk16

set_option Elab.async false
set_option linter.all false
set_option maxRecDepth 100000
set_option maxHeartbeats 4000000
namespace Wk16
open PySem PySem.Spec PyProof.Rows L2 Dv
section
variable {n : Nat} {d : D}
theorem shields_ok {co : Int} {many : Nat} (hd : DS n d) (hn : n < 2 ^ 38) (hm : many ≤ 6) (hc : many = 0 ∨ 2 ≤ co) (hc2 : co < 100) :
    ∃ (sl : List D) (d' : D), (FU MM).call "_law_shields" [.own d, .val (.int co), .val (.int (many : Nat))] = .ok (.val (.tup sl), [.own d', .val (.int co), .val (.int (many : Nat))]) ∧ sl.length = many ∧ DS (n + 2000) d' := by
  obtain ⟨pl, d1, e1, hp, hd1⟩ := f__law_shuffled (row := poolL.map D.str) (.inl rfl) hd (by omega) (by rw [List.length_map, pool_len]; omega)
  have hpl : pl.length = 70 := by rw [hp.length_eq, List.length_map, pool_len]
  rw [List.length_map, pool_len] at hd1
  have e0 := pool_ok
  obtain ⟨ρ', ⟨sl, d2, o5, o6, o7, o8, o9, rfl, hsl, hd2, _⟩, e⟩ := for_rng (F := F12 MM) (N := MM) (S := S__law_shields_0) rfl (m := many) (ρ := [some (.own true d1), some (.val (.int co)), some (.val (.int (many : Nat))), some (.own false (.lst pl)), some (.own false (.lst [])), none, none, none, none, none])
    (ρ1 := [some (.own true d1), some (.val (.int co)), some (.val (.int (many : Nat))), some (.own false (.lst pl)), some (.own false (.lst [])), none, none, none, none, none])
    (fun i ρ => ∃ (sl : List D) (d' : D) (o5 o6 o7 o8 o9 : Option S), ρ = [some (.own true d'), some (.val (.int co)), some (.val (.int (many : Nat))), some (.own false (.lst pl)), some (.own false (.lst sl)), o5, o6, o7, o8, o9] ∧ sl.length = i ∧ DS (n + 70 + 200 * i) d' ∧ gFree (some o5) = true ∧ gFree (some o6) = true ∧ gFree (some o7) = true ∧ gFree (some o8) = true)
    (evi_rng (by simp) (by omega)) ⟨[], d1, none, none, none, none, none, rfl, rfl, hd1, rfl, rfl, rfl, rfl⟩
    (fun i ρ hi ⟨sl, d', o5, o6, o7, o8, o9, e, hsl, hd', g5, g6, g7, g8⟩ => by
      subst e
      have hc' : 2 ≤ co := by omega
      obtain ⟨r, d3, e3, hr, hd3⟩ := f__law_draw (m := co) hd' (by omega) (by omega) (by omega)
      obtain ⟨q, d4, e4, hq, hd4⟩ := f__law_draw (m := co - 1) hd3 (by omega) (by omega) (by omega)
      obtain ⟨zs, d5, e5, hz1, _, hd5⟩ := comp_drE (F := F12 MM) (elt := E__law_shields_1) (tg := .nm 9) (it := .rng (.cst (.int 3))) (ifs := .none) (own := [9]) (xs := List.range 3) (f := fun k => D.int (k : Nat)) (h := lnD) (Q := fun _ _ => True) (p := .val .non)
        (ρ := [some (.own true d4), some (.val (.int co)), some (.val (.int (many : Nat))), some (.own false (.lst pl)), some (.own false (.lst sl)), some (.val (.int (i : Nat))), some (.val (.int (r : Nat))), some (.val (.int (((r : Int) + 1 + q).fmod co))), o8, o9])
        (ρ1 := [some (.own true d4), some (.val (.int co)), some (.val (.int (many : Nat))), some (.own false (.lst pl)), some (.own false (.lst sl)), some (.val (.int (i : Nat))), some (.val (.int (r : Nat))), some (.val (.int (((r : Int) + 1 + q).fmod co))), o8, o9])
        (E := fun d => [some (.own true d), some (.val (.int co)), some (.val (.int (many : Nat))), some (.own false (.lst pl)), some (.own false (.lst sl)), some (.val (.int (i : Nat))), some (.val (.int (r : Nat))), some (.val (.int (((r : Int) + 1 + q).fmod co))), o8, none])
        (E' := fun d => [some (.own true d), some (.val (.int co)), some (.val (.int (many : Nat))), some (.own false (.lst pl)), some (.own false (.lst sl)), some (.val (.int (i : Nat))), some (.val (.int (r : Nat))), some (.val (.int (((r : Int) + 1 + q).fmod co))), o8, o9])
        61 (evi_rng (by simp) (by omega)) (by simp) (len_lt (by simp)) hd4 (fun k x d _ hd => by
          have hk : k < 3 := by
            have := (List.getElem?_eq_some_iff.mp (by assumption : (List.range 3)[k]? = some x)).1
            simpa using this
          obtain ⟨a, d6, e6, ha, hd6⟩ := f__law_draw (m := 4) hd (by omega) (by omega) (by omega)
          obtain ⟨ln, d7, e7, _, hd7⟩ := line_ok (many := a) hd6 (by omega) (by omega)
          exact ⟨ln, d7, by simp [turnW, turnR, E__law_shields_1, e6, e7], trivial, hd7.mono (by omega)⟩) (fun d out => by simp [compEnd])
      rw [List.length_range] at hz1
      obtain ⟨z0, z1, z2, rfl⟩ : ∃ a b c, zs = [a, b, c] := by
        match zs, hz1 with
        | [a, b, c], _ => exact ⟨a, b, c, rfl⟩
      rw [List.length_range] at hd5
      obtain ⟨t, d6, e6, ht, hd6⟩ := f__law_draw (m := 20) hd5 (by omega) (by omega) (by omega)
      have hz : sl.length < sizeLine := len_lt (by omega)
      have k8 : 8 ≤ sizeLine := by decide
      have hp3 : atI pl (i : Int) = some pl[i] := by rw [atI_nat (by omega) (by omega)]; simp
      have hco : ¬ co = 0 := by omega
      have hco2 : 0 < co := by omega
      refine ⟨[some (.own true d6), some (.val (.int co)), some (.val (.int (many : Nat))), some (.own false (.lst pl)), some (.own false (.lst (sl ++ [.tup [.str "shield", pl[i], .int (r : Nat), .int (((r : Int) + 1 + q).fmod co), lnD z0, lnD z1, lnD z2, .int (t : Nat)]]))), some (.val (.int (i : Nat))), some (.val (.int (r : Nat))), some (.val (.int (((r : Int) + 1 + q).fmod co))), some (.own false (.lst [lnD z0, lnD z1, lnD z2])), o9], .inl ?_, sl ++ [.tup [.str "shield", pl[i], .int (r : Nat), .int (((r : Int) + 1 + q).fmod co), lnD z0, lnD z1, lnD z2, .int (t : Nat)]], d6, _, _, _, _, _, rfl, by simp [hsl], hd6.mono (by omega), rfl, rfl, rfl, rfl⟩
      change ev (F12 MM) C__law_shields_1 _ = _ at e5
      simp [turnX, B__law_shields_0, g5, g6, g7, g8, e3, e4, hco, hco2, e5, e6, k8, hp3, hz])
  refine ⟨sl, d2, ?_, hsl, hd2.mono (by omega)⟩
  rw [run__law_shields rfl]
  simp [b__law_shields, Dv.envOf, e0, e1, e]
end
end Wk16

set_option Elab.async false
set_option linter.all false
set_option maxRecDepth 100000
set_option maxHeartbeats 4000000
namespace Wk16
open PySem PySem.Spec PyProof.Rows L2 Dv
section
variable {n : Nat} {d : D}
def bBasU : Sxs := match B__law_base_0 with
  | .cons _ (.cons _ (.cons _ (.cons _ (.cons _ r)))) => r
  | r => r
theorem evN_app {l : List En} {e : En} : evN (l ++ [e]) = evN l ++ e.nm?.toList := by
  unfold evN
  rw [List.filterMap_append]
  cases h : e.nm? <;> simp [h]
theorem JOk.snoc {l : List En} {e : En} (h : JOk l) (he : e.Ok) : JOk (l ++ [e]) := fun x hx => by
  rcases List.mem_append.mp hx with h1 | h1
  · exact h x h1
  · simp at h1; subst h1; exact he
theorem base_loop {co many : Int} {size most : Nat} {ks : List Int} (hd : DS n d) (hn : n < 2 ^ 36) (hc : 0 < co) (hc2 : co < 100) (hm : many < 100) (hs : size ≤ 62) (h0 : 0 < most) (h14 : most ≤ 14) (hk : ∀ x ∈ ks, x = 0 ∨ x = 1 ∨ x = 2) (hk0 : 0 < ks.length) (hk1 : ks.length < 100) :
    ∃ (es : List En) (d' : D) (ps : List Str) (o8 o9 o10 : Option S), Dv.ex (F23 MM) MM S__law_base_0 [some (.own true d), some (.val (.int co)), some (.val (.int many)), some (.own true (.lst (poolL.map D.str))), some (.val (.int (size : Nat))), some (.val (.int (most : Nat))), some (.own false (.lst (ks.map D.int))), some (.own false (.lst [])), none, none, none] =
      .ok (.nx, [some (.own true d'), some (.val (.int co)), some (.val (.int many)), some (.own true (.lst (ps.map D.str))), some (.val (.int (size : Nat))), some (.val (.int (most : Nat))), some (.own false (.lst (ks.map D.int))), some (.own false (J es)), o8, o9, o10]) ∧ JOk es ∧ es.length = size ∧ (∀ x ∈ ps, sok x) ∧ 50 ≤ ps.length ∧ ps.length ≤ 70 ∧ DS (n + 200 * size) d' := by
  obtain ⟨ρ', ⟨es, d', ps, o8, o9, o10, rfl, h1, h2, h3, h4, h5, h6, h7, _⟩, e⟩ := for_rng (F := F23 MM) (N := MM) (S := S__law_base_0) rfl (m := size) (ρ := [some (.own true d), some (.val (.int co)), some (.val (.int many)), some (.own true (.lst (poolL.map D.str))), some (.val (.int (size : Nat))), some (.val (.int (most : Nat))), some (.own false (.lst (ks.map D.int))), some (.own false (.lst [])), none, none, none])
    (ρ1 := [some (.own true d), some (.val (.int co)), some (.val (.int many)), some (.own true (.lst (poolL.map D.str))), some (.val (.int (size : Nat))), some (.val (.int (most : Nat))), some (.own false (.lst (ks.map D.int))), some (.own false (.lst [])), none, none, none])
    (fun i ρ => ∃ (es : List En) (d' : D) (ps : List Str) (o8 o9 o10 : Option S), ρ = [some (.own true d'), some (.val (.int co)), some (.val (.int many)), some (.own true (.lst (ps.map D.str))), some (.val (.int (size : Nat))), some (.val (.int (most : Nat))), some (.own false (.lst (ks.map D.int))), some (.own false (J es)), o8, o9, o10] ∧ JOk es ∧ es.length = i ∧ (∀ x ∈ ps, sok x) ∧ (evN es).length ≤ most ∧ 70 ≤ ps.length + (evN es).length ∧ ps.length ≤ 70 ∧ DS (n + 200 * i) d' ∧ gFree (some o8) = true ∧ gFree (some o9) = true ∧ gFree (some o10) = true)
    (evi_rng (by simp) (by omega)) ⟨[], d, poolL, none, none, none, rfl, fun e h => (List.not_mem_nil h).elim, rfl, pool_sok, Nat.zero_le _, by rw [pool_len]; exact Nat.le_refl _, by rw [pool_len]; exact Nat.le_refl _, hd, rfl, rfl, rfl⟩
    (fun i ρ hi ⟨es, d', ps, o8, o9, o10, e, h1, h2, h3, h4, h5, h6, h7, g8, g9, g10⟩ => by
      subst e
      obtain ⟨x, d1, e1, hx, hd1⟩ := f__law_pick (row := ks.map D.int) (.inl rfl) h7 (by omega) (by rw [List.length_map]; exact hk0) (by rw [List.length_map]; omega)
      obtain ⟨v, hv, rfl⟩ := List.mem_map.mp hx
      have e2 := names_ok (l := es) (by omega) (.inl rfl : Lst (.own (J es)) _)
      have hz : es.length < sizeLine := len_lt (by omega)
      obtain ⟨c, hcl⟩ : ∃ c, (evN es).length = c := ⟨_, rfl⟩
      have hmz : ¬ most = 0 := by omega
      have head : ∃ v3 : Int, turnX (F23 MM) MM (.nm 8) B__law_base_0 (.int (i : Nat)) [some (.own true d'), some (.val (.int co)), some (.val (.int many)), some (.own true (.lst (ps.map D.str))), some (.val (.int (size : Nat))), some (.val (.int (most : Nat))), some (.own false (.lst (ks.map D.int))), some (.own false (J es)), o8, o9, o10] =
          exs (F23 MM) MM bBasU [some (.own true d1), some (.val (.int co)), some (.val (.int many)), some (.own true (.lst (ps.map D.str))), some (.val (.int (size : Nat))), some (.val (.int (most : Nat))), some (.own false (.lst (ks.map D.int))), some (.own false (J es)), some (.val (.int (i : Nat))), some (.val (.int v3)), some (.val (.int (c : Nat)))] ∧ (v3 = 0 → c < most) := by
        rcases hk v hv with rfl | rfl | rfl
        · by_cases hcm : c = most
          · exact ⟨2, by simp [turnX, B__law_base_0, bBasU, g8, g9, g10, e1, e2, hcl, hcm, hmz], fun q => by omega⟩
          · have : ¬ ((c : Int) = (most : Int)) := by omega
            exact ⟨0, by simp [turnX, B__law_base_0, bBasU, g8, g9, g10, e1, e2, hcl, this], fun q => by omega⟩
        · by_cases hm0 : many = 0
          · by_cases hc0 : c = 0
            · subst hc0
              exact ⟨0, by simp [turnX, B__law_base_0, bBasU, g8, g9, g10, e1, e2, hcl, hm0], fun q => by omega⟩
            · exact ⟨2, by simp [turnX, B__law_base_0, bBasU, g8, g9, g10, e1, e2, hcl, hm0, hc0], fun q => by omega⟩
          · exact ⟨1, by simp [turnX, B__law_base_0, bBasU, g8, g9, g10, e1, e2, hcl, hm0], fun q => by omega⟩
        · by_cases hc0 : c = 0
          · subst hc0
            exact ⟨0, by simp [turnX, B__law_base_0, bBasU, g8, g9, g10, e1, e2, hcl], fun q => by omega⟩
          · exact ⟨2, by simp [turnX, B__law_base_0, bBasU, g8, g9, g10, e1, e2, hcl, hc0], fun q => by omega⟩
      obtain ⟨v3, e3, hv3⟩ := head
      obtain ⟨e, ps', d2, e4, he, hs', hl1, hl2, hne, hev, hnev, hd2⟩ := entry_ok (co := co) (many := many) (kind := v3) (mask := 0) (es := es) (bs := []) (ps := ps) (R := .own (J es)) hd1 (by omega) hc hc2 hm h1 (by omega) (fun e h => (List.not_mem_nil h).elim) (by simp) h3 (by omega) (by omega) (.inl rfl)
      have hap := congrArg List.length (evN_app (l := es) (e := e))
      rw [List.length_append] at hap
      have hnm : (v3 = 0 → e.nm?.toList.length = 1) ∧ (v3 ≠ 0 → e.nm?.toList.length = 0) := by
        constructor
        · intro q
          have := hev q
          cases h : e.nm? with
          | none => rw [h] at this; cases this
          | some x => rfl
        · intro q
          have := hnev q
          cases h : e.nm? with
          | none => rfl
          | some x => rw [h] at this; cases this
      have jn : J [] = .lst [] := rfl
      rw [jn] at e4
      refine ⟨[some (.own true d2), some (.val (.int co)), some (.val (.int many)), some (.own true (.lst (ps'.map D.str))), some (.val (.int (size : Nat))), some (.val (.int (most : Nat))), some (.own false (.lst (ks.map D.int))), some (.own false (J (es ++ [e]))), some (.val (.int (i : Nat))), some (.val (.int v3)), some (.val (.int (c : Nat)))], .inl ?_, es ++ [e], d2, ps', _, _, _, rfl, h1.snoc he, by simp [h2], hs', ?_, ?_, by omega, hd2.mono (by omega), rfl, rfl, rfl⟩
      · rw [e3]
        simp [bBasU, B__law_base_0, e4, hz, J] at e4 ⊢
      · by_cases hv0 : v3 = 0
        · have := hnm.1 hv0
          have := hv3 hv0
          omega
        · have := hnm.2 hv0
          omega
      · by_cases hv0 : v3 = 0
        · have := hnm.1 hv0
          omega
        · have := hnm.2 hv0
          have := congrArg List.length (hne hv0)
          omega)
  exact ⟨es, d', ps, o8, o9, o10, e, h1, h2, h3, by omega, h6, h7⟩
theorem base_ok {co many : Int} (hd : DS n d) (hn : n < 2 ^ 35) (hc : 0 < co) (hc2 : co < 100) (hm : many < 100) :
    ∃ (es : List En) (d' : D) (ps : List Str), (FU MM).call "_law_base" [.own d, .val (.int co), .val (.int many), .own (.lst (poolL.map D.str))] =
      .ok (.own (J es), [.own d', .val (.int co), .val (.int many), .own (.lst (ps.map D.str))]) ∧ JOk es ∧ es.length ≤ 62 ∧ (∀ x ∈ ps, sok x) ∧ 50 ≤ ps.length ∧ ps.length ≤ 70 ∧ DS (n + 20000) d' := by
  obtain ⟨r, d1, e1, hr, hd1⟩ := f__law_draw (m := 12) hd (by omega) (by omega) (by omega)
  obtain ⟨b, d2, e2, hd2⟩ := f__law_rare (m := 14) hd1 (by omega) (by omega) (by omega)
  have k6 : 6 ≤ sizeLine := by decide
  have k6' : 6 < sizeLine := by decide
  cases b with
  | true =>
    obtain ⟨q, d3, e3, hq, hd3⟩ := f__law_draw (m := 6) hd2 (by omega) (by omega) (by omega)
    obtain ⟨es, d', ps, o8, o9, o10, e, h1, h2, h3, h4, h5, h6⟩ := base_loop (co := co) (many := many) (size := 57 + q) (most := 12) (ks := [0, 0, 1, 2, 2, 2]) hd3 (by omega) hc hc2 hm (by omega) (by omega) (by omega) (by decide) (by decide) (by decide)
    refine ⟨es, d', ps, ?_, h1, by omega, h3, h4, h5, h6.mono (by omega)⟩
    rw [run__law_base rfl]
    simp [b__law_base, Dv.envOf, e1, e2, e3, k6, k6'] at e ⊢
    simp [e]
  | false =>
    obtain ⟨c, d3, e3, hd3⟩ := f__law_rare (m := 10) hd2 (by omega) (by omega) (by omega)
    cases c with
    | true =>
      obtain ⟨q, d4, e4, hq, hd4⟩ := f__law_draw (m := 5) hd3 (by omega) (by omega) (by omega)
      obtain ⟨es, d', ps, o8, o9, o10, e, h1, h2, h3, h4, h5, h6⟩ := base_loop (co := co) (many := many) (size := 11 + q) (most := 14) (ks := [0, 0, 0, 0, 0, 2]) hd4 (by omega) hc hc2 hm (by omega) (by omega) (by omega) (by decide) (by decide) (by decide)
      refine ⟨es, d', ps, ?_, h1, by omega, h3, h4, h5, h6.mono (by omega)⟩
      rw [run__law_base rfl]
      simp [b__law_base, Dv.envOf, e1, e2, e3, e4, k6, k6'] at e ⊢
      simp [e]
    | false =>
      obtain ⟨es, d', ps, o8, o9, o10, e, h1, h2, h3, h4, h5, h6⟩ := base_loop (co := co) (many := many) (size := r) (most := 12) (ks := [0, 0, 1, 2, 2, 2]) hd3 (by omega) hc hc2 hm (by omega) (by omega) (by omega) (by decide) (by decide) (by decide)
      refine ⟨es, d', ps, ?_, h1, by omega, h3, h4, h5, h6.mono (by omega)⟩
      rw [run__law_base rfl]
      simp [b__law_base, Dv.envOf, e1, e2, e3, k6, k6'] at e ⊢
      simp [e]
end
end Wk16

set_option Elab.async false
set_option linter.all false
set_option maxRecDepth 100000
set_option maxHeartbeats 4000000
namespace Wk16
open PySem PySem.Spec PyProof.Rows L2 Dv
theorem slT {l : List D} {k : Nat} : dSlc (.tup l) none (some (k : Int)) = .ok (.val (.tup (l.take k))) := by
  show Rs.ok (P.val (.tup ((l.drop (HT.sIx l.length 0 none)).take (HT.sIx l.length l.length (some (k : Int)) - HT.sIx l.length 0 none)))) = _
  rw [HT.sIx_nat]
  show Rs.ok (P.val (.tup ((l.drop 0).take (min k l.length - 0)))) = _
  rw [List.drop_zero, Nat.sub_zero]
  congr 3
  by_cases h : k ≤ l.length
  · rw [Nat.min_eq_left h]
  · rw [Nat.min_eq_right (by omega), List.take_of_length_le (Nat.le_refl _), List.take_of_length_le (by omega)]
section
variable {n : Nat} {ns : List Int} {co : Int} {many : Nat} {sl : List D} {es ks : List En} {s7 : S} {due : D}
theorem l1_O {d : D} {ps : List Str} {kd : Nat} {o10 p11 o12 p13 o14 o15 : Option S} (hd : DS n d) (hn : n < 2 ^ 36) (hc : 0 < co) (hc2 : co ≤ 8) (hm : many ≤ 6) (hsl : sl.length = many) (ho : JOk es) (hel : es.length ≤ 62) (ho7 : JOk ks) (h7 : ks.length ≤ 62) (hp : ∀ x ∈ ps, sok x) (hp0 : 20 ≤ ps.length) (hp1 : ps.length ≤ 70) (g11 : gFree (some p11) = true) (g13 : gFree (some p13) = true) :
    ∃ (d' : D) (ps' : List Str) (o11 o13 : Option S), Dv.ex (F41 MM) MM S_law_1 [some (.val (.scr ns)), some (.own false d), some (.val (.int co)), some (.val (.int (many : Nat))), some (.val (.tup sl)), some (.own false (.lst (ps.map D.str))), some (.val (J es)), some (.own false (J ks)), some (.val due), some (.val (.int (kd : Nat))), o10, p11, o12, p13, o14, o15] = .ok (.nx, [some (.val (.scr ns)), some (.own false d'), some (.val (.int co)), some (.val (.int (many : Nat))), some (.val (.tup sl)), some (.own false (.lst (ps'.map D.str))), some (.val (J es)), some (.own false (J ks)), some (.val due), some (.val (.int (kd : Nat))), o10, o11, o12, o13, o14, o15]) ∧ (∀ x ∈ ps', sok x) ∧ ps.length - 4 ≤ ps'.length ∧ ps'.length ≤ ps.length ∧ DS (n + 600) d' ∧ gFree (some o11) = true ∧ gFree (some o13) = true := by
  obtain ⟨ρ', ⟨d', ps', o11, o13, rfl, h1, h2, h3, h4, g1, g2⟩, e⟩ := for_val (F := F41 MM) (N := MM) (S := S_law_1) rfl (d := .tup [.int 0, .int 1, .int 2, .int 4]) (xs := [(0 : Int), 1, 2, 4]) (f := D.int)
    (ρ := [some (.val (.scr ns)), some (.own false d), some (.val (.int co)), some (.val (.int (many : Nat))), some (.val (.tup sl)), some (.own false (.lst (ps.map D.str))), some (.val (J es)), some (.own false (J ks)), some (.val due), some (.val (.int (kd : Nat))), o10, p11, o12, p13, o14, o15])
    (ρ1 := [some (.val (.scr ns)), some (.own false d), some (.val (.int co)), some (.val (.int (many : Nat))), some (.val (.tup sl)), some (.own false (.lst (ps.map D.str))), some (.val (J es)), some (.own false (J ks)), some (.val due), some (.val (.int (kd : Nat))), o10, p11, o12, p13, o14, o15])
    (fun i ρ => ∃ (d' : D) (ps' : List Str) (o11 o13 : Option S), ρ = [some (.val (.scr ns)), some (.own false d'), some (.val (.int co)), some (.val (.int (many : Nat))), some (.val (.tup sl)), some (.own false (.lst (ps'.map D.str))), some (.val (J es)), some (.own false (J ks)), some (.val due), some (.val (.int (kd : Nat))), o10, o11, o12, o13, o14, o15] ∧ (∀ x ∈ ps', sok x) ∧ ps.length - i ≤ ps'.length ∧ ps'.length ≤ ps.length ∧ DS (n + 150 * i) d' ∧ gFree (some o11) = true ∧ gFree (some o13) = true)
    (by
      have k4 : 4 ≤ sizeLine := by decide
      simp [k4]) ⟨d, ps, p11, p13, rfl, hp, by omega, by omega, hd, g11, g13⟩
    (fun i m ρ hx ⟨d', ps', o11, o13, e, h1, h2, h3, h4, g1, g2⟩ => by
      subst e
      have hi : i < 4 := (List.getElem?_eq_some_iff.mp hx).1
      obtain ⟨e, ps2, d2, e4, he, hs', hl1, hl2, _, _, _, hd2⟩ := entry_ok (co := co) (many := many) (kind := kd) (mask := m) (es := ks) (bs := []) (ps := ps') (R := .own (J ks)) h4 (by omega) hc (by omega) (by omega) ho7 (by omega) (fun e h => (List.not_mem_nil h).elim) (by simp) h1 (by omega) (by omega) (.inl rfl)
      have e5 := right_ok (co := co) (sl := sl) (l := ks ++ [e]) (R := .own (J (ks ++ [e]))) (by rw [List.length_append]; show ks.length + 1 < 1000; omega) (ho7.snoc he) (.inl rfl)
      have hz : ks.length + 1 ≤ sizeLine := Nat.le_of_lt (len_lt (by omega))
      have k1 : 1 ≤ sizeLine := by decide
      have jn : J [] = .lst [] := rfl
      rw [jn] at e4
      refine ⟨[some (.val (.scr ns)), some (.own false d2), some (.val (.int co)), some (.val (.int (many : Nat))), some (.val (.tup sl)), some (.own false (.lst (ps2.map D.str))), some (.val (J es)), some (.own false (J ks)), some (.val due), some (.val (.int (kd : Nat))), o10, some (.val (.int m)), o12, some (.val (enD e)), o14, o15], .inl ?_, d2, ps2, _, _, rfl, hs', by omega, by omega, hd2.mono (by omega), rfl, rfl⟩
      simp [turnX, B_law_1, g1, g2, J, hz, k1] at e4 e5 ⊢
      simp [e4, e5, g1, g2, hz, k1])
  exact ⟨d', ps', o11, o13, e, h1, h2, h3, h4, g1, g2⟩
theorem l0_O {d : D} {ps : List Str} {o10 o12 o14 o15 : Option S} (hd : DS n d) (hn : n < 2 ^ 35) (hc : 0 < co) (hc2 : co ≤ 8) (hm : many ≤ 6) (hsl : sl.length = many) (ho : JOk es) (hel : es.length ≤ 62) (ho7 : JOk ks) (h7 : ks.length ≤ 62) (hp : ∀ x ∈ ps, sok x) (hp0 : 50 ≤ ps.length) (hp1 : ps.length ≤ 70) :
    ∃ (d' : D) (ps' : List Str) (o9 o11 o13 : Option S), Dv.ex (F41 MM) MM S_law_0 [some (.val (.scr ns)), some (.own false d), some (.val (.int co)), some (.val (.int (many : Nat))), some (.val (.tup sl)), some (.own false (.lst (ps.map D.str))), some (.val (J es)), some (.own false (J ks)), some (.val due), none, o10, none, o12, none, o14, o15] = .ok (.nx, [some (.val (.scr ns)), some (.own false d'), some (.val (.int co)), some (.val (.int (many : Nat))), some (.val (.tup sl)), some (.own false (.lst (ps'.map D.str))), some (.val (J es)), some (.own false (J ks)), some (.val due), o9, o10, o11, o12, o13, o14, o15]) ∧ (∀ x ∈ ps', sok x) ∧ 30 ≤ ps'.length ∧ ps'.length ≤ 70 ∧ DS (n + 2000) d' ∧ gFree (some o9) = true ∧ gFree (some o11) = true ∧ gFree (some o13) = true := by
  obtain ⟨ρ', ⟨d', ps', o9, o11, o13, rfl, h1, h2, h3, h4, g0, g1, g2⟩, e⟩ := for_rng (F := F41 MM) (N := MM) (S := S_law_0) rfl (m := 3)
    (ρ := [some (.val (.scr ns)), some (.own false d), some (.val (.int co)), some (.val (.int (many : Nat))), some (.val (.tup sl)), some (.own false (.lst (ps.map D.str))), some (.val (J es)), some (.own false (J ks)), some (.val due), none, o10, none, o12, none, o14, o15])
    (ρ1 := [some (.val (.scr ns)), some (.own false d), some (.val (.int co)), some (.val (.int (many : Nat))), some (.val (.tup sl)), some (.own false (.lst (ps.map D.str))), some (.val (J es)), some (.own false (J ks)), some (.val due), none, o10, none, o12, none, o14, o15])
    (fun i ρ => ∃ (d' : D) (ps' : List Str) (o9 o11 o13 : Option S), ρ = [some (.val (.scr ns)), some (.own false d'), some (.val (.int co)), some (.val (.int (many : Nat))), some (.val (.tup sl)), some (.own false (.lst (ps'.map D.str))), some (.val (J es)), some (.own false (J ks)), some (.val due), o9, o10, o11, o12, o13, o14, o15] ∧ (∀ x ∈ ps', sok x) ∧ ps.length - 4 * i ≤ ps'.length ∧ ps'.length ≤ 70 ∧ DS (n + 600 * i) d' ∧ gFree (some o9) = true ∧ gFree (some o11) = true ∧ gFree (some o13) = true)
    (evi_rng (by simp) (by omega)) ⟨d, ps, none, none, none, rfl, hp, by omega, by omega, hd, rfl, rfl, rfl⟩
    (fun i ρ hi ⟨d', ps', o9, o11, o13, e, h1, h2, h3, h4, g0, g1, g2⟩ => by
      subst e
      obtain ⟨d2, ps2, p11, p13, e4, q1, q2, q3, q4, q5, q6⟩ := l1_O (ns := ns) (co := co) (many := many) (sl := sl) (es := es) (ks := ks) (due := due) (ps := ps') (kd := i) (o10 := o10) (p11 := o11) (o12 := o12) (p13 := o13) (o14 := o14) (o15 := o15) h4 (by omega) hc hc2 hm hsl ho hel ho7 h7 h1 (by omega) (by omega) g1 g2
      refine ⟨[some (.val (.scr ns)), some (.own false d2), some (.val (.int co)), some (.val (.int (many : Nat))), some (.val (.tup sl)), some (.own false (.lst (ps2.map D.str))), some (.val (J es)), some (.own false (J ks)), some (.val due), some (.val (.int (i : Nat))), o10, p11, o12, p13, o14, o15], .inl ?_, d2, ps2, some (.val (.int (i : Nat))), p11, p13, rfl, q1, by omega, by omega, q4.mono (by omega), rfl, q5, q6⟩
      simp [turnX, B_law_0, g0, e4])
  exact ⟨d', ps', o9, o11, o13, e, h1, by omega, h3, h4.mono (by omega), g0, g1, g2⟩
theorem l1_V {d : D} {ps : List Str} {kd : Nat} {o10 p11 o12 p13 o14 o15 : Option S} (hd : DS n d) (hn : n < 2 ^ 36) (hc : 0 < co) (hc2 : co ≤ 8) (hm : many ≤ 6) (hsl : sl.length = many) (ho : JOk es) (hel : es.length ≤ 62) (ho7 : JOk ks) (h7 : ks.length ≤ 62) (hp : ∀ x ∈ ps, sok x) (hp0 : 20 ≤ ps.length) (hp1 : ps.length ≤ 70) (g11 : gFree (some p11) = true) (g13 : gFree (some p13) = true) :
    ∃ (d' : D) (ps' : List Str) (o11 o13 : Option S), Dv.ex (F41 MM) MM S_law_1 [some (.val (.scr ns)), some (.own false d), some (.val (.int co)), some (.val (.int (many : Nat))), some (.val (.tup sl)), some (.own false (.lst (ps.map D.str))), some (.val (J es)), some (.val (J ks)), some (.val due), some (.val (.int (kd : Nat))), o10, p11, o12, p13, o14, o15] = .ok (.nx, [some (.val (.scr ns)), some (.own false d'), some (.val (.int co)), some (.val (.int (many : Nat))), some (.val (.tup sl)), some (.own false (.lst (ps'.map D.str))), some (.val (J es)), some (.val (J ks)), some (.val due), some (.val (.int (kd : Nat))), o10, o11, o12, o13, o14, o15]) ∧ (∀ x ∈ ps', sok x) ∧ ps.length - 4 ≤ ps'.length ∧ ps'.length ≤ ps.length ∧ DS (n + 600) d' ∧ gFree (some o11) = true ∧ gFree (some o13) = true := by
  obtain ⟨ρ', ⟨d', ps', o11, o13, rfl, h1, h2, h3, h4, g1, g2⟩, e⟩ := for_val (F := F41 MM) (N := MM) (S := S_law_1) rfl (d := .tup [.int 0, .int 1, .int 2, .int 4]) (xs := [(0 : Int), 1, 2, 4]) (f := D.int)
    (ρ := [some (.val (.scr ns)), some (.own false d), some (.val (.int co)), some (.val (.int (many : Nat))), some (.val (.tup sl)), some (.own false (.lst (ps.map D.str))), some (.val (J es)), some (.val (J ks)), some (.val due), some (.val (.int (kd : Nat))), o10, p11, o12, p13, o14, o15])
    (ρ1 := [some (.val (.scr ns)), some (.own false d), some (.val (.int co)), some (.val (.int (many : Nat))), some (.val (.tup sl)), some (.own false (.lst (ps.map D.str))), some (.val (J es)), some (.val (J ks)), some (.val due), some (.val (.int (kd : Nat))), o10, p11, o12, p13, o14, o15])
    (fun i ρ => ∃ (d' : D) (ps' : List Str) (o11 o13 : Option S), ρ = [some (.val (.scr ns)), some (.own false d'), some (.val (.int co)), some (.val (.int (many : Nat))), some (.val (.tup sl)), some (.own false (.lst (ps'.map D.str))), some (.val (J es)), some (.val (J ks)), some (.val due), some (.val (.int (kd : Nat))), o10, o11, o12, o13, o14, o15] ∧ (∀ x ∈ ps', sok x) ∧ ps.length - i ≤ ps'.length ∧ ps'.length ≤ ps.length ∧ DS (n + 150 * i) d' ∧ gFree (some o11) = true ∧ gFree (some o13) = true)
    (by
      have k4 : 4 ≤ sizeLine := by decide
      simp [k4]) ⟨d, ps, p11, p13, rfl, hp, by omega, by omega, hd, g11, g13⟩
    (fun i m ρ hx ⟨d', ps', o11, o13, e, h1, h2, h3, h4, g1, g2⟩ => by
      subst e
      have hi : i < 4 := (List.getElem?_eq_some_iff.mp hx).1
      obtain ⟨e, ps2, d2, e4, he, hs', hl1, hl2, _, _, _, hd2⟩ := entry_ok (co := co) (many := many) (kind := kd) (mask := m) (es := ks) (bs := []) (ps := ps') (R := .val (J ks)) h4 (by omega) hc (by omega) (by omega) ho7 (by omega) (fun e h => (List.not_mem_nil h).elim) (by simp) h1 (by omega) (by omega) (.inr rfl)
      have e5 := right_ok (co := co) (sl := sl) (l := ks ++ [e]) (R := .own (J (ks ++ [e]))) (by rw [List.length_append]; show ks.length + 1 < 1000; omega) (ho7.snoc he) (.inl rfl)
      have hz : ks.length + 1 ≤ sizeLine := Nat.le_of_lt (len_lt (by omega))
      have k1 : 1 ≤ sizeLine := by decide
      have jn : J [] = .lst [] := rfl
      rw [jn] at e4
      refine ⟨[some (.val (.scr ns)), some (.own false d2), some (.val (.int co)), some (.val (.int (many : Nat))), some (.val (.tup sl)), some (.own false (.lst (ps2.map D.str))), some (.val (J es)), some (.val (J ks)), some (.val due), some (.val (.int (kd : Nat))), o10, some (.val (.int m)), o12, some (.val (enD e)), o14, o15], .inl ?_, d2, ps2, _, _, rfl, hs', by omega, by omega, hd2.mono (by omega), rfl, rfl⟩
      simp [turnX, B_law_1, g1, g2, J, hz, k1] at e4 e5 ⊢
      simp [e4, e5, g1, g2, hz, k1])
  exact ⟨d', ps', o11, o13, e, h1, h2, h3, h4, g1, g2⟩
theorem l0_V {d : D} {ps : List Str} {o10 o12 o14 o15 : Option S} (hd : DS n d) (hn : n < 2 ^ 35) (hc : 0 < co) (hc2 : co ≤ 8) (hm : many ≤ 6) (hsl : sl.length = many) (ho : JOk es) (hel : es.length ≤ 62) (ho7 : JOk ks) (h7 : ks.length ≤ 62) (hp : ∀ x ∈ ps, sok x) (hp0 : 50 ≤ ps.length) (hp1 : ps.length ≤ 70) :
    ∃ (d' : D) (ps' : List Str) (o9 o11 o13 : Option S), Dv.ex (F41 MM) MM S_law_0 [some (.val (.scr ns)), some (.own false d), some (.val (.int co)), some (.val (.int (many : Nat))), some (.val (.tup sl)), some (.own false (.lst (ps.map D.str))), some (.val (J es)), some (.val (J ks)), some (.val due), none, o10, none, o12, none, o14, o15] = .ok (.nx, [some (.val (.scr ns)), some (.own false d'), some (.val (.int co)), some (.val (.int (many : Nat))), some (.val (.tup sl)), some (.own false (.lst (ps'.map D.str))), some (.val (J es)), some (.val (J ks)), some (.val due), o9, o10, o11, o12, o13, o14, o15]) ∧ (∀ x ∈ ps', sok x) ∧ 30 ≤ ps'.length ∧ ps'.length ≤ 70 ∧ DS (n + 2000) d' ∧ gFree (some o9) = true ∧ gFree (some o11) = true ∧ gFree (some o13) = true := by
  obtain ⟨ρ', ⟨d', ps', o9, o11, o13, rfl, h1, h2, h3, h4, g0, g1, g2⟩, e⟩ := for_rng (F := F41 MM) (N := MM) (S := S_law_0) rfl (m := 3)
    (ρ := [some (.val (.scr ns)), some (.own false d), some (.val (.int co)), some (.val (.int (many : Nat))), some (.val (.tup sl)), some (.own false (.lst (ps.map D.str))), some (.val (J es)), some (.val (J ks)), some (.val due), none, o10, none, o12, none, o14, o15])
    (ρ1 := [some (.val (.scr ns)), some (.own false d), some (.val (.int co)), some (.val (.int (many : Nat))), some (.val (.tup sl)), some (.own false (.lst (ps.map D.str))), some (.val (J es)), some (.val (J ks)), some (.val due), none, o10, none, o12, none, o14, o15])
    (fun i ρ => ∃ (d' : D) (ps' : List Str) (o9 o11 o13 : Option S), ρ = [some (.val (.scr ns)), some (.own false d'), some (.val (.int co)), some (.val (.int (many : Nat))), some (.val (.tup sl)), some (.own false (.lst (ps'.map D.str))), some (.val (J es)), some (.val (J ks)), some (.val due), o9, o10, o11, o12, o13, o14, o15] ∧ (∀ x ∈ ps', sok x) ∧ ps.length - 4 * i ≤ ps'.length ∧ ps'.length ≤ 70 ∧ DS (n + 600 * i) d' ∧ gFree (some o9) = true ∧ gFree (some o11) = true ∧ gFree (some o13) = true)
    (evi_rng (by simp) (by omega)) ⟨d, ps, none, none, none, rfl, hp, by omega, by omega, hd, rfl, rfl, rfl⟩
    (fun i ρ hi ⟨d', ps', o9, o11, o13, e, h1, h2, h3, h4, g0, g1, g2⟩ => by
      subst e
      obtain ⟨d2, ps2, p11, p13, e4, q1, q2, q3, q4, q5, q6⟩ := l1_V (ns := ns) (co := co) (many := many) (sl := sl) (es := es) (ks := ks) (due := due) (ps := ps') (kd := i) (o10 := o10) (p11 := o11) (o12 := o12) (p13 := o13) (o14 := o14) (o15 := o15) h4 (by omega) hc hc2 hm hsl ho hel ho7 h7 h1 (by omega) (by omega) g1 g2
      refine ⟨[some (.val (.scr ns)), some (.own false d2), some (.val (.int co)), some (.val (.int (many : Nat))), some (.val (.tup sl)), some (.own false (.lst (ps2.map D.str))), some (.val (J es)), some (.val (J ks)), some (.val due), some (.val (.int (i : Nat))), o10, p11, o12, p13, o14, o15], .inl ?_, d2, ps2, some (.val (.int (i : Nat))), p11, p13, rfl, q1, by omega, by omega, q4.mono (by omega), rfl, q5, q6⟩
      simp [turnX, B_law_0, g0, e4])
  exact ⟨d', ps', o9, o11, o13, e, h1, by omega, h3, h4.mono (by omega), g0, g1, g2⟩
end
end Wk16

set_option Elab.async false
set_option linter.all false
set_option maxRecDepth 100000
set_option maxHeartbeats 4000000
namespace Wk16
open PySem PySem.Spec PyProof.Rows L2 Dv
section
variable {n : Nat} {ns : List Int} {co : Int} {many : Nat} {sl : List D} {es ks : List En} {s7 : S} {due : D}
theorem l2_ok {d : D} {ps : List Str} {o9 o11 q13 : Option S} (hd : DS n d) (hn : n < 2 ^ 35) (hc : 0 < co) (hc2 : co ≤ 8) (hm : many ≤ 6) (hsl : sl.length = many) (ho : JOk es) (hel : es.length ≤ 62) (hp : ∀ x ∈ ps, sok x) (hp0 : 30 ≤ ps.length) (hp1 : ps.length ≤ 70) (g13 : gFree (some q13) = true) :
    ∃ (d' : D) (ps' : List Str) (o10 o12 o13 o14 o15 : Option S), Dv.ex (F41 MM) MM S_law_2 [some (.val (.scr ns)), some (.own false d), some (.val (.int co)), some (.val (.int (many : Nat))), some (.val (.tup sl)), some (.own false (.lst (ps.map D.str))), some (.val (J es)), some s7, some (.val due), o9, none, o11, none, q13, none, none] = .ok (.nx, [some (.val (.scr ns)), some (.own false d'), some (.val (.int co)), some (.val (.int (many : Nat))), some (.val (.tup sl)), some (.own false (.lst (ps'.map D.str))), some (.val (J es)), some s7, some (.val due), o9, o10, o11, o12, o13, o14, o15]) := by
  obtain ⟨ρ', ⟨d', ps', o10, o12, o13, o14, o15, rfl, _⟩, e⟩ := for_rng (F := F41 MM) (N := MM) (S := S_law_2) rfl (m := 4)
    (ρ := [some (.val (.scr ns)), some (.own false d), some (.val (.int co)), some (.val (.int (many : Nat))), some (.val (.tup sl)), some (.own false (.lst (ps.map D.str))), some (.val (J es)), some s7, some (.val due), o9, none, o11, none, q13, none, none])
    (ρ1 := [some (.val (.scr ns)), some (.own false d), some (.val (.int co)), some (.val (.int (many : Nat))), some (.val (.tup sl)), some (.own false (.lst (ps.map D.str))), some (.val (J es)), some s7, some (.val due), o9, none, o11, none, q13, none, none])
    (fun i ρ => ∃ (d' : D) (ps' : List Str) (o10 o12 o13 o14 o15 : Option S), ρ = [some (.val (.scr ns)), some (.own false d'), some (.val (.int co)), some (.val (.int (many : Nat))), some (.val (.tup sl)), some (.own false (.lst (ps'.map D.str))), some (.val (J es)), some s7, some (.val due), o9, o10, o11, o12, o13, o14, o15] ∧ (∀ x ∈ ps', sok x) ∧ ps.length - i ≤ ps'.length ∧ ps'.length ≤ 70 ∧ DS (n + 150 * i) d' ∧ gFree (some o10) = true ∧ gFree (some o12) = true ∧ gFree (some o13) = true ∧ gFree (some o14) = true ∧ gFree (some o15) = true)
    (evi_rng (by simp) (by omega)) ⟨d, ps, none, none, q13, none, none, rfl, hp, by omega, by omega, hd, rfl, rfl, g13, rfl, rfl⟩
    (fun i ρ hi ⟨d', ps', o10, o12, o13, o14, o15, e, h1, h2, h3, h4, g10, g12, g13, g14, g15⟩ => by
      subst e
      obtain ⟨a, d1, e1, ha, hd1⟩ := f__law_draw (m := (es.length : Int) + 1) h4 (by omega) (by omega) (by omega)
      obtain ⟨k, d2, e2, hk, hd2⟩ := f__law_draw (m := 3) hd1 (by omega) (by omega) (by omega)
      obtain ⟨m, d3, e3, hm3, hd3⟩ := f__law_draw (m := 7) hd2 (by omega) (by omega) (by omega)
      have oT : JOk (es.take a) := fun x hx => ho x (List.mem_of_mem_take hx)
      have oD : JOk (es.drop a) := fun x hx => ho x (List.mem_of_mem_drop hx)
      have lT : (es.take a).length ≤ es.length := by rw [List.length_take]; omega
      have lD : (es.drop a).length ≤ es.length := by rw [List.length_drop]; omega
      have lS : (es.take a).length + 1 + (es.drop a).length ≤ 70 := by rw [List.length_take, List.length_drop]; omega
      obtain ⟨e, ps2, d4, e4, he, hs', hl1, hl2, _, _, _, hd4⟩ := entry_ok (co := co) (many := many) (kind := (k : Nat)) (mask := 1 + (m : Int)) (es := es.take a) (bs := es.drop a) (ps := ps') (R := .own (J (es.take a))) hd3 (by omega) hc (by omega) (by omega) oT (by omega) oD (by omega) h1 (by omega) (by omega) (.inl rfl)
      have e5 := right_ok (co := co) (sl := sl) (l := es.take a ++ [e] ++ es.drop a) (R := .own (J (es.take a ++ [e] ++ es.drop a))) (by rw [List.length_append, List.length_append]; show (es.take a).length + 1 + (es.drop a).length < 1000; omega) (fun x hx => by
        rcases List.mem_append.mp hx with h | h
        · exact oT.snoc he x h
        · exact oD x h) (.inl rfl)
      obtain ⟨f, d5, e6, hf, hd5⟩ := f__law_draw (m := (many : Int) + 1) hd4 (by omega) (by omega) (by omega)
      obtain ⟨o, d6, e7, ho6, hd6⟩ := f__law_draw (m := 9 - co) hd5 (by omega) (by omega) (by omega)
      have sl1 : dSlc (.lst (es.map enD)) none (some (a : Int)) = .ok (.own (.lst ((es.take a).map enD))) := by rw [slL, List.map_take]
      have sl2 : dSlc (.lst (es.map enD)) (some (a : Int)) none = .ok (.own (.lst ((es.drop a).map enD))) := by rw [slR, List.map_drop]
      have sl3 := slT (l := sl) (k := f)
      have hz1 : (es.take a).length + 1 ≤ sizeLine := Nat.le_of_lt (len_lt (by omega))
      have hz2 : (es.take a).length + (1 + (es.drop a).length) ≤ sizeLine := Nat.le_of_lt (len_lt (by omega))
      have hz3 : (es.take a).length + 1 + (es.drop a).length ≤ sizeLine := Nat.le_of_lt (len_lt (by omega))
      have hz4 : ((es.take a ++ [e]).map enD).length + ((es.drop a).map enD).length ≤ sizeLine := by
        rw [List.length_map, List.length_map, List.length_append]; exact hz3
      have hz5 : ((es.take a).map enD).length + [enD e].length ≤ sizeLine := by
        rw [List.length_map]; exact hz1
      have k1 : 1 ≤ sizeLine := by decide
      have ad1 : dBin .Add (.lst ((es.take a).map enD)) (.lst [enD e]) = .ok (.own (.lst ((es.take a ++ [e]).map enD))) := by
        rw [List.map_append]; exact need_true hz5
      have ad2 : dBin .Add (.lst ((es.take a ++ [e]).map enD)) (.lst ((es.drop a).map enD)) = .ok (.own (.lst ((es.take a ++ [e] ++ es.drop a).map enD))) := by
        rw [List.map_append (l₁ := es.take a ++ [e])]; exact need_true hz4
      have e8 := right_ok (co := co + (o : Int)) (sl := sl.take f) (l := es) (R := .val (J es)) (by omega) ho (.inr rfl)
      by_cases hf0 : (sl.take f).length = 0
      · obtain ⟨u, d7, e9, hu, hd7⟩ := f__law_draw (m := 8) hd6 (by omega) (by omega) (by omega)
        have e10 := right_ok (co := 1 + (u : Int)) (sl := sl.take f) (l := es) (R := .val (J es)) (by omega) ho (.inr rfl)
        refine ⟨[some (.val (.scr ns)), some (.own false d7), some (.val (.int co)), some (.val (.int (many : Nat))), some (.val (.tup sl)), some (.own false (.lst (ps2.map D.str))), some (.val (J es)), some s7, some (.val due), o9, some (.val (.int (i : Nat))), o11, some (.val (.int (a : Nat))), some (.val (enD e)), some (.val (.tup (sl.take f))), some (.val (.int (1 + (u : Int))))], .inl ?_, d7, ps2, _, _, _, _, _, rfl, hs', by omega, by omega, hd7.mono (by omega), rfl, rfl, rfl, rfl, rfl⟩
        simp only [J] at e4 e5
        generalize sl.take f = fe at *
        rw [List.length_eq_zero_iff] at hf0
        subst hf0
        generalize (es.take a ++ [e] ++ es.drop a).map enD = X at *
        generalize (es.take a ++ [e]).map enD = X1 at *
        generalize (es.take a).map enD = X2 at *
        generalize (es.drop a).map enD = X3 at *
        simp [turnX, B_law_2, g10, g12, g13, g14, g15, e1, e2, e3, e4, sl1, sl2, ad1, ad2, k1, e5, e6, sl3, e7, e9, e10, -c97_dSlc, -c98_dSlc]
      · refine ⟨[some (.val (.scr ns)), some (.own false d6), some (.val (.int co)), some (.val (.int (many : Nat))), some (.val (.tup sl)), some (.own false (.lst (ps2.map D.str))), some (.val (J es)), some s7, some (.val due), o9, some (.val (.int (i : Nat))), o11, some (.val (.int (a : Nat))), some (.val (enD e)), some (.val (.tup (sl.take f))), some (.val (.int (co + (o : Int))))], .inl ?_, d6, ps2, _, _, _, _, _, rfl, hs', by omega, by omega, hd6.mono (by omega), rfl, rfl, rfl, rfl, rfl⟩
        simp only [J] at e4 e5
        generalize sl.take f = fe at *
        try rw [List.length_eq_zero_iff] at hf0
        generalize (es.take a ++ [e] ++ es.drop a).map enD = X at *
        generalize (es.take a ++ [e]).map enD = X1 at *
        generalize (es.take a).map enD = X2 at *
        generalize (es.drop a).map enD = X3 at *
        simp [turnX, B_law_2, g10, g12, g13, g14, g15, e1, e2, e3, e4, sl1, sl2, ad1, ad2, k1, e5, e6, sl3, e7, hf0, e8, -c97_dSlc, -c98_dSlc])
  exact ⟨d', ps', o10, o12, o13, o14, o15, e⟩
end
end Wk16

set_option Elab.async false
set_option linter.all false
set_option maxRecDepth 100000
set_option maxHeartbeats 4000000
namespace Wk16
open PySem PySem.Spec PyProof.Rows L2 Dv
def bL1 : Sxs := match b_law with
  | .cons _ (.cons _ (.cons _ (.cons _ r))) => r
  | r => r
theorem pickI {l : List Int} {r : Nat} (h : r < l.length) : ∃ v ∈ l, atI (l.map D.int) (r : Int) = some (.int v) := ⟨l[r], List.getElem_mem h, atI_ints h⟩
theorem law_head {ns : List Int} {d0 : D} (D0 : DS 0 d0) (eb : (FU MM).call "_law_begin" [.val (.scr ns)] = .ok (.own d0, [.val (.scr ns)])) :
    ∃ (co : Int) (many : Nat) (d : D), exs (F41 MM) MM b_law (envOf 16 [.val (.scr ns)]) = exs (F41 MM) MM bL1 [some (.val (.scr ns)), some (.own false d), some (.val (.int co)), some (.val (.int (many : Nat))), none, none, none, none, none, none, none, none, none, none, none, none] ∧ 0 < co ∧ co ≤ 8 ∧ many ≤ 6 ∧ (many = 0 ∨ 2 ≤ co) ∧ DS 2 d := by
  obtain ⟨r, d1, e1, hr, hd1⟩ := f__law_draw (m := 8) D0 (by omega) (by omega) (by omega)
  obtain ⟨q, d2, e2, hq, hd2⟩ := f__law_draw (m := 7) hd1 (by omega) (by omega) (by omega)
  obtain ⟨co, hco, p1⟩ := pickI (l := [1, 2, 2, 3, 3, 4, 5, 8]) (r := r) (by show r < 8; omega)
  obtain ⟨m, hm, p2⟩ := pickI (l := [0, 1, 1, 2, 2, 3, 6]) (r := q) (by show q < 7; omega)
  have c1 : 0 < co ∧ co ≤ 8 := by simp at hco; omega
  obtain ⟨many, rfl, c2⟩ : ∃ k : Nat, m = (k : Int) ∧ k ≤ 6 := by
    simp at hm
    exact ⟨m.toNat, by omega, by omega⟩
  simp only [List.map] at p1 p2
  have k8 : 8 ≤ sizeLine := by decide
  have k7 : 7 ≤ sizeLine := by decide
  by_cases h1 : co = 1
  · subst h1
    exact ⟨1, 0, d2, by simp [b_law, bL1, Dv.envOf, eb, e1, e2, p1, p2, k8, k7], by omega, by omega, by omega, .inl rfl, hd2⟩
  · exact ⟨co, many, d2, by simp [b_law, bL1, Dv.envOf, eb, e1, e2, p1, p2, k8, k7, h1], by omega, by omega, by omega, .inr (by omega), hd2⟩
theorem pure_law (ns : List Int) (hl : ns.length ≤ 63) (hbits : ∀ z ∈ ns, PySem.Builtin.Int.intBits z ≤ 1048576) : ∃ M as', (Dv.mkF glo M ds42).call "law" [.val (.scr ns)] = .ok (.val (.bl true), as') := by
  refine ⟨MM, [.val (.scr ns)], ?_⟩
  have D0 : DS 0 (.lst [.lst (ns.map .int), .int 0, .int 0, .int 7, .int 3]) := ⟨ns, 0, 0, 7, rfl, hbits, hl, by omega, by omega, by omega, big_pos, by omega, by omega⟩
  have eb : (FU MM).call "_law_begin" [.val (.scr ns)] = .ok (.own (.lst [.lst (ns.map .int), .int 0, .int 0, .int 7, .int 3]), [.val (.scr ns)]) := by
    rw [run__law_begin rfl]
    exact begin_ok hl
  generalize D.lst [.lst (ns.map .int), .int 0, .int 0, .int 7, .int 3] = d0 at *
  obtain ⟨co, many, d1, e1, hc, hc8, hm, hcm, D1⟩ := law_head D0 eb
  obtain ⟨sl, d2, e2, hsl, D2⟩ := shields_ok D1 (by omega) hm hcm (by omega)
  have e3 := pool_ok
  obtain ⟨es, d3, ps, e4, ho, hel, hps, hp0, hp1, D3⟩ := base_ok (co := co) (many := many) D2 (by omega) hc (by omega) (by omega)
  have e5 := right_ok (co := co) (sl := sl) (l := es) (R := .own (J es)) (by omega) ho (.inl rfl)
  have e6 := lf_ok (co := co) (many := (many : Nat)) (l := es) (R := .val (J es)) (by omega) ho (.inr rfl)
  have e9 := right_ok (co := co) (sl := sl) (l := es) (R := .val (J es)) (by omega) ho (.inr rfl)
  have q1 : dCmp .Eq (.str "fine") (.str "bad") = .ok false := by
    rw [eq_str (by decide +kernel) (by decide +kernel), decide_eq_false (by decide +kernel)]
  have q2 : dCmp .Eq (.str "bad") (.str "bad") = .ok true := by
    rw [eq_str (by decide +kernel) (by decide +kernel), decide_eq_true rfl]
  show (FU MM).call "law" _ = _
  rw [run_law rfl]
  show (exs (F41 MM) MM b_law (envOf 16 [.val (.scr ns)])).bind _ = _
  rw [e1]
  cases hfb : fb co many [] es with
  | none =>
    rw [hfb] at e6
    obtain ⟨d4, ps4, o9, o11, o13, e7, hs4, hp4, hp5, D4, g9, g11, g13⟩ := l0_V (ns := ns) (co := co) (many := many) (sl := sl) (es := es) (ks := es) (due := toldD none) (ps := ps) (o10 := none) (o12 := none) (o14 := none) (o15 := none) D3 (by omega) hc hc8 hm hsl ho hel ho hel hps hp0 hp1
    obtain ⟨d5, ps5, o10, o12, p13, o14, o15, e8⟩ := l2_ok (ns := ns) (co := co) (many := many) (sl := sl) (es := es) (s7 := .val (J es)) (due := toldD none) (ps := ps4) (o9 := o9) (o11 := o11) (q13 := o13) D4 (by omega) hc hc8 hm hsl ho hel hs4 hp4 hp5 g13
    simp only [toldD] at e6 e7 e8
    simp only [J] at *
    generalize es.map enD = X at *
    simp [bL1, b_law, e2, e3, e4, e5, e6, q1, e7, e8, e9, -c36_dCmp, -c37_dCmp]
  | some p =>
    obtain ⟨i, x⟩ := p
    rw [hfb] at e6
    have oT : JOk (es.take i) := fun x hx => ho x (List.mem_of_mem_take hx)
    have lT : (es.take i).length ≤ es.length := by rw [List.length_take]; omega
    have sl1 : dSlc (.lst (es.map enD)) none (some (i : Int)) = .ok (.own (.lst ((es.take i).map enD))) := by rw [slL, List.map_take]
    have e10 := right_ok (co := co) (sl := sl) (l := es.take i) (R := .own (J (es.take i))) (by omega) oT (.inl rfl)
    obtain ⟨d4, ps4, o9, o11, o13, e7, hs4, hp4, hp5, D4, g9, g11, g13⟩ := l0_O (ns := ns) (co := co) (many := many) (sl := sl) (es := es) (ks := es.take i) (due := toldD (some (i, x))) (ps := ps) (o10 := none) (o12 := none) (o14 := none) (o15 := none) D3 (by omega) hc hc8 hm hsl ho hel oT (by omega) hps hp0 hp1
    obtain ⟨d5, ps5, o10, o12, p13, o14, o15, e8⟩ := l2_ok (ns := ns) (co := co) (many := many) (sl := sl) (es := es) (s7 := .own false (J (es.take i))) (due := toldD (some (i, x))) (ps := ps4) (o9 := o9) (o11 := o11) (q13 := o13) D4 (by omega) hc hc8 hm hsl ho hel hs4 hp4 hp5 g13
    simp only [toldD] at e6 e7 e8
    simp only [J] at *
    generalize es.map enD = X at *
    generalize (es.take i).map enD = Y at *
    simp [bL1, b_law, e2, e3, e4, e5, e6, q2, sl1, e10, e7, e8, e9, -c36_dCmp, -c37_dCmp, -c97_dSlc]
end Wk16

open PySem PySem.W PySem.Calls PyProof.Rows
theorem PySem.Challenge.cw_cedewheel_k16_journals_checked_holds : PySem.Challenge.rw_cedewheel_k16_journals_checked.Holds := by
  w_on; o_law
  refine HandSHeadRun.head_any (r := OpenLaw.row PySem.Challenge.rw_cedewheel_k16_journals_checked) (q := view (OpenLaw.row PySem.Challenge.rw_cedewheel_k16_journals_checked).prog [61]) (H := Wk16.hk) (ob := Wk16.ob) (M := 20000) (loose := Wk16.names) (d := HandSHeadRun.topDef (OpenLaw.row PySem.Challenge.rw_cedewheel_k16_journals_checked).prog 61) (kwd := []) Wk16.ob_eq
    (by kernel_rfl) (fun s => by kernel_rfl) Wk16.run (by kernel_rfl) (by kernel_rfl) (by kernel_rfl) (by rfl) (by first | assumption | decide +kernel) (by decide +kernel) ⟨rfl, rfl, rfl, rfl, rfl, by decide +kernel⟩ ?hw ?hc
  case hw => w_witness2
  case hc =>
    refine Dv.walk_ofEB (l := PySem.Challenge.rw_cedewheel_k16_journals_checked) (n := 63) (k := 44) (x := "script") (CX := fun w => L2.CX (PySem.Challenge.rw_cedewheel_k16_journals_checked).prog w) rfl (by decide) (by kernel_rfl) ⟨rfl, by decide, by decide⟩ ?F (fun w H s e s' z => Dv.cx_none _ w H s e s' z)
    intro w mg fa h Y G hmg0
    obtain ⟨K, KX, c, cm⟩ := Y
    have hmg : mg ("law" : PySem.Str) = some (.ref fa) := by
      have e : (HandSHeadRun.topDef (OpenLaw.row PySem.Challenge.rw_cedewheel_k16_journals_checked).prog 61).name = ("law" : PySem.Str) := by kernel_rfl
      rw [← e]
      exact hmg0
    obtain ⟨fd, hb, hF⟩ := Wk16.facts (P := (PySem.Challenge.rw_cedewheel_k16_journals_checked).prog) (w := w) KX G hmg c cm rfl
    refine ⟨K, fd, _, KX, hb, fun H a ns hl hbits hS => ?_, hF⟩
    obtain ⟨M, as', e⟩ := Wk16.pure_law ns hl hbits
    exact ⟨M, Dv.sp_law hS e⟩

