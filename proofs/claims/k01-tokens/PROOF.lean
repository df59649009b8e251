import PyProof.Rows.All
import Wide.All
import OpenK.AllK
import Wide.FinOn
import HandS.ForMost
import HandS.Wide
import HandS.WideBits
import HandS.Gcd
import HandS.IsInst
import HandS.Deep
import HandS.TupAny
import HandS.ForExc
import HandS.CallSlots
import HandS.More
import HandS.MapJoin
import HandS.Zip
import HandS.Defaults
import HandS.EndBits
import HandS.Head0
import HandS.Head1
import HandS.Head2
import HandS.HeadEnd
import HandS.HeadHook1
import HandS.HeadHook2
import PySem.Challenge.RW_cedewheel_k01_tokens
set_option Elab.async false
set_option linter.all false
set_option maxRecDepth 100000
namespace Dv
open PySem PySem.Spec PyProof.Rows L2

/-- data, by value -/
inductive D where
  | non | bl (b : Bool) | int (i : Int) | str (x : Str) | tup (l : List D) | lst (l : List D) | dic (ks : List Key) (l : List D) | scr (l : List Int)

abbrev AS := Addr → Prop
/-- a list that nobody changes -/
def ScrL (K : PySem.W.Frag) (H : Hp) (W : AS) (a : Addr) (xs : List V) : Prop :=
  (H a = some (.lst xs) ∧ ¬ W a) ∨ (∃ o, H a = some (.frz o (.lst xs))) ∨
    ∃ (o : Obj) (its : Array Value) (n : Nat), K.lookup a = some o ∧ o.cls = .type "list" ∧ o.dict = none ∧ o.data = .seq its n ∧ its.size ≤ sizeLine ∧ Vals xs its.toList
/-- a tuple -/
def TupL (K : PySem.W.Frag) (H : Hp) (a : Addr) (xs : List V) : Prop :=
  H a = some (.tup xs) ∨ ∃ (o : Obj) (its : Array Value) (n : Nat), K.lookup a = some o ∧ o.cls = .type "tuple" ∧ o.data = .seq its n ∧ its.size ≤ sizeLine ∧ Vals xs its.toList
theorem TupL.sq {K : PySem.W.Frag} {H : Hp} {a : Addr} {xs : List V} (h : TupL K H a xs) : SqT K H a xs := by
  rcases h with h | h
  · exact .inl (.inl h)
  · exact .inr h
theorem TupL.of {K : PySem.W.Frag} {H : Hp} {a : Addr} {xs : List V} (h : H a = some (.tup xs)) : TupL K H a xs := .inl h
theorem ScrL.sq {K : PySem.W.Frag} {H : Hp} {W : AS} {a : Addr} {xs : List V} (h : ScrL K H W a xs) : SqL K H a xs := by
  rcases h with h | h | h
  · exact .inl (.inl h.1)
  · exact .inl (.inr h)
  · exact .inr h

mutual
def RepD (K : PySem.W.Frag) (H : Hp) (W : AS) : V → D → Prop
  | v, .non => v = .non
  | v, .bl b => v = .bl b
  | v, .int i => v = .int i
  | v, .str x => v = .str x
  | v, .tup l => ∃ a vs, v = .ref a ∧ TupL K H a vs ∧ RepDs K H W vs l
  | v, .lst l => ∃ a vs, v = .ref a ∧ H a = some (.lst vs) ∧ ¬ W a ∧ RepDs K H W vs l
  | v, .scr l => ∃ a, v = .ref a ∧ ScrL K H W a (l.map V.int)
  | v, .dic ks l => ∃ a kvs, v = .ref a ∧ H a = some (.dK kvs) ∧ ¬ W a ∧ kvs.map (·.1) = ks ∧ RepDs K H W (kvs.map (·.2)) l
def RepDs (K : PySem.W.Frag) (H : Hp) (W : AS) : List V → List D → Prop
  | vs, [] => vs = []
  | vs, d :: ds => ∃ v r, vs = v :: r ∧ RepD K H W v d ∧ RepDs K H W r ds
end

/-- what a mutable object holds -/
def RepO (K : PySem.W.Frag) (H : Hp) (W : AS) (o : HO) : D → Prop
  | .lst l => ∃ vs, o = .lst vs ∧ RepDs K H W vs l
  | .dic ks l => ∃ kvs, o = .dK kvs ∧ kvs.map (·.1) = ks ∧ RepDs K H W (kvs.map (·.2)) l
  | _ => False
/-- a mutable kind -/
def Mk1 : HO → Prop
  | .lst _ => True
  | .dK _ => True
  | _ => False
/-- W: addresses that somebody may change -/
def WL (H : Hp) (W : AS) : Prop := ∀ a, W a → ∃ o, H a = some o ∧ Mk1 o

/-- what is not in W stays, outside W -/
def Adv (H : Hp) (W : AS) (H' : Hp) (W' : AS) : Prop := ∀ b o, H b = some o → ¬ W b → H' b = some o ∧ ¬ W' b

section
variable {K : PySem.W.Frag} {H H' : Hp} {W W' : AS}
theorem RepO.mk1 {o : HO} {d : D} (h : RepO K H W o d) : Mk1 o := by
  cases d with
  | lst l => obtain ⟨vs, rfl, _⟩ := h; trivial
  | dic ks l => obtain ⟨vs, rfl, _⟩ := h; trivial
  | _ => exact h.elim
theorem WL.tup (wl : WL H W) {a : Addr} {vs : List V} (h : H a = some (.tup vs)) : ¬ W a := fun w => by
  obtain ⟨o, e, m⟩ := wl a w
  rw [h] at e; cases e; exact m
theorem WL.frz (wl : WL H W) {a : Addr} {ob : Obj} {u : HO} (h : H a = some (.frz ob u)) : ¬ W a := fun w => by
  obtain ⟨o, e, m⟩ := wl a w
  rw [h] at e; cases e; exact m
theorem TupL.adv (wl : WL H W) (ad : Adv H W H' W') {a : Addr} {vs : List V} (h : TupL K H a vs) : TupL K H' a vs := by
  rcases h with h | h
  · exact .inl (ad _ _ h (wl.tup h)).1
  · exact .inr h
theorem Rd.adv (ad : Adv H W H' W') {a : Addr} {u : HO} (h : Rd H a u) (w : ¬ W a) : Rd H' a u ∧ ¬ W' a := by
  rcases h with h | ⟨o, h⟩
  · exact ⟨.inl (ad _ _ h w).1, (ad _ _ h w).2⟩
  · exact ⟨.inr ⟨o, (ad _ _ h w).1⟩, (ad _ _ h w).2⟩
theorem ScrL.adv (wl : WL H W) (ad : Adv H W H' W') {a : Addr} {xs : List V} (h : ScrL K H W a xs) : ScrL K H' W' a xs := by
  rcases h with ⟨h, w⟩ | ⟨o, h⟩ | h
  · exact .inl (ad _ _ h w)
  · exact .inr (.inl ⟨o, (ad _ _ h (wl.frz h)).1⟩)
  · exact .inr (.inr h)
mutual
theorem RepD.adv (wl : WL H W) (ad : Adv H W H' W') : ∀ {d : D} {v : V}, RepD K H W v d → RepD K H' W' v d
  | .non, _, h => h
  | .bl _, _, h => h
  | .int _, _, h => h
  | .str _, _, h => h
  | .tup _, _, h => by
    obtain ⟨a, vs, e, q, r⟩ := h
    exact ⟨a, vs, e, TupL.adv wl ad q, RepDs.adv wl ad r⟩
  | .lst _, _, h => by
    obtain ⟨a, vs, e, q, w, r⟩ := h
    exact ⟨a, vs, e, (ad _ _ q w).1, (ad _ _ q w).2, RepDs.adv wl ad r⟩
  | .scr _, _, h => by
    obtain ⟨a, e, q⟩ := h
    exact ⟨a, e, q.adv wl ad⟩
  | .dic _ _, _, h => by
    obtain ⟨a, vs, e, q, w, k, r⟩ := h
    exact ⟨a, vs, e, (ad _ _ q w).1, (ad _ _ q w).2, k, RepDs.adv wl ad r⟩
theorem RepDs.adv (wl : WL H W) (ad : Adv H W H' W') : ∀ {ds : List D} {vs : List V}, RepDs K H W vs ds → RepDs K H' W' vs ds
  | [], _, h => h
  | _ :: _, _, h => by
    obtain ⟨v, r, e, q, s⟩ := h
    exact ⟨v, r, e, RepD.adv wl ad q, RepDs.adv wl ad s⟩
end
theorem RepO.adv (wl : WL H W) (ad : Adv H W H' W') {o : HO} {d : D} (h : RepO K H W o d) : RepO K H' W' o d := by
  cases d with
  | lst l => obtain ⟨vs, e, r⟩ := h; exact ⟨vs, e, r.adv wl ad⟩
  | dic ks l => obtain ⟨vs, e, k, r⟩ := h; exact ⟨vs, e, k, r.adv wl ad⟩
  | _ => exact h.elim
theorem RepDs.length : ∀ {ds : List D} {vs : List V}, RepDs K H W vs ds → vs.length = ds.length
  | [], _, h => by rw [show _ = [] from h]; rfl
  | _ :: _, _, h => by
    obtain ⟨v, r, rfl, _, s⟩ := h
    rw [List.length_cons, List.length_cons, RepDs.length s]
theorem RepDs.get : ∀ {ds : List D} {vs : List V} {i : Nat} {d : D}, RepDs K H W vs ds → ds[i]? = some d → ∃ v, vs[i]? = some v ∧ RepD K H W v d
  | [], _, _, _, _, e => by simp at e
  | _ :: _, _, 0, _, h, e => by
    obtain ⟨v, r, rfl, q, _⟩ := h
    simp at e; subst e; exact ⟨v, rfl, q⟩
  | _ :: _, _, i + 1, _, h, e => by
    obtain ⟨v, r, rfl, _, s⟩ := h
    obtain ⟨u, h1, h2⟩ := RepDs.get (i := i) s (by simpa using e)
    exact ⟨u, by simpa using h1, h2⟩
theorem RepDs.append : ∀ {ds es : List D} {vs us : List V}, RepDs K H W vs ds → RepDs K H W us es → RepDs K H W (vs ++ us) (ds ++ es)
  | [], _, _, _, h, q => by rw [show _ = [] from h]; exact q
  | _ :: _, _, _, _, h, q => by
    obtain ⟨v, r, rfl, a, s⟩ := h
    exact ⟨v, _, rfl, a, RepDs.append s q⟩
theorem RepDs.set {d : D} {v : V} (r : RepD K H W v d) : ∀ {ds : List D} {vs : List V} (i : Nat), RepDs K H W vs ds → RepDs K H W (vs.set i v) (ds.set i d)
  | [], _, _, h => by rw [show _ = [] from h]; rfl
  | _ :: _, _, 0, h => by
    obtain ⟨u, q, rfl, _, s⟩ := h
    exact ⟨v, q, rfl, r, s⟩
  | _ :: _, _, i + 1, h => by
    obtain ⟨u, q, rfl, a, s⟩ := h
    exact ⟨u, _, rfl, a, RepDs.set r i s⟩
theorem RepDs.take : ∀ {ds : List D} {vs : List V} (n : Nat), RepDs K H W vs ds → RepDs K H W (vs.take n) (ds.take n)
  | _, _, 0, _ => by simp [RepDs]
  | [], _, _ + 1, h => by rw [show _ = [] from h]; simp [RepDs]
  | _ :: _, _, n + 1, h => by
    obtain ⟨u, q, rfl, a, s⟩ := h
    exact ⟨u, _, rfl, a, RepDs.take n s⟩
theorem RepDs.drop : ∀ {ds : List D} {vs : List V} (n : Nat), RepDs K H W vs ds → RepDs K H W (vs.drop n) (ds.drop n)
  | _, _, 0, h => by simpa using h
  | [], _, _ + 1, h => by rw [show _ = [] from h]; simp [RepDs]
  | _ :: _, _, n + 1, h => by
    obtain ⟨u, q, rfl, a, s⟩ := h
    simpa using RepDs.drop n s
theorem RepDs.one {v : V} {d : D} (h : RepD K H W v d) : RepDs K H W [v] [d] := ⟨v, [], rfl, h, rfl⟩
theorem RepDs.of_get : ∀ {ds : List D} {vs : List V}, vs.length = ds.length → (∀ (i : Nat) (v : V) (d : D), vs[i]? = some v → ds[i]? = some d → RepD K H W v d) → RepDs K H W vs ds
  | [], vs, e, _ => by
    show vs = []
    exact List.length_eq_zero_iff.mp e
  | d :: ds, [], e, _ => by simp at e
  | d :: ds, v :: vs, e, h => ⟨v, vs, rfl, h 0 v d rfl rfl, RepDs.of_get (by simpa using e) fun i u c h1 h2 => h (i + 1) u c (by simpa using h1) (by simpa using h2)⟩
end

/-! ### slots -/
inductive S where
  | val (d : D) | own (b : Bool) (d : D) | lck (b : Bool) (d : D) | brz (d : D)
abbrev Env' := List (Option S)
abbrev Sg := List (Option V)

/-- slot i may change the object at a -/
def OwnU (σ : Sg) (ρ : Env') (i : Nat) (a : Addr) : Prop := (∃ b d, ρ[i]? = some (some (.own b d))) ∧ σ[i]? = some (some (.ref a))
/-- .. or bears it, locked -/
def OwnA (σ : Sg) (ρ : Env') (i : Nat) (a : Addr) : Prop := ((∃ b d, ρ[i]? = some (some (.own b d))) ∨ ∃ b d, ρ[i]? = some (some (.lck b d))) ∧ σ[i]? = some (some (.ref a))

/-- what is fixed through a def's body: the written part, what was free at the entry, the borrowed slots -/
structure Tc where
  K : PySem.W.Frag
  fz : AS
  bm : Nat → Option Addr

def RelS (T : Tc) (H : Hp) (W : AS) (o : Option V) : S → Prop
  | .val d => ∃ v, o = some v ∧ RepD T.K H W v d
  | .brz d => ∃ v, o = some v ∧ RepD T.K H W v d
  | .own _ d => ∃ a ob, o = some (.ref a) ∧ H a = some ob ∧ W a ∧ RepO T.K H W ob d
  | .lck _ d => ∃ a ob, o = some (.ref a) ∧ H a = some ob ∧ W a ∧ RepO T.K H W ob d

def isBor : S → Prop
  | .own true _ => True
  | .lck true _ => True
  | .brz _ => True
  | _ => False

structure Rel (T : Tc) (σ : Sg) (H : Hp) (ρ : Env') (W : AS) : Prop where
  len : ρ.length = σ.length
  at_ : ∀ (i : Nat) (s : S), ρ[i]? = some (some s) → ∃ o, σ[i]? = some o ∧ RelS T H W o s
  sep : ∀ i j a, OwnA σ ρ i a → OwnA σ ρ j a → i = j
  wl : WL H W
  fr : ∀ (i : Nat) (d : D) (a : Addr), (ρ[i]? = some (some (.own false d)) ∨ ρ[i]? = some (some (.lck false d))) → σ[i]? = some (some (.ref a)) → T.fz a
  fzk : ∀ a, H a = none → T.fz a
  bor : ∀ i a, T.bm i = some a → σ[i]? = some (some (.ref a)) ∧ ∃ s, ρ[i]? = some (some s) ∧ isBor s

/-- from one state to the next: what no unlocked slot bears is kept -/
def Step (σ : Sg) (H : Hp) (ρ : Env') (W : AS) (σ' : Sg) (H' : Hp) (ρ' : Env') (W' : AS) : Prop :=
  ∀ b o, H b = some o → (∀ i, ¬ OwnU σ ρ i b) → H' b = some o ∧ (∀ i, ¬ OwnU σ' ρ' i b) ∧ (W' b ↔ W b)

section
variable {T : Tc} {σ σ' σ2 : Sg} {H H' H2 : Hp} {ρ ρ' ρ2 : Env'} {W W' W2 : AS}
theorem Step.refl : Step σ H ρ W σ H ρ W := fun b o h n => ⟨h, n, Iff.rfl⟩
theorem Step.trans (a : Step σ H ρ W σ' H' ρ' W') (b : Step σ' H' ρ' W' σ2 H2 ρ2 W2) : Step σ H ρ W σ2 H2 ρ2 W2 := fun x o h n => by
  obtain ⟨h1, n1, w1⟩ := a x o h n
  obtain ⟨h2, n2, w2⟩ := b x o h1 n1
  exact ⟨h2, n2, w2.trans w1⟩
theorem OwnU.a {i : Nat} {a : Addr} (h : OwnU σ ρ i a) : OwnA σ ρ i a := ⟨.inl h.1, h.2⟩
theorem Rel.ownA (r : Rel T σ H ρ W) {i : Nat} {a : Addr} (h : OwnA σ ρ i a) : W a ∧ ∃ o, H a = some o ∧ Mk1 o := by
  obtain ⟨h1, h2⟩ := h
  rcases h1 with ⟨b, d, e⟩ | ⟨b, d, e⟩
  all_goals
    obtain ⟨o, e2, q⟩ := r.at_ _ _ e
    rw [h2] at e2; cases e2
    obtain ⟨a', ob, e3, e4, w, z⟩ := q
    cases e3
    exact ⟨w, ob, e4, z.mk1⟩
theorem Rel.nown (r : Rel T σ H ρ W) {b : Addr} (w : ¬ W b) (i : Nat) : ¬ OwnU σ ρ i b := fun h => w (r.ownA h.a).1
theorem Step.adv (s : Step σ H ρ W σ' H' ρ' W') (r : Rel T σ H ρ W) : Adv H W H' W' := fun b o h w => by
  obtain ⟨h1, _, w1⟩ := s b o h (r.nown w)
  exact ⟨h1, fun z => w (w1.mp z)⟩
end
end Dv

set_option Elab.async false
set_option linter.all false
set_option maxRecDepth 100000
namespace Dv
open PySem PySem.Spec PyProof.Rows L2

/-- what an expression hands on: data, a new mutable object, a slot's object -/
inductive P where
  | val (d : D) | own (d : D) | at_ (i : Nat)

def RepP (T : Tc) (σ : Sg) (H : Hp) (ρ : Env') (W : AS) (v : V) : P → Prop
  | .val d => RepD T.K H W v d
  | .own d => ∃ a o, v = .ref a ∧ H a = some o ∧ W a ∧ (∀ i, ¬ OwnA σ ρ i a) ∧ T.fz a ∧ RepO T.K H W o d
  | .at_ i => σ[i]? = some (some v)

/-- Step, but for the addresses in A -/
def StepX (A : AS) (σ : Sg) (H : Hp) (ρ : Env') (W : AS) (σ' : Sg) (H' : Hp) (ρ' : Env') (W' : AS) : Prop :=
  ∀ b o, H b = some o → (∀ i, ¬ OwnU σ ρ i b) → ¬ A b → H' b = some o ∧ (∀ i, ¬ OwnU σ' ρ' i b) ∧ (W' b ↔ W b)
/-- locked slots stay -/
def Lk (ρ ρ' : Env') : Prop := ∀ (i : Nat) (b : Bool) (d : D), ρ[i]? = some (some (.lck b d)) → ρ'[i]? = some (some (.lck b d))
def Mon (σ : Sg) (ρ ρ' : Env') : Prop := ∀ i a, OwnA σ ρ' i a → OwnA σ ρ i a

def peek : P → Env' → Option D
  | .val d, _ => some d
  | .own d, _ => some d
  | .at_ i, ρ => match ρ[i]? with
    | some (some (.val d)) => some d
    | some (some (.own _ d)) => some d
    | some (some (.lck _ d)) => some d
    | some (some (.brz d)) => some d
    | _ => none
def thaw (b : Bool) (d : D) : S := match b with | true => .brz d | false => .val d
def toD : P → Env' → Option (D × Env')
  | .val d, ρ => some (d, ρ)
  | .own d, ρ => some (d, ρ)
  | .at_ i, ρ => match ρ[i]? with
    | some (some (.val d)) => some (d, ρ)
    | some (some (.brz d)) => some (d, ρ)
    | some (some (.own b d)) => some (d, ρ.set i (some (thaw b d)))
    | _ => none
def toDs : List P → Env' → Option (List D × Env')
  | [], ρ => some ([], ρ)
  | p :: ps, ρ => (toD p ρ).bind fun r => (toDs ps r.2).bind fun q => some (r.1 :: q.1, q.2)

/-- data as it may be read now -/
def RepK (K : PySem.W.Frag) (H : Hp) (W : AS) (v : V) (d : D) : Prop := (∃ a o, v = .ref a ∧ H a = some o ∧ RepO K H W o d) ∨ RepD K H W v d

section
variable {T : Tc} {σ σ' σ2 : Sg} {H H' H2 : Hp} {ρ ρ' ρ2 : Env'} {W W' W2 : AS} {A : AS}
theorem Step.x (s : Step σ H ρ W σ' H' ρ' W') : StepX A σ H ρ W σ' H' ρ' W' := fun b o h n _ => s b o h n
theorem Step.then (a : Step σ H ρ W σ' H' ρ' W') (b : StepX A σ' H' ρ' W' σ2 H2 ρ2 W2) (n : ∀ x, A x → H x = none) : Step σ H ρ W σ2 H2 ρ2 W2 := fun x o h m => by
  obtain ⟨h1, n1, w1⟩ := a x o h m
  obtain ⟨h2, n2, w2⟩ := b x o h1 n1 fun z => by rw [n x z] at h; cases h
  exact ⟨h2, n2, w2.trans w1⟩
theorem Lk.refl : Lk ρ ρ := fun _ _ _ h => h
theorem Lk.trans (a : Lk ρ ρ') (b : Lk ρ' ρ2) : Lk ρ ρ2 := fun i c d h => b i c d (a i c d h)
theorem Lk.set {i : Nat} {s : Option S} (h : ∀ b d, ρ[i]? ≠ some (some (.lck b d))) : Lk ρ (ρ.set i s) := fun j b d e => by
  have ne : i ≠ j := fun z => h b d (by rw [z]; exact e)
  rw [List.getElem?_set_ne ne]
  exact e
theorem Mon.refl : Mon σ ρ ρ := fun _ _ h => h
theorem Mon.trans (a : Mon σ ρ ρ') (b : Mon σ ρ' ρ2) : Mon σ ρ ρ2 := fun i x h => a i x (b i x h)

theorem RepD.k {K : PySem.W.Frag} {v : V} {d : D} (h : RepD K H W v d) : RepK K H W v d := .inr h
theorem RepK.lst {K : PySem.W.Frag} {v : V} {l : List D} (h : RepK K H W v (.lst l)) : ∃ a vs, v = .ref a ∧ H a = some (.lst vs) ∧ RepDs K H W vs l := by
  rcases h with ⟨a, o, e, r, vs, rfl, q⟩ | ⟨a, vs, e, r, _, q⟩
  · exact ⟨a, vs, e, r, q⟩
  · exact ⟨a, vs, e, r, q⟩
theorem RepK.dic {K : PySem.W.Frag} {v : V} {ks : List Key} {l : List D} (h : RepK K H W v (.dic ks l)) : ∃ a kvs, v = .ref a ∧ H a = some (.dK kvs) ∧ kvs.map (·.1) = ks ∧ RepDs K H W (kvs.map (·.2)) l := by
  rcases h with ⟨a, o, e, r, vs, rfl, q⟩ | ⟨a, vs, e, r, _, q⟩
  · exact ⟨a, vs, e, r, q⟩
  · exact ⟨a, vs, e, r, q⟩
theorem RepK.tup {K : PySem.W.Frag} {v : V} {l : List D} (h : RepK K H W v (.tup l)) : ∃ a vs, v = .ref a ∧ TupL K H a vs ∧ RepDs K H W vs l := by
  rcases h with ⟨a, o, e, r, q⟩ | h
  · exact q.elim
  · exact h
theorem RepK.scr {K : PySem.W.Frag} {v : V} {l : List Int} (h : RepK K H W v (.scr l)) : ∃ a, v = .ref a ∧ SqL K H a (l.map V.int) := by
  rcases h with ⟨a, o, e, r, q⟩ | ⟨a, e, q⟩
  · exact q.elim
  · exact ⟨a, e, q.sq⟩
theorem RepK.int {K : PySem.W.Frag} {v : V} {i : Int} (h : RepK K H W v (.int i)) : v = .int i := by
  rcases h with ⟨a, o, e, r, q⟩ | h
  · exact q.elim
  · exact h
theorem RepK.bl {K : PySem.W.Frag} {v : V} {i : Bool} (h : RepK K H W v (.bl i)) : v = .bl i := by
  rcases h with ⟨a, o, e, r, q⟩ | h
  · exact q.elim
  · exact h
theorem RepK.str {K : PySem.W.Frag} {v : V} {i : Str} (h : RepK K H W v (.str i)) : v = .str i := by
  rcases h with ⟨a, o, e, r, q⟩ | h
  · exact q.elim
  · exact h
theorem RepK.non {K : PySem.W.Frag} {v : V} (h : RepK K H W v .non) : v = .non := by
  rcases h with ⟨a, o, e, r, q⟩ | h
  · exact q.elim
  · exact h

theorem peek_ok (R : Rel T σ H ρ W) {p : P} {v : V} (h : RepP T σ H ρ W v p) {d : D} (e : peek p ρ = some d) : RepK T.K H W v d := by
  cases p with
  | val c => cases e; exact .inr h
  | own c =>
    cases e
    obtain ⟨a, o, e1, e2, _, _, _, q⟩ := h
    exact .inl ⟨a, o, e1, e2, q⟩
  | at_ i =>
    have h : σ[i]? = some (some v) := h
    have key : ∀ s : S, ρ[i]? = some (some s) → RelS T H W (some v) s := fun s es => by
      obtain ⟨o, e1, q⟩ := R.at_ i s es
      rw [h] at e1; cases e1; exact q
    simp only [peek] at e
    split at e
    · rename_i c es; cases e
      obtain ⟨u, z, q⟩ := key _ es
      cases z; exact .inr q
    · rename_i c es; cases e
      obtain ⟨a, ob, z, e2, _, q⟩ := key _ es
      cases z; exact .inl ⟨a, ob, rfl, e2, q⟩
    · rename_i c es; cases e
      obtain ⟨a, ob, z, e2, _, q⟩ := key _ es
      cases z; exact .inl ⟨a, ob, rfl, e2, q⟩
    · rename_i c es; cases e
      obtain ⟨u, z, q⟩ := key _ es
      cases z; exact .inr q
    · cases e

/-- what is held while something else runs -/
theorem RepP.step {v : V} {p : P} (h : RepP T σ H ρ W v p) (R : Rel T σ H ρ W) (s : Step σ H ρ W σ H' ρ' W') (m : Mon σ ρ ρ') : RepP T σ H' ρ' W' v p := by
  cases p with
  | val d => exact RepD.adv R.wl (s.adv R) h
  | own d =>
    obtain ⟨a, o, e, ha, w, n, f, q⟩ := h
    obtain ⟨h1, n1, w1⟩ := s a o ha fun i z => n i z.a
    exact ⟨a, o, e, h1, w1.mpr w, fun i z => n i (m i a z), f, q.adv R.wl (s.adv R)⟩
  | at_ i => exact h

/-- fewer may be changed: W shrinks by one address -/
theorem RepD.drop {K : PySem.W.Frag} {v : V} {d : D} (wl : WL H W) {a : Addr} (h : RepD K H W v d) : RepD K H (fun b => W b ∧ b ≠ a) v d :=
  h.adv wl fun b o e w => ⟨e, fun z => w z.1⟩
theorem RepO.drop {K : PySem.W.Frag} {o : HO} {d : D} (wl : WL H W) {a : Addr} (h : RepO K H W o d) : RepO K H (fun b => W b ∧ b ≠ a) o d :=
  h.adv wl fun b o e w => ⟨e, fun z => w z.1⟩
theorem RepO.d {K : PySem.W.Frag} {a : Addr} {o : HO} {d : D} (h : RepO K H W o d) (e : H a = some o) (w : ¬ W a) : RepD K H W (.ref a) d := by
  cases d with
  | lst l => obtain ⟨vs, rfl, q⟩ := h; exact ⟨a, vs, rfl, e, w, q⟩
  | dic ks l => obtain ⟨vs, rfl, k, q⟩ := h; exact ⟨a, vs, rfl, e, w, k, q⟩
  | _ => exact h.elim
theorem WL.drop (wl : WL H W) {a : Addr} : WL H (fun b => W b ∧ b ≠ a) := fun b w => wl b w.1

theorem getq_set {α : Type} {l : List α} {i j : Nat} {x y : α} (h : (l.set i x)[j]? = some y) : (i = j ∧ x = y ∧ i < l.length) ∨ (i ≠ j ∧ l[j]? = some y) := by
  by_cases e : i = j
  · subst e
    by_cases z : i < l.length
    · rw [List.getElem?_set_self z] at h
      exact .inl ⟨rfl, Option.some.inj h, z⟩
    · rw [List.getElem?_eq_none (by simpa using z)] at h; cases h
  · rw [List.getElem?_set_ne e] at h
    exact .inr ⟨e, h⟩

/-- a slot's object frozen -/
theorem freeze_at (R : Rel T σ H ρ W) {i : Nat} {b : Bool} {d : D} {v : V} (e : ρ[i]? = some (some (.own b d))) (hv : σ[i]? = some (some v)) :
    ∃ W', Rel T σ H (ρ.set i (some (thaw b d))) W' ∧ RepD T.K H W' v d ∧ Step σ H ρ W σ H (ρ.set i (some (thaw b d))) W' ∧ Mon σ ρ (ρ.set i (some (thaw b d))) := by
  obtain ⟨o, e1, a, ob, e2, ha, wa, q⟩ := R.at_ i _ e
  rw [hv] at e1; cases e1; cases e2
  have hi : i < ρ.length := (List.getElem?_eq_some_iff.mp e).1
  have oi : OwnU σ ρ i a := ⟨⟨b, d, e⟩, hv⟩
  have nt : ∀ c x y, thaw c x ≠ .own y d ∧ ∀ z, thaw c x ≠ .own y z ∧ thaw c x ≠ .lck y z := fun c x y => by cases c <;> simp [thaw]
  have mon : Mon σ ρ (ρ.set i (some (thaw b d))) := fun j x h => by
    obtain ⟨h1, h2⟩ := h
    rcases h1 with ⟨c, z, h1⟩ | ⟨c, z, h1⟩
    · rcases getq_set h1 with ⟨rfl, k, _⟩ | ⟨_, k⟩
      · exact absurd (Option.some.inj k) ((nt b d c).2 z).1
      · exact ⟨.inl ⟨c, z, k⟩, h2⟩
    · rcases getq_set h1 with ⟨rfl, k, _⟩ | ⟨_, k⟩
      · exact absurd (Option.some.inj k) ((nt b d c).2 z).2
      · exact ⟨.inr ⟨c, z, k⟩, h2⟩
  have nO : ∀ j, ¬ OwnA σ (ρ.set i (some (thaw b d))) j a := fun j h => by
    have hj := R.sep _ _ _ (mon j a h) oi.a
    subst hj
    obtain ⟨h1, _⟩ := h
    rcases h1 with ⟨c, z, h1⟩ | ⟨c, z, h1⟩ <;> rw [List.getElem?_set_self hi] at h1
    · exact absurd (Option.some.inj (Option.some.inj h1)) ((nt b d c).2 z).1
    · exact absurd (Option.some.inj (Option.some.inj h1)) ((nt b d c).2 z).2
  refine ⟨fun x => W x ∧ x ≠ a, ⟨by simpa using R.len, fun j s h => ?_, fun j k x h1 h2 => R.sep j k x (mon j x h1) (mon k x h2), R.wl.drop, fun j z x h1 h2 => ?_, R.fzk, fun j x h => ?_⟩, ?_, fun x o h n => ?_, mon⟩
  · rcases getq_set h with ⟨rfl, k, _⟩ | ⟨ne, k⟩
    · cases k
      refine ⟨_, hv, ?_⟩
      have fin : RepD T.K H (fun x => W x ∧ x ≠ a) (.ref a) d := (q.drop R.wl).d ha fun z => z.2 rfl
      cases b <;> exact ⟨_, rfl, fin⟩
    · obtain ⟨o, e3, r⟩ := R.at_ j s k
      refine ⟨o, e3, ?_⟩
      cases s with
      | val c => obtain ⟨u, e4, z⟩ := r; exact ⟨u, e4, z.drop R.wl⟩
      | brz c => obtain ⟨u, e4, z⟩ := r; exact ⟨u, e4, z.drop R.wl⟩
      | own c x =>
        obtain ⟨a', ob', e4, e5, e6, z⟩ := r
        subst e4
        exact ⟨a', ob', rfl, e5, ⟨e6, fun z => ne (by subst z; exact R.sep _ _ _ oi.a ⟨.inl ⟨c, x, k⟩, e3⟩)⟩, z.drop R.wl⟩
      | lck c x =>
        obtain ⟨a', ob', e4, e5, e6, z⟩ := r
        subst e4
        exact ⟨a', ob', rfl, e5, ⟨e6, fun z => ne (by subst z; exact R.sep _ _ _ oi.a ⟨.inr ⟨c, x, k⟩, e3⟩)⟩, z.drop R.wl⟩
  · have back : ρ[j]? = some (some (.own false z)) ∨ ρ[j]? = some (some (.lck false z)) := by
      rcases h1 with h1 | h1
      · rcases getq_set h1 with ⟨rfl, k, _⟩ | ⟨_, k⟩
        · exact absurd (Option.some.inj k) ((nt b d false).2 z).1
        · exact .inl k
      · rcases getq_set h1 with ⟨rfl, k, _⟩ | ⟨_, k⟩
        · exact absurd (Option.some.inj k) ((nt b d false).2 z).2
        · exact .inr k
    exact R.fr j z x back h2
  · obtain ⟨h1, s, h2, h3⟩ := R.bor j x h
    refine ⟨h1, ?_⟩
    by_cases ej : i = j
    · subst ej
      refine ⟨thaw b d, by rw [List.getElem?_set_self hi], ?_⟩
      rw [e] at h2; cases h2
      cases b with
      | true => trivial
      | false => exact h3.elim
    · exact ⟨s, by rw [List.getElem?_set_ne ej]; exact h2, h3⟩
  · exact (q.drop R.wl).d ha fun z => z.2 rfl
  · refine ⟨h, fun j z => n j ?_, ?_⟩
    · obtain ⟨⟨c, y, h1⟩, h2⟩ := z
      rcases getq_set h1 with ⟨rfl, k, _⟩ | ⟨_, k⟩
      · exact absurd (Option.some.inj k) ((nt b d c).2 y).1
      · exact ⟨⟨c, y, k⟩, h2⟩
    · exact ⟨fun z => z.1, fun z => ⟨z, fun y => n i (by subst y; exact oi)⟩⟩

/-- a new mutable object that nobody bears, frozen -/
theorem freeze_own (R : Rel T σ H ρ W) {a : Addr} {o : HO} {d : D} (ha : H a = some o) (wa : W a) (no : ∀ i, ¬ OwnA σ ρ i a) (q : RepO T.K H W o d) :
    ∃ W', Rel T σ H ρ W' ∧ RepD T.K H W' (.ref a) d ∧ StepX (fun x => x = a) σ H ρ W σ H ρ W' := by
  refine ⟨fun x => W x ∧ x ≠ a, ⟨R.len, fun j s k => ?_, R.sep, R.wl.drop, R.fr, R.fzk, R.bor⟩, (q.drop R.wl).d ha fun z => z.2 rfl, fun x o h n na => ⟨h, n, fun z => z.1, fun z => ⟨z, na⟩⟩⟩
  obtain ⟨o, e3, r⟩ := R.at_ j s k
  refine ⟨o, e3, ?_⟩
  cases s with
  | val c => obtain ⟨u, e4, z⟩ := r; exact ⟨u, e4, z.drop R.wl⟩
  | brz c => obtain ⟨u, e4, z⟩ := r; exact ⟨u, e4, z.drop R.wl⟩
  | own c x =>
    obtain ⟨a', ob', e4, e5, e6, z⟩ := r
    subst e4
    exact ⟨a', ob', rfl, e5, ⟨e6, fun z => no j (by subst z; exact ⟨.inl ⟨c, x, k⟩, e3⟩)⟩, z.drop R.wl⟩
  | lck c x =>
    obtain ⟨a', ob', e4, e5, e6, z⟩ := r
    subst e4
    exact ⟨a', ob', rfl, e5, ⟨e6, fun z => no j (by subst z; exact ⟨.inr ⟨c, x, k⟩, e3⟩)⟩, z.drop R.wl⟩

/-- the address of a new object handed on -/
def tmp (v : V) : P → AS
  | .own _ => fun a => v = .ref a
  | _ => fun _ => False

theorem toD_ok (R : Rel T σ H ρ W) {p : P} {v : V} (h : RepP T σ H ρ W v p) {d : D} (e : toD p ρ = some (d, ρ')) :
    ∃ W', Rel T σ H ρ' W' ∧ RepD T.K H W' v d ∧ StepX (tmp v p) σ H ρ W σ H ρ' W' ∧ Mon σ ρ ρ' ∧ Lk ρ ρ' := by
  cases p with
  | val c => cases e; exact ⟨W, R, h, Step.refl.x, .refl, .refl⟩
  | own c =>
    cases e
    obtain ⟨a, o, rfl, e2, w, n, _, q⟩ := h
    obtain ⟨W', R', q', s⟩ := freeze_own R e2 w n q
    exact ⟨W', R', q', fun b o h n na => s b o h n fun z => na (by subst z; rfl), .refl, .refl⟩
  | at_ i =>
    have h : σ[i]? = some (some v) := h
    simp only [toD] at e
    split at e
    · rename_i c es; cases e
      obtain ⟨o, e1, u, e2, q⟩ := R.at_ i _ es
      rw [h] at e1; cases e1; cases e2
      exact ⟨W, R, q, Step.refl.x, .refl, .refl⟩
    · rename_i c es; cases e
      obtain ⟨o, e1, u, e2, q⟩ := R.at_ i _ es
      rw [h] at e1; cases e1; cases e2
      exact ⟨W, R, q, Step.refl.x, .refl, .refl⟩
    · rename_i b c es; cases e
      obtain ⟨W', R', q, s, m⟩ := freeze_at R es h
      exact ⟨W', R', q, s.x, m, Lk.set fun b' d' z => by rw [es] at z; cases z⟩
    · cases e
end
end Dv

set_option Elab.async false
set_option linter.all false
set_option maxRecDepth 100000
namespace Dv
open PySem PySem.Spec PyProof.Rows L2

/-- an error: its class's name, its attributes -/
structure Er where
  cls : Str
  val : List (Str × D)
inductive Rs (α : Type) where
  | bad | err (e : Er) | ok (a : α)
def Rs.bind {α β : Type} : Rs α → (α → Rs β) → Rs β
  | .bad, _ => .bad
  | .err e, _ => .err e
  | .ok a, f => f a
def Rs.of {α : Type} : Option α → Rs α
  | none => .bad
  | some a => .ok a
/-- nothing is raised -/
def Rs.quiet {α : Type} : Rs α → Rs α
  | .ok a => .ok a
  | _ => .bad
noncomputable section
/-- a side condition; decided by nobody, so no instance stands in the way -/
def need (p : Prop) {α : Type} (x : Rs α) : Rs α := @ite _ p (Classical.propDecidable p) x .bad

/-- a def's argument, its result -/
inductive A where
  | val (d : D) | own (d : D) | rd (d : D)
inductive Re where
  | val (d : D) | own (d : D)
structure Fn where
  call : Str → List A → Rs (Re × List A)
  glo : Str → Option D
  dfl : Str → Nat → List D

/-! ### data -/
mutual
def toPy : D → PyData
  | .non => .none
  | .bl b => .bool b
  | .int i => .int i
  | .str x => .str x
  | .tup l => .tuple (toPys l)
  | .lst l => .list (toPys l)
  | .dic _ _ => .dict []
  | .scr _ => .dict []
def toPys : List D → List PyData
  | [] => []
  | d :: ds => toPy d :: toPys ds
end
def shp (d : D) : Bool := SeqAt.shaped (toPy d)
def deq (d e : D) : Bool := PyData.eqv (toPy d) (toPy e)
def chr1 (c : Nat) : Str := ⟨#[c]⟩
def strIn (i j : Str) : Bool := !(Builtin.Str.occurrences j i 0 j.length 1).isEmpty

instance {i j : Int} : Decidable (CMulX i j) := by unfold CMulX; infer_instance
instance {i j : Int} : Decidable (CShl i j) := by unfold CShl; infer_instance
instance {i j : Int} : Decidable (CPow i j) := by unfold CPow; infer_instance
def CDvX (i j : Int) : Prop := j ≠ 0 ∧ Builtin.divisionGoesByPylong i j = false
instance {i j : Int} : Decidable (CDvX i j) := by unfold CDvX; infer_instance

instance {x : Str} {n : Int} : Decidable (MulOk x n) := by unfold MulOk; infer_instance
def dBin : Operator → D → D → Rs P
  | .Add, .int i, .int j => .ok (.val (.int (i + j)))
  | .Add, .str x, .str y => need (x.length + y.length ≤ sizeLine) (.ok (.val (.str (x ++ y))))
  | .Add, .lst a, .lst b => need (a.length + b.length ≤ sizeLine) (.ok (.own (.lst (a ++ b))))
  | .Add, .tup a, .tup b => need (a.length + b.length ≤ sizeLine) (.ok (.val (.tup (a ++ b))))
  | .Sub, .int i, .int j => .ok (.val (.int (i - j)))
  | .Mult, .int i, .int j => need (CMulX i j) (.ok (.val (.int (i * j))))
  | .Mult, .lst l, .int k => need (-(2 ^ 63) ≤ k ∧ k < 2 ^ 63 ∧ l.length * k.toNat ≤ sizeLine) (.ok (.own (.lst (List.replicate k.toNat l).flatten)))
  | .Mult, .str x, .int n => need (MulOk x n) (.ok (.val (.str (Txt.mul x n))))
  | .FloorDiv, .int i, .int j => need (CDvX i j) (.ok (.val (.int (i.fdiv j))))
  | .Mod, .int i, .int j => need (j ≠ 0) (.ok (.val (.int (i.fmod j))))
  | .Pow, .int i, .int j => need (CPow i j) (.ok (.val (.int (i ^ j.toNat))))
  | .LShift, .int i, .int j => need (CShl i j) (.ok (.val (.int (i * 2 ^ j.toNat))))
  | _, _, _ => .bad

def dIn (x y : D) : Rs Bool := match y with
  | .str j => match x with
    | .str i => .ok (strIn i j)
    | _ => .bad
  | .lst l => need (shp x = true ∧ shp (.lst l) = true) (.ok (l.any fun z => deq z x))
  | .tup l => need (shp x = true ∧ shp (.tup l) = true) (.ok (l.any fun z => deq z x))
  | _ => .bad
def dCmp : CmpOp → D → D → Rs Bool
  | .Eq, a, b => need (shp a = true ∧ shp b = true) (.ok (deq a b))
  | .NotEq, a, b => need (shp a = true ∧ shp b = true) (.ok (!deq a b))
  | .Lt, .int i, .int j => .ok (decide (i < j))
  | .LtE, .int i, .int j => .ok (decide (i ≤ j))
  | .Gt, .int i, .int j => .ok (decide (j < i))
  | .GtE, .int i, .int j => .ok (decide (j ≤ i))
  | .Is, a, .non => .ok (match a with | .non => true | _ => false)
  | .IsNot, a, .non => .ok (match a with | .non => false | _ => true)
  | .In, a, b => dIn a b
  | .NotIn, a, b => (dIn a b).bind fun c => .ok (!c)
  | _, _, _ => .bad

def truth : D → Rs Bool
  | .non => .ok false
  | .bl b => .ok b
  | .int i => .ok (i != 0)
  | .str x => need (x.length ≤ sizeLine) (.ok ((x.length : Int) != 0))
  | .tup l => .ok (!l.isEmpty)
  | .lst l => .ok (!l.isEmpty)
  | .dic ks _ => .ok (!ks.isEmpty)
  | .scr l => .ok (!l.isEmpty)

def dIdx : D → D → Rs D
  | .tup l, .int i => .of (atI l i)
  | .lst l, .int i => .of (atI l i)
  | .scr l, .int i => (Rs.of (atI l i)).bind fun k => .ok (.int k)
  | .str z, .int i => need (z.length ≤ sizeLine) ((Rs.of (atI z.cps.toList i)).bind fun c => .ok (.str (chr1 c)))
  | _, _ => .bad

/-- what a loop walks -/
def items : D → Rs (List D)
  | .tup l => .ok l
  | .lst l => .ok l
  | .scr l => .ok (l.map .int)
  | .str x => .ok (x.cps.toList.map fun c => .str (chr1 c))
  | _ => .bad

/-- .. of a list -/
def itemsL : D → Rs (List D)
  | .lst l => .ok l
  | _ => .bad
inductive Ty where
  | tup | lst | int | str | bool
  deriving DecidableEq
/-- built-in functions of values -/
inductive Bl where
  | len | abs | int | tuple | list | all | any | sum | gcd | min2 | max2 | str
  deriving DecidableEq
def dLen : D → Rs Nat
  | .tup l => .ok l.length
  | .lst l => .ok l.length
  | .scr l => .ok l.length
  | .str x => need (x.length ≤ sizeLine) (.ok x.length)
  | _ => .bad
def bls : List D → Option (List Bool)
  | [] => some []
  | .bl b :: ds => (bls ds).map (b :: ·)
  | _ :: _ => none
def intsD : List D → Option (List Int)
  | [] => some []
  | .int b :: ds => (intsD ds).map (b :: ·)
  | _ :: _ => none
def strsD : List D → Option (List Str)
  | [] => some []
  | .str b :: ds => (strsD ds).map (b :: ·)
  | _ :: _ => none
def isTy : Ty → D → Rs Bool
  | .tup, .tup _ => .ok true
  | .lst, .lst _ => .ok true
  | .int, .int _ => .ok true
  | .int, .bl _ => .ok true
  | .bool, .bl _ => .ok true
  | .str, .str _ => .ok true
  | _, .dic _ _ => .bad
  | _, .scr _ => .bad
  | _, _ => .ok false
def dBl : Bl → List D → Rs P
  | .len, [d] => (dLen d).bind fun n => .ok (.val (.int n))
  | .abs, [.int i] => .ok (.val (.int (if i < 0 then -i else i)))
  | .int, [.int i] => .ok (.val (.int i))
  | .int, [.bl k] => .ok (.val (.int (if k then 1 else 0)))
  | .tuple, [.tup l] => .ok (.val (.tup l))
  | .tuple, [.lst l] => .ok (.val (.tup l))
  | .tuple, [.scr l] => .ok (.val (.tup (l.map .int)))
  | .list, [.tup l] => .ok (.own (.lst l))
  | .list, [.lst l] => .ok (.own (.lst l))
  | .list, [.scr l] => .ok (.own (.lst (l.map .int)))
  | .all, [.lst l] => (Rs.of (bls l)).bind fun bs => .ok (.val (.bl (bs.all id)))
  | .any, [.lst l] => (Rs.of (bls l)).bind fun bs => .ok (.val (.bl (bs.any id)))
  | .sum, [.lst l] => (Rs.of (intsD l)).bind fun is => .ok (.val (.int is.sum))
  | .gcd, [.int i, .int j] => .ok (.val (.int ((Nat.gcd i.natAbs j.natAbs : Nat) : Int)))
  | .min2, [.int i, .int j] => .ok (.val (.int (if j < i then j else i)))
  | .max2, [.int i, .int j] => .ok (.val (.int (if j > i then j else i)))
  | _, _ => .bad
def optI : Option D → Option (Option Int)
  | none => some none
  | some (.int i) => some (some i)
  | _ => none
def dSlc : D → Option Int → Option Int → Rs P
  | .str z, lo, hi => need (z.length ≤ sizeLine) (.ok (.val (.str (cutS z lo hi))))
  | .lst l, lo, hi => .ok (.own (.lst ((l.drop (HT.sIx l.length 0 lo)).take (HT.sIx l.length l.length hi - HT.sIx l.length 0 lo))))
  | .tup l, lo, hi => .ok (.val (.tup ((l.drop (HT.sIx l.length 0 lo)).take (HT.sIx l.length l.length hi - HT.sIx l.length 0 lo))))
  | _, _, _ => .bad
/-- methods that change nothing -/
inductive Me where
  | join | split | index
def dMe : Me → D → List D → Rs P
  | .join, .str a, [.lst l] => (Rs.of (strsD l)).bind fun ys => need ((ys.map (·.length)).sum + ys.length * a.length ≤ 16777216) (.ok (.val (.str (Txt.join a ys))))
  | .join, .str a, [.tup l] => (Rs.of (strsD l)).bind fun ys => need ((ys.map (·.length)).sum + ys.length * a.length ≤ 16777216) (.ok (.val (.str (Txt.join a ys))))
  | .split, .str a, [.str b] => need ((b.length == 0) = false ∧ a.length + 2 ≤ sizeLine) (.ok (.own (.lst ((Txt.split a b).map .str))))
  | .index, .lst l, [x] => need (shp x = true ∧ shp (.lst l) = true) (match l.findIdx? fun z => deq z x with | some j => .ok (.val (.int (j : Nat))) | none => .bad)
  | _, _, _ => .bad
/-- methods that change their list: the value, the list -/
inductive Mm where
  | append | pop | popAt | insert
def dMm : Mm → D → List D → Rs (D × D)
  | .append, .lst l, [d] => need (l.length < sizeLine) (.ok (.non, .lst (l ++ [d])))
  | .pop, .lst l, [] => (Rs.of (l[l.length - 1]?)).bind fun y => .ok (y, .lst l.dropLast)
  | .insert, .lst l, [.int i, d] => need (l.length < sizeLine ∧ 0 ≤ i ∧ i < 2 ^ 63) (.ok (.non, .lst (l.take i.toNat ++ [d] ++ l.drop i.toNat)))
  | .popAt, .lst l, [.int i] => need (-(2 ^ 63) ≤ i ∧ i < 2 ^ 63) ((Rs.of (seqIndex? i l.length)).bind fun k => (Rs.of l[k]?).bind fun y => .ok (y, .lst (l.eraseIdx k)))
  | _, _, _ => .bad

/-! ### the text, names by slots -/
inductive Tg where
  | nm (i : Nat)
  | tp (l : List Nat)
mutual
inductive Ex where
  | var (i : Nat)
  | cst (d : D)
  | glo (x : Str)
  | bin (op : Operator) (a b : Ex)
  | neg (a : Ex)
  | cmp (op : CmpOp) (a b : Ex)
  | chn (op op' : CmpOp) (a b c : Ex)
  | and_ (l : Exs)
  | or_ (l : Exs)
  | not_ (a : Ex)
  | ite (c : Tx) (a b : Ex)
  | tup (l : Exs)
  | lst (l : Exs)
  | idx (a i : Ex)
  | slc (a : Ex) (lo hi : Eo)
  | call (f : Str) (l : Exs)
  | blt (b : Bl) (l : Exs)
  | isi (t : Ty) (a : Ex)
  | met (m : Me) (o : Ex) (l : Exs)
  | chg (m : Mm) (i : Nat) (l : Exs)
  | comp (elt : Ex) (tg : Tg) (it : Ie) (ifs : To) (own : List Nat)
inductive Exs where
  | nil
  | cons (e : Ex) (l : Exs)
inductive Eo where
  | none
  | some (e : Ex)
inductive Tx where
  | val (e : Ex)
  | cmp (op : CmpOp) (a b : Ex)
  | and_ (l : Txs)
  | or_ (l : Txs)
  | not_ (t : Tx)
inductive Txs where
  | nil
  | cons (t : Tx) (l : Txs)
inductive To where
  | none
  | some (t : Tx)
inductive Ie where
  | seq (e : Ex)
  | rng (a : Ex)
  | rng2 (a b : Ex)
  | enm (e : Ex)
  | zip (l : Exs)
end

def hasTy : Me → D → Bool
  | .join, .str _ => true
  | .split, .str _ => true
  | .index, .lst _ => true
  | _, _ => false
def isLst : D → Bool
  | .lst _ => true
  | _ => false
/-! ### the environment -/
def evVar (i : Nat) (ρ : Env') : Rs (P × Env') := match ρ[i]? with
  | some (some (.val d)) => .ok (.val d, ρ)
  | some (some (.brz d)) => .ok (.val d, ρ)
  | some (some (.own _ _)) => .ok (.at_ i, ρ)
  | some (some (.lck _ _)) => .ok (.at_ i, ρ)
  | _ => .bad
/-- may slot i be stored anew? -/
def freeSlot (i : Nat) (ρ : Env') : Bool := match ρ[i]? with
  | some none => true
  | some (some (.val _)) => true
  | some (some (.own false _)) => true
  | _ => false
def putV (i : Nat) (d : D) (ρ : Env') : Rs Env' := if freeSlot i ρ = true then .ok (ρ.set i (some (.val d))) else .bad
def putVs : List Nat → List D → Env' → Rs Env'
  | [], [], ρ => .ok ρ
  | i :: is, d :: ds, ρ => (putV i d ρ).bind (putVs is ds)
  | _, _, _ => .bad
def asgT : Tg → D → Env' → Rs Env'
  | .nm i, d, ρ => putV i d ρ
  | .tp is, .tup ds, ρ => putVs is ds ρ
  | _, _, _ => .bad
/-- x = p -/
def asgP (i : Nat) (p : P) (ρ : Env') : Rs Env' := match p with
  | .val d => putV i d ρ
  | .own d => if freeSlot i ρ = true then .ok (ρ.set i (some (.own false d))) else .bad
  | .at_ j => (Rs.of (toD (.at_ j) ρ)).bind fun r => putV i r.1 r.2
def lockP (p : P) (ρ : Env') : Option Nat × Env' := match p with
  | .at_ i => match ρ[i]? with
    | some (some (.own b d)) => (some i, ρ.set i (some (.lck b d)))
    | _ => (none, ρ)
  | _ => (none, ρ)
def unlock (o : Option Nat) (ρ : Env') : Rs Env' := match o with
  | none => .ok ρ
  | some i => match ρ[i]? with
    | some (some (.lck b d)) => .ok (ρ.set i (some (.own b d)))
    | _ => .bad
def wipeR (ρ : Env') : List Nat → Env'
  | [] => ρ
  | v :: vs => (wipeR ρ vs).set v none
/-- a comprehension's own slots as they were -/
def backR (ρ0 ρ : Env') : List Nat → Env'
  | [] => ρ
  | v :: vs => (backR ρ0 ρ vs).set v (ρ0.getD v none)
def setMut (i : Nat) (d : D) (ρ : Env') : Rs Env' := match ρ[i]? with
  | some (some (.own b _)) => .ok (ρ.set i (some (.own b d)))
  | _ => .bad

/-! ### calls -/
def toArg (p : P) (ρ : Env') : Rs A := match p with
  | .val d => .ok (.val d)
  | .own d => .ok (.own d)
  | .at_ i => match ρ[i]? with
    | some (some (.val d)) => .ok (.val d)
    | some (some (.brz d)) => .ok (.val d)
    | some (some (.own _ d)) => .ok (.own d)
    | some (some (.lck _ d)) => .ok (.rd d)
    | _ => .bad
def toArgs : List P → Env' → Rs (List A)
  | [], _ => .ok []
  | p :: ps, ρ => (toArg p ρ).bind fun a => (toArgs ps ρ).bind fun as => .ok (a :: as)
def ats : List P → List Nat
  | [] => []
  | .at_ i :: ps => i :: ats ps
  | _ :: ps => ats ps
def backArg (p : P) (a : A) (ρ : Env') : Rs Env' := match p with
  | .at_ i => match ρ[i]? with
    | some (some (.own b _)) => (match a with
      | .own d => .ok (ρ.set i (some (.own b d)))
      | .val d => .ok (ρ.set i (some (thaw b d)))
      | .rd _ => .bad)
    | _ => .ok ρ
  | _ => .ok ρ
def backArgs : List P → List A → Env' → Rs Env'
  | [], _, ρ => .ok ρ
  | p :: ps, a :: as, ρ => (backArg p a ρ).bind (backArgs ps as)
  | _ :: _, [], _ => .bad
def Re.p : Re → P
  | .val d => .val d
  | .own d => .own d
def doCall (F : Fn) (f : Str) (ps : List P) (ρ : Env') : Rs (P × Env') :=
  need ((ats ps).Nodup) ((toArgs ps ρ).bind fun as => (F.call f (as ++ (F.dfl f ps.length).map .val)).bind fun r => (backArgs ps r.2 ρ).bind fun ρ' => .ok (r.1.p, ρ'))

/-! ### loops -/
def rng (lo : Int) (n : Nat) : List D := (List.range n).map fun k => .int (lo + (k : Nat))
def inR (i : Int) : Prop := -(2 ^ 62) ≤ i ∧ i < 2 ^ 62
instance {i : Int} : Decidable (inR i) := by unfold inR; infer_instance
/-- the turns of a comprehension: the made item, if any -/
def mapR (f : D → Env' → Rs (Option D × Env')) : List D → Env' → Rs (List D × Env')
  | [], ρ => .ok ([], ρ)
  | d :: ds, ρ => (f d ρ).bind fun r => (mapR f ds r.2).bind fun q => .ok ((match r.1 with | some y => y :: q.1 | none => q.1), q.2)

def pk (p : P) (ρ : Env') : Rs D := .of (peek p ρ)
def pks : List P → Env' → Rs (List D)
  | [], _ => .ok []
  | p :: ps, ρ => (pk p ρ).bind fun d => (pks ps ρ).bind fun ds => .ok (d :: ds)
def zipD : List (List D) → List D
  | [a, b] => (a.zip b).map fun p => .tup [p.1, p.2]
  | [a, b, c] => (a.zip (b.zip c)).map fun p => .tup [p.1, p.2.1, p.2.2]
  | _ => []
def itemss : List D → Rs (List (List D))
  | [.lst a, .lst b] => .ok [a, b]
  | [.tup a, .tup b] => .ok [a, b]
  | _ => .bad
def enmD (l : List D) : List D := (List.range l.length).zip l |>.map fun p => .tup [.int (p.1 : Nat), p.2]

def asB (r : P × Env') : Rs (Bool × Env') := match r.1 with
  | .val (.bl b) => .ok (b, r.2)
  | _ => .bad
/-! ### running -/
mutual
def ev (F : Fn) : Ex → Env' → Rs (P × Env')
  | .var i, ρ => evVar i ρ
  | .cst d, ρ => .ok (.val d, ρ)
  | .glo x, ρ => (Rs.of (F.glo x)).bind fun d => .ok (.val d, ρ)
  | .bin op a b, ρ => (ev F a ρ).bind fun r => (ev F b r.2).bind fun q => (pk r.1 q.2).bind fun x => (pk q.1 q.2).bind fun y => (dBin op x y).bind fun p => .ok (p, q.2)
  | .neg a, ρ => (ev F a ρ).bind fun r => (pk r.1 r.2).bind fun x => match x with
    | .int i => .ok (.val (.int (-i)), r.2)
    | _ => .bad
  | .cmp op a b, ρ => (ev F a ρ).bind fun r => (ev F b r.2).bind fun q => (pk r.1 q.2).bind fun x => (pk q.1 q.2).bind fun y => (dCmp op x y).bind fun c => .ok (.val (.bl c), q.2)
  | .chn op op' a b c, ρ => (ev F a ρ).bind fun r => (ev F b r.2).bind fun q => (pk r.1 q.2).bind fun x => (pk q.1 q.2).bind fun y => (dCmp op x y).bind fun k =>
      match k with
      | false => .ok (.val (.bl false), q.2)
      | true => (ev F c q.2).bind fun u => (pk q.1 u.2).bind fun y' => (pk u.1 u.2).bind fun z => (dCmp op' y' z).bind fun k' => .ok (.val (.bl k'), u.2)
  | .and_ l, ρ => (evAnd F l ρ).bind fun r => .ok (.val (.bl r.1), r.2)
  | .or_ l, ρ => (evOr F l ρ).bind fun r => .ok (.val (.bl r.1), r.2)
  | .not_ a, ρ => (ev F a ρ).bind fun r0 => (asB r0).bind fun r => .ok (.val (.bl (!r.1)), r.2)
  | .ite c a b, ρ => (evT F c ρ).bind fun r => match r.1 with
    | true => ev F a r.2
    | false => ev F b r.2
  | .tup l, ρ => (evs F l ρ).bind fun r => (Rs.of (toDs r.1 r.2)).bind fun q => need (q.1.length ≤ sizeLine) (.ok (.val (.tup q.1), q.2))
  | .lst l, ρ => (evs F l ρ).bind fun r => (Rs.of (toDs r.1 r.2)).bind fun q => need (q.1.length ≤ sizeLine) (.ok (.own (.lst q.1), q.2))
  | .idx a i, ρ => (ev F a ρ).bind fun r => (ev F i r.2).bind fun q => (pk r.1 q.2).bind fun x => (pk q.1 q.2).bind fun y => (dIdx x y).bind fun d => .ok (.val d, q.2)
  | .slc a lo hi, ρ => (ev F a ρ).bind fun r => (evo F lo r.2).bind fun u => (evo F hi u.2).bind fun w => (pk r.1 w.2).bind fun x => (dSlc x u.1 w.1).bind fun p => .ok (p, w.2)
  | .call f l, ρ => (evs F l ρ).bind fun r => doCall F f r.1 r.2
  | .blt b l, ρ => (evs F l ρ).bind fun r => (pks r.1 r.2).bind fun ds => (dBl b ds).bind fun p => .ok (p, r.2)
  | .isi t a, ρ => (ev F a ρ).bind fun r => (pk r.1 r.2).bind fun x => (isTy t x).bind fun b => .ok (.val (.bl b), r.2)
  | .met m o l, ρ => (ev F o ρ).bind fun r => (pk r.1 r.2).bind fun d0 => need (hasTy m d0 = true) <| (evs F l r.2).bind fun q => (pk r.1 q.2).bind fun x => (pks q.1 q.2).bind fun ds => (dMe m x ds).bind fun p => .ok (p, q.2)
  | .chg m i l, ρ => (evVar i ρ).bind fun r => (pk r.1 r.2).bind fun d0 => need (isLst d0 = true) <| (evs F l r.2).bind fun q => (Rs.of (toDs q.1 q.2)).bind fun t => match t.2[i]? with
    | some (some (.own b d)) => (dMm m d t.1).bind fun y => .ok (.val y.1, t.2.set i (some (.own b y.2)))
    | _ => .bad
  | .comp elt tg it ifs own, ρ => (evi F it ρ).bind fun r =>
      (mapR (fun d ρ1 => (asgT tg d (wipeR ρ1 own)).bind fun ρ2 => (evc F ifs ρ2).quiet.bind fun c => match c.1 with
        | true => (ev F elt c.2).quiet.bind fun p => (Rs.of (toD p.1 p.2)).bind fun y => .ok (some y.1, y.2)
        | false => .ok (none, c.2)) r.1.1 (wipeR (lockP r.1.2 r.2).2 own)).bind fun q =>
      (unlock (lockP r.1.2 r.2).1 (backR (lockP r.1.2 r.2).2 q.2 own)).bind fun ρ' => need (q.1.length < sizeLine) (.ok (.own (.lst q.1), ρ'))
def evs (F : Fn) : Exs → Env' → Rs (List P × Env')
  | .nil, ρ => .ok ([], ρ)
  | .cons e l, ρ => (ev F e ρ).bind fun r => (evs F l r.2).bind fun q => .ok (r.1 :: q.1, q.2)
/-- a slice's part -/
def evo (F : Fn) : Eo → Env' → Rs (Option Int × Env')
  | .none, ρ => .ok (none, ρ)
  | .some e, ρ => (ev F e ρ).bind fun r => (pk r.1 r.2).bind fun x => match x with
    | .int i => .ok (some i, r.2)
    | _ => .bad
/-- a clause's test -/
def evc (F : Fn) : To → Env' → Rs (Bool × Env')
  | .none, ρ => .ok (true, ρ)
  | .some t, ρ => evT F t ρ
/-- a test -/
def evT (F : Fn) : Tx → Env' → Rs (Bool × Env')
  | .val e, ρ => (ev F e ρ).bind fun r => (pk r.1 r.2).bind fun x => (truth x).bind fun b => .ok (b, r.2)
  | .cmp op a b, ρ => (ev F a ρ).bind fun r => (ev F b r.2).bind fun q => (pk r.1 q.2).bind fun x => (pk q.1 q.2).bind fun y => (dCmp op x y).bind fun c => .ok (c, q.2)
  | .and_ l, ρ => evTAnd F l ρ
  | .or_ l, ρ => evTOr F l ρ
  | .not_ a, ρ => (evT F a ρ).bind fun r => .ok (!r.1, r.2)
/-- bools joined by and, or; l is not empty -/
def evAnd (F : Fn) : Exs → Env' → Rs (Bool × Env')
  | .nil, ρ => .ok (true, ρ)
  | .cons e l, ρ => (ev F e ρ).bind fun r0 => (asB r0).bind fun r => match r.1 with
    | true => evAnd F l r.2
    | false => .ok (false, r.2)
def evOr (F : Fn) : Exs → Env' → Rs (Bool × Env')
  | .nil, ρ => .ok (false, ρ)
  | .cons e l, ρ => (ev F e ρ).bind fun r0 => (asB r0).bind fun r => match r.1 with
    | true => .ok (true, r.2)
    | false => evOr F l r.2
def evTAnd (F : Fn) : Txs → Env' → Rs (Bool × Env')
  | .nil, ρ => .ok (true, ρ)
  | .cons e l, ρ => (evT F e ρ).bind fun r => match r.1 with
    | true => evTAnd F l r.2
    | false => .ok (false, r.2)
def evTOr (F : Fn) : Txs → Env' → Rs (Bool × Env')
  | .nil, ρ => .ok (false, ρ)
  | .cons e l, ρ => (evT F e ρ).bind fun r => match r.1 with
    | true => .ok (true, r.2)
    | false => evTOr F l r.2
/-- what a loop walks: the items, the locked slot -/
def evi (F : Fn) : Ie → Env' → Rs ((List D × P) × Env')
  | .seq e, ρ => (ev F e ρ).bind fun r => (pk r.1 r.2).bind fun x => (items x).bind fun l => .ok ((l, r.1), r.2)
  | .rng a, ρ => (ev F a ρ).bind fun r => match r.1 with
    | .val (.int j) => need (inR j) (.ok ((rng 0 j.toNat, .val .non), r.2))
    | _ => .bad
  | .rng2 a b, ρ => (ev F a ρ).bind fun r => (ev F b r.2).bind fun q => match r.1, q.1 with
    | .val (.int i), .val (.int j) => need (inR i ∧ inR j) (.ok ((rng i (j - i).toNat, .val .non), q.2))
    | _, _ => .bad
  | .enm e, ρ => (ev F e ρ).bind fun r => (pk r.1 r.2).bind fun x => (itemsL x).bind fun l => .ok ((enmD l, r.1), r.2)
  | .zip l, ρ => (evs F l ρ).bind fun r => (Rs.of (toDs r.1 r.2)).bind fun q => (itemss q.1).bind fun t => .ok ((zipD t, .val .non), q.2)
end
end
end Dv

set_option Elab.async false
set_option linter.all false
set_option maxRecDepth 100000
namespace Dv
open PySem PySem.Spec PyProof.Rows L2

noncomputable section
mutual
inductive Sx where
  | set (i : Nat) (e : Ex)
  | setT (l : List Nat) (e : Ex)
  | par (i j : Nat) (a b : Ex)
  | setI (i : Nat) (ix e : Ex)
  | aug (i : Nat) (op : Operator) (e : Ex)
  | augI (i : Nat) (op : Operator) (ix e : Ex)
  | expr (e : Ex)
  | ret (e : Ex)
  | retN
  | ite (c : Tx) (a b : Sxs)
  | whl (c : Tx) (b : Sxs)
  | for_ (tg : Tg) (it : Ie) (b : Sxs)
  | brk
  | cnt
  | pass
inductive Sxs where
  | nil
  | cons (s : Sx) (l : Sxs)
end
inductive Fl where
  | nx | bk | ct | rt (p : P)

def whileR (t : Env' → Rs (Bool × Env')) (b : Env' → Rs (Fl × Env')) : Nat → Env' → Rs (Fl × Env')
  | 0, _ => .bad
  | n + 1, ρ => (t ρ).bind fun r => match r.1 with
    | false => .ok (.nx, r.2)
    | true => (b r.2).bind fun q => match q.1 with
      | .nx => whileR t b n q.2
      | .ct => whileR t b n q.2
      | .bk => .ok (.nx, q.2)
      | .rt p => .ok (.rt p, q.2)
def forR (f : D → Env' → Rs (Fl × Env')) : List D → Env' → Rs (Fl × Env')
  | [], ρ => .ok (.nx, ρ)
  | d :: ds, ρ => (f d ρ).bind fun q => match q.1 with
      | .nx => forR f ds q.2
      | .ct => forR f ds q.2
      | .bk => .ok (.nx, q.2)
      | .rt p => .ok (.rt p, q.2)
/-- behind a loop: the walked slot is set free, if the loop was not left by return -/
def endFor (o : Option Nat) (q : Fl × Env') : Rs (Fl × Env') := match q.1 with
  | .rt p => .ok (.rt p, q.2)
  | _ => (unlock o q.2).bind fun ρ => .ok (.nx, ρ)
def dAug : Operator → D → D → Rs D
  | .Add, .int i, .int j => .ok (.int (i + j))
  | .Sub, .int i, .int j => .ok (.int (i - j))
  | .Add, .str x, .str y => need (x.length + y.length ≤ sizeLine) (.ok (.str (x ++ y)))
  | _, _, _ => .bad
def dSet : D → D → D → Rs D
  | .lst l, .int k, d => (Rs.of (ixN l.length k)).bind fun j => .ok (.lst (l.set j d))
  | _, _, _ => .bad
def mutSlot (i : Nat) (ρ : Env') (f : D → Rs D) : Rs Env' := match ρ[i]? with
  | some (some (.own b d)) => (f d).bind fun d' => .ok (ρ.set i (some (.own b d')))
  | _ => .bad

mutual
def ex (F : Fn) (N : Nat) : Sx → Env' → Rs (Fl × Env')
  | .set i e, ρ => (ev F e ρ).bind fun r => (asgP i r.1 r.2).bind fun ρ' => .ok (.nx, ρ')
  | .setT l e, ρ => (ev F e ρ).bind fun r => match r.1 with
    | .val (.tup ds) => (putVs l ds r.2).bind fun ρ' => .ok (.nx, ρ')
    | _ => .bad
  | .par i j a b, ρ => (ev F a ρ).bind fun r => (ev F b r.2).bind fun q => match r.1, q.1 with
    | .val x, .val y => (putVs [i, j] [x, y] q.2).bind fun ρ' => .ok (.nx, ρ')
    | _, _ => .bad
  | .setI i ix e, ρ => (ev F e ρ).bind fun r => (evVar i r.2).bind fun o => (ev F ix o.2).bind fun q => (Rs.of (toD r.1 q.2)).bind fun t => (pk q.1 t.2).bind fun k =>
      (mutSlot i t.2 fun d => dSet d k t.1).bind fun ρ' => .ok (.nx, ρ')
  | .aug i op e, ρ => match ρ[i]? with
    | some (some (.val x)) => (ev F e ρ).bind fun r => (pk r.1 r.2).bind fun y => (dAug op x y).bind fun z => (putV i z r.2).bind fun ρ' => .ok (.nx, ρ')
    | _ => .bad
  | .augI i op ix e, ρ => (evVar i ρ).bind fun o => (ev F ix o.2).bind fun q => (pk o.1 q.2).bind fun x => need (isLst x = true) <| (pk q.1 q.2).bind fun k => (dIdx x k).bind fun u => (ev F e q.2).bind fun r => (pk r.1 r.2).bind fun y =>
      (dAug op u y).bind fun z => (mutSlot i r.2 fun d => dSet d k z).bind fun ρ' => .ok (.nx, ρ')
  | .expr e, ρ => (ev F e ρ).bind fun r => .ok (.nx, r.2)
  | .ret e, ρ => (ev F e ρ).bind fun r => .ok (.rt r.1, r.2)
  | .retN, ρ => .ok (.rt (.val .non), ρ)
  | .ite c a b, ρ => (evT F c ρ).bind fun r => match r.1 with
    | true => exs F N a r.2
    | false => exs F N b r.2
  | .whl c b, ρ => whileR (evT F c) (exs F N b) N ρ
  | .for_ tg it b, ρ => (evi F it ρ).bind fun r => (forR (fun d ρ1 => (asgT tg d ρ1).bind (exs F N b)) r.1.1 (lockP r.1.2 r.2).2).bind (endFor (lockP r.1.2 r.2).1)
  | .brk, ρ => .ok (.bk, ρ)
  | .cnt, ρ => .ok (.ct, ρ)
  | .pass, ρ => .ok (.nx, ρ)
def exs (F : Fn) (N : Nat) : Sxs → Env' → Rs (Fl × Env')
  | .nil, ρ => .ok (.nx, ρ)
  | .cons s l, ρ => (ex F N s ρ).bind fun q => match q.1 with
    | .nx => exs F N l q.2
    | _ => .ok q
end

/-! ### a def -/
def A.slot : A → S
  | .val d => .val d
  | .own d => .own true d
  | .rd d => .lck true d
def envOf (n : Nat) (as : List A) : Env' := as.map (fun a => some a.slot) ++ List.replicate (n - as.length) none
def retOf (p : P) (ρ : Env') : Rs (Re × Env') := match p with
  | .val d => .ok (.val d, ρ)
  | .own d => .ok (.own d, ρ)
  | .at_ i => match ρ[i]? with
    | some (some (.own false d)) => .ok (.own d, ρ.set i none)
    | some (some (.own true d)) => .ok (.val d, ρ.set i (some (.brz d)))
    | _ => .bad
def outArg (a : A) (o : Option (Option S)) : Rs A := match a with
  | .val d => .ok (.val d)
  | .rd d => .ok (.rd d)
  | .own _ => match o with
    | some (some (.own true d)) => .ok (.own d)
    | some (some (.lck true d)) => .ok (.own d)
    | some (some (.brz d)) => .ok (.val d)
    | _ => .bad
def outArgs : List A → Env' → Rs (List A)
  | [], _ => .ok []
  | a :: as, ρ => (outArg a ρ.head?).bind fun x => (outArgs as ρ.tail).bind fun r => .ok (x :: r)
def finish (as : List A) (q : Fl × Env') : Rs (Re × List A) := match q.1 with
  | .nx => (outArgs as q.2).bind fun r => .ok (.val .non, r)
  | .rt p => (retOf p q.2).bind fun t => (outArgs as t.2).bind fun r => .ok (t.1, r)
  | _ => .bad
/-- n: the number of the def's slots -/
def runDef (F : Fn) (N n : Nat) (body : Sxs) (as : List A) : Rs (Re × List A) := (exs F N body (envOf n as)).bind (finish as)
end
end Dv

set_option Elab.async false
set_option linter.all false
set_option maxRecDepth 100000
namespace Dv
open PySem PySem.Spec PyProof.Rows L2

/-! ### data and the library's data -/
section
variable {K : PySem.W.Frag} {H : Hp} {W : AS}
mutual
theorem RepD.dp : ∀ {d : D} {v : V}, RepD K H W v d → (toPy d).canLay0 = true → Dp K H v (toPy d)
  | .non, _, h, _ => by rw [show _ = V.non from h]; exact .non
  | .bl b, _, h, _ => by rw [show _ = V.bl b from h]; exact .bl b
  | .int b, _, h, _ => by rw [show _ = V.int b from h]; exact .int b
  | .str b, _, h, _ => by rw [show _ = V.str b from h]; exact .str b
  | .tup l, _, h, c => by
    obtain ⟨a, vs, rfl, q, r⟩ := h
    exact .tup q.sq (RepDs.dp r (by simpa [toPy, PyData.canLay0] using c))
  | .lst l, _, h, c => by
    obtain ⟨a, vs, rfl, q, _, r⟩ := h
    exact .lst (.of q) (RepDs.dp r (by simpa [toPy, PyData.canLay0] using c))
  | .dic _ _, _, _, c => by simp [toPy, PyData.canLay0] at c
  | .scr _, _, _, c => by simp [toPy, PyData.canLay0] at c
theorem RepDs.dp : ∀ {ds : List D} {vs : List V}, RepDs K H W vs ds → PyData.canLayAll0 (toPys ds) = true → DpAll K H vs (toPys ds)
  | [], _, h, _ => by rw [show _ = [] from h]; exact .nil
  | d :: ds, _, h, c => by
    obtain ⟨v, r, rfl, a, b⟩ := h
    have c' : (toPy d).canLay0 = true ∧ PyData.canLayAll0 (toPys ds) = true := by simpa [toPys, PyData.canLayAll0] using c
    exact .cons (RepD.dp a c'.1) (RepDs.dp b c'.2)
end
theorem lay_of {d : D} (h : shp d = true) : (toPy d).canLay0 = true := by
  unfold shp SeqAt.shaped at h
  exact (Bool.and_eq_true_iff.mp h).1
theorem RepK.dp {d : D} {v : V} (h : RepK K H W v d) (c : shp d = true) : Dp K H v (toPy d) := by
  rcases h with ⟨a, o, rfl, e, q⟩ | h
  · cases d with
    | lst l =>
      obtain ⟨vs, rfl, r⟩ := q
      exact .lst (.of e) (RepDs.dp r (by simpa [toPy, PyData.canLay0] using lay_of c))
    | dic ks l =>
      have := lay_of c
      simp [toPy, PyData.canLay0] at this
    | _ => exact q.elim
  · exact h.dp (lay_of c)
theorem toPys_map : ∀ l : List D, toPys l = l.map toPy
  | [] => rfl
  | d :: l => by rw [toPys, toPys_map l]; rfl
theorem any_py (l : List D) (x : D) : (toPys l).any (fun z => PyData.eqv z (toPy x)) = l.any fun z => deq z x := by
  rw [toPys_map, List.any_map]
  rfl

/-- what is wanted of a result -/
def ResQ (K : PySem.W.Frag) (H : Hp) (W : AS) (p : P) (Q : VK) : Prop := match p with
  | .val d => ∀ v H', (H' = H ∨ ∃ a vs, H a = none ∧ H' = upd H a (.tup vs)) → RepD K H' W v d → Q v H'
  | .own d => ∀ a o, H a = none → RepO K H W o d → Q (.ref a) (upd H a o)
  | .at_ _ => False
theorem adv_new {H : Hp} {W : AS} {a : Addr} {o : HO} (n : H a = none) : Adv H W (upd H a o) W := fun b u e w => ⟨by rw [upd_ne (ne_of_none e n)]; exact e, w⟩
theorem ResQ.tup {l : List D} {Q : VK} (h : ResQ K H W (.val (.tup l)) Q) (wl : WL H W) {vs : List V} (r : RepDs K H W vs l) {a : Addr} (n : H a = none) : Q (.ref a) (upd H a (.tup vs)) :=
  h _ _ (.inr ⟨a, vs, n, rfl⟩) ⟨a, vs, rfl, .of upd_same, r.adv wl (adv_new n)⟩
theorem ResQ.flat {d : D} {Q : VK} (h : ResQ K H W (.val d) Q) {v : V} (r : RepD K H W v d) : Q v H := h v H (.inl rfl) r
theorem ResQ.lst {l : List D} {Q : VK} (h : ResQ K H W (.own (.lst l)) Q) {vs : List V} (r : RepDs K H W vs l) {a : Addr} (n : H a = none) : Q (.ref a) (upd H a (.lst vs)) := h a _ n ⟨vs, rfl, r⟩
end

/-! ### operators, by values -/
section
variable {X : Cx}
theorem op_fdivX : OpR X (binaryOp .FloorDiv) (rI CDvX fun i j => .int (i.fdiv j)) := opI fun _ _ _ _ _ _ _ hc q => floordiv_int hc.1 q (.inl hc.2)
theorem op_mul_str : OpR X (binaryOp .Mult) (fun x y H Q => ∃ a n, x = .str a ∧ y = .int n ∧ MulOk a n ∧ Q (.str (Txt.mul a n)) H) := by
  intro pins s σ H x y v u Q I rx ry h
  obtain ⟨a, n, rfl, rfl, c, q⟩ := h
  obtain ⟨t, rfl⟩ := rx
  obtain ⟨t', rfl⟩ := ry
  exact SB.mul c fun t' k => ⟨.str _, H, I.tok _, ⟨_, rfl⟩, q⟩
def rB (K : PySem.W.Frag) : Operator → R2
  | .Add => fun x y H Q => rI0 (fun i j => .int (i + j)) x y H Q ∨ (∃ i j, x = .str i ∧ y = .str j ∧ i.length + j.length ≤ sizeLine ∧ Q (.str (i ++ j)) H) ∨ rCat x y H Q ∨ rCatA K x y H Q
  | .Sub => rI0 fun i j => .int (i - j)
  | .Mult => fun x y H Q => rI CMulX (fun i j => .int (i * j)) x y H Q ∨ rRep x y H Q ∨ ∃ a n, x = .str a ∧ y = .int n ∧ MulOk a n ∧ Q (.str (Txt.mul a n)) H
  | .FloorDiv => rI CDvX fun i j => .int (i.fdiv j)
  | .Mod => rI (fun _ j => j ≠ 0) fun i j => .int (i.fmod j)
  | .Pow => rI CPow fun i j => .int (i ^ j.toNat)
  | .LShift => rI CShl fun i j => .int (i * 2 ^ j.toNat)
  | _ => fun _ _ _ _ => False
theorem op_no {f : Value → Value → Sem Value} : OpR X f (fun _ _ _ _ => False) := fun _ _ _ _ _ _ _ _ _ _ _ _ h => h.elim
theorem op_B : ∀ op : Operator, OpR X (binaryOp op) (rB X.K op) := fun op => by
  cases op with
  | Add => exact op_add.or (op_add_str.or (op_cat.or op_catA))
  | Sub => exact op_sub
  | Mult => exact op_mulX.or (op_rep.or op_mul_str)
  | FloorDiv => exact op_fdivX
  | Mod => exact op_modN
  | Pow => exact op_pow
  | LShift => exact op_shlW
  | _ => exact op_no

theorem need_ok {p : Prop} {α : Type} {x : Rs α} {a : α} (h : need p x = .ok a) : p ∧ x = .ok a := by
  unfold need at h
  split at h
  · exact ⟨by assumption, h⟩
  · cases h
theorem need_ne {p : Prop} {α : Type} {x : Rs α} (h : need p x ≠ .bad) : p ∧ need p x = x := by
  unfold need at h ⊢
  split at h
  · rename_i q; exact ⟨q, by rw [if_pos q]⟩
  · exact absurd rfl h
theorem flat_rep {K : PySem.W.Frag} {H : Hp} {W : AS} {vs : List V} {l : List D} (r : RepDs K H W vs l) : ∀ k : Nat, RepDs K H W (List.replicate k vs).flatten (List.replicate k l).flatten
  | 0 => rfl
  | k + 1 => by
    rw [List.replicate_succ, List.replicate_succ, List.flatten_cons, List.flatten_cons]
    exact r.append (flat_rep r k)

theorem bin_ok {K : PySem.W.Frag} {H : Hp} {W : AS} (wl : WL H W) {op : Operator} {x y : V} {d e : D} {p : P} {Q : VK} (hd : RepK K H W x d) (he : RepK K H W y e) (h : dBin op d e = .ok p) (q : ResQ K H W p Q) : rB K op x y H Q := by
  unfold dBin at h
  split at h
  · cases h
    exact .inl ⟨_, _, hd.int, he.int, q.flat rfl⟩
  · obtain ⟨c, h⟩ := need_ok h
    cases h
    exact .inr (.inl ⟨_, _, hd.str, he.str, c, q.flat rfl⟩)
  · obtain ⟨c, h⟩ := need_ok h
    cases h
    obtain ⟨a, vs, rfl, e1, r1⟩ := hd.lst
    obtain ⟨b, us, rfl, e2, r2⟩ := he.lst
    exact .inr (.inr (.inl ⟨a, b, vs, us, rfl, rfl, e1, e2, by rw [r1.length, r2.length]; exact c, fun p n => q.lst (r1.append r2) n⟩))
  · obtain ⟨c, h⟩ := need_ok h
    cases h
    obtain ⟨a, vs, rfl, e1, r1⟩ := hd.tup
    obtain ⟨b, us, rfl, e2, r2⟩ := he.tup
    refine .inr (.inr (.inr ⟨a, b, vs, us, rfl, rfl, e1.sq, e2.sq, by rw [r1.length, r2.length]; exact c, fun z => ?_, fun _ z => ?_, fun _ _ p n => q.tup wl (r1.append r2) n⟩))
    · have e0 := r1.length
      rw [z] at e0
      have e3 := List.length_eq_zero_iff.mp e0.symm
      subst e3
      rw [List.nil_append] at q
      exact q.flat ⟨b, us, rfl, e2, r2⟩
    · have e0 := r2.length
      rw [z] at e0
      have e3 := List.length_eq_zero_iff.mp e0.symm
      subst e3
      rw [List.append_nil] at q
      exact q.flat ⟨a, vs, rfl, e1, r1⟩
  · cases h
    exact ⟨_, _, hd.int, he.int, q.flat rfl⟩
  · obtain ⟨c, h⟩ := need_ok h
    cases h
    exact .inl ⟨_, _, hd.int, he.int, c, q.flat rfl⟩
  · obtain ⟨⟨c1, c2, c3⟩, h⟩ := need_ok h
    cases h
    obtain ⟨a, vs, rfl, e1, r1⟩ := hd.lst
    exact .inr (.inl ⟨a, _, vs, rfl, he.int, e1, c1, c2, by rw [r1.length]; exact c3, fun p n => q.lst (flat_rep r1 _) n⟩)
  · obtain ⟨c, h⟩ := need_ok h
    cases h
    exact .inr (.inr ⟨_, _, hd.str, he.int, c, q.flat rfl⟩)
  · obtain ⟨c, h⟩ := need_ok h
    cases h
    exact ⟨_, _, hd.int, he.int, c, q.flat rfl⟩
  · obtain ⟨c, h⟩ := need_ok h
    cases h
    exact ⟨_, _, hd.int, he.int, c, q.flat rfl⟩
  · obtain ⟨c, h⟩ := need_ok h
    cases h
    exact ⟨_, _, hd.int, he.int, c, q.flat rfl⟩
  · obtain ⟨c, h⟩ := need_ok h
    cases h
    exact ⟨_, _, hd.int, he.int, c, q.flat rfl⟩
  · cases h

/-! ### comparisons, by values -/
def rInT (K : PySem.W.Frag) : R2 := fun x y H Q => ∃ d ds, Dp K H x d ∧ Dp K H y (.tuple ds) ∧ SeqAt.shaped d = true ∧ SeqAt.shaped (.tuple ds) = true ∧ Q (.bl (ds.any fun z => PyData.eqv z d)) H
def rNotInT (K : PySem.W.Frag) : R2 := fun x y H Q => ∃ d ds, Dp K H x d ∧ Dp K H y (.tuple ds) ∧ SeqAt.shaped d = true ∧ SeqAt.shaped (.tuple ds) = true ∧ Q (.bl (!ds.any fun z => PyData.eqv z d)) H
theorem op_inT (hu : X.A.units + 65 < cLine) : OpR X (compareOp .In) (rInT X.K) := by
  intro pins s σ H x y v u Q I rx ry h
  obtain ⟨d, ds, hd, he, sd, se, q⟩ := h
  obtain ⟨as, r1⟩ := Dp.reads I d x v hd rx
  obtain ⟨bs, r2⟩ := Dp.reads I (.tuple ds) y u he ry
  exact SeqAt.in_tuple_reads r2 r1 (SeqAt.canLay_of_shaped (d := .tuple ds) se) (SeqAt.canLay_of_shaped sd) (room_in_shaped sd hu) ⟨.bl _, H, I, rfl, q⟩
theorem op_notInT (hu : X.A.units + 65 < cLine) : OpR X (compareOp .NotIn) (rNotInT X.K) := by
  intro pins s σ H x y v u Q I rx ry h
  obtain ⟨d, ds, hd, he, sd, se, q⟩ := h
  obtain ⟨as, r1⟩ := Dp.reads I d x v hd rx
  obtain ⟨bs, r2⟩ := Dp.reads I (.tuple ds) y u he ry
  exact SeqAt.notIn_tuple_reads r2 r1 (SeqAt.canLay_of_shaped (d := .tuple ds) se) (SeqAt.canLay_of_shaped sd) (room_in_shaped sd hu) ⟨.bl _, H, I, rfl, q⟩
def rInStr : R2 := fun x y H Q => ∃ i j, x = .str i ∧ y = .str j ∧ Q (.bl (!(Builtin.Str.occurrences j i 0 j.length 1).isEmpty)) H
def rNotInStr : R2 := fun x y H Q => ∃ i j, x = .str i ∧ y = .str j ∧ Q (.bl (!(!(Builtin.Str.occurrences j i 0 j.length 1).isEmpty))) H
def rC (K : PySem.W.Frag) : CmpOp → R2
  | .Eq => rEqD K
  | .NotEq => rNeD K
  | .Lt => rI0 fun i j => .bl (decide (i < j))
  | .LtE => rI0 fun i j => .bl (decide (i ≤ j))
  | .Gt => rI0 fun i j => .bl (decide (j < i))
  | .GtE => rI0 fun i j => .bl (decide (j ≤ i))
  | .Is => fun x y H Q => y = .non ∧ Q (.bl (decide (x = .non))) H
  | .IsNot => fun x y H Q => y = .non ∧ Q (.bl (!decide (x = .non))) H
  | .In => fun x y H Q => rInStr x y H Q ∨ rInD K x y H Q ∨ rInT K x y H Q
  | .NotIn => fun x y H Q => rNotInStr x y H Q ∨ rNotInD K x y H Q ∨ rNotInT K x y H Q
theorem op_C (hu : X.A.units + 65 < cLine) : ∀ op : CmpOp, OpR X (compareOp op) (rC X.K op) := fun op => by
  cases op with
  | Eq => exact op_eqD (by omega)
  | NotEq => exact op_neD (by omega)
  | Lt => exact op_lt
  | LtE => exact op_le
  | Gt => exact op_gt
  | GtE => exact op_ge
  | Is => exact op_isN
  | IsNot => exact op_notN
  | In => exact op_in_str.or ((op_inD hu).or (op_inT hu))
  | NotIn => exact op_notin_str.or ((op_notInD hu).or (op_notInT hu))
def isNon : D → Bool
  | .non => true
  | _ => false
theorem non_dec {K : PySem.W.Frag} {H : Hp} {W : AS} {x : V} {d : D} (h : RepK K H W x d) : decide (x = .non) = isNon d := by
  cases d with
  | non => rw [h.non]; rfl
  | bl b => rw [h.bl]; rfl
  | int b => rw [h.int]; rfl
  | str b => rw [h.str]; rfl
  | tup l => obtain ⟨a, vs, rfl, _⟩ := h.tup; rfl
  | lst l => obtain ⟨a, vs, rfl, _⟩ := h.lst; rfl
  | dic ks l => obtain ⟨a, vs, rfl, _⟩ := h.dic; rfl
  | scr l => obtain ⟨a, rfl, _⟩ := h.scr; rfl
theorem in_ok {K : PySem.W.Frag} {H : Hp} {W : AS} {x y : V} {d e : D} {b : Bool} (hd : RepK K H W x d) (he : RepK K H W y e) (h : dIn d e = .ok b) :
    (∀ Q : VK, Q (.bl b) H → rC K .In x y H Q) ∧ ∀ Q : VK, Q (.bl (!b)) H → rC K .NotIn x y H Q := by
  unfold dIn at h
  split at h
  · split at h
    · cases h
      exact ⟨fun Q q => .inl ⟨_, _, hd.str, he.str, q⟩, fun Q q => .inl ⟨_, _, hd.str, he.str, q⟩⟩
    · cases h
  · obtain ⟨⟨c1, c2⟩, h⟩ := need_ok h
    cases h
    have k1 := hd.dp c1
    have k2 := he.dp c2
    rw [← any_py]
    exact ⟨fun Q q => .inr (.inl ⟨_, _, k1, k2, c1, c2, q⟩), fun Q q => .inr (.inl ⟨_, _, k1, k2, c1, c2, q⟩)⟩
  · obtain ⟨⟨c1, c2⟩, h⟩ := need_ok h
    cases h
    have k1 := hd.dp c1
    have k2 := he.dp c2
    rw [← any_py]
    exact ⟨fun Q q => .inr (.inr ⟨_, _, k1, k2, c1, c2, q⟩), fun Q q => .inr (.inr ⟨_, _, k1, k2, c1, c2, q⟩)⟩
  · cases h
theorem cmp_ok {K : PySem.W.Frag} {H : Hp} {W : AS} {op : CmpOp} {x y : V} {d e : D} {b : Bool} {Q : VK} (hd : RepK K H W x d) (he : RepK K H W y e) (h : dCmp op d e = .ok b) (q : Q (.bl b) H) : rC K op x y H Q := by
  unfold dCmp at h
  split at h
  · obtain ⟨⟨c1, c2⟩, h⟩ := need_ok h
    cases h
    exact ⟨_, _, hd.dp c1, he.dp c2, c1, c2, q⟩
  · obtain ⟨⟨c1, c2⟩, h⟩ := need_ok h
    cases h
    exact ⟨_, _, hd.dp c1, he.dp c2, c1, c2, q⟩
  · cases h; exact ⟨_, _, hd.int, he.int, q⟩
  · cases h; exact ⟨_, _, hd.int, he.int, q⟩
  · cases h; exact ⟨_, _, hd.int, he.int, q⟩
  · cases h; exact ⟨_, _, hd.int, he.int, q⟩
  · cases h
    refine ⟨he.non, ?_⟩
    rw [non_dec hd]
    cases d <;> exact q
  · cases h
    refine ⟨he.non, ?_⟩
    rw [non_dec hd]
    cases d <;> exact q
  · exact (in_ok hd he h).1 Q q
  · cases z : dIn d e with
    | bad => rw [z] at h; cases h
    | err e => rw [z] at h; cases h
    | ok c =>
      rw [z] at h; cases h
      exact (in_ok hd he z).2 Q q
  · cases h
end
end Dv

set_option Elab.async false
set_option linter.all false
set_option maxRecDepth 100000
namespace Dv
open PySem PySem.Spec PyProof.Rows L2

/-! ### from one state to the next, within an expression -/
structure Go (T : Tc) (σ : Sg) (H : Hp) (ρ : Env') (W : AS) (H' : Hp) (ρ' : Env') (W' : AS) : Prop where
  rel : Rel T σ H' ρ' W'
  step : Step σ H ρ W σ H' ρ' W'
  mon : Mon σ ρ ρ'
  dom : ∀ a, H' a = none → H a = none
  lk : Lk ρ ρ'
structure Out (T : Tc) (σ : Sg) (H : Hp) (ρ : Env') (W : AS) (p : P) (ρ' : Env') (v : V) (H' : Hp) (W' : AS) : Prop where
  go : Go T σ H ρ W H' ρ' W'
  rep : RepP T σ H' ρ' W' v p
  new : ∀ d, p = .own d → ∀ a, v = .ref a → H a = none

/-- an error's exception -/
def ErrR (mg : Str → Option Value) (K : PySem.W.Frag) (er : Er) (cls : Value) (d : Option Addr) (H' : Hp) : Prop :=
  mg er.cls = some cls ∧ (er.val = [] ∨ ∃ a vs, d = some a ∧ H' a = some (.xd ((er.val.map (·.1)).zip vs)) ∧ RepDs K H' (fun _ => True) vs (er.val.map (·.2)))
/-- the error is welcome here -/
def ErrOk (X : Cx) (Z : WX) (er : Er) (σ : Sg) (H : Hp) (ρ : Env') : Prop :=
  ∀ cls d H', ErrR X.mg X.K er cls d H' → (∀ b o, H b = some o → (∀ i, ¬ OwnU σ ρ i b) → H' b = some o) → Z cls d σ H'
def Post (X : Cx) (Z : WX) {α : Type} (r : Rs (α × Env')) (σ : Sg) (H : Hp) (ρ : Env') (k : α → Env' → Prop) : Prop := match r with
  | .ok a => k a.1 a.2
  | .err er => ErrOk X Z er σ H ρ
  | .bad => False

section
variable {X : Cx} {Z : WX} {T : Tc} {F : Fn} {σ : Sg} {H H1 H2 : Hp} {ρ ρ1 ρ2 : Env'} {W W1 W2 : AS}
theorem Go.refl (R : Rel T σ H ρ W) : Go T σ H ρ W H ρ W := ⟨R, Step.refl, .refl, fun _ h => h, .refl⟩
theorem Go.trans (a : Go T σ H ρ W H1 ρ1 W1) (b : Go T σ H1 ρ1 W1 H2 ρ2 W2) : Go T σ H ρ W H2 ρ2 W2 := ⟨b.rel, a.step.trans b.step, a.mon.trans b.mon, fun x h => a.dom x (b.dom x h), a.lk.trans b.lk⟩
theorem Out.after {p : P} {v : V} (a : Go T σ H ρ W H1 ρ1 W1) (b : Out T σ H1 ρ1 W1 p ρ2 v H2 W2) : Out T σ H ρ W p ρ2 v H2 W2 := ⟨a.trans b.go, b.rep, fun d e x h => a.dom x (b.new d e x h)⟩
theorem ErrOk.move {er : Er} (h : ErrOk X Z er σ H ρ) (s : Step σ H ρ W σ H1 ρ1 W1) : ErrOk X Z er σ H1 ρ1 := fun cls d H' e k => h cls d H' e fun b o hb n => by
  obtain ⟨h1, n1, _⟩ := s b o hb n
  exact k b o h1 n1
theorem Post.move {α : Type} {r : Rs (α × Env')} {k : α → Env' → Prop} (h : Post X Z r σ H ρ k) (s : Step σ H ρ W σ H1 ρ1 W1) : Post X Z r σ H1 ρ1 k := by
  cases r with
  | ok a => exact h
  | err er => exact ErrOk.move h s
  | bad => exact h
theorem Post.bind {α β : Type} {r : Rs (α × Env')} {f : α × Env' → Rs (β × Env')} {k : β → Env' → Prop} (h : Post X Z (r.bind f) σ H ρ k) : Post X Z r σ H ρ fun a ρ' => Post X Z (f (a, ρ')) σ H ρ k := by
  cases r with
  | ok a => exact h
  | err er => exact h
  | bad => exact h
theorem Post.imp {α : Type} {r : Rs (α × Env')} {k k' : α → Env' → Prop} (h : Post X Z r σ H ρ k) (g : ∀ a ρ', k a ρ' → k' a ρ') : Post X Z r σ H ρ k' := by
  cases r with
  | ok a => exact g _ _ h
  | err er => exact h
  | bad => exact h
/-- a step that raises nothing -/
def NoErr {α : Type} (r : Rs α) : Prop := ∀ e, r ≠ .err e
theorem Post.val {α β : Type} {r : Rs α} {f : α → Rs (β × Env')} {k : β → Env' → Prop} (n : NoErr r) (h : Post X Z (r.bind f) σ H ρ k) : ∃ a, r = .ok a ∧ Post X Z (f a) σ H ρ k := by
  cases r with
  | ok a => exact ⟨a, rfl, h⟩
  | err er => exact absurd rfl (n er)
  | bad => exact h.elim
theorem Post.need {p : Prop} {β : Type} {r : Rs (β × Env')} {k : β → Env' → Prop} (h : Post X Z (need p r) σ H ρ k) : p ∧ Post X Z r σ H ρ k := by
  unfold Dv.need at h
  split at h
  · exact ⟨by assumption, h⟩
  · exact h.elim
theorem NoErr.of {α : Type} {o : Option α} : NoErr (Rs.of o) := fun e h => by cases o <;> cases h
theorem NoErr.pk {p : P} {ρ : Env'} : NoErr (Dv.pk p ρ) := NoErr.of
theorem NoErr.need {p : Prop} {α : Type} {r : Rs α} (h : NoErr r) : NoErr (Dv.need p r) := fun e q => by
  unfold Dv.need at q
  split at q
  · exact h e q
  · cases q
theorem NoErr.ok {α : Type} {a : α} : NoErr (Rs.ok a) := fun e h => by cases h
theorem NoErr.bad {α : Type} : NoErr (Rs.bad : Rs α) := fun e h => by cases h
theorem NoErr.bind {α β : Type} {r : Rs α} {f : α → Rs β} (h : NoErr r) (g : ∀ a, NoErr (f a)) : NoErr (r.bind f) := fun e q => by
  cases r with
  | ok a => exact g a e q
  | err x => exact h x rfl
  | bad => cases q
theorem NoErr.dBin {op : Operator} {x y : D} : NoErr (Dv.dBin op x y) := by
  unfold Dv.dBin
  split <;> first | exact .ok | exact .bad | exact .need .ok
theorem NoErr.dIn {x y : D} : NoErr (Dv.dIn x y) := by
  unfold Dv.dIn
  split
  · split <;> first | exact .ok | exact .bad
  · exact .need .ok
  · exact .need .ok
  · exact .bad
theorem NoErr.dCmp {op : CmpOp} {x y : D} : NoErr (Dv.dCmp op x y) := by
  unfold Dv.dCmp
  split <;> first | exact .ok | exact .bad | exact .need .ok | exact .dIn | exact .bind .dIn fun _ => .ok
theorem NoErr.truth {x : D} : NoErr (Dv.truth x) := by
  unfold Dv.truth
  split <;> first | exact .ok | exact .bad | exact .need .ok
theorem NoErr.dIdx {x y : D} : NoErr (Dv.dIdx x y) := by
  unfold Dv.dIdx
  split <;> first | exact .of | exact .bad | exact .bind .of fun _ => .ok | exact .need (.bind .of fun _ => .ok)
theorem NoErr.items {x : D} : NoErr (Dv.items x) := by
  unfold Dv.items
  split <;> first | exact .ok | exact .bad
theorem NoErr.itemsL {x : D} : NoErr (Dv.itemsL x) := by
  unfold Dv.itemsL
  split <;> first | exact .ok | exact .bad
theorem NoErr.itemss {x : List D} : NoErr (Dv.itemss x) := by
  unfold Dv.itemss
  split <;> first | exact .ok | exact .bad
theorem NoErr.dLen {x : D} : NoErr (Dv.dLen x) := by
  unfold Dv.dLen
  split <;> first | exact .ok | exact .bad | exact .need .ok
theorem NoErr.isTy {t : Ty} {x : D} : NoErr (Dv.isTy t x) := by
  unfold Dv.isTy
  split <;> first | exact .ok | exact .bad
theorem NoErr.dBl {b : Bl} {l : List D} : NoErr (Dv.dBl b l) := by
  unfold Dv.dBl
  split <;> first | exact .ok | exact .bad | exact .bind .of fun _ => .ok | exact .bind .dLen fun _ => .ok
theorem NoErr.dSlc {x : D} {a b : Option Int} : NoErr (Dv.dSlc x a b) := by
  unfold Dv.dSlc
  split <;> first | exact .ok | exact .bad | exact .need .ok
theorem NoErr.dMe {m : Me} {x : D} {l : List D} : NoErr (Dv.dMe m x l) := by
  unfold Dv.dMe
  split
  · exact .bind .of fun _ => .need .ok
  · exact .bind .of fun _ => .need .ok
  · exact .need .ok
  · refine .need ?_
    split <;> first | exact .ok | exact .bad
  · exact .bad
theorem NoErr.dMm {m : Mm} {x : D} {l : List D} : NoErr (Dv.dMm m x l) := by
  unfold Dv.dMm
  split <;> first | exact .bad | exact .need .ok | exact .bind .of fun _ => .ok | exact .need (.bind .of fun _ => .bind .of fun _ => .ok)
theorem NoErr.evVar {i : Nat} {ρ : Env'} : NoErr (Dv.evVar i ρ) := by
  unfold Dv.evVar
  split <;> first | exact .ok | exact .bad
theorem NoErr.asB {r : P × Env'} : NoErr (Dv.asB r) := by
  unfold Dv.asB
  split <;> first | exact .ok | exact .bad
theorem NoErr.quiet {α : Type} {r : Rs α} : NoErr r.quiet := fun e h => by cases r <;> cases h
theorem NoErr.pks : ∀ {ps : List P} {ρ : Env'}, NoErr (Dv.pks ps ρ)
  | [], _ => .ok
  | _ :: _, _ => .bind .pk fun _ => .bind NoErr.pks fun _ => .ok
theorem NoErr.putV {i : Nat} {d : D} {ρ : Env'} : NoErr (Dv.putV i d ρ) := by
  unfold Dv.putV
  split <;> first | exact .ok | exact .bad
theorem NoErr.putVs : ∀ {is : List Nat} {ds : List D} {ρ : Env'}, NoErr (Dv.putVs is ds ρ)
  | [], [], _ => .ok
  | _ :: _, _ :: _, _ => .bind .putV fun _ => NoErr.putVs
  | [], _ :: _, _ => .bad
  | _ :: _, [], _ => .bad
theorem NoErr.asgT {t : Tg} {d : D} {ρ : Env'} : NoErr (Dv.asgT t d ρ) := by
  unfold Dv.asgT
  split <;> first | exact .putV | exact .putVs | exact .bad
theorem NoErr.unlock {o : Option Nat} {ρ : Env'} : NoErr (Dv.unlock o ρ) := by
  unfold Dv.unlock
  split
  · exact .ok
  · split <;> first | exact .ok | exact .bad

/-! ### readings -/
def tE (X : Cx) (T : Tc) (F : Fn) (Z : WX) (e : Ex) : TE := fun σ H Q => ∃ ρ W, Rel T σ H ρ W ∧ Post X Z (ev F e ρ) σ H ρ fun p ρ' => ∀ v H' W', Out T σ H ρ W p ρ' v H' W' → Q v H'
def tT (X : Cx) (T : Tc) (F : Fn) (Z : WX) (t : Tx) : TT := fun σ H Q => ∃ ρ W, Rel T σ H ρ W ∧ Post X Z (evT F t ρ) σ H ρ fun b ρ' => ∀ H' W', Go T σ H ρ W H' ρ' W' → Q b H'

theorem wkE {e : Expr} {t t' : TE} (h : PE X e t) (w : ∀ σ H Q, t' σ H Q → t σ H Q) : PE X e t' := ⟨fun pins s σ H Q I q => h.run pins s σ H Q I (w σ H Q q)⟩
theorem wkT {e : Expr} {t t' : TT} (h : PT X e t) (w : ∀ σ H Q, t' σ H Q → t σ H Q) : PT X e t' := ⟨fun pins s σ H Q I q => h.run pins s σ H Q I (w σ H Q q)⟩
theorem wkA {e : List Expr} {t t' : TA} (h : PA X e t) (w : ∀ σ H Q, t' σ H Q → t σ H Q) : PA X e t' := ⟨fun pos pins s σ H Q I q => h.run pos pins s σ H Q I (w σ H Q q)⟩

/-- a tuple laid -/
theorem Go.tup (R : Rel T σ H ρ W) {a : Addr} {vs : List V} (n : H a = none) : Go T σ H ρ W (upd H a (.tup vs)) ρ W := by
  have ad : Adv H W (upd H a (.tup vs)) W := adv_new n
  refine ⟨⟨R.len, fun i s e => ?_, R.sep, fun x w => ?_, R.fr, fun x h => R.fzk x ?_, R.bor⟩, fun b o h k => ⟨by rw [upd_ne (ne_of_none h n)]; exact h, k, Iff.rfl⟩, .refl, fun x h => ?_, .refl⟩
  · obtain ⟨o, e1, q⟩ := R.at_ i s e
    refine ⟨o, e1, ?_⟩
    cases s with
    | val d => obtain ⟨v, e2, r⟩ := q; exact ⟨v, e2, r.adv R.wl ad⟩
    | brz d => obtain ⟨v, e2, r⟩ := q; exact ⟨v, e2, r.adv R.wl ad⟩
    | own b d => obtain ⟨c, ob, e2, e3, w, r⟩ := q; exact ⟨c, ob, e2, by rw [upd_ne (ne_of_none e3 n)]; exact e3, w, r.adv R.wl ad⟩
    | lck b d => obtain ⟨c, ob, e2, e3, w, r⟩ := q; exact ⟨c, ob, e2, by rw [upd_ne (ne_of_none e3 n)]; exact e3, w, r.adv R.wl ad⟩
  · obtain ⟨o, e, m⟩ := R.wl x w
    exact ⟨o, by rw [upd_ne (ne_of_none e n)]; exact e, m⟩
  · by_cases e : x = a
    · subst e; exact n
    · rw [upd_ne e] at h; exact h
  · by_cases e : x = a
    · subst e; exact n
    · rw [upd_ne e] at h; exact h
/-- a new mutable object laid -/
theorem Out.own (R : Rel T σ H ρ W) {a : Addr} {o : HO} {d : D} (n : H a = none) (q : RepO T.K H W o d) : Out T σ H ρ W (.own d) ρ (.ref a) (upd H a o) (fun x => W x ∨ x = a) := by
  have ad : Adv H W (upd H a o) (fun x => W x ∨ x = a) := fun b u e w => ⟨by rw [upd_ne (ne_of_none e n)]; exact e, fun z => z.elim w (ne_of_none e n)⟩
  have nO : ∀ i, ¬ OwnA σ ρ i a := fun i z => by
    obtain ⟨_, u, e, _⟩ := R.ownA z
    rw [n] at e; cases e
  refine ⟨⟨⟨R.len, fun i s e => ?_, R.sep, fun x w => ?_, R.fr, fun x h => R.fzk x ?_, R.bor⟩, fun b u h k => ⟨by rw [upd_ne (ne_of_none h n)]; exact h, k, ⟨fun z => z.elim id fun e => absurd e (ne_of_none h n), .inl⟩⟩, .refl, fun x h => ?_, .refl⟩, ⟨a, o, rfl, upd_same, .inr rfl, nO, R.fzk a n, q.adv R.wl ad⟩, fun _ _ b e => by cases e; exact n⟩
  · obtain ⟨v, e1, z⟩ := R.at_ i s e
    refine ⟨v, e1, ?_⟩
    cases s with
    | val d => obtain ⟨v, e2, r⟩ := z; exact ⟨v, e2, r.adv R.wl ad⟩
    | brz d => obtain ⟨v, e2, r⟩ := z; exact ⟨v, e2, r.adv R.wl ad⟩
    | own b d => obtain ⟨c, ob, e2, e3, w, r⟩ := z; exact ⟨c, ob, e2, by rw [upd_ne (ne_of_none e3 n)]; exact e3, .inl w, r.adv R.wl ad⟩
    | lck b d => obtain ⟨c, ob, e2, e3, w, r⟩ := z; exact ⟨c, ob, e2, by rw [upd_ne (ne_of_none e3 n)]; exact e3, .inl w, r.adv R.wl ad⟩
  · rcases w with w | rfl
    · obtain ⟨u, e, m⟩ := R.wl x w
      exact ⟨u, by rw [upd_ne (ne_of_none e n)]; exact e, m⟩
    · exact ⟨o, upd_same, q.mk1⟩
  · by_cases e : x = a
    · subst e; exact n
    · rw [upd_ne e] at h; exact h
  · by_cases e : x = a
    · subst e; exact n
    · rw [upd_ne e] at h; exact h
theorem Out.val (g : Go T σ H ρ W H1 ρ1 W1) {v : V} {d : D} (r : RepD T.K H1 W1 v d) : Out T σ H ρ W (.val d) ρ1 v H1 W1 := ⟨g, r, fun _ e => by cases e⟩
/-- a result that an operation makes -/
theorem Go.res (g : Go T σ H ρ W H1 ρ1 W1) {p : P} {Q : VK} (h : ∀ v H' W', Out T σ H ρ W p ρ1 v H' W' → Q v H') (np : ∀ i, p ≠ .at_ i) : ResQ T.K H1 W1 p Q := by
  cases p with
  | val d =>
    rintro v H' (rfl | ⟨a, vs, n, rfl⟩) r
    · exact h _ _ _ (.val g r)
    · exact h _ _ _ (.val (g.trans (Go.tup g.rel n)) r)
  | own d => exact fun a o n q => h _ _ _ (Out.after g (Out.own g.rel n q))
  | at_ i => exact absurd rfl (np i)
theorem dBin_np {op : Operator} {x y : D} {p : P} (h : dBin op x y = .ok p) (i : Nat) : p ≠ .at_ i := by
  unfold dBin at h
  split at h <;> first | (cases h; done) | (cases h; simp; done) | (obtain ⟨_, h⟩ := need_ok h; cases h; simp)

theorem pk_of {p : P} {ρ : Env'} {d : D} (h : pk p ρ = .ok d) : peek p ρ = some d := by
  unfold pk Rs.of at h
  split at h
  · cases h
  · rename_i e; cases h; exact e
/-! ### the simple expressions -/
theorem s_bin (tk : T.K = X.K) {a b : Ex} {a' b' : Expr} {op : Operator} {pos : Pos} (ha : PE X a' (tE X T F Z a)) (hb : PE X b' (tE X T F Z b)) : PE X (.BinOp a' op b' pos) (tE X T F Z (.bin op a b)) := by
  refine wkE (pe_op (op_B op) ha hb) ?_
  rintro σ H Q ⟨ρ, W, R, h⟩
  refine ⟨ρ, W, R, (Post.bind h).imp fun p1 ρ1 h1 v1 H1 W1 o1 => ⟨ρ1, W1, o1.go.rel, ((Post.bind h1).move o1.go.step).imp fun p2 ρ2 h2 v2 H2 W2 o2 => ?_⟩⟩
  obtain ⟨x, ex, h3⟩ := Post.val .pk h2
  obtain ⟨y, ey, h4⟩ := Post.val .pk h3
  obtain ⟨p, ep, h5⟩ := Post.val .dBin h4
  have h5 : ∀ v H' W', Out T σ H ρ W p ρ2 v H' W' → Q v H' := h5
  have kx := peek_ok o2.go.rel (o1.rep.step o1.go.rel o2.go.step o2.go.mon) (pk_of ex)
  have ky := peek_ok o2.go.rel o2.rep (pk_of ey)
  rw [← tk]
  exact bin_ok o2.go.rel.wl kx ky ep ((o1.go.trans o2.go).res h5 (dBin_np ep))
end
end Dv

set_option Elab.async false
set_option linter.all false
set_option maxRecDepth 100000
namespace Dv
open PySem PySem.Spec PyProof.Rows L2

def RepPs (T : Tc) (σ : Sg) (H0 H : Hp) (ρ : Env') (W : AS) : List V → List P → Prop
  | vs, [] => vs = []
  | vs, p :: ps => ∃ v r, vs = v :: r ∧ RepP T σ H ρ W v p ∧ (∀ d a, p = .own d → v = .ref a → H0 a = none ∧ ∀ (j : Nat) (c : D), ps[j]? = some (P.own c) → r[j]? ≠ some (V.ref a)) ∧ RepPs T σ H0 H ρ W r ps
structure Outs (T : Tc) (σ : Sg) (H : Hp) (ρ : Env') (W : AS) (ps : List P) (ρ' : Env') (vs : List V) (H' : Hp) (W' : AS) : Prop where
  go : Go T σ H ρ W H' ρ' W'
  rep : RepPs T σ H H' ρ' W' vs ps
/-- the new objects among the arguments -/
def tmps (vs : List V) (ps : List P) : AS := fun a => ∃ (j : Nat) (d : D), ps[j]? = some (P.own d) ∧ vs[j]? = some (V.ref a)

section
variable {X : Cx} {Z : WX} {T : Tc} {F : Fn} {σ : Sg} {H H0 H1 H2 : Hp} {ρ ρ1 ρ2 ρ' : Env'} {W W1 W2 : AS} {A : AS}
theorem StepX.adv (s : StepX A σ H ρ W σ H1 ρ1 W1) (R : Rel T σ H ρ W) (hA : ∀ a, A a → W a) : Adv H W H1 W1 := fun b o h w => by
  obtain ⟨h1, _, w1⟩ := s b o h (R.nown w) fun z => w (hA b z)
  exact ⟨h1, fun z => w (w1.mp z)⟩
theorem RepP.stepX {v : V} {p : P} (h : RepP T σ H ρ W v p) (R : Rel T σ H ρ W) (s : StepX A σ H ρ W σ H1 ρ1 W1) (m : Mon σ ρ ρ1) (hA : ∀ a, A a → W a) (n : ∀ d a, p = .own d → v = .ref a → ¬ A a) : RepP T σ H1 ρ1 W1 v p := by
  cases p with
  | val d => exact RepD.adv R.wl (s.adv R hA) h
  | own d =>
    obtain ⟨a, o, e, ha, w, no, f, q⟩ := h
    obtain ⟨h1, n1, w1⟩ := s a o ha (fun i z => no i z.a) (n d a rfl e)
    exact ⟨a, o, e, h1, w1.mpr w, fun i z => no i (m i a z), f, q.adv R.wl (s.adv R hA)⟩
  | at_ i => exact h
theorem RepPs.step : ∀ {ps : List P} {vs : List V}, RepPs T σ H0 H ρ W vs ps → Rel T σ H ρ W → Step σ H ρ W σ H1 ρ1 W1 → Mon σ ρ ρ1 → RepPs T σ H0 H1 ρ1 W1 vs ps
  | [], _, h, _, _, _ => h
  | _ :: _, _, h, R, s, m => by
    obtain ⟨v, r, e, q, n, t⟩ := h
    exact ⟨v, r, e, q.step R s m, n, t.step R s m⟩
theorem RepPs.stepX : ∀ {ps : List P} {vs : List V}, RepPs T σ H0 H ρ W vs ps → Rel T σ H ρ W → StepX A σ H ρ W σ H1 ρ1 W1 → Mon σ ρ ρ1 → (∀ a, A a → W a) → (∀ (j : Nat) (d : D) (a : Addr), ps[j]? = some (P.own d) → vs[j]? = some (V.ref a) → ¬ A a) → RepPs T σ H0 H1 ρ1 W1 vs ps
  | [], _, h, _, _, _, _, _ => h
  | p :: _, _, h, R, s, m, hA, n => by
    obtain ⟨v, r, rfl, q, n1, t⟩ := h
    exact ⟨v, r, rfl, q.stepX R s m hA fun d a e1 e2 => n 0 d a (by rw [e1]; rfl) (by rw [e2]; rfl), n1, t.stepX R s m hA fun j d a e1 e2 => n (j + 1) d a (by simpa using e1) (by simpa using e2)⟩
theorem RepPs.base : ∀ {ps : List P} {vs : List V}, RepPs T σ H0 H ρ W vs ps → (∀ a, H0 a = none → H2 a = none) → RepPs T σ H2 H ρ W vs ps
  | [], _, h, _ => h
  | _ :: _, _, h, d => by
    obtain ⟨v, r, e, q, n, t⟩ := h
    exact ⟨v, r, e, q, fun c a e1 e2 => ⟨d a (n c a e1 e2).1, (n c a e1 e2).2⟩, t.base d⟩
theorem RepPs.length : ∀ {ps : List P} {vs : List V}, RepPs T σ H0 H ρ W vs ps → vs.length = ps.length
  | [], _, h => by rw [show _ = [] from h]; rfl
  | _ :: _, _, h => by
    obtain ⟨v, r, rfl, _, _, t⟩ := h
    rw [List.length_cons, List.length_cons, t.length]
theorem RepPs.get : ∀ {ps : List P} {vs : List V} {j : Nat} {p : P}, RepPs T σ H0 H ρ W vs ps → ps[j]? = some p → ∃ v, vs[j]? = some v ∧ RepP T σ H ρ W v p
  | [], _, _, _, _, e => by simp at e
  | _ :: _, _, 0, _, h, e => by
    obtain ⟨v, r, rfl, q, _, _⟩ := h
    simp at e; subst e; exact ⟨v, rfl, q⟩
  | _ :: _, _, j + 1, _, h, e => by
    obtain ⟨v, r, rfl, _, _, t⟩ := h
    obtain ⟨u, h1, h2⟩ := t.get (j := j) (by simpa using e)
    exact ⟨u, by simpa using h1, h2⟩
theorem RepPs.new : ∀ {ps : List P} {vs : List V} {j : Nat} {d : D} {a : Addr}, RepPs T σ H0 H ρ W vs ps → ps[j]? = some (.own d) → vs[j]? = some (.ref a) → H0 a = none
  | [], _, _, _, _, _, e, _ => by simp at e
  | _ :: _, _, 0, _, _, h, e, e2 => by
    obtain ⟨v, r, rfl, _, n, _⟩ := h
    simp at e e2
    exact (n _ _ e e2).1
  | _ :: _, _, j + 1, _, _, h, e, e2 => by
    obtain ⟨v, r, rfl, _, _, t⟩ := h
    exact t.new (j := j) (by simpa using e) (by simpa using e2)
theorem RepPs.dst : ∀ {ps : List P} {vs : List V} {i j : Nat} {c d : D} {a : Addr}, RepPs T σ H0 H ρ W vs ps → ps[i]? = some (.own c) → ps[j]? = some (.own d) → vs[i]? = some (.ref a) → vs[j]? = some (.ref a) → i = j
  | [], _, _, _, _, _, _, _, e, _, _, _ => by simp at e
  | _ :: _, _, 0, 0, _, _, _, _, _, _, _, _ => rfl
  | _ :: _, _, 0, j + 1, _, _, _, h, e1, e2, e3, e4 => by
    obtain ⟨v, r, rfl, _, n, _⟩ := h
    simp at e1 e3
    exact absurd (by simpa using e4) ((n _ _ e1 e3).2 j _ (by simpa using e2))
  | _ :: _, _, i + 1, 0, _, _, _, h, e1, e2, e3, e4 => by
    obtain ⟨v, r, rfl, _, n, _⟩ := h
    simp at e2 e4
    exact absurd (by simpa using e3) ((n _ _ e2 e4).2 i _ (by simpa using e1))
  | _ :: _, _, i + 1, j + 1, _, _, _, h, e1, e2, e3, e4 => by
    obtain ⟨v, r, rfl, _, _, t⟩ := h
    rw [t.dst (i := i) (j := j) (by simpa using e1) (by simpa using e2) (by simpa using e3) (by simpa using e4)]
theorem tmps_w {ps : List P} {vs : List V} (h : RepPs T σ H0 H ρ W vs ps) : ∀ a, tmps vs ps a → W a ∧ H0 a = none := fun a ⟨j, d, e1, e2⟩ => by
  obtain ⟨v, e3, a', o, e4, _, w, _⟩ := h.get e1
  rw [e2] at e3; cases e3; cases e4
  exact ⟨w, h.new e1 e2⟩
theorem tmp_w {p : P} {v : V} (h : RepP T σ H ρ W v p) : ∀ a, tmp v p a → W a := fun a z => by
  cases p with
  | val d => exact z.elim
  | at_ i => exact z.elim
  | own d =>
    obtain ⟨a', o, e4, _, w, _⟩ := h
    rw [show v = .ref a from z] at e4
    cases e4
    exact w

theorem toDs_ok : ∀ {ps : List P} {vs : List V} {ρ ρ' : Env'} {W : AS} {ds : List D}, Rel T σ H ρ W → RepPs T σ H0 H ρ W vs ps → toDs ps ρ = some (ds, ρ') →
    ∃ W', Rel T σ H ρ' W' ∧ RepDs T.K H W' vs ds ∧ StepX (tmps vs ps) σ H ρ W σ H ρ' W' ∧ Mon σ ρ ρ' ∧ Lk ρ ρ'
  | [], _, _, _, W, _, R, h, e => by
    cases e
    exact ⟨W, R, h, Step.refl.x, .refl, .refl⟩
  | p :: ps, _, ρ, ρ', W, ds, R, h, e => by
    obtain ⟨v, r, rfl, q, n, t⟩ := h
    have e : ((toD p ρ).bind fun r => (toDs ps r.2).bind fun q => some (r.1 :: q.1, q.2)) = some (ds, ρ') := e
    cases e1 : toD p ρ with
    | none => rw [e1] at e; cases e
    | some x =>
      rw [e1] at e
      have e : ((toDs ps x.2).bind fun q => some (x.1 :: q.1, q.2)) = some (ds, ρ') := e
      cases e2 : toDs ps x.2 with
      | none => rw [e2] at e; cases e
      | some y =>
        rw [e2] at e
        cases e
        obtain ⟨W1, R1, q1, s1, m1, l1⟩ := toD_ok R q (d := x.1) (ρ' := x.2) e1
        have t1 : RepPs T σ H0 H x.2 W1 r ps := t.stepX R s1 m1 (tmp_w q) fun j c a h1 h2 z => by
          cases p with
          | val d => exact z
          | at_ i => exact z
          | own d => exact (n d a rfl z).2 j c h1 h2
        obtain ⟨W2, R2, q2, s2, m2, l2⟩ := toDs_ok R1 t1 (ds := y.1) (ρ' := y.2) e2
        refine ⟨W2, R2, ⟨v, r, rfl, RepD.adv R1.wl (s2.adv R1 fun a z => (tmps_w t1 a z).1) q1, q2⟩, fun b o hb no na => ?_, m1.trans m2, l1.trans l2⟩
        obtain ⟨_, n1, w1⟩ := s1 b o hb no fun z => na (by
          cases p with
          | val d => exact z.elim
          | at_ i => exact z.elim
          | own d => exact ⟨0, d, rfl, by rw [show v = .ref b from z]; rfl⟩)
        obtain ⟨h2, n2, w2⟩ := s2 b o hb n1 fun ⟨j, d, z1, z2⟩ => na ⟨j + 1, d, by simpa using z1, by simpa using z2⟩
        exact ⟨h2, n2, w2.trans w1⟩
theorem Outs.data {ps : List P} {vs : List V} {ds : List D} (o : Outs T σ H ρ W ps ρ1 vs H1 W1) (e : toDs ps ρ1 = some (ds, ρ2)) : ∃ W2, Go T σ H ρ W H1 ρ2 W2 ∧ RepDs T.K H1 W2 vs ds := by
  obtain ⟨W2, R2, q, s, m, l⟩ := toDs_ok o.go.rel o.rep e
  exact ⟨W2, ⟨R2, o.go.step.then s fun a z => (tmps_w o.rep a z).2, o.go.mon.trans m, o.go.dom, o.go.lk.trans l⟩, q⟩
theorem Out.data {p : P} {v : V} {d : D} (o : Out T σ H ρ W p ρ1 v H1 W1) (e : toD p ρ1 = some (d, ρ2)) : ∃ W2, Go T σ H ρ W H1 ρ2 W2 ∧ RepD T.K H1 W2 v d := by
  obtain ⟨W2, R2, q, s, m, l⟩ := toD_ok o.go.rel o.rep e
  refine ⟨W2, ⟨R2, o.go.step.then s fun a z => ?_, o.go.mon.trans m, o.go.dom, o.go.lk.trans l⟩, q⟩
  cases p with
  | val d => exact z.elim
  | at_ i => exact z.elim
  | own d => exact o.new d rfl a z
theorem of_ok {α : Type} {o : Option α} {a : α} (h : Rs.of o = .ok a) : o = some a := by
  cases o with
  | none => cases h
  | some x => cases h; rfl

/-! ### the simple expressions -/
def tA (X : Cx) (T : Tc) (F : Fn) (Z : WX) (l : Exs) : TA := fun σ H Q => ∃ ρ W, Rel T σ H ρ W ∧ Post X Z (evs F l ρ) σ H ρ fun ps ρ' => ∀ vs H' W', Outs T σ H ρ W ps ρ' vs H' W' → Q vs H'
variable {a b c : Ex} {a' b' c' : Expr} {pos : Pos}
theorem s_cst (d : D) (v : V) (e : Expr) (he : PE X e (tC v)) (hv : ∀ H W, RepD T.K H W v d) : PE X e (tE X T F Z (.cst d)) := by
  refine wkE he ?_
  rintro σ H Q ⟨ρ, W, R, h⟩
  exact h v H W (.val (Go.refl R) (hv H W))
theorem s_var {i : Nat} (he : PE X a' (tVar i)) : PE X a' (tE X T F Z (.var i)) := by
  refine wkE he ?_
  rintro σ H Q ⟨ρ, W, R, h⟩
  have h : Post X Z (evVar i ρ) σ H ρ _ := h
  unfold evVar at h
  split at h
  · rename_i d e
    obtain ⟨o, e1, v, rfl, q⟩ := R.at_ i _ e
    exact ⟨v, e1, h v H W (.val (Go.refl R) q)⟩
  · rename_i d e
    obtain ⟨o, e1, v, rfl, q⟩ := R.at_ i _ e
    exact ⟨v, e1, h v H W (.val (Go.refl R) q)⟩
  · rename_i b d e
    obtain ⟨o, e1, x, ob, rfl, q⟩ := R.at_ i _ e
    exact ⟨_, e1, h _ H W ⟨Go.refl R, e1, fun _ z => by cases z⟩⟩
  · rename_i b d e
    obtain ⟨o, e1, x, ob, rfl, q⟩ := R.at_ i _ e
    exact ⟨_, e1, h _ H W ⟨Go.refl R, e1, fun _ z => by cases z⟩⟩
  · exact h.elim
theorem s_glo {x : Str} (h : ∀ d, F.glo x = some d → ∃ v, PE X a' (tC v) ∧ ∀ H W, RepD T.K H W v d) : PE X a' (tE X T F Z (.glo x)) := by
  refine ⟨fun pins s σ H Q I q => ?_⟩
  obtain ⟨ρ, W, R, p⟩ := q
  obtain ⟨d, e, p⟩ := Post.val (r := Rs.of (F.glo x)) .of p
  obtain ⟨v, pe, hv⟩ := h d (of_ok e)
  exact pe.run pins s σ H Q I (p v H W (.val (Go.refl R) (hv H W)))
/-- two operands have come -/
theorem two (o1 : ∀ (_ : Unit), True) : True := trivial
theorem s_cmp (tk : T.K = X.K) (hu : X.A.units + 65 < cLine) {op : CmpOp} (hm : behindInMarks op b' = false) (ha : PE X a' (tE X T F Z a)) (hb : PE X b' (tE X T F Z b)) : PE X (.Compare a' [op] [b'] pos) (tE X T F Z (.cmp op a b)) := by
  refine wkE (pe_cmpR (op_C hu op) ha hb hm) ?_
  rintro σ H Q ⟨ρ, W, R, h⟩
  refine ⟨ρ, W, R, (Post.bind h).imp fun p1 ρ1 h1 v1 H1 W1 o1 => ⟨ρ1, W1, o1.go.rel, ((Post.bind h1).move o1.go.step).imp fun p2 ρ2 h2 v2 H2 W2 o2 => ?_⟩⟩
  obtain ⟨x, ex, h3⟩ := Post.val .pk h2
  obtain ⟨y, ey, h4⟩ := Post.val .pk h3
  obtain ⟨p, ep, h5⟩ := Post.val .dCmp h4
  have kx := peek_ok o2.go.rel (o1.rep.step o1.go.rel o2.go.step o2.go.mon) (pk_of ex)
  have ky := peek_ok o2.go.rel o2.rep (pk_of ey)
  rw [← tk]
  exact cmp_ok kx ky ep (h5 _ _ _ (.val (o1.go.trans o2.go) rfl))
theorem s_tcmp (tk : T.K = X.K) (hu : X.A.units + 65 < cLine) {op : CmpOp} (hm : behindInMarks op b' = false) (ha : PE X a' (tE X T F Z a)) (hb : PE X b' (tE X T F Z b)) : PT X (.Compare a' [op] [b'] pos) (tT X T F Z (.cmp op a b)) := by
  refine wkT (pt_cmpR (op_C hu op) ha hb hm) ?_
  rintro σ H Q ⟨ρ, W, R, h⟩
  refine ⟨ρ, W, R, (Post.bind h).imp fun p1 ρ1 h1 v1 H1 W1 o1 => ⟨ρ1, W1, o1.go.rel, ((Post.bind h1).move o1.go.step).imp fun p2 ρ2 h2 v2 H2 W2 o2 => ?_⟩⟩
  obtain ⟨x, ex, h3⟩ := Post.val .pk h2
  obtain ⟨y, ey, h4⟩ := Post.val .pk h3
  obtain ⟨p, ep, h5⟩ := Post.val .dCmp h4
  have kx := peek_ok o2.go.rel (o1.rep.step o1.go.rel o2.go.step o2.go.mon) (pk_of ex)
  have ky := peek_ok o2.go.rel o2.rep (pk_of ey)
  rw [← tk]
  exact cmp_ok kx ky ep ⟨_, rfl, h5 _ _ (o1.go.trans o2.go)⟩
theorem s_chn (tk : T.K = X.K) (hu : X.A.units + 65 < cLine) {op op' : CmpOp} (hm : lastMarks [op, op'] [b', c'] = false) (ha : PE X a' (tE X T F Z a)) (hb : PE X b' (tE X T F Z b)) (hc : PE X c' (tE X T F Z c)) :
    PE X (.Compare a' [op, op'] [b', c'] pos) (tE X T F Z (.chn op op' a b c)) := by
  refine wkE (pe_chain (op_C hu op) (op_C hu op') ha hb hc hm) ?_
  rintro σ H Q ⟨ρ, W, R, h⟩
  refine ⟨ρ, W, R, (Post.bind h).imp fun p1 ρ1 h1 v1 H1 W1 o1 => ⟨ρ1, W1, o1.go.rel, ((Post.bind h1).move o1.go.step).imp fun p2 ρ2 h2 v2 H2 W2 o2 => ?_⟩⟩
  obtain ⟨x, ex, h3⟩ := Post.val .pk h2
  obtain ⟨y, ey, h4⟩ := Post.val .pk h3
  obtain ⟨k, ek, h5⟩ := Post.val .dCmp h4
  have kx := peek_ok o2.go.rel (o1.rep.step o1.go.rel o2.go.step o2.go.mon) (pk_of ex)
  have ky := peek_ok o2.go.rel o2.rep (pk_of ey)
  have go2 := o1.go.trans o2.go
  rw [← tk]
  refine cmp_ok kx ky ek ⟨k, rfl, ?_⟩
  cases k with
  | false => exact h5 _ _ _ (.val go2 rfl)
  | true =>
    refine ⟨ρ2, W2, go2.rel, ((Post.bind h5).move go2.step).imp fun p3 ρ3 h6 v3 H3 W3 o3 => ?_⟩
    obtain ⟨y', ey', h7⟩ := Post.val .pk h6
    obtain ⟨z, ez, h8⟩ := Post.val .pk h7
    obtain ⟨k', ek', h9⟩ := Post.val .dCmp h8
    exact cmp_ok (peek_ok o3.go.rel (o2.rep.step o2.go.rel o3.go.step o3.go.mon) (pk_of ey')) (peek_ok o3.go.rel o3.rep (pk_of ez)) ek' (h9 _ _ _ (.val (go2.trans o3.go) rfl))
theorem s_neg (ha : PE X a' (tE X T F Z a)) : PE X (.UnaryOp .USub a' pos) (tE X T F Z (.neg a)) := by
  refine wkE (pe_un un_neg ha) ?_
  rintro σ H Q ⟨ρ, W, R, h⟩
  refine ⟨ρ, W, R, (Post.bind h).imp fun p1 ρ1 h1 v1 H1 W1 o1 => ?_⟩
  obtain ⟨x, ex, h3⟩ := Post.val .pk h1
  have kx := peek_ok o1.go.rel o1.rep (pk_of ex)
  cases x with
  | int i => exact ⟨i, kx.int, h3 _ _ _ (.val o1.go rfl)⟩
  | _ => exact h3.elim
theorem asB_ok {p : P} {ρ : Env'} {k : Bool} {ρ' : Env'} (h : asB (p, ρ) = .ok (k, ρ')) : p = .val (.bl k) ∧ ρ' = ρ := by
  unfold asB at h
  split at h
  · rename_i b e
    have e : p = .val (.bl b) := e
    cases h
    exact ⟨e, rfl⟩
  · cases h
theorem s_not (ha : PE X a' (tE X T F Z a)) : PE X (.UnaryOp .Not a' pos) (tE X T F Z (.not_ a)) := by
  refine wkE (pe_not ha) ?_
  rintro σ H Q ⟨ρ, W, R, h⟩
  refine ⟨ρ, W, R, (Post.bind h).imp fun p1 ρ1 h1 v1 H1 W1 o1 => ?_⟩
  obtain ⟨⟨k, ρ2⟩, ex, h3⟩ := Post.val .asB h1
  obtain ⟨rfl, rfl⟩ := asB_ok ex
  have e : v1 = .bl k := o1.rep
  exact ⟨k, e, h3 _ _ _ (.val o1.go rfl)⟩
theorem s_tnot {t : Tx} (ha : PT X a' (tT X T F Z t)) : PT X (.UnaryOp .Not a' pos) (tT X T F Z (.not_ t)) := by
  refine wkT (pt_not ha) ?_
  rintro σ H Q ⟨ρ, W, R, h⟩
  exact ⟨ρ, W, R, (Post.bind h).imp fun p1 ρ1 h1 H1 W1 o1 => h1 _ _ o1⟩
theorem s_ite {t : Tx} (hc : PT X c' (tT X T F Z t)) (ha : PE X a' (tE X T F Z a)) (hb : PE X b' (tE X T F Z b)) : PE X (.IfExp c' a' b' pos) (tE X T F Z (.ite t a b)) := by
  refine wkE (pe_ifExp hc ha hb) ?_
  rintro σ H Q ⟨ρ, W, R, h⟩
  refine ⟨ρ, W, R, (Post.bind h).imp fun k ρ1 h1 H1 W1 g1 => ?_⟩
  cases k with
  | true => exact ⟨ρ1, W1, g1.rel, (Post.move h1 g1.step).imp fun p ρ2 h2 v H2 W2 o => h2 v H2 W2 (o.after g1)⟩
  | false => exact ⟨ρ1, W1, g1.rel, (Post.move h1 g1.step).imp fun p ρ2 h2 v H2 W2 o => h2 v H2 W2 (o.after g1)⟩
theorem s_nil : PA X [] (tA X T F Z .nil) := by
  refine wkA pa_nil ?_
  rintro σ H Q ⟨ρ, W, R, h⟩
  exact h [] H W ⟨Go.refl R, rfl⟩
theorem s_cons {e : Ex} {l : Exs} {e' : Expr} {l' : List Expr} (he : PE X e' (tE X T F Z e)) (hl : PA X l' (tA X T F Z l)) (hs : starEach (e' :: l') X.env = (false, eval e' X.env) :: starEach l' X.env) : PA X (e' :: l') (tA X T F Z (.cons e l)) := by
  refine wkA (pa_cons he hl hs) ?_
  rintro σ H Q ⟨ρ, W, R, h⟩
  refine ⟨ρ, W, R, (Post.bind h).imp fun p1 ρ1 h1 v1 H1 W1 o1 => ⟨ρ1, W1, o1.go.rel, ((Post.bind h1).move o1.go.step).imp fun p2 ρ2 h2 v2 H2 W2 o2 => ?_⟩⟩
  refine h2 (v1 :: v2) H2 W2 ⟨o1.go.trans o2.go, v1, v2, rfl, o1.rep.step o1.go.rel o2.go.step o2.go.mon, fun d x e1 e2 => ⟨o1.new d e1 x e2, fun j c e3 e4 => ?_⟩, o2.rep.base o1.go.dom⟩
  subst e1
  obtain ⟨x', ob, e5, e6, _⟩ := o1.rep
  rw [e2] at e5; cases e5
  rw [o2.rep.new e3 e4] at e6; cases e6
theorem s_tup {l : Exs} {l' : List Expr} {k : Nat} (hl : PA X l' (tA X T F Z l)) : PE X (.Tuple l' k pos) (tE X T F Z (.tup l)) := by
  refine wkE (pe_tup hl) ?_
  rintro σ H Q ⟨ρ, W, R, h⟩
  refine ⟨ρ, W, R, (Post.bind h).imp fun ps ρ1 h1 vs H1 W1 o1 => ?_⟩
  obtain ⟨⟨ds, ρ2⟩, ex, h3⟩ := Post.val .of h1
  obtain ⟨c, h3⟩ := Post.need h3
  obtain ⟨W2, g, q⟩ := o1.data (of_ok ex)
  refine ⟨by rw [q.length]; exact c, fun p n => ?_⟩
  exact (g.res h3 (fun _ z => by cases z)).tup g.rel.wl q n
theorem s_lst {l : Exs} {l' : List Expr} (hl : PA X l' (tA X T F Z l)) : PE X (.List l' pos) (tE X T F Z (.lst l)) := by
  refine wkE (pe_lst hl) ?_
  rintro σ H Q ⟨ρ, W, R, h⟩
  refine ⟨ρ, W, R, (Post.bind h).imp fun ps ρ1 h1 vs H1 W1 o1 => ?_⟩
  obtain ⟨⟨ds, ρ2⟩, ex, h3⟩ := Post.val .of h1
  obtain ⟨c, h3⟩ := Post.need h3
  obtain ⟨W2, g, q⟩ := o1.data (of_ok ex)
  refine ⟨by rw [q.length]; exact c, fun p n => ?_⟩
  exact (g.res h3 (fun _ z => by cases z)).lst q n
end
end Dv

set_option Elab.async false
set_option linter.all false
set_option maxRecDepth 100000
namespace Dv
open PySem PySem.Spec PyProof.Rows L2

section
variable {X : Cx} {Z : WX} {T : Tc} {F : Fn} {σ : Sg} {H H0 H1 H2 : Hp} {ρ ρ1 ρ2 ρ' : Env'} {W W1 W2 : AS} {K : PySem.W.Frag}

/-! ### subscripts -/
theorem atI_rep {l : List D} {vs : List V} {i : Int} {d : D} (r : RepDs K H W vs l) (h : atI l i = some d) : ∃ v, atI vs i = some v ∧ RepD K H W v d := by
  unfold atI at h ⊢
  rw [r.length]
  cases e : ixN l.length i with
  | none => rw [e] at h; cases h
  | some j =>
    rw [e] at h
    exact r.get h
theorem atI_map {α β : Type} {l : List α} {f : α → β} {i : Int} {d : α} (h : atI l i = some d) : atI (l.map f) i = some (f d) := by
  unfold atI at h ⊢
  rw [List.length_map]
  cases e : ixN l.length i with
  | none => rw [e] at h; cases h
  | some j =>
    rw [e] at h
    have h : l[j]? = some d := h
    show (l.map f)[j]? = some (f d)
    rw [List.getElem?_map, h]
    rfl
theorem idx_ok {x y : V} {d e r : D} {Q : VK} (hd : RepK K H W x d) (he : RepK K H W y e) (h : dIdx d e = .ok r) (q : ∀ v, RepD K H W v r → Q v H) : rIx K x y H Q := by
  unfold dIdx at h
  split at h
  · obtain ⟨a, vs, rfl, e1, r1⟩ := hd.tup
    obtain ⟨v, e2, r2⟩ := atI_rep r1 (of_ok h)
    exact .inr (.inl ⟨a, vs, _, v, rfl, he.int, e1.sq, e2, q v r2⟩)
  · obtain ⟨a, vs, rfl, e1, r1⟩ := hd.lst
    obtain ⟨v, e2, r2⟩ := atI_rep r1 (of_ok h)
    exact .inl ⟨a, vs, _, v, rfl, he.int, .of e1, e2, q v r2⟩
  · rename_i l i
    obtain ⟨a, rfl, e1⟩ := hd.scr
    cases z : atI l i with
    | none => rw [z] at h; cases h
    | some k =>
      rw [z] at h
      cases h
      exact .inl ⟨a, _, _, .int k, rfl, he.int, e1, atI_map z, q _ rfl⟩
  · rename_i z i
    obtain ⟨c, h⟩ := need_ok h
    cases e : atI z.cps.toList i with
    | none => rw [e] at h; cases h
    | some k =>
      rw [e] at h
      cases h
      exact .inr (.inr ⟨z, i, k, hd.str, he.int, c, e, q _ rfl⟩)
  · cases h
theorem s_idx (tk : T.K = X.K) {a b : Ex} {a' b' : Expr} {pos : Pos} (hp : PlainIx b') (ha : PE X a' (tE X T F Z a)) (hb : PE X b' (tE X T F Z b)) : PE X (.Subscript a' b' pos) (tE X T F Z (.idx a b)) := by
  refine wkE (pe_ix ix_seq ha hb hp) ?_
  rintro σ H Q ⟨ρ, W, R, h⟩
  refine ⟨ρ, W, R, (Post.bind h).imp fun p1 ρ1 h1 v1 H1 W1 o1 => ⟨ρ1, W1, o1.go.rel, ((Post.bind h1).move o1.go.step).imp fun p2 ρ2 h2 v2 H2 W2 o2 => ?_⟩⟩
  obtain ⟨x, ex, h3⟩ := Post.val .pk h2
  obtain ⟨y, ey, h4⟩ := Post.val .pk h3
  obtain ⟨d, ed, h5⟩ := Post.val .dIdx h4
  have kx := peek_ok o2.go.rel (o1.rep.step o1.go.rel o2.go.step o2.go.mon) (pk_of ex)
  have ky := peek_ok o2.go.rel o2.rep (pk_of ey)
  rw [← tk]
  exact idx_ok kx ky ed fun v r => h5 _ _ _ (.val (o1.go.trans o2.go) r)

/-! ### slices -/
def tO (X : Cx) (T : Tc) (F : Fn) (Z : WX) (o : Eo) : TO := fun σ H Q => ∃ ρ W, Rel T σ H ρ W ∧ Post X Z (evo F o ρ) σ H ρ fun i ρ' => ∀ H' W', Go T σ H ρ W H' ρ' W' → Q i H'
theorem wkO {e : Option Expr} {t t' : TO} (h : PO X e t) (w : ∀ σ H Q, t' σ H Q → t σ H Q) : PO X e t' := ⟨fun pins s σ H Q I q => h.run pins s σ H Q I (w σ H Q q)⟩
theorem s_onone : PO X none (tO X T F Z .none) := by
  refine wkO po_none ?_
  rintro σ H Q ⟨ρ, W, R, h⟩
  exact h H W (Go.refl R)
theorem s_osome {e : Ex} {e' : Expr} (he : PE X e' (tE X T F Z e)) : PO X (some e') (tO X T F Z (.some e)) := by
  refine wkO (po_some he) ?_
  rintro σ H Q ⟨ρ, W, R, h⟩
  refine ⟨ρ, W, R, (Post.bind h).imp fun p1 ρ1 h1 v1 H1 W1 o1 => ?_⟩
  obtain ⟨x, ex, h3⟩ := Post.val .pk h1
  have kx := peek_ok o1.go.rel o1.rep (pk_of ex)
  cases x with
  | int i => exact ⟨i, kx.int, h3 _ _ o1.go⟩
  | _ => exact h3.elim
def rSl (K : PySem.W.Frag) : V → Option Int → Option Int → Hp → VK → Prop := fun x lo hi H Q => rSlL K x lo hi H Q ∨ rSlA K x lo hi H Q ∨ rSlS x lo hi H Q
theorem sl_any : SlR X (rSl X.K) := sl_list.or (sl_tupA.or sl_str)
theorem slc_ok (wl : WL H W) {x : V} {d : D} {lo hi : Option Int} {p : P} {Q : VK} (hd : RepK K H W x d) (h : dSlc d lo hi = .ok p) (q : ResQ K H W p Q) : rSl K x lo hi H Q := by
  unfold dSlc at h
  split at h
  · obtain ⟨c, h⟩ := need_ok h
    cases h
    exact .inr (.inr ⟨_, hd.str, c, q.flat rfl⟩)
  · cases h
    obtain ⟨a, vs, rfl, e1, r1⟩ := hd.lst
    refine .inl ⟨a, vs, rfl, .of e1, fun p n => ?_⟩
    have r2 := (r1.drop (HT.sIx vs.length 0 lo)).take (HT.sIx vs.length vs.length hi - HT.sIx vs.length 0 lo)
    rw [← r1.length] at q
    exact q.lst r2 n
  · cases h
    obtain ⟨a, vs, rfl, e1, r1⟩ := hd.tup
    rw [← r1.length] at q
    refine .inr (.inl ⟨a, vs, rfl, e1.sq, fun ⟨z1, z2⟩ => ?_, fun _ p n => ?_⟩)
    · rw [z1, z2, List.drop_zero, List.take_of_length_le (by rw [r1.length]; omega)] at q
      exact q.flat ⟨a, vs, rfl, e1, r1⟩
    · exact q.tup wl ((r1.drop (HT.sIx vs.length 0 lo)).take (HT.sIx vs.length vs.length hi - HT.sIx vs.length 0 lo)) n
  · cases h
theorem dSlc_np {x : D} {lo hi : Option Int} {p : P} (h : dSlc x lo hi = .ok p) (i : Nat) : p ≠ .at_ i := by
  unfold dSlc at h
  split at h <;> first | (cases h; done) | (cases h; simp; done) | (obtain ⟨_, h⟩ := need_ok h; cases h; simp)
theorem s_slc (tk : T.K = X.K) {a : Ex} {lo hi : Eo} {a' : Expr} {lo' hi' : Option Expr} {pos p2 : Pos} (ha : PE X a' (tE X T F Z a)) (hl : PO X lo' (tO X T F Z lo)) (hh : PO X hi' (tO X T F Z hi)) :
    PE X (.Subscript a' (.Slice lo' hi' none p2) pos) (tE X T F Z (.slc a lo hi)) := by
  refine wkE (pe_slice sl_any ha hl hh) ?_
  rintro σ H Q ⟨ρ, W, R, h⟩
  refine ⟨ρ, W, R, (Post.bind h).imp fun p1 ρ1 h1 v1 H1 W1 o1 => ⟨ρ1, W1, o1.go.rel, ((Post.bind h1).move o1.go.step).imp fun l ρ2 h2 H2 W2 g2 => ⟨ρ2, W2, g2.rel, ((Post.bind h2).move (o1.go.trans g2).step).imp fun u ρ3 h3 H3 W3 g3 => ?_⟩⟩⟩
  obtain ⟨x, ex, h4⟩ := Post.val .pk h3
  obtain ⟨p, ep, h5⟩ := Post.val .dSlc h4
  have kx := peek_ok g3.rel ((o1.rep.step o1.go.rel g2.step g2.mon).step g2.rel g3.step g3.mon) (pk_of ex)
  rw [← tk]
  exact slc_ok g3.rel.wl kx ep (((o1.go.trans g2).trans g3).res (p := p) h5 (dSlc_np ep))

/-! ### truth, and, or -/
theorem nil_iff {vs : List V} {l : List D} (r : RepDs K H W vs l) : vs.isEmpty = l.isEmpty := by
  have e := r.length
  cases vs <;> cases l <;> simp_all
theorem truth_ok {v : V} {d : D} {b : Bool} (h : RepK K H W v d) (e : truth d = .ok b) : TruV K v H b := by
  unfold truth at e
  split at e
  · cases e; rw [h.non]; rfl
  · cases e; rw [h.bl]; rfl
  · cases e; rw [h.int]; rfl
  · obtain ⟨c, e⟩ := need_ok e
    cases e; rw [h.str]; exact ⟨c, rfl⟩
  · cases e
    obtain ⟨a, vs, rfl, e1, r⟩ := h.tup
    exact .inr (.inl ⟨vs, e1.sq, by rw [nil_iff r]⟩)
  · cases e
    obtain ⟨a, vs, rfl, e1, r⟩ := h.lst
    exact .inl ⟨vs, .of e1, by rw [nil_iff r]⟩
  · cases e
    obtain ⟨a, kvs, rfl, e1, k, r⟩ := h.dic
    refine .inr (.inr ⟨kvs, e1, ?_⟩)
    rw [← k]
    cases kvs <;> rfl
  · cases e
    obtain ⟨a, rfl, e1⟩ := h.scr
    refine .inl ⟨_, e1, ?_⟩
    rename_i l
    cases l <;> rfl
theorem s_tval (tk : T.K = X.K) {a : Ex} {a' : Expr} (he : ∀ whole, isTrue a' X.env whole = (do let v ← whole; standAt a'.pos; holding [v] (truthy v))) (ha : PE X a' (tE X T F Z a)) : PT X a' (tT X T F Z (.val a)) := by
  refine wkT (pt_truth ha he) ?_
  rintro σ H Q ⟨ρ, W, R, h⟩
  refine ⟨ρ, W, R, (Post.bind h).imp fun p1 ρ1 h1 v1 H1 W1 o1 => ?_⟩
  obtain ⟨x, ex, h3⟩ := Post.val .pk h1
  obtain ⟨b, eb, h4⟩ := Post.val .truth h3
  rw [← tk]
  exact ⟨b, truth_ok (peek_ok o1.go.rel o1.rep (pk_of ex)) eb, h4 _ _ o1.go⟩
def tTAnd (X : Cx) (T : Tc) (F : Fn) (Z : WX) (t : Txs) : TT := fun σ H Q => ∃ ρ W, Rel T σ H ρ W ∧ Post X Z (evTAnd F t ρ) σ H ρ fun b ρ' => ∀ H' W', Go T σ H ρ W H' ρ' W' → Q b H'
def tTOr (X : Cx) (T : Tc) (F : Fn) (Z : WX) (t : Txs) : TT := fun σ H Q => ∃ ρ W, Rel T σ H ρ W ∧ Post X Z (evTOr F t ρ) σ H ρ fun b ρ' => ∀ H' W', Go T σ H ρ W H' ρ' W' → Q b H'
theorem wkW {e : Expr} {t t' : TT} (h : PW X e t) (w : ∀ σ H Q, t' σ H Q → t σ H Q) : PW X e t' := ⟨fun wh pins s σ H Q I q => h.run wh pins s σ H Q I (w σ H Q q)⟩
variable {t : Tx} {l : Txs} {a' b' : Expr} {r' : List Expr} {pos : Pos}
theorem s_tand1 (ha : PT X a' (tT X T F Z t)) : PW X (.BoolOp .And [a'] pos) (tTAnd X T F Z (.cons t .nil)) := by
  refine wkW (pw_and1 ha) ?_
  rintro σ H Q ⟨ρ, W, R, h⟩
  refine ⟨ρ, W, R, (Post.bind h).imp fun k ρ1 h1 H1 W1 g1 => ?_⟩
  cases k with
  | true => exact h1 _ _ g1
  | false => exact h1 _ _ g1
theorem s_tor1 (ha : PT X a' (tT X T F Z t)) : PW X (.BoolOp .Or [a'] pos) (tTOr X T F Z (.cons t .nil)) := by
  refine wkW (pw_or1 ha) ?_
  rintro σ H Q ⟨ρ, W, R, h⟩
  refine ⟨ρ, W, R, (Post.bind h).imp fun k ρ1 h1 H1 W1 g1 => ?_⟩
  cases k with
  | true => exact h1 _ _ g1
  | false => exact h1 _ _ g1
theorem s_tand (ha : PT X a' (tT X T F Z t)) (hb : PW X (.BoolOp .And (b' :: r') pos) (tTAnd X T F Z l)) : PW X (.BoolOp .And (a' :: b' :: r') pos) (tTAnd X T F Z (.cons t l)) := by
  refine wkW (pw_and ha hb) ?_
  rintro σ H Q ⟨ρ, W, R, h⟩
  refine ⟨ρ, W, R, (Post.bind h).imp fun k ρ1 h1 H1 W1 g1 => ?_⟩
  cases k with
  | true =>
    rw [if_pos rfl]
    exact ⟨ρ1, W1, g1.rel, (Post.move h1 g1.step).imp fun k2 ρ2 h2 H2 W2 g2 => h2 _ _ (g1.trans g2)⟩
  | false =>
    rw [if_neg (by simp)]
    exact h1 _ _ g1
theorem s_tor (ha : PT X a' (tT X T F Z t)) (hb : PW X (.BoolOp .Or (b' :: r') pos) (tTOr X T F Z l)) : PW X (.BoolOp .Or (a' :: b' :: r') pos) (tTOr X T F Z (.cons t l)) := by
  refine wkW (pw_or ha hb) ?_
  rintro σ H Q ⟨ρ, W, R, h⟩
  refine ⟨ρ, W, R, (Post.bind h).imp fun k ρ1 h1 H1 W1 g1 => ?_⟩
  cases k with
  | false =>
    rw [if_neg (by simp)]
    exact ⟨ρ1, W1, g1.rel, (Post.move h1 g1.step).imp fun k2 ρ2 h2 H2 W2 g2 => h2 _ _ (g1.trans g2)⟩
  | true =>
    rw [if_pos rfl]
    exact h1 _ _ g1
/-! .. as values -/
def tVAnd (X : Cx) (T : Tc) (F : Fn) (Z : WX) (t : Exs) : TE := fun σ H Q => ∃ ρ W, Rel T σ H ρ W ∧ Post X Z (evAnd F t ρ) σ H ρ fun b ρ' => ∀ H' W', Go T σ H ρ W H' ρ' W' → Q (.bl b) H'
def tVOr (X : Cx) (T : Tc) (F : Fn) (Z : WX) (t : Exs) : TE := fun σ H Q => ∃ ρ W, Rel T σ H ρ W ∧ Post X Z (evOr F t ρ) σ H ρ fun b ρ' => ∀ H' W', Go T σ H ρ W H' ρ' W' → Q (.bl b) H'
variable {a : Ex} {m : Exs}
theorem s_vand1 (ha : PE X a' (tE X T F Z a)) : PE X (.BoolOp .And [a'] pos) (tVAnd X T F Z (.cons a .nil)) := by
  refine wkE (pe_one ha) ?_
  rintro σ H Q ⟨ρ, W, R, h⟩
  refine ⟨ρ, W, R, (Post.bind h).imp fun p1 ρ1 h1 v1 H1 W1 o1 => ?_⟩
  obtain ⟨⟨k, ρ2⟩, ex, h3⟩ := Post.val .asB h1
  obtain ⟨rfl, rfl⟩ := asB_ok ex
  rw [show v1 = .bl k from o1.rep]
  cases k with
  | true => exact h3 _ _ o1.go
  | false => exact h3 _ _ o1.go
theorem s_vor1 (ha : PE X a' (tE X T F Z a)) : PE X (.BoolOp .Or [a'] pos) (tVOr X T F Z (.cons a .nil)) := by
  refine wkE (pe_one ha) ?_
  rintro σ H Q ⟨ρ, W, R, h⟩
  refine ⟨ρ, W, R, (Post.bind h).imp fun p1 ρ1 h1 v1 H1 W1 o1 => ?_⟩
  obtain ⟨⟨k, ρ2⟩, ex, h3⟩ := Post.val .asB h1
  obtain ⟨rfl, rfl⟩ := asB_ok ex
  rw [show v1 = .bl k from o1.rep]
  cases k with
  | true => exact h3 _ _ o1.go
  | false => exact h3 _ _ o1.go
theorem s_vand (ha : PE X a' (tE X T F Z a)) (hb : PE X (.BoolOp .And (b' :: r') pos) (tVAnd X T F Z m)) : PE X (.BoolOp .And (a' :: b' :: r') pos) (tVAnd X T F Z (.cons a m)) := by
  refine wkE (pe_and ha hb) ?_
  rintro σ H Q ⟨ρ, W, R, h⟩
  refine ⟨ρ, W, R, (Post.bind h).imp fun p1 ρ1 h1 v1 H1 W1 o1 => ?_⟩
  obtain ⟨⟨k, ρ2⟩, ex, h3⟩ := Post.val .asB h1
  obtain ⟨rfl, rfl⟩ := asB_ok ex
  refine ⟨k, o1.rep, ?_⟩
  cases k with
  | true =>
    rw [if_pos rfl]
    exact ⟨ρ2, W1, o1.go.rel, (Post.move h3 o1.go.step).imp fun k2 ρ2 h2 H2 W2 g2 => h2 _ _ (o1.go.trans g2)⟩
  | false =>
    rw [if_neg (by simp)]
    exact h3 _ _ o1.go
theorem s_vor (ha : PE X a' (tE X T F Z a)) (hb : PE X (.BoolOp .Or (b' :: r') pos) (tVOr X T F Z m)) : PE X (.BoolOp .Or (a' :: b' :: r') pos) (tVOr X T F Z (.cons a m)) := by
  refine wkE (pe_or ha hb) ?_
  rintro σ H Q ⟨ρ, W, R, h⟩
  refine ⟨ρ, W, R, (Post.bind h).imp fun p1 ρ1 h1 v1 H1 W1 o1 => ?_⟩
  obtain ⟨⟨k, ρ2⟩, ex, h3⟩ := Post.val .asB h1
  obtain ⟨rfl, rfl⟩ := asB_ok ex
  refine ⟨k, o1.rep, ?_⟩
  cases k with
  | false =>
    rw [if_neg (by simp)]
    exact ⟨ρ2, W1, o1.go.rel, (Post.move h3 o1.go.step).imp fun k2 ρ2 h2 H2 W2 g2 => h2 _ _ (o1.go.trans g2)⟩
  | true =>
    rw [if_pos rfl]
    exact h3 _ _ o1.go
theorem s_and (h : PE X a' (tVAnd X T F Z m)) : PE X a' (tE X T F Z (.and_ m)) := by
  refine wkE h ?_
  rintro σ H Q ⟨ρ, W, R, h⟩
  exact ⟨ρ, W, R, (Post.bind h).imp fun k ρ1 h1 H1 W1 g1 => h1 _ _ _ (.val g1 rfl)⟩
theorem s_or (h : PE X a' (tVOr X T F Z m)) : PE X a' (tE X T F Z (.or_ m)) := by
  refine wkE h ?_
  rintro σ H Q ⟨ρ, W, R, h⟩
  exact ⟨ρ, W, R, (Post.bind h).imp fun k ρ1 h1 H1 W1 g1 => h1 _ _ _ (.val g1 rfl)⟩
end
end Dv

set_option Elab.async false
set_option linter.all false
set_option maxRecDepth 100000
namespace Dv
open PySem PySem.Spec PyProof.Rows L2

def RepKs (K : PySem.W.Frag) (H : Hp) (W : AS) : List V → List D → Prop
  | vs, [] => vs = []
  | vs, d :: ds => ∃ v r, vs = v :: r ∧ RepK K H W v d ∧ RepKs K H W r ds
section
variable {X : Cx} {Z : WX} {T : Tc} {F : Fn} {σ : Sg} {H H0 H1 H2 : Hp} {ρ ρ1 ρ2 ρ' : Env'} {W W1 W2 : AS} {K : PySem.W.Frag}
theorem pks_ok (R : Rel T σ H ρ W) : ∀ {ps : List P} {vs : List V} {ds : List D}, RepPs T σ H0 H ρ W vs ps → pks ps ρ = .ok ds → RepKs T.K H W vs ds
  | [], _, _, h, e => by cases e; exact h
  | p :: ps, _, ds, h, e => by
    obtain ⟨v, r, rfl, q, _, t⟩ := h
    have e : ((pk p ρ).bind fun d => (pks ps ρ).bind fun ds => .ok (d :: ds)) = .ok ds := e
    cases e1 : pk p ρ with
    | bad => rw [e1] at e; cases e
    | err x => rw [e1] at e; cases e
    | ok d =>
      rw [e1] at e
      have e : ((pks ps ρ).bind fun ds => .ok (d :: ds)) = .ok ds := e
      cases e2 : pks ps ρ with
      | bad => rw [e2] at e; cases e
      | err x => rw [e2] at e; cases e
      | ok ds' =>
        rw [e2] at e
        cases e
        exact ⟨v, r, rfl, peek_ok R q (pk_of e1), pks_ok R t e2⟩
theorem RepKs.one {vs : List V} {d : D} (h : RepKs K H W vs [d]) : ∃ v, vs = [v] ∧ RepK K H W v d := by
  obtain ⟨v, r, rfl, q, t⟩ := h
  rw [show r = [] from t]
  exact ⟨v, rfl, q⟩
theorem RepKs.two {vs : List V} {d e : D} (h : RepKs K H W vs [d, e]) : ∃ v u, vs = [v, u] ∧ RepK K H W v d ∧ RepK K H W u e := by
  obtain ⟨v, r, rfl, q, t⟩ := h
  obtain ⟨u, rfl, q2⟩ := t.one
  exact ⟨v, u, rfl, q, q2⟩

/-! ### built-in functions -/
def Ty.nm : Ty → String
  | .tup => "tuple" | .lst => "list" | .int => "int" | .str => "str" | .bool => "bool"
def Bl.f : Bl → Value
  | .len => .builtin "len" | .abs => .builtin "abs" | .int => .type "int" | .tuple => .type "tuple" | .list => .type "list" | .all => .builtin "all" | .any => .builtin "any" | .sum => .builtin "sum"
  | .gcd => .builtin "math.gcd" | .min2 => .builtin "min" | .max2 => .builtin "max" | .str => .type "str"
def rBl (K : PySem.W.Frag) : Bl → List V → Hp → VK → Prop
  | .len => fun xs H Q => ∃ x n, xs = [x] ∧ LenV K x H n ∧ Q (.int n) H
  | .abs => fun xs H Q => ∃ i, xs = [.int i] ∧ Q (.int (if i < 0 then -i else i)) H
  | .int => fun xs H Q => (∃ i, xs = [.int i] ∧ Q (.int i) H) ∨ ∃ k, xs = [.bl k] ∧ Q (.int (if k then 1 else 0)) H
  | .tuple => fun xs H Q => ∃ p ys, xs = [.ref p] ∧ ((SqL K H p ys ∧ ∀ l, H l = none → Q (.ref l) (upd H l (.tup ys))) ∨ (SqT K H p ys ∧ Q (.ref p) H))
  | .list => fun xs H Q => ∃ p ys, xs = [.ref p] ∧ (SqL K H p ys ∨ SqT K H p ys) ∧ ∀ l, H l = none → Q (.ref l) (upd H l (.lst ys))
  | .all => rAll K
  | .any => rAny K
  | .sum => rSum K
  | .gcd => rGcd
  | .min2 => fun xs H Q => ∃ i j, xs = [.int i, .int j] ∧ Q (.int (if j < i then j else i)) H
  | .max2 => fun xs H Q => ∃ i j, xs = [.int i, .int j] ∧ Q (.int (if j > i then j else i)) H
  | .str => fun xs H Q => ∃ i, xs = [.int i] ∧ i.natAbs.log2 < 1920 ∧ Q (.str (toString i)) H
theorem cr_bl (hc : X.calm = true) : ∀ b : Bl, CallR X b.f (rBl X.K b) := fun b => by
  cases b with
  | len => exact call_len
  | abs => exact call_abs
  | int => exact call_int1
  | tuple => exact call_tuple_of
  | list => exact call_list_of
  | all => exact cr_all hc
  | any => exact cr_any hc
  | sum => exact cr_sum hc
  | gcd => exact cr_gcd
  | min2 => exact call_min2 hc
  | max2 => exact call_max2 hc
  | str => exact call_str_int
theorem bls_rep : ∀ {l : List D} {bs : List Bool} {vs : List V}, RepDs K H W vs l → bls l = some bs → vs = bs.map V.bl
  | [], _, _, h, e => by cases e; exact h
  | .bl b :: l, bs, _, h, e => by
    obtain ⟨v, r, rfl, q, t⟩ := h
    have e : (bls l).map (b :: ·) = some bs := e
    cases e1 : bls l with
    | none => rw [e1] at e; cases e
    | some x =>
      rw [e1] at e; cases e
      rw [show v = .bl b from q, bls_rep t e1]; rfl
  | .non :: _, _, _, _, e => by cases e
  | .int _ :: _, _, _, _, e => by cases e
  | .str _ :: _, _, _, _, e => by cases e
  | .tup _ :: _, _, _, _, e => by cases e
  | .lst _ :: _, _, _, _, e => by cases e
  | .dic _ _ :: _, _, _, _, e => by cases e
  | .scr _ :: _, _, _, _, e => by cases e
theorem ints_rep : ∀ {l : List D} {bs : List Int} {vs : List V}, RepDs K H W vs l → intsD l = some bs → vs = bs.map V.int
  | [], _, _, h, e => by cases e; exact h
  | .int b :: l, bs, _, h, e => by
    obtain ⟨v, r, rfl, q, t⟩ := h
    have e : (intsD l).map (b :: ·) = some bs := e
    cases e1 : intsD l with
    | none => rw [e1] at e; cases e
    | some x =>
      rw [e1] at e; cases e
      rw [show v = .int b from q, ints_rep t e1]; rfl
  | .non :: _, _, _, _, e => by cases e
  | .bl _ :: _, _, _, _, e => by cases e
  | .str _ :: _, _, _, _, e => by cases e
  | .tup _ :: _, _, _, _, e => by cases e
  | .lst _ :: _, _, _, _, e => by cases e
  | .dic _ _ :: _, _, _, _, e => by cases e
  | .scr _ :: _, _, _, _, e => by cases e
theorem strs_rep : ∀ {l : List D} {bs : List Str} {vs : List V}, RepDs K H W vs l → strsD l = some bs → vs = bs.map V.str
  | [], _, _, h, e => by cases e; exact h
  | .str b :: l, bs, _, h, e => by
    obtain ⟨v, r, rfl, q, t⟩ := h
    have e : (strsD l).map (b :: ·) = some bs := e
    cases e1 : strsD l with
    | none => rw [e1] at e; cases e
    | some x =>
      rw [e1] at e; cases e
      rw [show v = .str b from q, strs_rep t e1]; rfl
  | .non :: _, _, _, _, e => by cases e
  | .bl _ :: _, _, _, _, e => by cases e
  | .int _ :: _, _, _, _, e => by cases e
  | .tup _ :: _, _, _, _, e => by cases e
  | .lst _ :: _, _, _, _, e => by cases e
  | .dic _ _ :: _, _, _, _, e => by cases e
  | .scr _ :: _, _, _, _, e => by cases e
theorem strs_of (ys : List Str) : RepDs K H W (ys.map V.str) (ys.map D.str) := by
  induction ys with
  | nil => rfl
  | cons y ys ih => exact ⟨.str y, _, rfl, rfl, ih⟩
theorem ints_of (ys : List Int) : RepDs K H W (ys.map V.int) (ys.map D.int) := by
  induction ys with
  | nil => rfl
  | cons y ys ih => exact ⟨.int y, _, rfl, rfl, ih⟩
/-- the type's name of data -/
def tyOf : D → String
  | .non => "NoneType" | .bl _ => "bool" | .int _ => "int" | .str _ => "str" | .tup _ => "tuple" | .lst _ => "list" | .dic _ _ => "dict" | .scr _ => "list"
theorem tyx_of {v : V} {d : D} (h : RepK K H W v d) (ns : ∀ l, d ≠ .scr l) : TyX K H v (.type (tyOf d)) := by
  cases d with
  | non => rw [h.non]; exact .base .non
  | bl b => rw [h.bl]; exact .base (.bl b)
  | int b => rw [h.int]; exact .base (.int b)
  | str b => rw [h.str]; exact .base (.str b)
  | tup l =>
    obtain ⟨a, vs, rfl, e, _⟩ := h.tup
    rcases e with e | ⟨o, its, n, e1, e2, _⟩
    · exact .base (.tup e)
    · exact .kTuple e1 e2
  | lst l => obtain ⟨a, vs, rfl, e, _⟩ := h.lst; exact .base (.lst e)
  | dic ks l => obtain ⟨a, kvs, rfl, e, _⟩ := h.dic; exact .base (.dK e)
  | scr l => exact absurd rfl (ns l)
theorem kit_tab (t : Ty) (d : D) (b : Bool) (h : isTy t d = .ok b) : kitB (tyOf d) t.nm = some b := by
  cases t <;> cases d <;> cases h <;> (dsimp only [tyOf, Ty.nm]; decide +kernel)
theorem isTy_ns {t : Ty} {d : D} {b : Bool} (h : isTy t d = .ok b) (l : List Int) : d ≠ .scr l := fun e => by
  subst e
  cases t <;> cases h
theorem len_ok {v : V} {d : D} {n : Nat} (h : RepK K H W v d) (e : dLen d = .ok n) : LenV K v H n := by
  unfold dLen at e
  split at e
  · cases e
    obtain ⟨a, vs, rfl, e1, r⟩ := h.tup
    exact .inr ⟨vs, e1.sq, r.length.symm⟩
  · cases e
    obtain ⟨a, vs, rfl, e1, r⟩ := h.lst
    exact .inl ⟨vs, .of e1, r.length.symm⟩
  · cases e
    obtain ⟨a, rfl, e1⟩ := h.scr
    exact .inl ⟨_, e1, by rw [List.length_map]⟩
  · obtain ⟨c, e⟩ := need_ok e
    cases e
    rw [h.str]
    exact ⟨c, rfl⟩
  · cases e
/-- all but isinstance -/
theorem bl_ok (wl : WL H W) {b : Bl} {vs : List V} {ds : List D} {p : P} {Q : VK} (h : RepKs K H W vs ds) (e : dBl b ds = .ok p) (q : ResQ K H W p Q) : rBl K b vs H Q := by
  unfold dBl at e
  split at e
  · obtain ⟨v, rfl, k⟩ := h.one
    rename_i d
    cases e1 : dLen d with
    | bad => rw [e1] at e; cases e
    | err x => rw [e1] at e; cases e
    | ok n =>
      rw [e1] at e; cases e
      exact ⟨v, n, rfl, len_ok k e1, q.flat rfl⟩
  · cases e
    obtain ⟨v, rfl, k⟩ := h.one
    exact ⟨_, by rw [k.int], q.flat rfl⟩
  · cases e
    obtain ⟨v, rfl, k⟩ := h.one
    exact .inl ⟨_, by rw [k.int], q.flat rfl⟩
  · cases e
    obtain ⟨v, rfl, k⟩ := h.one
    exact .inr ⟨_, by rw [k.bl], q.flat rfl⟩
  · cases e
    obtain ⟨v, rfl, k⟩ := h.one
    obtain ⟨a, us, rfl, e1, r⟩ := k.tup
    exact ⟨a, us, rfl, .inr ⟨e1.sq, q.flat ⟨a, us, rfl, e1, r⟩⟩⟩
  · cases e
    obtain ⟨v, rfl, k⟩ := h.one
    obtain ⟨a, us, rfl, e1, r⟩ := k.lst
    exact ⟨a, us, rfl, .inl ⟨.of e1, fun l n => q.tup wl r n⟩⟩
  · cases e
    obtain ⟨v, rfl, k⟩ := h.one
    obtain ⟨a, rfl, e1⟩ := k.scr
    exact ⟨a, _, rfl, .inl ⟨e1, fun l n => q.tup wl (ints_of _) n⟩⟩
  · cases e
    obtain ⟨v, rfl, k⟩ := h.one
    obtain ⟨a, us, rfl, e1, r⟩ := k.tup
    exact ⟨a, us, rfl, .inr e1.sq, fun l n => q.lst r n⟩
  · cases e
    obtain ⟨v, rfl, k⟩ := h.one
    obtain ⟨a, us, rfl, e1, r⟩ := k.lst
    exact ⟨a, us, rfl, .inl (.of e1), fun l n => q.lst r n⟩
  · cases e
    obtain ⟨v, rfl, k⟩ := h.one
    obtain ⟨a, rfl, e1⟩ := k.scr
    exact ⟨a, _, rfl, .inl e1, fun l n => q.lst (ints_of _) n⟩
  · rename_i l
    obtain ⟨v, rfl, k⟩ := h.one
    obtain ⟨a, us, rfl, e1, r⟩ := k.lst
    cases e2 : bls l with
    | none => rw [e2] at e; cases e
    | some bs =>
      rw [e2] at e; cases e
      exact ⟨a, bs, rfl, by rw [← bls_rep r e2]; exact .of e1, q.flat rfl⟩
  · rename_i l
    obtain ⟨v, rfl, k⟩ := h.one
    obtain ⟨a, us, rfl, e1, r⟩ := k.lst
    cases e2 : bls l with
    | none => rw [e2] at e; cases e
    | some bs =>
      rw [e2] at e; cases e
      exact ⟨a, bs, rfl, by rw [← bls_rep r e2]; exact .of e1, q.flat rfl⟩
  · rename_i l
    obtain ⟨v, rfl, k⟩ := h.one
    obtain ⟨a, us, rfl, e1, r⟩ := k.lst
    cases e2 : intsD l with
    | none => rw [e2] at e; cases e
    | some bs =>
      rw [e2] at e; cases e
      exact ⟨a, bs, rfl, by rw [← ints_rep r e2]; exact .of e1, q.flat rfl⟩
  · cases e
    obtain ⟨v, u, rfl, k1, k2⟩ := h.two
    exact ⟨_, _, by rw [k1.int, k2.int], q.flat rfl⟩
  · cases e
    obtain ⟨v, u, rfl, k1, k2⟩ := h.two
    exact ⟨_, _, by rw [k1.int, k2.int], q.flat rfl⟩
  · cases e
    obtain ⟨v, u, rfl, k1, k2⟩ := h.two
    exact ⟨_, _, by rw [k1.int, k2.int], q.flat rfl⟩
  · cases e
theorem dBl_np {b : Bl} {ds : List D} {p : P} (h : dBl b ds = .ok p) (i : Nat) : p ≠ .at_ i := by
  have key : ∀ {α : Type} {r : Rs α} {f : α → P}, (r.bind fun x => .ok (f x)) = .ok p → (∀ x, f x ≠ .at_ i) → p ≠ .at_ i := fun {α r f} e n => by
    cases r with
    | ok x => cases e; exact n x
    | err x => cases e
    | bad => cases e
  unfold dBl at h
  split at h <;> first | (cases h; done) | (cases h; simp; done) | exact key h (fun _ z => by cases z)
/-- the text of a call of a built-in function -/
theorem s_blt (hc : X.calm = true) (tk : T.K = X.K) {b : Bl} {l : Exs} {e' : Expr} (h : ∀ t : TA, t = tA X T F Z l → PE X e' (tCB (rBl X.K b) t)) : PE X e' (tE X T F Z (.blt b l)) := by
  refine wkE (h _ rfl) ?_
  rintro σ H Q ⟨ρ, W, R, h⟩
  refine ⟨ρ, W, R, (Post.bind h).imp fun ps ρ1 h1 vs H1 W1 o1 => ?_⟩
  obtain ⟨ds, ex, h3⟩ := Post.val .pks h1
  obtain ⟨p, ep, h4⟩ := Post.val .dBl h3
  rw [← tk]
  exact bl_ok o1.go.rel.wl (pks_ok o1.go.rel o1.rep ex) ep (o1.go.res (p := p) h4 (dBl_np ep))
/-- isinstance(x, T) -/
theorem s_isi (tk : T.K = X.K) {t : Ty} {a : Ex} {e' : Expr} (h : ∀ u : TE, u = tE X T F Z a → PE X e' (tCB (rIsi X.K) (tCons u (tCons (tC (.ty t.nm)) tNil)))) : PE X e' (tE X T F Z (.isi t a)) := by
  refine wkE (h _ rfl) ?_
  rintro σ H Q ⟨ρ, W, R, h⟩
  refine ⟨ρ, W, R, (Post.bind h).imp fun p1 ρ1 h1 v1 H1 W1 o1 => ?_⟩
  obtain ⟨d, ex, h3⟩ := Post.val .pk h1
  obtain ⟨b, e2, h4⟩ := Post.val .isTy h3
  have kd := peek_ok o1.go.rel o1.rep (pk_of ex)
  rw [← tk]
  exact ⟨v1, .ty t.nm, _, _, b, rfl, .ty _, tyx_of kd (isTy_ns e2), kit_ty (kit_tab t d b e2), h4 _ _ _ (.val o1.go rfl)⟩
end
end Dv

set_option Elab.async false
set_option linter.all false
set_option maxRecDepth 100000
namespace Dv
open PySem PySem.Spec PyProof.Rows L2

section
variable {X : Cx} {Z : WX} {T : Tc} {F : Fn} {σ : Sg} {H H0 H1 H2 : Hp} {ρ ρ1 ρ2 ρ' : Env'} {W W1 W2 : AS} {K : PySem.W.Frag}
/-- a slot's object changed -/
theorem mut_at (R : Rel T σ H ρ W) {i : Nat} {b : Bool} {d d' : D} {a : Addr} {o : HO} (e : ρ[i]? = some (some (.own b d))) (hv : σ[i]? = some (some (.ref a))) (q : RepO T.K H W o d') :
    Go T σ H ρ W (upd H a o) (ρ.set i (some (.own b d'))) W := by
  have oi : OwnU σ ρ i a := ⟨⟨b, d, e⟩, hv⟩
  obtain ⟨wa, ob0, ha, _⟩ := R.ownA oi.a
  have hi : i < ρ.length := (List.getElem?_eq_some_iff.mp e).1
  have ad : Adv H W (upd H a o) W := fun x u h w => ⟨by rw [upd_ne (fun z => w (by rw [z]; exact wa))]; exact h, w⟩
  have mon : Mon σ ρ (ρ.set i (some (.own b d'))) := fun j x h => by
    obtain ⟨h1, h2⟩ := h
    rcases h1 with ⟨c, z, h1⟩ | ⟨c, z, h1⟩
    · rcases getq_set h1 with ⟨rfl, k, _⟩ | ⟨_, k⟩
      · rw [hv] at h2; cases h2; exact oi.a
      · exact ⟨.inl ⟨c, z, k⟩, h2⟩
    · rcases getq_set h1 with ⟨rfl, k, _⟩ | ⟨_, k⟩
      · cases k
      · exact ⟨.inr ⟨c, z, k⟩, h2⟩
  refine ⟨⟨by simpa using R.len, fun j s h => ?_, fun j k x h1 h2 => R.sep j k x (mon j x h1) (mon k x h2), fun x w => ?_, fun j z x h1 h2 => ?_, fun x h => R.fzk x ?_, fun j x h => ?_⟩, fun x u h n => ?_, mon, fun x h => ?_, Lk.set fun b' d' z => by rw [e] at z; cases z⟩
  · rcases getq_set h with ⟨rfl, k, _⟩ | ⟨ne, k⟩
    · cases k
      exact ⟨_, hv, a, o, rfl, upd_same, wa, q.adv R.wl ad⟩
    · obtain ⟨v, e3, r⟩ := R.at_ j s k
      refine ⟨v, e3, ?_⟩
      cases s with
      | val c => obtain ⟨u, e4, z⟩ := r; exact ⟨u, e4, z.adv R.wl ad⟩
      | brz c => obtain ⟨u, e4, z⟩ := r; exact ⟨u, e4, z.adv R.wl ad⟩
      | own c x =>
        obtain ⟨a', ob', e4, e5, e6, z⟩ := r
        subst e4
        have na : a' ≠ a := fun z => ne (by subst z; exact R.sep _ _ _ oi.a ⟨.inl ⟨c, x, k⟩, e3⟩)
        exact ⟨a', ob', rfl, by rw [upd_ne na]; exact e5, e6, z.adv R.wl ad⟩
      | lck c x =>
        obtain ⟨a', ob', e4, e5, e6, z⟩ := r
        subst e4
        have na : a' ≠ a := fun z => ne (by subst z; exact R.sep _ _ _ oi.a ⟨.inr ⟨c, x, k⟩, e3⟩)
        exact ⟨a', ob', rfl, by rw [upd_ne na]; exact e5, e6, z.adv R.wl ad⟩
  · by_cases ex : x = a
    · subst ex; exact ⟨o, upd_same, q.mk1⟩
    · obtain ⟨u, hu, m⟩ := R.wl x w
      exact ⟨u, by rw [upd_ne ex]; exact hu, m⟩
  · rcases h1 with h1 | h1
    · rcases getq_set h1 with ⟨rfl, k, _⟩ | ⟨_, k⟩
      · cases k; exact R.fr i d x (.inl e) h2
      · exact R.fr j z x (.inl k) h2
    · rcases getq_set h1 with ⟨rfl, k, _⟩ | ⟨_, k⟩
      · cases k
      · exact R.fr j z x (.inr k) h2
  · by_cases ex : x = a
    · subst ex; rw [upd_same] at h; cases h
    · rw [upd_ne ex] at h; exact h
  · obtain ⟨h1, s, h2, h3⟩ := R.bor j x h
    refine ⟨h1, ?_⟩
    by_cases ej : i = j
    · subst ej
      refine ⟨.own b d', by rw [List.getElem?_set_self hi], ?_⟩
      rw [e] at h2; cases h2
      cases b with
      | true => trivial
      | false => exact h3.elim
    · exact ⟨s, by rw [List.getElem?_set_ne ej]; exact h2, h3⟩
  · have na : x ≠ a := fun z => n i (by rw [z]; exact oi)
    refine ⟨by rw [upd_ne na]; exact h, fun j z => ?_, Iff.rfl⟩
    obtain ⟨⟨c, y, h1⟩, h2⟩ := z
    rcases getq_set h1 with ⟨rfl, k, _⟩ | ⟨_, k⟩
    · rw [hv] at h2; cases h2; exact na rfl
    · exact n j ⟨⟨c, y, k⟩, h2⟩
  · by_cases ex : x = a
    · subst ex; rw [upd_same] at h; cases h
    · rw [upd_ne ex] at h; exact h

/-! ### methods that change their list -/
theorem RepDs.erase : ∀ {ds : List D} {vs : List V} (i : Nat), RepDs K H W vs ds → RepDs K H W (vs.eraseIdx i) (ds.eraseIdx i)
  | [], _, _, h => by rw [show _ = [] from h]; simp [RepDs]
  | _ :: _, _, 0, h => by
    obtain ⟨u, q, rfl, _, s⟩ := h
    exact s
  | _ :: _, _, i + 1, h => by
    obtain ⟨u, q, rfl, a, s⟩ := h
    exact ⟨u, _, rfl, a, RepDs.erase i s⟩
theorem RepDs.dropL {ds : List D} {vs : List V} (h : RepDs K H W vs ds) : RepDs K H W vs.dropLast ds.dropLast := by
  rw [List.dropLast_eq_take, List.dropLast_eq_take, h.length]
  exact h.take _
def Mm.nm : Mm → Str
  | .append => "append" | .pop => "pop" | .popAt => "pop" | .insert => "insert"
def Mm.id : Mm → String
  | .append => "list.append" | .pop => "list.pop" | .popAt => "list.pop" | .insert => "list.insert"
def rMm : Mm → V → List V → Hp → VK → Prop
  | .append => rAppend
  | .pop => rPop
  | .popAt => rPopAt
  | .insert => fun x vs H Q => ∃ (l : Addr) (xs : List V) (i : Int) (y : V), x = .ref l ∧ vs = [.int i, y] ∧ H l = some (.lst xs) ∧ xs.length < sizeLine ∧ 0 ≤ i ∧ i < 2 ^ 63 ∧
    Q .non (upd H l (.lst (xs.take i.toNat ++ [y] ++ xs.drop i.toNat)))
theorem mt_Mm : ∀ m : Mm, MtR X m.id (rMm m) := fun m => by
  cases m with
  | append => exact mt_append
  | pop => exact mt_pop
  | popAt => exact mt_popAt
  | insert => exact mt_insert
theorem mm_ok {m : Mm} {l : List D} {ds : List D} {a : Addr} {us vs : List V} {y d' : D} {Q : VK} (ha : H a = some (.lst us)) (r : RepDs K H W us l) (h : RepDs K H W vs ds) (e : dMm m (.lst l) ds = .ok (y, d'))
    (q : ∀ v o, RepD K H W v y → RepO K H W o d' → Q v (upd H a o)) : rMm m (.ref a) vs H Q := by
  unfold dMm at e
  split at e
  · rename_i l1 d e1
    cases e1
    obtain ⟨c, e⟩ := need_ok e
    cases e
    obtain ⟨v, r0, rfl, k, t⟩ := h
    rw [show r0 = [] from t]
    exact ⟨a, us, v, rfl, rfl, ha, by rw [r.length]; exact c, q _ _ rfl ⟨_, rfl, r.append (RepDs.one k)⟩⟩
  · rename_i l1 e1
    cases e1
    rw [show vs = [] from h]
    cases e2 : l[l.length - 1]? with
    | none => rw [e2] at e; cases e
    | some z =>
      rw [e2] at e; cases e
      obtain ⟨v, e3, k⟩ := r.get e2
      exact ⟨a, us, v, rfl, rfl, ha, by rw [r.length]; exact e3, q _ _ k ⟨_, rfl, r.dropL⟩⟩
  · rename_i l1 i d e1
    cases e1
    obtain ⟨⟨c1, c2, c3⟩, e⟩ := need_ok e
    cases e
    obtain ⟨v, r0, rfl, k, t⟩ := h
    rw [show v = .int i from k]
    obtain ⟨v2, r2, rfl, k2, t2⟩ := t
    rw [show r2 = [] from t2]
    exact ⟨a, us, i, v2, rfl, rfl, ha, by rw [r.length]; exact c1, c2, c3, q _ _ rfl ⟨_, rfl, ((r.take _).append (RepDs.one k2)).append (r.drop _)⟩⟩
  · rename_i l1 i e1
    cases e1
    obtain ⟨⟨c1, c2⟩, e⟩ := need_ok e
    obtain ⟨v, r0, rfl, k, t⟩ := h
    rw [show v = .int i from k, show r0 = [] from t]
    cases e2 : seqIndex? i l.length with
    | none => rw [e2] at e; cases e
    | some j =>
      rw [e2] at e
      have e : ((Rs.of l[j]?).bind fun y => .ok (y, D.lst (l.eraseIdx j))) = .ok (y, d') := e
      cases e3 : l[j]? with
      | none => rw [e3] at e; cases e
      | some z =>
        rw [e3] at e; cases e
        obtain ⟨v, e4, k⟩ := r.get e3
        exact ⟨a, us, i, j, v, rfl, rfl, ha, c1, c2, by rw [r.length]; exact e2, e4, q _ _ k ⟨_, rfl, r.erase j⟩⟩
  · cases e
theorem dMm_lst {m : Mm} {d : D} {ds : List D} {r : D × D} (e : dMm m d ds = .ok r) : ∃ l, d = .lst l := by
  unfold dMm at e
  split at e <;> first | exact ⟨_, rfl⟩ | cases e
theorem slot_peek {i : Nat} {p : P} {ρ1 : Env'} (e : evVar i ρ = .ok (p, ρ1)) (R : Rel T σ H ρ W) : ρ1 = ρ ∧ ∃ v, σ[i]? = some (some v) ∧ RepP T σ H ρ W v p := by
  unfold evVar at e
  split at e
  · rename_i d e1
    cases e
    obtain ⟨o, e1, v, rfl, q⟩ := R.at_ i _ e1
    exact ⟨rfl, v, e1, q⟩
  · rename_i d e1
    cases e
    obtain ⟨o, e1, v, rfl, q⟩ := R.at_ i _ e1
    exact ⟨rfl, v, e1, q⟩
  · rename_i b d e1
    cases e
    obtain ⟨o, e1, x, ob, rfl, q⟩ := R.at_ i _ e1
    exact ⟨rfl, _, e1, e1⟩
  · rename_i b d e1
    cases e
    obtain ⟨o, e1, x, ob, rfl, q⟩ := R.at_ i _ e1
    exact ⟨rfl, _, e1, e1⟩
  · cases e
/-- x.m(..) at a slot; r: how the method is called with its arguments -/
theorem s_chg (tk : T.K = X.K) {m : Mm} {i : Nat} {l : Exs} {e' : Expr} (h : ∀ t : TA, t = tA X T F Z l → PE X e' (tBM X.K "list" (rMm m) (tVar i) t)) : PE X e' (tE X T F Z (.chg m i l)) := by
  refine wkE (h _ rfl) ?_
  rintro σ H Q ⟨ρ, W, R, h⟩
  obtain ⟨⟨p0, ρ0⟩, e0, h⟩ := Post.val (r := evVar i ρ) .evVar h
  obtain ⟨rfl, v0, s0, q0⟩ := slot_peek e0 R
  obtain ⟨d0, f0, h⟩ := Post.val .pk h
  obtain ⟨c0, h⟩ := Post.need h
  have k0 := peek_ok R q0 (pk_of f0)
  have ty : tyV X.K "list" v0 H := by
    cases d0 with
    | lst l0 => obtain ⟨a, vs, rfl, e1, _⟩ := k0.lst; exact .inl ⟨rfl, vs, .of e1⟩
    | _ => cases c0
  refine ⟨v0, s0, ty, ρ0, W, R, (Post.bind h).imp fun ps ρ1 h1 vs H1 W1 o1 => ?_⟩
  obtain ⟨⟨ds, ρ2⟩, ex, h3⟩ := Post.val .of h1
  obtain ⟨W2, g, q⟩ := o1.data (of_ok ex)
  dsimp only at h3
  split at h3
  · rename_i b d e2
    obtain ⟨⟨y, d'⟩, ey, h4⟩ := Post.val .dMm h3
    obtain ⟨l0, rfl⟩ := dMm_lst ey
    obtain ⟨o, e3, a, ob, rfl, e5, wa, us, rfl, r⟩ := g.rel.at_ i _ e2
    rw [s0] at e3; cases e3
    refine mm_ok e5 r q ey fun v o' kv ko => ?_
    have g2 := mut_at g.rel e2 s0 ko
    exact h4 _ _ _ (.val (g.trans g2) (kv.adv g.rel.wl (g2.step.adv g.rel)))
  · exact h3.elim

/-! ### methods that change nothing -/
def Me.nm : Me → Str
  | .join => "join" | .split => "split" | .index => "index"
def Me.ty : Me → String
  | .join => "str" | .split => "str" | .index => "list"
def Me.id : Me → String
  | .join => "str.join" | .split => "str.split" | .index => "list.index"
def rMe (K : PySem.W.Frag) : Me → V → List V → Hp → VK → Prop
  | .join => fun x xs H Q => ∃ a p, ∃ ys : List Str, x = .str a ∧ xs = [.ref p] ∧ (SqL K H p (ys.map V.str) ∨ SqT K H p (ys.map V.str)) ∧ (ys.map (·.length)).sum + ys.length * a.length ≤ 16777216 ∧ Q (.str (Txt.join a ys)) H
  | .split => fun x xs H Q => ∃ a b, x = .str a ∧ xs = [.str b] ∧ (b.length == 0) = false ∧ a.length + 2 ≤ sizeLine ∧ rNewStrs (Txt.split a b) H Q
  | .index => rIndexD K
theorem mt_Me (hu : X.A.units + 65 < cLine) : ∀ m : Me, MtR X m.id (rMe X.K m) := fun m => by
  cases m with
  | join => exact mt_join
  | split => exact mt_split
  | index => exact mt_indexD hu
theorem findIdx_spec (l : List D) (x : D) {j : Nat} (h : (l.findIdx? fun z => deq z x) = some j) : ∃ z, (toPys l)[j]? = some z ∧ PyData.eqv z (toPy x) = true ∧ ∀ (m : Nat) (z' : PyData), m < j → (toPys l)[m]? = some z' → PyData.eqv z' (toPy x) = false := by
  rw [List.findIdx?_eq_some_iff_getElem] at h
  obtain ⟨hj, h1, h2⟩ := h
  refine ⟨toPy l[j], by rw [toPys_map, List.getElem?_map, List.getElem?_eq_getElem hj]; rfl, h1, fun m z' hm e => ?_⟩
  rw [toPys_map, List.getElem?_map, List.getElem?_eq_getElem (Nat.lt_trans hm hj)] at e
  cases e
  have := h2 m hm
  exact Bool.eq_false_iff.mpr this
theorem me_ok {m : Me} {x : V} {vs : List V} {d : D} {ds : List D} {p : P} {Q : VK} (hd : RepK K H W x d) (h : RepKs K H W vs ds) (e : dMe m d ds = .ok p) (q : ResQ K H W p Q) : rMe K m x vs H Q := by
  unfold dMe at e
  split at e
  · rename_i a l
    obtain ⟨v, rfl, k⟩ := h.one
    obtain ⟨b, us, rfl, e1, r⟩ := k.lst
    cases e2 : strsD l with
    | none => rw [e2] at e; cases e
    | some ys =>
      rw [e2] at e
      obtain ⟨c, e⟩ := need_ok e
      cases e
      exact ⟨a, b, ys, hd.str, rfl, .inl (by rw [← strs_rep r e2]; exact .of e1), c, q.flat rfl⟩
  · rename_i a l
    obtain ⟨v, rfl, k⟩ := h.one
    obtain ⟨b, us, rfl, e1, r⟩ := k.tup
    cases e2 : strsD l with
    | none => rw [e2] at e; cases e
    | some ys =>
      rw [e2] at e
      obtain ⟨c, e⟩ := need_ok e
      cases e
      exact ⟨a, b, ys, hd.str, rfl, .inr (by rw [← strs_rep r e2]; exact e1.sq), c, q.flat rfl⟩
  · rename_i a b
    obtain ⟨v, rfl, k⟩ := h.one
    obtain ⟨⟨c1, c2⟩, e⟩ := need_ok e
    cases e
    exact ⟨a, b, hd.str, by rw [k.str], c1, c2, fun l n => q.lst (strs_of _) n⟩
  · rename_i l x'
    obtain ⟨v, rfl, k⟩ := h.one
    obtain ⟨⟨c1, c2⟩, e⟩ := need_ok e
    split at e
    · rename_i j e2
      cases e
      obtain ⟨b, us, rfl, e1, r⟩ := hd.lst
      obtain ⟨z, z1, z2, z3⟩ := findIdx_spec l x' e2
      exact ⟨b, v, _, _, j, z, rfl, rfl, hd.dp c2, k.dp c1, c2, c1, z1, z2, z3, q.flat rfl⟩
    · cases e
  · cases e
theorem dMe_np {m : Me} {d : D} {ds : List D} {p : P} (h : dMe m d ds = .ok p) (i : Nat) : p ≠ .at_ i := by
  have key : ∀ {α : Type} {r : Rs α} {f : α → Rs P}, (r.bind f) = .ok p → (∀ x, f x = .ok p → p ≠ .at_ i) → p ≠ .at_ i := fun {α r f} e n => by
    cases r with
    | ok x => exact n x e
    | err x => cases e
    | bad => cases e
  unfold dMe at h
  split at h
  · refine key h fun x e => ?_
    obtain ⟨_, e⟩ := need_ok e
    cases e
    simp
  · refine key h fun x e => ?_
    obtain ⟨_, e⟩ := need_ok e
    cases e
    simp
  · obtain ⟨_, h⟩ := need_ok h
    cases h; simp
  · obtain ⟨_, h⟩ := need_ok h
    split at h
    · cases h; simp
    · cases h
  · cases h
theorem s_met (tk : T.K = X.K) {m : Me} {o : Ex} {l : Exs} {e' : Expr} (h : ∀ (u : TE) (t : TA), u = tE X T F Z o → t = tA X T F Z l → PE X e' (tBM X.K m.ty (rMe X.K m) u t)) : PE X e' (tE X T F Z (.met m o l)) := by
  refine wkE (h _ _ rfl rfl) ?_
  rintro σ H Q ⟨ρ, W, R, h⟩
  refine ⟨ρ, W, R, (Post.bind h).imp fun p0 ρ0 h0 v0 H0 W0 o0 => ?_⟩
  obtain ⟨d0, f0, h0⟩ := Post.val .pk h0
  obtain ⟨c0, h0⟩ := Post.need h0
  have k0 := peek_ok o0.go.rel o0.rep (pk_of f0)
  have ty : tyV X.K m.ty v0 H0 := by
    cases m with
    | join =>
      cases d0 with
      | str x => rw [k0.str]; rfl
      | _ => cases c0
    | split =>
      cases d0 with
      | str x => rw [k0.str]; rfl
      | _ => cases c0
    | index =>
      cases d0 with
      | lst x => obtain ⟨a, vs, rfl, e1, _⟩ := k0.lst; exact .inl ⟨rfl, vs, .of e1⟩
      | _ => cases c0
  refine ⟨ty, ρ0, W0, o0.go.rel, ((Post.bind h0).move o0.go.step).imp fun ps ρ1 h1 vs H1 W1 o1 => ?_⟩
  obtain ⟨d, ex, h3⟩ := Post.val .pk h1
  obtain ⟨ds, es, h4⟩ := Post.val .pks h3
  obtain ⟨p, ep, h5⟩ := Post.val .dMe h4
  rw [← tk]
  exact me_ok (peek_ok o1.go.rel (o0.rep.step o0.go.rel o1.go.step o1.go.mon) (pk_of ex)) (pks_ok o1.go.rel o1.rep es) ep ((o0.go.trans o1.go).res (p := p) h5 (dMe_np ep))
end
end Dv

set_option Elab.async false
set_option linter.all false
set_option maxRecDepth 100000
namespace Dv
open PySem PySem.Spec PyProof.Rows L2

/-! ### a def's arguments, its end -/
def ArgR1 (K : PySem.W.Frag) (H : Hp) (W : AS) (v : V) : A → Prop
  | .val d => RepD K H W v d
  | .own d => ∃ a o, v = .ref a ∧ H a = some o ∧ W a ∧ RepO K H W o d
  | .rd d => ∃ a o, v = .ref a ∧ H a = some o ∧ W a ∧ RepO K H W o d
def isMut : A → Prop
  | .val _ => False
  | _ => True
def ArgR (K : PySem.W.Frag) (H : Hp) (W : AS) : List V → List A → Prop
  | vs, [] => vs = []
  | vs, a :: as => ∃ v r, vs = v :: r ∧ ArgR1 K H W v a ∧ (isMut a → ∀ (j : Nat) (x : A), as[j]? = some x → isMut x → r[j]? ≠ some v) ∧ ArgR K H W r as
/-- the objects that a call may change -/
def lent (vs : List V) (as : List A) : AS := fun b => ∃ (j : Nat) (d : D), as[j]? = some (A.own d) ∧ vs[j]? = some (V.ref b)
def OutR1 (K : PySem.W.Frag) (H : Hp) (W : AS) (v : V) : A → A → Prop
  | .own _, .own d => ∃ a o, v = .ref a ∧ H a = some o ∧ W a ∧ RepO K H W o d
  | .own _, .val d => RepD K H W v d
  | _, _ => True
def ResR (K : PySem.W.Frag) (H0 H : Hp) (W : AS) (v : V) : Re → Prop
  | .val d => RepD K H W v d
  | .own d => ∃ a o, v = .ref a ∧ H0 a = none ∧ H a = some o ∧ W a ∧ RepO K H W o d
structure CallEnd (K : PySem.W.Frag) (H : Hp) (W : AS) (vs : List V) (as : List A) (r : Re) (as' : List A) (v : V) (H' : Hp) (W' : AS) : Prop where
  step : ∀ b o, H b = some o → ¬ lent vs as b → H' b = some o ∧ (W' b ↔ W b)
  dom : ∀ a, H' a = none → H a = none
  wl : WL H' W'
  out : ∀ (j : Nat) (v : V) (a x : A), vs[j]? = some v → as[j]? = some a → as'[j]? = some x → OutR1 K H' W' v a x
  res : ResR K H H' W' v r
/-- a def's promise: it does what F says -/
def spOf (F : Fn) (mg : Str → Option Value) (K : PySem.W.Frag) (n : Nat) (f : Str) : Sp := fun vs H Q E => vs.length = n ∧ ∃ W as, WL H W ∧ ArgR K H W vs as ∧ match F.call f as with
  | .ok (r, as') => ∀ v H' W', CallEnd K H W vs as r as' v H' W' → Q v H'
  | .err er => ∀ cls d H', ErrR mg K er cls d H' → (∀ b o, H b = some o → ¬ lent vs as b → H' b = some o) → E cls d H'
  | .bad => False
/-- what is known of a def that is called -/
structure Callee (X : Cx) (F : Fn) (f : Str) (np mn : Nat) : Prop where
  ex : ∃ (k : Nat) (fa : Addr) (fd : FuncData) (ps : List Str), FnOk X.prog X.w X.K X.mg X.base (L2.CX X.prog X.w) k fa fd ps (spOf F X.mg X.K ps.length f) ∧ Room k X.A ∧ X.mg f = some (.ref fa) ∧ PySem.W.keepIn X.K (.ref fa) = true ∧
    ps.length = np ∧ (∀ as, F.call f as ≠ .bad → as.length = np) ∧
    ∀ n, mn ≤ n → n ≤ np → ∃ (ds : List Value) (dvs : List V), Binds X.K fd ps ds ∧ Vals dvs ds ∧ ∀ H W, RepDs X.K H W dvs (F.dfl f n)

section
variable {X : Cx} {Z : WX} {T : Tc} {F : Fn} {σ : Sg} {H H0 H1 H2 H' : Hp} {ρ ρ1 ρ2 ρ' : Env'} {W W1 W2 W' : AS} {K : PySem.W.Frag} {ds : List D}
theorem ArgR.length : ∀ {as : List A} {vs : List V}, ArgR K H W vs as → vs.length = as.length
  | [], _, h => by rw [show _ = [] from h]; rfl
  | _ :: _, _, h => by
    obtain ⟨v, r, rfl, _, _, t⟩ := h
    rw [List.length_cons, List.length_cons, t.length]
theorem ArgR.get : ∀ {as : List A} {vs : List V} {j : Nat} {a : A}, ArgR K H W vs as → as[j]? = some a → ∃ v, vs[j]? = some v ∧ ArgR1 K H W v a
  | [], _, _, _, _, e => by simp at e
  | _ :: _, _, 0, _, h, e => by
    obtain ⟨v, r, rfl, q, _, _⟩ := h
    simp at e; subst e; exact ⟨v, rfl, q⟩
  | _ :: _, _, j + 1, _, h, e => by
    obtain ⟨v, r, rfl, _, _, t⟩ := h
    obtain ⟨u, h1, h2⟩ := t.get (j := j) (by simpa using e)
    exact ⟨u, by simpa using h1, h2⟩
theorem ArgR.dst : ∀ {as : List A} {vs : List V} {i j : Nat} {a b : A} {v : V}, ArgR K H W vs as → as[i]? = some a → as[j]? = some b → isMut a → isMut b → vs[i]? = some v → vs[j]? = some v → i = j
  | [], _, _, _, _, _, _, _, e, _, _, _, _, _ => by simp at e
  | _ :: _, _, 0, 0, _, _, _, _, _, _, _, _, _, _ => rfl
  | _ :: _, _, 0, j + 1, _, _, _, h, e1, e2, m1, m2, e3, e4 => by
    obtain ⟨v, r, rfl, _, n, _⟩ := h
    simp at e1 e3
    subst e1 e3
    exact absurd (by simpa using e4) (n m1 j _ (by simpa using e2) m2)
  | _ :: _, _, i + 1, 0, _, _, _, h, e1, e2, m1, m2, e3, e4 => by
    obtain ⟨v, r, rfl, _, n, _⟩ := h
    simp at e2 e4
    subst e2 e4
    exact absurd (by simpa using e3) (n m2 i _ (by simpa using e1) m1)
  | _ :: _, _, i + 1, j + 1, _, _, _, h, e1, e2, m1, m2, e3, e4 => by
    obtain ⟨v, r, rfl, _, _, t⟩ := h
    rw [t.dst (i := i) (j := j) (by simpa using e1) (by simpa using e2) m1 m2 (by simpa using e3) (by simpa using e4)]
theorem ArgR.w (wl : WL H W) {as : List A} {vs : List V} (h : ArgR K H W vs as) {b : Addr} (l : lent vs as b) : W b := by
  obtain ⟨j, d, e1, e2⟩ := l
  obtain ⟨v, e3, a, o, e4, _, w, _⟩ := h.get e1
  rw [e2] at e3; cases e3; cases e4
  exact w
/-- arguments that are data behind the others -/
theorem ArgR.app : ∀ {as : List A} {vs us : List V} {ds : List D}, ArgR K H W vs as → RepDs K H W us ds → ArgR K H W (vs ++ us) (as ++ ds.map .val)
  | [], _, us, ds, h, q => by
    rw [show _ = [] from h, List.nil_append, List.nil_append]
    clear h
    induction ds generalizing us with
    | nil => exact q
    | cons d ds ih =>
      obtain ⟨v, r, rfl, a, b⟩ := q
      exact ⟨v, r, rfl, a, fun m => m.elim, ih _ b⟩
  | a :: as, _, us, ds, h, q => by
    obtain ⟨v, r, rfl, k, n, t⟩ := h
    refine ⟨v, _, rfl, k, fun m j x e1 m2 e2 => ?_, t.app q⟩
    have e1 : (as ++ ds.map A.val)[j]? = some x := e1
    have e2 : (r ++ us)[j]? = some v := e2
    by_cases hj : j < as.length
    · rw [List.getElem?_append_left hj] at e1
      rw [List.getElem?_append_left (by rw [t.length]; exact hj)] at e2
      exact n m j x e1 m2 e2
    · rw [List.getElem?_append_right (by omega), List.getElem?_map] at e1
      cases z : ds[j - as.length]? with
      | none => rw [z] at e1; cases e1
      | some d => rw [z] at e1; cases e1; exact m2

theorem ats_mem : ∀ {ps : List P} {j i : Nat}, ps[j]? = some (.at_ i) → i ∈ ats ps
  | [], _, _, e => by simp at e
  | p :: ps, 0, i, e => by
    simp at e; subst e
    exact List.mem_cons_self
  | p :: ps, j + 1, i, e => by
    have := ats_mem (ps := ps) (j := j) (i := i) (by simpa using e)
    cases p with
    | at_ k => exact List.mem_cons_of_mem _ this
    | _ => exact this
theorem ats_tail {p : P} {ps : List P} (h : (ats (p :: ps)).Nodup) : (ats ps).Nodup := by
  cases p with
  | at_ k => exact (List.nodup_cons.mp h).2
  | _ => exact h
/-- the arguments stand -/
theorem args_ok (R : Rel T σ H ρ W) : ∀ {ps : List P} {vs : List V} {as : List A}, RepPs T σ H0 H ρ W vs ps → (ats ps).Nodup → toArgs ps ρ = .ok as →
    ArgR T.K H W vs as ∧ ∀ (j : Nat) (x : A) (v : V), as[j]? = some x → isMut x → vs[j]? = some v → (∃ d, ps[j]? = some (.own d)) ∨ ∃ i, ps[j]? = some (.at_ i) ∧ ∃ a, v = .ref a ∧ OwnA σ ρ i a
  | [], _, _, h, _, e => by
    cases e
    exact ⟨h, fun j x v e => by simp at e⟩
  | p :: ps, _, as, h, nd, e => by
    obtain ⟨v, r, rfl, q, n, t⟩ := h
    have e : ((toArg p ρ).bind fun a => (toArgs ps ρ).bind fun as => .ok (a :: as)) = .ok as := e
    cases e1 : toArg p ρ with
    | bad => rw [e1] at e; cases e
    | err x => rw [e1] at e; cases e
    | ok a =>
      rw [e1] at e
      have e : ((toArgs ps ρ).bind fun as => .ok (a :: as)) = .ok as := e
      cases e2 : toArgs ps ρ with
      | bad => rw [e2] at e; cases e
      | err x => rw [e2] at e; cases e
      | ok as2 =>
        rw [e2] at e
        cases e
        obtain ⟨ih, back⟩ := args_ok R t (ats_tail nd) e2
        -- the head
        have hd : ArgR1 T.K H W v a ∧ (isMut a → (∃ d, p = .own d) ∨ ∃ i, p = .at_ i ∧ ∃ x, v = .ref x ∧ OwnA σ ρ i x) := by
          cases p with
          | val d => cases e1; exact ⟨q, fun m => m.elim⟩
          | own d =>
            cases e1
            obtain ⟨x, o, ev, ex, w, _, _, k⟩ := q
            exact ⟨⟨x, o, ev, ex, w, k⟩, fun _ => .inl ⟨d, rfl⟩⟩
          | at_ i =>
            have q : σ[i]? = some (some v) := q
            simp only [toArg] at e1
            split at e1
            · rename_i d es; cases e1
              obtain ⟨o, z, u, z2, k⟩ := R.at_ i _ es
              rw [q] at z; cases z; cases z2
              exact ⟨k, fun m => m.elim⟩
            · rename_i d es; cases e1
              obtain ⟨o, z, u, z2, k⟩ := R.at_ i _ es
              rw [q] at z; cases z; cases z2
              exact ⟨k, fun m => m.elim⟩
            · rename_i b d es; cases e1
              obtain ⟨o, z, x, ob, z2, ex, w, k⟩ := R.at_ i _ es
              rw [q] at z; cases z; cases z2
              exact ⟨⟨x, ob, rfl, ex, w, k⟩, fun _ => .inr ⟨i, rfl, x, rfl, .inl ⟨b, d, es⟩, q⟩⟩
            · rename_i b d es; cases e1
              obtain ⟨o, z, x, ob, z2, ex, w, k⟩ := R.at_ i _ es
              rw [q] at z; cases z; cases z2
              exact ⟨⟨x, ob, rfl, ex, w, k⟩, fun _ => .inr ⟨i, rfl, x, rfl, .inr ⟨b, d, es⟩, q⟩⟩
            · cases e1
        refine ⟨⟨v, r, rfl, hd.1, fun m j x ej mx ev => ?_, ih⟩, fun j x u ej mx eu => ?_⟩
        · rcases hd.2 m with ⟨d, rfl⟩ | ⟨i, rfl, c, rfl, oc⟩
          · obtain ⟨a', o, ea, ex, w, no, _⟩ := q
            subst ea
            rcases back j x _ ej mx ev with ⟨d2, e3⟩ | ⟨i2, e3, a2, e4, oa⟩
            · exact (n d a' rfl rfl).2 j d2 e3 ev
            · cases e4; exact no i2 oa
          · rcases back j x _ ej mx ev with ⟨d2, e3⟩ | ⟨i2, e3, a2, e4, oa⟩
            · obtain ⟨u, eu, a', o, ea, ex, w, no, _⟩ := t.get e3
              rw [ev] at eu; cases eu; cases ea
              exact no i oc
            · cases e4
              have := R.sep _ _ _ oc oa
              subst this
              exact (List.nodup_cons.mp nd).1 (ats_mem e3)
        · cases j with
          | zero =>
            simp at ej eu
            subst ej eu
            rcases hd.2 mx with ⟨d, rfl⟩ | ⟨i, rfl, c, e5, oc⟩
            · exact .inl ⟨d, rfl⟩
            · exact .inr ⟨i, rfl, c, e5, oc⟩
          | succ j => exact back j x u (by simpa using ej) mx (by simpa using eu)

/-- the environment behind a call, slot by slot -/
theorem back_out : ∀ {ps : List P} {as : List A} {ρ ρ' : Env'} {i : Nat}, backArgs ps as ρ = .ok ρ' → i ∉ ats ps → ρ'[i]? = ρ[i]?
  | [], _, _, _, _, e, _ => by cases e; rfl
  | _ :: _, [], _, _, _, e, _ => by cases e
  | p :: ps, a :: as, ρ, ρ', i, e, n => by
    have e : ((backArg p a ρ).bind (backArgs ps as)) = .ok ρ' := e
    cases e1 : backArg p a ρ with
    | bad => rw [e1] at e; cases e
    | err x => rw [e1] at e; cases e
    | ok ρ1 =>
      rw [e1] at e
      have e2 : backArgs ps as ρ1 = .ok ρ' := e
      cases p with
      | val d => cases e1; exact back_out e2 n
      | own d => cases e1; exact back_out e2 n
      | at_ k =>
        have ne : k ≠ i := fun z => n (by rw [z]; exact List.mem_cons_self)
        rw [back_out (ps := ps) (as := as) e2 fun z => n (List.mem_cons_of_mem _ z)]
        simp only [backArg] at e1
        split at e1
        · split at e1
          · cases e1; rw [List.getElem?_set_ne ne]
          · cases e1; rw [List.getElem?_set_ne ne]
          · cases e1
        · cases e1; rfl
theorem back_at : ∀ {ps : List P} {as : List A} {ρ ρ' : Env'} {i j : Nat}, backArgs ps as ρ = .ok ρ' → (ats ps).Nodup → ps[j]? = some (.at_ i) →
    (∃ b d, ρ[i]? = some (some (.own b d)) ∧ ((∃ d', as[j]? = some (.own d') ∧ ρ'[i]? = some (some (.own b d'))) ∨ ∃ d', as[j]? = some (.val d') ∧ ρ'[i]? = some (some (thaw b d')))) ∨
    ((∀ b d, ρ[i]? ≠ some (some (.own b d))) ∧ ρ'[i]? = ρ[i]?)
  | [], _, _, _, _, _, _, _, z => by simp at z
  | _ :: _, [], _, _, _, _, e, _, _ => by cases e
  | p :: ps, a :: as, ρ, ρ', i, j, e, nd, hj => by
    have e : ((backArg p a ρ).bind (backArgs ps as)) = .ok ρ' := e
    cases e1 : backArg p a ρ with
    | bad => rw [e1] at e; cases e
    | err x => rw [e1] at e; cases e
    | ok ρ1 =>
      rw [e1] at e
      have e2 : backArgs ps as ρ1 = .ok ρ' := e
      cases j with
      | zero =>
        simp at hj
        subst hj
        have ni : i ∉ ats ps := (List.nodup_cons.mp nd).1
        rw [back_out (ps := ps) (as := as) e2 ni]
        simp only [backArg] at e1
        split at e1
        · rename_i b d es
          have hi : i < ρ.length := (List.getElem?_eq_some_iff.mp es).1
          split at e1
          · cases e1
            exact .inl ⟨b, d, es, .inl ⟨_, rfl, by rw [List.getElem?_set_self hi]⟩⟩
          · cases e1
            exact .inl ⟨b, d, es, .inr ⟨_, rfl, by rw [List.getElem?_set_self hi]⟩⟩
          · cases e1
        · rename_i h
          cases e1
          exact .inr ⟨fun b d z => h b d z, rfl⟩
      | succ j =>
        have hj : ps[j]? = some (.at_ i) := by simpa using hj
        have same : ρ1[i]? = ρ[i]? := by
          cases p with
          | val d => cases e1; rfl
          | own d => cases e1; rfl
          | at_ k =>
            have ne : k ≠ i := fun z => (List.nodup_cons.mp nd).1 (by rw [z]; exact ats_mem hj)
            simp only [backArg] at e1
            split at e1
            · split at e1
              · cases e1; rw [List.getElem?_set_ne ne]
              · cases e1; rw [List.getElem?_set_ne ne]
              · cases e1
            · cases e1; rfl
        have := back_at e2 (ats_tail nd) hj
        rw [same] at this
        simpa using this
theorem back_len : ∀ {ps : List P} {as : List A} {ρ ρ' : Env'}, backArgs ps as ρ = .ok ρ' → ρ'.length = ρ.length
  | [], _, _, _, e => by cases e; rfl
  | _ :: _, [], _, _, e => by cases e
  | p :: ps, a :: as, ρ, ρ', e => by
    have e : ((backArg p a ρ).bind (backArgs ps as)) = .ok ρ' := e
    cases e1 : backArg p a ρ with
    | bad => rw [e1] at e; cases e
    | err x => rw [e1] at e; cases e
    | ok ρ1 =>
      rw [e1] at e
      rw [back_len (show backArgs ps as ρ1 = .ok ρ' from e)]
      cases p with
      | val d => cases e1; rfl
      | own d => cases e1; rfl
      | at_ k =>
        simp only [backArg] at e1
        split at e1
        · split at e1
          · cases e1; simp
          · cases e1; simp
          · cases e1
        · cases e1; rfl
theorem toArgs_get : ∀ {ps : List P} {ρ : Env'} {as : List A} {j : Nat} {p : P}, toArgs ps ρ = .ok as → ps[j]? = some p → ∃ a, as[j]? = some a ∧ toArg p ρ = .ok a
  | [], _, _, _, _, _, z => by simp at z
  | p :: ps, ρ, as, j, q, e, hj => by
    have e : ((toArg p ρ).bind fun a => (toArgs ps ρ).bind fun as => .ok (a :: as)) = .ok as := e
    cases e1 : toArg p ρ with
    | bad => rw [e1] at e; cases e
    | err x => rw [e1] at e; cases e
    | ok a =>
      rw [e1] at e
      have e : ((toArgs ps ρ).bind fun as => .ok (a :: as)) = .ok as := e
      cases e2 : toArgs ps ρ with
      | bad => rw [e2] at e; cases e
      | err x => rw [e2] at e; cases e
      | ok as2 =>
        rw [e2] at e
        cases e
        cases j with
        | zero => simp at hj; subst hj; exact ⟨a, rfl, e1⟩
        | succ j =>
          obtain ⟨x, h1, h2⟩ := toArgs_get (j := j) e2 (by simpa using hj)
          exact ⟨x, by simpa using h1, h2⟩
theorem toArgs_len : ∀ {ps : List P} {ρ : Env'} {as : List A}, toArgs ps ρ = .ok as → as.length = ps.length
  | [], _, _, e => by cases e; rfl
  | p :: ps, ρ, as, e => by
    have e : ((toArg p ρ).bind fun a => (toArgs ps ρ).bind fun as => .ok (a :: as)) = .ok as := e
    cases e1 : toArg p ρ with
    | bad => rw [e1] at e; cases e
    | err x => rw [e1] at e; cases e
    | ok a =>
      rw [e1] at e
      have e : ((toArgs ps ρ).bind fun as => .ok (a :: as)) = .ok as := e
      cases e2 : toArgs ps ρ with
      | bad => rw [e2] at e; cases e
      | err x => rw [e2] at e; cases e
      | ok as2 =>
        rw [e2] at e
        cases e
        rw [List.length_cons, List.length_cons, toArgs_len e2]
theorem ats_mem_iff : ∀ {ps : List P} {i : Nat}, i ∈ ats ps → ∃ j : Nat, ps[j]? = some (.at_ i)
  | [], _, h => by cases h
  | p :: ps, i, h => by
    cases p with
    | at_ k =>
      rcases List.mem_cons.mp h with e | h
      · exact ⟨0, by rw [e]; rfl⟩
      · obtain ⟨j, hj⟩ := ats_mem_iff (ps := ps) h
        exact ⟨j + 1, by simpa using hj⟩
    | val d =>
      obtain ⟨j, hj⟩ := ats_mem_iff (ps := ps) h
      exact ⟨j + 1, by simpa using hj⟩
    | own d =>
      obtain ⟨j, hj⟩ := ats_mem_iff (ps := ps) h
      exact ⟨j + 1, by simpa using hj⟩

/-- behind a call: the caller's state -/
theorem call_back {ps : List P} {vs vs2 : List V} {as as' : List A} {r : Re} {v : V} (R : Rel T σ H ρ W) (rp : RepPs T σ H0 H ρ W vs ps) (nd : (ats ps).Nodup) (ea : toArgs ps ρ = .ok as)
    (dv : RepDs T.K H W vs2 ds) (ce : CallEnd T.K H W (vs ++ vs2) (as ++ ds.map .val) r as' v H' W') (eb : backArgs ps as' ρ = .ok ρ') :
    Rel T σ H' ρ' W' ∧ StepX (tmps vs ps) σ H ρ W σ H' ρ' W' ∧ Mon σ ρ ρ' ∧ Lk ρ ρ' ∧ RepP T σ H' ρ' W' v r.p ∧ ∀ d, r.p = .own d → ∀ a, v = .ref a → H a = none := by
  obtain ⟨ar, back⟩ := args_ok R rp nd ea
  have ar2 := ar.app dv
  -- what is lent is in W
  have lentW : ∀ b, lent (vs ++ vs2) (as ++ ds.map .val) b → W b := fun b l => ar2.w R.wl l
  have ad : Adv H W H' W' := fun b o h w => by
    obtain ⟨h1, w1⟩ := ce.step b o h fun l => w (lentW b l)
    exact ⟨h1, fun z => w (w1.mp z)⟩
  have lentB : ∀ b, lent (vs ++ vs2) (as ++ ds.map .val) b → tmps vs ps b ∨ ∃ (i j : Nat), ps[j]? = some (P.at_ i) ∧ OwnU σ ρ i b := fun b ⟨j, d, e1, e2⟩ => by
    have hj : j < as.length := by
      by_cases hj : j < as.length
      · exact hj
      · rw [List.getElem?_append_right (by omega), List.getElem?_map] at e1
        cases z : ds[j - as.length]? with
        | none => rw [z] at e1; cases e1
        | some d => rw [z] at e1; cases e1
    rw [List.getElem?_append_left hj] at e1
    rw [List.getElem?_append_left (by rw [ar.length]; exact hj)] at e2
    rcases back j _ _ e1 trivial e2 with ⟨d2, e3⟩ | ⟨i, e3, a, e4, oa⟩
    · exact .inl ⟨j, d2, e3, e2⟩
    · cases e4
      refine .inr ⟨i, j, e3, ?_⟩
      obtain ⟨x, e5, e6⟩ := toArgs_get ea e3
      rw [e1] at e5; cases e5
      obtain ⟨h1, h2⟩ := oa
      refine ⟨?_, h2⟩
      rcases h1 with h1 | ⟨b, d, h1⟩
      · exact h1
      · simp only [toArg, h1] at e6; cases e6
  have unl : ∀ i b, OwnA σ ρ i b → i ∉ ats ps → ¬ lent (vs ++ vs2) (as ++ ds.map .val) b := fun i b o n l => by
    rcases lentB b l with ⟨j, d, e1, e2⟩ | ⟨i2, j, e1, o2⟩
    · obtain ⟨u, eu, a', ob, ea', ex, w, no, _⟩ := rp.get e1
      rw [e2] at eu; cases eu; cases ea'
      exact no i o
    · have := R.sep _ _ _ o o2.a
      subst this
      exact n (ats_mem e1)
  have hv : ∀ {j i : Nat} {u : V}, ps[j]? = some (.at_ i) → σ[i]? = some (some u) → (vs ++ vs2)[j]? = some u := fun {j i u} e1 e2 => by
    obtain ⟨u', e3, e4⟩ := rp.get e1
    have e4 : σ[i]? = some (some u') := e4
    rw [e2] at e4; cases e4
    rw [List.getElem?_append_left ((List.getElem?_eq_some_iff.mp e3).1)]
    exact e3
  have ha : ∀ {j : Nat} {a : A}, as[j]? = some a → (as ++ ds.map A.val)[j]? = some a := fun {j a} e => by
    rw [List.getElem?_append_left ((List.getElem?_eq_some_iff.mp e).1)]; exact e
  -- a slot that bears no lent object
  have keepS : ∀ (i : Nat) (s : S), ρ[i]? = some (some s) → (∀ a, OwnA σ ρ i a → ¬ lent (vs ++ vs2) (as ++ ds.map .val) a) → ∃ o, σ[i]? = some o ∧ RelS T H' W' o s := fun i s e n => by
    obtain ⟨o, e1, q⟩ := R.at_ i s e
    refine ⟨o, e1, ?_⟩
    cases s with
    | val c => obtain ⟨u, e4, z⟩ := q; exact ⟨u, e4, z.adv R.wl ad⟩
    | brz c => obtain ⟨u, e4, z⟩ := q; exact ⟨u, e4, z.adv R.wl ad⟩
    | own c x =>
      obtain ⟨a', ob', e4, e5, e6, z⟩ := q
      subst e4
      obtain ⟨h1, w1⟩ := ce.step a' _ e5 (n a' ⟨.inl ⟨c, x, e⟩, e1⟩)
      exact ⟨a', ob', rfl, h1, w1.mpr e6, z.adv R.wl ad⟩
    | lck c x =>
      obtain ⟨a', ob', e4, e5, e6, z⟩ := q
      subst e4
      obtain ⟨h1, w1⟩ := ce.step a' _ e5 (n a' ⟨.inr ⟨c, x, e⟩, e1⟩)
      exact ⟨a', ob', rfl, h1, w1.mpr e6, z.adv R.wl ad⟩
  have lckN : ∀ (i : Nat) (b : Bool) (d : D), ρ[i]? = some (some (.lck b d)) → ∀ a, OwnA σ ρ i a → ¬ lent (vs ++ vs2) (as ++ ds.map .val) a := fun i b d e a o l => by
    rcases lentB a l with ⟨j, d, e1, e2⟩ | ⟨i2, j, e1, o2⟩
    · obtain ⟨u, eu, a', ob, ea', ex, w, no, _⟩ := rp.get e1
      rw [e2] at eu; cases eu; cases ea'
      exact no i o
    · have := R.sep _ _ _ o o2.a
      subst this
      obtain ⟨⟨b2, d2, e3⟩, _⟩ := o2
      rw [e] at e3; cases e3
  have nt : ∀ c x y z, thaw c x ≠ .own y z ∧ thaw c x ≠ .lck y z := fun c x y z => by cases c <;> simp [thaw]
  -- each slot of the new environment
  have slot : ∀ (i : Nat) (s : S), ρ'[i]? = some (some s) → (∃ o, σ[i]? = some o ∧ RelS T H' W' o s) ∧
      ((∃ b d, s = .own b d) → ∃ b d d2, s = .own b d2 ∧ ρ[i]? = some (some (.own b d))) ∧ ((∃ b d, s = .lck b d) → ρ[i]? = some (some s)) := fun i s e => by
    by_cases hm : i ∈ ats ps
    · obtain ⟨j, hj⟩ := ats_mem_iff hm
      rcases back_at eb nd hj with ⟨b, d, e1, ⟨d', e2, e3⟩ | ⟨d', e2, e3⟩⟩ | ⟨n, e3⟩
      · rw [e] at e3; cases e3
        obtain ⟨a, e4, e5⟩ := toArgs_get ea hj
        simp only [toArg, e1] at e5
        cases e5
        obtain ⟨o, e6, x, ob, rfl, _⟩ := R.at_ i _ e1
        have q := ce.out j _ _ _ (hv hj e6) (ha e4) e2
        obtain ⟨a2, o2, e7, e8, e9, e10⟩ := q
        cases e7
        exact ⟨⟨_, e6, x, o2, rfl, e8, e9, e10⟩, fun _ => ⟨b, d, d', rfl, e1⟩, fun ⟨_, _, z⟩ => by cases z⟩
      · rw [e] at e3; cases e3
        obtain ⟨a, e4, e5⟩ := toArgs_get ea hj
        simp only [toArg, e1] at e5
        cases e5
        obtain ⟨o, e6, x, ob, rfl, _⟩ := R.at_ i _ e1
        have q : RepD T.K H' W' (.ref x) d' := ce.out j _ _ _ (hv hj e6) (ha e4) e2
        refine ⟨⟨_, e6, ?_⟩, fun ⟨y, z, h⟩ => absurd h (nt b d' y z).1, fun ⟨y, z, h⟩ => absurd h (nt b d' y z).2⟩
        cases b <;> exact ⟨_, rfl, q⟩
      · rw [e] at e3
        refine ⟨keepS i s e3.symm fun a o l => ?_, fun ⟨b, d, h⟩ => ⟨b, d, d, h, by rw [← e3, h]⟩, fun _ => e3.symm⟩
        rcases lentB a l with ⟨j2, d2, e4, e5⟩ | ⟨i2, j2, e4, o2⟩
        · obtain ⟨u, eu, a', ob, ea', ex, w, no, _⟩ := rp.get e4
          rw [e5] at eu; cases eu; cases ea'
          exact no i o
        · have := R.sep _ _ _ o o2.a
          subst this
          obtain ⟨⟨b2, d2, e6⟩, _⟩ := o2
          exact n b2 d2 e6
    · have e3 := back_out eb hm
      rw [e] at e3
      exact ⟨keepS i s e3.symm fun a o => unl i a o hm, fun ⟨b, d, h⟩ => ⟨b, d, d, h, by rw [← e3, h]⟩, fun _ => e3.symm⟩
  have mon : Mon σ ρ ρ' := fun i a ⟨h1, h2⟩ => by
    rcases h1 with ⟨b, d, h1⟩ | ⟨b, d, h1⟩
    · obtain ⟨_, k, _⟩ := slot i _ h1
      obtain ⟨b2, d2, d3, e1, e2⟩ := k ⟨b, d, rfl⟩
      exact ⟨.inl ⟨_, _, e2⟩, h2⟩
    · obtain ⟨_, _, k⟩ := slot i _ h1
      exact ⟨.inr ⟨_, _, k ⟨b, d, rfl⟩⟩, h2⟩
  have rel : Rel T σ H' ρ' W' := by
    refine ⟨by rw [back_len eb]; exact R.len, fun i s e => (slot i s e).1, fun i j a h1 h2 => R.sep i j a (mon i a h1) (mon j a h2), ce.wl, fun i d a h1 h2 => ?_, fun a h => R.fzk a (ce.dom a h), fun i a h => ?_⟩
    · rcases h1 with h1 | h1
      · obtain ⟨_, k, _⟩ := slot i _ h1
        obtain ⟨b2, d2, d3, e1, e2⟩ := k ⟨_, _, rfl⟩
        cases e1
        exact R.fr i d2 a (.inl e2) h2
      · obtain ⟨_, _, k⟩ := slot i _ h1
        exact R.fr i d a (.inr (k ⟨_, _, rfl⟩)) h2
    · obtain ⟨h1, s, h2, h3⟩ := R.bor i a h
      refine ⟨h1, ?_⟩
      by_cases hm : i ∈ ats ps
      · obtain ⟨j, hj⟩ := ats_mem_iff hm
        rcases back_at eb nd hj with ⟨b, d, e1, ⟨d', e2, e3⟩ | ⟨d', e2, e3⟩⟩ | ⟨n, e3⟩
        · rw [e1] at h2; cases h2
          refine ⟨_, e3, ?_⟩
          cases b with
          | true => trivial
          | false => exact h3.elim
        · rw [e1] at h2; cases h2
          refine ⟨_, e3, ?_⟩
          cases b with
          | true => trivial
          | false => exact h3.elim
        · exact ⟨s, by rw [e3]; exact h2, h3⟩
      · exact ⟨s, by rw [back_out eb hm]; exact h2, h3⟩
  refine ⟨rel, fun b o h n na => ?_, mon, fun i b d e => ?_, ?_, fun d e a ev => ?_⟩
  · have nl : ¬ lent (vs ++ vs2) (as ++ ds.map .val) b := fun l => by
      rcases lentB b l with t | ⟨i, j, e1, o2⟩
      · exact na t
      · exact n i o2
    obtain ⟨h1, w1⟩ := ce.step b o h nl
    refine ⟨h1, fun i z => n i ?_, w1⟩
    obtain ⟨⟨c, d, e1⟩, e2⟩ := z
    obtain ⟨_, k, _⟩ := slot i _ e1
    obtain ⟨b2, d2, d3, e3, e4⟩ := k ⟨c, d, rfl⟩
    exact ⟨⟨_, _, e4⟩, e2⟩
  · by_cases hm : i ∈ ats ps
    · obtain ⟨j, hj⟩ := ats_mem_iff hm
      rcases back_at eb nd hj with ⟨b2, d2, e1, _⟩ | ⟨_, e3⟩
      · rw [e] at e1; cases e1
      · rw [e3]; exact e
    · rw [back_out eb hm]; exact e
  · cases r with
    | val d => exact ce.res
    | own d =>
      obtain ⟨a, o, rfl, n0, e1, w, q⟩ := ce.res
      refine ⟨a, o, rfl, e1, w, fun i z => ?_, R.fzk a n0, q⟩
      obtain ⟨_, u, e2, _⟩ := R.ownA (mon i a z)
      rw [n0] at e2; cases e2
  · cases r with
    | val d => cases e
    | own d =>
      obtain ⟨a2, o, e2, n0, _⟩ := ce.res
      rw [ev] at e2; cases e2
      exact n0
end
end Dv

set_option Elab.async false
set_option linter.all false
set_option maxRecDepth 100000
namespace Dv
open PySem PySem.Spec PyProof.Rows L2

section
variable {X : Cx} {Z : WX} {T : Tc} {F : Fn} {σ : Sg} {H H0 H1 H2 H' : Hp} {ρ ρ1 ρ2 ρ' : Env'} {W W1 W2 W' : AS} {K : PySem.W.Frag} {ds : List D}
/-- f(..), behind the arguments -/
theorem call_run (tk : T.K = X.K) {f : Str} {n : Nat} {ps : List P} {vs vs2 : List V} {Q : VK} (o : Outs T σ H ρ W ps ρ1 vs H1 W1) (hn : ∀ as, F.call f as ≠ .bad → as.length = n)
    (dv : ∀ H W, RepDs X.K H W vs2 (F.dfl f ps.length)) (h : Post X Z (doCall F f ps ρ1) σ H ρ fun p ρ' => ∀ v H' W', Out T σ H ρ W p ρ' v H' W' → Q v H') :
    spOf F X.mg X.K n f (vs ++ vs2) H1 Q (WE Z σ) := by
  unfold doCall at h
  obtain ⟨nd, h⟩ := Post.need h
  cases ea : toArgs ps ρ1 with
  | bad => rw [ea] at h; exact h.elim
  | err x =>
    exfalso
    have : ∀ {ps : List P} {ρ : Env'}, NoErr (toArgs ps ρ) := by
      intro ps
      induction ps with
      | nil => intro ρ; exact .ok
      | cons p ps ih =>
        intro ρ
        refine .bind ?_ fun _ => .bind ih fun _ => .ok
        unfold toArg
        split
        · exact .ok
        · exact .ok
        · split <;> first | exact .ok | exact .bad
    exact this x ea
  | ok as =>
    rw [ea] at h
    have h : Post X Z ((F.call f (as ++ (F.dfl f ps.length).map .val)).bind fun r => (backArgs ps r.2 ρ1).bind fun ρ' => .ok (r.1.p, ρ')) σ H ρ fun p ρ' => ∀ v H' W', Out T σ H ρ W p ρ' v H' W' → Q v H' := h
    obtain ⟨ar, back⟩ := args_ok o.go.rel o.rep nd ea
    have dv1 := dv H1 W1
    rw [← tk] at dv1
    have ar2 := ar.app dv1
    refine ⟨?_, W1, _, o.go.rel.wl, by rw [← tk]; exact ar2, ?_⟩
    · rw [ar2.length]
      refine hn _ fun z => ?_
      rw [z] at h; exact h.elim
    · cases ec : F.call f (as ++ (F.dfl f ps.length).map .val) with
      | bad => rw [ec] at h; exact h.elim
      | err er =>
        rw [ec] at h
        have h : ErrOk X Z er σ H ρ := h
        intro cls d H' e k
        refine h cls d H' e fun b ob hb nb => ?_
        obtain ⟨h1, n1, w1⟩ := o.go.step b ob hb nb
        refine k b ob h1 fun l => ?_
        obtain ⟨j, dd, e1, e2⟩ := l
        have hj : j < as.length := by
          by_cases hj : j < as.length
          · exact hj
          · rw [List.getElem?_append_right (by omega), List.getElem?_map] at e1
            cases z : (F.dfl f ps.length)[j - as.length]? with
            | none => rw [z] at e1; cases e1
            | some d => rw [z] at e1; cases e1
        rw [List.getElem?_append_left hj] at e1
        rw [List.getElem?_append_left (by rw [ar.length]; exact hj)] at e2
        rcases back j _ _ e1 trivial e2 with ⟨d2, e3⟩ | ⟨i, e3, a, e4, oa⟩
        · rw [o.rep.new e3 e2] at hb; cases hb
        · cases e4
          obtain ⟨x, e5, e6⟩ := toArgs_get ea e3
          rw [e1] at e5; cases e5
          obtain ⟨z1, z2⟩ := oa
          rcases z1 with z1 | ⟨b, d, z1⟩
          · exact n1 i ⟨z1, z2⟩
          · simp only [toArg, z1] at e6; cases e6
      | ok r =>
        obtain ⟨r, as'⟩ := r
        rw [ec] at h
        have h : Post X Z ((backArgs ps as' ρ1).bind fun ρ' => .ok (r.p, ρ')) σ H ρ fun p ρ' => ∀ v H' W', Out T σ H ρ W p ρ' v H' W' → Q v H' := h
        intro v H' W' ce
        rw [← tk] at ce
        cases eb : backArgs ps as' ρ1 with
        | bad => rw [eb] at h; exact h.elim
        | err x =>
          exfalso
          have : ∀ {ps : List P} {as : List A} {ρ : Env'}, NoErr (backArgs ps as ρ) := by
            intro ps
            induction ps with
            | nil => intro as ρ; exact .ok
            | cons p ps ih =>
              intro as ρ
              cases as with
              | nil => exact .bad
              | cons a as =>
                refine .bind ?_ fun _ => ih
                unfold backArg
                split
                · split
                  · split <;> first | exact .ok | exact .bad
                  · exact .ok
                · exact .ok
          exact this x eb
        | ok ρ2 =>
          rw [eb] at h
          obtain ⟨rel, st, mon, lk, rp, nw⟩ := call_back o.go.rel o.rep nd ea dv1 ce eb
          exact h v H' W' ⟨⟨rel, o.go.step.then st fun a z => (tmps_w o.rep a z).2, o.go.mon.trans mon, fun a z => o.go.dom a (ce.dom a z), o.go.lk.trans lk⟩, rp, fun d e a ev => o.go.dom a (nw d e a ev)⟩
theorem evs_len : ∀ {l : Exs} {ρ : Env'} {ps : List P} {ρ' : Env'}, evs F l ρ = .ok (ps, ρ') → ∀ {l' : List Expr}, True := fun _ => trivial
/-- f(e, ..) -/
theorem s_call (tk : T.K = X.K) (tz : Takes X Z) {f : Str} {np mn : Nat} (c : Callee X F f np mn) {e : Ex} {l : Exs} {e' : Expr} {l' : List Expr} {p pos : Pos} (hg : Gl X f) (hp : PA X (e' :: l') (tA X T F Z (.cons e l)))
    (h1 : mn ≤ (e' :: l').length) (h2 : (e' :: l').length ≤ np) (hlen : ∀ {ρ : Env'} {ps : List P} {ρ' : Env'}, evs F (.cons e l) ρ = .ok (ps, ρ') → ps.length = (e' :: l').length) (hdb : (f == ("__debug__" : Str)) = false)
    (he : starEach (e' :: l') X.env = (false, eval e' X.env) :: starEach l' X.env) (hpl : (backTo pos (starEach l' X.env)).any (·.1) = false) : PE X (.Call (.Name f p) (e' :: l') [] pos) (tE X T F Z (.call f (.cons e l))) := by
  obtain ⟨k, fa, fd, pn, G, hr, hm, hk, rfl, hn, hb⟩ := c.ex
  obtain ⟨dvl, dvs, bd, hd, dv⟩ := hb _ h1 h2
  refine wkE (pe_callSD (E := WE Z) G hr hg hm hk bd hd (fun σ => passAt tz σ) hp hdb he hpl) ?_
  rintro σ H Q ⟨ρ, W, R, h⟩
  have h := Post.bind h
  refine ⟨ρ, W, R, ?_⟩
  cases ee : evs F (.cons e l) ρ with
  | bad => rw [ee] at h; exact h
  | err x => rw [ee] at h; exact h
  | ok r =>
    obtain ⟨ps, ρ1⟩ := r
    rw [ee] at h
    intro vs H1 W1 o
    exact call_run tk o hn (by rw [hlen ee]; exact dv) h
/-- f() -/
theorem s_call0 (tk : T.K = X.K) (tz : Takes X Z) {f : Str} {np mn : Nat} (c : Callee X F f np mn) {p pos : Pos} (hg : Gl X f) (h1 : mn ≤ 0) (hdb : (f == ("__debug__" : Str)) = false) : PE X (.Call (.Name f p) [] [] pos) (tE X T F Z (.call f .nil)) := by
  obtain ⟨k, fa, fd, pn, G, hr, hm, hk, rfl, hn, hb⟩ := c.ex
  obtain ⟨dvl, dvs, bd, hd, dv⟩ := hb 0 h1 (Nat.zero_le _)
  refine ⟨fun pins s σ H Q I q => ?_⟩
  refine wpAny_Call_Name_kw (ld_glob I hg hm ?_ hdb)
  refine PySem.W.callWith_K0 I.kIn hk (run_fnSD (us := []) (E := WE Z) G hr bd hd (passAt tz σ) I .nil ?_)
  obtain ⟨ρ, W, R, h⟩ := q
  have h := Post.bind h
  exact call_run (vs := []) tk (ps := []) (ρ := ρ) (ρ1 := ρ) ⟨Go.refl R, rfl⟩ hn dv h
end
end Dv

set_option Elab.async false
set_option linter.all false
set_option maxRecDepth 100000
namespace Dv
open PySem PySem.Spec PyProof.Rows L2

/-! ### what a loop walks -/
def Lay (H H' : Hp) : Prop := H' = H ∨ ∃ a vs, H a = none ∧ H' = upd H a (.tup vs)
/-- at every later state the iterator yields the items in their order -/
def Feed (T : Tc) (J : It) (l : List D) (σ : Sg) (H : Hp) (ρ : Env') (W : AS) : Prop :=
  ∀ σ2 H2 ρ2 W2, Rel T σ2 H2 ρ2 W2 → Step σ H ρ W σ2 H2 ρ2 W2 →
    (∀ (i : Nat) (d : D), l[i]? = some d → J.go i H2 ∧ ∀ x H3, J.yld i H2 x H3 → Lay H2 H3 ∧ RepD T.K H3 W2 x d) ∧ J.stop l.length H2
def tI (X : Cx) (T : Tc) (F : Fn) (Z : WX) (it : Ie) : TI := fun σ H R => ∃ ρ W, Rel T σ H ρ W ∧ Post X Z (evi F it ρ) σ H ρ fun lp ρ' => ∀ J H' W', Go T σ H ρ W H' ρ' W' → Feed T J lp.1 σ H' (lockP lp.2 ρ').2 W' → R J H'

section
variable {X : Cx} {Z : WX} {T : Tc} {F : Fn} {σ : Sg} {H H0 H1 H2 H' : Hp} {ρ ρ1 ρ2 ρ' : Env'} {W W1 W2 W' : AS} {K : PySem.W.Frag} {ds : List D}
theorem lock_own {p : P} {i : Nat} {a : Addr} (h : OwnU σ (lockP p ρ).2 i a) : OwnU σ ρ i a ∧ ∀ j b d, p = .at_ j → ρ[j]? = some (some (.own b d)) → i ≠ j := by
  unfold lockP at h
  split at h
  · rename_i k
    split at h
    · rename_i b d e
      obtain ⟨⟨c, x, h1⟩, h2⟩ := h
      rcases getq_set h1 with ⟨rfl, z, _⟩ | ⟨ne, z⟩
      · cases z
      · exact ⟨⟨⟨c, x, z⟩, h2⟩, fun j b d e1 _ e2 => by cases e1; exact ne e2.symm⟩
    · rename_i n
      exact ⟨h, fun j b d e1 e2 _ => by cases e1; exact n b d e2⟩
  · rename_i n
    exact ⟨h, fun j b d e1 e2 _ => n j e1⟩
theorem lock_go (R : Rel T σ H ρ W) (p : P) : Go T σ H ρ W H (lockP p ρ).2 W := by
  unfold lockP
  split
  · rename_i i
    split
    · rename_i b d e
      have hi : i < ρ.length := (List.getElem?_eq_some_iff.mp e).1
      have mon : Mon σ ρ (ρ.set i (some (.lck b d))) := fun j x ⟨h1, h2⟩ => by
        rcases h1 with ⟨c, z, h1⟩ | ⟨c, z, h1⟩
        · rcases getq_set h1 with ⟨rfl, k, _⟩ | ⟨_, k⟩
          · cases k
          · exact ⟨.inl ⟨c, z, k⟩, h2⟩
        · rcases getq_set h1 with ⟨rfl, k, _⟩ | ⟨_, k⟩
          · exact ⟨.inl ⟨b, d, e⟩, h2⟩
          · exact ⟨.inr ⟨c, z, k⟩, h2⟩
      refine ⟨⟨by simpa using R.len, fun j s h => ?_, fun j k x h1 h2 => R.sep j k x (mon j x h1) (mon k x h2), R.wl, fun j z x h1 h2 => ?_, R.fzk, fun j x h => ?_⟩, fun x o h n => ⟨h, fun j z => n j ?_, Iff.rfl⟩, mon, fun _ h => h, Lk.set fun b' d' z => by rw [e] at z; cases z⟩
      · rcases getq_set h with ⟨rfl, k, _⟩ | ⟨ne, k⟩
        · cases k
          obtain ⟨o, e1, q⟩ := R.at_ i _ e
          exact ⟨o, e1, q⟩
        · exact R.at_ j s k
      · rcases h1 with h1 | h1
        · rcases getq_set h1 with ⟨rfl, k, _⟩ | ⟨_, k⟩
          · cases k
          · exact R.fr j z x (.inl k) h2
        · rcases getq_set h1 with ⟨rfl, k, _⟩ | ⟨_, k⟩
          · cases k; exact R.fr i d x (.inl e) h2
          · exact R.fr j z x (.inr k) h2
      · obtain ⟨h1, s, h2, h3⟩ := R.bor j x h
        refine ⟨h1, ?_⟩
        by_cases ej : i = j
        · subst ej
          refine ⟨.lck b d, by rw [List.getElem?_set_self hi], ?_⟩
          rw [e] at h2; cases h2
          cases b with
          | true => trivial
          | false => exact h3.elim
        · exact ⟨s, by rw [List.getElem?_set_ne ej]; exact h2, h3⟩
      · obtain ⟨⟨c, y, h1⟩, h2⟩ := z
        rcases getq_set h1 with ⟨rfl, k, _⟩ | ⟨_, k⟩
        · cases k
        · exact ⟨⟨c, y, k⟩, h2⟩
    · exact Go.refl R
  · exact Go.refl R
/-- an object that nobody may change now -/
theorem still_list {a : Addr} {o : HO} (hx : H a = some o) (n : ∀ i, ¬ OwnU σ ρ i a) (s : Step σ H ρ W σ' H2 ρ2 W2) : H2 a = some o := (s a o hx n).1
theorem feed_list (R : Rel T σ H ρ W) {a : Addr} {vs : List V} {l : List D} (hx : H a = some (.lst vs)) (n : ∀ i, ¬ OwnU σ ρ i a) (r : RepDs T.K H W vs l) : Feed T (Itl T.K a) l σ H ρ W := fun σ2 H2 ρ2 W2 R2 s => by
  have e := still_list hx n s
  have r2 := r.adv R.wl (s.adv R)
  refine ⟨fun i d h => ?_, ⟨vs, .of e, by rw [r.length]; exact Nat.le_refl _⟩⟩
  obtain ⟨v, hv, q⟩ := r2.get h
  refine ⟨⟨vs, v, .of e, hv⟩, fun x H3 y => ?_⟩
  obtain ⟨rfl, y⟩ := y
  have := y vs (.of e)
  rw [hv] at this; cases this
  exact ⟨.inl rfl, q⟩
theorem feed_tup (R : Rel T σ H ρ W) {a : Addr} {vs : List V} {l : List D} (hx : TupL T.K H a vs) (r : RepDs T.K H W vs l) : Feed T (Itt T.K a) l σ H ρ W := fun σ2 H2 ρ2 W2 R2 s => by
  have e := (hx.adv R.wl (s.adv R)).sq
  have r2 := r.adv R.wl (s.adv R)
  refine ⟨fun i d h => ?_, ⟨vs, e, by rw [r.length]; exact Nat.le_refl _⟩⟩
  obtain ⟨v, hv, q⟩ := r2.get h
  refine ⟨⟨vs, v, e, hv⟩, fun x H3 y => ?_⟩
  obtain ⟨rfl, y⟩ := y
  have := y vs e
  rw [hv] at this; cases this
  exact ⟨.inl rfl, q⟩
theorem feed_scr (R : Rel T σ H ρ W) {a : Addr} {l : List Int} (hx : ScrL T.K H W a (l.map V.int)) : Feed T (Itl T.K a) (l.map .int) σ H ρ W := fun σ2 H2 ρ2 W2 R2 s => by
  have e := (hx.adv R.wl (s.adv R)).sq
  refine ⟨fun i d h => ?_, ⟨_, e, by simp⟩⟩
  rw [List.getElem?_map] at h
  cases z : l[i]? with
  | none => rw [z] at h; cases h
  | some k =>
    rw [z] at h; cases h
    refine ⟨⟨_, .int k, e, by rw [List.getElem?_map, z]; rfl⟩, fun x H3 y => ?_⟩
    obtain ⟨rfl, y⟩ := y
    have := y _ e
    rw [List.getElem?_map, z] at this; cases this
    exact ⟨.inl rfl, rfl⟩
theorem feed_str {x : Str} : Feed T (Its x) (x.cps.toList.map fun c => .str (chr1 c)) σ H ρ W := fun σ2 H2 ρ2 W2 R2 s => by
  refine ⟨fun i d h => ?_, ?_⟩
  · rw [List.getElem?_map] at h
    cases z : x.cps.toList[i]? with
    | none => rw [z] at h; cases h
    | some c =>
      rw [z] at h; cases h
      rw [Array.getElem?_toList] at z
      refine ⟨(Array.getElem?_eq_some_iff.mp z).1, fun v H3 y => ?_⟩
      obtain ⟨rfl, c2, e, rfl⟩ := y
      rw [z] at e; cases e
      exact ⟨.inl rfl, rfl⟩
  · show x.cps.size ≤ _
    simp
theorem feed_rng {lo : Int} {n : Nat} : Feed T (Itr lo n) (rng lo n) σ H ρ W := fun σ2 H2 ρ2 W2 R2 s => by
  refine ⟨fun i d h => ?_, ?_⟩
  · unfold rng at h
    rw [List.getElem?_map] at h
    by_cases hi : i < n
    · rw [List.getElem?_range hi] at h
      cases h
      refine ⟨hi, fun v H3 y => ?_⟩
      obtain ⟨rfl, rfl⟩ := y
      exact ⟨.inl rfl, rfl⟩
    · rw [List.getElem?_eq_none (by simpa using hi)] at h
      cases h
  · show n ≤ (rng lo n).length
    simp [rng]
/-- the object of a handed list is changed by nobody, once it is locked -/
theorem locked {p : P} {v : V} {l : List D} (R : Rel T σ H ρ W) (h : RepP T σ H ρ W v p) (e : peek p ρ = some (.lst l)) : ∃ a vs, v = .ref a ∧ H a = some (.lst vs) ∧ RepDs T.K H W vs l ∧ ∀ i, ¬ OwnU σ (lockP p ρ).2 i a := by
  obtain ⟨a, vs, rfl, ha, r⟩ := (peek_ok R h e).lst
  refine ⟨a, vs, rfl, ha, r, fun i z => ?_⟩
  obtain ⟨z1, z2⟩ := lock_own z
  cases p with
  | val d =>
    cases e
    obtain ⟨b, us, eb, _, nw, _⟩ := h
    cases eb
    exact nw (R.ownA z1.a).1
  | own d =>
    obtain ⟨b, o, eb, _, _, no, _⟩ := h
    cases eb
    exact no i z1.a
  | at_ j =>
    have h : σ[j]? = some (some (.ref a)) := h
    have nw : ∀ d : D, d = .lst l → (∃ o, σ[j]? = some o ∧ ∃ v, o = some v ∧ RepD T.K H W v d) → False := fun d ed ⟨o, e1, v, e2, q⟩ => by
      subst ed
      rw [h] at e1; cases e1; cases e2
      obtain ⟨b, us, eb, _, nw, _⟩ := q
      cases eb
      exact nw (R.ownA z1.a).1
    simp only [peek] at e
    split at e
    · rename_i d es; cases e
      exact nw _ rfl (R.at_ j _ es)
    · rename_i b d es; cases e
      exact z2 j b _ rfl es (R.sep _ _ _ z1.a ⟨.inl ⟨b, _, es⟩, h⟩)
    · rename_i b d es; cases e
      have := R.sep _ _ _ z1.a ⟨.inr ⟨b, _, es⟩, h⟩
      subst this
      obtain ⟨⟨c, d, z3⟩, _⟩ := z1
      rw [es] at z3; cases z3
    · rename_i d es; cases e
      exact nw _ rfl (R.at_ j _ es)
    · cases e
theorem peek_val {p : P} {v : V} {d : D} (R : Rel T σ H ρ W) (h : RepP T σ H ρ W v p) (e : peek p ρ = some d) (n : ∀ o, ¬ RepO T.K H W o d) : RepD T.K H W v d := by
  rcases peek_ok R h e with ⟨a, o, _, _, q⟩ | q
  · exact (n o q).elim
  · exact q
/-- for .. in e -/
theorem s_seq (tk : T.K = X.K) {e : Ex} {e' tg : Expr} (he : PE X e' (tE X T F Z e)) : PI X tg e' (tI X T F Z (.seq e)) := by
  refine ⟨fun pins s σ H R I q => ?_⟩
  obtain ⟨ρ, W, Rl, h⟩ := q
  have h := Post.bind h
  cases e0 : ev F e ρ with
  | bad => rw [e0] at h; exact h.elim
  | err x => exact (pi_list (tg := tg) he).run pins s σ H R I ⟨ρ, W, Rl, by rw [e0] at h ⊢; exact h⟩
  | ok r =>
    obtain ⟨p, ρ1⟩ := r
    rw [e0] at h
    have h : Post X Z ((pk p ρ1).bind fun x => (items x).bind fun l => .ok ((l, p), ρ1)) σ H ρ fun lp ρ' => ∀ J H' W', Go T σ H ρ W H' ρ' W' → Feed T J lp.1 σ H' (lockP lp.2 ρ').2 W' → R J H' := h
    obtain ⟨d, e1, h⟩ := Post.val .pk h
    obtain ⟨l, e2, h⟩ := Post.val .items h
    have e1 := pk_of e1
    cases d with
    | tup l =>
      cases e2
      refine (pi_tup (tg := tg) he).run pins s σ H R I ⟨ρ, W, Rl, ?_⟩
      rw [e0]
      intro v H1 W1 o
      obtain ⟨a, vs, rfl, t, r⟩ := peek_val o.go.rel o.rep e1 fun _ z => z
      refine ⟨a, rfl, ⟨vs, by rw [← tk]; exact t.sq⟩, ?_⟩
      have g := lock_go o.go.rel p
      rw [← tk]
      exact h _ _ _ o.go (feed_tup g.rel (t.adv o.go.rel.wl (g.step.adv o.go.rel)) (RepDs.adv o.go.rel.wl (g.step.adv o.go.rel) r))
    | str x =>
      cases e2
      refine (pi_str (tg := tg) he).run pins s σ H R I ⟨ρ, W, Rl, ?_⟩
      rw [e0]
      intro v H1 W1 o
      have ev1 : v = .str x := peek_val o.go.rel o.rep e1 fun _ z => z
      exact ⟨x, ev1, h _ _ _ o.go feed_str⟩
    | lst l =>
      cases e2
      refine (pi_list (tg := tg) he).run pins s σ H R I ⟨ρ, W, Rl, ?_⟩
      rw [e0]
      intro v H1 W1 o
      obtain ⟨a, vs, rfl, ha, r, n⟩ := locked o.go.rel o.rep e1
      have g := lock_go o.go.rel p
      refine ⟨a, rfl, ⟨vs, .of ha⟩, ?_⟩
      rw [← tk]
      exact h _ _ _ o.go (feed_list g.rel ha n (r.adv o.go.rel.wl (g.step.adv o.go.rel)))
    | scr l =>
      cases e2
      refine (pi_list (tg := tg) he).run pins s σ H R I ⟨ρ, W, Rl, ?_⟩
      rw [e0]
      intro v H1 W1 o
      obtain ⟨a, rfl, t⟩ := peek_val o.go.rel o.rep e1 fun _ z => z
      have g := lock_go o.go.rel p
      refine ⟨a, rfl, ⟨_, by rw [← tk]; exact t.sq⟩, ?_⟩
      rw [← tk]
      exact h _ _ _ o.go (feed_scr g.rel (t.adv o.go.rel.wl (g.step.adv o.go.rel)))
    | _ => cases e2
/-- for .. in range(a) -/
theorem s_rng {a : Ex} {a' tg : Expr} {p pos : Pos} (hg : Gl X "range") (hm : X.mg "range" = none) (hs : starEach [a'] X.env = [(false, eval a' X.env)]) (ha : PE X a' (tE X T F Z a)) : PI X tg (.Call (.Name "range" p) [a'] [] pos) (tI X T F Z (.rng a)) := by
  refine ⟨fun pins s σ H R I q => ?_⟩
  refine (pi_range1 (tg := tg) hg hm (pa_cons ha pa_nil hs) hs).run pins s σ H R I ?_
  obtain ⟨ρ, W, Rl, h⟩ := q
  refine ⟨ρ, W, Rl, (Post.bind h).imp fun p ρ1 h v H1 W1 o => ?_⟩
  dsimp only at h
  split at h
  · rename_i j
    obtain ⟨⟨c1, c2⟩, h⟩ := Post.need h
    have e : v = .int j := o.rep
    exact ⟨j, by rw [e], c1, c2, h _ _ _ o.go feed_rng⟩
  · exact h.elim
theorem s_rng2 {a b : Ex} {a' b' tg : Expr} {p pos : Pos} (hg : Gl X "range") (hm : X.mg "range" = none) (hs : starEach [a', b'] X.env = [(false, eval a' X.env), (false, eval b' X.env)]) (hs2 : starEach [b'] X.env = [(false, eval b' X.env)])
    (ha : PE X a' (tE X T F Z a)) (hb : PE X b' (tE X T F Z b)) : PI X tg (.Call (.Name "range" p) [a', b'] [] pos) (tI X T F Z (.rng2 a b)) := by
  refine ⟨fun pins s σ H R I q => ?_⟩
  refine (pi_range2 (tg := tg) hg hm (pa_cons ha (pa_cons hb pa_nil hs2) (by rw [hs, hs2])) hs hs2).run pins s σ H R I ?_
  obtain ⟨ρ, W, Rl, h⟩ := q
  refine ⟨ρ, W, Rl, (Post.bind h).imp fun p ρ1 h v H1 W1 o => ⟨ρ1, W1, o.go.rel, ((Post.bind h).move o.go.step).imp fun p2 ρ2 h v2 H2 W2 o2 => ?_⟩⟩
  cases p with
  | val d =>
    cases d with
    | int i =>
      cases p2 with
      | val d2 =>
        cases d2 with
        | int j =>
          obtain ⟨⟨⟨c1, c2⟩, c3, c4⟩, h⟩ := Post.need h
          have e : v = .int i := o.rep
          have e2 : v2 = .int j := o2.rep
          exact ⟨i, j, by rw [e, e2], ⟨c1, c2, c3, c4⟩, h _ _ _ (o.go.trans o2.go) feed_rng⟩
        | _ => exact h.elim
      | _ => exact h.elim
    | _ => exact h.elim
  | _ => exact h.elim
theorem lay_rep (wl : WL H W) {a : Addr} {vs : List V} {l : List D} (n : H a = none) (r : RepDs K H W vs l) : RepD K (upd H a (.tup vs)) W (.ref a) (.tup l) := ⟨a, vs, rfl, .of upd_same, r.adv wl (adv_new n)⟩
theorem enmD_get {l : List D} {i : Nat} {d : D} (h : (enmD l)[i]? = some d) : ∃ c, l[i]? = some c ∧ d = .tup [.int (i : Nat), c] := by
  unfold enmD at h
  rw [List.getElem?_map] at h
  cases z : ((List.range l.length).zip l)[i]? with
  | none => rw [z] at h; cases h
  | some q =>
    rw [z] at h; cases h
    rw [List.getElem?_zip_eq_some] at z
    obtain ⟨z1, z2⟩ := z
    have hi := (List.getElem?_eq_some_iff.mp z2).1
    rw [List.getElem?_range hi] at z1
    exact ⟨q.2, z2, by show D.tup [.int ((q.1 : Nat) : Int), q.2] = _; rw [← Option.some.inj z1]⟩
theorem enmD_len (l : List D) : (enmD l).length = l.length := by simp [enmD]
theorem feed_enum (R : Rel T σ H ρ W) {a : Addr} {vs : List V} {l : List D} (hx : H a = some (.lst vs)) (n : ∀ i, ¬ OwnU σ ρ i a) (r : RepDs T.K H W vs l) : Feed T (Ite T.K a) (enmD l) σ H ρ W := fun σ2 H2 ρ2 W2 R2 s => by
  have e := still_list hx n s
  have r2 := r.adv R.wl (s.adv R)
  refine ⟨fun i d h => ?_, ⟨vs, .of e, by rw [r.length, enmD_len]; exact Nat.le_refl _⟩⟩
  obtain ⟨c, hc, rfl⟩ := enmD_get h
  obtain ⟨v, hv, q⟩ := r2.get hc
  refine ⟨⟨vs, v, .of e, hv⟩, fun x H3 y => ?_⟩
  obtain ⟨A, z, rfl, nA, rfl, y⟩ := y
  have := y vs (.of e)
  rw [hv] at this; cases this
  exact ⟨.inr ⟨A, _, nA, rfl⟩, lay_rep R2.wl nA ⟨_, _, rfl, rfl, _, _, rfl, q, rfl⟩⟩
theorem s_enm (tk : T.K = X.K) {e : Ex} {e' : Expr} {elts : List Expr} {kk : Nat} {p pos tpos : Pos} (hg : Gl X "enumerate") (hm : X.mg "enumerate" = none) (hs : starEach [e'] X.env = [(false, eval e' X.env)]) (he : PE X e' (tE X T F Z e)) :
    PI X (.Tuple elts kk tpos) (.Call (.Name "enumerate" p) [e'] [] pos) (tI X T F Z (.enm e)) := by
  refine ⟨fun pins s σ H R I q => ?_⟩
  refine (pi_enum hg hm (pa_cons he pa_nil hs) hs).run pins s σ H R I ?_
  obtain ⟨ρ, W, Rl, h⟩ := q
  refine ⟨ρ, W, Rl, (Post.bind h).imp fun p ρ1 h v H1 W1 o => ?_⟩
  obtain ⟨d, e1, h⟩ := Post.val .pk h
  obtain ⟨l, e2, h⟩ := Post.val .itemsL h
  cases d with
  | lst l =>
    cases e2
    obtain ⟨a, vs, rfl, ha, r, n⟩ := locked o.go.rel o.rep (pk_of e1)
    have g := lock_go o.go.rel p
    refine ⟨a, vs, rfl, .of ha, ?_⟩
    rw [← tk]
    exact h _ _ _ o.go (feed_enum g.rel ha n (r.adv o.go.rel.wl (g.step.adv o.go.rel)))
  | _ => cases e2
theorem zip2_get {a b : List D} {i : Nat} {d : D} (h : (zipD [a, b])[i]? = some d) : ∃ x y, a[i]? = some x ∧ b[i]? = some y ∧ d = .tup [x, y] := by
  unfold zipD at h
  rw [List.getElem?_map] at h
  cases z : (a.zip b)[i]? with
  | none => rw [z] at h; cases h
  | some q =>
    rw [z] at h; cases h
    rw [List.getElem?_zip_eq_some] at z
    exact ⟨_, _, z.1, z.2, rfl⟩
theorem feed_zipL (R : Rel T σ H ρ W) {a b : Addr} {vs us : List V} {l m : List D} (hx : H a = some (.lst vs)) (n : ¬ W a) (r : RepDs T.K H W vs l) (hy : H b = some (.lst us)) (k : ¬ W b) (q : RepDs T.K H W us m) :
    Feed T (Itz T.K a b) (zipD [l, m]) σ H ρ W := fun σ2 H2 ρ2 W2 R2 s => by
  have e1 := (s.adv R _ _ hx n).1
  have e2 := (s.adv R _ _ hy k).1
  have r2 := r.adv R.wl (s.adv R)
  have q2 := q.adv R.wl (s.adv R)
  refine ⟨fun i d h => ?_, ⟨vs, us, .of e1, .of e2, ?_⟩⟩
  · obtain ⟨x, y, hx, hy, rfl⟩ := zip2_get h
    obtain ⟨v, hv, qv⟩ := r2.get hx
    obtain ⟨u, hu, qu⟩ := q2.get hy
    refine ⟨⟨vs, us, v, u, .of e1, .of e2, hv, hu⟩, fun z H3 yl => ?_⟩
    obtain ⟨A, z1, z2, rfl, nA, rfl, y1, y2⟩ := yl
    have := y1 vs (.of e1)
    rw [hv] at this; cases this
    have := y2 us (.of e2)
    rw [hu] at this; cases this
    exact ⟨.inr ⟨A, _, nA, rfl⟩, lay_rep R2.wl nA ⟨_, _, rfl, qv, _, _, rfl, qu, rfl⟩⟩
  · rw [r.length, q.length]
    simp [zipD]
    omega
theorem feed_zipT (R : Rel T σ H ρ W) {a b : Addr} {vs us : List V} {l m : List D} (hx : TupL T.K H a vs) (r : RepDs T.K H W vs l) (hy : TupL T.K H b us) (q : RepDs T.K H W us m) :
    Feed T (RZ.ItzT T.K a b) (zipD [l, m]) σ H ρ W := fun σ2 H2 ρ2 W2 R2 s => by
  have e1 := (hx.adv R.wl (s.adv R)).sq
  have e2 := (hy.adv R.wl (s.adv R)).sq
  have r2 := r.adv R.wl (s.adv R)
  have q2 := q.adv R.wl (s.adv R)
  refine ⟨fun i d h => ?_, ⟨vs, us, e1, e2, ?_⟩⟩
  · obtain ⟨x, y, hx, hy, rfl⟩ := zip2_get h
    obtain ⟨v, hv, qv⟩ := r2.get hx
    obtain ⟨u, hu, qu⟩ := q2.get hy
    refine ⟨⟨vs, us, v, u, e1, e2, hv, hu⟩, fun z H3 yl => ?_⟩
    obtain ⟨A, z1, z2, rfl, nA, rfl, y1, y2⟩ := yl
    have := y1 vs e1
    rw [hv] at this; cases this
    have := y2 us e2
    rw [hu] at this; cases this
    exact ⟨.inr ⟨A, _, nA, rfl⟩, lay_rep R2.wl nA ⟨_, _, rfl, qv, _, _, rfl, qu, rfl⟩⟩
  · rw [r.length, q.length]
    simp [zipD]
    omega
theorem s_zip2 (tk : T.K = X.K) {a b : Ex} {a' b' : Expr} {elts : List Expr} {kk : Nat} {p pos tpos : Pos} (hg : Gl X "zip") (hm : X.mg "zip" = none) (hs : starEach [a', b'] X.env = (false, eval a' X.env) :: starEach [b'] X.env)
    (hpl : (backTo pos (starEach [b'] X.env)).any (·.1) = false) (hp : PA X [a', b'] (tA X T F Z (.cons a (.cons b .nil)))) :
    PI X (.Tuple elts kk tpos) (.Call (.Name "zip" p) [a', b'] [] pos) (tI X T F Z (.zip (.cons a (.cons b .nil)))) := by
  refine ⟨fun pins s σ H R I q => ?_⟩
  refine (RZ.pi_zipA hg hm hp hs hpl).run pins s σ H R I ?_
  obtain ⟨ρ, W, Rl, h⟩ := q
  refine ⟨ρ, W, Rl, (Post.bind h).imp fun ps ρ1 h vs H1 W1 o => ?_⟩
  obtain ⟨⟨ds, ρ2⟩, ex, h⟩ := Post.val .of h
  obtain ⟨W2, g, q⟩ := o.data (of_ok ex)
  obtain ⟨t, et, h⟩ := Post.val .itemss h
  have et : itemss ds = .ok t := et
  unfold itemss at et
  split at et
  · cases et
    obtain ⟨v, r, rfl, ⟨a, us, rfl, ea, na, ra⟩, v2, r2, rfl, ⟨b, ws, rfl, eb, nb, rb⟩, rfl⟩ := q
    refine ⟨a, b, us, ws, rfl, .inl ⟨.of ea, .of eb, ?_⟩⟩
    rw [← tk]
    exact h _ _ _ g (feed_zipL g.rel ea na ra eb nb rb)
  · cases et
    obtain ⟨v, r, rfl, ⟨a, us, rfl, ea, ra⟩, v2, r2, rfl, ⟨b, ws, rfl, eb, rb⟩, rfl⟩ := q
    refine ⟨a, b, us, ws, rfl, .inr ⟨by rw [← tk]; exact ea.sq, by rw [← tk]; exact eb.sq, ?_⟩⟩
    rw [← tk]
    exact h _ _ _ g (feed_zipT g.rel ea ra eb rb)
  · cases et
end
end Dv

set_option Elab.async false
set_option linter.all false
set_option maxRecDepth 100000
namespace Dv
open PySem PySem.Spec PyProof.Rows L2

section
variable {X : Cx} {Z : WX} {T : Tc} {F : Fn} {σ σ' : Sg} {H H0 H1 H2 H' : Hp} {ρ ρ1 ρ2 ρ' : Env'} {W W1 W2 W' : AS} {K : PySem.W.Frag} {ds : List D}

/-! ### slots stored -/
theorem free_bor {i : Nat} (h : freeSlot i ρ = true) : (∀ s, ρ[i]? = some (some s) → ¬ isBor s) ∧ (∀ b d, ρ[i]? ≠ some (some (.lck b d))) ∧ i < ρ.length := by
  unfold freeSlot at h
  split at h
  · rename_i e; exact ⟨fun s z => (by rw [e] at z; cases z), fun b d z => (by rw [e] at z; cases z), (List.getElem?_eq_some_iff.mp e).1⟩
  · rename_i d e; exact ⟨fun s z => (by rw [e] at z; cases z; exact fun k => k), fun b d z => (by rw [e] at z; cases z), (List.getElem?_eq_some_iff.mp e).1⟩
  · rename_i d e; exact ⟨fun s z => (by rw [e] at z; cases z; exact fun k => k), fun b d z => (by rw [e] at z; cases z), (List.getElem?_eq_some_iff.mp e).1⟩
  · cases h
def MonS (σ : Sg) (ρ : Env') (σ' : Sg) (ρ' : Env') : Prop := ∀ i a, OwnA σ' ρ' i a → OwnA σ ρ i a
theorem MonS.trans {σ1 : Sg} {σ2 : Sg} (a : MonS σ ρ σ1 ρ1) (b : MonS σ1 ρ1 σ2 ρ2) : MonS σ ρ σ2 ρ2 := fun i x h => a i x (b i x h)
/-- a slot stored with data, or emptied -/
theorem put_rel (R : Rel T σ H ρ W) {i : Nat} {v : V} {d : D} (hf : freeSlot i ρ = true) (r : RepD T.K H W v d) : Rel T (σ.set i (some v)) H (ρ.set i (some (.val d))) W ∧ Step σ H ρ W (σ.set i (some v)) H (ρ.set i (some (.val d))) W ∧ MonS σ ρ (σ.set i (some v)) (ρ.set i (some (.val d))) := by
  obtain ⟨nb, nl, hi⟩ := free_bor hf
  have hi2 : i < σ.length := by rw [← R.len]; exact hi
  have own : ∀ j a, OwnA (σ.set i (some v)) (ρ.set i (some (.val d))) j a → OwnA σ ρ j a ∧ j ≠ i := fun j a ⟨h1, h2⟩ => by
    have ne : j ≠ i := fun z => by
      subst z
      rcases h1 with ⟨b, x, h1⟩ | ⟨b, x, h1⟩ <;> (rw [List.getElem?_set_self hi] at h1; cases h1)
    rw [List.getElem?_set_ne (Ne.symm ne)] at h2
    refine ⟨⟨?_, h2⟩, ne⟩
    rcases h1 with ⟨b, x, h1⟩ | ⟨b, x, h1⟩
    · rw [List.getElem?_set_ne (Ne.symm ne)] at h1; exact .inl ⟨b, x, h1⟩
    · rw [List.getElem?_set_ne (Ne.symm ne)] at h1; exact .inr ⟨b, x, h1⟩
  refine ⟨⟨by simp [R.len], fun j s h => ?_, fun j k a h1 h2 => R.sep j k a (own j a h1).1 (own k a h2).1, R.wl, fun j x a h1 h2 => ?_, R.fzk, fun j a h => ?_⟩, fun b o h n => ⟨h, fun j z => ?_, Iff.rfl⟩, fun j a h => (own j a h).1⟩
  · rcases getq_set h with ⟨rfl, k, _⟩ | ⟨ne, k⟩
    · cases k
      exact ⟨some v, by rw [List.getElem?_set_self hi2], v, rfl, r⟩
    · obtain ⟨o, e, q⟩ := R.at_ j s k
      exact ⟨o, by rw [List.getElem?_set_ne ne]; exact e, q⟩
  · have ne : i ≠ j := fun z => by
      subst z
      rcases h1 with h1 | h1 <;> (rw [List.getElem?_set_self hi] at h1; cases h1)
    rw [List.getElem?_set_ne ne] at h2
    rw [List.getElem?_set_ne ne] at h1
    exact R.fr j x a h1 h2
  · obtain ⟨h1, s, h2, h3⟩ := R.bor j a h
    have ne : i ≠ j := fun z => by subst z; exact nb s h2 h3
    exact ⟨by rw [List.getElem?_set_ne ne]; exact h1, s, by rw [List.getElem?_set_ne ne]; exact h2, h3⟩
  · obtain ⟨⟨c, x, h1⟩, h2⟩ := z
    exact n j ⟨⟨c, x, by
      rcases getq_set h1 with ⟨rfl, k, _⟩ | ⟨ne, k⟩
      · cases k
      · exact k⟩, by
      rcases getq_set h1 with ⟨rfl, k, _⟩ | ⟨ne, k⟩
      · cases k
      · rw [List.getElem?_set_ne ne] at h2; exact h2⟩
theorem put_lk {i : Nat} {s : Option S} (hf : freeSlot i ρ = true) : Lk ρ (ρ.set i s) := Lk.set (free_bor hf).2.1

/-! ### from one statement to the next -/
structure GoS (T : Tc) (σ : Sg) (H : Hp) (ρ : Env') (W : AS) (σ' : Sg) (H' : Hp) (ρ' : Env') (W' : AS) : Prop where
  rel : Rel T σ' H' ρ' W'
  step : Step σ H ρ W σ' H' ρ' W'
  dom : ∀ a, H' a = none → H a = none
  own : ∀ i a, OwnA σ' ρ' i a → (∃ j, OwnA σ ρ j a) ∨ H a = none
  lk : ∀ (i : Nat) (b : Bool) (d : D), ρ[i]? = some (some (.lck b d)) → ρ'[i]? = some (some (.lck b d)) ∧ σ'[i]? = σ[i]?
theorem Go.s (g : Go T σ H ρ W H' ρ' W') : GoS T σ H ρ W σ H' ρ' W' := ⟨g.rel, g.step, g.dom, fun i a h => .inl ⟨i, g.mon i a h⟩, fun i b d h => ⟨g.lk i b d h, rfl⟩⟩
theorem GoS.refl (R : Rel T σ H ρ W) : GoS T σ H ρ W σ H ρ W := (Go.refl R).s
theorem GoS.trans {σ1 σ2 : Sg} (a : GoS T σ H ρ W σ1 H1 ρ1 W1) (b : GoS T σ1 H1 ρ1 W1 σ2 H2 ρ2 W2) : GoS T σ H ρ W σ2 H2 ρ2 W2 :=
  ⟨b.rel, a.step.trans b.step, fun x h => a.dom x (b.dom x h), fun i x h => by
    rcases b.own i x h with ⟨j, h⟩ | h
    · exact a.own j x h
    · exact .inr (a.dom x h), fun i c d h => by
    obtain ⟨h1, h2⟩ := a.lk i c d h
    obtain ⟨h3, h4⟩ := b.lk i c d h1
    exact ⟨h3, h4.trans h2⟩⟩
theorem put_go (R : Rel T σ H ρ W) {i : Nat} {v : V} {d : D} (e : putV i d ρ = .ok ρ') (r : RepD T.K H W v d) : GoS T σ H ρ W (σ.set i (some v)) H ρ' W ∧ MonS σ ρ (σ.set i (some v)) ρ' := by
  unfold putV at e
  split at e
  · rename_i hf
    cases e
    obtain ⟨a, b, m⟩ := put_rel R hf r
    refine ⟨⟨a, b, fun _ h => h, fun i a h => .inl ⟨i, m i a h⟩, fun j c x h => ⟨put_lk hf j c x h, ?_⟩⟩, m⟩
    have ne : i ≠ j := fun z => by subst z; exact (free_bor hf).2.1 c x h
    rw [List.getElem?_set_ne ne]
  · cases e
def sets (σ : Sg) : List Nat → List V → Sg
  | i :: is, v :: vs => sets (σ.set i (some v)) is vs
  | _, _ => σ
theorem puts_go : ∀ {is : List Nat} {ds : List D} {σ : Sg} {ρ ρ' : Env'} {vs : List V}, Rel T σ H ρ W → putVs is ds ρ = .ok ρ' → RepDs T.K H W vs ds → GoS T σ H ρ W (sets σ is vs) H ρ' W ∧ MonS σ ρ (sets σ is vs) ρ'
  | [], [], σ, ρ, ρ', vs, R, e, r => by
    cases e
    rw [show vs = [] from r]
    exact ⟨GoS.refl R, fun _ _ h => h⟩
  | i :: is, d :: ds, σ, ρ, ρ', vs, R, e, r => by
    obtain ⟨v, us, rfl, q, t⟩ := r
    have e : (putV i d ρ).bind (putVs is ds) = .ok ρ' := e
    cases e1 : putV i d ρ with
    | bad => rw [e1] at e; cases e
    | err x => rw [e1] at e; cases e
    | ok ρ1 =>
      rw [e1] at e
      obtain ⟨g, m⟩ := put_go R e1 q
      obtain ⟨g2, m2⟩ := puts_go g.rel e t
      exact ⟨g.trans g2, m.trans m2⟩
  | [], _ :: _, _, _, _, _, _, e, _ => by cases e
  | _ :: _, [], _, _, _, _, _, e, _ => by cases e
theorem putVs_len : ∀ {is : List Nat} {ds : List D} {ρ ρ' : Env'}, putVs is ds ρ = .ok ρ' → is.length = ds.length
  | [], [], _, _, _ => rfl
  | i :: is, d :: ds, ρ, ρ', e => by
    have e : (putV i d ρ).bind (putVs is ds) = .ok ρ' := e
    cases e1 : putV i d ρ with
    | bad => rw [e1] at e; cases e
    | err x => rw [e1] at e; cases e
    | ok ρ1 =>
      rw [e1] at e
      rw [List.length_cons, List.length_cons, putVs_len e]
  | [], _ :: _, _, _, e => by cases e
  | _ :: _, [], _, _, e => by cases e

/-! ### targets -/
def gNames : List Nat → TGs
  | [] => gNil
  | i :: is => gCons (gName i) (gNames is)
theorem gNames_ok : ∀ {is : List Nat} {vs : List V} {σ : Sg} {H : Hp} {Q : Sg → Hp → Prop}, is.length = vs.length → Q (sets σ is vs) H → gNames is vs σ H Q
  | [], [], _, _, _, _, h => ⟨rfl, h⟩
  | i :: is, v :: vs, σ, H, Q, e, h => ⟨v, vs, rfl, gNames_ok (is := is) (by simpa using e) h⟩
  | [], _ :: _, _, _, _, e, _ => by simp at e
  | _ :: _, [], _, _, _, e, _ => by simp at e
def gT (K : PySem.W.Frag) : Tg → TG
  | .nm i => gName i
  | .tp l => gTup K l.length (gNames l)
theorem gT_ok (R : Rel T σ H ρ W) {tg : Tg} {v : V} {d : D} {Q : Sg → Hp → Prop} (e : asgT tg d ρ = .ok ρ') (r : RepD T.K H W v d) (q : ∀ σ', GoS T σ H ρ W σ' H ρ' W → MonS σ ρ σ' ρ' → (∀ i, (match tg with | .nm j => i ≠ j | .tp l => i ∉ l) → σ'[i]? = σ[i]?) → Q σ' H) : gT T.K tg v σ H Q := by
  unfold asgT at e
  split at e
  · rename_i i d ρ
    refine q _ (put_go R e r).1 (put_go R e r).2 fun j hj => ?_
    rw [List.getElem?_set_ne (Ne.symm hj)]
  · rename_i is ds ρ
    obtain ⟨a, vs, rfl, t, r⟩ := r
    have el := putVs_len e
    refine ⟨a, vs, rfl, t.sq, by rw [r.length]; exact el.symm, gNames_ok (by rw [r.length]; exact el) (q _ (puts_go R e r).1 (puts_go R e r).2 fun j hj => ?_)⟩
    have : ∀ {is : List Nat} {vs : List V} {σ : Sg}, j ∉ is → (sets σ is vs)[j]? = σ[j]? := by
      intro is
      induction is with
      | nil => intro vs σ _; rfl
      | cons i is ih =>
        intro vs σ hn
        cases vs with
        | nil => rfl
        | cons v vs =>
          show (sets (σ.set i (some v)) is vs)[j]? = _
          rw [ih fun z => hn (List.mem_cons_of_mem _ z), List.getElem?_set_ne fun z => hn (by rw [z]; exact List.mem_cons_self)]
    exact this hj
  · cases e
end
end Dv

set_option Elab.async false
set_option linter.all false
set_option maxRecDepth 100000
namespace Dv
open PySem PySem.Spec PyProof.Rows L2

section
variable {X : Cx} {Z : WX} {T : Tc} {F : Fn} {σ σ' : Sg} {H H0 H1 H2 H' : Hp} {ρ ρ1 ρ2 ρ' ρf ρb ρq : Env'} {W W1 W2 W' : AS} {K : PySem.W.Frag} {ds : List D}

/-! ### a lock opened -/
theorem unlock_own {o : Option Nat} (e : unlock o ρf = .ok ρ') : (∀ i a, OwnA σ ρ' i a ↔ OwnA σ ρf i a) ∧ (o = none → ρ' = ρf) ∧ ∀ k, o = some k → ∃ b d, ρf[k]? = some (some (.lck b d)) ∧ ρ' = ρf.set k (some (.own b d)) := by
  unfold unlock at e
  split at e
  · cases e; exact ⟨fun _ _ => Iff.rfl, fun _ => rfl, fun k h => by cases h⟩
  · rename_i k
    split at e
    · rename_i b d es
      cases e
      have hi : k < ρf.length := (List.getElem?_eq_some_iff.mp es).1
      refine ⟨fun i a => ⟨fun ⟨h1, h2⟩ => ⟨?_, h2⟩, fun ⟨h1, h2⟩ => ⟨?_, h2⟩⟩, fun h => (by cases h), fun j h => (by cases h; exact ⟨b, d, es, rfl⟩)⟩
      · rcases h1 with ⟨c, z, h1⟩ | ⟨c, z, h1⟩
        · rcases getq_set h1 with ⟨rfl, _, _⟩ | ⟨_, q⟩
          · exact .inr ⟨b, d, es⟩
          · exact .inl ⟨c, z, q⟩
        · rcases getq_set h1 with ⟨rfl, q, _⟩ | ⟨_, q⟩
          · cases q
          · exact .inr ⟨c, z, q⟩
      · by_cases ei : k = i
        · subst ei
          exact .inl ⟨b, d, by rw [List.getElem?_set_self hi]⟩
        · rw [List.getElem?_set_ne ei]; exact h1
    · cases e
theorem unlock_rel {o : Option Nat} (R : Rel T σ H ρf W) (e : unlock o ρf = .ok ρ') : Rel T σ H ρ' W := by
  obtain ⟨ow, h0, h1⟩ := unlock_own (σ := σ) e
  cases o with
  | none => rw [h0 rfl]; exact R
  | some k =>
    obtain ⟨b, d, es, rfl⟩ := h1 k rfl
    have hi : k < ρf.length := (List.getElem?_eq_some_iff.mp es).1
    refine ⟨by simpa using R.len, fun j s h => ?_, fun i j a h1 h2 => R.sep i j a ((ow i a).mp h1) ((ow j a).mp h2), R.wl, fun j x a h1 h2 => ?_, R.fzk, fun j a h => ?_⟩
    · rcases getq_set h with ⟨rfl, q, _⟩ | ⟨_, q⟩
      · cases q
        obtain ⟨o, e1, q⟩ := R.at_ k _ es
        exact ⟨o, e1, q⟩
      · exact R.at_ j s q
    · rcases h1 with h1 | h1
      · rcases getq_set h1 with ⟨rfl, q, _⟩ | ⟨_, q⟩
        · cases q; exact R.fr k d a (.inr es) h2
        · exact R.fr j x a (.inl q) h2
      · rcases getq_set h1 with ⟨rfl, q, _⟩ | ⟨_, q⟩
        · cases q
        · exact R.fr j x a (.inr q) h2
    · obtain ⟨z1, s, z2, z3⟩ := R.bor j a h
      refine ⟨z1, ?_⟩
      by_cases ej : k = j
      · subst ej
        refine ⟨.own b d, by rw [List.getElem?_set_self hi], ?_⟩
        rw [es] at z2; cases z2
        cases b with
        | true => trivial
        | false => exact z3.elim
      · exact ⟨s, by rw [List.getElem?_set_ne ej]; exact z2, z3⟩
theorem lock_none {p : P} (h : (lockP p ρ).1 = none) : (lockP p ρ).2 = ρ := by
  unfold lockP at h ⊢
  split
  · rename_i i
    split
    · rename_i b d e
      simp only [e] at h
      cases h
    · rfl
  · rfl
theorem lock_some {p : P} {k : Nat} (h : (lockP p ρ).1 = some k) : ∃ b d, ρ[k]? = some (some (.own b d)) ∧ (lockP p ρ).2 = ρ.set k (some (.lck b d)) := by
  cases p with
  | val d => cases h
  | own d => cases h
  | at_ i =>
    simp only [lockP] at h ⊢
    split at h
    · rename_i b d e
      cases h
      exact ⟨b, d, e, rfl⟩
    · cases h
/-- from ahead of the lock to behind the opening -/
theorem unlock_step {p : P} (R : Rel T σ H1 ρ1 W1) (s : Step σ H1 (lockP p ρ1).2 W1 σ' H ρf W) (e : unlock (lockP p ρ1).1 ρf = .ok ρ')
    (hk : ∀ (k : Nat) (b : Bool) (d : D), (lockP p ρ1).2[k]? = some (some (S.lck b d)) → σ'[k]? = σ[k]?) : Step σ H1 ρ1 W1 σ' H ρ' W := fun x o h n => by
  have n1 : ∀ i, ¬ OwnU σ (lockP p ρ1).2 i x := fun i z => n i (lock_own z).1
  obtain ⟨h1, n2, w⟩ := s x o h n1
  refine ⟨h1, fun i z => ?_, w⟩
  obtain ⟨ow, h0, hs⟩ := unlock_own (σ := σ') e
  cases el : (lockP p ρ1).1 with
  | none => rw [h0 el] at z; exact n2 i z
  | some k =>
    obtain ⟨b, d, e1, rfl⟩ := hs k el
    obtain ⟨b2, d2, e2, e3⟩ := lock_some el
    obtain ⟨⟨c, y, z1⟩, z2⟩ := z
    rcases getq_set z1 with ⟨rfl, _, _⟩ | ⟨_, q⟩
    · have hi : k < ρ1.length := (List.getElem?_eq_some_iff.mp e2).1
      have := hk k b2 d2 (by rw [e3, List.getElem?_set_self hi])
      rw [this] at z2
      exact n k ⟨⟨b2, d2, e2⟩, z2⟩
    · exact n2 i ⟨⟨c, y, q⟩, z2⟩
theorem unlock_lk {p : P} {ρ3 : Env'} (l : Lk (lockP p ρ1).2 ρ3) (e : unlock (lockP p ρ1).1 ρ3 = .ok ρ') : Lk ρ1 ρ' := fun i b d h => by
  obtain ⟨_, h0, hs⟩ := unlock_own (σ := []) e
  cases el : (lockP p ρ1).1 with
  | none =>
    rw [h0 el]
    exact l i b d (by rw [lock_none el]; exact h)
  | some k =>
    obtain ⟨b1, d1, e1, rfl⟩ := hs k el
    obtain ⟨b2, d2, e2, e3⟩ := lock_some el
    have ne : k ≠ i := fun z => by subst z; rw [e2] at h; cases h
    rw [List.getElem?_set_ne ne]
    exact l i b d (by rw [e3, List.getElem?_set_ne ne]; exact h)

/-! ### a comprehension's own slots -/
theorem wipe_get : ∀ {vs : List Nat} {i : Nat}, i ∉ vs → (wipe σ vs)[i]? = σ[i]?
  | [], _, _ => rfl
  | v :: vs, i, h => by
    show ((wipe σ vs).set v none)[i]? = _
    rw [List.getElem?_set_ne fun z => h (by rw [z]; exact List.mem_cons_self), wipe_get fun z => h (List.mem_cons_of_mem _ z)]
theorem wipeR_get : ∀ {vs : List Nat} {i : Nat}, i ∉ vs → (wipeR ρ vs)[i]? = ρ[i]?
  | [], _, _ => rfl
  | v :: vs, i, h => by
    show ((wipeR ρ vs).set v none)[i]? = _
    rw [List.getElem?_set_ne fun z => h (by rw [z]; exact List.mem_cons_self), wipeR_get fun z => h (List.mem_cons_of_mem _ z)]
theorem wipeR_len : ∀ vs : List Nat, (wipeR ρ vs).length = ρ.length
  | [] => rfl
  | v :: vs => by
    show ((wipeR ρ vs).set v none).length = _
    rw [List.length_set, wipeR_len vs]
theorem wipeR_in : ∀ {vs : List Nat} {i : Nat} {s : S}, i ∈ vs → (wipeR ρ vs)[i]? ≠ some (some s)
  | v :: vs, i, s, h, e => by
    have e : ((wipeR ρ vs).set v none)[i]? = some (some s) := e
    rcases getq_set e with ⟨_, q, _⟩ | ⟨ne, q⟩
    · cases q
    · rcases List.mem_cons.mp h with z | z
      · exact ne z.symm
      · exact wipeR_in z q
theorem wipe_in : ∀ {vs : List Nat} {i : Nat}, i ∈ vs → (wipe σ vs)[i]? = if i < σ.length then some none else none
  | v :: vs, i, h => by
    show ((wipe σ vs).set v none)[i]? = _
    by_cases e : v = i
    · subst e
      by_cases z : v < σ.length
      · rw [List.getElem?_set_self (by rw [wipe_length]; exact z), if_pos z]
      · rw [if_neg z, List.getElem?_eq_none (by rw [List.length_set, wipe_length]; omega)]
    · rw [List.getElem?_set_ne e]
      rcases List.mem_cons.mp h with z | z
      · exact absurd z.symm e
      · exact wipe_in z
theorem wipe_eq {vs : List Nat} (hl : σ'.length = σ.length) (h : ∀ i, i ∉ vs → σ'[i]? = σ[i]?) : wipe σ' vs = wipe σ vs := by
  apply List.ext_getElem?
  intro i
  by_cases hm : i ∈ vs
  · rw [wipe_in hm, wipe_in hm, hl]
  · rw [wipe_get hm, wipe_get hm, h i hm]
theorem wipe_own {vs : List Nat} {i : Nat} {a : Addr} : OwnA (wipe σ vs) (wipeR ρ vs) i a ↔ OwnA σ ρ i a ∧ i ∉ vs := by
  constructor
  · rintro ⟨h1, h2⟩
    have hn : i ∉ vs := fun hm => by
      rcases h1 with ⟨b, d, h1⟩ | ⟨b, d, h1⟩ <;> exact wipeR_in hm h1
    rw [wipe_get hn] at h2
    rw [wipeR_get hn] at h1
    exact ⟨⟨h1, h2⟩, hn⟩
  · rintro ⟨⟨h1, h2⟩, hn⟩
    exact ⟨by rw [wipeR_get hn]; exact h1, by rw [wipe_get hn]; exact h2⟩
theorem wipe_ownU {vs : List Nat} {i : Nat} {a : Addr} : OwnU (wipe σ vs) (wipeR ρ vs) i a ↔ OwnU σ ρ i a ∧ i ∉ vs := by
  constructor
  · rintro ⟨⟨b, d, h1⟩, h2⟩
    have hn : i ∉ vs := fun hm => wipeR_in hm h1
    rw [wipe_get hn] at h2
    rw [wipeR_get hn] at h1
    exact ⟨⟨⟨b, d, h1⟩, h2⟩, hn⟩
  · rintro ⟨⟨⟨b, d, h1⟩, h2⟩, hn⟩
    exact ⟨⟨b, d, by rw [wipeR_get hn]; exact h1⟩, by rw [wipe_get hn]; exact h2⟩
theorem wipe_rel (R : Rel T σ H ρ W) {vs : List Nat} (hb : ∀ i ∈ vs, T.bm i = none) : Rel T (wipe σ vs) H (wipeR ρ vs) W := by
  refine ⟨by rw [wipeR_len, wipe_length, R.len], fun i s h => ?_, fun i j a h1 h2 => R.sep i j a (wipe_own.mp h1).1 (wipe_own.mp h2).1, R.wl, fun i d a h1 h2 => ?_, R.fzk, fun i a h => ?_⟩
  · have hn : i ∉ vs := fun hm => wipeR_in hm h
    rw [wipeR_get hn] at h
    rw [wipe_get hn]
    exact R.at_ i s h
  · have hn : i ∉ vs := fun hm => by
      rcases h1 with h1 | h1 <;> exact wipeR_in hm h1
    rw [wipe_get hn] at h2
    rw [wipeR_get hn] at h1
    exact R.fr i d a h1 h2
  · have hn : i ∉ vs := fun hm => by rw [hb i hm] at h; cases h
    rw [wipe_get hn, wipeR_get hn]
    exact R.bor i a h
theorem wipe_step {vs : List Nat} : Step σ H ρ W (wipe σ vs) H (wipeR ρ vs) W := fun b o h n => ⟨h, fun i z => n i (wipe_ownU.mp z).1, Iff.rfl⟩
theorem wipe_mon {vs : List Nat} : MonS σ ρ (wipe σ vs) (wipeR ρ vs) := fun i a h => (wipe_own.mp h).1
theorem wipe_wipe {vs : List Nat} : wipe (wipe σ vs) vs = wipe σ vs := wipe_eq (wipe_length _ _) fun i hi => wipe_get hi
/-! .. back -/
theorem backR_out : ∀ {vs : List Nat} {i : Nat}, i ∉ vs → (backR ρb ρ vs)[i]? = ρ[i]?
  | [], _, _ => rfl
  | v :: vs, i, h => by
    show ((backR ρb ρ vs).set v _)[i]? = _
    rw [List.getElem?_set_ne fun z => h (by rw [z]; exact List.mem_cons_self), backR_out fun z => h (List.mem_cons_of_mem _ z)]
theorem backR_len : ∀ vs : List Nat, (backR ρb ρ vs).length = ρ.length
  | [] => rfl
  | v :: vs => by
    show ((backR ρb ρ vs).set v _).length = _
    rw [List.length_set, backR_len vs]
theorem backR_in (hl : ρ.length = ρb.length) : ∀ {vs : List Nat} {i : Nat}, i ∈ vs → (backR ρb ρ vs)[i]? = ρb[i]?
  | v :: vs, i, h => by
    show ((backR ρb ρ vs).set v (ρb.getD v none))[i]? = _
    by_cases e : v = i
    · subst e
      by_cases z : v < ρb.length
      · rw [List.getElem?_set_self (by rw [backR_len, hl]; exact z), List.getD_eq_getElem?_getD, List.getElem?_eq_getElem z]; rfl
      · rw [List.getElem?_eq_none (by rw [List.length_set, backR_len, hl]; omega), List.getElem?_eq_none (by omega)]
    · rw [List.getElem?_set_ne e]
      rcases List.mem_cons.mp h with z | z
      · exact absurd z.symm e
      · exact backR_in hl z
theorem back_rel {vs : List Nat} (Rb : Rel T σ H1 ρb W1) (hb : ∀ i ∈ vs, T.bm i = none) (R : Rel T (wipe σ vs) H (wipeR ρq vs) W) (s : Step (wipe σ vs) H1 (wipeR ρb vs) W1 (wipe σ vs) H (wipeR ρq vs) W) (m : MonS (wipe σ vs) (wipeR ρb vs) (wipe σ vs) (wipeR ρq vs))
    (dom : ∀ a, H a = none → H1 a = none) (lk : Lk (wipeR ρb vs) (wipeR ρq vs)) : Rel T σ H (backR ρb ρq vs) W ∧ Step σ H1 ρb W1 σ H (backR ρb ρq vs) W ∧ Mon σ ρb (backR ρb ρq vs) ∧ Lk ρb (backR ρb ρq vs) := by
  have hl : ρq.length = ρb.length := by
    have h1 := R.len
    rw [wipeR_len, wipe_length] at h1
    rw [h1, Rb.len]
  have st : Step σ H1 ρb W1 (wipe σ vs) H (wipeR ρq vs) W := (wipe_step (vs := vs)).trans s
  have own : ∀ i a, OwnA σ (backR ρb ρq vs) i a → OwnA σ ρb i a ∧ (i ∉ vs → OwnA (wipe σ vs) (wipeR ρq vs) i a) := fun i a ⟨h1, h2⟩ => by
    by_cases hm : i ∈ vs
    · rw [backR_in hl hm] at h1
      exact ⟨⟨h1, h2⟩, fun z => absurd hm z⟩
    · rw [backR_out hm] at h1
      have : OwnA (wipe σ vs) (wipeR ρq vs) i a := wipe_own.mpr ⟨⟨h1, h2⟩, hm⟩
      exact ⟨(wipe_own.mp (m i a this)).1, fun _ => this⟩
  -- an own slot's old content still stands
  have old : ∀ (i : Nat) (s : S), i ∈ vs → ρb[i]? = some (some s) → ∃ o, σ[i]? = some o ∧ RelS T H W o s := fun i s hm e => by
    obtain ⟨o, e1, q⟩ := Rb.at_ i s e
    refine ⟨o, e1, ?_⟩
    have ad : Adv H1 W1 H W := st.adv Rb
    have nU : ∀ a, OwnA σ ρb i a → ∀ j, ¬ OwnU (wipe σ vs) (wipeR ρb vs) j a := fun a oa j z => by
      obtain ⟨z1, z2⟩ := wipe_ownU.mp z
      have := Rb.sep _ _ _ oa z1.a
      subst this
      exact z2 hm
    cases s with
    | val d => obtain ⟨v, e2, r⟩ := q; exact ⟨v, e2, r.adv Rb.wl ad⟩
    | brz d => obtain ⟨v, e2, r⟩ := q; exact ⟨v, e2, r.adv Rb.wl ad⟩
    | own b d =>
      obtain ⟨a, ob, rfl, e3, w, r⟩ := q
      obtain ⟨h1, _, h3⟩ := s a ob e3 (nU a ⟨.inl ⟨b, d, e⟩, e1⟩)
      exact ⟨a, ob, rfl, h1, h3.mpr w, r.adv Rb.wl ad⟩
    | lck b d =>
      obtain ⟨a, ob, rfl, e3, w, r⟩ := q
      obtain ⟨h1, _, h3⟩ := s a ob e3 (nU a ⟨.inr ⟨b, d, e⟩, e1⟩)
      exact ⟨a, ob, rfl, h1, h3.mpr w, r.adv Rb.wl ad⟩
  refine ⟨⟨by rw [backR_len, hl, Rb.len], fun i s h => ?_, fun i j a h1 h2 => Rb.sep i j a (own i a h1).1 (own j a h2).1, R.wl, fun i d a h1 h2 => ?_, R.fzk, fun i a h => ?_⟩, fun b o h n => ?_, fun i a h => (own i a h).1, fun i b d h => ?_⟩
  · by_cases hm : i ∈ vs
    · rw [backR_in hl hm] at h
      exact old i s hm h
    · rw [backR_out hm] at h
      have := R.at_ i s (by rw [wipeR_get hm]; exact h)
      rw [wipe_get hm] at this
      exact this
  · by_cases hm : i ∈ vs
    · rw [backR_in hl hm] at h1
      exact Rb.fr i d a h1 h2
    · rw [backR_out hm] at h1
      exact R.fr i d a (by rw [wipeR_get hm]; exact h1) (by rw [wipe_get hm]; exact h2)
  · have hm : i ∉ vs := fun hm => by rw [hb i hm] at h; cases h
    rw [backR_out hm]
    have := R.bor i a h
    rw [wipe_get hm, wipeR_get hm] at this
    exact this
  · obtain ⟨h1, n1, w⟩ := st b o h n
    refine ⟨h1, fun i z => ?_, w⟩
    by_cases hm : i ∈ vs
    · obtain ⟨⟨c, d, z1⟩, z2⟩ := z
      rw [backR_in hl hm] at z1
      exact n i ⟨⟨c, d, z1⟩, z2⟩
    · obtain ⟨⟨c, d, z1⟩, z2⟩ := z
      rw [backR_out hm] at z1
      exact n1 i (wipe_ownU.mpr ⟨⟨⟨c, d, z1⟩, z2⟩, hm⟩)
  · by_cases hm : i ∈ vs
    · rw [backR_in hl hm]; exact h
    · rw [backR_out hm]
      have := lk i b d (by rw [wipeR_get hm]; exact h)
      rw [wipeR_get hm] at this
      exact this
/-- an object that no slot bears, changed -/
theorem mut_tmp (R : Rel T σ H ρ W) {a : Addr} {o o' : HO} {d : D} (ha : H a = some o) (wa : W a) (no : ∀ i, ¬ OwnA σ ρ i a) (q : RepO T.K H W o' d) : Rel T σ (upd H a o') ρ W := by
  have ad : Adv H W (upd H a o') W := fun b u e w => ⟨by rw [upd_ne (fun z => w (by rw [z]; exact wa))]; exact e, w⟩
  refine ⟨R.len, fun i s e => ?_, R.sep, fun x w => ?_, R.fr, fun x h => R.fzk x ?_, R.bor⟩
  · obtain ⟨v, e1, z⟩ := R.at_ i s e
    refine ⟨v, e1, ?_⟩
    cases s with
    | val d => obtain ⟨v, e2, r⟩ := z; exact ⟨v, e2, r.adv R.wl ad⟩
    | brz d => obtain ⟨v, e2, r⟩ := z; exact ⟨v, e2, r.adv R.wl ad⟩
    | own b d =>
      obtain ⟨c, ob, rfl, e3, w, r⟩ := z
      have ne : c ≠ a := fun z => no i (by rw [← z]; exact ⟨.inl ⟨b, d, e⟩, e1⟩)
      exact ⟨c, ob, rfl, by rw [upd_ne ne]; exact e3, w, r.adv R.wl ad⟩
    | lck b d =>
      obtain ⟨c, ob, rfl, e3, w, r⟩ := z
      have ne : c ≠ a := fun z => no i (by rw [← z]; exact ⟨.inr ⟨b, d, e⟩, e1⟩)
      exact ⟨c, ob, rfl, by rw [upd_ne ne]; exact e3, w, r.adv R.wl ad⟩
  · by_cases e : x = a
    · subst e; exact ⟨o', upd_same, q.mk1⟩
    · obtain ⟨u, hu, m⟩ := R.wl x w
      exact ⟨u, by rw [upd_ne e]; exact hu, m⟩
  · by_cases e : x = a
    · subst e; rw [upd_same] at h; cases h
    · rw [upd_ne e] at h; exact h
end
end Dv

set_option Elab.async false
set_option linter.all false
set_option maxRecDepth 100000
namespace Dv
open PySem PySem.Spec PyProof.Rows L2

abbrev Z0 : WX := fun _ _ _ _ => False
def tCl (X : Cx) (T : Tc) (F : Fn) (Z : WX) (o : To) : TT := fun σ H Q => ∃ ρ W, Rel T σ H ρ W ∧ Post X Z (evc F o ρ) σ H ρ fun b ρ' => ∀ H' W', Go T σ H ρ W H' ρ' W' → Q b H'
/-- a comprehension's turn -/
noncomputable def turnF (F : Fn) (elt : Ex) (tg : Tg) (ifs : To) (own : List Nat) : D → Env' → Rs (Option D × Env') := fun d ρ1 => (asgT tg d (wipeR ρ1 own)).bind fun ρ2 => (evc F ifs ρ2).quiet.bind fun c => match c.1 with
  | true => (ev F elt c.2).quiet.bind fun p => (Rs.of (toD p.1 p.2)).bind fun y => .ok (some y.1, y.2)
  | false => .ok (none, c.2)
def tgs : Tg → List Nat
  | .nm i => [i]
  | .tp l => l
section
variable {X : Cx} {Z : WX} {T : Tc} {F : Fn} {σ σ' : Sg} {H H0 H1 H2 H' : Hp} {ρ ρ1 ρ2 ρ' ρf ρb ρq : Env'} {W W1 W2 W' : AS} {K : PySem.W.Frag} {ds : List D}
theorem s_cnone : PTs X [] (tCl X T F Z .none) := by
  refine ⟨fun pins s σ H Q I q => pts_nil.run pins s σ H Q I ?_⟩
  obtain ⟨ρ, W, R, h⟩ := q
  exact h H W (Go.refl R)
theorem s_csome {t : Tx} {c : Expr} (h : PT X c (tT X T F Z t)) : PTs X [c] (tCl X T F Z (.some t)) := pts_one h
theorem bind_ok {α β : Type} {r : Rs α} {f : α → Rs β} {b : β} (h : r.bind f = .ok b) : ∃ a, r = .ok a ∧ f a = .ok b := by
  cases r with
  | ok a => exact ⟨a, rfl, h⟩
  | err e => cases h
  | bad => cases h
theorem quiet_ok {α : Type} {r : Rs α} {a : α} (h : r.quiet = .ok a) : r = .ok a := by
  cases r with
  | ok b => exact h
  | err e => cases h
  | bad => cases h
/-- the heap of a step's items -/
theorem Lay.go (R : Rel T σ H ρ W) (l : Lay H H') : Go T σ H ρ W H' ρ W := by
  rcases l with rfl | ⟨a, vs, n, rfl⟩
  · exact Go.refl R
  · exact Go.tup R n
theorem drop_cons {α : Type} {l : List α} {i : Nat} {d : α} (h : l[i]? = some d) : l.drop i = d :: l.drop (i + 1) := by
  obtain ⟨hi, e⟩ := List.getElem?_eq_some_iff.mp h
  rw [List.drop_eq_getElem_cons hi, e]

structure CInv (T : Tc) (F : Fn) (elt : Ex) (tg : Tg) (ifs : To) (own : List Nat) (l fin : List D) (ρe : Env') (σ : Sg) (H1 : Hp) (ρb : Env') (W1 : AS) (Dl : Addr) (i : Nat) (H : Hp) : Prop where
  ex : ∃ (ρi : Env') (Wi : AS) (acc rest : List D) (va : List V), Rel T (wipe σ own) H (wipeR ρi own) Wi ∧ Step (wipe σ own) H1 (wipeR ρb own) W1 (wipe σ own) H (wipeR ρi own) Wi ∧ MonS (wipe σ own) (wipeR ρb own) (wipe σ own) (wipeR ρi own) ∧
    (∀ a, H a = none → H1 a = none) ∧ Lk (wipeR ρb own) (wipeR ρi own) ∧ H Dl = some (.lst va) ∧ Wi Dl ∧ (∀ j, ¬ OwnA (wipe σ own) (wipeR ρi own) j Dl) ∧ RepDs T.K H Wi va acc ∧
    mapR (turnF F elt tg ifs own) (l.drop i) ρi = .ok (rest, ρe) ∧ acc ++ rest = fin

theorem GoS.keepD {σ1 σ2 : Sg} (g : GoS T σ1 H1 ρ1 W1 σ2 H2 ρ2 W2) (m : MonS σ1 ρ1 σ2 ρ2) {a : Addr} {o : HO} (e : H1 a = some o) (w : W1 a) (n : ∀ j, ¬ OwnA σ1 ρ1 j a) : H2 a = some o ∧ W2 a ∧ ∀ j, ¬ OwnA σ2 ρ2 j a := by
  obtain ⟨h1, _, h3⟩ := g.step a o e fun i z => n i z.a
  exact ⟨h1, h3.mpr w, fun j z => n j (m j a z)⟩

/-- one turn -/
theorem comp_turn {elt : Ex} {tg : Tg} {ifs : To} {own : List Nat} {l fin : List D} {ρe : Env'} {Dl : Addr} {i : Nat} {d : D} (hb : ∀ i ∈ own, T.bm i = none) (htg : ∀ i ∈ tgs tg, i ∈ own) (hz : fin.length < sizeLine)
    (C : CInv T F elt tg ifs own l fin ρe σ H1 ρb W1 Dl i H) (hd : l[i]? = some d) {x : V} (ly : Lay H H') (rx : ∀ Wi ρi, Rel T (wipe σ own) H (wipeR ρi own) Wi → Step (wipe σ own) H1 (wipeR ρb own) W1 (wipe σ own) H (wipeR ρi own) Wi → RepD T.K H' Wi x d) {Nx : Hp → Prop}
    (hN : ∀ H, CInv T F elt tg ifs own l fin ρe σ H1 ρb W1 Dl (i + 1) H → Nx H) (nD : H1 Dl = none) :
    gT T.K tg x (wipe σ own) H' fun σ2 H2 => wipe σ2 own = wipe σ own ∧ tCl X T F Z0 ifs σ2 H2 fun b H3 =>
      if b = true then tE X T F Z0 elt σ2 H3 fun y H4 => ∃ acc, H4 Dl = some (.lst acc) ∧ acc.length < sizeLine ∧ Nx (upd H4 Dl (.lst (acc ++ [y]))) else Nx H3 := by
  obtain ⟨ρi, Wi, acc, rest, va, R, S, M, dom, lk, hD, wD, noD, ra, em, ef⟩ := C.ex
  have rd := rx Wi ρi R S
  rw [drop_cons hd] at em
  obtain ⟨⟨o, ρ3⟩, e1, em⟩ := bind_ok em
  obtain ⟨⟨rs, ρ4⟩, e2, em⟩ := bind_ok em
  cases em
  obtain ⟨ρ2, e3, e1⟩ := bind_ok e1
  obtain ⟨⟨c, ρ5⟩, e4, e1⟩ := bind_ok e1
  have e4 := quiet_ok e4
  have g0 := Lay.go R ly
  refine gT_ok g0.rel e3 rd fun σ2 g1 m1 same => ⟨?_, ?_⟩
  · have hl : σ2.length = σ.length := by
      have h1 := g1.rel.len
      have h2 := g0.rel.len
      rw [wipe_length] at h2
      have : ρ2.length = (wipeR ρi own).length := by
        have : ∀ {t : Tg} {d : D} {ρ ρ' : Env'}, asgT t d ρ = .ok ρ' → ρ'.length = ρ.length := by
          have p1 : ∀ {i : Nat} {d : D} {ρ ρ' : Env'}, putV i d ρ = .ok ρ' → ρ'.length = ρ.length := fun {i d ρ ρ'} e => by
            unfold putV at e
            split at e
            · cases e; simp
            · cases e
          have p2 : ∀ {is : List Nat} {ds : List D} {ρ ρ' : Env'}, putVs is ds ρ = .ok ρ' → ρ'.length = ρ.length := by
            intro is
            induction is with
            | nil => intro ds ρ ρ' e; cases ds <;> cases e; rfl
            | cons i is ih =>
              intro ds ρ ρ' e
              cases ds with
              | nil => cases e
              | cons d ds =>
                obtain ⟨ρ1, e1, e2⟩ := bind_ok (show (putV i d ρ).bind (putVs is ds) = .ok ρ' from e)
                rw [ih e2, p1 e1]
          intro t d ρ ρ' e
          unfold asgT at e
          split at e
          · exact p1 e
          · exact p2 e
          · cases e
        exact this e3
      rw [← h1, this, h2]
    rw [← wipe_wipe (σ := σ)]
    refine wipe_eq (by rw [wipe_length, hl]) fun j hj => same j ?_
    cases tg with
    | nm k => exact fun z => hj (by rw [z]; exact htg k (by simp [tgs]))
    | tp l => exact fun z => hj (htg j z)
  · have hlw : wipe σ2 own = wipe σ own → True := fun _ => trivial
    refine ⟨ρ2, Wi, g1.rel, ?_⟩
    rw [e4]
    intro H3 W3 g2
    have gS := (g0.s.trans g1).trans g2.s
    have mS : MonS (wipe σ own) (wipeR ρi own) σ2 ρ5 := fun j a h => m1 j a (g2.mon j a h)
    obtain ⟨hD3, wD3, noD3⟩ := gS.keepD mS hD wD noD
    have weq : wipe σ2 own = wipe σ own := by
      rw [← wipe_wipe (σ := σ)]
      have hl : σ2.length = (wipe σ own).length := by
        have h1 := g1.rel.len
        have h2 := g0.rel.len
        have : ρ2.length = (wipeR ρi own).length := by
          have p1 : ∀ {i : Nat} {d : D} {ρ ρ' : Env'}, putV i d ρ = .ok ρ' → ρ'.length = ρ.length := fun {i d ρ ρ'} e => by
            unfold putV at e
            split at e
            · cases e; simp
            · cases e
          have p2 : ∀ {is : List Nat} {ds : List D} {ρ ρ' : Env'}, putVs is ds ρ = .ok ρ' → ρ'.length = ρ.length := by
            intro is
            induction is with
            | nil => intro ds ρ ρ' e; cases ds <;> cases e; rfl
            | cons i is ih =>
              intro ds ρ ρ' e
              cases ds with
              | nil => cases e
              | cons d ds =>
                obtain ⟨ρ1, e1, e2⟩ := bind_ok (show (putV i d ρ).bind (putVs is ds) = .ok ρ' from e)
                rw [ih e2, p1 e1]
          unfold asgT at e3
          split at e3
          · exact p1 e3
          · exact p2 e3
          · cases e3
        omega
      refine wipe_eq hl fun j hj => same j ?_
      cases tg with
      | nm k => exact fun z => hj (by rw [z]; exact htg k (by simp [tgs]))
      | tp l => exact fun z => hj (htg j z)
    cases c with
    | false =>
      rw [if_neg (by simp)]
      cases e1
      refine hN H3 ⟨ρ5, W3, acc, rs, va, ?_, ?_, ?_, fun a h => dom a (gS.dom a h), ?_, hD3, wD3, ?_, ra.adv R.wl (gS.step.adv R), e2, ef⟩
      · rw [← weq]; exact wipe_rel gS.rel hb
      · rw [← weq]; rw [weq] ; exact S.trans (gS.step.trans (by rw [← weq]; exact wipe_step))
      · have := M.trans (mS.trans (wipe_mon (vs := own)))
        rw [weq] at this; exact this
      · intro j b x h
        have hn : j ∉ own := fun z => wipeR_in z h
        have h1 := (gS.lk j b x (lk j b x h)).1
        rw [wipeR_get hn]; exact h1
      · intro j z
        rw [← weq] at z
        exact noD3 j (wipe_own.mp z).1
    | true =>
      rw [if_pos rfl]
      obtain ⟨⟨p, ρ6⟩, e5, e1⟩ := bind_ok e1
      have e5 := quiet_ok e5
      obtain ⟨⟨y, ρ7⟩, e6, e1⟩ := bind_ok e1
      cases e1
      refine ⟨ρ5, W3, g2.rel, ?_⟩
      rw [e5]
      intro v H4 W4 o4
      obtain ⟨W5, g5, r5⟩ := o4.data (of_ok e6)
      have gS5 := gS.trans g5.s
      have mS5 : MonS (wipe σ own) (wipeR ρi own) σ2 ρ7 := fun j a h => mS j a (g5.mon j a h)
      obtain ⟨hD5, wD5, noD5⟩ := gS5.keepD mS5 hD wD noD
      have ra5 : RepDs T.K H4 W5 va acc := ra.adv R.wl (gS5.step.adv R)
      have lenv : va.length < sizeLine := by
        rw [ra.length]
        have := congrArg List.length ef
        rw [List.length_append] at this
        omega
      refine ⟨va, hD5, lenv, hN _ ?_⟩
      have q5 : RepO T.K H4 W5 (.lst (va ++ [v])) (.lst (acc ++ [y])) := ⟨_, rfl, ra5.append (RepDs.one r5)⟩
      have R6 := mut_tmp gS5.rel hD5 wD5 noD5 q5
      have ad6 : Adv H4 W5 (upd H4 Dl (.lst (va ++ [v]))) W5 := fun b u e w => ⟨by rw [upd_ne (fun z => w (by rw [z]; exact wD5))]; exact e, w⟩
      refine ⟨ρ7, W5, acc ++ [y], rs, va ++ [v], ?_, ?_, ?_, fun a h => ?_, ?_, upd_same, wD5, ?_, (ra5.append (RepDs.one r5)).adv gS5.rel.wl ad6, e2, by rw [List.append_assoc]; exact ef⟩
      · rw [← weq]; exact wipe_rel R6 hb
      · intro b u hbu nb
        have ne : b ≠ Dl := fun z => by rw [z, nD] at hbu; cases hbu
        obtain ⟨h1, n1, w1⟩ := S b u hbu nb
        obtain ⟨h2, n2, w2⟩ := gS5.step b u h1 n1
        refine ⟨by rw [upd_ne ne]; exact h2, fun j z => ?_, w2.trans w1⟩
        rw [← weq] at z
        exact n2 j (wipe_ownU.mp z).1
      · have := M.trans (mS5.trans (wipe_mon (vs := own)))
        rw [weq] at this; exact this
      · by_cases ea : a = Dl
        · subst ea; rw [upd_same] at h; cases h
        · rw [upd_ne ea] at h; exact dom a (gS5.dom a h)
      · intro j b x h
        have hn : j ∉ own := fun z => wipeR_in z h
        have h1 := (gS5.lk j b x (lk j b x h)).1
        rw [wipeR_get hn]; exact h1
      · intro j z
        rw [← weq] at z
        exact noD5 j (wipe_own.mp z).1
/-- a comprehension's reading -/
theorem comp_tLc (tk : T.K = X.K) {elt : Ex} {tg : Tg} {it : Ie} {ifs : To} {own : List Nat} (hb : ∀ i ∈ own, T.bm i = none) (htg : ∀ i ∈ tgs tg, i ∈ own) {Q : VK} (h : tE X T F Z (.comp elt tg it ifs own) σ H Q) :
    tLc (tI X T F Z it) (gT X.K tg) (tCl X T F Z0 ifs) (tE X T F Z0 elt) own σ H Q := by
  obtain ⟨ρ, W, R, h⟩ := h
  refine ⟨ρ, W, R, (Post.bind h).imp fun lp ρ1 h J H1 W1 g1 feed Dl nD => ?_⟩
  obtain ⟨l, p⟩ := lp
  dsimp only at h feed
  -- the turns
  have noerr : ∀ {ds : List D} {ρ : Env'}, NoErr (mapR (turnF F elt tg ifs own) ds ρ) := by
    intro ds
    induction ds with
    | nil => intro ρ; exact .ok
    | cons d ds ih =>
      intro ρ
      refine .bind ?_ fun _ => .bind ih fun _ => .ok
      refine .bind .asgT fun _ => .bind .quiet fun c => ?_
      split
      · exact .bind .quiet fun _ => .bind .of fun _ => .ok
      · exact .ok
  obtain ⟨⟨fin, ρe⟩, em, h⟩ := Post.val noerr h
  obtain ⟨ρ', eu, h⟩ := Post.val .unlock h
  obtain ⟨hz, h⟩ := Post.need h
  have gl := lock_go g1.rel p
  have Rb := gl.rel
  -- the new list is laid
  have o1 := Out.own Rb nD (d := .lst []) (o := .lst []) ⟨[], rfl, rfl⟩
  have nO : ∀ j, ¬ OwnA (wipe σ own) (wipeR (lockP p ρ1).2 own) j Dl := fun j z => by
    obtain ⟨_, u, e, _⟩ := Rb.ownA (wipe_own.mp z).1
    rw [nD] at e; cases e
  have idem : ∀ {ρ : Env'}, wipeR (wipeR ρ own) own = wipeR ρ own := fun {ρ} => by
    apply List.ext_getElem?
    intro i
    by_cases hm : i ∈ own
    · have h1 : ∀ ρ : Env', ρ.length = (wipeR ρ own).length := fun ρ => (wipeR_len own).symm
      have key : ∀ (ρ : Env') (s : S), (wipeR ρ own)[i]? ≠ some (some s) := fun ρ s => wipeR_in hm
      have a1 : (wipeR (wipeR ρ own) own)[i]? = if i < ρ.length then some none else none := by
        by_cases z : i < ρ.length
        · rw [if_pos z]
          have hl : i < (wipeR (wipeR ρ own) own).length := by rw [wipeR_len, wipeR_len]; exact z
          rw [List.getElem?_eq_getElem hl]
          cases q : (wipeR (wipeR ρ own) own)[i] with
          | none => rfl
          | some s => exact absurd (by rw [List.getElem?_eq_getElem hl, q]) (key (wipeR ρ own) s)
        · rw [if_neg z, List.getElem?_eq_none (by rw [wipeR_len, wipeR_len]; omega)]
      have a2 : (wipeR ρ own)[i]? = if i < ρ.length then some none else none := by
        by_cases z : i < ρ.length
        · rw [if_pos z]
          have hl : i < (wipeR ρ own).length := by rw [wipeR_len]; exact z
          rw [List.getElem?_eq_getElem hl]
          cases q : (wipeR ρ own)[i] with
          | none => rfl
          | some s => exact absurd (by rw [List.getElem?_eq_getElem hl, q]) (key ρ s)
        · rw [if_neg z, List.getElem?_eq_none (by rw [wipeR_len]; omega)]
      rw [a1, a2]
    · rw [wipeR_get hm]
  have start : CInv T F elt tg ifs own l fin ρe σ H1 (lockP p ρ1).2 W1 Dl 0 (upd H1 Dl (.lst [])) := by
    refine ⟨wipeR (lockP p ρ1).2 own, (fun x => W1 x ∨ x = Dl), [], fin, [], ?_, ?_, fun _ _ z => (by rw [idem] at z; exact z), o1.go.dom, by rw [idem]; exact .refl, upd_same, .inr rfl, by rw [idem]; exact nO, rfl, em, rfl⟩
    · rw [idem]; exact wipe_rel o1.go.rel hb
    · rw [idem]
      intro b u hbu nb
      have ne : b ≠ Dl := fun z => by rw [z, nD] at hbu; cases hbu
      exact ⟨by rw [upd_ne ne]; exact hbu, nb, ⟨fun z => z.elim id fun e => absurd e ne, .inl⟩⟩
  have tkk : gT X.K tg = gT T.K tg := by rw [tk]
  refine ⟨fun i m H => m = l.length - i ∧ i ≤ l.length ∧ CInv T F elt tg ifs own l fin ρe σ H1 (lockP p ρ1).2 W1 Dl i H, ⟨_, rfl, Nat.zero_le _, start⟩, ?_⟩
  rintro i m H2 ⟨rfl, hi, C⟩
  have feedAt : ∀ Wi ρi, Rel T (wipe σ own) H2 (wipeR ρi own) Wi → Step (wipe σ own) H1 (wipeR (lockP p ρ1).2 own) W1 (wipe σ own) H2 (wipeR ρi own) Wi →
      (∀ (i : Nat) (d : D), l[i]? = some d → J.go i H2 ∧ ∀ x H3, J.yld i H2 x H3 → Lay H2 H3 ∧ RepD T.K H3 Wi x d) ∧ J.stop l.length H2 := fun Wi ρi Ri Si =>
    feed _ _ _ _ Ri (Step.trans (σ := σ) (ρ := (lockP p ρ1).2) (wipe_step (vs := own)) Si)
  obtain ⟨ρi, Wi, acc, rest, va, Ri, Si, Mi, domi, lki, hD, wD, noD, ra, emi, ef⟩ := id C.ex
  by_cases hlt : i < l.length
  · have hd : l[i]? = some l[i] := List.getElem?_eq_getElem hlt
    refine .inr ⟨((feedAt Wi ρi Ri Si).1 i _ hd).1, CInv T F elt tg ifs own l fin ρe σ H1 (lockP p ρ1).2 W1 Dl (i + 1), fun H' c => ⟨l.length - (i + 1), by omega, rfl, hlt, c⟩, fun x H' y => ?_⟩
    rw [tkk]
    exact comp_turn hb htg hz C hd (((feedAt Wi ρi Ri Si).1 i _ hd).2 x H' y).1 (fun W' ρ' R' S' => (((feedAt W' ρ' R' S').1 i _ hd).2 x H' y).2) (fun _ c => c) nD
  · have e : i = l.length := by omega
    subst e
    refine .inl ⟨(feedAt Wi ρi Ri Si).2, ?_⟩
    rw [List.drop_length] at emi
    cases emi
    rw [List.append_nil] at ef
    subst ef
    obtain ⟨Rf, Sf, Mf, Lf⟩ := back_rel Rb hb Ri Si Mi domi lki
    have Ru := unlock_rel Rf eu
    obtain ⟨ow, _, _⟩ := unlock_own (σ := σ) eu
    have Su := unlock_step g1.rel Sf eu fun _ _ _ _ => rfl
    have Lu := unlock_lk Lf eu
    have noD2 : ∀ j, ¬ OwnA σ ρ' j Dl := fun j z => by
      have z1 := Mf j Dl ((ow j Dl).mp z)
      obtain ⟨_, u, e, _⟩ := Rb.ownA z1
      rw [nD] at e; cases e
    refine h _ _ Wi ⟨⟨Ru, g1.step.trans Su, fun j a z => g1.mon j a (gl.mon j a (Mf j a ((ow j a).mp z))), fun a z => g1.dom a (domi a z), g1.lk.trans Lu⟩, ⟨Dl, _, rfl, hD, wD, noD2, Rb.fzk Dl nD, _, rfl, ra⟩, fun _ _ a e => by cases e; exact g1.dom _ nD⟩
end
end Dv

set_option Elab.async false
set_option linter.all false
set_option maxRecDepth 100000
namespace Dv
open PySem PySem.Spec PyProof.Rows L2

/-! ### the text is what the tree says -/
/-- what is known of a module: free names, names of built-in functions, defs (parameters, least arguments); the number of parameters of the def at hand -/
structure Gn where
  free : List Str
  bt : List (Str × String)
  fs : List (Str × Nat × Nat)
structure Env1 (X : Cx) (T : Tc) (F : Fn) (Z : WX) (G : Gn) (np : Nat) : Prop where
  tk : T.K = X.K
  calm : X.calm = true
  nd : X.N.Nodup
  hu : X.A.units + 65 < cLine
  glo : ∀ x d, F.glo x = some d → ∃ u v, X.mg x = some u ∧ RelV v u ∧ ∀ H W, RepD X.K H W v d
  free : ∀ x ∈ G.free, X.mg x = none
  bt : ∀ p ∈ G.bt, X.mg p.1 = some (.builtin p.2)
  fs : ∀ p ∈ G.fs, Callee X F p.1 p.2.1 p.2.2
  tz : Takes X Z
  bm : ∀ i a, T.bm i = some a → i < np
def isVis (sc : Scope) (x : Str) : Bool := match sc.names.lookup x with
  | some .local => true
  | some .cell => true
  | some .free => true
  | _ => false
def isLoc (sc : Scope) (x : Str) : Bool := match sc.names.lookup x with
  | some .local => true
  | some .cell => true
  | _ => false
def isGl (sc : Scope) (x : Str) : Bool := match sc.names.lookup x with
  | some .globalImplicit => true
  | _ => false
def okName (x : Str) : Bool := !(x == ("__debug__" : Str)) && !(x == ("__classdict__" : Str)) && !(x == ("__name__" : Str))
def notStar : Expr → Bool
  | .Starred _ _ => false
  | _ => true
def notSlice : Expr → Bool
  | .Slice _ _ _ _ => false
  | _ => true
def notSet : Expr → Bool
  | .Set _ _ _ => false
  | _ => true
/-- an expression whose test is its value's truth -/
def plainTest : Expr → Bool
  | .UnaryOp .Not _ _ => false
  | .BoolOp _ _ _ => false
  | .IfExp _ _ _ _ => false
  | .Compare _ _ _ _ => false
  | _ => true
def notSuper : Expr → Bool
  | .Call _ _ _ _ => false
  | _ => true
def isName (x : Str) : Expr → Bool
  | .Name y _ => decide (x = y)
  | _ => false
def cstOk : D → Const → Bool
  | .int i, .int j => decide (i = j)
  | .bl b, .bool c => b == c
  | .non, .none => true
  | .str x, .str y => decide (x = y)
  | _, _ => false
def opEq : Operator → Operator → Bool
  | .Add, .Add => true | .Sub, .Sub => true | .Mult, .Mult => true | .FloorDiv, .FloorDiv => true | .Mod, .Mod => true | .Pow, .Pow => true | .LShift, .LShift => true
  | _, _ => false
def cmEq : CmpOp → CmpOp → Bool
  | .Eq, .Eq => true | .NotEq, .NotEq => true | .Lt, .Lt => true | .LtE, .LtE => true | .Gt, .Gt => true | .GtE, .GtE => true | .Is, .Is => true | .IsNot, .IsNot => true | .In, .In => true | .NotIn, .NotIn => true
  | _, _ => false
def Bl.nm : Bl → Str
  | .len => "len" | .abs => "abs" | .int => "int" | .tuple => "tuple" | .list => "list" | .all => "all" | .any => "any" | .sum => "sum" | .gcd => "gcd" | .min2 => "min" | .max2 => "max" | .str => "str"
def Ty.sn : Ty → Str
  | .tup => "tuple" | .lst => "list" | .int => "int" | .str => "str" | .bool => "bool"
def ckTg (N : List Str) (sc : Scope) : Tg → Expr → Bool
  | .nm i, .Name x _ => decide (N[i]? = some x) && isLoc sc x
  | .tp l, .Tuple es _ _ => l.length == es.length && (l.zip es).all fun p => match p.2 with
    | .Name x _ => decide (N[p.1]? = some x) && isLoc sc x
    | _ => false
  | _, _ => false

def asCall : Expr → Option (Str × List Expr)
  | .Call (.Name x _) l [] _ => some (x, l)
  | _ => none
def isTup : Expr → Bool
  | .Tuple _ _ _ => true
  | _ => false
def ckB (G : Gn) (b : Bl) (x : Str) : Bool := match b with
  | .gcd => decide ((x, "math.gcd") ∈ G.bt)
  | _ => decide (x ∈ G.free)
mutual
def ckE (G : Gn) (N : List Str) (np : Nat) (sc : Scope) : Ex → Expr → Bool
  | .var i, .Name x _ => decide (N[i]? = some x) && isVis sc x && okName x
  | .cst d, .Constant c _ _ => cstOk d c
  | .glo x, .Name y _ => decide (x = y) && isGl sc x && okName x
  | .bin op a b, .BinOp a' op' b' _ => opEq op op' && ckE G N np sc a a' && ckE G N np sc b b'
  | .neg a, .UnaryOp .USub a' _ => ckE G N np sc a a'
  | .cmp op a b, .Compare a' [op'] [b'] _ => cmEq op op' && notSet b' && ckE G N np sc a a' && ckE G N np sc b b'
  | .chn op o2 a b c, .Compare a' [op', o2'] [b', c'] _ => cmEq op op' && cmEq o2 o2' && notSet c' && ckE G N np sc a a' && ckE G N np sc b b' && ckE G N np sc c c'
  | .and_ l, .BoolOp .And l' _ => !l'.isEmpty && ckEs G N np sc l l'
  | .or_ l, .BoolOp .Or l' _ => !l'.isEmpty && ckEs G N np sc l l'
  | .not_ a, .UnaryOp .Not a' _ => ckE G N np sc a a'
  | .ite c a b, .IfExp c' a' b' _ => ckT G N np sc c c' && ckE G N np sc a a' && ckE G N np sc b b'
  | .tup l, .Tuple l' _ _ => ckEs G N np sc l l'
  | .lst l, .List l' _ => ckEs G N np sc l l'
  | .idx a b, .Subscript a' b' _ => notSlice b' && ckE G N np sc a a' && ckE G N np sc b b'
  | .slc a lo hi, .Subscript a' (.Slice lo' hi' none _) _ => ckE G N np sc a a' && ckO G N np sc lo lo' && ckO G N np sc hi hi'
  | .call f l, .Call (.Name x _) l' [] _ => decide (f = x) && isGl sc x && okName x && (G.fs.any fun p => decide (p.1 = f) && decide (p.2.2 ≤ l'.length) && decide (l'.length ≤ p.2.1)) && ckEs G N np sc l l'
  | .blt b l, .Call (.Name x _) l' [] _ => decide (x = b.nm) && isGl sc x && ckB G b x && !l'.isEmpty && ckEs G N np sc l l'
  | .isi t a, e' => (match asCall e' with
    | some (x, [a', .Name y _]) => decide (x = "isinstance") && isGl sc x && decide (y = t.sn) && isGl sc y && decide (x ∈ G.free) && decide (y ∈ G.free) && notStar a' && ckE G N np sc a a'
    | _ => false)
  | .met m o l, .Call (.Attribute o' x apos) l' [] pos => decide (x = m.nm) && notSuper o' && apos.endLine == pos.line && !l'.isEmpty && decide (l'.length < 28) && ckE G N np sc o o' && ckEs G N np sc l l'
  | .chg m i l, .Call (.Attribute (.Name y _) x apos) l' [] pos => decide (x = m.nm) && decide (N[i]? = some y) && isVis sc y && okName y && apos.endLine == pos.line && decide (l'.length < 28) && (match m, l' with
    | .pop, [] => true
    | .pop, _ => false
    | _, [] => false
    | _, _ => true) && ckEs G N np sc l l'
  | .comp elt tg it ifs own, .ListComp elt' [⟨tg', it', ifs', as⟩] scope _ => decide (as = 0) && ckI G N np sc it it' tg' && notSet it' && blkC N sc scope (own.map fun i => (N.getD i ⟨#[]⟩, i)) && (own.all fun i => decide (np ≤ i)) && ((tgs tg).all fun i => decide (i ∈ own)) &&
      ckTg N scope tg tg' && ckC G N np (relS scope sc) ifs ifs' && ckE G N np (relS scope sc) elt elt'
  | _, _ => false
def ckEs (G : Gn) (N : List Str) (np : Nat) (sc : Scope) : Exs → List Expr → Bool
  | .nil, [] => true
  | .cons e l, e' :: l' => notStar e' && ckE G N np sc e e' && ckEs G N np sc l l'
  | _, _ => false
def ckO (G : Gn) (N : List Str) (np : Nat) (sc : Scope) : Eo → Option Expr → Bool
  | .none, none => true
  | .some e, some e' => ckE G N np sc e e'
  | _, _ => false
def ckT (G : Gn) (N : List Str) (np : Nat) (sc : Scope) : Tx → Expr → Bool
  | .val e, e' => plainTest e' && ckE G N np sc e e'
  | .cmp op a b, .Compare a' [op'] [b'] _ => cmEq op op' && notSet b' && ckE G N np sc a a' && ckE G N np sc b b'
  | .and_ l, .BoolOp .And l' _ => !l'.isEmpty && ckTs G N np sc l l'
  | .or_ l, .BoolOp .Or l' _ => !l'.isEmpty && ckTs G N np sc l l'
  | .not_ t, .UnaryOp .Not t' _ => ckT G N np sc t t'
  | _, _ => false
def ckTs (G : Gn) (N : List Str) (np : Nat) (sc : Scope) : Txs → List Expr → Bool
  | .nil, [] => true
  | .cons e l, e' :: l' => ckT G N np sc e e' && ckTs G N np sc l l'
  | _, _ => false
def ckC (G : Gn) (N : List Str) (np : Nat) (sc : Scope) : To → List Expr → Bool
  | .none, [] => true
  | .some t, [t'] => ckT G N np sc t t'
  | _, _ => false
def ckI (G : Gn) (N : List Str) (np : Nat) (sc : Scope) : Ie → Expr → Expr → Bool
  | .seq e, e', _ => ckE G N np sc e e'
  | .rng a, e', _ => (match asCall e' with
    | some (x, [a']) => decide (x = "range") && isGl sc x && decide (x ∈ G.free) && notStar a' && ckE G N np sc a a'
    | _ => false)
  | .rng2 a b, e', _ => (match asCall e' with
    | some (x, [a', b']) => decide (x = "range") && isGl sc x && decide (x ∈ G.free) && notStar a' && notStar b' && ckE G N np sc a a' && ckE G N np sc b b'
    | _ => false)
  | .enm e, e', tg' => isTup tg' && (match asCall e' with
    | some (x, [a']) => decide (x = "enumerate") && isGl sc x && decide (x ∈ G.free) && notStar a' && ckE G N np sc e a'
    | _ => false)
  | .zip l, e', tg' => isTup tg' && (match asCall e' with
    | some (x, l') => decide (x = "zip") && isGl sc x && decide (x ∈ G.free) && l'.length == 2 && ckEs G N np sc l l'
    | _ => false)
end
end Dv

set_option Elab.async false
set_option linter.all false
set_option maxRecDepth 100000
namespace Dv
open PySem PySem.Spec PyProof.Rows L2

section
variable {X : Cx} {Z : WX} {T : Tc} {F : Fn} {G : Gn} {np : Nat} {σ σ' : Sg} {H H0 H1 H2 H' : Hp} {ρ ρ1 ρ2 ρ' ρf ρb ρq : Env'} {W W1 W2 W' : AS} {K : PySem.W.Frag} {ds : List D} {sc : Scope} {N : List Str}
theorem and2 {a b : Bool} (h : (a && b) = true) : a = true ∧ b = true := Bool.and_eq_true_iff.mp h
theorem not_f {a : Bool} (h : (!a) = true) : a = false := by cases a <;> simp_all
theorem vis_of {x : Str} (h : isVis sc x = true) : Vis sc x := by
  unfold isVis at h
  split at h <;> first | (rename_i e; exact .inl e) | (rename_i e; exact .inr (.inl e)) | (rename_i e; exact .inr (.inr e)) | cases h
theorem gl_of {x : Str} (h : isGl X.env.scope x = true) : Gl X x := by
  unfold isGl at h
  split at h
  · rename_i e; exact e
  · cases h
theorem name_of {x : Str} (h : okName x = true) : (x == ("__debug__" : Str)) = false ∧ (x == ("__classdict__" : Str)) = false ∧ x ≠ "__name__" := by
  obtain ⟨h1, h2⟩ := and2 h
  obtain ⟨h3, h4⟩ := and2 h1
  exact ⟨not_f h3, not_f h4, fun e => by rw [e] at h2; exact absurd (not_f h2) (by decide +kernel)⟩
theorem star_of {a : Expr} {l : List Expr} {env : Env} (h : notStar a = true) : starEach (a :: l) env = (false, eval a env) :: starEach l env := by
  cases a <;> first | rfl | cases h
theorem stars_of : ∀ {l : List Expr} {env : Env}, (∀ a ∈ l, notStar a = true) → starEach l env = l.map fun a => (false, eval a env)
  | [], _, _ => rfl
  | a :: l, env, h => by rw [star_of (h a List.mem_cons_self), stars_of fun b hb => h b (List.mem_cons_of_mem _ hb)]; rfl
theorem plain_of {l : List Expr} {env : Env} {pos : Pos} (h : ∀ a ∈ l, notStar a = true) : (backTo pos (starEach l env)).any (·.1) = false := by
  rw [stars_of h]
  unfold backTo
  induction l with
  | nil => rfl
  | cons a l ih =>
    rw [List.map_cons, List.map_cons, List.any_cons, ih fun b hb => h b (List.mem_cons_of_mem _ hb)]
    rfl
theorem few_of {l : List Expr} {env : Env} {pos : Pos} (h : ∀ a ∈ l, notStar a = true) (hl : l.length < 28) :
    ((backTo pos (starEach l env)).all (fun x => !x.1) && (backToKw pos (keywordEach [] env)).all (fun x => x.1.isSome) && decide (l.length + ([] : List Keyword).length + (if ([] : List Keyword).isEmpty then 0 else 1) < 30)) = true := by
  have h1 : (backTo pos (starEach l env)).all (fun x => !x.1) = true := by
    have := plain_of (env := env) (pos := pos) h
    rw [List.all_eq_not_any_not]
    simp only [Bool.not_not]
    rw [this]; rfl
  rw [h1]
  have h2 : (backToKw pos (keywordEach [] env)).all (fun x => x.1.isSome) = true := rfl
  rw [h2]
  simp
  omega
theorem ckEs_star : ∀ {l : Exs} {l' : List Expr}, ckEs G N np sc l l' = true → ∀ a ∈ l', notStar a = true
  | .nil, [], _, _, h => by cases h
  | .cons e l, e' :: l', h, a, ha => by
    obtain ⟨h1, h2⟩ := and2 h
    obtain ⟨h3, h4⟩ := and2 h1
    rcases List.mem_cons.mp ha with rfl | ha
    · exact h3
    · exact ckEs_star h2 a ha
  | .nil, _ :: _, h, _, _ => by cases h
  | .cons _ _, [], h, _, _ => by cases h
theorem evs_length : ∀ {l : Exs} {l' : List Expr} {ρ : Env'} {ps : List P} {ρ' : Env'}, ckEs G N np sc l l' = true → evs F l ρ = .ok (ps, ρ') → ps.length = l'.length
  | .nil, [], _, _, _, _, e => by cases e; rfl
  | .cons e l, e' :: l', ρ, ps, ρ', h, q => by
    obtain ⟨h1, h2⟩ := and2 h
    obtain ⟨⟨p, ρ1⟩, e1, q⟩ := bind_ok (show (ev F e ρ).bind (fun r => (evs F l r.2).bind fun q => .ok (r.1 :: q.1, q.2)) = .ok (ps, ρ') from q)
    obtain ⟨⟨ps2, ρ2⟩, e2, q⟩ := bind_ok q
    cases q
    rw [List.length_cons, List.length_cons, evs_length h2 e2]
  | .nil, _ :: _, _, _, _, h, _ => by cases h
  | .cons _ _, [], _, _, _, h, _ => by cases h
theorem true_of {a : Expr} {env : Env} (h : plainTest a = true) : ∀ whole, isTrue a env whole = (do let v ← whole; standAt a.pos; holding [v] (truthy v)) := by
  cases a with
  | UnaryOp op x p => cases op <;> first | (intro _; rfl) | cases h
  | _ => first | (intro _; rfl) | cases h
theorem base_of {a : Expr} {n : Str} {env : Env} (h : notSuper a = true) : attributeBase a n env (eval a env) = eval a env := by
  cases a <;> first | rfl | cases h
theorem marks_of {b : Expr} {op : CmpOp} (h : notSet b = true) : behindInMarks op b = false := by
  cases b <;> first | rfl | cases h
theorem fold_of {a : Expr} {env : Env} (h : notSet a = true) : ∀ x, foldedSetIterable a env x = pure x := by
  cases a <;> first | (intro _; rfl) | cases h
theorem ix_of {b : Expr} (h : notSlice b = true) : PlainIx b := by
  cases b <;> first | (intro _ _; rfl) | cases h
theorem cm_of {a b : CmpOp} (h : cmEq a b = true) : a = b := by cases a <;> cases b <;> first | rfl | cases h
theorem op_of {a b : Operator} (h : opEq a b = true) : a = b := by cases a <;> cases b <;> first | rfl | cases h

/-- a comprehension's block -/
theorem Env1.blk (E : Env1 X T F Z G np) (s : Shared) (H : Hp) (scope : Scope) (cenv : Env) (fp : List Addr) : Env1 (X.blk s H scope cenv fp) T F Z0 G np :=
  ⟨E.tk, E.calm, E.nd, E.hu, E.glo, E.free, E.bt, fun p hp => ⟨(E.fs p hp).ex⟩, takes0, E.bm⟩
/-- the targets -/
theorem tg_ok (hc : X.calm = true) (hN : X.N.Nodup) {tg : Tg} {tg' : Expr} (hl : ∀ x, isLoc sc x = true → Loc X.env.scope x ∧ (X.fn x = true ∨ X.env.scope.names.lookup x = some .local)) (h : ckTg X.N sc tg tg' = true) : PG X tg' (gT X.K tg) := by
  cases tg with
  | nm i =>
    cases tg' with
    | Name x pos =>
      obtain ⟨h1, h2⟩ := and2 h
      obtain ⟨a, b⟩ := hl x h2
      exact pg_name hN (of_decide_eq_true h1) a b
    | _ => cases h
  | tp l =>
    cases tg' with
    | Tuple es k pos =>
      obtain ⟨h1, h2⟩ := and2 h
      have key : ∀ {l : List Nat} {es : List Expr}, l.length = es.length → ((l.zip es).all fun p => match p.2 with
          | .Name x _ => decide (X.N[p.1]? = some x) && isLoc sc x
          | _ => false) = true → PGs X es (gNames l) ∧ (assignEach es X.env).length = l.length ∧ (assignEach es X.env).findIdx? (·.1) = none := by
        intro l
        induction l with
        | nil =>
          intro es e _
          cases es with
          | nil => exact ⟨pgs_nil, rfl, rfl⟩
          | cons _ _ => cases e
        | cons i l ih =>
          intro es e h
          cases es with
          | nil => cases e
          | cons a es =>
            rw [List.zip_cons_cons, List.all_cons] at h
            obtain ⟨h1, h2⟩ := and2 h
            obtain ⟨q1, q2, q3⟩ := ih (by simpa using e) h2
            cases a with
            | Name x p =>
              obtain ⟨h3, h4⟩ := and2 h1
              obtain ⟨a, b⟩ := hl x h4
              refine ⟨pgs_cons (pg_name hN (of_decide_eq_true h3) a b) q1, ?_, ?_⟩
              · show (assignEach es X.env).length + 1 = l.length + 1
                rw [q2]
              · show ((false, _) :: assignEach es X.env).findIdx? (·.1) = none
                rw [List.findIdx?_cons, q3]
                rfl
            | _ => cases h1
      obtain ⟨q1, q2, q3⟩ := key (by simpa using h1) h2
      exact pg_tup hc q1 q2 q3
    | _ => cases h
theorem bl_name (b : Bl) (ng : b ≠ .gcd) : (∃ id, b.f = .builtin id ∧ bootBuiltins b.nm = some (.builtin id)) ∨ ∃ t, b.f = .type t ∧ bootBuiltins b.nm = some (.type t) := by
  cases b with
  | gcd => exact absurd rfl ng
  | int => exact .inr ⟨_, rfl, by decide +kernel⟩
  | tuple => exact .inr ⟨_, rfl, by decide +kernel⟩
  | list => exact .inr ⟨_, rfl, by decide +kernel⟩
  | str => exact .inr ⟨_, rfl, by decide +kernel⟩
  | _ => exact .inl ⟨_, rfl, by decide +kernel⟩
theorem bl_ok_name (b : Bl) : okName b.nm = true := by
  cases b <;> decide +kernel
theorem ty_ok_name (b : Ty) : okName b.sn = true := by cases b <;> decide +kernel
theorem ty_boot (b : Ty) : bootBuiltins b.sn = some (.type b.nm) := by cases b <;> decide +kernel
theorem Mm.facts : ∀ m : Mm, Slot "list" m.nm m.id ∧ typeOf (.builtin m.id) = pure (.type "method_descriptor") := fun m => by
  cases m with
  | append => exact ⟨PySem.F.slot_list_append, PySem.F.type_list_append⟩
  | pop => exact ⟨PySem.F.slot_list_pop, PySem.F.type_list_pop⟩
  | popAt => exact ⟨PySem.F.slot_list_pop, PySem.F.type_list_pop⟩
  | insert => exact ⟨PySem.F.slot_list_insert, PySem.F.type_list_insert⟩
theorem Me.facts : ∀ m : Me, PlainAttrs m.ty ∧ Slot m.ty m.nm m.id ∧ typeOf (.builtin m.id) = pure (.type "method_descriptor") := fun m => by
  cases m with
  | join => exact ⟨PySem.F.plainAttrs_str, PySem.F.slot_str_join, PySem.F.type_str_join⟩
  | split => exact ⟨PySem.F.plainAttrs_str, PySem.F.slot_str_split, PySem.F.type_str_split⟩
  | index => exact ⟨PySem.F.plainAttrs_list, PySem.F.slot_list_index, PySem.F.type_list_index⟩
theorem asCall_of {e : Expr} {x : Str} {l : List Expr} (h : asCall e = some (x, l)) : ∃ p pos, e = .Call (.Name x p) l [] pos := by
  unfold asCall at h
  split at h
  · cases h; exact ⟨_, _, rfl⟩
  · cases h
/-- a call of a built-in by its name -/
theorem call_bl {E : Env1 X T F Z G np} {b : Bl} {x : Str} {p pos : Pos} {e' : Expr} {l' : List Expr} {t : TA} (hx : x = b.nm) (hg : isGl X.env.scope x = true) (hb : ckB G b x = true) (ha : PA X (e' :: l') t) (st : ∀ a ∈ e' :: l', notStar a = true) :
    PE X (.Call (.Name x p) (e' :: l') [] pos) (tCB (rBl X.K b) t) := by
  subst hx
  obtain ⟨n1, n2, n3⟩ := name_of (bl_ok_name b)
  have he : starEach (e' :: l') X.env = (false, eval e' X.env) :: starEach l' X.env := star_of (st e' List.mem_cons_self)
  have hpl : (backTo pos (starEach l' X.env)).any (·.1) = false := plain_of fun a h => st a (List.mem_cons_of_mem _ h)
  have cr := cr_bl (X := X) E.calm b
  have hm : if b = .gcd then (b.nm, "math.gcd") ∈ G.bt else b.nm ∈ G.free := by
    cases b with
    | gcd => rw [if_pos rfl]; exact of_decide_eq_true hb
    | _ => rw [if_neg (by intro z; cases z)]; exact of_decide_eq_true hb
  by_cases eg : b = .gcd
  · subst eg
    rw [if_pos rfl] at hm
    exact pe_callBfun cr (gl_of hg) (E.bt _ hm) ha n1 he hpl
  · rw [if_neg eg] at hm
    rcases bl_name b eg with ⟨id, h1, h2⟩ | ⟨id, h1, h2⟩
    · rw [h1] at cr
      exact pe_callB cr (gl_of hg) (E.free _ hm) h2 ha n3 n1 he hpl
    · rw [h1] at cr
      exact pe_callTy cr (gl_of hg) (E.free _ hm) h2 ha n3 n1 he hpl
end
end Dv

set_option Elab.async false
set_option linter.all false
set_option maxRecDepth 100000
set_option maxHeartbeats 4000000
namespace Dv
open PySem PySem.Spec PyProof.Rows L2

section
variable {T : Tc} {F : Fn} {G : Gn} {np : Nat}
theorem cst_ok {X : Cx} {d : D} {c : Const} {k : Nat} {pos : Pos} (h : cstOk d c = true) : ∃ v, PE X (.Constant c k pos) (tC v) ∧ ∀ H W, RepD X.K H W v d := by
  cases d with
  | int i =>
    cases c with
    | int j => rw [of_decide_eq_true h]; exact ⟨_, pe_int, fun _ _ => rfl⟩
    | _ => first | cases h | simp [ckE, ckI, ckT, ckC] at h
  | bl b =>
    cases c with
    | bool j => rw [eq_of_beq h]; exact ⟨_, pe_bl, fun _ _ => rfl⟩
    | _ => first | cases h | simp [ckE, ckI, ckT, ckC] at h
  | non =>
    cases c with
    | none => exact ⟨_, pe_non, fun _ _ => rfl⟩
    | _ => first | cases h | simp [ckE, ckI, ckT, ckC] at h
  | str x =>
    cases c with
    | str y => rw [of_decide_eq_true h]; exact ⟨_, pe_str, fun _ _ => rfl⟩
    | _ => first | cases h | simp [ckE, ckI, ckT, ckC] at h
  | _ => cases c <;> cases h

mutual
theorem snd_E : ∀ (e : Ex) {X : Cx} {Z : WX} (E : Env1 X T F Z G np) {e' : Expr}, ckE G X.N np X.env.scope e e' = true → PE X e' (tE X T F Z e)
  | .var i, X, Z, E, e', h => by
    cases e' with
    | Name x p =>
      obtain ⟨h1, h2⟩ := and2 h
      obtain ⟨h3, h4⟩ := and2 h1
      obtain ⟨n1, n2, n3⟩ := name_of h2
      exact s_var (pe_var (of_decide_eq_true h3) (vis_of h4) n1 n2)
    | _ => first | cases h | simp [ckE, ckI, ckT, ckC] at h
  | .cst d, X, Z, E, e', h => by
    cases e' with
    | Constant c k p =>
      obtain ⟨v, p, q⟩ := cst_ok (X := X) (k := k) (pos := p) h
      exact s_cst d v _ p (by rw [E.tk]; exact q)
    | _ => first | cases h | simp [ckE, ckI, ckT, ckC] at h
  | .glo x, X, Z, E, e', h => by
    cases e' with
    | Name y p =>
      obtain ⟨h1, h2⟩ := and2 h
      obtain ⟨h3, h4⟩ := and2 h1
      obtain ⟨n1, n2, n3⟩ := name_of h2
      have hx : x = y := of_decide_eq_true h3
      subst hx
      refine s_glo fun d hd => ?_
      obtain ⟨u, v, m, r, q⟩ := E.glo x d hd
      exact ⟨v, pe_glob (gl_of h4) m r n1, by rw [E.tk]; exact q⟩
    | _ => first | cases h | simp [ckE, ckI, ckT, ckC] at h
  | .bin op a b, X, Z, E, e', h => by
    cases e' with
    | BinOp a' op' b' p =>
      obtain ⟨h1, h2⟩ := and2 h
      obtain ⟨h3, h4⟩ := and2 h1
      have ho : op = op' := op_of h3
      subst ho
      exact s_bin E.tk (snd_E a E h4) (snd_E b E h2)
    | _ => first | cases h | simp [ckE, ckI, ckT, ckC] at h
  | .neg a, X, Z, E, e', h => by
    cases e' with
    | UnaryOp op a' p =>
      cases op with
      | USub => exact s_neg (snd_E a E h)
      | _ => first | cases h | simp [ckE, ckI, ckT, ckC] at h
    | _ => first | cases h | simp [ckE, ckI, ckT, ckC] at h
  | .cmp op a b, X, Z, E, e', h => by
    cases e' with
    | Compare a' ops bs p =>
      rcases ops with _ | ⟨op', _ | ⟨o2, r⟩⟩
      · first | cases h | simp [ckE, ckI, ckT, ckC] at h
      · rcases bs with _ | ⟨b', _ | ⟨c', r⟩⟩
        · first | cases h | simp [ckE, ckI, ckT, ckC] at h
        · obtain ⟨h1, h2⟩ := and2 h
          obtain ⟨h3, h4⟩ := and2 h1
          obtain ⟨h5, h6⟩ := and2 h3
          have ho : op = op' := cm_of h5
          subst ho
          exact s_cmp E.tk E.hu (marks_of h6) (snd_E a E h4) (snd_E b E h2)
        · first | cases h | simp [ckE, ckI, ckT, ckC] at h
      · first | cases h | simp [ckE, ckI, ckT, ckC] at h
    | _ => first | cases h | simp [ckE, ckI, ckT, ckC] at h
  | .chn op o2 a b c, X, Z, E, e', h => by
    cases e' with
    | Compare a' ops bs p =>
      rcases ops with _ | ⟨op', _ | ⟨o2', _ | ⟨_, _⟩⟩⟩
      · first | cases h | simp [ckE, ckI, ckT, ckC] at h
      · first | cases h | simp [ckE, ckI, ckT, ckC] at h
      · rcases bs with _ | ⟨b', _ | ⟨c', _ | ⟨_, _⟩⟩⟩
        · first | cases h | simp [ckE, ckI, ckT, ckC] at h
        · first | cases h | simp [ckE, ckI, ckT, ckC] at h
        · obtain ⟨h1, h2⟩ := and2 h
          obtain ⟨h3, h4⟩ := and2 h1
          obtain ⟨h5, h6⟩ := and2 h3
          obtain ⟨h7, h8⟩ := and2 h5
          obtain ⟨h9, h10⟩ := and2 h7
          have ho : op = op' := cm_of h9
          have ho2 : o2 = o2' := cm_of h10
          subst ho ho2
          exact s_chn E.tk E.hu (marks_of h8) (snd_E a E h6) (snd_E b E h4) (snd_E c E h2)
        · first | cases h | simp [ckE, ckI, ckT, ckC] at h
      · first | cases h | simp [ckE, ckI, ckT, ckC] at h
    | _ => first | cases h | simp [ckE, ckI, ckT, ckC] at h
  | .and_ l, X, Z, E, e', h => by
    cases e' with
    | BoolOp op l' p =>
      cases op with
      | And =>
        obtain ⟨h1, h2⟩ := and2 h
        cases l' with
        | nil => cases h1
        | cons a' r => exact s_and ((snd_Bs l E h2).1 p)
      | Or => cases h
    | _ => first | cases h | simp [ckE, ckI, ckT, ckC] at h
  | .or_ l, X, Z, E, e', h => by
    cases e' with
    | BoolOp op l' p =>
      cases op with
      | Or =>
        obtain ⟨h1, h2⟩ := and2 h
        cases l' with
        | nil => cases h1
        | cons a' r => exact s_or ((snd_Bs l E h2).2 p)
      | And => cases h
    | _ => first | cases h | simp [ckE, ckI, ckT, ckC] at h
  | .not_ a, X, Z, E, e', h => by
    cases e' with
    | UnaryOp op a' p =>
      cases op with
      | Not => exact s_not (snd_E a E h)
      | _ => first | cases h | simp [ckE, ckI, ckT, ckC] at h
    | _ => first | cases h | simp [ckE, ckI, ckT, ckC] at h
  | .ite c a b, X, Z, E, e', h => by
    cases e' with
    | IfExp c' a' b' p =>
      obtain ⟨h1, h2⟩ := and2 h
      obtain ⟨h3, h4⟩ := and2 h1
      exact s_ite (snd_T c E h3) (snd_E a E h4) (snd_E b E h2)
    | _ => first | cases h | simp [ckE, ckI, ckT, ckC] at h
  | .tup l, X, Z, E, e', h => by
    cases e' with
    | Tuple l' k p => exact s_tup (snd_Es l E h)
    | _ => first | cases h | simp [ckE, ckI, ckT, ckC] at h
  | .lst l, X, Z, E, e', h => by
    cases e' with
    | List l' p => exact s_lst (snd_Es l E h)
    | _ => first | cases h | simp [ckE, ckI, ckT, ckC] at h
  | .idx a b, X, Z, E, e', h => by
    cases e' with
    | Subscript a' b' p =>
      obtain ⟨h1, h2⟩ := and2 (show (notSlice b' && ckE G X.N np X.env.scope a a' && ckE G X.N np X.env.scope b b') = true from h)
      obtain ⟨h3, h4⟩ := and2 h1
      exact s_idx E.tk (ix_of h3) (snd_E a E h4) (snd_E b E h2)
    | _ => first | cases h | simp [ckE, ckI, ckT, ckC] at h
  | .slc a lo hi, X, Z, E, e', h => by
    cases e' with
    | Subscript a' s p =>
      cases s with
      | Slice lo' hi' st p2 =>
        cases st with
        | none =>
          obtain ⟨h1, h2⟩ := and2 h
          obtain ⟨h3, h4⟩ := and2 h1
          exact s_slc E.tk (snd_E a E h3) (snd_O lo E h4) (snd_O hi E h2)
        | some _ => cases h
      | _ => first | cases h | simp [ckE, ckI, ckT, ckC] at h
    | _ => first | cases h | simp [ckE, ckI, ckT, ckC] at h
  | .call f l, X, Z, E, e', h => by
    cases e' with
    | Call g l' kw pos =>
      cases g with
      | Name x p =>
        cases kw with
        | nil =>
          obtain ⟨h1, h2⟩ := and2 h
          obtain ⟨h3, h4⟩ := and2 h1
          obtain ⟨h5, h6⟩ := and2 h3
          obtain ⟨h7, h8⟩ := and2 h5
          have hx : f = x := of_decide_eq_true h7
          subst hx
          obtain ⟨n1, _, _⟩ := name_of h6
          rw [List.any_eq_true] at h4
          obtain ⟨⟨q, qn, qm⟩, qi, qh⟩ := h4
          obtain ⟨q1, q2⟩ := and2 qh
          obtain ⟨q3, q4⟩ := and2 q1
          have hq : q = f := of_decide_eq_true q3
          subst hq
          have cal := E.fs _ qi
          have ha := snd_Es l E h2
          have st := ckEs_star h2
          cases l with
          | nil =>
            cases l' with
            | nil => exact s_call0 E.tk E.tz cal (gl_of h8) (of_decide_eq_true q4) n1
            | cons _ _ => cases h2
          | cons e l =>
            cases l' with
            | nil => cases h2
            | cons e2 l' =>
              exact s_call E.tk E.tz cal (gl_of h8) ha (of_decide_eq_true q4) (of_decide_eq_true q2) (fun {ρ ps ρ'} z => evs_length h2 z) n1 (star_of (st e2 List.mem_cons_self)) (plain_of fun a z => st a (List.mem_cons_of_mem _ z))
        | cons _ _ => first | cases h | simp [ckE, ckI, ckT, ckC, ckEs, ckTs] at h
      | _ => first | cases h | simp [ckE, ckI, ckT, ckC] at h
    | _ => first | cases h | simp [ckE, ckI, ckT, ckC] at h
  | .blt b l, X, Z, E, e', h => by
    cases e' with
    | Call g l' kw pos =>
      cases g with
      | Name x p =>
        cases kw with
        | nil =>
          obtain ⟨h1, h2⟩ := and2 h
          obtain ⟨h3, h4⟩ := and2 h1
          obtain ⟨h5, h6⟩ := and2 h3
          obtain ⟨h7, h8⟩ := and2 h5
          have ha := snd_Es l E h2
          have st := ckEs_star h2
          cases l' with
          | nil => cases h4
          | cons e2 l' =>
            refine s_blt E.calm E.tk fun t ht => ?_
            subst ht
            exact call_bl (E := E) (of_decide_eq_true h7) h8 h6 ha st
        | cons _ _ => first | cases h | simp [ckE, ckI, ckT, ckC, ckEs, ckTs] at h
      | _ => first | cases h | simp [ckE, ckI, ckT, ckC] at h
    | _ => first | cases h | simp [ckE, ckI, ckT, ckC] at h
  | .isi t a, X, Z, E, e', h => by
    simp only [ckE] at h
    split at h
    · rename_i x a' y py hc
      obtain ⟨p, pos, rfl⟩ := asCall_of hc
      obtain ⟨g1, g2⟩ := and2 h
      obtain ⟨g3, g4⟩ := and2 g1
      obtain ⟨g5, g6⟩ := and2 g3
      obtain ⟨g7, g8⟩ := and2 g5
      obtain ⟨g9, g10⟩ := and2 g7
      obtain ⟨g11, g12⟩ := and2 g9
      obtain ⟨g13, g14⟩ := and2 g11
      have hy : y = t.sn := of_decide_eq_true g12
      have hx : x = "isinstance" := of_decide_eq_true g13
      subst hy
      subst hx
      obtain ⟨n1, n2, n3⟩ := name_of (ty_ok_name t)
      have pa := snd_E a E g2
      have py : PE X (.Name t.sn py) (tC (.ty t.nm)) := pe_bltn (gl_of g10) (E.free _ (of_decide_eq_true g6)) (ty_boot t) rfl n3 n1
      refine s_isi E.tk fun u hu => ?_
      subst hu
      exact pe_callB call_isi (gl_of g14) (E.free _ (of_decide_eq_true g8)) PyProof.Rows.boot_isinstance (pa_cons pa (pa_cons py pa_nil (star_of rfl)) (star_of g4)) (by decide +kernel) (by decide +kernel) (star_of g4) (plain_of fun c hc => by
        rcases List.mem_cons.mp hc with rfl | hc
        · rfl
        · cases hc)
    · cases h
  | .met m o l, X, Z, E, e', h => by
    cases e' with
    | Call g l' kw pos =>
      cases g with
      | Attribute o' x apos =>
        cases kw with
        | nil =>
          obtain ⟨h1, h2⟩ := and2 h
          obtain ⟨h3, h4⟩ := and2 h1
          obtain ⟨h5, h6⟩ := and2 h3
          obtain ⟨h7, h8⟩ := and2 h5
          obtain ⟨h9, h10⟩ := and2 h7
          obtain ⟨h11, h12⟩ := and2 h9
          have hx : x = m.nm := of_decide_eq_true h11
          subst hx
          have ho := snd_E o E h4
          have ha := snd_Es l E h2
          have st := ckEs_star h2
          obtain ⟨f1, f2, f3⟩ := Me.facts m
          cases l' with
          | nil => cases h8
          | cons e2 l' =>
            refine s_met E.tk fun u t hu ht => ?_
            subst hu ht
            exact pe_bm f1 f2 f3 (mt_Me E.hu m) ho ha (base_of h12) (few_of st (of_decide_eq_true h6)) h10 (star_of (st e2 List.mem_cons_self)) (plain_of fun a z => st a (List.mem_cons_of_mem _ z))
        | cons _ _ => first | cases h | simp [ckE, ckI, ckT, ckC, ckEs, ckTs] at h
      | _ => first | cases h | simp [ckE, ckI, ckT, ckC] at h
    | _ => first | cases h | simp [ckE, ckI, ckT, ckC] at h
  | .chg m i l, X, Z, E, e', h => by
    cases e' with
    | Call g l' kw pos =>
      cases g with
      | Attribute o' x apos =>
        cases o' with
        | Name y py =>
          cases kw with
          | nil =>
            obtain ⟨h1, h2⟩ := and2 h
            obtain ⟨h3, h4⟩ := and2 h1
            obtain ⟨h5, h6⟩ := and2 h3
            obtain ⟨h7, h8⟩ := and2 h5
            obtain ⟨h9, h10⟩ := and2 h7
            obtain ⟨h11, h12⟩ := and2 h9
            obtain ⟨h13, h14⟩ := and2 h11
            have hx : x = m.nm := of_decide_eq_true h13
            subst hx
            have ha := snd_Es l E h2
            have st := ckEs_star h2
            obtain ⟨n1, n2, n3⟩ := name_of h10
            have pv : PE X (.Name y py) (tVar i) := pe_var (of_decide_eq_true h14) (vis_of h12) n1 n2
            obtain ⟨f2, f3⟩ := Mm.facts m
            cases l' with
            | nil =>
              cases m with
              | pop =>
                cases l with
                | nil =>
                  refine s_chg E.tk fun t ht => ?_
                  subst ht
                  refine wkE (pe_bm0 PySem.F.plainAttrs_list f2 f3 (mt_Mm .pop) pv rfl h8) ?_
                  rintro σ H Q ⟨v, e1, ty, ρ, W, R, q⟩
                  exact ⟨v, e1, ty, q [] H W ⟨Go.refl R, rfl⟩⟩
                | cons _ _ => cases h2
              | _ => cases h4
            | cons e2 l' =>
              refine s_chg E.tk fun t ht => ?_
              subst ht
              exact pe_bm PySem.F.plainAttrs_list f2 f3 (mt_Mm m) pv ha rfl (few_of st (of_decide_eq_true h6)) h8 (star_of (st e2 List.mem_cons_self)) (plain_of fun a z => st a (List.mem_cons_of_mem _ z))
          | cons _ _ => first | cases h | simp [ckE, ckI, ckT, ckC, ckEs, ckTs] at h
        | _ => first | cases h | simp [ckE, ckI, ckT, ckC] at h
      | _ => first | cases h | simp [ckE, ckI, ckT, ckC] at h
    | _ => first | cases h | simp [ckE, ckI, ckT, ckC] at h
  | .comp elt tg it ifs own, X, Z, E, e', h => by
    cases e' with
    | ListComp elt' gs scope pos =>
      rcases gs with _ | ⟨⟨tg', it', ifs', as⟩, _ | ⟨_, _⟩⟩
      · first | cases h | simp [ckE, ckI, ckT, ckC] at h
      · skip
        · obtain ⟨h1, h2⟩ := and2 h
          obtain ⟨h3, h4⟩ := and2 h1
          obtain ⟨h5, h6⟩ := and2 h3
          obtain ⟨h7, h8⟩ := and2 h5
          obtain ⟨h9, h10⟩ := and2 h7
          obtain ⟨h11, h12⟩ := and2 h9
          obtain ⟨h13, h14⟩ := and2 h11
          obtain ⟨h15, h16⟩ := and2 h13
          have h0 : as = 0 := of_decide_eq_true h15
          subst h0
          have ok := blkOk_by h12
          have ow : (own.map fun i => (X.N.getD i ⟨#[]⟩, i)).map (·.2) = own := by rw [List.map_map]; exact List.map_id' own
          have pc := pe_lc (pos := pos) (g := gT X.K tg) (wi := tI X T F Z it) (tt := tCl X T F Z0 ifs) (te := tE X T F Z0 elt) E.calm E.nd (snd_I it E h16) ok
            (fun s H C cl fp => tg_ok (X := X.blk s H scope (compEnvC scope cl C X.env) fp) (sc := scope) E.calm E.nd (fun x hx => by
              unfold isLoc at hx
              split at hx
              · rename_i e
                have : (relS scope X.env.scope).names.lookup x = some .local := lookup_relS_keep (by decide) e
                exact ⟨.inl this, .inr this⟩
              · rename_i e
                have : (relS scope X.env.scope).names.lookup x = some .cell := lookup_relS_keep (by decide) e
                exact ⟨.inr this, .inl (by show (scope.names.lookup x == some .cell) = true; rw [e]; rfl)⟩
              · cases hx) h6)
            (fun s H C cl fp => snd_C ifs (E.blk s H scope (compEnvC scope cl C X.env) fp) h4)
            (fun s H C cl fp => snd_E elt (E.blk s H scope (compEnvC scope cl C X.env) fp) h2) (fold_of h14)
          rw [ow] at pc
          refine wkE pc fun σ H Q q => ?_
          refine comp_tLc E.tk (fun i hi => ?_) (fun i hi => ?_) q
          · cases hb : T.bm i with
            | none => rfl
            | some a =>
              have := E.bm i a hb
              rw [List.all_eq_true] at h10
              have h3 := of_decide_eq_true (h10 i hi)
              omega
          · rw [List.all_eq_true] at h8
            exact of_decide_eq_true (h8 i hi)
      · simp [ckE] at h
    | _ => first | cases h | simp [ckE, ckI, ckT, ckC] at h
theorem snd_Es : ∀ (l : Exs) {X : Cx} {Z : WX} (E : Env1 X T F Z G np) {l' : List Expr}, ckEs G X.N np X.env.scope l l' = true → PA X l' (tA X T F Z l)
  | .nil, X, Z, E, l', h => by
    cases l' with
    | nil => exact s_nil
    | cons _ _ => first | cases h | simp [ckE, ckI, ckT, ckC, ckEs, ckTs] at h
  | .cons e l, X, Z, E, l', h => by
    cases l' with
    | nil => cases h
    | cons e' l' =>
      obtain ⟨h1, h2⟩ := and2 h
      obtain ⟨h3, h4⟩ := and2 h1
      exact s_cons (snd_E e E h4) (snd_Es l E h2) (star_of h3)
/-- and, or of values -/
theorem snd_Bs : ∀ (l : Exs) {X : Cx} {Z : WX} (E : Env1 X T F Z G np) {a' : Expr} {r' : List Expr}, ckEs G X.N np X.env.scope l (a' :: r') = true →
    (∀ pos, PE X (.BoolOp .And (a' :: r') pos) (tVAnd X T F Z l)) ∧ ∀ pos, PE X (.BoolOp .Or (a' :: r') pos) (tVOr X T F Z l)
  | .nil, X, Z, E, _, _, h => by cases h
  | .cons e l, X, Z, E, a', r', h => by
    obtain ⟨h1, h2⟩ := and2 h
    obtain ⟨h3, h4⟩ := and2 h1
    have pe := snd_E e E h4
    cases r' with
    | nil =>
      cases l with
      | nil => exact ⟨fun pos => s_vand1 pe, fun pos => s_vor1 pe⟩
      | cons _ _ => cases h2
    | cons b' r' =>
      obtain ⟨q1, q2⟩ := snd_Bs l E h2
      exact ⟨fun pos => s_vand pe (q1 pos), fun pos => s_vor pe (q2 pos)⟩
theorem snd_O : ∀ (o : Eo) {X : Cx} {Z : WX} (E : Env1 X T F Z G np) {o' : Option Expr}, ckO G X.N np X.env.scope o o' = true → PO X o' (tO X T F Z o)
  | .none, X, Z, E, o', h => by
    cases o' with
    | none => exact s_onone
    | some _ => cases h
  | .some e, X, Z, E, o', h => by
    cases o' with
    | none => cases h
    | some e' => exact s_osome (snd_E e E h)
theorem snd_T : ∀ (t : Tx) {X : Cx} {Z : WX} (E : Env1 X T F Z G np) {e' : Expr}, ckT G X.N np X.env.scope t e' = true → PT X e' (tT X T F Z t)
  | .val e, X, Z, E, e', h => by
    obtain ⟨h1, h2⟩ := and2 h
    exact s_tval E.tk (true_of h1) (snd_E e E h2)
  | .cmp op a b, X, Z, E, e', h => by
    cases e' with
    | Compare a' ops bs p =>
      rcases ops with _ | ⟨op', _ | ⟨o2, r⟩⟩
      · first | cases h | simp [ckE, ckI, ckT, ckC] at h
      · rcases bs with _ | ⟨b', _ | ⟨c', r⟩⟩
        · first | cases h | simp [ckE, ckI, ckT, ckC] at h
        · obtain ⟨h1, h2⟩ := and2 h
          obtain ⟨h3, h4⟩ := and2 h1
          obtain ⟨h5, h6⟩ := and2 h3
          have ho : op = op' := cm_of h5
          subst ho
          exact s_tcmp E.tk E.hu (marks_of h6) (snd_E a E h4) (snd_E b E h2)
        · first | cases h | simp [ckE, ckI, ckT, ckC] at h
      · first | cases h | simp [ckE, ckI, ckT, ckC] at h
    | _ => first | cases h | simp [ckE, ckI, ckT, ckC] at h
  | .and_ l, X, Z, E, e', h => by
    cases e' with
    | BoolOp op l' p =>
      cases op with
      | And =>
        obtain ⟨h1, h2⟩ := and2 h
        cases l' with
        | nil => cases h1
        | cons a' r => exact wkT ((snd_Ts l E h2).1 p).pt fun σ H Q q => q
      | Or => cases h
    | _ => first | cases h | simp [ckE, ckI, ckT, ckC] at h
  | .or_ l, X, Z, E, e', h => by
    cases e' with
    | BoolOp op l' p =>
      cases op with
      | Or =>
        obtain ⟨h1, h2⟩ := and2 h
        cases l' with
        | nil => cases h1
        | cons a' r => exact wkT ((snd_Ts l E h2).2 p).pt fun σ H Q q => q
      | And => cases h
    | _ => first | cases h | simp [ckE, ckI, ckT, ckC] at h
  | .not_ t, X, Z, E, e', h => by
    cases e' with
    | UnaryOp op a' p =>
      cases op with
      | Not => exact s_tnot (snd_T t E h)
      | _ => first | cases h | simp [ckE, ckI, ckT, ckC] at h
    | _ => first | cases h | simp [ckE, ckI, ckT, ckC] at h
theorem snd_Ts : ∀ (l : Txs) {X : Cx} {Z : WX} (E : Env1 X T F Z G np) {a' : Expr} {r' : List Expr}, ckTs G X.N np X.env.scope l (a' :: r') = true →
    (∀ pos, PW X (.BoolOp .And (a' :: r') pos) (tTAnd X T F Z l)) ∧ ∀ pos, PW X (.BoolOp .Or (a' :: r') pos) (tTOr X T F Z l)
  | .nil, X, Z, E, _, _, h => by cases h
  | .cons t l, X, Z, E, a', r', h => by
    obtain ⟨h1, h2⟩ := and2 h
    have pt := snd_T t E h1
    cases r' with
    | nil =>
      cases l with
      | nil => exact ⟨fun pos => s_tand1 pt, fun pos => s_tor1 pt⟩
      | cons _ _ => cases h2
    | cons b' r' =>
      obtain ⟨q1, q2⟩ := snd_Ts l E h2
      exact ⟨fun pos => s_tand pt (q1 pos), fun pos => s_tor pt (q2 pos)⟩
theorem snd_C : ∀ (o : To) {X : Cx} {Z : WX} (E : Env1 X T F Z G np) {l' : List Expr}, ckC G X.N np X.env.scope o l' = true → PTs X l' (tCl X T F Z o)
  | .none, X, Z, E, l', h => by
    cases l' with
    | nil => exact s_cnone
    | cons _ _ => first | cases h | simp [ckE, ckI, ckT, ckC, ckEs, ckTs] at h
  | .some t, X, Z, E, l', h => by
    rcases l' with _ | ⟨t', _ | ⟨_, _⟩⟩
    · first | cases h | simp [ckE, ckI, ckT, ckC] at h
    · exact s_csome (snd_T t E h)
    · first | cases h | simp [ckE, ckI, ckT, ckC] at h
theorem snd_I : ∀ (it : Ie) {X : Cx} {Z : WX} (E : Env1 X T F Z G np) {e' tg' : Expr}, ckI G X.N np X.env.scope it e' tg' = true → PI X tg' e' (tI X T F Z it)
  | .seq e, X, Z, E, e', tg', h => s_seq E.tk (snd_E e E h)
  | .rng a, X, Z, E, e', tg', h => by
    simp only [ckI] at h
    split at h
    · rename_i x a' hc
      obtain ⟨p, pos, rfl⟩ := asCall_of hc
      obtain ⟨h1, h2⟩ := and2 h
      obtain ⟨h3, h4⟩ := and2 h1
      obtain ⟨h5, h6⟩ := and2 h3
      obtain ⟨h7, h8⟩ := and2 h5
      have hx : x = "range" := of_decide_eq_true h7
      subst hx
      exact s_rng (gl_of h8) (E.free _ (of_decide_eq_true h6)) (star_of h4) (snd_E a E h2)
    · cases h
  | .rng2 a b, X, Z, E, e', tg', h => by
    simp only [ckI] at h
    split at h
    · rename_i x a' b' hc
      obtain ⟨p, pos, rfl⟩ := asCall_of hc
      obtain ⟨h1, h2⟩ := and2 h
      obtain ⟨h3, h4⟩ := and2 h1
      obtain ⟨h5, h6⟩ := and2 h3
      obtain ⟨h7, h8⟩ := and2 h5
      obtain ⟨h9, h10⟩ := and2 h7
      obtain ⟨h11, h12⟩ := and2 h9
      have hx : x = "range" := of_decide_eq_true h11
      subst hx
      exact s_rng2 (gl_of h12) (E.free _ (of_decide_eq_true h10)) (by rw [star_of h8, star_of h6]; rfl) (star_of h6) (snd_E a E h4) (snd_E b E h2)
    · cases h
  | .enm e, X, Z, E, e', tg', h => by
    simp only [ckI] at h
    obtain ⟨ht, h⟩ := and2 h
    cases tg' with
    | Tuple es k tp =>
      split at h
      · rename_i x a' hc
        obtain ⟨p, pos, rfl⟩ := asCall_of hc
        obtain ⟨h1, h2⟩ := and2 h
        obtain ⟨h3, h4⟩ := and2 h1
        obtain ⟨h5, h6⟩ := and2 h3
        obtain ⟨h7, h8⟩ := and2 h5
        have hx : x = "enumerate" := of_decide_eq_true h7
        subst hx
        exact s_enm E.tk (gl_of h8) (E.free _ (of_decide_eq_true h6)) (star_of h4) (snd_E e E h2)
      · cases h
    | _ => cases ht
  | .zip l, X, Z, E, e', tg', h => by
    simp only [ckI] at h
    obtain ⟨ht, h⟩ := and2 h
    cases tg' with
    | Tuple es k tp =>
      split at h
      · rename_i x l' hc
        obtain ⟨p, pos, rfl⟩ := asCall_of hc
        obtain ⟨h1, h2⟩ := and2 h
        obtain ⟨h3, h4⟩ := and2 h1
        obtain ⟨h5, h6⟩ := and2 h3
        obtain ⟨h7, h8⟩ := and2 h5
        have hx : x = "zip" := of_decide_eq_true h7
        subst hx
        have ha := snd_Es l E h2
        have st := ckEs_star h2
        rcases l' with _ | ⟨a', _ | ⟨b', _ | ⟨_, _⟩⟩⟩
        · simp at h4
        · simp at h4
        · cases l with
          | nil => cases h2
          | cons a l =>
            cases l with
            | nil => obtain ⟨_, z⟩ := and2 h2; cases z
            | cons b l =>
              cases l with
              | nil => exact s_zip2 E.tk (gl_of h8) (E.free _ (of_decide_eq_true h6)) (star_of (st a' (by simp))) (plain_of fun c z => st c (List.mem_cons_of_mem _ z)) ha
              | cons _ _ =>
                obtain ⟨_, z⟩ := and2 h2
                obtain ⟨_, z⟩ := and2 z
                cases z
        · simp at h4
      · cases h
    | _ => cases ht
end
end
end Dv

set_option Elab.async false
set_option linter.all false
set_option maxRecDepth 100000
set_option maxHeartbeats 1000000
namespace Dv
open PySem PySem.Spec PyProof.Rows L2

structure OutS (T : Tc) (σ : Sg) (H : Hp) (ρ : Env') (W : AS) (p : P) (σ' : Sg) (ρ' : Env') (v : V) (H' : Hp) (W' : AS) : Prop where
  go : GoS T σ H ρ W σ' H' ρ' W'
  rep : RepP T σ' H' ρ' W' v p
  new : ∀ d, p = .own d → ∀ a, v = .ref a → H a = none
def EndS (T : Tc) (σ : Sg) (H : Hp) (ρ : Env') (W : AS) (D : Ends) (f : Fl) (ρ' : Env') : Prop := match f with
  | .nx => ∀ σ' H' W', GoS T σ H ρ W σ' H' ρ' W' → D.nx σ' H'
  | .bk => ∀ σ' H' W', GoS T σ H ρ W σ' H' ρ' W' → D.bk σ' H'
  | .ct => ∀ σ' H' W', GoS T σ H ρ W σ' H' ρ' W' → D.ct σ' H'
  | .rt p => ∀ v σ' H' W', OutS T σ H ρ W p σ' ρ' v H' W' → D.rt v H'
/-- the error is welcome, wherever it is raised from here on -/
def ErrS (X : Cx) (Z : WX) (T : Tc) (er : Er) (σ : Sg) (H : Hp) (ρ : Env') (W : AS) : Prop := ∀ σ1 H1 ρ1 W1, GoS T σ H ρ W σ1 H1 ρ1 W1 → ErrOk X Z er σ1 H1 ρ1
def PostS (X : Cx) (Z : WX) (T : Tc) (r : Rs (Fl × Env')) (σ : Sg) (H : Hp) (ρ : Env') (W : AS) (D : Ends) : Prop := match r with
  | .ok q => EndS T σ H ρ W D q.1 q.2
  | .err er => ErrS X Z T er σ H ρ W
  | .bad => False
/-- a step's error, seen as a statement's -/
def PostE (X : Cx) (Z : WX) (T : Tc) {α : Type} (r : Rs (α × Env')) (σ : Sg) (H : Hp) (ρ : Env') (W : AS) (k : α → Env' → Prop) : Prop := match r with
  | .ok a => k a.1 a.2
  | .err er => ErrS X Z T er σ H ρ W
  | .bad => False
def tS (X : Cx) (T : Tc) (Z : WX) (f : Env' → Rs (Fl × Env')) : TS := fun D σ H => ∃ ρ W, Rel T σ H ρ W ∧ PostS X Z T (f ρ) σ H ρ W D

section
variable {X : Cx} {Z : WX} {T : Tc} {F : Fn} {G : Gn} {np : Nat} {σ σ' σ1 : Sg} {H H0 H1 H2 H' : Hp} {ρ ρ1 ρ2 ρ' ρf ρb ρq : Env'} {W W1 W2 W' : AS} {K : PySem.W.Frag} {ds : List D} {sc : Scope} {N : List Str} {En : Ends}
theorem PostE.bind {α : Type} {r : Rs (α × Env')} {f : α × Env' → Rs (Fl × Env')} (h : PostS X Z T (r.bind f) σ H ρ W En) : PostE X Z T r σ H ρ W fun a ρ' => PostS X Z T (f (a, ρ')) σ H ρ W En := by
  cases r <;> exact h
/-- to an expression's reading -/
theorem PostE.post {α : Type} {r : Rs (α × Env')} {k k' : α → Env' → Prop} (h : PostE X Z T r σ H ρ W k) (R : Rel T σ H ρ W) (g : ∀ a ρ', k a ρ' → k' a ρ') : Post X Z r σ H ρ k' := by
  cases r with
  | ok a => exact g _ _ h
  | err er => exact h σ H ρ W (GoS.refl R)
  | bad => exact h
theorem PostE.move {α : Type} {r : Rs (α × Env')} {k : α → Env' → Prop} (h : PostE X Z T r σ H ρ W k) (g : GoS T σ H ρ W σ1 H1 ρ1 W1) : PostE X Z T r σ1 H1 ρ1 W1 k := by
  cases r with
  | ok a => exact h
  | err er => exact fun σ2 H2 ρ2 W2 g2 => h _ _ _ _ (g.trans g2)
  | bad => exact h
theorem PostS.val {α : Type} {r : Rs α} {f : α → Rs (Fl × Env')} (n : NoErr r) (h : PostS X Z T (r.bind f) σ H ρ W En) : ∃ a, r = .ok a ∧ PostS X Z T (f a) σ H ρ W En := by
  cases r with
  | ok a => exact ⟨a, rfl, h⟩
  | err er => exact absurd rfl (n er)
  | bad => exact h.elim
theorem GoS.out {σ2 : Sg} {p : P} {v : V} (a : GoS T σ H ρ W σ1 H1 ρ1 W1) (b : OutS T σ1 H1 ρ1 W1 p σ2 ρ2 v H2 W2) : OutS T σ H ρ W p σ2 ρ2 v H2 W2 := ⟨a.trans b.go, b.rep, fun d e x h => a.dom x (b.new d e x h)⟩
theorem EndS.move {f : Fl} (h : EndS T σ H ρ W En f ρ') (g : GoS T σ H ρ W σ1 H1 ρ1 W1) : EndS T σ1 H1 ρ1 W1 En f ρ' := by
  cases f with
  | nx => exact fun σ2 H2 W2 g2 => h _ _ _ (g.trans g2)
  | bk => exact fun σ2 H2 W2 g2 => h _ _ _ (g.trans g2)
  | ct => exact fun σ2 H2 W2 g2 => h _ _ _ (g.trans g2)
  | rt p => exact fun v σ2 H2 W2 g2 => h _ _ _ _ (g.out g2)
theorem PostS.move {r : Rs (Fl × Env')} (h : PostS X Z T r σ H ρ W En) (g : GoS T σ H ρ W σ1 H1 ρ1 W1) : PostS X Z T r σ1 H1 ρ1 W1 En := by
  cases r with
  | ok a => exact EndS.move h g
  | err er => exact fun σ2 H2 ρ2 W2 g2 => h _ _ _ _ (g.trans g2)
  | bad => exact h
theorem wkS {st : Stmt} {t t' : TS} (h : PS X st t) (w : ∀ D σ H, t' D σ H → t D σ H) : PS X st t' := ⟨fun pins s σ H D I q => h.run pins s σ H D I (w D σ H q)⟩
theorem wkSs {st : List Stmt} {t t' : TS} (h : PSs X st t) (w : ∀ D σ H, t' D σ H → t D σ H) : PSs X st t' := ⟨fun pins s σ H D I q => h.run pins s σ H D I (w D σ H q)⟩

/-! ### a name stored -/
theorem own_go {i : Nat} {v : V} {d : D} (o : Out T σ H ρ W (.own d) ρ1 v H1 W1) (hf : freeSlot i ρ1 = true) : GoS T σ H ρ W (σ.set i (some v)) H1 (ρ1.set i (some (.own false d))) W1 := by
  obtain ⟨nb, nl, hi⟩ := free_bor hf
  have R := o.go.rel
  have hi2 : i < σ.length := by rw [← R.len]; exact hi
  obtain ⟨a, ob, rfl, ha, wa, no, fz, q⟩ := o.rep
  have n0 : H a = none := o.new d rfl a rfl
  have own : ∀ j b, OwnA (σ.set i (some (.ref a))) (ρ1.set i (some (.own false d))) j b → (j = i ∧ b = a) ∨ (j ≠ i ∧ OwnA σ ρ1 j b) := fun j b ⟨h1, h2⟩ => by
    by_cases e : i = j
    · subst e
      rw [List.getElem?_set_self hi2] at h2
      cases h2
      exact .inl ⟨rfl, rfl⟩
    · rw [List.getElem?_set_ne e] at h2
      refine .inr ⟨Ne.symm e, ?_, h2⟩
      rcases h1 with ⟨c, x, h1⟩ | ⟨c, x, h1⟩
      · rw [List.getElem?_set_ne e] at h1; exact .inl ⟨c, x, h1⟩
      · rw [List.getElem?_set_ne e] at h1; exact .inr ⟨c, x, h1⟩
  refine ⟨⟨by simp [R.len], fun j s h => ?_, fun j k b h1 h2 => ?_, R.wl, fun j x b h1 h2 => ?_, R.fzk, fun j b h => ?_⟩, fun b u h n => ?_, o.go.dom, fun j b h => ?_, fun j c x h => ?_⟩
  · rcases getq_set h with ⟨rfl, k, _⟩ | ⟨ne, k⟩
    · cases k
      exact ⟨_, by rw [List.getElem?_set_self hi2], a, ob, rfl, ha, wa, q⟩
    · obtain ⟨o, e, q⟩ := R.at_ j s k
      exact ⟨o, by rw [List.getElem?_set_ne ne]; exact e, q⟩
  · rcases own j b h1 with ⟨e1, e2⟩ | ⟨_, q1⟩
    · rcases own k b h2 with ⟨e3, _⟩ | ⟨_, q2⟩
      · rw [e1, e3]
      · rw [e2] at q2
        exact absurd q2 (no k)
    · rcases own k b h2 with ⟨e3, e4⟩ | ⟨_, q2⟩
      · rw [e4] at q1
        exact absurd q1 (no j)
      · exact R.sep j k b q1 q2
  · by_cases e : i = j
    · subst e
      rw [List.getElem?_set_self hi2] at h2
      cases h2
      exact fz
    · rw [List.getElem?_set_ne e] at h2
      rw [List.getElem?_set_ne e] at h1
      exact R.fr j x b h1 h2
  · obtain ⟨h1, s, h2, h3⟩ := R.bor j b h
    have ne : i ≠ j := fun z => by subst z; exact nb s h2 h3
    exact ⟨by rw [List.getElem?_set_ne ne]; exact h1, s, by rw [List.getElem?_set_ne ne]; exact h2, h3⟩
  · obtain ⟨h1, n1, w⟩ := o.go.step b u h n
    refine ⟨h1, fun j z => ?_, w⟩
    have hba : b ≠ a := fun e => by rw [e, n0] at h; cases h
    obtain ⟨⟨c, x, z1⟩, z2⟩ := z
    rcases getq_set z1 with ⟨rfl, k, _⟩ | ⟨ne, k⟩
    · rw [List.getElem?_set_self hi2] at z2; cases z2; exact hba rfl
    · rw [List.getElem?_set_ne ne] at z2
      exact n1 j ⟨⟨c, x, k⟩, z2⟩
  · rcases own j b h with ⟨_, rfl⟩ | ⟨_, h⟩
    · exact .inr n0
    · exact .inl ⟨j, o.go.mon j b h⟩
  · have h1 := o.go.lk j c x h
    have ne : i ≠ j := fun z => by subst z; exact nl c x h1
    exact ⟨by rw [List.getElem?_set_ne ne]; exact h1, by rw [List.getElem?_set_ne ne]⟩
theorem asgP_ok {i : Nat} {p : P} {v : V} (o : Out T σ H ρ W p ρ1 v H1 W1) (e : asgP i p ρ1 = .ok ρ') : ∃ W', GoS T σ H ρ W (σ.set i (some v)) H1 ρ' W' := by
  cases p with
  | val d =>
    obtain ⟨g, _⟩ := put_go o.go.rel e o.rep
    exact ⟨W1, o.go.s.trans g⟩
  | own d =>
    simp only [asgP] at e
    split at e
    · rename_i hf
      cases e
      exact ⟨W1, own_go o hf⟩
    · cases e
  | at_ j =>
    simp only [asgP] at e
    obtain ⟨⟨d, ρ2⟩, e1, e⟩ := bind_ok e
    obtain ⟨W2, g, r⟩ := o.data (of_ok e1)
    obtain ⟨g2, _⟩ := put_go g.rel e r
    exact ⟨W2, g.s.trans g2⟩
theorem NoErr.asgP {i : Nat} {p : P} {ρ : Env'} : NoErr (Dv.asgP i p ρ) := by
  unfold Dv.asgP
  split
  · exact .putV
  · split <;> first | exact .ok | exact .bad
  · exact .bind .of fun _ => .putV
/-- x = e, by the reading of e -/
theorem set_read {i : Nat} {e : Ex} (h : tS X T Z (ex F 0 (.set i e)) En σ H) : tE X T F Z e σ H fun x H1 => gName i x σ H1 En.nx := by
  obtain ⟨ρ, W, R, h⟩ := h
  refine ⟨ρ, W, R, (PostE.bind h).post R fun p ρ1 h1 v H1 W1 o => ?_⟩
  obtain ⟨ρ', e1, h2⟩ := PostS.val .asgP h1
  obtain ⟨W', g⟩ := asgP_ok o e1
  exact h2 _ _ _ g
end
end Dv

set_option Elab.async false
set_option linter.all false
set_option maxRecDepth 100000
set_option maxHeartbeats 1000000
namespace Dv
open PySem PySem.Spec PyProof.Rows L2

/-! ### the text of statements -/
def notComp : Expr → Bool
  | .ListComp _ _ _ _ => false
  | .SetComp _ _ _ _ => false
  | .DictComp _ _ _ _ _ => false
  | _ => true
def notTuple : Expr → Bool
  | .Tuple _ _ _ => false
  | _ => true
/-- name = value: the plain way, or a comprehension at a local name on its line -/
def setOk (sc : Scope) (y : Str) (py : Pos) (v : Expr) : Bool := notComp v || (match v with
  | .ListComp _ _ scope pos => (match sc.names.lookup y with
    | some .local => (py.line == pos.line) && !(scope.names.any fun p => p.1 == y && (p.2 == .local || p.2 == .cell))
    | _ => false)
  | _ => false)
def isLocal (sc : Scope) (x : Str) : Bool := match sc.names.lookup x with
  | some .local => true
  | _ => false
def parOk (sc : Scope) (x y : Str) (px py : Pos) (a b : Expr) : Bool :=
  isLocal sc x && isLocal sc y && py.line == px.line && decide (x ≠ y) && notStar a && notStar b && !([a, b].all (foldedForSure 8)) && !([a, b].all (constantsAlone 8))
def augEq : Operator → Operator → Bool
  | .Add, .Add => true
  | .Sub, .Sub => true
  | _, _ => false
mutual
def ckS (G : Gn) (N : List Str) (np : Nat) (sc : Scope) : Sx → Stmt → Bool
  | .set i e, .Assign [.Name y py] v _ => decide (N[i]? = some y) && isLoc sc y && setOk sc y py v && ckE G N np sc e v
  | .setT l e, .Assign [.Tuple es k tp] v _ => notTuple v && notComp v && ckTg N sc (.tp l) (.Tuple es k tp) && ckE G N np sc e v
  | .par i j a b, .Assign [.Tuple [.Name x px, .Name y py] _ _] (.Tuple [a', b'] _ _) _ => decide (N[i]? = some x) && decide (N[j]? = some y) && decide (i ≠ j) && parOk sc x y px py a' b' && ckE G N np sc a a' && ckE G N np sc b b'
  | .setI i ix e, .Assign [.Subscript (.Name y _) ix' _] v _ => decide (N[i]? = some y) && isVis sc y && okName y && notSlice ix' && ckE G N np sc ix ix' && ckE G N np sc e v
  | .aug i op e, .AugAssign (.Name y _) op' v _ => augEq op op' && decide (N[i]? = some y) && isLoc sc y && ckE G N np sc e v
  | .augI i op ix e, .AugAssign (.Subscript (.Name y _) ix' _) op' v _ => augEq op op' && decide (N[i]? = some y) && isVis sc y && okName y && notSlice ix' && ckE G N np sc ix ix' && ckE G N np sc e v
  | .expr e, .Expr v _ => notComp v && ckE G N np sc e v
  | .ret e, .Return (some v) _ => ckE G N np sc e v
  | .retN, .Return none _ => true
  | .ite c a b, .If c' a' b' _ => ckT G N np sc c c' && ckSs G N np sc a a' && ckSs G N np sc b b'
  | .whl c b, .While c' b' [] _ => ckT G N np sc c c' && ckSs G N np sc b b'
  | .for_ tg it b, .For tg' it' b' [] _ => ckI G N np sc it it' tg' && notSet it' && ckTg N sc tg tg' && ckSs G N np sc b b'
  | .brk, .Break _ => true
  | .cnt, .Continue _ => true
  | .pass, .Pass _ => true
  | _, _ => false
def ckSs (G : Gn) (N : List Str) (np : Nat) (sc : Scope) : Sxs → List Stmt → Bool
  | .nil, [] => true
  | .cons s l, s' :: l' => ckS G N np sc s s' && ckSs G N np sc l l'
  | _, _ => false
end

section
variable {X : Cx} {Z : WX} {T : Tc} {F : Fn} {G : Gn} {np : Nat} {σ σ' σ1 : Sg} {H H0 H1 H2 H' : Hp} {ρ ρ1 ρ2 ρ' ρf ρb ρq : Env'} {W W1 W2 W' : AS} {K : PySem.W.Frag} {ds : List D} {sc : Scope} {N : List Str} {En : Ends} {M : Nat}
theorem Out.later {p : P} {v : V} (o : Out T σ H ρ W p ρ1 v H1 W1) (g : Go T σ H1 ρ1 W1 H2 ρ2 W2) : Out T σ H ρ W p ρ2 v H2 W2 := ⟨o.go.trans g, o.rep.step o.go.rel g.step g.mon, o.new⟩
theorem OutS.of {p : P} {v : V} (o : Out T σ H ρ W p ρ1 v H1 W1) : OutS T σ H ρ W p σ ρ1 v H1 W1 := ⟨o.go.s, o.rep, o.new⟩
theorem swap_no {v : Expr} {t : Option Expr} {n : Nat} {env : Env} (h : notComp v = true) : swapsWith v t n env = pure false := by
  cases v <;> first | rfl | cases h
theorem set_ok {i : Nat} {e : Ex} {y : Str} {py pos : Pos} {v : Expr} (hN : X.N.Nodup) (hi : X.N[i]? = some y) (hl : Loc X.env.scope y) (hf : X.fn y = true) (hk : X.env.scope.kind = .function) (hs : setOk X.env.scope y py v = true) (pe : PE X v (tE X T F Z e))
    (pc : notComp v = false → isLocal X.env.scope y = true → ∀ (hsw : swapsWith v (some (.Name y py)) pos.line X.env = pure true), PS X (.Assign [.Name y py] v pos) (tAsg (tE X T F Z e) (gName i))) : PS X (.Assign [.Name y py] v pos) (tAsg (tE X T F Z e) (gName i)) := by
  unfold setOk at hs
  rcases Bool.or_eq_true_iff.mp hs with h | h
  · exact ps_set hN hi hl pe (swap_no h) (.inl hf)
  · split at h
    · rename_i scope cpos
      split at h
      · rename_i e1
        obtain ⟨h1, h2⟩ := and2 h
        exact pc rfl (by unfold isLocal; rw [e1]) (sw_true hk e1 h1 (not_f h2))
      · cases h
    · cases h
theorem par_swap {x y : Str} {px py pt pt2 : Pos} {kt k2 : Nat} {a b : Expr} (hk : X.env.scope.kind = .function) (h : parOk X.env.scope x y px py a b = true) : swappedStores [.Tuple [.Name x px, .Name y py] kt pt] (.Tuple [a, b] k2 pt2) X.env = pure (some [x, y]) := by
  obtain ⟨h1, h2⟩ := and2 h
  obtain ⟨h3, h4⟩ := and2 h1
  obtain ⟨h5, h6⟩ := and2 h3
  obtain ⟨h7, h8⟩ := and2 h5
  obtain ⟨h9, h10⟩ := and2 h7
  obtain ⟨h11, h12⟩ := and2 h9
  obtain ⟨h13, h14⟩ := and2 h11
  have hb : X.env.blockKind = .function := by unfold Env.blockKind; rw [hk]; rfl
  have kx : X.env.kindOf x = some .local := by
    unfold isLocal at h13
    split at h13
    · rename_i e; exact e
    · cases h13
  have ky : X.env.kindOf y = some .local := by
    unfold isLocal at h14
    split at h14
    · rename_i e; exact e
    · cases h14
  have hne : x ≠ y := of_decide_eq_true h10
  have sa : (match a with | .Starred .. => true | _ => false) = false := by cases a <;> first | rfl | cases h8
  have sb : (match b with | .Starred .. => true | _ => false) = false := by cases b <;> first | rfl | cases h6
  have el : py.line = px.line := by simpa using h12
  have hyx : (y == x) = false := by simpa using fun z => hne z.symm
  have hxy : (x == y) = false := by simpa using hne
  have f1 := not_f h4
  have f2 := not_f h2
  simp only [List.all_cons, List.all_nil, Bool.and_true] at f1 f2
  unfold swappedStores
  simp [hb, kx, ky, el, f1, f2, Expr.pos, List.eraseDups, List.eraseDupsBy, List.eraseDupsBy.loop, hyx, hxy]
  cases a <;> cases b <;> first | (simp at sa; done) | (simp at sb; done) | simp_all
end
end Dv

set_option Elab.async false
set_option linter.all false
set_option maxRecDepth 100000
set_option maxHeartbeats 2000000
namespace Dv
open PySem PySem.Spec PyProof.Rows L2

section
variable {X : Cx} {Z : WX} {T : Tc} {F : Fn} {G : Gn} {np : Nat} {σ σ' σ1 : Sg} {H H0 H1 H2 H' : Hp} {ρ ρ1 ρ2 ρ' ρf ρb ρq : Env'} {W W1 W2 W' : AS} {K : PySem.W.Frag} {ds : List D} {sc : Scope} {N : List Str} {En : Ends} {M : Nat}
/-- from ahead of a lock to behind its opening -/
theorem unlock_go {p : P} (R : Rel T σ H1 ρ1 W1) (g : GoS T σ H1 (lockP p ρ1).2 W1 σ' H' ρf W') (e : unlock (lockP p ρ1).1 ρf = .ok ρ') : GoS T σ H1 ρ1 W1 σ' H' ρ' W' := by
  obtain ⟨ow, h0, hs⟩ := unlock_own (σ := σ') e
  refine ⟨unlock_rel g.rel e, unlock_step R g.step e fun k b d z => (g.lk k b d z).2, g.dom, fun i a z => ?_, fun i b d h => ?_⟩
  · rcases g.own i a ((ow i a).mp z) with ⟨j, q⟩ | q
    · exact .inl ⟨j, (lock_go R p).mon j a q⟩
    · exact .inr q
  · have hl := (lock_go R p).lk i b d h
    obtain ⟨q1, q2⟩ := g.lk i b d hl
    refine ⟨?_, q2⟩
    cases el : (lockP p ρ1).1 with
    | none => rw [h0 el]; exact q1
    | some k =>
      obtain ⟨b1, d1, e1, rfl⟩ := hs k el
      obtain ⟨b2, d2, e2, e3⟩ := lock_some el
      have ne : k ≠ i := fun z => by subst z; rw [e2] at h; cases h
      rw [List.getElem?_set_ne ne]
      exact q1
/-- a slot's list changed -/
theorem mut_slot {i : Nat} {f : D → Rs D} {v : V} (R : Rel T σ H ρ W) (hv : σ[i]? = some (some v)) (nf : ∀ d, NoErr (f d)) (e : mutSlot i ρ f = .ok ρ') : ∃ b d d' a o, ρ[i]? = some (some (.own b d)) ∧ v = .ref a ∧ H a = some o ∧ RepO T.K H W o d ∧ f d = .ok d' ∧ ρ' = ρ.set i (some (.own b d')) := by
  unfold mutSlot at e
  split at e
  · rename_i b d es
    obtain ⟨d', e1, e⟩ := bind_ok e
    cases e
    obtain ⟨o, z, a, ob, rfl, ha, _, q⟩ := R.at_ i _ es
    rw [hv] at z; cases z
    exact ⟨b, d, d', a, ob, es, rfl, ha, q, e1, rfl⟩
  · cases e
theorem NoErr.mutSlot {i : Nat} {ρ : Env'} {f : D → Rs D} (nf : ∀ d, NoErr (f d)) : NoErr (Dv.mutSlot i ρ f) := by
  unfold Dv.mutSlot
  split
  · exact .bind (nf _) fun _ => .ok
  · exact .bad
theorem NoErr.dSet {d k x : D} : NoErr (Dv.dSet d k x) := by
  unfold Dv.dSet
  split
  · exact .bind .of fun _ => .ok
  · exact .bad
theorem NoErr.dAug {op : Operator} {x y : D} : NoErr (Dv.dAug op x y) := by
  unfold Dv.dAug
  split <;> first | exact .ok | exact .bad | exact .need .ok
/-- o[k] = x of a slot's list -/
theorem set_slot {i : Nat} {v kv xv : V} {k x : D} {Q : Hp → Prop} (R : Rel T σ H ρ W) (hv : σ[i]? = some (some v)) (hk : RepK T.K H W kv k) (hx : RepD T.K H W xv x) (e : mutSlot i ρ (fun d => dSet d k x) = .ok ρ')
    (q : ∀ H', Go T σ H ρ W H' ρ' W → Q H') : rSetL v kv xv H Q := by
  obtain ⟨b, d, d', a, o, es, rfl, ha, r, e1, rfl⟩ := mut_slot R hv (fun _ => .dSet) e
  unfold dSet at e1
  split at e1
  · rename_i l n
    obtain ⟨j, e2, e1⟩ := bind_ok e1
    cases e1
    obtain ⟨us, rfl, r⟩ := r
    refine ⟨a, us, n, j, rfl, hk.int, ha, by rw [r.length]; exact of_ok e2, q _ (mut_at R es hv ⟨_, rfl, r.set hx j⟩)⟩
  · cases e1
theorem get_listP : PGet X (rIxL X.K) := by
  intro pins s σ H o i ov iv Q I ro ri h
  obtain ⟨p, xs, n, z, rfl, rfl, hq, he, q⟩ := h
  cases ro
  obtain ⟨t, rfl⟩ := ri
  obtain ⟨its, r, pl, hz⟩ := I.list hq
  obtain ⟨j, h1, h2, h3, h4, h5⟩ := atI_get he
  obtain ⟨w, ew, rw'⟩ := r.get h2
  have hl := r.length
  have hn := line63
  have fin : EP X pins σ Q w s := ⟨z, H, I, rw', q⟩
  by_cases h0 : 0 ≤ n
  · have hj : n.toNat = j := by
      rw [seqIndex_of h0 h5] at h1
      exact Option.some.inj h1
    exact wpAny_getItem_list pl.isList h0 (by omega) (by rw [hj]; simpa using ew) fin
  · have hj : (n + (its.toArray.size : Int)).toNat = j := by
      rw [seqIndex_neg (by omega) h4] at h1
      rw [List.size_toArray, ← hl]
      exact Option.some.inj h1
    exact wpAny_getItem_list_neg pl.isList (by omega) (by rw [List.size_toArray] <;> omega) (by omega) (by rw [hj]; simpa using ew) fin
def rAug : Operator → TIp
  | .Add => fun x y H Q => rI0 (fun i j => .int (i + j)) x y H Q ∨ ∃ i j, x = .str i ∧ y = .str j ∧ i.length + j.length ≤ sizeLine ∧ Q (.str (i ++ j)) H
  | .Sub => rI0 fun i j => .int (i - j)
  | _ => fun _ _ _ _ => False
theorem ip_aug : ∀ op, PIp X op (rAug op) := fun op => by
  cases op with
  | Add => exact iop_add.or iop_add_str
  | Sub => exact iop_sub
  | _ => exact fun _ _ _ _ _ _ _ _ _ _ _ _ h => h.elim
theorem aug_ok {op : Operator} {x y : V} {d e z : D} {Q : VK} (hd : RepK K H W x d) (he : RepK K H W y e) (h : dAug op d e = .ok z) (q : ∀ v, RepD K H W v z → Q v H) : rAug op x y H Q := by
  unfold dAug at h
  split at h
  · cases h; exact .inl ⟨_, _, hd.int, he.int, q _ rfl⟩
  · cases h; exact ⟨_, _, hd.int, he.int, q _ rfl⟩
  · obtain ⟨c, h⟩ := need_ok h
    cases h; exact .inr ⟨_, _, hd.str, he.str, c, q _ rfl⟩
  · cases h

/-! ### statements -/
theorem st_setT {l : List Nat} {e : Ex} {tg v : Expr} {pos : Pos} (tk : T.K = X.K) (he : PE X v (tE X T F Z e)) (hg : PG X tg (gT X.K (.tp l))) (hs : swapsWithSole [tg] v pos.line X.env = pure false) (hw : swappedStores [tg] v X.env = pure none)
    (h1 : (assignEach [tg] X.env).map (·.2) = [assign tg X.env]) : PS X (.Assign [tg] v pos) (tS X T Z (ex F M (.setT l e))) := by
  refine wkS (ps_asg he hg hs hw h1) ?_
  rintro En σ H ⟨ρ, W, R, h⟩
  refine ⟨ρ, W, R, (PostE.bind h).post R fun p ρ1 h1 v H1 W1 o => ?_⟩
  dsimp only at h1
  split at h1
  · rename_i ds
    obtain ⟨ρ', e1, h2⟩ := PostS.val .putVs h1
    have r : RepD T.K H1 W1 v (.tup ds) := o.rep
    rw [← tk]
    exact gT_ok (tg := .tp l) o.go.rel (show asgT (.tp l) (.tup ds) ρ1 = .ok ρ' from e1) r fun σ' g _ _ => h2 _ _ _ (o.go.s.trans g)
  · exact h1.elim
theorem st_par {i j : Nat} {a b : Ex} {a' b' : Expr} {x y : Str} {px py pt pt2 pos : Pos} {kt k2 : Nat} (hc : X.calm = true) (hN : X.N.Nodup) (hi : X.N[i]? = some x) (hj : X.N[j]? = some y) (hij : i ≠ j)
    (hx : X.env.scope.names.lookup x = some .local) (hy : X.env.scope.names.lookup y = some .local) (ha : PE X a' (tE X T F Z a)) (hb : PE X b' (tE X T F Z b)) (sa : notStar a' = true) (sb : notStar b' = true)
    (hw : swappedStores [.Tuple [.Name x px, .Name y py] kt pt] (.Tuple [a', b'] k2 pt2) X.env = pure (some [x, y])) :
    PS X (.Assign [.Tuple [.Name x px, .Name y py] kt pt] (.Tuple [a', b'] k2 pt2) pos) (tS X T Z (ex F M (.par i j a b))) := by
  refine wkS (ps_par hc hN hi hj hij hx hy (pa_cons ha (pa_cons hb pa_nil (star_of sb)) (star_of sa)) hw) ?_
  rintro En σ H ⟨ρ, W, R, h⟩
  refine ⟨ρ, W, R, (PostE.bind h).post R fun p1 ρ1 h1 v H1 W1 o1 => ⟨ρ1, W1, o1.go.rel, (((PostE.bind h1).move o1.go.s).post o1.go.rel fun p2 ρ2 h2 u H2 W2 o2 => ?_)⟩⟩
  dsimp only at h2
  split at h2
  · rename_i x y
    obtain ⟨ρ', e1, h3⟩ := PostS.val .putVs h2
    refine ⟨v, u, rfl, ?_⟩
    have rx : RepD T.K H2 W2 v x := RepD.adv o1.go.rel.wl (o2.go.step.adv o1.go.rel) (show RepD T.K H1 W1 v x from o1.rep)
    have ry : RepD T.K H2 W2 u y := o2.rep
    obtain ⟨g, _⟩ := puts_go (vs := [v, u]) o2.go.rel e1 ⟨v, [u], rfl, rx, u, [], rfl, ry, rfl⟩
    exact h3 _ _ _ ((o1.go.trans o2.go).s.trans g)
  · exact h2.elim
theorem st_setI {i : Nat} {ix e : Ex} {y : Str} {yp ip pos : Pos} {ix' v : Expr} (hsl : notSlice ix' = true) (hv : PE X (.Name y yp) (tVar i)) (hi : PE X ix' (tE X T F Z ix)) (he : PE X v (tE X T F Z e)) : PS X (.Assign [.Subscript (.Name y yp) ix' ip] v pos) (tS X T Z (ex F M (.setI i ix e))) := by
  have hs : swapsWithSole [.Subscript (.Name y yp) ix' ip] v pos.line X.env = pure false := by
    show swapsWith v (some (.Subscript (.Name y yp) ix' ip)) pos.line X.env = pure false
    cases v <;> rfl
  refine wkS (ps_asg he (pg_sub hv hi set_list (by cases ix' <;> first | (intro _; rfl) | cases hsl)) hs rfl rfl) ?_
  rintro En σ H ⟨ρ, W, R, h⟩
  refine ⟨ρ, W, R, (PostE.bind h).post R fun p1 ρ1 h1 v H1 W1 o1 => ?_⟩
  obtain ⟨⟨p0, ρ0⟩, e0, h1⟩ := PostS.val .evVar h1
  obtain ⟨e00, v0, s0, q0⟩ := slot_peek e0 o1.go.rel
  subst e00
  refine ⟨v0, s0, ρ0, W1, o1.go.rel, ((PostE.bind h1).move o1.go.s).post o1.go.rel fun p2 ρ2 h2 u H2 W2 o2 => ?_⟩
  have o1' := o1.later o2.go
  obtain ⟨⟨d, ρ3⟩, e3, h2⟩ := PostS.val .of h2
  obtain ⟨W3, g3, r3⟩ := o1'.data (of_ok e3)
  obtain ⟨k, e4, h2⟩ := PostS.val .pk h2
  obtain ⟨ρ', e5, h2⟩ := PostS.val (.mutSlot fun _ => .dSet) h2
  -- the index stands behind the freezing
  obtain ⟨W3', R3', r3', s3', m3', l3'⟩ := toD_ok o1'.go.rel o1'.rep (of_ok e3)
  have rp2 : RepP T σ H2 ρ3 W3' u p2 := o2.rep.stepX o2.go.rel s3' m3' (tmp_w o1'.rep) fun d a e1 e2 z => by
    subst e1
    cases p1 with
    | val d => exact z
    | at_ j => exact z
    | own d1 =>
      have n2 := o2.new d rfl a e2
      obtain ⟨a', o', ea, ha, _⟩ := o1.rep
      rw [show v = .ref a from z] at ea
      cases ea
      rw [n2] at ha; cases ha
  have kk := peek_ok R3' rp2 (pk_of e4)
  have rel3 : Go T σ H ρ W H2 ρ3 W3' := ⟨R3', o1'.go.step.then s3' fun a z => by
    cases p1 with
    | val d => exact z.elim
    | at_ j => exact z.elim
    | own d1 => exact o1.new d1 rfl a z, o1'.go.mon.trans m3', o1'.go.dom, o1'.go.lk.trans l3'⟩
  exact set_slot R3' s0 kk r3' e5 fun H' g => h2 _ _ _ (rel3.trans g).s
theorem st_aug {i : Nat} {op : Operator} {e : Ex} {y : Str} {yp pos : Pos} {v : Expr} (hN : X.N.Nodup) (hi : X.N[i]? = some y) (hl : Loc X.env.scope y) (hf : X.fn y = true) (he : PE X v (tE X T F Z e)) : PS X (.AugAssign (.Name y yp) op v pos) (tS X T Z (ex F M (.aug i op e))) := by
  refine wkS (ps_aug hN hi hl he (ip_aug op) (.inl hf)) ?_
  rintro En σ H ⟨ρ, W, R, h⟩
  simp only [ex] at h
  split at h
  · rename_i x es
    obtain ⟨o, e1, v0, rfl, r0⟩ := R.at_ i _ es
    refine ⟨v0, e1, ρ, W, R, (PostE.bind h).post R fun p1 ρ1 h1 u H1 W1 o1 => ?_⟩
    obtain ⟨y, ey, h1⟩ := PostS.val .pk h1
    obtain ⟨z, ez, h1⟩ := PostS.val .dAug h1
    obtain ⟨ρ', e5, h1⟩ := PostS.val .putV h1
    refine aug_ok (K := T.K) (W := W1) (RepD.k (r0.adv R.wl (o1.go.step.adv R))) (peek_ok o1.go.rel o1.rep (pk_of ey)) ez fun w rw' => ?_
    obtain ⟨g, _⟩ := put_go o1.go.rel e5 rw'
    exact h1 _ _ _ (o1.go.s.trans g)
  · exact h.elim
theorem st_augI {i : Nat} {op : Operator} {ix e : Ex} {y : Str} {yp ip pos : Pos} {ix' v : Expr} (hsl : notSlice ix' = true) (tk : T.K = X.K) (hv : PE X (.Name y yp) (tVar i)) (hi : PE X ix' (tE X T F Z ix)) (he : PE X v (tE X T F Z e)) : PS X (.AugAssign (.Subscript (.Name y yp) ix' ip) op v pos) (tS X T Z (ex F M (.augI i op ix e))) := by
  refine wkS (ps_augS hv hi get_listP he (ip_aug op) set_list (by cases ix' <;> first | (intros; rfl) | cases hsl)) ?_
  rintro En σ H ⟨ρ, W, R, h⟩
  obtain ⟨⟨p0, ρ0⟩, e0, h⟩ := PostS.val (r := evVar i ρ) .evVar h
  obtain ⟨e00, v0, s0, q0⟩ := slot_peek e0 R
  subst e00
  refine ⟨v0, s0, ρ0, W, R, (PostE.bind h).post R fun p1 ρ1 h1 u H1 W1 o1 => ?_⟩
  obtain ⟨x, ex0, h1⟩ := PostS.val .pk h1
  have h1' : isLst x = true ∧ PostS X Z T ((pk p1 ρ1).bind fun k => (dIdx x k).bind fun u => (ev F e ρ1).bind fun r => (pk r.1 r.2).bind fun y => (dAug op u y).bind fun z => (mutSlot i r.2 fun d => dSet d k z).bind fun ρ' => .ok (.nx, ρ')) σ H ρ0 W En := by
    dsimp only at h1
    unfold need at h1
    split at h1
    · exact ⟨by assumption, h1⟩
    · exact h1.elim
  obtain ⟨lx, h1⟩ := h1'
  obtain ⟨k, ek, h1⟩ := PostS.val .pk h1
  obtain ⟨w, ew, h1w⟩ := PostS.val .dIdx h1
  clear h1
  have kx := peek_ok o1.go.rel (q0.step R o1.go.step o1.go.mon) (pk_of ex0)
  have kk := peek_ok o1.go.rel o1.rep (pk_of ek)
  cases x with
  | lst l =>
    obtain ⟨a, us, ea, ha, r⟩ := kx.lst
    cases k with
    | int n =>
      obtain ⟨vw, e2, rw2⟩ := atI_rep r (of_ok (show Rs.of (atI l n) = .ok w from ew))
      refine ⟨a, us, n, vw, ea, kk.int, by rw [← tk]; exact .of ha, e2, ρ1, W1, o1.go.rel, ((PostE.bind h1w).move o1.go.s).post o1.go.rel fun p2 ρ2 h2 u2 H2 W2 o2 => ?_⟩
      obtain ⟨y, ey, h2⟩ := PostS.val .pk h2
      obtain ⟨z, ez, h2⟩ := PostS.val .dAug h2
      obtain ⟨ρ', e5, h2⟩ := PostS.val (.mutSlot fun _ => .dSet) h2
      refine aug_ok (K := T.K) (W := W2) (RepD.k (rw2.adv o1.go.rel.wl (o2.go.step.adv o1.go.rel))) (peek_ok o2.go.rel o2.rep (pk_of ey)) ez fun w' rw' => ?_
      refine set_slot o2.go.rel s0 (k := .int n) (.inr kk.int) rw' e5 fun H' g => h2 _ _ _ ((o1.go.trans o2.go).trans g).s
    | _ => cases ew
  | _ => cases lx
theorem st_expr {e : Ex} {v : Expr} {pos : Pos} (hn : notComp v = true) (he : PE X v (tE X T F Z e)) : PS X (.Expr v pos) (tS X T Z (ex F M (.expr e))) := by
  refine wkS (ps_expr he (swap_no hn)) ?_
  rintro En σ H ⟨ρ, W, R, h⟩
  exact ⟨ρ, W, R, (PostE.bind h).post R fun p1 ρ1 h1 v H1 W1 o1 => h1 _ _ _ o1.go.s⟩
theorem st_ret {e : Ex} {v : Expr} {pos : Pos} (he : PE X v (tE X T F Z e)) : PS X (.Return (some v) pos) (tS X T Z (ex F M (.ret e))) := by
  refine wkS (ps_ret he) ?_
  rintro En σ H ⟨ρ, W, R, h⟩
  exact ⟨ρ, W, R, (PostE.bind h).post R fun p1 ρ1 h1 v H1 W1 o1 => h1 _ _ _ _ (OutS.of o1)⟩
theorem st_retN {pos : Pos} : PS X (.Return none pos) (tS X T Z (ex F M .retN)) := by
  refine wkS ps_retN ?_
  rintro En σ H ⟨ρ, W, R, h⟩
  exact h .non σ H W ⟨GoS.refl R, rfl, fun _ e => by cases e⟩
theorem st_ite {c : Tx} {a b : Sxs} {c' : Expr} {a' b' : List Stmt} {pos : Pos} (hc : PT X c' (tT X T F Z c)) (ha : PSs X a' (tS X T Z (exs F M a))) (hb : PSs X b' (tS X T Z (exs F M b))) : PS X (.If c' a' b' pos) (tS X T Z (ex F M (.ite c a b))) := by
  refine wkS (ps_if hc ha hb) ?_
  rintro En σ H ⟨ρ, W, R, h⟩
  refine ⟨ρ, W, R, (PostE.bind h).post R fun k ρ1 h1 H1 W1 g1 => ?_⟩
  cases k with
  | true => rw [if_pos rfl]; exact ⟨ρ1, W1, g1.rel, PostS.move h1 g1.s⟩
  | false => rw [if_neg (by simp)]; exact ⟨ρ1, W1, g1.rel, PostS.move h1 g1.s⟩
theorem st_whl {c : Tx} {b : Sxs} {c' : Expr} {b' : List Stmt} {pos : Pos} (hp : PassesOwn (model X.prog X.w) X.A X.env X.xe) (hc : PT X c' (tT X T F Z c)) (hb : PSs X b' (tS X T Z (exs F M b))) : PS X (.While c' b' [] pos) (tS X T Z (ex F M (.whl c b))) := by
  refine wkS (ps_while hp hc hb) ?_
  rintro En σ H ⟨ρ, W, R, h⟩
  refine ⟨fun m σ H => ∃ ρ W, Rel T σ H ρ W ∧ PostS X Z T (whileR (evT F c) (exs F M b) m ρ) σ H ρ W En, ⟨M, ρ, W, R, h⟩, ?_⟩
  rintro m σ H ⟨ρ, W, R, h⟩
  cases m with
  | zero => exact h.elim
  | succ m =>
    refine ⟨ρ, W, R, (PostE.bind (r := evT F c ρ) h).post R fun k ρ1 h1 H1 W1 g1 => ?_⟩
    cases k with
    | false => rw [if_neg (by simp)]; exact h1 _ _ _ g1.s
    | true =>
      rw [if_pos rfl]
      refine ⟨fun σ H => ∃ ρ W, Rel T σ H ρ W ∧ PostS X Z T (whileR (evT F c) (exs F M b) m ρ) σ H ρ W En, fun σ' H' q => ⟨m, Nat.lt_succ_self m, q⟩, ρ1, W1, g1.rel, ?_⟩
      have h2 : PostS X Z T ((exs F M b ρ1).bind fun q => match q.1 with
        | .nx => whileR (evT F c) (exs F M b) m q.2
        | .ct => whileR (evT F c) (exs F M b) m q.2
        | .bk => .ok (.nx, q.2)
        | .rt p => .ok (.rt p, q.2)) σ H1 ρ1 W1 En := PostS.move h1 g1.s
      cases e : exs F M b ρ1 with
      | bad => rw [e] at h2; exact h2
      | err er => rw [e] at h2; exact h2
      | ok q =>
        obtain ⟨f, ρ2⟩ := q
        rw [e] at h2
        cases f with
        | nx => exact fun σ' H' W' g => ⟨ρ2, W', g.rel, PostS.move h2 g⟩
        | ct => exact fun σ' H' W' g => ⟨ρ2, W', g.rel, PostS.move h2 g⟩
        | bk => exact h2
        | rt p => exact h2
theorem st_for {tg : Tg} {it : Ie} {b : Sxs} {tg' it' : Expr} {b' : List Stmt} {pos : Pos} (tk : T.K = X.K) (hp : PassesOwn (model X.prog X.w) X.A X.env X.xe) (hc : X.calm = true) (hi : PI X tg' it' (tI X T F Z it)) (hg : PG X tg' (gT X.K tg)) (hb : PSs X b' (tS X T Z (exs F M b)))
    (hs : ∀ x, foldedSetIterable it' X.env x = pure x) : PS X (.For tg' it' b' [] pos) (tS X T Z (ex F M (.for_ tg it b))) := by
  refine wkS (ps_for hp hc hi hg hb hs) ?_
  rintro En σ H ⟨ρ, W, R, h⟩
  refine ⟨ρ, W, R, (PostE.bind h).post R fun lp ρ1 h1 J H1 W1 g1 feed => ?_⟩
  obtain ⟨l, p⟩ := lp
  dsimp only at h1 feed
  generalize hbody : (fun (d : D) (ρ1 : Env') => (asgT tg d ρ1).bind (exs F M b)) = body at h1
  have h1 : PostS X Z T ((forR body l (lockP p ρ1).2).bind (endFor (lockP p ρ1).1)) σ H1 ρ1 W1 En := PostS.move h1 g1.s
  have gl := lock_go g1.rel p
  refine ⟨fun i m σ' H' => m = l.length - i ∧ i ≤ l.length ∧ ∃ ρi Wi, Rel T σ' H' ρi Wi ∧ GoS T σ H1 (lockP p ρ1).2 W1 σ' H' ρi Wi ∧ forR body l (lockP p ρ1).2 = forR body (l.drop i) ρi,
    ⟨_, rfl, Nat.zero_le _, _, _, gl.rel, GoS.refl gl.rel, rfl⟩, ?_⟩
  rintro i m σ' H' ⟨rfl, hil, ρi, Wi, Ri, gi, ei⟩
  obtain ⟨fd, fs⟩ := feed _ _ _ _ Ri gi.step
  by_cases hlt : i < l.length
  · have hd : l[i]? = some l[i] := List.getElem?_eq_getElem hlt
    refine .inr ⟨(fd i _ hd).1, fun σ' H' => ∃ ρi Wi, Rel T σ' H' ρi Wi ∧ GoS T σ H1 (lockP p ρ1).2 W1 σ' H' ρi Wi ∧ forR body l (lockP p ρ1).2 = forR body (l.drop (i + 1)) ρi, fun σ2 H2 q => ⟨_, by omega, rfl, hlt, q⟩, fun x H2 y => ?_⟩
    obtain ⟨ly, rx⟩ := (fd i _ hd).2 x H2 y
    rw [drop_cons hd] at ei
    have ei : forR body l (lockP p ρ1).2 = (body l[i] ρi).bind fun q => match q.1 with
      | .nx => forR body (l.drop (i + 1)) q.2
      | .ct => forR body (l.drop (i + 1)) q.2
      | .bk => .ok (.nx, q.2)
      | .rt p => .ok (.rt p, q.2) := ei
    rw [ei] at h1
    have hbi : body l[i] ρi = (asgT tg l[i] ρi).bind (exs F M b) := by rw [← hbody]
    rw [hbi] at h1 ei
    have gy := Lay.go Ri ly
    cases ea : asgT tg l[i] ρi with
    | bad => rw [ea] at h1; exact h1.elim
    | err x => exact absurd ea (NoErr.asgT x)
    | ok ρ2 =>
      rw [ea] at h1 ei
      rw [← tk]
      refine gT_ok gy.rel ea rx fun σ3 g3 _ _ => ?_
      have gg := (gi.trans gy.s).trans g3
      refine ⟨ρ2, Wi, g3.rel, ?_⟩
      cases e : exs F M b ρ2 with
      | bad =>
        rw [show (Rs.ok ρ2).bind (exs F M b) = exs F M b ρ2 from rfl, e] at h1
        exact h1.elim
      | err er =>
        rw [show (Rs.ok ρ2).bind (exs F M b) = exs F M b ρ2 from rfl, e] at h1
        have h1 : ErrS X Z T er σ H1 ρ1 W1 := h1
        exact fun σ4 H4 ρ4 W4 g4 => h1 _ _ _ _ (gl.s.trans (gg.trans g4))
      | ok q =>
        obtain ⟨f, ρ4⟩ := q
        rw [show (Rs.ok ρ2).bind (exs F M b) = exs F M b ρ2 from rfl, e] at h1 ei
        cases f with
        | nx => exact fun σ4 H4 W4 g4 => ⟨ρ4, W4, g4.rel, gg.trans g4, ei⟩
        | ct => exact fun σ4 H4 W4 g4 => ⟨ρ4, W4, g4.rel, gg.trans g4, ei⟩
        | bk =>
          intro σ4 H4 W4 g4
          have h1 : PostS X Z T ((unlock (lockP p ρ1).1 ρ4).bind fun ρ => .ok (.nx, ρ)) σ H1 ρ1 W1 En := h1
          obtain ⟨ρ5, e5, h1⟩ := PostS.val .unlock h1
          exact h1 _ _ _ (unlock_go g1.rel (gg.trans g4) e5)
        | rt p2 =>
          intro v σ4 H4 W4 o4
          have h1 : EndS T σ H1 ρ1 W1 En (.rt p2) ρ4 := h1
          exact h1 v _ _ _ ((gl.s.trans gg).out o4)
  · have e : i = l.length := by omega
    subst e
    refine .inl ⟨fs, ?_⟩
    rw [List.drop_length] at ei
    rw [ei] at h1
    have h1 : PostS X Z T ((unlock (lockP p ρ1).1 ρi).bind fun ρ => .ok (.nx, ρ)) σ H1 ρ1 W1 En := h1
    obtain ⟨ρ5, e5, h1⟩ := PostS.val .unlock h1
    exact h1 _ _ _ (unlock_go g1.rel gi e5)
end
end Dv

set_option Elab.async false
set_option linter.all false
set_option maxRecDepth 100000
set_option maxHeartbeats 2000000
namespace Dv
open PySem PySem.Spec PyProof.Rows L2

section
variable {T : Tc} {F : Fn} {G : Gn} {np : Nat} {M : Nat}
theorem loc_of {sc : Scope} {x : Str} (h : isLoc sc x = true) : Loc sc x := by
  unfold isLoc at h
  split at h
  · rename_i e; exact .inl e
  · rename_i e; exact .inr e
  · cases h
theorem local_of {sc : Scope} {x : Str} (h : isLocal sc x = true) : sc.names.lookup x = some .local := by
  unfold isLocal at h
  split at h
  · rename_i e; exact e
  · cases h
theorem aug_of {a b : Operator} (h : augEq a b = true) : a = b := by cases a <;> cases b <;> first | rfl | cases h
/-- what a def's body runs in -/
structure Env2 (X : Cx) (T : Tc) (F : Fn) (Z : WX) (G : Gn) (np : Nat) : Prop extends Env1 X T F Z G np where
  fnT : ∀ x, X.fn x = true
  kind : X.env.scope.kind = .function
  po : PassesOwn (model X.prog X.w) X.A X.env X.xe
/-- a comprehension stored at once -/
theorem comp_set {X : Cx} {Z : WX} (E : Env1 X T F Z G np) {e : Ex} {v : Expr} {i : Nat} {y : Str} {py pos : Pos} (hy : X.N[i]? = some y) (h : ckE G X.N np X.env.scope e v = true) (hn : notComp v = false) (hl : isLocal X.env.scope y = true) (hsw : swapsWith v (some (.Name y py)) pos.line X.env = pure true) :
    PS X (.Assign [.Name y py] v pos) (tAsg (tE X T F Z e) (gName i)) := by
  cases v with
  | ListComp elt' gs scope cpos =>
    cases e with
    | comp elt tg it ifs own =>
      rcases gs with _ | ⟨⟨tg', it', ifs', as⟩, _ | ⟨_, _⟩⟩
      · cases h
      · obtain ⟨h1, h2⟩ := and2 h
        obtain ⟨h3, h4⟩ := and2 h1
        obtain ⟨h5, h6⟩ := and2 h3
        obtain ⟨h7, h8⟩ := and2 h5
        obtain ⟨h9, h10⟩ := and2 h7
        obtain ⟨h11, h12⟩ := and2 h9
        obtain ⟨h13, h14⟩ := and2 h11
        obtain ⟨h15, h16⟩ := and2 h13
        have h0 : as = 0 := of_decide_eq_true h15
        subst h0
        have ok := blkOk_by h12
        have ow : (own.map fun i => (X.N.getD i ⟨#[]⟩, i)).map (·.2) = own := by rw [List.map_map]; exact List.map_id' own
        have pc := ps_setLc (py := py) (spos := pos) (g := gT X.K tg) (wi := tI X T F Z it) (tt := tCl X T F Z0 ifs) (te := tE X T F Z0 elt) E.calm E.nd hy (local_of hl) hsw (snd_I it E h16) ok
          (fun s H C cl fp => tg_ok (X := X.blk s H scope (compEnvC scope cl C X.env) fp) (sc := scope) E.calm E.nd (fun x hx => by
            unfold isLoc at hx
            split at hx
            · rename_i e
              have : (relS scope X.env.scope).names.lookup x = some .local := lookup_relS_keep (by decide) e
              exact ⟨.inl this, .inr this⟩
            · rename_i e
              have : (relS scope X.env.scope).names.lookup x = some .cell := lookup_relS_keep (by decide) e
              exact ⟨.inr this, .inl (by show (scope.names.lookup x == some .cell) = true; rw [e]; rfl)⟩
            · cases hx) h6)
          (fun s H C cl fp => snd_C ifs (E.blk s H scope (compEnvC scope cl C X.env) fp) h4)
          (fun s H C cl fp => snd_E elt (E.blk s H scope (compEnvC scope cl C X.env) fp) h2) (fold_of h14)
        rw [ow] at pc
        refine wkS pc fun D σ H q => ?_
        refine comp_tLc E.tk (fun i hi => ?_) (fun i hi => ?_) q
        · cases hb : T.bm i with
          | none => rfl
          | some a =>
            have := E.bm i a hb
            rw [List.all_eq_true] at h10
            have h3 := of_decide_eq_true (h10 i hi)
            omega
        · rw [List.all_eq_true] at h8
          exact of_decide_eq_true (h8 i hi)
      · simp [ckE] at h
    | _ => simp [ckE, asCall] at h
  | SetComp _ _ _ _ => cases e <;> simp [ckE, asCall] at h
  | DictComp _ _ _ _ _ => cases e <;> simp [ckE, asCall] at h
  | _ => cases hn

theorem sole_no {v t : Expr} {n : Nat} {env : Env} (h : notComp v = true) : swapsWithSole [t] v n env = pure false := by
  unfold swapsWithSole
  exact swap_no h
theorem ck_two {s : Sx} {t u : Expr} {r : List Expr} {v : Expr} {pos : Pos} {N : List Str} {sc : Scope} (h : ckS G N np sc s (.Assign (t :: u :: r) v pos) = true) : False := by
  cases s <;> cases t <;> first | (cases h; done) | (rename_i es _ _; rcases es with _ | ⟨x, _ | ⟨y, _ | ⟨_, _⟩⟩⟩ <;> first | (cases h; done) | (cases x <;> first | (cases h; done) | (cases y <;> cases h))) | (rename_i o _ _; cases o <;> cases h)
theorem par_of {i j : Nat} {a b : Ex} {s' : Stmt} {N : List Str} {sc : Scope} (h : ckS G N np sc (.par i j a b) s' = true) : ∃ x px y py kt pt a' b' k2 pt2 pos, s' = .Assign [.Tuple [.Name x px, .Name y py] kt pt] (.Tuple [a', b'] k2 pt2) pos := by
  unfold ckS at h
  split at h
  all_goals first | (rename_i e _; cases e; done) | (cases h; done) | skip
  all_goals first | (simp_all; done) | skip
mutual
theorem snd_S : ∀ (s : Sx) {X : Cx} {Z : WX} (E : Env2 X T F Z G np) {s' : Stmt}, ckS G X.N np X.env.scope s s' = true → PS X s' (tS X T Z (ex F M s))
  | .set i e, X, Z, E, s', h => by
    cases s' with
    | Assign ts v pos =>
      rcases ts with _ | ⟨t, _ | ⟨_, _⟩⟩
      · cases h
      · cases t with
        | Name y py =>
          obtain ⟨h1, h2⟩ := and2 h
          obtain ⟨h3, h4⟩ := and2 h1
          obtain ⟨h5, h6⟩ := and2 h3
          have hy := of_decide_eq_true h5
          exact wkS (set_ok E.nd hy (loc_of h6) (E.fnT _) E.kind h4 (snd_E e E.toEnv1 h2) fun hn hl hsw => comp_set E.toEnv1 hy h2 hn hl hsw) fun D σ H q => set_read (F := F) q
        | _ => cases h
      · exact (ck_two h).elim
    | _ => cases h
  | .setT l e, X, Z, E, s', h => by
    cases s' with
    | Assign ts v pos =>
      rcases ts with _ | ⟨t, _ | ⟨_, _⟩⟩
      · cases h
      · cases t with
        | Tuple es k tp =>
          obtain ⟨h1, h2⟩ := and2 h
          obtain ⟨h3, h4⟩ := and2 h1
          obtain ⟨h5, h6⟩ := and2 h3
          have hg := tg_ok (X := X) (sc := X.env.scope) E.calm E.nd (fun x hx => ⟨loc_of hx, .inl (E.fnT x)⟩) h4
          exact st_setT E.tk (snd_E e E.toEnv1 h2) hg (sole_no h6) (by cases v <;> first | rfl | cases h5) rfl
        | _ => cases h
      · exact (ck_two h).elim
    | _ => cases h
  | .par i j a b, X, Z, E, s', h => by
    obtain ⟨x, px, y, py, kt, pt, a', b', k2, pt2, pos, rfl⟩ := par_of h
    obtain ⟨h1, h2⟩ := and2 h
    obtain ⟨h3, h4⟩ := and2 h1
    obtain ⟨h5, h6⟩ := and2 h3
    obtain ⟨h7, h8⟩ := and2 h5
    obtain ⟨h9, h10⟩ := and2 h7
    have hw := par_swap (pt := pt) (pt2 := pt2) (kt := kt) (k2 := k2) E.kind h6
    obtain ⟨g1, g2⟩ := and2 h6
    obtain ⟨g3, g4⟩ := and2 g1
    obtain ⟨g5, g6⟩ := and2 g3
    obtain ⟨g7, g8⟩ := and2 g5
    obtain ⟨g9, g10⟩ := and2 g7
    obtain ⟨g11, g12⟩ := and2 g9
    obtain ⟨g13, g14⟩ := and2 g11
    exact st_par E.calm E.nd (of_decide_eq_true h9) (of_decide_eq_true h10) (of_decide_eq_true h8) (local_of g13) (local_of g14) (snd_E a E.toEnv1 h4) (snd_E b E.toEnv1 h2) g8 g6 hw
  | .setI i ix e, X, Z, E, s', h => by
    cases s' with
    | Assign ts v pos =>
      rcases ts with _ | ⟨t, _ | ⟨_, _⟩⟩
      · cases h
      · cases t with
        | Subscript o ix' ip =>
          cases o with
          | Name y yp =>
            obtain ⟨h1, h2⟩ := and2 h
            obtain ⟨h3, h4⟩ := and2 h1
            obtain ⟨h5, h6⟩ := and2 h3
            obtain ⟨h7, h8⟩ := and2 h5
            obtain ⟨h9, h10⟩ := and2 h7
            obtain ⟨n1, n2, n3⟩ := name_of h8
            exact st_setI h6 (pe_var (of_decide_eq_true h9) (vis_of h10) n1 n2) (snd_E ix E.toEnv1 h4) (snd_E e E.toEnv1 h2)
          | _ => cases h
        | _ => cases h
      · exact (ck_two h).elim
    | _ => cases h
  | .aug i op e, X, Z, E, s', h => by
    cases s' with
    | AugAssign t op' v pos =>
      cases t with
      | Name y yp =>
        obtain ⟨h1, h2⟩ := and2 h
        obtain ⟨h3, h4⟩ := and2 h1
        obtain ⟨h5, h6⟩ := and2 h3
        have ho : op = op' := aug_of h5
        subst ho
        exact st_aug E.nd (of_decide_eq_true h6) (loc_of h4) (E.fnT _) (snd_E e E.toEnv1 h2)
      | _ => cases h
    | _ => cases h
  | .augI i op ix e, X, Z, E, s', h => by
    cases s' with
    | AugAssign t op' v pos =>
      cases t with
      | Subscript o ix' ip =>
        cases o with
        | Name y yp =>
          obtain ⟨h1, h2⟩ := and2 h
          obtain ⟨h3, h4⟩ := and2 h1
          obtain ⟨h5, h6⟩ := and2 h3
          obtain ⟨h7, h8⟩ := and2 h5
          obtain ⟨h9, h10⟩ := and2 h7
          obtain ⟨h11, h12⟩ := and2 h9
          have ho : op = op' := aug_of h11
          subst ho
          obtain ⟨n1, n2, n3⟩ := name_of h8
          exact st_augI h6 E.tk (pe_var (of_decide_eq_true h12) (vis_of h10) n1 n2) (snd_E ix E.toEnv1 h4) (snd_E e E.toEnv1 h2)
        | _ => cases h
      | _ => cases h
    | _ => cases h
  | .expr e, X, Z, E, s', h => by
    cases s' with
    | Expr v pos =>
      obtain ⟨h1, h2⟩ := and2 h
      exact st_expr h1 (snd_E e E.toEnv1 h2)
    | _ => cases h
  | .ret e, X, Z, E, s', h => by
    cases s' with
    | Return v pos =>
      cases v with
      | some v => exact st_ret (snd_E e E.toEnv1 h)
      | none => cases h
    | _ => cases h
  | .retN, X, Z, E, s', h => by
    cases s' with
    | Return v pos =>
      cases v with
      | some v => cases h
      | none => exact st_retN
    | _ => cases h
  | .ite c a b, X, Z, E, s', h => by
    cases s' with
    | If c' a' b' pos =>
      obtain ⟨h1, h2⟩ := and2 h
      obtain ⟨h3, h4⟩ := and2 h1
      exact st_ite (snd_T c E.toEnv1 h3) (snd_Ss a E h4) (snd_Ss b E h2)
    | _ => cases h
  | .whl c b, X, Z, E, s', h => by
    cases s' with
    | While c' b' el pos =>
      cases el with
      | nil =>
        obtain ⟨h1, h2⟩ := and2 h
        exact st_whl E.po (snd_T c E.toEnv1 h1) (snd_Ss b E h2)
      | cons _ _ => cases h
    | _ => cases h
  | .for_ tg it b, X, Z, E, s', h => by
    cases s' with
    | For tg' it' b' el pos =>
      cases el with
      | nil =>
        obtain ⟨h1, h2⟩ := and2 h
        obtain ⟨h3, h4⟩ := and2 h1
        obtain ⟨h5, h6⟩ := and2 h3
        have hg := tg_ok (X := X) (sc := X.env.scope) E.calm E.nd (fun x hx => ⟨loc_of hx, .inl (E.fnT x)⟩) h4
        exact st_for E.tk E.po E.calm (snd_I it E.toEnv1 h5) hg (snd_Ss b E h2) (fold_of h6)
      | cons _ _ => cases h
    | _ => cases h
  | .brk, X, Z, E, s', h => by
    cases s' with
    | Break pos =>
      refine wkS ps_break ?_
      rintro En σ H ⟨ρ, W, R, h⟩
      exact h _ _ _ (GoS.refl R)
    | _ => cases h
  | .cnt, X, Z, E, s', h => by
    cases s' with
    | Continue pos =>
      refine wkS ps_continue ?_
      rintro En σ H ⟨ρ, W, R, h⟩
      exact h _ _ _ (GoS.refl R)
    | _ => cases h
  | .pass, X, Z, E, s', h => by
    cases s' with
    | Pass pos =>
      refine wkS ps_pass ?_
      rintro En σ H ⟨ρ, W, R, h⟩
      exact h _ _ _ (GoS.refl R)
    | _ => cases h
theorem snd_Ss : ∀ (l : Sxs) {X : Cx} {Z : WX} (E : Env2 X T F Z G np) {l' : List Stmt}, ckSs G X.N np X.env.scope l l' = true → PSs X l' (tS X T Z (exs F M l))
  | .nil, X, Z, E, l', h => by
    cases l' with
    | nil =>
      refine wkSs pss_nil ?_
      rintro En σ H ⟨ρ, W, R, h⟩
      exact h _ _ _ (GoS.refl R)
    | cons _ _ => cases h
  | .cons s l, X, Z, E, l', h => by
    cases l' with
    | nil => cases h
    | cons s' l' =>
      obtain ⟨h1, h2⟩ := and2 h
      refine wkSs (pss_cons (snd_S s E h1) (snd_Ss l E h2)) ?_
      rintro En σ H ⟨ρ, W, R, h⟩
      refine ⟨ρ, W, R, ?_⟩
      have h : PostS X Z T ((ex F M s ρ).bind fun q => match q.1 with
        | .nx => exs F M l q.2
        | _ => .ok q) σ H ρ W En := h
      cases e : ex F M s ρ with
      | bad => rw [e] at h; exact h
      | err er => rw [e] at h; exact h
      | ok q =>
        obtain ⟨f, ρ1⟩ := q
        rw [e] at h
        cases f with
        | nx => exact fun σ' H' W' g => ⟨ρ1, W', g.rel, PostS.move h g⟩
        | bk => exact h
        | ct => exact h
        | rt p => exact h
end
end
end Dv

set_option Elab.async false
set_option linter.all false
set_option maxRecDepth 100000
set_option maxHeartbeats 1000000
namespace Dv
open PySem PySem.Spec PyProof.Rows L2

/-! ### a def keeps its promise -/
/-- what is known of a def, wherever it is called from -/
structure DefK (P : Program) (w : World) (K : PySem.W.Frag) (mg : Str → Option Value) (base : Heap) (F : Fn) (k : Nat) (f : Str) (np mn : Nat) : Prop where
  ex : ∃ (fa : Addr) (fd : FuncData) (ps : List Str), FnOk P w K mg base (L2.CX P w) k fa fd ps (spOf F mg K ps.length f) ∧ mg f = some (.ref fa) ∧ PySem.W.keepIn K (.ref fa) = true ∧
    ps.length = np ∧ (∀ as, F.call f as ≠ .bad → as.length = np) ∧
    ∀ n, mn ≤ n → n ≤ np → ∃ (ds : List Value) (dvs : List V), Binds K fd ps ds ∧ Vals dvs ds ∧ ∀ H W, RepDs K H W dvs (F.dfl f n)
theorem DefK.mono {P : Program} {w : World} {K : PySem.W.Frag} {mg : Str → Option Value} {base : Heap} {F : Fn} {j k : Nat} {f : Str} {np mn : Nat} (h : DefK P w K mg base F j f np mn) (le : j ≤ k) : DefK P w K mg base F k f np mn := by
  obtain ⟨fa, fd, ps, h1, h2⟩ := h.ex
  exact ⟨fa, fd, ps, h1.mono le, h2⟩
/-- what is known of the module's names -/
structure GloK (K : PySem.W.Frag) (mg : Str → Option Value) (F : Fn) (G : Gn) : Prop where
  glo : ∀ x d, F.glo x = some d → ∃ u v, mg x = some u ∧ RelV v u ∧ ∀ H W, RepD K H W v d
  free : ∀ x ∈ G.free, mg x = none
  bt : ∀ p ∈ G.bt, mg p.1 = some (.builtin p.2)

theorem rs_bind {α β : Type} {r : Rs α} {f : α → Rs β} {y : β} (h : r.bind f = .ok y) : ∃ x, r = .ok x ∧ f x = .ok y := by
  cases r with
  | ok a => exact ⟨a, rfl, h⟩
  | err _ => cases h
  | bad => cases h

def bmOf (vs : List V) (as : List A) (i : Nat) : Option Addr := match as[i]?, vs[i]? with
  | some (.own _), some (.ref a) => some a
  | some (.rd _), some (.ref a) => some a
  | _, _ => none

section
variable {K : PySem.W.Frag} {H : Hp} {W : AS} {vs : List V} {as : List A} {N : List Str}
theorem env_get {i n : Nat} {s : S} (h : (envOf n as)[i]? = some (some s)) : ∃ a, as[i]? = some a ∧ s = a.slot := by
  unfold envOf at h
  by_cases hi : i < as.length
  · rw [List.getElem?_append_left (by simpa using hi), List.getElem?_map] at h
    cases e : as[i]? with
    | none => rw [e] at h; cases h
    | some a => rw [e] at h; cases h; exact ⟨a, rfl, rfl⟩
  · rw [List.getElem?_append_right (by simpa using hi), List.getElem?_replicate] at h
    split at h <;> cases h
theorem env_at {i n : Nat} {a : A} (h : as[i]? = some a) : (envOf n as)[i]? = some (some a.slot) := by
  have hi := (List.getElem?_eq_some_iff.mp h).1
  unfold envOf
  rw [List.getElem?_append_left (by simpa using hi), List.getElem?_map, h]
  rfl
theorem start_at {i : Nat} {v : V} (h : vs[i]? = some v) : (L2.start N vs)[i]? = some (some v) := by
  have hi := (List.getElem?_eq_some_iff.mp h).1
  unfold L2.start
  rw [List.getElem?_append_left (by simpa using hi), List.getElem?_map, h]
  rfl
theorem start_get {i : Nat} {v : V} (h : (L2.start N vs)[i]? = some (some v)) : vs[i]? = some v := by
  unfold L2.start at h
  by_cases hi : i < vs.length
  · rw [List.getElem?_append_left (by simpa using hi), List.getElem?_map] at h
    cases e : vs[i]? with
    | none => rw [e] at h; cases h
    | some a => rw [e] at h; cases h; rfl
  · rw [List.getElem?_append_right (by simpa using hi), List.getElem?_replicate] at h
    split at h <;> cases h
theorem bm_mut {i : Nat} {b : Addr} (h : bmOf vs as i = some b) : vs[i]? = some (.ref b) ∧ ∃ a, as[i]? = some a ∧ isMut a ∧ isBor a.slot := by
  unfold bmOf at h
  split at h
  · rename_i e1 e2; cases h; exact ⟨e2, _, e1, trivial, trivial⟩
  · rename_i e1 e2; cases h; exact ⟨e2, _, e1, trivial, trivial⟩
  · cases h
theorem own_arg {i n : Nat} {b : Addr} (h : OwnA (L2.start N vs) (envOf n as) i b) : vs[i]? = some (.ref b) ∧ ∃ a, as[i]? = some a ∧ isMut a := by
  obtain ⟨h1, h2⟩ := h
  refine ⟨start_get h2, ?_⟩
  rcases h1 with ⟨c, d, e⟩ | ⟨c, d, e⟩
  all_goals
    obtain ⟨a, e1, e2⟩ := env_get e
    refine ⟨a, e1, ?_⟩
    cases a <;> first | trivial | cases e2
theorem rel_start (wl : WL H W) (ar : ArgR K H W vs as) : Rel ⟨K, fun a => H a = none, bmOf vs as⟩ (L2.start N vs) H (envOf N.length as) W := by
  have hl := ar.length
  refine ⟨?_, fun i s h => ?_, fun i j b h1 h2 => ?_, wl, fun i d a h _ => ?_, fun _ h => h, fun i b h => ?_⟩
  · unfold envOf L2.start
    simp [hl]
  · obtain ⟨a, e1, rfl⟩ := env_get h
    obtain ⟨v, e2, q⟩ := ar.get e1
    refine ⟨_, start_at e2, ?_⟩
    cases a with
    | val d => exact ⟨v, rfl, q⟩
    | own d => obtain ⟨b, o, rfl, x, y, z⟩ := q; exact ⟨b, o, rfl, x, y, z⟩
    | rd d => obtain ⟨b, o, rfl, x, y, z⟩ := q; exact ⟨b, o, rfl, x, y, z⟩
  · obtain ⟨v1, a1, x1, m1⟩ := own_arg h1
    obtain ⟨v2, a2, x2, m2⟩ := own_arg h2
    exact ar.dst x1 x2 m1 m2 v1 v2
  · rcases h with h | h
    all_goals
      obtain ⟨x, _, e⟩ := env_get h
      cases x <;> cases e
  · obtain ⟨e, a, e1, _, e2⟩ := bm_mut h
    exact ⟨start_at e, a.slot, env_at e1, e2⟩

theorem outs_get : ∀ {as r : List A} {ρ : Env'}, outArgs as ρ = .ok r → ∀ (j : Nat) (a x : A), as[j]? = some a → r[j]? = some x → outArg a ρ[j]? = .ok x
  | [], _, _, _, _, _, _, e, _ => by simp at e
  | b :: as, r, ρ, h, j, a, x, e1, e2 => by
    unfold outArgs at h
    cases h1 : outArg b ρ.head? with
    | bad => rw [h1] at h; cases h
    | err _ => rw [h1] at h; cases h
    | ok y =>
      rw [h1] at h
      change (outArgs as ρ.tail).bind _ = _ at h
      cases h2 : outArgs as ρ.tail with
      | bad => rw [h2] at h; cases h
      | err _ => rw [h2] at h; cases h
      | ok t =>
        rw [h2] at h
        cases h
        cases j with
        | zero =>
          cases e1; cases e2
          rw [← List.head?_eq_getElem?]
          exact h1
        | succ j =>
          have := outs_get h2 j a x (by simpa using e1) (by simpa using e2)
          cases ρ <;> simpa using this

theorem outs_same : ∀ {as r : List A} {ρ ρ2 : Env'}, outArgs as ρ2 = .ok r → (∀ (j : Nat) (x : A), as[j]? = some x → (∃ d, x = .val d) ∨ ρ2[j]? = ρ[j]?) → outArgs as ρ = .ok r
  | [], _, _, _, h, _ => h
  | b :: as, r, ρ, ρ2, h, w => by
    unfold outArgs at h ⊢
    obtain ⟨y, h1, h2⟩ := rs_bind h
    obtain ⟨t, h3, h4⟩ := rs_bind h2
    have e1 : outArg b ρ.head? = .ok y := by
      rcases w 0 b rfl with ⟨d, rfl⟩ | e
      · exact h1
      · rw [List.head?_eq_getElem?, ← e, ← List.head?_eq_getElem?]; exact h1
    have e2 : outArgs as ρ.tail = .ok t := outs_same h3 fun j x hj => by
      have := w (j + 1) x (by simpa using hj)
      rw [List.getElem?_tail, List.getElem?_tail]
      exact this
    rw [e1]
    show (outArgs as ρ.tail).bind _ = _
    rw [e2]
    exact h4

theorem end_ok {T : Tc} {H' : Hp} {W' : AS} {σ' : Sg} {ρ' : Env'} {r : Re} {as' : List A} {v : V} (hT : T = ⟨K, fun a => H a = none, bmOf vs as⟩) (ar : ArgR K H W vs as) (g : GoS T (L2.start N vs) H (envOf N.length as) W σ' H' ρ' W') (ho : outArgs as ρ' = .ok as')
    (hr : ResR K H H' W' v r) : CallEnd K H W vs as r as' v H' W' := by
  subst hT
  refine ⟨fun b o h n => ?_, g.dom, g.rel.wl, fun j v a x e1 e2 e3 => ?_, hr⟩
  · obtain ⟨h1, _, h2⟩ := g.step b o h fun i ⟨⟨c, d, e⟩, q⟩ => by
      obtain ⟨a, e1, e2⟩ := env_get e
      cases a with
      | own d => exact n ⟨i, d, e1, start_get q⟩
      | _ => cases e2
    exact ⟨h1, h2⟩
  · have ho := outs_get ho j a x e2 e3
    cases a with
    | val d => cases x <;> trivial
    | rd d => cases x <;> trivial
    | own d =>
      obtain ⟨v', e4, b, o, rfl, _⟩ := ar.get e2
      rw [e1] at e4; cases e4
      have hb : bmOf vs as j = some b := by unfold bmOf; rw [e2, e1]
      obtain ⟨hs, s, hs2, _⟩ := g.rel.bor j b hb
      rw [hs2] at ho
      obtain ⟨o', e5, q⟩ := g.rel.at_ j s hs2
      rw [hs] at e5; cases e5
      cases s with
      | val d => cases ho
      | own c d => cases c with
        | true => cases ho; obtain ⟨b', o', z, q⟩ := q; cases z; exact ⟨b, o', rfl, q⟩
        | false => cases ho
      | lck c d => cases c with
        | true => cases ho; obtain ⟨b', o', z, q⟩ := q; cases z; exact ⟨b, o', rfl, q⟩
        | false => cases ho
      | brz d => cases ho; obtain ⟨v', z, q⟩ := q; cases z; exact q
end

theorem NoErr.outArgs : ∀ {as : List A} {ρ : Env'} {e : Er}, outArgs as ρ ≠ .err e
  | [], _, _, h => by cases h
  | a :: as, ρ, e, h => by
    unfold Dv.outArgs at h
    cases h1 : outArg a ρ.head? with
    | bad => rw [h1] at h; cases h
    | err _ =>
      unfold outArg at h1
      split at h1 <;> first | cases h1 | (split at h1 <;> cases h1)
    | ok y =>
      rw [h1] at h
      change (Dv.outArgs as ρ.tail).bind _ = _ at h
      cases h2 : Dv.outArgs as ρ.tail with
      | bad => rw [h2] at h; cases h
      | err _ => exact NoErr.outArgs h2
      | ok t => rw [h2] at h; cases h
theorem fin_noerr {as : List A} {q : Fl × Env'} {e : Er} : finish as q ≠ .err e := fun h => by
  obtain ⟨f, ρ⟩ := q
  cases f with
  | nx =>
    change (outArgs as ρ).bind _ = _ at h
    cases h2 : outArgs as ρ with
    | bad => rw [h2] at h; cases h
    | err _ => exact NoErr.outArgs h2
    | ok t => rw [h2] at h; cases h
  | rt p =>
    change (retOf p ρ).bind _ = _ at h
    cases h1 : retOf p ρ with
    | bad => rw [h1] at h; cases h
    | err _ =>
      unfold retOf at h1
      split at h1 <;> first | cases h1 | (split at h1 <;> cases h1)
    | ok t =>
      rw [h1] at h
      change (outArgs as t.2).bind _ = _ at h
      cases h2 : outArgs as t.2 with
      | bad => rw [h2] at h; cases h
      | err _ => exact NoErr.outArgs h2
      | ok t => rw [h2] at h; cases h
  | bk => cases h
  | ct => cases h

/-- THE RULE: a def, by its body's value -/
theorem def_ok {P : Program} {w : World} {K : PySem.W.Frag} {mg : Str → Option Value} {base : Heap} {k : Nat} {fa : Addr} {name qual : Str} {params : Arguments} {body : List Stmt} {scope : Scope} {dV kV doc pm cdv ct oc : Value} {an od : Option Addr}
    {osl : Array (Option Value)} {N ps : List Str} {F F2 : Fn} {G : Gn} {f : Str} {b : Sxs} (lk : K.lookup fa = some ⟨oc, od, .func (PySem.W.fnOf name qual params body scope dV kV doc pm an cdv ct), osl⟩) (hcd : PySem.W.codeIn K cdv qual = true) (S : FnScope N ps scope)
    (gk : GloK K mg F G) (hfs : ∀ p ∈ G.fs, DefK P w K mg base F k p.1 p.2.1 p.2.2) (hc : ckSs G N ps.length scope b body = true)
    (hF : ∀ as, F2.call f as ≠ .bad → as.length = ps.length ∧ ∃ M, runDef F M N.length b as = F2.call f as) :
    FnOk P w K mg base (L2.CX P w) (k + 1) fa (PySem.W.fnOf name qual params body scope dV kV doc pm an cdv ct) ps (spOf F2 mg K ps.length f) := by
  refine fn_of lk hcd S (fun vs H Q E h => h.1) fun A outer s H vs Q E hr ⟨hl, W, as, wl, ar, q⟩ => ?_
  have nb : F2.call f as ≠ .bad := fun e => by rw [e] at q; exact q
  obtain ⟨_, M, hM⟩ := hF as nb
  have E2 : Env2 (cxOf (L2.CX P w) P w K mg base N qual scope fa cdv A outer s H E) ⟨K, fun a => H a = none, bmOf vs as⟩ F (fun cls d _ H => E cls d H) G ps.length := by
    refine ⟨⟨rfl, rfl, S.nd, ?_, gk.glo, gk.free, gk.bt, fun p hp => ?_, takes_of rfl rfl rfl rfl, fun i a h => ?_⟩, fun _ => rfl, S.kind, passes_of rfl⟩
    · have := hr.un
      show (A.deeper (envOfC qual scope s.heap.objs.size fa cdv)).units + 65 < cLine
      omega
    · obtain ⟨fa', fd', ps', h1, h2, h3, h4, h5, h6⟩ := (hfs p hp).ex
      exact ⟨k, fa', fd', ps', h1, hr, h2, h3, h4, h5, h6⟩
    · obtain ⟨h1, _⟩ := bm_mut h
      have := (List.getElem?_eq_some_iff.mp h1).1
      omega
  have R := rel_start (N := N) wl ar
  refine ⟨_, snd_Ss (M := M) b E2 hc, envOf N.length as, W, R, ?_⟩
  unfold runDef at hM
  cases hx : exs F M b (envOf N.length as) with
  | bad =>
    rw [hx] at hM
    exact nb hM.symm
  | err er =>
    rw [hx] at hM
    rw [← hM] at q
    intro σ1 H1 ρ1 W1 g cls d H' e kp
    refine q cls d H' e fun x o h n => ?_
    obtain ⟨h1, n1, _⟩ := g.step x o h fun i ⟨⟨c, d, e⟩, z⟩ => by
      obtain ⟨a, e1, e2⟩ := env_get e
      cases a with
      | own d => exact n ⟨i, d, e1, start_get z⟩
      | _ => cases e2
    exact kp x o h1 n1
  | ok y =>
    obtain ⟨fl, ρ'⟩ := y
    rw [hx] at hM
    change finish as (fl, ρ') = F2.call f as at hM
    cases hcall : F2.call f as with
    | bad => exact absurd hcall nb
    | err er => rw [hcall] at hM; exact absurd hM fin_noerr
    | ok ra =>
      obtain ⟨r, as'⟩ := ra
      rw [hcall] at q hM
      change ∀ v H' W', CallEnd K H W vs as r as' v H' W' → Q v H' at q
      cases fl with
      | bk => cases hM
      | ct => cases hM
      | nx =>
        obtain ⟨t, h1, h2⟩ := rs_bind (show (outArgs as ρ').bind _ = _ from hM)
        cases h2
        intro σ' H' W' g
        exact q _ _ _ (end_ok rfl ar g h1 rfl)
      | rt p =>
        obtain ⟨⟨r', ρ2⟩, h1, h2⟩ := rs_bind (show (retOf p ρ').bind _ = _ from hM)
        obtain ⟨t, h3, h4⟩ := rs_bind (show (outArgs as ρ2).bind _ = _ from h2)
        cases h4
        intro v σ' H' W' o
        cases p with
        | val d =>
          cases h1
          exact q _ _ _ (end_ok rfl ar o.go h3 o.rep)
        | own d =>
          cases h1
          obtain ⟨a, ob, rfl, h5, h6, _, h7, h8⟩ := o.rep
          exact q _ _ _ (end_ok rfl ar o.go h3 ⟨a, ob, rfl, h7, h5, h6, h8⟩)
        | at_ i =>
          have hv : σ'[i]? = some (some v) := o.rep
          unfold retOf at h1
          dsimp only at h1
          split at h1
          · rename_i d e
            cases h1
            obtain ⟨ov, e1, a, ob, e2, h5, h6, h8⟩ := o.go.rel.at_ i _ e
            rw [hv] at e1; cases e1; cases e2
            have h7 := o.go.rel.fr i d a (.inl e) hv
            have hn : ∀ j x, as[j]? = some x → isMut x → j ≠ i := fun j x hj hm e5 => by
              subst e5
              cases x with
              | val d => exact hm
              | rd d =>
                obtain ⟨v', e6, b', _, rfl, _⟩ := ar.get hj
                have hb : bmOf vs as j = some b' := by unfold bmOf; rw [hj, e6]
                obtain ⟨_, s, e7, e8⟩ := o.go.rel.bor j b' hb
                rw [e] at e7; cases e7; exact e8
              | own d =>
                obtain ⟨v', e6, b', _, rfl, _⟩ := ar.get hj
                have hb : bmOf vs as j = some b' := by unfold bmOf; rw [hj, e6]
                obtain ⟨_, s, e7, e8⟩ := o.go.rel.bor j b' hb
                rw [e] at e7; cases e7; exact e8
            have h9 : outArgs as ρ' = .ok as' := outs_same h3 fun j x hj => by
              by_cases hm : isMut x
              · exact .inr (by rw [List.getElem?_set_ne (Ne.symm (hn j x hj hm))])
              · cases x with
                | val d => exact .inl ⟨d, rfl⟩
                | _ => exact absurd trivial hm
            exact q _ _ _ (end_ok rfl ar o.go h9 ⟨a, ob, rfl, h7, h5, h6, h8⟩)
          · rename_i d e
            cases h1
            obtain ⟨W2, R2, rd, st, mo⟩ := freeze_at o.go.rel e hv
            have g2 : GoS ⟨K, fun a => H a = none, bmOf vs as⟩ σ' H' ρ' W' σ' H' (ρ'.set i (some (thaw true d))) W2 := ⟨R2, st, fun _ h => h, fun j b hb => .inl ⟨j, mo j b hb⟩, fun j b d hj => ⟨by
              have ne : i ≠ j := fun z => by subst z; rw [e] at hj; cases hj
              rw [List.getElem?_set_ne ne]; exact hj, rfl⟩⟩
            exact q _ _ _ (end_ok rfl ar (o.go.trans g2) h3 rd)
          · cases h1
end Dv

set_option Elab.async false
set_option linter.all false
set_option maxRecDepth 100000
set_option maxHeartbeats 1000000
namespace Dv
open PySem PySem.Spec PyProof.Rows L2

/-! ### a module's defs, one behind another -/
/-- a def: its name, how many parameters, how few arguments, how many slots, its text, what fills up a call with n arguments -/
structure Dm where
  f : Str
  np : Nat
  mn : Nat
  n : Nat
  body : Sxs
  dfl : Nat → List D := fun _ => []
/-- what the defs compute; each one calls only those behind it -/
noncomputable def mkF (glo : Str → Option D) (M : Nat) : List Dm → Fn
  | [] => ⟨fun _ _ => .bad, glo, fun _ _ => []⟩
  | d :: ds => ⟨fun f as => if f = d.f then (if as.length = d.np then runDef (mkF glo M ds) M d.n d.body as else .bad) else (mkF glo M ds).call f as, glo, fun f n => if f = d.f then d.dfl n else (mkF glo M ds).dfl f n⟩
def gnOf (free : List Str) (bt : List (Str × String)) (ds : List Dm) : Gn := ⟨free, bt, ds.map fun e => (e.f, e.np, e.mn)⟩
structure GloF (K : PySem.W.Frag) (mg : Str → Option Value) (glo : Str → Option D) (free : List Str) (bt : List (Str × String)) : Prop where
  glo : ∀ x d, glo x = some d → ∃ u v, mg x = some u ∧ RelV v u ∧ ∀ H W, RepD K H W v d
  free : ∀ x ∈ free, mg x = none
  bt : ∀ p ∈ bt, mg p.1 = some (.builtin p.2)
section
variable {P : Program} {w : World} {K : PySem.W.Frag} {mg : Str → Option Value} {base : Heap} {glo : Str → Option D} {M : Nat} {ds : List Dm} {k : Nat} {free : List Str} {bt : List (Str × String)}
theorem mkF_glo : (mkF glo M ds).glo = glo := by cases ds <;> rfl
theorem GloF.gk (g : GloF K mg glo free bt) : GloK K mg (mkF glo M ds) (gnOf free bt ds) := ⟨by rw [mkF_glo]; exact g.glo, g.free, g.bt⟩
def AllK (P : Program) (w : World) (K : PySem.W.Frag) (mg : Str → Option Value) (base : Heap) (glo : Str → Option D) (M : Nat) (ds : List Dm) (k : Nat) : Prop := ∀ d ∈ ds, DefK P w K mg base (mkF glo M ds) k d.f d.np d.mn
theorem all_nil : AllK P w K mg base glo M [] k := fun d h => by cases h
theorem spOf_congr {F F' : Fn} {n : Nat} {f : Str} (h : F'.call f = F.call f) : spOf F' mg K n f = spOf F mg K n f := by
  funext vs H Q E
  unfold spOf
  rw [h]
/-- what a def needs to be called with fewer arguments -/
def BindsD (K : PySem.W.Frag) (fd : FuncData) (ps : List Str) (d : Dm) : Prop := ∀ n, d.mn ≤ n → n ≤ d.np → ∃ (ds' : List Value) (dvs' : List V), Binds K fd ps ds' ∧ Vals dvs' ds' ∧ ∀ H W, RepDs K H W dvs' (d.dfl n)
theorem mkF_self {d : Dm} (as : List A) : (mkF glo M (d :: ds)).call d.f as = if as.length = d.np then runDef (mkF glo M ds) M d.n d.body as else .bad := if_pos rfl
theorem law_fn {d : Dm} {x qual : Str} {params : Arguments} {body : List Stmt} {scope : Scope} {dvs : List V} {kws : List (Str × V)} {fa : Addr} {fd : FuncData} {N ps : List Str} (A : AllK P w K mg base glo M ds k) (g : GloF K mg glo free bt)
    (FD : FunD K x qual params body scope dvs kws fa fd) (S : FnScope N ps scope) (hN : N.length = d.n) (hp : ps.length = d.np) (hc : ckSs (gnOf free bt ds) N d.np scope d.body body = true) :
    FnOk P w K mg base (L2.CX P w) (k + 1) fa fd ps (spOf (mkF glo M (d :: ds)) mg K ps.length d.f) := by
  obtain ⟨oc, od, dV, kV, doc, pm, an, cdv, ct, osl, rfl, lk, hcd, _, _⟩ := FD.ex
  refine def_ok (F := mkF glo M ds) (b := d.body) lk hcd S g.gk (fun p hp => ?_) (by rw [hp]; exact hc) fun as h => ?_
  · obtain ⟨e, he, rfl⟩ := List.mem_map.mp hp
    exact A e he
  · rw [mkF_self] at h ⊢
    split at h
    · rename_i hl
      rw [if_pos hl, hp, hN]
      exact ⟨hl, M, rfl⟩
    · exact absurd rfl h
theorem all_cons {d : Dm} {x qual : Str} {params : Arguments} {body : List Stmt} {scope : Scope} {dvs : List V} {kws : List (Str × V)} {fa : Addr} {fd : FuncData} {N ps : List Str} (A : AllK P w K mg base glo M ds k) (g : GloF K mg glo free bt)
    (FD : FunD K x qual params body scope dvs kws fa fd) (S : FnScope N ps scope) (hn : (ds.all fun e => decide (e.f ≠ d.f)) = true) (hN : N.length = d.n) (hp : ps.length = d.np) (hc : ckSs (gnOf free bt ds) N d.np scope d.body body = true) (hm : mg d.f = some (.ref fa))
    (hb : BindsD K fd ps d) : AllK P w K mg base glo M (d :: ds) (k + 1) := by
  have hself := mkF_self (glo := glo) (M := M) (ds := ds) (d := d)
  have fn : FnOk P w K mg base (L2.CX P w) (k + 1) fa fd ps (spOf (mkF glo M (d :: ds)) mg K ps.length d.f) := law_fn A g FD S hN hp hc
  have one : DefK P w K mg base (mkF glo M (d :: ds)) (k + 1) d.f d.np d.mn := by
    refine ⟨fa, fd, ps, fn, hm, FD.kp, hp, fun as h => ?_, fun n h1 h2 => ?_⟩
    · rw [hself] at h
      split at h
      · assumption
      · exact absurd rfl h
    · obtain ⟨ds', dvs', b1, b2, b3⟩ := hb n h1 h2
      refine ⟨ds', dvs', b1, b2, fun H W => ?_⟩
      have : (mkF glo M (d :: ds)).dfl d.f n = d.dfl n := if_pos rfl
      rw [this]
      exact b3 H W
  intro e he
  rcases List.mem_cons.mp he with rfl | he
  · exact one
  · have ne : e.f ≠ d.f := of_decide_eq_true (List.all_eq_true.mp hn e he)
    have c1 : (mkF glo M (d :: ds)).call e.f = (mkF glo M ds).call e.f := funext fun as => if_neg ne
    have c2 : (mkF glo M (d :: ds)).dfl e.f = (mkF glo M ds).dfl e.f := funext fun n => if_neg ne
    obtain ⟨fa', fd', ps', h1, h2, h3, h4, h5, h6⟩ := (A e he).ex
    refine ⟨fa', fd', ps', ?_, h2, h3, h4, fun as h => h5 as (by rw [← c1]; exact h), fun n h7 h8 => ?_⟩
    · rw [spOf_congr c1]
      exact h1.mono (Nat.le_succ k)
    · rw [c2]
      exact h6 n h7 h8
/-- no defaults -/
theorem binds_all {d : Dm} {x qual : Str} {params : Arguments} {body : List Stmt} {scope : Scope} {kws : List (Str × V)} {fa : Addr} {fd : FuncData} {ps : List Str} (FD : FunD K x qual params body scope [] kws fa fd) (h1 : d.mn = d.np) (h2 : d.dfl d.np = [])
    (h : ∀ (kV doc pm : Value) (an : Option Addr) (cdv ct : Value) (us : List Value), us.length = ps.length → bindArgs (PySem.W.fnOf x qual params body scope .none kV doc pm an cdv ct) ⟨us, []⟩ = pure (ps.zip us)) : BindsD K fd ps d := fun n a b => by
  obtain rfl : n = d.np := Nat.le_antisymm b (h1 ▸ a)
  exact ⟨[], [], FD.bindsN h, .nil, fun H W => by rw [h2]; rfl⟩

/-! ### the law's end -/
theorem FnOk.ex {ι : Type} {CX : CXT} {f : Addr} {fd : FuncData} {ps : List Str} {sp : ι → Sp} (h : ∀ i, FnOk P w K mg base CX k f fd ps (sp i)) : FnOk P w K mg base CX k f fd ps fun vs H Q E => ∃ i, sp i vs H Q E :=
  ⟨fun vs H Q E ⟨i, z⟩ => (h i).len vs H Q E z, fun A outer s H args us vs Q E hr he hb hv ⟨i, z⟩ => (h i).run A outer s H args us vs Q E hr he hb hv z⟩
theorem walk_ofEB {l : PySem.W.OpenLaw} {n k : Nat} {q : Program} {loose : List Str} {XP : (Str → Option Value) → Heap → Prop} {YP : World → Heap → Prop} {d : DefRec} {CX : World → CXT} {x : Str}
    (hn : l.most = some n) (hn2 : n ≤ sizeLine) (hdf : d.params.defaults = []) (hr : Room k callerA)
    (F : ∀ (w : World) (mg : Str → Option Value) (fa : Addr) (h : Heap), YP w h → h.Ns mainGlobals mg → mg d.name = some (.ref fa) →
      ∃ (K : PySem.W.Frag) (fd : FuncData) (sp : Sp), K.In h ∧ (∀ (s : Shared) (u : Value), BindsTo s fd ⟨[u], []⟩ [(x, u)]) ∧
        (∀ (H : Hp) (a : Addr) (ns : List Int), ns.length ≤ n → (∀ z ∈ ns, Builtin.Int.intBits z ≤ 1048576) → SqL K H a (ns.map V.int) → sp [.ref a] H (fun v _ => v = .bl true) fun _ _ _ => False) ∧
        ∀ base : Heap, K.In base → base.Ns mainGlobals mg → FnOk l.prog w K mg base (CX w) k fa fd [x] sp)
    (hCX : ∀ (w : World) (H : Hp) (s : Shared) (e : Value) (s' : Shared), CX w [] H s (fun _ _ _ => False) e s' → False) :
    PySem.W.WalkO q loose XP YP l.row.toRowW d [] (fun f vs => PySem.call f vs) := by
  refine Att.attach_callB hn hdf fun w s₀ s₁ mg mb fa o pm cd doc a vs ns G Y ho hd hcd hmg hobj hints hlen hbits hg => ?_
  obtain ⟨K, fd, sp, KX, hb, hsp, hF⟩ := F w mg fa _ Y G.T.g hmg
  exact law_call KX G.T.g G.T.b G.T.builtins G.T.nolimit hg hobj hints (Nat.le_trans hlen hn2) hr hF hb (fun H hO hS => hsp H a ns hlen hbits hS) fun H e s' => hCX w H s₁ e s'
theorem cx_none (P : Program) (w : World) (H : Hp) (s : Shared) (e : Value) (s' : Shared) (h : L2.CX P w [] H s (fun _ _ _ => False) e s') : False := by
  obtain ⟨_, _, _, _, _, _, _, _, _, _, _, _, z⟩ := h
  exact z
theorem sp_law {F : Fn} {f : Str} {H : Hp} {a : Addr} {ns : List Int} {as' : List A} (hS : SqL K H a (ns.map V.int)) (h : F.call f [.val (.scr ns)] = .ok (.val (.bl true), as')) :
    spOf F mg K 1 f [.ref a] H (fun v _ => v = .bl true) fun _ _ _ => False := by
  refine ⟨rfl, fun _ => False, [.val (.scr ns)], fun _ z => z.elim, ⟨.ref a, [], rfl, ⟨a, rfl, ?_⟩, fun z => z.elim, rfl⟩, ?_⟩
  · rcases hS with (h | h) | h
    · exact .inl ⟨h, fun z => z⟩
    · exact .inr (.inl h)
    · exact .inr (.inr h)
  · rw [h]
    exact fun v H' W' ce => ce.res
end
end Dv

set_option Elab.async false
set_option linter.all false
set_option maxRecDepth 100000
set_option maxHeartbeats 1000000
namespace Dv
open PySem PySem.Spec PyProof.Rows L2

/-! ### running by simp -/
section
variable {F : Fn} {N : Nat} {ρ : Env'} {α β : Type}
@[simp] theorem r_bind_ok {a : α} {f : α → Rs β} : (Rs.ok a).bind f = f a := rfl
@[simp] theorem bind_err {e : Er} {f : α → Rs β} : (Rs.err e : Rs α).bind f = .err e := rfl
@[simp] theorem bind_bad {f : α → Rs β} : (Rs.bad : Rs α).bind f = .bad := rfl
@[simp] theorem of_some {a : α} : Rs.of (some a) = .ok a := rfl
@[simp] theorem r_quiet_ok {a : α} : (Rs.ok a).quiet = .ok a := rfl
@[simp] theorem need_true {p : Prop} {x : Rs α} (h : p) : need p x = x := if_pos h

@[simp] theorem r_ev_var {i : Nat} : ev F (.var i) ρ = evVar i ρ := rfl
@[simp] theorem r_ev_cst {d : D} : ev F (.cst d) ρ = .ok (.val d, ρ) := rfl
@[simp] theorem r_ev_glo {x : Str} : ev F (.glo x) ρ = (Rs.of (F.glo x)).bind fun d => .ok (.val d, ρ) := rfl
@[simp] theorem r_ev_bin {op : Operator} {a b : Ex} : ev F (.bin op a b) ρ = (ev F a ρ).bind fun r => (ev F b r.2).bind fun q => (pk r.1 q.2).bind fun x => (pk q.1 q.2).bind fun y => (dBin op x y).bind fun p => .ok (p, q.2) := rfl
@[simp] theorem r_ev_neg {a : Ex} : ev F (.neg a) ρ = (ev F a ρ).bind fun r => (pk r.1 r.2).bind fun x => match x with
    | .int i => .ok (.val (.int (-i)), r.2)
    | _ => .bad := rfl
@[simp] theorem r_ev_cmp {op : CmpOp} {a b : Ex} : ev F (.cmp op a b) ρ = (ev F a ρ).bind fun r => (ev F b r.2).bind fun q => (pk r.1 q.2).bind fun x => (pk q.1 q.2).bind fun y => (dCmp op x y).bind fun c => .ok (.val (.bl c), q.2) := rfl
@[simp] theorem r_ev_chn {op op' : CmpOp} {a b c : Ex} : ev F (.chn op op' a b c) ρ = (ev F a ρ).bind fun r => (ev F b r.2).bind fun q => (pk r.1 q.2).bind fun x => (pk q.1 q.2).bind fun y => (dCmp op x y).bind fun k =>
      match k with
      | false => .ok (.val (.bl false), q.2)
      | true => (ev F c q.2).bind fun u => (pk q.1 u.2).bind fun y' => (pk u.1 u.2).bind fun z => (dCmp op' y' z).bind fun k' => .ok (.val (.bl k'), u.2) := rfl
@[simp] theorem r_ev_and_ {l : Exs} : ev F (.and_ l) ρ = (evAnd F l ρ).bind fun r => .ok (.val (.bl r.1), r.2) := rfl
@[simp] theorem r_ev_or_ {l : Exs} : ev F (.or_ l) ρ = (evOr F l ρ).bind fun r => .ok (.val (.bl r.1), r.2) := rfl
@[simp] theorem r_ev_not_ {a : Ex} : ev F (.not_ a) ρ = (ev F a ρ).bind fun r0 => (asB r0).bind fun r => .ok (.val (.bl (!r.1)), r.2) := rfl
@[simp] theorem r_ev_ite {c : Tx} {a b : Ex} : ev F (.ite c a b) ρ = (evT F c ρ).bind fun r => match r.1 with
    | true => ev F a r.2
    | false => ev F b r.2 := rfl
@[simp] theorem r_ev_tup {l : Exs} : ev F (.tup l) ρ = (evs F l ρ).bind fun r => (Rs.of (toDs r.1 r.2)).bind fun q => need (q.1.length ≤ sizeLine) (.ok (.val (.tup q.1), q.2)) := rfl
@[simp] theorem r_ev_lst {l : Exs} : ev F (.lst l) ρ = (evs F l ρ).bind fun r => (Rs.of (toDs r.1 r.2)).bind fun q => need (q.1.length ≤ sizeLine) (.ok (.own (.lst q.1), q.2)) := rfl
@[simp] theorem r_ev_idx {a i : Ex} : ev F (.idx a i) ρ = (ev F a ρ).bind fun r => (ev F i r.2).bind fun q => (pk r.1 q.2).bind fun x => (pk q.1 q.2).bind fun y => (dIdx x y).bind fun d => .ok (.val d, q.2) := rfl
@[simp] theorem r_ev_slc {a : Ex} {lo hi : Eo} : ev F (.slc a lo hi) ρ = (ev F a ρ).bind fun r => (evo F lo r.2).bind fun u => (evo F hi u.2).bind fun w => (pk r.1 w.2).bind fun x => (dSlc x u.1 w.1).bind fun p => .ok (p, w.2) := rfl
@[simp] theorem r_ev_call {f : Str} {l : Exs} : ev F (.call f l) ρ = (evs F l ρ).bind fun r => doCall F f r.1 r.2 := rfl
@[simp] theorem r_ev_blt {b : Bl} {l : Exs} : ev F (.blt b l) ρ = (evs F l ρ).bind fun r => (pks r.1 r.2).bind fun ds => (dBl b ds).bind fun p => .ok (p, r.2) := rfl
@[simp] theorem r_ev_isi {t : Ty} {a : Ex} : ev F (.isi t a) ρ = (ev F a ρ).bind fun r => (pk r.1 r.2).bind fun x => (isTy t x).bind fun b => .ok (.val (.bl b), r.2) := rfl
@[simp] theorem r_ev_met {m : Me} {o : Ex} {l : Exs} : ev F (.met m o l) ρ = (ev F o ρ).bind fun r => (pk r.1 r.2).bind fun d0 => need (hasTy m d0 = true) <| (evs F l r.2).bind fun q => (pk r.1 q.2).bind fun x => (pks q.1 q.2).bind fun ds => (dMe m x ds).bind fun p => .ok (p, q.2) := rfl
theorem r_ev_chg {m : Mm} {i : Nat} {l : Exs} : ev F (.chg m i l) ρ = (evVar i ρ).bind fun r => (pk r.1 r.2).bind fun d0 => need (isLst d0 = true) <| (evs F l r.2).bind fun q => (Rs.of (toDs q.1 q.2)).bind fun t => match t.2[i]? with
    | some (some (.own b d)) => (dMm m d t.1).bind fun y => .ok (.val y.1, t.2.set i (some (.own b y.2)))
    | _ => .bad := rfl
@[simp] theorem r_ev_comp {elt : Ex} {tg : Tg} {it : Ie} {ifs : To} {own : List Nat} : ev F (.comp elt tg it ifs own) ρ = (evi F it ρ).bind fun r =>
      (mapR (fun d ρ1 => (asgT tg d (wipeR ρ1 own)).bind fun ρ2 => (evc F ifs ρ2).quiet.bind fun c => match c.1 with
        | true => (ev F elt c.2).quiet.bind fun p => (Rs.of (toD p.1 p.2)).bind fun y => .ok (some y.1, y.2)
        | false => .ok (none, c.2)) r.1.1 (wipeR (lockP r.1.2 r.2).2 own)).bind fun q =>
      (unlock (lockP r.1.2 r.2).1 (backR (lockP r.1.2 r.2).2 q.2 own)).bind fun ρ' => need (q.1.length < sizeLine) (.ok (.own (.lst q.1), ρ')) := rfl
@[simp] theorem r_evs_nil  : evs F (.nil) ρ = .ok ([], ρ) := rfl
@[simp] theorem r_evs_cons {e : Ex} {l : Exs} : evs F (.cons e l) ρ = (ev F e ρ).bind fun r => (evs F l r.2).bind fun q => .ok (r.1 :: q.1, q.2) := rfl
@[simp] theorem r_evo_none  : evo F (.none) ρ = .ok (none, ρ) := rfl
@[simp] theorem r_evo_some {e : Ex} : evo F (.some e) ρ = (ev F e ρ).bind fun r => (pk r.1 r.2).bind fun x => match x with
    | .int i => .ok (some i, r.2)
    | _ => .bad := rfl
@[simp] theorem r_evc_none  : evc F (.none) ρ = .ok (true, ρ) := rfl
@[simp] theorem r_evc_some {t : Tx} : evc F (.some t) ρ = evT F t ρ := rfl
@[simp] theorem r_evT_val {e : Ex} : evT F (.val e) ρ = (ev F e ρ).bind fun r => (pk r.1 r.2).bind fun x => (truth x).bind fun b => .ok (b, r.2) := rfl
@[simp] theorem r_evT_cmp {op : CmpOp} {a b : Ex} : evT F (.cmp op a b) ρ = (ev F a ρ).bind fun r => (ev F b r.2).bind fun q => (pk r.1 q.2).bind fun x => (pk q.1 q.2).bind fun y => (dCmp op x y).bind fun c => .ok (c, q.2) := rfl
@[simp] theorem r_evT_and_ {l : Txs} : evT F (.and_ l) ρ = evTAnd F l ρ := rfl
@[simp] theorem r_evT_or_ {l : Txs} : evT F (.or_ l) ρ = evTOr F l ρ := rfl
@[simp] theorem r_evT_not_ {a : Tx} : evT F (.not_ a) ρ = (evT F a ρ).bind fun r => .ok (!r.1, r.2) := rfl
@[simp] theorem r_evAnd_nil  : evAnd F (.nil) ρ = .ok (true, ρ) := rfl
@[simp] theorem r_evAnd_cons {e : Ex} {l : Exs} : evAnd F (.cons e l) ρ = (ev F e ρ).bind fun r0 => (asB r0).bind fun r => match r.1 with
    | true => evAnd F l r.2
    | false => .ok (false, r.2) := rfl
@[simp] theorem r_evOr_nil  : evOr F (.nil) ρ = .ok (false, ρ) := rfl
@[simp] theorem r_evOr_cons {e : Ex} {l : Exs} : evOr F (.cons e l) ρ = (ev F e ρ).bind fun r0 => (asB r0).bind fun r => match r.1 with
    | true => .ok (true, r.2)
    | false => evOr F l r.2 := rfl
@[simp] theorem r_evTAnd_nil  : evTAnd F (.nil) ρ = .ok (true, ρ) := rfl
@[simp] theorem r_evTAnd_cons {e : Tx} {l : Txs} : evTAnd F (.cons e l) ρ = (evT F e ρ).bind fun r => match r.1 with
    | true => evTAnd F l r.2
    | false => .ok (false, r.2) := rfl
@[simp] theorem r_evTOr_nil  : evTOr F (.nil) ρ = .ok (false, ρ) := rfl
@[simp] theorem r_evTOr_cons {e : Tx} {l : Txs} : evTOr F (.cons e l) ρ = (evT F e ρ).bind fun r => match r.1 with
    | true => .ok (true, r.2)
    | false => evTOr F l r.2 := rfl
@[simp] theorem r_evi_seq {e : Ex} : evi F (.seq e) ρ = (ev F e ρ).bind fun r => (pk r.1 r.2).bind fun x => (items x).bind fun l => .ok ((l, r.1), r.2) := rfl
@[simp] theorem r_evi_rng {a : Ex} : evi F (.rng a) ρ = (ev F a ρ).bind fun r => match r.1 with
    | .val (.int j) => need (inR j) (.ok ((rng 0 j.toNat, .val .non), r.2))
    | _ => .bad := rfl
@[simp] theorem r_evi_rng2 {a b : Ex} : evi F (.rng2 a b) ρ = (ev F a ρ).bind fun r => (ev F b r.2).bind fun q => match r.1, q.1 with
    | .val (.int i), .val (.int j) => need (inR i ∧ inR j) (.ok ((rng i (j - i).toNat, .val .non), q.2))
    | _, _ => .bad := rfl
@[simp] theorem r_evi_enm {e : Ex} : evi F (.enm e) ρ = (ev F e ρ).bind fun r => (pk r.1 r.2).bind fun x => (itemsL x).bind fun l => .ok ((enmD l, r.1), r.2) := rfl
@[simp] theorem r_evi_zip {l : Exs} : evi F (.zip l) ρ = (evs F l ρ).bind fun r => (Rs.of (toDs r.1 r.2)).bind fun q => (itemss q.1).bind fun t => .ok ((zipD t, .val .non), q.2) := rfl
@[simp] theorem r_ex_set {i : Nat} {e : Ex} : ex F N (.set i e) ρ = (ev F e ρ).bind fun r => (asgP i r.1 r.2).bind fun ρ' => .ok (.nx, ρ') := rfl
@[simp] theorem r_ex_setT {l : List Nat} {e : Ex} : ex F N (.setT l e) ρ = (ev F e ρ).bind fun r => match r.1 with
    | .val (.tup ds) => (putVs l ds r.2).bind fun ρ' => .ok (.nx, ρ')
    | _ => .bad := rfl
@[simp] theorem r_ex_par {i j : Nat} {a b : Ex} : ex F N (.par i j a b) ρ = (ev F a ρ).bind fun r => (ev F b r.2).bind fun q => match r.1, q.1 with
    | .val x, .val y => (putVs [i, j] [x, y] q.2).bind fun ρ' => .ok (.nx, ρ')
    | _, _ => .bad := rfl
@[simp] theorem r_ex_setI {i : Nat} {ix e : Ex} : ex F N (.setI i ix e) ρ = (ev F e ρ).bind fun r => (evVar i r.2).bind fun o => (ev F ix o.2).bind fun q => (Rs.of (toD r.1 q.2)).bind fun t => (pk q.1 t.2).bind fun k =>
      (mutSlot i t.2 fun d => dSet d k t.1).bind fun ρ' => .ok (.nx, ρ') := rfl
theorem r_ex_aug {i : Nat} {op : Operator} {e : Ex} : ex F N (.aug i op e) ρ = match ρ[i]? with
    | some (some (.val x)) => (ev F e ρ).bind fun r => (pk r.1 r.2).bind fun y => (dAug op x y).bind fun z => (putV i z r.2).bind fun ρ' => .ok (.nx, ρ')
    | _ => .bad := rfl
@[simp] theorem r_ex_augI {i : Nat} {op : Operator} {ix e : Ex} : ex F N (.augI i op ix e) ρ = (evVar i ρ).bind fun o => (ev F ix o.2).bind fun q => (pk o.1 q.2).bind fun x => need (isLst x = true) <| (pk q.1 q.2).bind fun k => (dIdx x k).bind fun u => (ev F e q.2).bind fun r => (pk r.1 r.2).bind fun y =>
      (dAug op u y).bind fun z => (mutSlot i r.2 fun d => dSet d k z).bind fun ρ' => .ok (.nx, ρ') := rfl
@[simp] theorem r_ex_expr {e : Ex} : ex F N (.expr e) ρ = (ev F e ρ).bind fun r => .ok (.nx, r.2) := rfl
@[simp] theorem r_ex_ret {e : Ex} : ex F N (.ret e) ρ = (ev F e ρ).bind fun r => .ok (.rt r.1, r.2) := rfl
@[simp] theorem r_ex_retN  : ex F N (.retN) ρ = .ok (.rt (.val .non), ρ) := rfl
@[simp] theorem r_ex_ite {c : Tx} {a b : Sxs} : ex F N (.ite c a b) ρ = (evT F c ρ).bind fun r => match r.1 with
    | true => exs F N a r.2
    | false => exs F N b r.2 := rfl
@[simp] theorem r_ex_whl {c : Tx} {b : Sxs} : ex F N (.whl c b) ρ = whileR (evT F c) (exs F N b) N ρ := rfl
@[simp] theorem r_ex_for_ {tg : Tg} {it : Ie} {b : Sxs} : ex F N (.for_ tg it b) ρ = (evi F it ρ).bind fun r => (forR (fun d ρ1 => (asgT tg d ρ1).bind (exs F N b)) r.1.1 (lockP r.1.2 r.2).2).bind (endFor (lockP r.1.2 r.2).1) := rfl
@[simp] theorem r_ex_brk  : ex F N (.brk) ρ = .ok (.bk, ρ) := rfl
@[simp] theorem r_ex_cnt  : ex F N (.cnt) ρ = .ok (.ct, ρ) := rfl
@[simp] theorem r_ex_pass  : ex F N (.pass) ρ = .ok (.nx, ρ) := rfl
@[simp] theorem r_exs_nil  : exs F N (.nil) ρ = .ok (.nx, ρ) := rfl
@[simp] theorem r_exs_cons {s : Sx} {l : Sxs} : exs F N (.cons s l) ρ = (ex F N s ρ).bind fun q => match q.1 with
    | .nx => exs F N l q.2
    | _ => .ok q := rfl

@[simp] theorem pk_val {d : D} : pk (.val d) ρ = .ok d := rfl
@[simp] theorem pk_own {d : D} : pk (.own d) ρ = .ok d := rfl
@[simp] theorem pks_nil : pks [] ρ = .ok [] := rfl
@[simp] theorem pks_cons {p : P} {ps : List P} : pks (p :: ps) ρ = (pk p ρ).bind fun d => (pks ps ρ).bind fun ds => .ok (d :: ds) := rfl
@[simp] theorem toD_val {d : D} : toD (.val d) ρ = some (d, ρ) := rfl
@[simp] theorem toD_own {d : D} : toD (.own d) ρ = some (d, ρ) := rfl
@[simp] theorem thaw_t {d : D} : thaw true d = .brz d := rfl
@[simp] theorem thaw_f {d : D} : thaw false d = .val d := rfl
@[simp] theorem toDs_nil : toDs [] ρ = some ([], ρ) := rfl
@[simp] theorem toDs_cons {p : P} {ps : List P} : toDs (p :: ps) ρ = (toD p ρ).bind fun r => (toDs ps r.2).bind fun q => some (r.1 :: q.1, q.2) := rfl
@[simp] theorem asgP_val {i : Nat} {d : D} : asgP i (.val d) ρ = putV i d ρ := rfl
@[simp] theorem asgP_own {i : Nat} {d : D} : asgP i (.own d) ρ = if freeSlot i ρ = true then .ok (ρ.set i (some (.own false d))) else .bad := rfl
@[simp] theorem asgP_at {i j : Nat} : asgP i (.at_ j) ρ = (Rs.of (toD (.at_ j) ρ)).bind fun r => putV i r.1 r.2 := rfl
@[simp] theorem putV_d {i : Nat} {d : D} : putV i d ρ = if freeSlot i ρ = true then .ok (ρ.set i (some (.val d))) else .bad := rfl
@[simp] theorem putVs_nil : putVs [] [] ρ = .ok ρ := rfl
@[simp] theorem putVs_cons {i : Nat} {is : List Nat} {d : D} {ds : List D} : putVs (i :: is) (d :: ds) ρ = (putV i d ρ).bind (putVs is ds) := rfl
@[simp] theorem asgT_nm {i : Nat} {d : D} : asgT (.nm i) d ρ = putV i d ρ := rfl
@[simp] theorem asgT_tp {is : List Nat} {ds : List D} : asgT (.tp is) (.tup ds) ρ = putVs is ds ρ := rfl
@[simp] theorem lockP_val {d : D} : lockP (.val d) ρ = (none, ρ) := rfl
@[simp] theorem lockP_owned {d : D} : lockP (.own d) ρ = (none, ρ) := rfl
@[simp] theorem unlock_none : unlock none ρ = .ok ρ := rfl
@[simp] theorem wipe_nil : wipeR ρ [] = ρ := rfl
@[simp] theorem wipe_cons {v : Nat} {vs : List Nat} : wipeR ρ (v :: vs) = (wipeR ρ vs).set v none := rfl
@[simp] theorem back_nil {ρ0 : Env'} : backR ρ0 ρ [] = ρ := rfl
@[simp] theorem back_cons {ρ0 : Env'} {v : Nat} {vs : List Nat} : backR ρ0 ρ (v :: vs) = (backR ρ0 ρ vs).set v (ρ0.getD v none) := rfl
@[simp] theorem toArgs_nil : toArgs [] ρ = .ok [] := rfl
@[simp] theorem toArgs_cons {p : P} {ps : List P} : toArgs (p :: ps) ρ = (toArg p ρ).bind fun a => (toArgs ps ρ).bind fun as => .ok (a :: as) := rfl
@[simp] theorem toArg_val {d : D} : toArg (.val d) ρ = .ok (.val d) := rfl
@[simp] theorem toArg_owned {d : D} : toArg (.own d) ρ = .ok (.own d) := rfl
@[simp] theorem ats_nil : ats [] = [] := rfl
@[simp] theorem ats_at {i : Nat} {ps : List P} : ats (.at_ i :: ps) = i :: ats ps := rfl
@[simp] theorem ats_val {d : D} {ps : List P} : ats (.val d :: ps) = ats ps := rfl
@[simp] theorem ats_own {d : D} {ps : List P} : ats (.own d :: ps) = ats ps := rfl
@[simp] theorem backArgs_nil {as : List A} : backArgs [] as ρ = .ok ρ := rfl
@[simp] theorem backArgs_cons {p : P} {ps : List P} {a : A} {as : List A} : backArgs (p :: ps) (a :: as) ρ = (backArg p a ρ).bind (backArgs ps as) := rfl
@[simp] theorem backArg_val {d : D} {a : A} : backArg (.val d) a ρ = .ok ρ := rfl
@[simp] theorem backArg_owned {d : D} {a : A} : backArg (.own d) a ρ = .ok ρ := rfl
@[simp] theorem re_val {d : D} : (Re.val d).p = .val d := rfl
@[simp] theorem re_own {d : D} : (Re.own d).p = .own d := rfl
@[simp] theorem doCall_d {f : Str} {ps : List P} : doCall F f ps ρ = need ((ats ps).Nodup) ((toArgs ps ρ).bind fun as => (F.call f (as ++ (F.dfl f ps.length).map .val)).bind fun r => (backArgs ps r.2 ρ).bind fun ρ' => .ok (r.1.p, ρ')) := rfl
@[simp] theorem mapR_nil {f : D → Env' → Rs (Option D × Env')} : mapR f [] ρ = .ok ([], ρ) := rfl
@[simp] theorem forR_nil {f : D → Env' → Rs (Fl × Env')} : forR f [] ρ = .ok (.nx, ρ) := rfl
@[simp] theorem asB_bl {b : Bool} {ρ : Env'} : asB (.val (.bl b), ρ) = .ok (b, ρ) := rfl
@[simp] theorem endFor_nx {o : Option Nat} : endFor o (.nx, ρ) = (unlock o ρ).bind fun ρ => .ok (.nx, ρ) := rfl
@[simp] theorem endFor_rt {o : Option Nat} {p : P} : endFor o (.rt p, ρ) = .ok (.rt p, ρ) := rfl
@[simp] theorem isLst_l {l : List D} : isLst (.lst l) = true := rfl
@[simp] theorem slot_val {d : D} : (A.val d).slot = .val d := rfl
@[simp] theorem slot_own {d : D} : (A.own d).slot = .own true d := rfl
@[simp] theorem slot_rd {d : D} : (A.rd d).slot = .lck true d := rfl
@[simp] theorem runDef_d {n : Nat} {b : Sxs} {as : List A} : runDef F N n b as = (exs F N b (envOf n as)).bind (finish as) := rfl
@[simp] theorem finish_nx {as : List A} : finish as (.nx, ρ) = (outArgs as ρ).bind fun r => .ok (.val .non, r) := rfl
@[simp] theorem finish_rt {as : List A} {p : P} : finish as (.rt p, ρ) = (retOf p ρ).bind fun t => (outArgs as t.2).bind fun r => .ok (t.1, r) := rfl
@[simp] theorem retOf_val {d : D} : retOf (.val d) ρ = .ok (.val d, ρ) := rfl
@[simp] theorem retOf_own {d : D} : retOf (.own d) ρ = .ok (.own d, ρ) := rfl
@[simp] theorem outArgs_nil : outArgs [] ρ = .ok [] := rfl
@[simp] theorem outArgs_cons {a : A} {as : List A} : outArgs (a :: as) ρ = (outArg a ρ.head?).bind fun x => (outArgs as ρ.tail).bind fun r => .ok (x :: r) := rfl
@[simp] theorem outArg_val {d : D} {o : Option (Option S)} : outArg (.val d) o = .ok (.val d) := rfl
@[simp] theorem outArg_rd {d : D} {o : Option (Option S)} : outArg (.rd d) o = .ok (.rd d) := rfl
@[simp] theorem outArg_own {d d' : D} : outArg (.own d) (some (some (.own true d'))) = .ok (.own d') := rfl
@[simp] theorem outArg_lck {d d' : D} : outArg (.own d) (some (some (.lck true d'))) = .ok (.own d') := rfl
@[simp] theorem outArg_brz {d d' : D} : outArg (.own d) (some (some (.brz d'))) = .ok (.val d') := rfl
/-! a slot looked at -/
noncomputable def gVar (i : Nat) (ρ : Env') : Option (Option S) → Rs (P × Env')
  | some (some (.val d)) => .ok (.val d, ρ)
  | some (some (.brz d)) => .ok (.val d, ρ)
  | some (some (.own b d)) => .ok (.at_ i, ρ)
  | some (some (.lck b d)) => .ok (.at_ i, ρ)
  | _ => .bad
def gPk  : Option (Option S) → Rs D
  | some (some (.val d)) => .ok d
  | some (some (.own b d)) => .ok d
  | some (some (.lck b d)) => .ok d
  | some (some (.brz d)) => .ok d
  | _ => .bad
def gD (i : Nat) (ρ : Env') : Option (Option S) → Option (D × Env')
  | some (some (.val d)) => some (d, ρ)
  | some (some (.brz d)) => some (d, ρ)
  | some (some (.own b d)) => some (d, ρ.set i (some (thaw b d)))
  | _ => none
def gLock (i : Nat) (ρ : Env') : Option (Option S) → Option Nat × Env'
  | some (some (.own b d)) => (some i, ρ.set i (some (.lck b d)))
  | _ => (none, ρ)
def gUn (i : Nat) (ρ : Env') : Option (Option S) → Rs Env'
  | some (some (.lck b d)) => .ok (ρ.set i (some (.own b d)))
  | _ => .bad
def gArg  : Option (Option S) → Rs A
  | some (some (.val d)) => .ok (.val d)
  | some (some (.brz d)) => .ok (.val d)
  | some (some (.own b d)) => .ok (.own d)
  | some (some (.lck b d)) => .ok (.rd d)
  | _ => .bad
noncomputable def gMut (i : Nat) (ρ : Env') (f : D → Rs D) : Option (Option S) → Rs Env'
  | some (some (.own b d)) => (f d).bind fun d' => .ok (ρ.set i (some (.own b d')))
  | _ => .bad
def gRet (i : Nat) (ρ : Env') : Option (Option S) → Rs (Re × Env')
  | some (some (.own false d)) => .ok (.own d, ρ.set i none)
  | some (some (.own true d)) => .ok (.val d, ρ.set i (some (.brz d)))
  | _ => .bad
noncomputable def gAug (F : Fn) (i : Nat) (op : Operator) (e : Ex) (ρ : Env') : Option (Option S) → Rs (Fl × Env')
  | some (some (.val d)) => (ev F e ρ).bind fun r => (pk r.1 r.2).bind fun y => (dAug op d y).bind fun z => (putV i z r.2).bind fun ρ' => .ok (.nx, ρ')
  | _ => .bad
noncomputable def gChg (m : Mm) (i : Nat) (t : List D × Env') : Option (Option S) → Rs (P × Env')
  | some (some (.own b d)) => (dMm m d t.1).bind fun y => .ok (.val y.1, t.2.set i (some (.own b y.2)))
  | _ => .bad
def gFree : Option (Option S) → Bool
  | some none => true
  | some (some (.val _)) => true
  | some (some (.own false _)) => true
  | _ => false
def gBack (i : Nat) (ρ : Env') : Option (Option S) → A → Rs Env'
  | some (some (.own b _)), .own d => .ok (ρ.set i (some (.own b d)))
  | some (some (.own b _)), .val d => .ok (ρ.set i (some (thaw b d)))
  | some (some (.own _ _)), .rd _ => .bad
  | _, _ => .ok ρ
@[simp] theorem c1_gVar {i : Nat} {d : D} : gVar i ρ (some (some (.val d))) = .ok (.val d, ρ) := rfl
@[simp] theorem c2_gVar {i : Nat} {d : D} : gVar i ρ (some (some (.brz d))) = .ok (.val d, ρ) := rfl
@[simp] theorem c3_gVar {i : Nat} {b : Bool} {d : D} : gVar i ρ (some (some (.own b d))) = .ok (.at_ i, ρ) := rfl
@[simp] theorem c4_gVar {i : Nat} {b : Bool} {d : D} : gVar i ρ (some (some (.lck b d))) = .ok (.at_ i, ρ) := rfl
@[simp] theorem c5_gPk  {d : D} : gPk  (some (some (.val d))) = .ok d := rfl
@[simp] theorem c6_gPk  {b : Bool} {d : D} : gPk  (some (some (.own b d))) = .ok d := rfl
@[simp] theorem c7_gPk  {b : Bool} {d : D} : gPk  (some (some (.lck b d))) = .ok d := rfl
@[simp] theorem c8_gPk  {d : D} : gPk  (some (some (.brz d))) = .ok d := rfl
@[simp] theorem c9_gD {i : Nat} {d : D} : gD i ρ (some (some (.val d))) = some (d, ρ) := rfl
@[simp] theorem c10_gD {i : Nat} {d : D} : gD i ρ (some (some (.brz d))) = some (d, ρ) := rfl
@[simp] theorem c11_gD {i : Nat} {b : Bool} {d : D} : gD i ρ (some (some (.own b d))) = some (d, ρ.set i (some (thaw b d))) := rfl
@[simp] theorem c12_gLock {i : Nat} {b : Bool} {d : D} : gLock i ρ (some (some (.own b d))) = (some i, ρ.set i (some (.lck b d))) := rfl
@[simp] theorem c13_gUn {i : Nat} {b : Bool} {d : D} : gUn i ρ (some (some (.lck b d))) = .ok (ρ.set i (some (.own b d))) := rfl
@[simp] theorem c14_gArg  {d : D} : gArg  (some (some (.val d))) = .ok (.val d) := rfl
@[simp] theorem c15_gArg  {d : D} : gArg  (some (some (.brz d))) = .ok (.val d) := rfl
@[simp] theorem c16_gArg  {b : Bool} {d : D} : gArg  (some (some (.own b d))) = .ok (.own d) := rfl
@[simp] theorem c17_gArg  {b : Bool} {d : D} : gArg  (some (some (.lck b d))) = .ok (.rd d) := rfl
@[simp] theorem c18_gMut {i : Nat} {f : D → Rs D} {b : Bool} {d : D} : gMut i ρ f (some (some (.own b d))) = (f d).bind fun d' => .ok (ρ.set i (some (.own b d'))) := rfl
@[simp] theorem c19_gRet {i : Nat} {d : D} : gRet i ρ (some (some (.own false d))) = .ok (.own d, ρ.set i none) := rfl
@[simp] theorem c20_gRet {i : Nat} {d : D} : gRet i ρ (some (some (.own true d))) = .ok (.val d, ρ.set i (some (.brz d))) := rfl
@[simp] theorem c21_gAug {i : Nat} {op : Operator} {e : Ex} {d : D} : gAug F i op e ρ (some (some (.val d))) = (ev F e ρ).bind fun r => (pk r.1 r.2).bind fun y => (dAug op d y).bind fun z => (putV i z r.2).bind fun ρ' => .ok (.nx, ρ') := rfl
@[simp] theorem c22_gChg {m : Mm} {i : Nat} {t : List D × Env'} {b : Bool} {d : D} : gChg m i t (some (some (.own b d))) = (dMm m d t.1).bind fun y => .ok (.val y.1, t.2.set i (some (.own b y.2))) := rfl
@[simp] theorem c_lck {i : Nat} {b : Bool} {d : D} : gLock i ρ (some (some (.lck b d))) = (none, ρ) := rfl
@[simp] theorem f1 : gFree (some none) = true := rfl
@[simp] theorem f2 {d : D} : gFree (some (some (.val d))) = true := rfl
@[simp] theorem f3 {d : D} : gFree (some (some (.own false d))) = true := rfl
@[simp] theorem b1 {i : Nat} {b : Bool} {d d2 : D} : gBack i ρ (some (some (.own b d))) (.own d2) = .ok (ρ.set i (some (.own b d2))) := rfl
@[simp] theorem b2 {i : Nat} {b : Bool} {d d2 : D} : gBack i ρ (some (some (.own b d))) (.val d2) = .ok (ρ.set i (some (thaw b d2))) := rfl
@[simp] theorem b3 {i : Nat} {b : Bool} {d : D} {a : A} : gBack i ρ (some (some (.lck b d))) a = .ok ρ := by cases a <;> rfl
@[simp] theorem evVar_d {i : Nat} : evVar i ρ = gVar i ρ ρ[i]? := by
  unfold evVar gVar
  rcases ρ[i]? with _ | _ | s
  all_goals first | rfl | (cases s <;> first | rfl | (rename_i b _; cases b <;> rfl))
@[simp] theorem pk_at {i : Nat} : pk (.at_ i) ρ = gPk ρ[i]? := by
  unfold pk peek gPk
  dsimp only <;> rcases ρ[i]? with _ | _ | s
  all_goals first | rfl | (cases s <;> first | rfl | (rename_i b _; cases b <;> rfl))
@[simp] theorem toD_at {i : Nat} : toD (.at_ i) ρ = gD i ρ ρ[i]? := by
  unfold toD gD
  dsimp only <;> rcases ρ[i]? with _ | _ | s
  all_goals first | rfl | (cases s <;> first | rfl | (rename_i b _; cases b <;> rfl))
@[simp] theorem free_d {i : Nat} : freeSlot i ρ = gFree ρ[i]? := by
  unfold freeSlot gFree
  rcases ρ[i]? with _ | _ | s
  all_goals first | rfl | (cases s <;> first | rfl | (rename_i b _; cases b <;> rfl))
@[simp] theorem lock_at {i : Nat} : lockP (.at_ i) ρ = gLock i ρ ρ[i]? := by
  unfold lockP gLock
  dsimp only <;> rcases ρ[i]? with _ | _ | s
  all_goals first | rfl | (cases s <;> first | rfl | (rename_i b _; cases b <;> rfl))
@[simp] theorem unlock_at {i : Nat} : unlock (some i) ρ = gUn i ρ ρ[i]? := by
  unfold unlock gUn
  dsimp only <;> rcases ρ[i]? with _ | _ | s
  all_goals first | rfl | (cases s <;> first | rfl | (rename_i b _; cases b <;> rfl))
@[simp] theorem toArg_at {i : Nat} : toArg (.at_ i) ρ = gArg ρ[i]? := by
  unfold toArg gArg
  dsimp only <;> rcases ρ[i]? with _ | _ | s
  all_goals first | rfl | (cases s <;> first | rfl | (rename_i b _; cases b <;> rfl))
@[simp] theorem backArg_at {i : Nat} {a : A} : backArg (.at_ i) a ρ = gBack i ρ ρ[i]? a := by
  unfold backArg gBack
  dsimp only <;> rcases ρ[i]? with _ | _ | s
  all_goals first | rfl | (cases s <;> first | rfl | (rename_i b _; cases b <;> rfl) | (cases a <;> rfl))
@[simp] theorem mutSlot_d {i : Nat} {f : D → Rs D} : mutSlot i ρ f = gMut i ρ f ρ[i]? := by
  unfold mutSlot gMut
  rcases ρ[i]? with _ | _ | s
  all_goals first | rfl | (cases s <;> first | rfl | (rename_i b _; cases b <;> rfl))
@[simp] theorem retOf_at {i : Nat} : retOf (.at_ i) ρ = gRet i ρ ρ[i]? := by
  unfold retOf gRet
  dsimp only <;> rcases ρ[i]? with _ | _ | s
  all_goals first | rfl | (cases s <;> first | rfl | (rename_i b _; cases b <;> rfl))
@[simp] theorem g_aug {i : Nat} {op : Operator} {e : Ex} : ex F N (.aug i op e) ρ = gAug F i op e ρ ρ[i]? := by
  rw [r_ex_aug]
  unfold gAug
  rcases ρ[i]? with _ | _ | s
  all_goals first | rfl | (cases s <;> rfl)
@[simp] theorem g_chg {m : Mm} {i : Nat} {l : Exs} : ev F (.chg m i l) ρ = (evVar i ρ).bind fun r => (pk r.1 r.2).bind fun d0 => need (isLst d0 = true) <| (evs F l r.2).bind fun q => (Rs.of (toDs q.1 q.2)).bind fun t => gChg m i t t.2[i]? := by
  rw [r_ev_chg]
  refine congrArg _ (funext fun r => congrArg _ (funext fun d0 => congrArg _ (congrArg _ (funext fun q => congrArg _ (funext fun t => ?_)))))
  unfold gChg
  rcases t.2[i]? with _ | _ | s
  all_goals first | rfl | (cases s <;> rfl)
@[simp] theorem c24_dBin {i : Int} {j : Int} : dBin (.Add) (.int i) (.int j) = .ok (.val (.int (i + j))) := rfl
@[simp] theorem c25_dBin {x : Str} {y : Str} : dBin (.Add) (.str x) (.str y) = need (x.length + y.length ≤ sizeLine) (.ok (.val (.str (x ++ y)))) := rfl
@[simp] theorem c26_dBin {a : List D} {b : List D} : dBin (.Add) (.lst a) (.lst b) = need (a.length + b.length ≤ sizeLine) (.ok (.own (.lst (a ++ b)))) := rfl
@[simp] theorem c27_dBin {a : List D} {b : List D} : dBin (.Add) (.tup a) (.tup b) = need (a.length + b.length ≤ sizeLine) (.ok (.val (.tup (a ++ b)))) := rfl
@[simp] theorem c28_dBin {i : Int} {j : Int} : dBin (.Sub) (.int i) (.int j) = .ok (.val (.int (i - j))) := rfl
@[simp] theorem c29_dBin {i : Int} {j : Int} : dBin (.Mult) (.int i) (.int j) = need (CMulX i j) (.ok (.val (.int (i * j)))) := rfl
@[simp] theorem c30_dBin {k : Int} {l : List D} : dBin (.Mult) (.lst l) (.int k) = need (-(2 ^ 63) ≤ k ∧ k < 2 ^ 63 ∧ l.length * k.toNat ≤ sizeLine) (.ok (.own (.lst (List.replicate k.toNat l).flatten))) := rfl
@[simp] theorem c31_dBin {n : Int} {x : Str} : dBin (.Mult) (.str x) (.int n) = need (MulOk x n) (.ok (.val (.str (Txt.mul x n)))) := rfl
@[simp] theorem c32_dBin {i : Int} {j : Int} : dBin (.FloorDiv) (.int i) (.int j) = need (CDvX i j) (.ok (.val (.int (i.fdiv j)))) := rfl
@[simp] theorem c33_dBin {i : Int} {j : Int} : dBin (.Mod) (.int i) (.int j) = need (j ≠ 0) (.ok (.val (.int (i.fmod j)))) := rfl
@[simp] theorem c34_dBin {i : Int} {j : Int} : dBin (.Pow) (.int i) (.int j) = need (CPow i j) (.ok (.val (.int (i ^ j.toNat)))) := rfl
@[simp] theorem c35_dBin {i : Int} {j : Int} : dBin (.LShift) (.int i) (.int j) = need (CShl i j) (.ok (.val (.int (i * 2 ^ j.toNat)))) := rfl
@[simp] theorem c36_dCmp {a : D} {b : D} : dCmp (.Eq) (a) (b) = need (shp a = true ∧ shp b = true) (.ok (deq a b)) := rfl
@[simp] theorem c37_dCmp {a : D} {b : D} : dCmp (.NotEq) (a) (b) = need (shp a = true ∧ shp b = true) (.ok (!deq a b)) := rfl
@[simp] theorem c38_dCmp {i : Int} {j : Int} : dCmp (.Lt) (.int i) (.int j) = .ok (decide (i < j)) := rfl
@[simp] theorem c39_dCmp {i : Int} {j : Int} : dCmp (.LtE) (.int i) (.int j) = .ok (decide (i ≤ j)) := rfl
@[simp] theorem c40_dCmp {i : Int} {j : Int} : dCmp (.Gt) (.int i) (.int j) = .ok (decide (j < i)) := rfl
@[simp] theorem c41_dCmp {i : Int} {j : Int} : dCmp (.GtE) (.int i) (.int j) = .ok (decide (j ≤ i)) := rfl
@[simp] theorem c42_dCmp {a : D} : dCmp (.Is) (a) (.non) = .ok (match a with | .non => true | _ => false) := rfl
@[simp] theorem c43_dCmp {a : D} : dCmp (.IsNot) (a) (.non) = .ok (match a with | .non => false | _ => true) := rfl
@[simp] theorem c44_dCmp {a : D} {b : D} : dCmp (.In) (a) (b) = dIn a b := rfl
@[simp] theorem c45_dCmp {a : D} {b : D} : dCmp (.NotIn) (a) (b) = (dIn a b).bind fun c => .ok (!c) := rfl
@[simp] theorem c46_dIdx {i : Int} {l : List D} : dIdx (.tup l) (.int i) = .of (atI l i) := rfl
@[simp] theorem c47_dIdx {i : Int} {l : List D} : dIdx (.lst l) (.int i) = .of (atI l i) := rfl
@[simp] theorem c48_dIdx {i : Int} {l : List Int} : dIdx (.scr l) (.int i) = (Rs.of (atI l i)).bind fun k => .ok (.int k) := rfl
@[simp] theorem c49_dIdx {i : Int} {z : Str} : dIdx (.str z) (.int i) = need (z.length ≤ sizeLine) ((Rs.of (atI z.cps.toList i)).bind fun c => .ok (.str (chr1 c))) := rfl
@[simp] theorem c50_items {l : List D} : items (.tup l) = .ok l := rfl
@[simp] theorem c51_items {l : List D} : items (.lst l) = .ok l := rfl
@[simp] theorem c52_items {l : List Int} : items (.scr l) = .ok (l.map .int) := rfl
@[simp] theorem c53_items {x : Str} : items (.str x) = .ok (x.cps.toList.map fun c => .str (chr1 c)) := rfl
@[simp] theorem c54_itemsL {l : List D} : itemsL (.lst l) = .ok l := rfl
@[simp] theorem c55_dLen {l : List D} : dLen (.tup l) = .ok l.length := rfl
@[simp] theorem c56_dLen {l : List D} : dLen (.lst l) = .ok l.length := rfl
@[simp] theorem c57_dLen {l : List Int} : dLen (.scr l) = .ok l.length := rfl
@[simp] theorem c58_dLen {x : Str} : dLen (.str x) = need (x.length ≤ sizeLine) (.ok x.length) := rfl
@[simp] theorem c59_dBl {d : D} : dBl (.len) ([d]) = (dLen d).bind fun n => .ok (.val (.int n)) := rfl
@[simp] theorem c60_dBl {i : Int} : dBl (.abs) ([.int i]) = .ok (.val (.int (if i < 0 then -i else i))) := rfl
@[simp] theorem c61_dBl {i : Int} : dBl (.int) ([.int i]) = .ok (.val (.int i)) := rfl
@[simp] theorem c62_dBl {k : Bool} : dBl (.int) ([.bl k]) = .ok (.val (.int (if k then 1 else 0))) := rfl
@[simp] theorem c63_dBl {l : List D} : dBl (.tuple) ([.tup l]) = .ok (.val (.tup l)) := rfl
@[simp] theorem c64_dBl {l : List D} : dBl (.tuple) ([.lst l]) = .ok (.val (.tup l)) := rfl
@[simp] theorem c65_dBl {l : List Int} : dBl (.tuple) ([.scr l]) = .ok (.val (.tup (l.map .int))) := rfl
@[simp] theorem c66_dBl {l : List D} : dBl (.list) ([.tup l]) = .ok (.own (.lst l)) := rfl
@[simp] theorem c67_dBl {l : List D} : dBl (.list) ([.lst l]) = .ok (.own (.lst l)) := rfl
@[simp] theorem c68_dBl {l : List Int} : dBl (.list) ([.scr l]) = .ok (.own (.lst (l.map .int))) := rfl
@[simp] theorem c69_dBl {l : List D} : dBl (.all) ([.lst l]) = (Rs.of (bls l)).bind fun bs => .ok (.val (.bl (bs.all id))) := rfl
@[simp] theorem c70_dBl {l : List D} : dBl (.any) ([.lst l]) = (Rs.of (bls l)).bind fun bs => .ok (.val (.bl (bs.any id))) := rfl
@[simp] theorem c71_dBl {l : List D} : dBl (.sum) ([.lst l]) = (Rs.of (intsD l)).bind fun is => .ok (.val (.int is.sum)) := rfl
@[simp] theorem c72_dBl {i : Int} {j : Int} : dBl (.gcd) ([.int i, .int j]) = .ok (.val (.int ((Nat.gcd i.natAbs j.natAbs : Nat) : Int))) := rfl
@[simp] theorem c73_dBl {i : Int} {j : Int} : dBl (.min2) ([.int i, .int j]) = .ok (.val (.int (if j < i then j else i))) := rfl
@[simp] theorem c74_dBl {i : Int} {j : Int} : dBl (.max2) ([.int i, .int j]) = .ok (.val (.int (if j > i then j else i))) := rfl
@[simp] theorem c75_truth  : truth (.non) = .ok false := rfl
@[simp] theorem c76_truth {b : Bool} : truth (.bl b) = .ok b := rfl
@[simp] theorem c77_truth {i : Int} : truth (.int i) = .ok (i != 0) := rfl
@[simp] theorem c78_truth {x : Str} : truth (.str x) = need (x.length ≤ sizeLine) (.ok ((x.length : Int) != 0)) := rfl
@[simp] theorem c79_truth {l : List D} : truth (.tup l) = .ok (!l.isEmpty) := rfl
@[simp] theorem c80_truth {l : List D} : truth (.lst l) = .ok (!l.isEmpty) := rfl
@[simp] theorem c81_truth {l : List Int} : truth (.scr l) = .ok (!l.isEmpty) := rfl
@[simp] theorem c82_dMe {a : Str} {l : List D} : dMe (.join) (.str a) ([.lst l]) = (Rs.of (strsD l)).bind fun ys => need ((ys.map (·.length)).sum + ys.length * a.length ≤ 16777216) (.ok (.val (.str (Txt.join a ys)))) := rfl
@[simp] theorem c83_dMe {a : Str} {l : List D} : dMe (.join) (.str a) ([.tup l]) = (Rs.of (strsD l)).bind fun ys => need ((ys.map (·.length)).sum + ys.length * a.length ≤ 16777216) (.ok (.val (.str (Txt.join a ys)))) := rfl
@[simp] theorem c84_dMe {a : Str} {b : Str} : dMe (.split) (.str a) ([.str b]) = need ((b.length == 0) = false ∧ a.length + 2 ≤ sizeLine) (.ok (.own (.lst ((Txt.split a b).map .str)))) := rfl
@[simp] theorem c85_dMe {l : List D} {x : D} : dMe (.index) (.lst l) ([x]) = need (shp x = true ∧ shp (.lst l) = true) (match l.findIdx? fun z => deq z x with | some j => .ok (.val (.int (j : Nat))) | none => .bad) := rfl
@[simp] theorem c86_dMm {l : List D} {d : D} : dMm (.append) (.lst l) ([d]) = need (l.length < sizeLine) (.ok (.non, .lst (l ++ [d]))) := rfl
@[simp] theorem c87_dMm {l : List D} : dMm (.pop) (.lst l) ([]) = (Rs.of (l[l.length - 1]?)).bind fun y => .ok (y, .lst l.dropLast) := rfl
@[simp] theorem c88_dMm {i : Int} {l : List D} {d : D} : dMm (.insert) (.lst l) ([.int i, d]) = need (l.length < sizeLine ∧ 0 ≤ i ∧ i < 2 ^ 63) (.ok (.non, .lst (l.take i.toNat ++ [d] ++ l.drop i.toNat))) := rfl
@[simp] theorem c89_dMm {i : Int} {l : List D} : dMm (.popAt) (.lst l) ([.int i]) = need (-(2 ^ 63) ≤ i ∧ i < 2 ^ 63) ((Rs.of (seqIndex? i l.length)).bind fun k => (Rs.of l[k]?).bind fun y => .ok (y, .lst (l.eraseIdx k))) := rfl
@[simp] theorem c90_dAug {i : Int} {j : Int} : dAug (.Add) (.int i) (.int j) = .ok (.int (i + j)) := rfl
@[simp] theorem c91_dAug {i : Int} {j : Int} : dAug (.Sub) (.int i) (.int j) = .ok (.int (i - j)) := rfl
@[simp] theorem c92_dAug {x : Str} {y : Str} : dAug (.Add) (.str x) (.str y) = need (x.length + y.length ≤ sizeLine) (.ok (.str (x ++ y))) := rfl
@[simp] theorem c93_dSet {k : Int} {l : List D} {d : D} : dSet (.lst l) (.int k) (d) = (Rs.of (ixN l.length k)).bind fun j => .ok (.lst (l.set j d)) := rfl
@[simp] theorem c94_itemss {a : List D} {b : List D} : itemss ([.lst a, .lst b]) = .ok [a, b] := rfl
@[simp] theorem c95_itemss {a : List D} {b : List D} : itemss ([.tup a, .tup b]) = .ok [a, b] := rfl
@[simp] theorem c96_dSlc {z : Str} {lo : Option Int} {hi : Option Int} : dSlc (.str z) (lo) (hi) = need (z.length ≤ sizeLine) (.ok (.val (.str (cutS z lo hi)))) := rfl
@[simp] theorem c97_dSlc {l : List D} {lo : Option Int} {hi : Option Int} : dSlc (.lst l) (lo) (hi) = .ok (.own (.lst ((l.drop (HT.sIx l.length 0 lo)).take (HT.sIx l.length l.length hi - HT.sIx l.length 0 lo)))) := rfl
@[simp] theorem c98_dSlc {l : List D} {lo : Option Int} {hi : Option Int} : dSlc (.tup l) (lo) (hi) = .ok (.val (.tup ((l.drop (HT.sIx l.length 0 lo)).take (HT.sIx l.length l.length hi - HT.sIx l.length 0 lo)))) := rfl
@[simp] theorem c99_bls {ds : List D} : bls ([]) = some [] := rfl
@[simp] theorem c100_bls {b : Bool} {ds : List D} : bls (.bl b :: ds) = (bls ds).map (b :: ·) := rfl
@[simp] theorem c101_intsD {ds : List D} : intsD ([]) = some [] := rfl
@[simp] theorem c102_intsD {b : Int} {ds : List D} : intsD (.int b :: ds) = (intsD ds).map (b :: ·) := rfl
@[simp] theorem c103_strsD {ds : List D} : strsD ([]) = some [] := rfl
@[simp] theorem c104_strsD {b : Str} {ds : List D} : strsD (.str b :: ds) = (strsD ds).map (b :: ·) := rfl
@[simp] theorem dIn_str {i j : Str} : dIn (.str i) (.str j) = .ok (strIn i j) := rfl
@[simp] theorem dIn_lst {x : D} {l : List D} : dIn x (.lst l) = need (shp x = true ∧ shp (.lst l) = true) (.ok (l.any fun z => deq z x)) := rfl
@[simp] theorem dIn_tup {x : D} {l : List D} : dIn x (.tup l) = need (shp x = true ∧ shp (.tup l) = true) (.ok (l.any fun z => deq z x)) := rfl
@[simp] theorem isTy_tt {l : List D} : isTy .tup (.tup l) = .ok true := rfl
@[simp] theorem isTy_tl {l : List D} : isTy .tup (.lst l) = .ok false := rfl
@[simp] theorem isTy_ll {l : List D} : isTy .lst (.lst l) = .ok true := rfl
@[simp] theorem isTy_ss {x : Str} : isTy .str (.str x) = .ok true := rfl
@[simp] theorem isTy_ii {x : Int} : isTy .int (.int x) = .ok true := rfl
@[simp] theorem isTy_ib {x : Bool} : isTy .int (.bl x) = .ok true := rfl
@[simp] theorem isTy_bb {x : Bool} : isTy .bool (.bl x) = .ok true := rfl
@[simp] theorem isTy_bi {x : Int} : isTy .bool (.int x) = .ok false := rfl
@[simp] theorem isLst_i {l : List D} : isLst (.lst l) = true := rfl
@[simp] theorem hasTy_j {x : Str} : hasTy .join (.str x) = true := rfl
@[simp] theorem hasTy_s {x : Str} : hasTy .split (.str x) = true := rfl
@[simp] theorem atI_0 {α : Type} {x : α} {l : List α} : atI (x :: l) 0 = some x := by simp [atI, ixN]
@[simp] theorem atI_1 {α : Type} {x y : α} {l : List α} : atI (x :: y :: l) 1 = some y := by
  unfold atI ixN
  rw [if_pos (by decide), if_pos (by simp; omega)]
  rfl
@[simp] theorem atI_2 {α : Type} {x y z : α} {l : List α} : atI (x :: y :: z :: l) 2 = some z := by
  unfold atI ixN
  rw [if_pos (by decide), if_pos (by simp; omega)]
  rfl
@[simp] theorem atI_3 {α : Type} {x y z w : α} {l : List α} : atI (x :: y :: z :: w :: l) 3 = some w := by
  unfold atI ixN
  rw [if_pos (by decide), if_pos (by simp; omega)]
  rfl
@[simp] theorem mkF_glo2 {glo : Str → Option D} {M : Nat} {ds : List Dm} : (mkF glo M ds).glo = glo := mkF_glo
theorem dfl_cons {glo : Str → Option D} {M : Nat} {d : Dm} {ds : List Dm} (h1 : d.dfl = fun _ => []) (h2 : ∀ f n, (mkF glo M ds).dfl f n = []) (f : Str) (n : Nat) : (mkF glo M (d :: ds)).dfl f n = [] := by
  show (if f = d.f then d.dfl n else (mkF glo M ds).dfl f n) = []
  split
  · rw [h1]
  · exact h2 f n
/-- a table's def, seen from a larger one -/
theorem lift {glo : Str → Option D} {M : Nat} {f : Str} {ds : List Dm} : ∀ (l : List Dm), (l.all fun e => decide (f ≠ e.f)) = true → (mkF glo M (l ++ ds)).call f = (mkF glo M ds).call f
  | [], _ => rfl
  | d :: l, h => by
    rw [List.all_cons, Bool.and_eq_true] at h
    exact (show (mkF glo M (d :: (l ++ ds))).call f = _ from funext fun as => if_neg (of_decide_eq_true h.1)).trans (lift l h.2)
theorem nodfl {glo : Str → Option D} {M : Nat} {f : Str} {n : Nat} : ∀ {ds : List Dm}, (∀ d ∈ ds, d.dfl = fun _ => []) → (mkF glo M ds).dfl f n = []
  | [], _ => rfl
  | d :: l, h => by
    show (if f = d.f then d.dfl n else (mkF glo M l).dfl f n) = []
    split
    · rw [h d List.mem_cons_self]
    · exact nodfl fun e he => h e (List.mem_cons_of_mem _ he)
end
end Dv

set_option Elab.async false
set_option linter.all false
set_option maxRecDepth 100000
set_option maxHeartbeats 1000000
namespace Dv
open PySem PySem.Spec PyProof.Rows L2

/-! ### loops by what holds -/
theorem mapR_gen {f : D → Env' → Rs (Option D × Env')} : ∀ {l : List D} {I : Nat → List D → Env' → Prop} {ρ : Env'} {k : Nat} {out : List D},
    (∀ (i : Nat) (d : D) (out : List D) (ρ : Env'), l[i]? = some d → I (k + i) out ρ → ∃ y ρ', f d ρ = .ok (y, ρ') ∧ I (k + i + 1) (out ++ y.toList) ρ') → I k out ρ →
    ∃ o ρ', mapR f l ρ = .ok (o, ρ') ∧ I (k + l.length) (out ++ o) ρ'
  | [], I, ρ, k, out, _, h => ⟨[], ρ, rfl, by simpa using h⟩
  | d :: l, I, ρ, k, out, step, h => by
    obtain ⟨y, ρ1, e1, h1⟩ := step 0 d out ρ rfl h
    obtain ⟨o, ρ2, e2, h2⟩ := mapR_gen (l := l) (I := I) (ρ := ρ1) (k := k + 1) (out := out ++ y.toList) (fun i d out ρ e hi => by
      have := step (i + 1) d out ρ (by simpa using e) (by rw [show k + (i + 1) = k + 1 + i by omega]; exact hi)
      rw [show k + (i + 1) = k + 1 + i by omega] at this
      exact this) h1
    rw [List.length_cons, show k + (l.length + 1) = k + 1 + l.length by omega]
    cases y with
    | none =>
      refine ⟨o, ρ2, ?_, by simpa using h2⟩
      show (f d ρ).bind _ = _
      rw [e1]
      show (mapR f l ρ1).bind _ = _
      rw [e2]
      rfl
    | some y =>
      refine ⟨y :: o, ρ2, ?_, by simpa using h2⟩
      show (f d ρ).bind _ = _
      rw [e1]
      show (mapR f l ρ1).bind _ = _
      rw [e2]
      rfl
theorem forR_gen {f : D → Env' → Rs (Fl × Env')} : ∀ {l : List D} {I : Nat → Env' → Prop} {ρ : Env'} {k : Nat},
    (∀ (i : Nat) (d : D) (ρ : Env'), l[i]? = some d → I (k + i) ρ → ∃ ρ', f d ρ = .ok (.nx, ρ') ∧ I (k + i + 1) ρ') → I k ρ → ∃ ρ', forR f l ρ = .ok (.nx, ρ') ∧ I (k + l.length) ρ'
  | [], I, ρ, k, _, h => ⟨ρ, rfl, h⟩
  | d :: l, I, ρ, k, step, h => by
    obtain ⟨ρ1, e1, h1⟩ := step 0 d ρ rfl h
    obtain ⟨ρ2, e2, h2⟩ := forR_gen (l := l) (I := I) (ρ := ρ1) (k := k + 1) (fun i d ρ e hi => by
      have := step (i + 1) d ρ (by simpa using e) (by rw [show k + (i + 1) = k + 1 + i by omega]; exact hi)
      rw [show k + (i + 1) = k + 1 + i by omega] at this
      exact this) h1
    refine ⟨ρ2, ?_, ?_⟩
    · show (f d ρ).bind _ = _
      rw [e1]
      exact e2
    · rw [List.length_cons, show k + (l.length + 1) = k + 1 + l.length by omega]
      exact h2
theorem whileR_gen {t : Env' → Rs (Bool × Env')} {b : Env' → Rs (Fl × Env')} {I : Env' → Prop} {Q : Env' → Prop} (μ : Env' → Nat)
    (step : ∀ ρ, I ρ → (∃ ρ', t ρ = .ok (false, ρ') ∧ Q ρ') ∨ ∃ ρ1 ρ2, t ρ = .ok (true, ρ1) ∧ b ρ1 = .ok (.nx, ρ2) ∧ I ρ2 ∧ μ ρ2 < μ ρ) :
    ∀ {N : Nat} {ρ : Env'}, μ ρ < N → I ρ → ∃ ρ', whileR t b N ρ = .ok (.nx, ρ') ∧ Q ρ'
  | 0, ρ, h, _ => by omega
  | N + 1, ρ, h, hi => by
    rcases step ρ hi with ⟨ρ', e, q⟩ | ⟨ρ1, ρ2, e1, e2, h2, lt⟩
    · refine ⟨ρ', ?_, q⟩
      show (t ρ).bind _ = _
      rw [e]
      rfl
    · obtain ⟨ρ', e3, q⟩ := whileR_gen μ step (N := N) (ρ := ρ2) (by omega) h2
      refine ⟨ρ', ?_, q⟩
      show (t ρ).bind _ = _
      rw [e1]
      show (b ρ1).bind _ = _
      rw [e2]
      exact e3
theorem wR_len : ∀ (own : List Nat) (ρ : Env'), (wipeR ρ own).length = ρ.length
  | [], _ => rfl
  | v :: vs, ρ => by rw [wipe_cons, List.length_set, wR_len vs ρ]
theorem bR_len {ρ0 : Env'} : ∀ (own : List Nat) (ρ : Env'), (backR ρ0 ρ own).length = ρ.length
  | [], _ => rfl
  | v :: vs, ρ => by rw [back_cons, List.length_set, bR_len vs ρ]
theorem wR_get : ∀ (own : List Nat) (ρ : Env') (j : Nat), (wipeR ρ own)[j]? = if j ∈ own then (if j < ρ.length then some none else none) else ρ[j]?
  | [], _, _ => rfl
  | v :: vs, ρ, j => by
    rw [wipe_cons]
    by_cases e : v = j
    · subst e
      rw [if_pos List.mem_cons_self]
      by_cases lt : v < ρ.length
      · rw [if_pos lt, List.getElem?_set_self (by rw [wR_len]; exact lt)]
      · rw [if_neg lt, List.getElem?_eq_none (by rw [List.length_set, wR_len]; omega)]
    · rw [List.getElem?_set_ne e, wR_get vs ρ j]
      by_cases h : j ∈ vs
      · rw [if_pos h, if_pos (List.mem_cons_of_mem _ h)]
      · rw [if_neg h, if_neg (by simp [h, Ne.symm e])]
theorem bR_get {ρ0 : Env'} : ∀ (own : List Nat) (ρ : Env') (j : Nat), (backR ρ0 ρ own)[j]? = if j ∈ own then (if j < ρ.length then some (ρ0.getD j none) else none) else ρ[j]?
  | [], _, _ => rfl
  | v :: vs, ρ, j => by
    rw [back_cons]
    by_cases e : v = j
    · subst e
      rw [if_pos List.mem_cons_self]
      by_cases lt : v < ρ.length
      · rw [if_pos lt, List.getElem?_set_self (by rw [bR_len]; exact lt)]
      · rw [if_neg lt, List.getElem?_eq_none (by rw [List.length_set, bR_len]; omega)]
    · rw [List.getElem?_set_ne e, bR_get vs ρ j]
      by_cases h : j ∈ vs
      · rw [if_pos h, if_pos (List.mem_cons_of_mem _ h)]
      · rw [if_neg h, if_neg (by simp [h, Ne.symm e])]
theorem wipe_idem {own : List Nat} {ρ : Env'} : wipeR (wipeR ρ own) own = wipeR ρ own := List.ext_getElem? fun j => by
  rw [wR_get, wR_get, wR_len]
  by_cases h : j ∈ own
  · rw [if_pos h, if_pos h]
  · rw [if_neg h, if_neg h]
theorem back_wipe {ρ0 : Env'} {own : List Nat} {ρ : Env'} : backR ρ0 (wipeR ρ own) own = backR ρ0 ρ own := List.ext_getElem? fun j => by
  rw [bR_get, bR_get, wR_get, wR_len]
  by_cases h : j ∈ own
  · rw [if_pos h, if_pos h]
  · rw [if_neg h, if_neg h, if_neg h]
/-- a turn of a comprehension -/
noncomputable def turnR (F : Fn) (elt : Ex) (tg : Tg) (ifs : To) (d : D) (ρ : Env') : Rs (Option D × Env') := (asgT tg d ρ).bind fun ρ2 => (evc F ifs ρ2).quiet.bind fun c => match c.1 with
        | true => (ev F elt c.2).quiet.bind fun p => (Rs.of (toD p.1 p.2)).bind fun y => .ok (some y.1, y.2)
        | false => .ok (none, c.2)
/-- a comprehension, by what holds of the made items and of the other slots -/
theorem comp_gen {F : Fn} {elt : Ex} {tg : Tg} {it : Ie} {ifs : To} {own : List Nat} {ρ ρ1 : Env'} {l : List D} {p : P} (hi : evi F it ρ = .ok ((l, p), ρ1)) (I : Nat → List D → Env' → Prop)
    (step : ∀ (i : Nat) (d : D) (out : List D) (ρ : Env'), l[i]? = some d → wipeR ρ own = ρ → I i out ρ → ∃ y ρ', turnR F elt tg ifs d ρ = .ok (y, ρ') ∧ I (i + 1) (out ++ y.toList) (wipeR ρ' own)) (h0 : I 0 [] (wipeR (lockP p ρ1).2 own)) :
    ∃ out ρ2, I l.length out ρ2 ∧ ev F (.comp elt tg it ifs own) ρ = (unlock (lockP p ρ1).1 (backR (lockP p ρ1).2 ρ2 own)).bind fun ρ' => need (out.length < sizeLine) (.ok (.own (.lst out), ρ')) := by
  obtain ⟨o, ρ', e, h⟩ := mapR_gen (f := fun d ρ => turnR F elt tg ifs d (wipeR ρ own)) (l := l) (I := fun i out ρ => I i out (wipeR ρ own)) (k := 0) (out := []) (ρ := wipeR (lockP p ρ1).2 own) (fun i d out ρ e h => by
    rw [Nat.zero_add] at h ⊢
    exact step i d out (wipeR ρ own) e wipe_idem h) (by rw [wipe_idem]; exact h0)
  rw [Nat.zero_add, List.nil_append] at h
  refine ⟨o, wipeR ρ' own, h, ?_⟩
  rw [r_ev_comp, hi]
  show (mapR (fun d ρ => turnR F elt tg ifs d (wipeR ρ own)) l (wipeR (lockP p ρ1).2 own)).bind _ = _
  rw [e, back_wipe]
  rfl
end Dv

set_option Elab.async false
set_option linter.all false
set_option maxRecDepth 100000
set_option maxHeartbeats 1000000
namespace Dv
open PySem PySem.Spec PyProof.Rows L2

/-! ### the draws that all laws share -/
def bBegin : Sxs := (.cons 
    (.ret (.lst (.cons (.comp (.blt .int (.cons (.var 1) .nil)) (.nm 1) (.seq (.var 0)) .none [1]) (.cons (.cst (.int 0)) (.cons (.cst (.int 0)) (.cons (.cst (.int 7)) (.cons (.cst (.int 3)) .nil))))))) .nil)
def bDraw : Sxs := (.cons 
    (.ite (.cmp .Gt (.idx (.var 0) (.cst (.int 2))) (.cst (.int 0))) (.cons 
    (.set 3 (.idx (.var 0) (.cst (.int 2)))) (.cons 
    (.setI 0 (.cst (.int 2)) (.bin .FloorDiv (.var 3) (.var 1))) (.cons 
    (.ret (.bin .Mod (.blt .int (.cons (.var 3) .nil)) (.var 1))) .nil))) .nil) (.cons 
    (.set 2 (.cst (.int 0))) (.cons 
    (.ite (.cmp .Lt (.idx (.var 0) (.cst (.int 1))) (.blt .len (.cons (.idx (.var 0) (.cst (.int 0))) .nil))) (.cons 
    (.set 4 (.idx (.idx (.var 0) (.cst (.int 0))) (.idx (.var 0) (.cst (.int 1))))) (.cons 
    (.set 2 (.bin .Add (.bin .Mult (.cst (.int 2)) (.blt .abs (.cons (.var 4) .nil))) (.blt .int (.cons (.cmp .Lt (.var 4) (.cst (.int 0))) .nil)))) .nil)) .nil) (.cons 
    (.augI 0 .Add (.cst (.int 1)) (.cst (.int 1))) (.cons 
    (.ite (.cmp .GtE (.var 2) (.bin .Mult (.cst (.int 2)) (.bin .Pow (.cst (.int 10)) (.cst (.int 18))))) (.cons 
    (.set 3 (.bin .Mod (.blt .int (.cons (.bin .FloorDiv (.var 2) (.cst (.int 2))) .nil)) (.bin .LShift (.cst (.int 1)) (.cst (.int 6000))))) (.cons 
    (.setI 0 (.cst (.int 2)) (.bin .FloorDiv (.var 3) (.var 1))) (.cons 
    (.ret (.bin .Mod (.blt .int (.cons (.var 3) .nil)) (.var 1))) .nil))) .nil) (.cons 
    (.setI 0 (.cst (.int 3)) (.bin .Mod (.blt .int (.cons (.bin .Add (.bin .Add (.bin .Add (.bin .Mult (.idx (.var 0) (.cst (.int 3))) (.cst (.int 48271))) (.bin .Mult (.bin .Mod (.blt .int (.cons (.var 2) .nil)) (.cst (.int 2147483629))) (.cst (.int 16807)))) (.bin .Mult (.idx (.var 0) (.cst (.int 1))) (.cst (.int 69621)))) (.cst (.int 11))) .nil)) (.cst (.int 2147483647)))) (.cons 
    (.ret (.bin .Mod (.blt .int (.cons (.bin .FloorDiv (.idx (.var 0) (.cst (.int 3))) (.cst (.int 16))) .nil)) (.var 1))) .nil)))))))
def dS1 : Sx := (.ite (.cmp .Gt (.idx (.var 0) (.cst (.int 2))) (.cst (.int 0))) (.cons 
    (.set 3 (.idx (.var 0) (.cst (.int 2)))) (.cons 
    (.setI 0 (.cst (.int 2)) (.bin .FloorDiv (.var 3) (.var 1))) (.cons 
    (.ret (.bin .Mod (.blt .int (.cons (.var 3) .nil)) (.var 1))) .nil))) .nil)
def dS3 : Sx := (.ite (.cmp .Lt (.idx (.var 0) (.cst (.int 1))) (.blt .len (.cons (.idx (.var 0) (.cst (.int 0))) .nil))) (.cons 
    (.set 4 (.idx (.idx (.var 0) (.cst (.int 0))) (.idx (.var 0) (.cst (.int 1))))) (.cons 
    (.set 2 (.bin .Add (.bin .Mult (.cst (.int 2)) (.blt .abs (.cons (.var 4) .nil))) (.blt .int (.cons (.cmp .Lt (.var 4) (.cst (.int 0))) .nil)))) .nil)) .nil)
def bDraw2 : Sxs := (.cons 
    (.augI 0 .Add (.cst (.int 1)) (.cst (.int 1))) (.cons 
    (.ite (.cmp .GtE (.var 2) (.bin .Mult (.cst (.int 2)) (.bin .Pow (.cst (.int 10)) (.cst (.int 18))))) (.cons 
    (.set 3 (.bin .Mod (.blt .int (.cons (.bin .FloorDiv (.var 2) (.cst (.int 2))) .nil)) (.bin .LShift (.cst (.int 1)) (.cst (.int 6000))))) (.cons 
    (.setI 0 (.cst (.int 2)) (.bin .FloorDiv (.var 3) (.var 1))) (.cons 
    (.ret (.bin .Mod (.blt .int (.cons (.var 3) .nil)) (.var 1))) .nil))) .nil) (.cons 
    (.setI 0 (.cst (.int 3)) (.bin .Mod (.blt .int (.cons (.bin .Add (.bin .Add (.bin .Add (.bin .Mult (.idx (.var 0) (.cst (.int 3))) (.cst (.int 48271))) (.bin .Mult (.bin .Mod (.blt .int (.cons (.var 2) .nil)) (.cst (.int 2147483629))) (.cst (.int 16807)))) (.bin .Mult (.idx (.var 0) (.cst (.int 1))) (.cst (.int 69621)))) (.cst (.int 11))) .nil)) (.cst (.int 2147483647)))) (.cons 
    (.ret (.bin .Mod (.blt .int (.cons (.bin .FloorDiv (.idx (.var 0) (.cst (.int 3))) (.cst (.int 16))) .nil)) (.var 1))) .nil))))
def dS4 : Sx := (.augI 0 .Add (.cst (.int 1)) (.cst (.int 1)))
def dS5 : Sx := (.ite (.cmp .GtE (.var 2) (.bin .Mult (.cst (.int 2)) (.bin .Pow (.cst (.int 10)) (.cst (.int 18))))) (.cons 
    (.set 3 (.bin .Mod (.blt .int (.cons (.bin .FloorDiv (.var 2) (.cst (.int 2))) .nil)) (.bin .LShift (.cst (.int 1)) (.cst (.int 6000))))) (.cons 
    (.setI 0 (.cst (.int 2)) (.bin .FloorDiv (.var 3) (.var 1))) (.cons 
    (.ret (.bin .Mod (.blt .int (.cons (.var 3) .nil)) (.var 1))) .nil))) .nil)
def dS6 (A B C E G Q : Int) : Sx := (.setI 0 (.cst (.int 3)) (.bin .Mod (.blt .int (.cons (.bin .Add (.bin .Add (.bin .Add (.bin .Mult (.idx (.var 0) (.cst (.int 3))) (.cst (.int A))) (.bin .Mult (.bin .Mod (.blt .int (.cons (.var 2) .nil)) (.cst (.int B))) (.cst (.int C)))) (.bin .Mult (.idx (.var 0) (.cst (.int 1))) (.cst (.int E)))) (.cst (.int G))) .nil)) (.cst (.int Q))))
def bDraw3 : Sxs := (.cons 
    (.ret (.bin .Mod (.blt .int (.cons (.bin .FloorDiv (.idx (.var 0) (.cst (.int 3))) (.cst (.int 16))) .nil)) (.var 1))) .nil)
def bPick : Sxs := (.cons 
    (.ret (.idx (.var 1) (.call "_law_draw" (.cons (.var 0) (.cons (.blt .len (.cons (.var 1) .nil)) .nil))))) .nil)
def bRare : Sxs := (.cons 
    (.ret (.cmp .Eq (.call "_law_draw" (.cons (.var 0) (.cons (.var 1) .nil))) (.bin .FloorDiv (.var 1) (.cst (.int 2))))) .nil)
theorem bits_lt {x : Int} {k : Nat} (h : x.natAbs < 2 ^ k) : Builtin.Int.intBits x ≤ k := by
  unfold Builtin.Int.intBits
  split
  · omega
  · rename_i hx
    have : x.natAbs ≠ 0 := by simpa using hx
    exact (Nat.log2_lt this).mpr h
theorem bits_neg {x : Int} : Builtin.Int.intBits (-x) = Builtin.Int.intBits x := by
  unfold Builtin.Int.intBits
  rw [Int.natAbs_neg]
  by_cases h : x = 0
  · subst h; rfl
  · have h1 : (-x == 0) = false := by simpa using h
    have h2 : (x == 0) = false := by simpa using h
    rw [h1, h2]
theorem bits_nn {x : Int} {k : Nat} (h0 : 0 ≤ x) (h : x < 2 ^ k) : Builtin.Int.intBits x ≤ k := bits_lt (by
  have e : ((2 : Int) ^ k) = ((2 ^ k : Nat) : Int) := by push_cast; rfl
  rw [e] at h
  omega)
theorem ofb_lt {x : Int} {k : Nat} (h : Builtin.Int.intBits x ≤ k) : x.natAbs < 2 ^ k := by
  unfold Builtin.Int.intBits at h
  split at h
  · rename_i hx
    have : x = 0 := by simpa using hx
    subst this
    exact Nat.two_pow_pos k
  · rename_i hx
    have : x.natAbs ≠ 0 := by simpa using hx
    exact (Nat.log2_lt this).mp h
/-- a divisor of one digit or few -/
theorem dv_ok {i j : Int} (h : 0 < j) (h2 : j < 2 ^ 64) : CDvX i j := by
  refine ⟨by omega, ?_⟩
  unfold Builtin.divisionGoesByPylong
  have : j.natAbs.log2 < 64 := (Nat.log2_lt (by omega)).mpr (by omega)
  have e : (j == 0) = false := by simpa using (by omega : j ≠ 0)
  simp only [e]
  have q : ¬ (j.natAbs.log2 / 30 + 1 > 300) := by omega
  simp [q]

/-- 1 << 6000 -/
def big : Int := ((2 ^ 6000 : Nat) : Int)
theorem big_pos : 0 < big := by
  unfold big
  have : 0 < 2 ^ 6000 := Nat.two_pow_pos 6000
  omega
theorem pow_nat (n : Nat) : (1 : Int) * 2 ^ n = ((2 ^ n : Nat) : Int) := by
  rw [Int.one_mul]
  push_cast
  rfl
theorem sh_ok : CShl 1 ((6000 : Nat) : Int) := by decide +kernel
theorem sh_big (n : Nat) (h : CShl 1 (n : Int)) : dBin .LShift (.int 1) (.int (n : Int)) = .ok (.val (.int ((2 ^ n : Nat) : Int))) := by
  show need (CShl 1 (n : Int)) _ = _
  rw [need_true h, Int.toNat_natCast, pow_nat]
@[simp high] theorem sh_big2 : dBin .LShift (.int 1) (.int 6000) = .ok (.val (.int big)) := sh_big 6000 sh_ok
theorem fdiv_le {f m : Int} (h0 : 0 ≤ f) (hm : 0 < m) : f.fdiv m ≤ f := by
  rw [Int.fdiv_eq_ediv_of_nonneg _ (by omega)]
  exact Int.ediv_le_self _ h0
/-- the state of the draws, behind at most n of them -/
structure DS (n : Nat) (d : D) : Prop where
  ex : ∃ (cs : List Int) (p f s : Int), d = .lst [.lst (cs.map .int), .int p, .int f, .int s, .int 3] ∧ (∀ c ∈ cs, Builtin.Int.intBits c ≤ 1048576) ∧ cs.length ≤ 63 ∧ 0 ≤ p ∧ p ≤ n ∧ 0 ≤ f ∧ f < big ∧ 0 ≤ s ∧ s < 2 ^ 31
theorem DS.mono {n m : Nat} {d : D} (h : DS n d) (le : n ≤ m) : DS m d := by
  obtain ⟨cs, p, f, s, e, h1, h2, h3, h4, h5⟩ := h.ex
  exact ⟨cs, p, f, s, e, h1, h2, h3, by omega, h5⟩

theorem begin_ok {F : Fn} {M : Nat} {ns : List Int} (hl : ns.length ≤ 63) : runDef F M 2 bBegin [.val (.scr ns)] = .ok (.own (.lst [.lst (ns.map .int), .int 0, .int 0, .int 7, .int 3]), [.val (.scr ns)]) := by
  obtain ⟨o, ρ2, ⟨h1, h2⟩, e⟩ := comp_gen (F := F) (elt := .blt .int (.cons (.var 1) .nil)) (tg := .nm 1) (it := .seq (.var 0)) (ifs := .none) (own := [1]) (ρ := [some (.val (.scr ns)), none]) (l := ns.map .int) (p := .val (.scr ns)) (ρ1 := [some (.val (.scr ns)), none]) (by simp [items])
    (I := fun i out ρ => out = (ns.map D.int).take i ∧ ρ = [some (.val (.scr ns)), none])
      (fun i d out ρ e _ ⟨h1, h2⟩ => by
        obtain ⟨z, hz, rfl⟩ := List.mem_map.mp (List.mem_of_getElem? e)
        refine ⟨some (.int z), [some (.val (.scr ns)), some (.val (.int z))], ?_, ?_, ?_⟩
        · rw [h2]
          simp [turnR, dBl]
        · rw [h1, List.take_succ, e]
        · simp) ⟨rfl, by simp⟩
  rw [List.take_length] at h1
  subst h1 h2
  have hq : ns.length < 16777216 := by omega
  simp [bBegin, envOf, -r_ev_comp, e, sizeLine, hq]

theorem fdiv_lt {f m : Int} {k : Nat} (h0 : 0 ≤ f) (h : f < 2 ^ k) (hm : 0 < m) : f.fdiv m < 2 ^ k := by
  have h1 : f.fdiv m ≤ f := by
    rw [Int.fdiv_eq_ediv_of_nonneg _ (by omega)]
    exact Int.ediv_le_self _ h0
  omega
theorem exs_nx {F : Fn} {M : Nat} {t : Sx} {l : Sxs} {ρ ρ' : Env'} (h : ex F M t ρ = .ok (.nx, ρ')) : exs F M (.cons t l) ρ = exs F M l ρ' := by
  rw [r_exs_cons, h]
  rfl
theorem dS6_ok {F : Fn} {M : Nat} {A B C E G Q p f s sz m : Int} {x : D} {o3 o4 : Option S} (hB : B ≠ 0) (hQ : Q ≠ 0) (m2 : CMulX s A) (m3 : CMulX (sz.fmod B) C) (m4 : CMulX p E) :
    ex F M (dS6 A B C E G Q) [some (.own true (.lst [x, .int p, .int f, .int s, .int 3])), some (.val (.int m)), some (.val (.int sz)), o3, o4] =
    .ok (.nx, [some (.own true (.lst [x, .int p, .int f, .int ((s * A + sz.fmod B * C + p * E + G).fmod Q), .int 3])), some (.val (.int m)), some (.val (.int sz)), o3, o4]) := by
  simp [dS6, ixN, hB, hQ, m2, m3, m4]
theorem draw_ok {F : Fn} {M : Nat} {n : Nat} {d : D} {m : Int} (hd : DS n d) (hn : n < 2 ^ 60) (h0 : 0 < m) (h1 : m < 2 ^ 64) :
    ∃ r d', runDef F M 5 bDraw [.own d, .val (.int m)] = .ok (.val (.int r), [.own d', .val (.int m)]) ∧ 0 ≤ r ∧ r < m ∧ DS (n + 1) d' := by
  obtain ⟨cs, p, f, s, rfl, hb, hl, hp0, hpn, hf0, hf1, hs0, hs1⟩ := hd.ex
  have dv : ∀ i, CDvX i m := fun i => dv_ok h0 h1
  have hm : m ≠ 0 := by omega
  have fm : ∀ x : Int, 0 ≤ x.fmod m ∧ x.fmod m < m := fun x => ⟨Int.fmod_nonneg_of_pos _ h0, Int.fmod_lt_of_pos _ h0⟩
  by_cases hf : 0 < f
  · refine ⟨f.fmod m, .lst [.lst (cs.map .int), .int p, .int (f.fdiv m), .int s, .int 3], ?_, (fm f).1, (fm f).2, ⟨cs, p, f.fdiv m, s, rfl, hb, hl, hp0, by omega, Int.fdiv_nonneg hf0 (by omega), Int.lt_of_le_of_lt (fdiv_le hf0 h0) hf1, hs0, hs1⟩⟩
    simp [bDraw, envOf, ixN, hf, dv, hm]
  · have mx : ∀ (a b : Int), Builtin.Int.intBits a ≤ 2000000 → Builtin.Int.intBits b ≤ 2000000 → CMulX a b := fun a b h1 h2 => by
      unfold CMulX
      omega
    have b2 : Builtin.Int.intBits 2 ≤ 2000000 := by decide +kernel
    have pw : CPow 10 18 := by decide +kernel
    have m1 : CMulX 2 1000000000000000000 := by decide +kernel
    have m2 : CMulX s 48271 := mx _ _ (Nat.le_trans (bits_nn (k := 31) hs0 (by omega)) (by omega)) (by decide +kernel)
    have m3 : ∀ x : Int, CMulX (x.fmod 2147483629) 16807 := fun x => mx _ _ (Nat.le_trans (bits_nn (k := 31) (Int.fmod_nonneg_of_pos _ (by omega)) (Int.lt_trans (Int.fmod_lt_of_pos _ (by omega)) (by omega))) (by omega)) (by decide +kernel)
    have m4 : CMulX (p + 1) 69621 := mx _ _ (Nat.le_trans (bits_nn (k := 62) (by omega) (by omega)) (by omega)) (by decide +kernel)
    have dv2 : ∀ i, CDvX i 2 := fun i => dv_ok (by decide) (by decide)
    have dv16 : ∀ i, CDvX i 16 := fun i => dv_ok (by decide) (by decide)
    -- the cell's size
    obtain ⟨sz, hsz⟩ : ∃ sz : Int, sz = if p < cs.length then 2 * (if (cs.getD p.toNat 0) < 0 then -(cs.getD p.toNat 0) else cs.getD p.toNat 0) + (if decide ((cs.getD p.toNat 0) < 0) = true then 1 else 0) else 0 := ⟨_, rfl⟩
    have key : ex F M ((.ite (.cmp .Lt (.idx (.var 0) (.cst (.int 1))) (.blt .len (.cons (.idx (.var 0) (.cst (.int 0))) .nil))) (.cons
        (.set 4 (.idx (.idx (.var 0) (.cst (.int 0))) (.idx (.var 0) (.cst (.int 1))))) (.cons
        (.set 2 (.bin .Add (.bin .Mult (.cst (.int 2)) (.blt .abs (.cons (.var 4) .nil))) (.blt .int (.cons (.cmp .Lt (.var 4) (.cst (.int 0))) .nil)))) .nil)) .nil))
        [some (.own true (.lst [.lst (cs.map .int), .int p, .int f, .int s, .int 3])), some (.val (.int m)), some (.val (.int 0)), none, none] =
        .ok (.nx, [some (.own true (.lst [.lst (cs.map .int), .int p, .int f, .int s, .int 3])), some (.val (.int m)), some (.val (.int sz)), none, if p < cs.length then some (.val (.int (cs.getD p.toNat 0))) else none]) := by
      by_cases hp : p < cs.length
      · have hp2 : p.toNat < cs.length := by omega
        have ha : atI (cs.map D.int) p = some (.int (cs.getD p.toNat 0)) := by
          unfold atI ixN
          rw [if_pos hp0, if_pos (by simpa using hp)]
          simp [List.getElem?_eq_getElem hp2]
        have mc : CMulX 2 (if (cs.getD p.toNat 0) < 0 then -(cs.getD p.toNat 0) else cs.getD p.toNat 0) := mx _ _ b2 (by
          have h := hb _ (List.getElem_mem hp2)
          have e : cs.getD p.toNat 0 = cs[p.toNat] := by simp [List.getElem?_eq_getElem hp2]
          rw [e]
          split
          · rw [bits_neg]; omega
          · omega)
        rw [if_pos hp] at hsz ⊢
        subst hsz
        generalize cs.getD p.toNat 0 = c at *
        simp [ha, hp, mc]
      · rw [if_neg hp] at hsz ⊢
        subst hsz
        simp [hp]
    have e3 : exs F M bDraw (envOf 5 [.own (.lst [.lst (cs.map .int), .int p, .int f, .int s, .int 3]), .val (.int m)]) = exs F M bDraw2 [some (.own true (.lst [.lst (cs.map .int), .int p, .int f, .int s, .int 3])), some (.val (.int m)), some (.val (.int sz)), none, if p < cs.length then some (.val (.int (cs.getD p.toNat 0))) else none] := by
      rw [show bDraw = .cons dS1 (.cons (.set 2 (.cst (.int 0))) (.cons dS3 bDraw2)) from rfl]
      have h1 : ex F M dS1 [some (.own true (.lst [.lst (cs.map .int), .int p, .int f, .int s, .int 3])), some (.val (.int m)), none, none, none] = .ok (.nx, [some (.own true (.lst [.lst (cs.map .int), .int p, .int f, .int s, .int 3])), some (.val (.int m)), none, none, none]) := by
        simp [dS1, hf]
      have h2 : ex F M (.set 2 (.cst (.int 0))) [some (.own true (.lst [.lst (cs.map .int), .int p, .int f, .int s, .int 3])), some (.val (.int m)), none, none, none] = .ok (.nx, [some (.own true (.lst [.lst (cs.map .int), .int p, .int f, .int s, .int 3])), some (.val (.int m)), some (.val (.int 0)), none, none]) := by
        simp
      rw [r_exs_cons, show envOf 5 [A.own (.lst [.lst (cs.map .int), .int p, .int f, .int s, .int 3]), .val (.int m)] = [some (.own true (.lst [.lst (cs.map .int), .int p, .int f, .int s, .int 3])), some (.val (.int m)), none, none, none] from rfl, h1]
      show exs F M _ _ = _
      rw [r_exs_cons, h2]
      show exs F M _ _ = _
      rw [r_exs_cons]
      rw [show ex F M dS3 _ = _ from key]
      rfl
    rw [runDef_d, e3]
    clear e3 key hsz
    generalize (if p < cs.length then some (S.val (.int (cs.getD p.toNat 0))) else none) = o4
    by_cases hz : 2000000000000000000 ≤ sz
    · refine ⟨((sz.fdiv 2).fmod big).fmod m, .lst [.lst (cs.map .int), .int (p + 1), .int (((sz.fdiv 2).fmod big).fdiv m), .int s, .int 3], ?_, (fm _).1, (fm _).2,
        ⟨cs, p + 1, ((sz.fdiv 2).fmod big).fdiv m, s, rfl, hb, hl, by omega, by omega, Int.fdiv_nonneg (Int.fmod_nonneg_of_pos _ big_pos) (by omega), Int.lt_of_le_of_lt (fdiv_le (Int.fmod_nonneg_of_pos _ big_pos) h0) (Int.fmod_lt_of_pos _ big_pos), hs0, hs1⟩⟩
      have n0 : big ≠ 0 := by have := big_pos; omega
      simp [bDraw2, ixN, hz, dv, hm, pw, m1, dv2, n0]
    · have g := fun x : Int => Int.fmod_nonneg_of_pos x (b := 2147483647) (by decide)
      have g2 := fun x : Int => Int.fmod_lt_of_pos x (b := 2147483647) (by decide)
      have c4 : ex F M dS4 [some (.own true (.lst [.lst (cs.map .int), .int p, .int f, .int s, .int 3])), some (.val (.int m)), some (.val (.int sz)), none, o4] = .ok (.nx, [some (.own true (.lst [.lst (cs.map .int), .int (p + 1), .int f, .int s, .int 3])), some (.val (.int m)), some (.val (.int sz)), none, o4]) := by
        simp [dS4, ixN]
      have c5 : ex F M dS5 [some (.own true (.lst [.lst (cs.map .int), .int (p + 1), .int f, .int s, .int 3])), some (.val (.int m)), some (.val (.int sz)), none, o4] = .ok (.nx, [some (.own true (.lst [.lst (cs.map .int), .int (p + 1), .int f, .int s, .int 3])), some (.val (.int m)), some (.val (.int sz)), none, o4]) := by
        simp [dS5, hz, pw, m1]
      have c6 := dS6_ok (F := F) (M := M) (m := m) (x := .lst (cs.map .int)) (f := f) (o3 := none) (o4 := o4) (G := 11) (Q := 2147483647) (by decide) (by decide) m2 (m3 sz) m4
      have g3 := g (s * 48271 + sz.fmod 2147483629 * 16807 + (p + 1) * 69621 + 11)
      have g4 := g2 (s * 48271 + sz.fmod 2147483629 * 16807 + (p + 1) * 69621 + 11)
      generalize (s * 48271 + sz.fmod 2147483629 * 16807 + (p + 1) * 69621 + 11).fmod 2147483647 = s' at c6 g3 g4
      refine ⟨(s'.fdiv 16).fmod m, .lst [.lst (cs.map .int), .int (p + 1), .int f, .int s', .int 3], ?_, (fm _).1, (fm _).2,
        ⟨cs, p + 1, f, s', rfl, hb, hl, by omega, by omega, hf0, hf1, g3, by omega⟩⟩
      have c7 : (exs F M bDraw3 [some (.own true (.lst [.lst (cs.map .int), .int (p + 1), .int f, .int s', .int 3])), some (.val (.int m)), some (.val (.int sz)), none, o4]).bind (finish [.own (.lst [.lst (cs.map .int), .int p, .int f, .int s, .int 3]), .val (.int m)]) =
          .ok (.val (.int ((s'.fdiv 16).fmod m)), [.own (.lst [.lst (cs.map .int), .int (p + 1), .int f, .int s', .int 3]), .val (.int m)]) := by
        simp [bDraw3, ixN, dv, hm, dv16]
      have c8 : exs F M bDraw2 [some (.own true (.lst [.lst (cs.map .int), .int p, .int f, .int s, .int 3])), some (.val (.int m)), some (.val (.int sz)), none, o4] = exs F M bDraw3 [some (.own true (.lst [.lst (cs.map .int), .int (p + 1), .int f, .int s', .int 3])), some (.val (.int m)), some (.val (.int sz)), none, o4] :=
        (exs_nx c4).trans ((exs_nx c5).trans (exs_nx c6))
      rw [c8]
      exact c7
end Dv

set_option Elab.async false
set_option linter.all false
set_option maxRecDepth 100000
set_option maxHeartbeats 1000000
namespace Dv
open PySem PySem.Spec PyProof.Rows L2

/-! ### texts as lists of characters -/
def st (l : List Nat) : Str := ⟨l.toArray⟩
theorem st_of (x : Str) : x = st x.cps.toList := by
  unfold st
  rw [Array.toArray_toList]
@[simp] theorem st_cps {l : List Nat} : (st l).cps.toList = l := rfl
@[simp] theorem st_len {l : List Nat} : (st l).length = l.length := rfl
theorem chr1_st {c : Nat} : chr1 c = st [c] := rfl
@[simp] theorem st_app {a b : List Nat} : st a ++ st b = st (a ++ b) := by
  show Str.append (st a) (st b) = _
  unfold Str.append st
  simp
theorem st_inj {a b : List Nat} : st a = st b ↔ a = b := ⟨fun h => by
  have := congrArg (fun x : Str => x.cps.toList) h
  simpa using this, fun h => by rw [h]⟩
theorem shp_st {l : List Nat} (h : ∀ c ∈ l, c < 128) : shp (.str (st l)) = true := by
  have e : PyData.strOk (st l) = true := by
    show l.toArray.all (fun x => decide (x < 1114112)) = true
    rw [List.all_toArray, List.all_eq_true]
    exact fun c hc => decide_eq_true (by have := h c hc; omega)
  show (PyData.strOk (st l) && decide (PyData.depth (.str (st l)) ≤ 64)) = true
  rw [e]
  rfl
@[simp] theorem deq_str {x y : Str} : deq (.str x) (.str y) = decide (x = y) := by
  show PyData.eqv (.str x) (.str y) = _
  unfold PyData.eqv
  by_cases h : x = y
  · simp [h]
  · simp [h]
@[simp] theorem shp_int {x : Int} : shp (.int x) = true := rfl
@[simp] theorem deq_int {x y : Int} : deq (.int x) (.int y) = decide (x = y) := by
  show PyData.eqv (.int x) (.int y) = _
  unfold PyData.eqv
  by_cases h : x = y
  · simp [h]
  · simp [h]
theorem items_st {l : List Nat} : items (.str (st l)) = .ok (l.map fun c => .str (st [c])) := rfl
theorem empty_st : (Str.empty) = st [] := rfl
theorem join_st : ∀ (ls : List (List Nat)), Txt.join (st []) (ls.map st) = st ls.flatten := by
  intro ls
  rw [show Txt.join (st []) (ls.map st) = Builtin.Str.glued (st []) (ls.map st) from rfl, PySem.StrLaws.glued_eq_join]
  induction ls with
  | nil => rfl
  | cons a r ih =>
    cases r with
    | nil => simp [Str.join]
    | cons b r =>
      show st a ++ st [] ++ Str.join (st []) ((b :: r).map st) = _
      rw [ih]
      simp
theorem strs_st : ∀ (ls : List (List Nat)), strsD (ls.map fun l => D.str (st l)) = some (ls.map st)
  | [] => rfl
  | a :: r => by
    show (strsD (r.map fun l => D.str (st l))).map _ = _
    rw [strs_st r]
    rfl
theorem atI_nat {α : Type} {l : List α} {i : Int} (h0 : 0 ≤ i) (h : i < l.length) : atI l i = l[i.toNat]? := by
  unfold atI ixN
  rw [if_pos h0, if_pos h]
  rfl
theorem cut_st {l : List Nat} {a b : Nat} (h : a ≤ b) (hb : b ≤ l.length) : cutS (st l) (some (a : Int)) (some (b : Int)) = st ((l.drop a).take (b - a)) := by
  unfold cutS
  rw [HT.sIx_nat, HT.sIx_nat, st_len, Nat.min_eq_left hb, Nat.min_eq_left (Nat.le_trans h hb)]
  rfl
theorem mul_st {l : List Nat} {n : Nat} (h : 0 < n) : Txt.mul (st l) (n : Int) = st (List.replicate n l).flatten := by
  unfold Txt.mul
  rw [if_neg (by omega)]
  by_cases h1 : ((n : Int) == 1 || (st l).length == 0) = true
  · rw [if_pos h1]
    rw [Bool.or_eq_true] at h1
    rcases h1 with h1 | h1
    · have : n = 1 := by have := beq_iff_eq.mp h1; omega
      subst this
      simp
    · have : l = [] := by
        have := beq_iff_eq.mp h1
        rw [st_len] at this
        exact List.length_eq_zero_iff.mp this
      subst this
      simp
  · rw [if_neg h1]
    have g : ∀ (k : Nat) (acc : Array Nat), (List.replicate k (st l).cps).foldl (· ++ ·) acc = acc ++ ((List.replicate k l).flatten).toArray := by
      intro k
      induction k with
      | zero => intro acc; simp
      | succ k ih =>
        intro acc
        rw [List.replicate_succ, List.foldl_cons, ih, List.replicate_succ, List.flatten_cons]
        show acc ++ l.toArray ++ _ = _
        simp
    have e := g n #[]
    rw [Int.toNat_natCast, e]
    unfold st
    simp
theorem mulOk_st {l : List Nat} {n : Nat} (h : n ≤ 1000) (hl : l.length ≤ 1000) : MulOk (st l) (n : Int) := by
  refine ⟨?_, fun h1 _ => ?_, fun _ _ => ?_⟩
  · simp; omega
  · rw [st_len]
    have : (9223372036854775807 : Int) / n ≥ 1000000000 := by
      apply Int.le_ediv_of_mul_le (by omega)
      omega
    have e : (2 : Int) ^ 63 - 1 = 9223372036854775807 := by decide
    rw [e]
    omega
  · unfold Builtin.Str.tooLong
    rw [st_len, Int.toNat_natCast]
    have : l.length * n ≤ 1000 * 1000 := Nat.mul_le_mul hl h
    simp [sizeLine]
    omega
end Dv
namespace Dv
open PySem PySem.Spec PyProof.Rows L2
theorem nil_st : (Str.ofString "") = st [] := by decide +kernel
theorem join_ok {ls : List (List Nat)} (h : ls.flatten.length ≤ 16777216) : dMe .join (.str (Str.ofString "")) [.lst (ls.map fun l => .str (st l))] = .ok (.val (.str (st ls.flatten))) := by
  rw [nil_st]
  show (Rs.of (strsD (ls.map fun l => .str (st l)))).bind _ = _
  rw [strs_st]
  show need _ _ = _
  have e : ((ls.map st).map (·.length)).sum = ls.flatten.length := by
    rw [List.map_map, List.length_flatten]
    rfl
  rw [need_true (by rw [e, st_len]; simpa using h), join_st]
end Dv
namespace Dv
open PySem PySem.Spec PyProof.Rows L2
/-- a for loop that ends by itself -/
theorem for_ok {F : Fn} {N : Nat} {tg : Tg} {it : Ie} {b : Sxs} {ρ ρ1 ρ' : Env'} {l : List D} {p : P} (hi : evi F it ρ = .ok ((l, p), ρ1)) (h : forR (fun d ρ1 => (asgT tg d ρ1).bind (exs F N b)) l (lockP p ρ1).2 = .ok (.nx, ρ')) :
    ex F N (.for_ tg it b) ρ = (unlock (lockP p ρ1).1 ρ').bind fun ρ => .ok (.nx, ρ) := by
  rw [r_ex_for_, hi]
  show (forR _ _ _).bind _ = _
  rw [h]
  rfl
end Dv

set_option Elab.async false
set_option linter.all false
set_option maxRecDepth 100000
set_option maxHeartbeats 0
namespace Wk01
open PySem PySem.Spec PyProof.Rows L2 Dv
def top (i : Nat) : Stmt := PySem.Challenge.pw_cedewheel_k01_tokens.main.body.getD i (.Pass ⟨0, 0, 0, 0⟩)
def frees : List Str := ["abs", "all", "int", "isinstance", "len", "range", "str", "tuple"]
def glo (x : Str) : Option D := if x = "BETWEEN" then some (.str " \n") else if x = "CAPITALS" then some (.str "ABCDEFGHIJKLMNOPQRSTUVWXYZ") else if x = "DIGITS" then some (.str "0123456789") else if x = "SMALL" then some (.str "abcdefghijklmnopqrstuvwxyz") else none
def b__law_begin : Sxs := (.cons 
    (.ret (.lst (.cons (.comp (.blt .int (.cons (.var 1) .nil)) (.nm 1) (.seq (.var 0)) .none [1]) (.cons (.cst (.int 0)) (.cons (.cst (.int 0)) (.cons (.cst (.int 7)) (.cons (.cst (.int 3)) .nil))))))) .nil)
def d__law_begin : Dm := ⟨"_law_begin", 1, 1, 2, b__law_begin, fun _ => []⟩
abbrev ds0 : List Dm := []
def N__law_begin : List Str := ["script", "cell"]
def P__law_begin : List Str := ["script"]
theorem sc__law_begin : FnScope N__law_begin P__law_begin (defScope (top 11)) := ⟨by kernel_rfl, by kernel_rfl, by kernel_rfl, by decide +kernel, by kernel_rfl, by decide +kernel, by decide +kernel⟩
theorem ck__law_begin : ckSs (gnOf frees [] ds0) N__law_begin 1 (defScope (top 11)) b__law_begin (defBody (top 11)) = true := by decide +kernel
def b__law_draw : Sxs := (.cons 
    (.ite (.cmp .Gt (.idx (.var 0) (.cst (.int 2))) (.cst (.int 0))) (.cons 
    (.set 3 (.idx (.var 0) (.cst (.int 2)))) (.cons 
    (.setI 0 (.cst (.int 2)) (.bin .FloorDiv (.var 3) (.var 1))) (.cons 
    (.ret (.bin .Mod (.blt .int (.cons (.var 3) .nil)) (.var 1))) .nil))) .nil) (.cons 
    (.set 2 (.cst (.int 0))) (.cons 
    (.ite (.cmp .Lt (.idx (.var 0) (.cst (.int 1))) (.blt .len (.cons (.idx (.var 0) (.cst (.int 0))) .nil))) (.cons 
    (.set 4 (.idx (.idx (.var 0) (.cst (.int 0))) (.idx (.var 0) (.cst (.int 1))))) (.cons 
    (.set 2 (.bin .Add (.bin .Mult (.cst (.int 2)) (.blt .abs (.cons (.var 4) .nil))) (.blt .int (.cons (.cmp .Lt (.var 4) (.cst (.int 0))) .nil)))) .nil)) .nil) (.cons 
    (.augI 0 .Add (.cst (.int 1)) (.cst (.int 1))) (.cons 
    (.ite (.cmp .GtE (.var 2) (.bin .Mult (.cst (.int 2)) (.bin .Pow (.cst (.int 10)) (.cst (.int 18))))) (.cons 
    (.set 3 (.bin .Mod (.blt .int (.cons (.bin .FloorDiv (.var 2) (.cst (.int 2))) .nil)) (.bin .LShift (.cst (.int 1)) (.cst (.int 6000))))) (.cons 
    (.setI 0 (.cst (.int 2)) (.bin .FloorDiv (.var 3) (.var 1))) (.cons 
    (.ret (.bin .Mod (.blt .int (.cons (.var 3) .nil)) (.var 1))) .nil))) .nil) (.cons 
    (.setI 0 (.cst (.int 3)) (.bin .Mod (.blt .int (.cons (.bin .Add (.bin .Add (.bin .Add (.bin .Mult (.idx (.var 0) (.cst (.int 3))) (.cst (.int 48271))) (.bin .Mult (.bin .Mod (.blt .int (.cons (.var 2) .nil)) (.cst (.int 2147483629))) (.cst (.int 16807)))) (.bin .Mult (.idx (.var 0) (.cst (.int 1))) (.cst (.int 69621)))) (.cst (.int 11))) .nil)) (.cst (.int 2147483647)))) (.cons 
    (.ret (.bin .Mod (.blt .int (.cons (.bin .FloorDiv (.idx (.var 0) (.cst (.int 3))) (.cst (.int 16))) .nil)) (.var 1))) .nil)))))))
def d__law_draw : Dm := ⟨"_law_draw", 2, 2, 5, b__law_draw, fun _ => []⟩
abbrev ds1 : List Dm := d__law_begin :: ds0
def N__law_draw : List Str := ["d", "many", "size", "found", "cell"]
def P__law_draw : List Str := ["d", "many"]
theorem sc__law_draw : FnScope N__law_draw P__law_draw (defScope (top 12)) := ⟨by kernel_rfl, by kernel_rfl, by kernel_rfl, by decide +kernel, by kernel_rfl, by decide +kernel, by decide +kernel⟩
theorem ck__law_draw : ckSs (gnOf frees [] ds1) N__law_draw 2 (defScope (top 12)) b__law_draw (defBody (top 12)) = true := by decide +kernel
def b__law_rare : Sxs := (.cons 
    (.ret (.cmp .Eq (.call "_law_draw" (.cons (.var 0) (.cons (.var 1) .nil))) (.bin .FloorDiv (.var 1) (.cst (.int 2))))) .nil)
def d__law_rare : Dm := ⟨"_law_rare", 2, 2, 2, b__law_rare, fun _ => []⟩
abbrev ds2 : List Dm := d__law_draw :: ds1
def N__law_rare : List Str := ["d", "many"]
def P__law_rare : List Str := ["d", "many"]
theorem sc__law_rare : FnScope N__law_rare P__law_rare (defScope (top 14)) := ⟨by kernel_rfl, by kernel_rfl, by kernel_rfl, by decide +kernel, by kernel_rfl, by decide +kernel, by decide +kernel⟩
theorem ck__law_rare : ckSs (gnOf frees [] ds2) N__law_rare 2 (defScope (top 14)) b__law_rare (defBody (top 14)) = true := by decide +kernel
def b__law_run_signs : Sxs := (.cons 
    (.set 0 (.cst (.str "abcdefghijklmnopqrstuvwxyz0123456789"))) (.cons 
    (.ret (.bin .Add (.var 0) (.cst (.str "ABCDEFGHIJKLMNOPQRSTUVWXYZ")))) .nil))
def d__law_run_signs : Dm := ⟨"_law_run_signs", 0, 0, 1, b__law_run_signs, fun _ => []⟩
abbrev ds3 : List Dm := d__law_rare :: ds2
def N__law_run_signs : List Str := ["small"]
def P__law_run_signs : List Str := []
theorem sc__law_run_signs : FnScope N__law_run_signs P__law_run_signs (defScope (top 15)) := ⟨by kernel_rfl, by kernel_rfl, by kernel_rfl, by decide +kernel, by kernel_rfl, by decide +kernel, by decide +kernel⟩
theorem ck__law_run_signs : ckSs (gnOf frees [] ds3) N__law_run_signs 0 (defScope (top 15)) b__law_run_signs (defBody (top 15)) = true := by decide +kernel
def b__law_pick : Sxs := (.cons 
    (.ret (.idx (.var 1) (.call "_law_draw" (.cons (.var 0) (.cons (.blt .len (.cons (.var 1) .nil)) .nil))))) .nil)
def d__law_pick : Dm := ⟨"_law_pick", 2, 2, 2, b__law_pick, fun _ => []⟩
abbrev ds4 : List Dm := d__law_run_signs :: ds3
def N__law_pick : List Str := ["d", "row"]
def P__law_pick : List Str := ["d", "row"]
theorem sc__law_pick : FnScope N__law_pick P__law_pick (defScope (top 13)) := ⟨by kernel_rfl, by kernel_rfl, by kernel_rfl, by decide +kernel, by kernel_rfl, by decide +kernel, by decide +kernel⟩
theorem ck__law_pick : ckSs (gnOf frees [] ds4) N__law_pick 2 (defScope (top 13)) b__law_pick (defBody (top 13)) = true := by decide +kernel
def b__law_grammar_words : Sxs := (.cons 
    (.set 0 (.cst (.str "book money rate to company in treaty from on gross left shield each year price sunset none share over"))) (.cons 
    (.ret (.met .split (.bin .Add (.var 0) (.cst (.str " limit lesser greater then plus 0 1 12 007 1234567890 ark Book abcdefghi a1 9z"))) (.cons (.cst (.str " ")) .nil))) .nil))
def d__law_grammar_words : Dm := ⟨"_law_grammar_words", 0, 0, 1, b__law_grammar_words, fun _ => []⟩
abbrev ds5 : List Dm := d__law_pick :: ds4
def N__law_grammar_words : List Str := ["text"]
def P__law_grammar_words : List Str := []
theorem sc__law_grammar_words : FnScope N__law_grammar_words P__law_grammar_words (defScope (top 16)) := ⟨by kernel_rfl, by kernel_rfl, by kernel_rfl, by decide +kernel, by kernel_rfl, by decide +kernel, by decide +kernel⟩
theorem ck__law_grammar_words : ckSs (gnOf frees [] ds5) N__law_grammar_words 0 (defScope (top 16)) b__law_grammar_words (defBody (top 16)) = true := by decide +kernel
def b__law_piece : Sxs := (.cons 
    (.set 1 (.call "_law_draw" (.cons (.var 0) (.cons (.cst (.int 7)) .nil)))) (.cons 
    (.set 2 (.call "_law_run_signs" .nil)) (.cons 
    (.ite (.cmp .Eq (.var 1) (.cst (.int 0))) (.cons 
    (.ret (.met .join (.cst (.str "")) (.cons (.comp (.idx (.var 2) (.call "_law_draw" (.cons (.var 0) (.cons (.cst (.int 36)) .nil)))) (.nm 4) (.rng (.bin .Add (.cst (.int 1)) (.call "_law_draw" (.cons (.var 0) (.cons (.cst (.int 9)) .nil))))) .none [4]) .nil))) .nil) .nil) (.cons 
    (.ite (.cmp .Eq (.var 1) (.cst (.int 1))) (.cons 
    (.ret (.met .join (.cst (.str "")) (.cons (.comp (.idx (.var 2) (.call "_law_draw" (.cons (.var 0) (.cons (.cst (.int 62)) .nil)))) (.nm 4) (.rng (.bin .Add (.cst (.int 1)) (.call "_law_draw" (.cons (.var 0) (.cons (.cst (.int 14)) .nil))))) .none [4]) .nil))) .nil) .nil) (.cons 
    (.ite (.cmp .Eq (.var 1) (.cst (.int 2))) (.cons 
    (.ret (.met .join (.cst (.str "")) (.cons (.comp (.idx (.cst (.str " \n")) (.call "_law_draw" (.cons (.var 0) (.cons (.cst (.int 2)) .nil)))) (.nm 4) (.rng (.bin .Add (.cst (.int 1)) (.call "_law_draw" (.cons (.var 0) (.cons (.cst (.int 3)) .nil))))) .none [4]) .nil))) .nil) .nil) (.cons 
    (.ite (.cmp .Eq (.var 1) (.cst (.int 3))) (.cons 
    (.ret (.idx (.cst (.str "{}(),;/")) (.call "_law_draw" (.cons (.var 0) (.cons (.cst (.int 7)) .nil))))) .nil) .nil) (.cons 
    (.ite (.cmp .Eq (.var 1) (.cst (.int 4))) (.cons 
    (.ret (.call "_law_pick" (.cons (.var 0) (.cons (.call "_law_grammar_words" .nil) .nil)))) .nil) .nil) (.cons 
    (.set 3 (.bin .Add (.cst (.str " \n!\"#$&'()*+,-./:;<=>?\x40[\\]^_`{|}~")) (.var 2))) (.cons 
    (.ret (.idx (.var 3) (.call "_law_draw" (.cons (.var 0) (.cons (.blt .len (.cons (.var 3) .nil)) .nil))))) .nil)))))))))
def d__law_piece : Dm := ⟨"_law_piece", 1, 1, 5, b__law_piece, fun _ => []⟩
abbrev ds6 : List Dm := d__law_grammar_words :: ds5
def N__law_piece : List Str := ["d", "kind", "every", "strange", "k"]
def P__law_piece : List Str := ["d"]
theorem sc__law_piece : FnScope N__law_piece P__law_piece (defScope (top 17)) := ⟨by kernel_rfl, by kernel_rfl, by kernel_rfl, by decide +kernel, by kernel_rfl, by decide +kernel, by decide +kernel⟩
theorem ck__law_piece : ckSs (gnOf frees [] ds6) N__law_piece 1 (defScope (top 17)) b__law_piece (defBody (top 17)) = true := by decide +kernel
def b__law_text : Sxs := (.cons 
    (.set 1 (.call "_law_draw" (.cons (.var 0) (.cons (.cst (.int 14)) .nil)))) (.cons 
    (.set 2 (.call "_law_rare" (.cons (.var 0) (.cons (.cst (.int 16)) .nil)))) (.cons 
    (.set 3 (.met .join (.cst (.str "")) (.cons (.comp (.call "_law_piece" (.cons (.var 0) .nil)) (.nm 4) (.rng (.var 1)) .none [4]) .nil))) (.cons 
    (.ite (.val (.var 2)) (.cons 
    (.set 3 (.bin .Mult (.slc (.var 3) .none (.some (.cst (.int 20)))) (.bin .Add (.cst (.int 1)) (.call "_law_draw" (.cons (.var 0) (.cons (.cst (.int 48)) .nil)))))) .nil) .nil) (.cons 
    (.ret (.var 3)) .nil)))))
def d__law_text : Dm := ⟨"_law_text", 1, 1, 5, b__law_text, fun _ => []⟩
abbrev ds7 : List Dm := d__law_piece :: ds6
def N__law_text : List Str := ["d", "many", "dear", "text", "k"]
def P__law_text : List Str := ["d"]
theorem sc__law_text : FnScope N__law_text P__law_text (defScope (top 18)) := ⟨by kernel_rfl, by kernel_rfl, by kernel_rfl, by decide +kernel, by kernel_rfl, by decide +kernel, by decide +kernel⟩
theorem ck__law_text : ckSs (gnOf frees [] ds7) N__law_text 1 (defScope (top 18)) b__law_text (defBody (top 18)) = true := by decide +kernel
def b__law_tokens : Sxs := (.cons 
    (.set 1 (.call "_law_run_signs" .nil)) (.cons 
    (.set 2 (.lst .nil)) (.cons 
    (.set 3 (.cst (.bl false))) (.cons 
    (.for_ (.nm 4) (.seq (.var 0)) (.cons 
    (.set 5 (.cmp .In (.var 4) (.var 1))) (.cons 
    (.ite (.and_ (.cons (.val (.var 5)) (.cons (.val (.var 3)) .nil))) (.cons 
    (.setI 2 (.bin .Sub (.blt .len (.cons (.var 2) .nil)) (.cst (.int 1))) (.bin .Add (.idx (.var 2) (.bin .Sub (.blt .len (.cons (.var 2) .nil)) (.cst (.int 1)))) (.var 4))) .nil) (.cons 
    (.ite (.and_ (.cons (.cmp .NotEq (.var 4) (.cst (.str " "))) (.cons (.cmp .NotEq (.var 4) (.cst (.str "\n"))) .nil))) (.cons 
    (.expr (.chg .append 2 (.cons (.var 4) .nil))) .nil) .nil) .nil)) (.cons 
    (.set 3 (.var 5)) .nil)))) (.cons 
    (.ret (.var 2)) .nil)))))
def d__law_tokens : Dm := ⟨"_law_tokens", 1, 1, 6, b__law_tokens, fun _ => []⟩
abbrev ds8 : List Dm := d__law_text :: ds7
def N__law_tokens : List Str := ["text", "every", "found", "inside", "sign", "is_run"]
def P__law_tokens : List Str := ["text"]
theorem sc__law_tokens : FnScope N__law_tokens P__law_tokens (defScope (top 19)) := ⟨by kernel_rfl, by kernel_rfl, by kernel_rfl, by decide +kernel, by kernel_rfl, by decide +kernel, by decide +kernel⟩
theorem ck__law_tokens : ckSs (gnOf frees [] ds8) N__law_tokens 1 (defScope (top 19)) b__law_tokens (defBody (top 19)) = true := by decide +kernel
def b__law_same_tokens : Sxs := (.cons 
    (.ite (.or_ (.cons (.not_ (.val (.isi .tup (.var 0)))) (.cons (.cmp .NotEq (.blt .len (.cons (.var 0) .nil)) (.blt .len (.cons (.var 1) .nil))) .nil))) (.cons 
    (.ret (.cst (.bl false))) .nil) .nil) (.cons 
    (.ret (.blt .all (.cons (.comp (.and_ (.cons (.isi .str (.idx (.var 0) (.var 2))) (.cons (.cmp .Eq (.idx (.var 0) (.var 2)) (.idx (.var 1) (.var 2))) .nil))) (.nm 2) (.rng (.blt .len (.cons (.var 1) .nil))) .none [2]) .nil))) .nil))
def d__law_same_tokens : Dm := ⟨"_law_same_tokens", 2, 2, 3, b__law_same_tokens, fun _ => []⟩
abbrev ds9 : List Dm := d__law_tokens :: ds8
def N__law_same_tokens : List Str := ["told", "due", "k"]
def P__law_same_tokens : List Str := ["told", "due"]
theorem sc__law_same_tokens : FnScope N__law_same_tokens P__law_same_tokens (defScope (top 21)) := ⟨by kernel_rfl, by kernel_rfl, by kernel_rfl, by decide +kernel, by kernel_rfl, by decide +kernel, by decide +kernel⟩
theorem ck__law_same_tokens : ckSs (gnOf frees [] ds9) N__law_same_tokens 2 (defScope (top 21)) b__law_same_tokens (defBody (top 21)) = true := by decide +kernel
def b_token_start : Sxs := (.cons 
    (.set 2 (.var 1)) (.cons 
    (.whl (.and_ (.cons (.cmp .Lt (.var 2) (.blt .len (.cons (.var 0) .nil))) (.cons (.cmp .In (.idx (.var 0) (.var 2)) (.glo "BETWEEN")) .nil))) (.cons 
    (.set 2 (.bin .Add (.var 2) (.cst (.int 1)))) .nil)) (.cons 
    (.ret (.var 2)) .nil)))
def d_token_start : Dm := ⟨"token_start", 2, 2, 3, b_token_start, fun _ => []⟩
abbrev ds10 : List Dm := d__law_same_tokens :: ds9
def N_token_start : List Str := ["text", "at", "start"]
def P_token_start : List Str := ["text", "at"]
theorem sc_token_start : FnScope N_token_start P_token_start (defScope (top 6)) := ⟨by kernel_rfl, by kernel_rfl, by kernel_rfl, by decide +kernel, by kernel_rfl, by decide +kernel, by decide +kernel⟩
theorem ck_token_start : ckSs (gnOf frees [] ds10) N_token_start 2 (defScope (top 6)) b_token_start (defBody (top 6)) = true := by decide +kernel
def b_is_run_sign : Sxs := (.cons 
    (.ret (.or_ (.cons (.cmp .In (.var 0) (.glo "SMALL")) (.cons (.cmp .In (.var 0) (.glo "CAPITALS")) (.cons (.cmp .In (.var 0) (.glo "DIGITS")) .nil))))) .nil)
def d_is_run_sign : Dm := ⟨"is_run_sign", 1, 1, 1, b_is_run_sign, fun _ => []⟩
abbrev ds11 : List Dm := d_token_start :: ds10
def N_is_run_sign : List Str := ["sign"]
def P_is_run_sign : List Str := ["sign"]
theorem sc_is_run_sign : FnScope N_is_run_sign P_is_run_sign (defScope (top 5)) := ⟨by kernel_rfl, by kernel_rfl, by kernel_rfl, by decide +kernel, by kernel_rfl, by decide +kernel, by decide +kernel⟩
theorem ck_is_run_sign : ckSs (gnOf frees [] ds11) N_is_run_sign 1 (defScope (top 5)) b_is_run_sign (defBody (top 5)) = true := by decide +kernel
def b_run_end : Sxs := (.cons 
    (.set 2 (.var 1)) (.cons 
    (.whl (.and_ (.cons (.cmp .Lt (.var 2) (.blt .len (.cons (.var 0) .nil))) (.cons (.val (.call "is_run_sign" (.cons (.idx (.var 0) (.var 2)) .nil))) .nil))) (.cons 
    (.set 2 (.bin .Add (.var 2) (.cst (.int 1)))) .nil)) (.cons 
    (.ret (.var 2)) .nil)))
def d_run_end : Dm := ⟨"run_end", 2, 2, 3, b_run_end, fun _ => []⟩
abbrev ds12 : List Dm := d_is_run_sign :: ds11
def N_run_end : List Str := ["text", "at", "end"]
def P_run_end : List Str := ["text", "at"]
theorem sc_run_end : FnScope N_run_end P_run_end (defScope (top 7)) := ⟨by kernel_rfl, by kernel_rfl, by kernel_rfl, by decide +kernel, by kernel_rfl, by decide +kernel, by decide +kernel⟩
theorem ck_run_end : ckSs (gnOf frees [] ds12) N_run_end 2 (defScope (top 7)) b_run_end (defBody (top 7)) = true := by decide +kernel
def b_token_end : Sxs := (.cons 
    (.ite (.val (.call "is_run_sign" (.cons (.idx (.var 0) (.var 1)) .nil))) (.cons 
    (.ret (.call "run_end" (.cons (.var 0) (.cons (.var 1) .nil)))) .nil) .nil) (.cons 
    (.ret (.bin .Add (.var 1) (.cst (.int 1)))) .nil))
def d_token_end : Dm := ⟨"token_end", 2, 2, 2, b_token_end, fun _ => []⟩
abbrev ds13 : List Dm := d_run_end :: ds12
def N_token_end : List Str := ["text", "at"]
def P_token_end : List Str := ["text", "at"]
theorem sc_token_end : FnScope N_token_end P_token_end (defScope (top 8)) := ⟨by kernel_rfl, by kernel_rfl, by kernel_rfl, by decide +kernel, by kernel_rfl, by decide +kernel, by decide +kernel⟩
theorem ck_token_end : ckSs (gnOf frees [] ds13) N_token_end 2 (defScope (top 8)) b_token_end (defBody (top 8)) = true := by decide +kernel
def b_tokens_of : Sxs := (.cons 
    (.set 1 (.lst .nil)) (.cons 
    (.set 2 (.call "token_start" (.cons (.var 0) (.cons (.cst (.int 0)) .nil)))) (.cons 
    (.whl (.cmp .Lt (.var 2) (.blt .len (.cons (.var 0) .nil))) (.cons 
    (.set 3 (.call "token_end" (.cons (.var 0) (.cons (.var 2) .nil)))) (.cons 
    (.expr (.chg .append 1 (.cons (.slc (.var 0) (.some (.var 2)) (.some (.var 3))) .nil))) (.cons 
    (.set 2 (.call "token_start" (.cons (.var 0) (.cons (.var 3) .nil)))) .nil)))) (.cons 
    (.ret (.blt .tuple (.cons (.var 1) .nil))) .nil))))
def d_tokens_of : Dm := ⟨"tokens_of", 1, 1, 4, b_tokens_of, fun _ => []⟩
abbrev ds14 : List Dm := d_token_end :: ds13
def N_tokens_of : List Str := ["text", "found", "at", "end"]
def P_tokens_of : List Str := ["text"]
theorem sc_tokens_of : FnScope N_tokens_of P_tokens_of (defScope (top 9)) := ⟨by kernel_rfl, by kernel_rfl, by kernel_rfl, by decide +kernel, by kernel_rfl, by decide +kernel, by decide +kernel⟩
theorem ck_tokens_of : ckSs (gnOf frees [] ds14) N_tokens_of 1 (defScope (top 9)) b_tokens_of (defBody (top 9)) = true := by decide +kernel
def b__law_spread : Sxs := (.cons 
    (.set 2 (.call "_law_run_signs" .nil)) (.cons 
    (.set 3 (.lst .nil)) (.cons 
    (.set 4 (.cst (.bl false))) (.cons 
    (.for_ (.nm 5) (.seq (.var 1)) (.cons 
    (.set 6 (.cmp .In (.idx (.var 5) (.cst (.int 0))) (.var 2))) (.cons 
    (.set 7 (.idx (.lst (.cons (.cst (.str "")) (.cons (.cst (.str " ")) (.cons (.cst (.str "\n")) (.cons (.cst (.str "  ")) (.cons (.cst (.str " \n ")) (.cons (.cst (.str "")) (.cons (.cst (.str "\n\n")) .nil)))))))) (.call "_law_draw" (.cons (.var 0) (.cons (.cst (.int 7)) .nil))))) (.cons 
    (.ite (.and_ (.cons (.cmp .Eq (.var 7) (.cst (.str ""))) (.cons (.val (.var 6)) (.cons (.val (.var 4)) .nil)))) (.cons 
    (.set 7 (.cst (.str "\n"))) .nil) .nil) (.cons 
    (.expr (.chg .append 3 (.cons (.bin .Add (.var 7) (.var 5)) .nil))) (.cons 
    (.set 4 (.var 6)) .nil)))))) (.cons 
    (.ret (.bin .Add (.met .join (.cst (.str "")) (.cons (.var 3) .nil)) (.idx (.lst (.cons (.cst (.str "")) (.cons (.cst (.str " ")) (.cons (.cst (.str "\n")) (.cons (.cst (.str " \n")) .nil))))) (.call "_law_draw" (.cons (.var 0) (.cons (.cst (.int 4)) .nil)))))) .nil)))))
def d__law_spread : Dm := ⟨"_law_spread", 2, 2, 8, b__law_spread, fun _ => []⟩
abbrev ds15 : List Dm := d_tokens_of :: ds14
def N__law_spread : List Str := ["d", "tokens", "every", "parts", "inside", "token", "is_run", "space"]
def P__law_spread : List Str := ["d", "tokens"]
theorem sc__law_spread : FnScope N__law_spread P__law_spread (defScope (top 20)) := ⟨by kernel_rfl, by kernel_rfl, by kernel_rfl, by decide +kernel, by kernel_rfl, by decide +kernel, by decide +kernel⟩
theorem ck__law_spread : ckSs (gnOf frees [] ds15) N__law_spread 2 (defScope (top 20)) b__law_spread (defBody (top 20)) = true := by decide +kernel
def b_law : Sxs := (.cons 
    (.set 1 (.call "_law_begin" (.cons (.var 0) .nil))) (.cons 
    (.set 2 (.call "_law_text" (.cons (.var 1) .nil))) (.cons 
    (.set 3 (.call "_law_text" (.cons (.var 1) .nil))) (.cons 
    (.set 4 (.call "_law_tokens" (.cons (.var 2) .nil))) (.cons 
    (.set 5 (.call "_law_tokens" (.cons (.var 3) .nil))) (.cons 
    (.ite (.not_ (.val (.call "_law_same_tokens" (.cons (.call "tokens_of" (.cons (.var 2) .nil)) (.cons (.var 4) .nil))))) (.cons 
    (.ret (.cst (.bl false))) .nil) .nil) (.cons 
    (.ite (.not_ (.val (.call "_law_same_tokens" (.cons (.call "tokens_of" (.cons (.var 3) .nil)) (.cons (.var 5) .nil))))) (.cons 
    (.ret (.cst (.bl false))) .nil) .nil) (.cons 
    (.ite (.not_ (.val (.call "_law_same_tokens" (.cons (.call "tokens_of" (.cons (.call "_law_spread" (.cons (.var 1) (.cons (.var 4) .nil))) .nil)) (.cons (.var 4) .nil))))) (.cons 
    (.ret (.cst (.bl false))) .nil) .nil) (.cons 
    (.ite (.not_ (.val (.call "_law_same_tokens" (.cons (.call "tokens_of" (.cons (.bin .Add (.bin .Add (.var 2) (.cst (.str ";"))) (.var 3)) .nil)) (.cons (.bin .Add (.bin .Add (.var 4) (.lst (.cons (.cst (.str ";")) .nil))) (.var 5)) .nil))))) (.cons 
    (.ret (.cst (.bl false))) .nil) .nil) (.cons 
    (.ret (.call "_law_same_tokens" (.cons (.call "tokens_of" (.cons (.var 2) .nil)) (.cons (.var 4) .nil)))) .nil))))))))))
def d_law : Dm := ⟨"law", 1, 1, 6, b_law, fun _ => []⟩
abbrev ds16 : List Dm := d__law_spread :: ds15
def N_law : List Str := ["script", "d", "first", "second", "due", "other"]
def P_law : List Str := ["script"]
theorem sc_law : FnScope N_law P_law (defScope (top 22)) := ⟨by kernel_rfl, by kernel_rfl, by kernel_rfl, by decide +kernel, by kernel_rfl, by decide +kernel, by decide +kernel⟩
theorem ck_law : ckSs (gnOf frees [] ds16) N_law 1 (defScope (top 22)) b_law (defBody (top 22)) = true := by decide +kernel
abbrev ds17 : List Dm := d_law :: ds16
theorem dfl0 {M : Nat} : ∀ f n, (mkF glo M ds0).dfl f n = [] := fun _ _ => rfl
theorem dfl1 {M : Nat} : ∀ f n, (mkF glo M ds1).dfl f n = [] := dfl_cons rfl dfl0
theorem dfl2 {M : Nat} : ∀ f n, (mkF glo M ds2).dfl f n = [] := dfl_cons rfl dfl1
theorem dfl3 {M : Nat} : ∀ f n, (mkF glo M ds3).dfl f n = [] := dfl_cons rfl dfl2
theorem dfl4 {M : Nat} : ∀ f n, (mkF glo M ds4).dfl f n = [] := dfl_cons rfl dfl3
theorem dfl5 {M : Nat} : ∀ f n, (mkF glo M ds5).dfl f n = [] := dfl_cons rfl dfl4
theorem dfl6 {M : Nat} : ∀ f n, (mkF glo M ds6).dfl f n = [] := dfl_cons rfl dfl5
theorem dfl7 {M : Nat} : ∀ f n, (mkF glo M ds7).dfl f n = [] := dfl_cons rfl dfl6
theorem dfl8 {M : Nat} : ∀ f n, (mkF glo M ds8).dfl f n = [] := dfl_cons rfl dfl7
theorem dfl9 {M : Nat} : ∀ f n, (mkF glo M ds9).dfl f n = [] := dfl_cons rfl dfl8
theorem dfl10 {M : Nat} : ∀ f n, (mkF glo M ds10).dfl f n = [] := dfl_cons rfl dfl9
theorem dfl11 {M : Nat} : ∀ f n, (mkF glo M ds11).dfl f n = [] := dfl_cons rfl dfl10
theorem dfl12 {M : Nat} : ∀ f n, (mkF glo M ds12).dfl f n = [] := dfl_cons rfl dfl11
theorem dfl13 {M : Nat} : ∀ f n, (mkF glo M ds13).dfl f n = [] := dfl_cons rfl dfl12
theorem dfl14 {M : Nat} : ∀ f n, (mkF glo M ds14).dfl f n = [] := dfl_cons rfl dfl13
theorem dfl15 {M : Nat} : ∀ f n, (mkF glo M ds15).dfl f n = [] := dfl_cons rfl dfl14
theorem dfl16 {M : Nat} : ∀ f n, (mkF glo M ds16).dfl f n = [] := dfl_cons rfl dfl15
theorem dfl17 {M : Nat} : ∀ f n, (mkF glo M ds17).dfl f n = [] := dfl_cons rfl dfl16
theorem at2__law_draw {M : Nat} : (mkF glo M ds2).call "_law_draw" = fun as => if as.length = 2 then runDef (mkF glo M ds1) M 5 b__law_draw as else .bad := (lift (ds := ds2) [] (by decide +kernel)).trans (funext fun as => mkF_self as)
theorem at4__law_draw {M : Nat} : (mkF glo M ds4).call "_law_draw" = fun as => if as.length = 2 then runDef (mkF glo M ds1) M 5 b__law_draw as else .bad := (lift (ds := ds2) [d__law_run_signs, d__law_rare] (by decide +kernel)).trans (funext fun as => mkF_self as)
theorem at6__law_draw {M : Nat} : (mkF glo M ds6).call "_law_draw" = fun as => if as.length = 2 then runDef (mkF glo M ds1) M 5 b__law_draw as else .bad := (lift (ds := ds2) [d__law_grammar_words, d__law_pick, d__law_run_signs, d__law_rare] (by decide +kernel)).trans (funext fun as => mkF_self as)
theorem at6__law_run_signs {M : Nat} : (mkF glo M ds6).call "_law_run_signs" = fun as => if as.length = 0 then runDef (mkF glo M ds3) M 1 b__law_run_signs as else .bad := (lift (ds := ds4) [d__law_grammar_words, d__law_pick] (by decide +kernel)).trans (funext fun as => mkF_self as)
theorem at6__law_pick {M : Nat} : (mkF glo M ds6).call "_law_pick" = fun as => if as.length = 2 then runDef (mkF glo M ds4) M 2 b__law_pick as else .bad := (lift (ds := ds5) [d__law_grammar_words] (by decide +kernel)).trans (funext fun as => mkF_self as)
theorem at6__law_grammar_words {M : Nat} : (mkF glo M ds6).call "_law_grammar_words" = fun as => if as.length = 0 then runDef (mkF glo M ds5) M 1 b__law_grammar_words as else .bad := (lift (ds := ds6) [] (by decide +kernel)).trans (funext fun as => mkF_self as)
theorem at7__law_draw {M : Nat} : (mkF glo M ds7).call "_law_draw" = fun as => if as.length = 2 then runDef (mkF glo M ds1) M 5 b__law_draw as else .bad := (lift (ds := ds2) [d__law_piece, d__law_grammar_words, d__law_pick, d__law_run_signs, d__law_rare] (by decide +kernel)).trans (funext fun as => mkF_self as)
theorem at7__law_rare {M : Nat} : (mkF glo M ds7).call "_law_rare" = fun as => if as.length = 2 then runDef (mkF glo M ds2) M 2 b__law_rare as else .bad := (lift (ds := ds3) [d__law_piece, d__law_grammar_words, d__law_pick, d__law_run_signs] (by decide +kernel)).trans (funext fun as => mkF_self as)
theorem at7__law_piece {M : Nat} : (mkF glo M ds7).call "_law_piece" = fun as => if as.length = 1 then runDef (mkF glo M ds6) M 5 b__law_piece as else .bad := (lift (ds := ds7) [] (by decide +kernel)).trans (funext fun as => mkF_self as)
theorem at8__law_run_signs {M : Nat} : (mkF glo M ds8).call "_law_run_signs" = fun as => if as.length = 0 then runDef (mkF glo M ds3) M 1 b__law_run_signs as else .bad := (lift (ds := ds4) [d__law_text, d__law_piece, d__law_grammar_words, d__law_pick] (by decide +kernel)).trans (funext fun as => mkF_self as)
theorem at12_is_run_sign {M : Nat} : (mkF glo M ds12).call "is_run_sign" = fun as => if as.length = 1 then runDef (mkF glo M ds11) M 1 b_is_run_sign as else .bad := (lift (ds := ds12) [] (by decide +kernel)).trans (funext fun as => mkF_self as)
theorem at13_is_run_sign {M : Nat} : (mkF glo M ds13).call "is_run_sign" = fun as => if as.length = 1 then runDef (mkF glo M ds11) M 1 b_is_run_sign as else .bad := (lift (ds := ds12) [d_run_end] (by decide +kernel)).trans (funext fun as => mkF_self as)
theorem at13_run_end {M : Nat} : (mkF glo M ds13).call "run_end" = fun as => if as.length = 2 then runDef (mkF glo M ds12) M 3 b_run_end as else .bad := (lift (ds := ds13) [] (by decide +kernel)).trans (funext fun as => mkF_self as)
theorem at14_token_start {M : Nat} : (mkF glo M ds14).call "token_start" = fun as => if as.length = 2 then runDef (mkF glo M ds10) M 3 b_token_start as else .bad := (lift (ds := ds11) [d_token_end, d_run_end, d_is_run_sign] (by decide +kernel)).trans (funext fun as => mkF_self as)
theorem at14_token_end {M : Nat} : (mkF glo M ds14).call "token_end" = fun as => if as.length = 2 then runDef (mkF glo M ds13) M 2 b_token_end as else .bad := (lift (ds := ds14) [] (by decide +kernel)).trans (funext fun as => mkF_self as)
theorem at15__law_run_signs {M : Nat} : (mkF glo M ds15).call "_law_run_signs" = fun as => if as.length = 0 then runDef (mkF glo M ds3) M 1 b__law_run_signs as else .bad := (lift (ds := ds4) [d_tokens_of, d_token_end, d_run_end, d_is_run_sign, d_token_start, d__law_same_tokens, d__law_tokens, d__law_text, d__law_piece, d__law_grammar_words, d__law_pick] (by decide +kernel)).trans (funext fun as => mkF_self as)
theorem at15__law_draw {M : Nat} : (mkF glo M ds15).call "_law_draw" = fun as => if as.length = 2 then runDef (mkF glo M ds1) M 5 b__law_draw as else .bad := (lift (ds := ds2) [d_tokens_of, d_token_end, d_run_end, d_is_run_sign, d_token_start, d__law_same_tokens, d__law_tokens, d__law_text, d__law_piece, d__law_grammar_words, d__law_pick, d__law_run_signs, d__law_rare] (by decide +kernel)).trans (funext fun as => mkF_self as)
theorem at16__law_begin {M : Nat} : (mkF glo M ds16).call "_law_begin" = fun as => if as.length = 1 then runDef (mkF glo M ds0) M 2 b__law_begin as else .bad := (lift (ds := ds1) [d__law_spread, d_tokens_of, d_token_end, d_run_end, d_is_run_sign, d_token_start, d__law_same_tokens, d__law_tokens, d__law_text, d__law_piece, d__law_grammar_words, d__law_pick, d__law_run_signs, d__law_rare, d__law_draw] (by decide +kernel)).trans (funext fun as => mkF_self as)
theorem at16__law_text {M : Nat} : (mkF glo M ds16).call "_law_text" = fun as => if as.length = 1 then runDef (mkF glo M ds7) M 5 b__law_text as else .bad := (lift (ds := ds8) [d__law_spread, d_tokens_of, d_token_end, d_run_end, d_is_run_sign, d_token_start, d__law_same_tokens, d__law_tokens] (by decide +kernel)).trans (funext fun as => mkF_self as)
theorem at16__law_tokens {M : Nat} : (mkF glo M ds16).call "_law_tokens" = fun as => if as.length = 1 then runDef (mkF glo M ds8) M 6 b__law_tokens as else .bad := (lift (ds := ds9) [d__law_spread, d_tokens_of, d_token_end, d_run_end, d_is_run_sign, d_token_start, d__law_same_tokens] (by decide +kernel)).trans (funext fun as => mkF_self as)
theorem at16__law_same_tokens {M : Nat} : (mkF glo M ds16).call "_law_same_tokens" = fun as => if as.length = 2 then runDef (mkF glo M ds9) M 3 b__law_same_tokens as else .bad := (lift (ds := ds10) [d__law_spread, d_tokens_of, d_token_end, d_run_end, d_is_run_sign, d_token_start] (by decide +kernel)).trans (funext fun as => mkF_self as)
theorem at16_tokens_of {M : Nat} : (mkF glo M ds16).call "tokens_of" = fun as => if as.length = 1 then runDef (mkF glo M ds14) M 4 b_tokens_of as else .bad := (lift (ds := ds15) [d__law_spread] (by decide +kernel)).trans (funext fun as => mkF_self as)
theorem at16__law_spread {M : Nat} : (mkF glo M ds16).call "_law_spread" = fun as => if as.length = 2 then runDef (mkF glo M ds15) M 8 b__law_spread as else .bad := (lift (ds := ds16) [] (by decide +kernel)).trans (funext fun as => mkF_self as)
theorem glo_BETWEEN : glo "BETWEEN" = some (.str " \n") := by kernel_rfl
theorem glo_CAPITALS : glo "CAPITALS" = some (.str "ABCDEFGHIJKLMNOPQRSTUVWXYZ") := by kernel_rfl
theorem glo_DIGITS : glo "DIGITS" = some (.str "0123456789") := by kernel_rfl
theorem glo_SMALL : glo "SMALL" = some (.str "abcdefghijklmnopqrstuvwxyz") := by kernel_rfl
def fn : List He.DefD := [⟨("_law_begin", none), "_law_begin", "_law_begin", defArgs (top 11), defBody (top 11), defScope (top 11), [], []⟩, ⟨("_law_draw", none), "_law_draw", "_law_draw", defArgs (top 12), defBody (top 12), defScope (top 12), [], []⟩, ⟨("_law_rare", none), "_law_rare", "_law_rare", defArgs (top 14), defBody (top 14), defScope (top 14), [], []⟩, ⟨("_law_run_signs", none), "_law_run_signs", "_law_run_signs", defArgs (top 15), defBody (top 15), defScope (top 15), [], []⟩, ⟨("_law_pick", none), "_law_pick", "_law_pick", defArgs (top 13), defBody (top 13), defScope (top 13), [], []⟩, ⟨("_law_grammar_words", none), "_law_grammar_words", "_law_grammar_words", defArgs (top 16), defBody (top 16), defScope (top 16), [], []⟩, ⟨("_law_piece", none), "_law_piece", "_law_piece", defArgs (top 17), defBody (top 17), defScope (top 17), [], []⟩, ⟨("_law_text", none), "_law_text", "_law_text", defArgs (top 18), defBody (top 18), defScope (top 18), [], []⟩, ⟨("_law_tokens", none), "_law_tokens", "_law_tokens", defArgs (top 19), defBody (top 19), defScope (top 19), [], []⟩, ⟨("_law_same_tokens", none), "_law_same_tokens", "_law_same_tokens", defArgs (top 21), defBody (top 21), defScope (top 21), [], []⟩, ⟨("token_start", none), "token_start", "token_start", defArgs (top 6), defBody (top 6), defScope (top 6), [], []⟩, ⟨("is_run_sign", none), "is_run_sign", "is_run_sign", defArgs (top 5), defBody (top 5), defScope (top 5), [], []⟩, ⟨("run_end", none), "run_end", "run_end", defArgs (top 7), defBody (top 7), defScope (top 7), [], []⟩, ⟨("token_end", none), "token_end", "token_end", defArgs (top 8), defBody (top 8), defScope (top 8), [], []⟩, ⟨("tokens_of", none), "tokens_of", "tokens_of", defArgs (top 9), defBody (top 9), defScope (top 9), [], []⟩, ⟨("_law_spread", none), "_law_spread", "_law_spread", defArgs (top 20), defBody (top 20), defScope (top 20), [], []⟩, ⟨("law", none), "law", "law", defArgs (top 22), defBody (top 22), defScope (top 22), [], []⟩]
def fa : List He.Fa := [.glo "_law_begin", .glo "_law_draw", .glo "_law_rare", .glo "_law_run_signs", .glo "_law_pick", .glo "_law_grammar_words", .glo "_law_piece", .glo "_law_text", .glo "_law_tokens", .glo "_law_same_tokens", .glo "token_start", .glo "is_run_sign", .glo "run_end", .glo "token_end", .glo "tokens_of", .glo "_law_spread", .glo "law", .free "abs", .free "all", .free "int", .free "isinstance", .free "len", .free "range", .free "str", .free "tuple", .str "BETWEEN" " \n", .str "CAPITALS" "ABCDEFGHIJKLMNOPQRSTUVWXYZ", .str "DIGITS" "0123456789", .str "SMALL" "abcdefghijklmnopqrstuvwxyz"]
abbrev R : PySem.W.OpenRow := PySem.W.OpenLaw.row PySem.Challenge.rw_cedewheel_k01_tokens
abbrev hk : PySem.W.Hook := He.hookD 4 fa fn
def ob (s : PySem.W.SharedT) : He.AlD := He.obsDG 4 fa fn (HandSHeadRun.getT s)
theorem ob_eq (s : PySem.W.SharedT) : ob s = hk.obs s.abs := He.obsDG_eq (HandSHeadRun.getT_eq s)
def names0 : List PySem.Str := [PySem.Str.ofString "SMALL", PySem.Str.ofString "CAPITALS", PySem.Str.ofString "DIGITS", PySem.Str.ofString "BETWEEN", PySem.Str.ofString "is_run_sign", PySem.Str.ofString "token_start", PySem.Str.ofString "run_end", PySem.Str.ofString "token_end", PySem.Str.ofString "tokens_of", PySem.Str.ofString "_law_begin", PySem.Str.ofString "_law_draw", PySem.Str.ofString "_law_pick", PySem.Str.ofString "_law_rare", PySem.Str.ofString "_law_run_signs", PySem.Str.ofString "_law_grammar_words", PySem.Str.ofString "_law_piece", PySem.Str.ofString "_law_text", PySem.Str.ofString "_law_tokens", PySem.Str.ofString "_law_spread", PySem.Str.ofString "_law_same_tokens"]
def names : List PySem.Str := names0
theorem run (w : World) : HandSHeadRun.RunEq R (PySem.W.view R.prog [22]) hk ob 20000 names w := by
  intro os
  kernel_rfl
theorem gloF {K : PySem.W.Frag} {mg : Str → Option Value} {h : Heap} (X : K.In h) (G : h.Ns mainGlobals mg) (c : He.SaysD fa fn K) : GloF K mg glo frees [] := by
  refine ⟨fun x d e => ?_, fun x hx => ?_, fun p hp => by cases hp⟩
  · unfold glo at e
    split at e
    · rename_i hx
      cases e
      subst hx
      obtain ⟨t, ht⟩ := He.str_ok X G (c.fact 25 (f := .str "BETWEEN" " \n") rfl)
      exact ⟨_, .str " \n", ht, ⟨_, rfl⟩, fun _ _ => rfl⟩
    split at e
    · rename_i hx
      cases e
      subst hx
      obtain ⟨t, ht⟩ := He.str_ok X G (c.fact 26 (f := .str "CAPITALS" "ABCDEFGHIJKLMNOPQRSTUVWXYZ") rfl)
      exact ⟨_, .str "ABCDEFGHIJKLMNOPQRSTUVWXYZ", ht, ⟨_, rfl⟩, fun _ _ => rfl⟩
    split at e
    · rename_i hx
      cases e
      subst hx
      obtain ⟨t, ht⟩ := He.str_ok X G (c.fact 27 (f := .str "DIGITS" "0123456789") rfl)
      exact ⟨_, .str "0123456789", ht, ⟨_, rfl⟩, fun _ _ => rfl⟩
    split at e
    · rename_i hx
      cases e
      subst hx
      obtain ⟨t, ht⟩ := He.str_ok X G (c.fact 28 (f := .str "SMALL" "abcdefghijklmnopqrstuvwxyz") rfl)
      exact ⟨_, .str "abcdefghijklmnopqrstuvwxyz", ht, ⟨_, rfl⟩, fun _ _ => rfl⟩
    cases e
  · unfold frees at hx
    simp only [List.mem_cons, List.not_mem_nil, or_false] at hx
    rcases hx with rfl | rfl | rfl | rfl | rfl | rfl | rfl | rfl
    · exact He.free_ok X G (c.fact 17 (f := .free "abs") rfl)
    · exact He.free_ok X G (c.fact 18 (f := .free "all") rfl)
    · exact He.free_ok X G (c.fact 19 (f := .free "int") rfl)
    · exact He.free_ok X G (c.fact 20 (f := .free "isinstance") rfl)
    · exact He.free_ok X G (c.fact 21 (f := .free "len") rfl)
    · exact He.free_ok X G (c.fact 22 (f := .free "range") rfl)
    · exact He.free_ok X G (c.fact 23 (f := .free "str") rfl)
    · exact He.free_ok X G (c.fact 24 (f := .free "tuple") rfl)
theorem chain0 {P : Program} {w : World} {K : PySem.W.Frag} {mg : Str → Option Value} {h base : Heap} (X : K.In h) (G : h.Ns mainGlobals mg) (c : He.SaysD fa fn K) (M : Nat) : AllK P w K mg base glo M ds16 16 := by
  have g := gloF X G c
  have a0 : AllK P w K mg base glo M ds0 0 := all_nil
  obtain ⟨fd0, F0⟩ := c.def_ 0 rfl
  have a1 : AllK P w K mg base glo M ds1 1 := all_cons a0 g F0 sc__law_begin (by decide +kernel) rfl rfl ck__law_begin (He.glo_ok X G (c.fact 0 (f := .glo "_law_begin") rfl))
    (binds_all F0 rfl rfl fun _ _ _ _ _ _ us hl => match us, hl with | [_], _ => rfl)
  obtain ⟨fd1, F1⟩ := c.def_ 1 rfl
  have a2 : AllK P w K mg base glo M ds2 2 := all_cons a1 g F1 sc__law_draw (by decide +kernel) rfl rfl ck__law_draw (He.glo_ok X G (c.fact 1 (f := .glo "_law_draw") rfl))
    (binds_all F1 rfl rfl fun _ _ _ _ _ _ us hl => match us, hl with | [_, _], _ => rfl)
  obtain ⟨fd2, F2⟩ := c.def_ 2 rfl
  have a3 : AllK P w K mg base glo M ds3 3 := all_cons a2 g F2 sc__law_rare (by decide +kernel) rfl rfl ck__law_rare (He.glo_ok X G (c.fact 2 (f := .glo "_law_rare") rfl))
    (binds_all F2 rfl rfl fun _ _ _ _ _ _ us hl => match us, hl with | [_, _], _ => rfl)
  obtain ⟨fd3, F3⟩ := c.def_ 3 rfl
  have a4 : AllK P w K mg base glo M ds4 4 := all_cons a3 g F3 sc__law_run_signs (by decide +kernel) rfl rfl ck__law_run_signs (He.glo_ok X G (c.fact 3 (f := .glo "_law_run_signs") rfl))
    (binds_all F3 rfl rfl fun _ _ _ _ _ _ us hl => match us, hl with | [], _ => rfl)
  obtain ⟨fd4, F4⟩ := c.def_ 4 rfl
  have a5 : AllK P w K mg base glo M ds5 5 := all_cons a4 g F4 sc__law_pick (by decide +kernel) rfl rfl ck__law_pick (He.glo_ok X G (c.fact 4 (f := .glo "_law_pick") rfl))
    (binds_all F4 rfl rfl fun _ _ _ _ _ _ us hl => match us, hl with | [_, _], _ => rfl)
  obtain ⟨fd5, F5⟩ := c.def_ 5 rfl
  have a6 : AllK P w K mg base glo M ds6 6 := all_cons a5 g F5 sc__law_grammar_words (by decide +kernel) rfl rfl ck__law_grammar_words (He.glo_ok X G (c.fact 5 (f := .glo "_law_grammar_words") rfl))
    (binds_all F5 rfl rfl fun _ _ _ _ _ _ us hl => match us, hl with | [], _ => rfl)
  obtain ⟨fd6, F6⟩ := c.def_ 6 rfl
  have a7 : AllK P w K mg base glo M ds7 7 := all_cons a6 g F6 sc__law_piece (by decide +kernel) rfl rfl ck__law_piece (He.glo_ok X G (c.fact 6 (f := .glo "_law_piece") rfl))
    (binds_all F6 rfl rfl fun _ _ _ _ _ _ us hl => match us, hl with | [_], _ => rfl)
  obtain ⟨fd7, F7⟩ := c.def_ 7 rfl
  have a8 : AllK P w K mg base glo M ds8 8 := all_cons a7 g F7 sc__law_text (by decide +kernel) rfl rfl ck__law_text (He.glo_ok X G (c.fact 7 (f := .glo "_law_text") rfl))
    (binds_all F7 rfl rfl fun _ _ _ _ _ _ us hl => match us, hl with | [_], _ => rfl)
  obtain ⟨fd8, F8⟩ := c.def_ 8 rfl
  have a9 : AllK P w K mg base glo M ds9 9 := all_cons a8 g F8 sc__law_tokens (by decide +kernel) rfl rfl ck__law_tokens (He.glo_ok X G (c.fact 8 (f := .glo "_law_tokens") rfl))
    (binds_all F8 rfl rfl fun _ _ _ _ _ _ us hl => match us, hl with | [_], _ => rfl)
  obtain ⟨fd9, F9⟩ := c.def_ 9 rfl
  have a10 : AllK P w K mg base glo M ds10 10 := all_cons a9 g F9 sc__law_same_tokens (by decide +kernel) rfl rfl ck__law_same_tokens (He.glo_ok X G (c.fact 9 (f := .glo "_law_same_tokens") rfl))
    (binds_all F9 rfl rfl fun _ _ _ _ _ _ us hl => match us, hl with | [_, _], _ => rfl)
  obtain ⟨fd10, F10⟩ := c.def_ 10 rfl
  have a11 : AllK P w K mg base glo M ds11 11 := all_cons a10 g F10 sc_token_start (by decide +kernel) rfl rfl ck_token_start (He.glo_ok X G (c.fact 10 (f := .glo "token_start") rfl))
    (binds_all F10 rfl rfl fun _ _ _ _ _ _ us hl => match us, hl with | [_, _], _ => rfl)
  obtain ⟨fd11, F11⟩ := c.def_ 11 rfl
  have a12 : AllK P w K mg base glo M ds12 12 := all_cons a11 g F11 sc_is_run_sign (by decide +kernel) rfl rfl ck_is_run_sign (He.glo_ok X G (c.fact 11 (f := .glo "is_run_sign") rfl))
    (binds_all F11 rfl rfl fun _ _ _ _ _ _ us hl => match us, hl with | [_], _ => rfl)
  obtain ⟨fd12, F12⟩ := c.def_ 12 rfl
  have a13 : AllK P w K mg base glo M ds13 13 := all_cons a12 g F12 sc_run_end (by decide +kernel) rfl rfl ck_run_end (He.glo_ok X G (c.fact 12 (f := .glo "run_end") rfl))
    (binds_all F12 rfl rfl fun _ _ _ _ _ _ us hl => match us, hl with | [_, _], _ => rfl)
  obtain ⟨fd13, F13⟩ := c.def_ 13 rfl
  have a14 : AllK P w K mg base glo M ds14 14 := all_cons a13 g F13 sc_token_end (by decide +kernel) rfl rfl ck_token_end (He.glo_ok X G (c.fact 13 (f := .glo "token_end") rfl))
    (binds_all F13 rfl rfl fun _ _ _ _ _ _ us hl => match us, hl with | [_, _], _ => rfl)
  obtain ⟨fd14, F14⟩ := c.def_ 14 rfl
  have a15 : AllK P w K mg base glo M ds15 15 := all_cons a14 g F14 sc_tokens_of (by decide +kernel) rfl rfl ck_tokens_of (He.glo_ok X G (c.fact 14 (f := .glo "tokens_of") rfl))
    (binds_all F14 rfl rfl fun _ _ _ _ _ _ us hl => match us, hl with | [_], _ => rfl)
  obtain ⟨fd15, F15⟩ := c.def_ 15 rfl
  have a16 : AllK P w K mg base glo M ds16 16 := all_cons a15 g F15 sc__law_spread (by decide +kernel) rfl rfl ck__law_spread (He.glo_ok X G (c.fact 15 (f := .glo "_law_spread") rfl))
    (binds_all F15 rfl rfl fun _ _ _ _ _ _ us hl => match us, hl with | [_, _], _ => rfl)
  exact a16
theorem facts {P : Program} {w : World} {K : PySem.W.Frag} {h : Heap} {mg : Str → Option Value} {f : Addr} (X : K.In h) (G : h.Ns mainGlobals mg) (hfa : mg ("law" : Str) = some (.ref f)) (c : He.SaysD fa fn K) :
    ∃ fd : FuncData, (∀ (s : Shared) (v : Value), BindsTo s fd ⟨[v], []⟩ [("script", v)]) ∧ ∀ base : Heap, K.In base → base.Ns mainGlobals mg → FnOk P w K mg base (L2.CX P w) 17 f fd ["script"] fun vs H Q E => ∃ M, spOf (mkF glo M ds17) mg K 1 "law" vs H Q E := by
  obtain ⟨fd, F⟩ := c.def_ 16 rfl
  have hg : mg ("law" : Str) = some (.ref (He.ga K "law")) := He.glo_ok X G (c.fact 16 (f := .glo "law") rfl)
  have e := hfa.symm.trans hg
  cases e
  have b := FunD.bindsA (ps := ["script"]) F fun _ _ _ _ _ _ us hl => match us, hl with | [_], _ => rfl
  refine ⟨fd, fun s v => b s [v] rfl, fun base _ _ => FnOk.ex fun M => ?_⟩
  exact law_fn (d := d_law) (chain0 X G c M) (gloF X G c) F sc_law rfl rfl ck_law
end Wk01

namespace K01
section
variable (run blank : Nat → Bool)
/-- a reader, character by character; w: the run it stands in -/
def go : Option (List Nat) → List Nat → List (List Nat)
  | none, [] => []
  | some w, [] => [w]
  | none, c :: l => if run c then go (some [c]) l else if blank c then go none l else [c] :: go none l
  | some w, c :: l => if run c then go (some (w ++ [c])) l else w :: (if blank c then go none l else [c] :: go none l)
variable {run blank : Nat → Bool}
theorem go_in : ∀ (l w : List Nat), go run blank (some w) l = (w ++ l.takeWhile run) :: go run blank none (l.dropWhile run)
  | [], w => by simp [go]
  | c :: l, w => by
    by_cases h : run c = true
    · rw [go, if_pos h, go_in l]
      simp [h]
    · rw [go, if_neg h]
      simp only [List.takeWhile_cons, List.dropWhile_cons, h, Bool.false_eq_true, if_false, List.append_nil]
      rw [go, if_neg h]
theorem go_skip (hb : ∀ c, blank c = true → run c = false) : ∀ (l : List Nat), go run blank none l = go run blank none (l.dropWhile blank)
  | [] => rfl
  | c :: l => by
    by_cases h : blank c = true
    · rw [go, if_neg (by simp [hb c h]), if_pos h, go_skip hb l]
      simp [h]
    · simp [h]
theorem go_cut {c : Nat} {b : List Nat} (h1 : run c = false) (h2 : blank c = false) : ∀ (a : List Nat) (o : Option (List Nat)), go run blank o (a ++ c :: b) = go run blank o a ++ [c] :: go run blank none b
  | [], none => by simp [go, h1, h2]
  | [], some w => by simp [go, h1, h2]
  | x :: a, none => by
    rw [List.cons_append, go, go]
    split
    · exact go_cut h1 h2 a _
    · split
      · exact go_cut h1 h2 a _
      · rw [go_cut h1 h2 a]; rfl
  | x :: a, some w => by
    rw [List.cons_append, go, go]
    split
    · exact go_cut h1 h2 a _
    · split
      · rw [go_cut h1 h2 a]; rfl
      · rw [go_cut h1 h2 a]; rfl
/-- a token -/
def Tok (run blank : Nat → Bool) (w : List Nat) : Prop := (∃ c r, w = c :: r ∧ ∀ x ∈ w, run x = true) ∨ ∃ c, w = [c] ∧ run c = false ∧ blank c = false
theorem go_tok {Q : Nat → Prop} : ∀ (l : List Nat) (o : Option (List Nat)), (∀ w, o = some w → w ≠ [] ∧ (∀ x ∈ w, run x = true) ∧ ∀ x ∈ w, Q x) → (∀ x ∈ l, Q x) →
    ∀ w ∈ go run blank o l, Tok run blank w ∧ ∀ x ∈ w, Q x
  | [], none, _, _, w, h => by simp [go] at h
  | [], some v, ho, _, w, h => by
    simp [go] at h
    subst h
    obtain ⟨h1, h2, h3⟩ := ho w rfl
    obtain ⟨c, r, rfl⟩ := List.exists_cons_of_ne_nil h1
    exact ⟨.inl ⟨c, r, rfl, h2⟩, h3⟩
  | c :: l, none, _, hq, w, h => by
    have hc := hq c List.mem_cons_self
    have hl : ∀ x ∈ l, Q x := fun x hx => hq x (List.mem_cons_of_mem _ hx)
    rw [go] at h
    split at h
    · rename_i hr
      exact go_tok l (some [c]) (fun w e => by cases e; simp [hr, hc]) hl w h
    · split at h
      · exact go_tok l none (fun w e => by cases e) hl w h
      · rename_i h1 h2
        rcases List.mem_cons.mp h with rfl | h
        · exact ⟨.inr ⟨c, rfl, by simpa using h1, by simpa using h2⟩, by simpa using hc⟩
        · exact go_tok l none (fun w e => by cases e) hl w h
  | c :: l, some v, ho, hq, w, h => by
    have hc := hq c List.mem_cons_self
    have hl : ∀ x ∈ l, Q x := fun x hx => hq x (List.mem_cons_of_mem _ hx)
    obtain ⟨n1, n2, n3⟩ := ho v rfl
    rw [go] at h
    split at h
    · rename_i hr
      refine go_tok l (some (v ++ [c])) (fun w e => by
        cases e
        refine ⟨by simp, fun x hx => ?_, fun x hx => ?_⟩
        · rcases List.mem_append.mp hx with hx | hx
          · exact n2 x hx
          · simp at hx; subst hx; exact hr
        · rcases List.mem_append.mp hx with hx | hx
          · exact n3 x hx
          · simp at hx; subst hx; exact hc) hl w h
    · rename_i h1
      have tv : Tok run blank v ∧ ∀ x ∈ v, Q x := by
        obtain ⟨c', r, rfl⟩ := List.exists_cons_of_ne_nil n1
        exact ⟨.inl ⟨c', r, rfl, n2⟩, n3⟩
      split at h
      · rcases List.mem_cons.mp h with rfl | h
        · exact tv
        · exact go_tok l none (fun w e => by cases e) hl w h
      · rename_i h2
        rcases List.mem_cons.mp h with rfl | h
        · exact tv
        · rcases List.mem_cons.mp h with rfl | h
          · exact ⟨.inr ⟨c, rfl, by simpa using h1, by simpa using h2⟩, by simpa using hc⟩
          · exact go_tok l none (fun w e => by cases e) hl w h
/-- how many, how long -/
theorem go_len : ∀ (l : List Nat) (o : Option (List Nat)) (n : Nat), (∀ w, o = some w → w.length ≤ n) → (go run blank o l).length ≤ l.length + o.toList.length ∧ ∀ w ∈ go run blank o l, w.length ≤ n + l.length + 1
  | [], none, n, _ => by simp [go]
  | [], some v, n, h => by
    have := h v rfl
    simp [go]; omega
  | c :: l, none, n, h => by
    have ih := go_len l none n (fun w e => by cases e)
    rw [go]
    split
    · have := go_len l (some [c]) (n + 1) (fun w e => by cases e; simp)
      simp at this ⊢
      exact ⟨by omega, fun w hw => by have := this.2 w hw; omega⟩
    · rw [List.length_cons]
      split
      · exact ⟨by have := ih.1; omega, fun w hw => by have := ih.2 w hw; omega⟩
      · refine ⟨by have := ih.1; simp at this ⊢; omega, fun w hw => ?_⟩
        rcases List.mem_cons.mp hw with rfl | hw
        · simp
        · have := ih.2 w hw; omega
  | c :: l, some v, n, h => by
    have hv := h v rfl
    have ih := go_len l none n (fun w e => by cases e)
    rw [go]
    split
    · have := go_len l (some (v ++ [c])) (n + 1) (fun w e => by cases e; simp; omega)
      simp at this ⊢
      exact ⟨by omega, fun w hw => by have := this.2 w hw; omega⟩
    · rw [List.length_cons]
      split
      · refine ⟨by have := ih.1; simp at this ⊢; omega, fun w hw => ?_⟩
        rcases List.mem_cons.mp hw with rfl | hw
        · simp only [List.length_cons]; omega
        · have := ih.2 w hw; simp only [List.length_cons]; omega
      · refine ⟨by have := ih.1; simp at this ⊢; omega, fun w hw => ?_⟩
        rcases List.mem_cons.mp hw with rfl | hw
        · simp only [List.length_cons]; omega
        · rcases List.mem_cons.mp hw with rfl | hw
          · simp
          · have := ih.2 w hw; simp only [List.length_cons]; omega

/-! tokens with other blanks between them -/
def isR (run : Nat → Bool) (w : List Nat) : Bool := match w with
  | c :: _ => run c
  | [] => false
def Good (run blank : Nat → Bool) : Bool → List (List Nat × List Nat) → Prop
  | _, [] => True
  | b, p :: r => (∀ c ∈ p.1, blank c = true) ∧ Tok run blank p.2 ∧ (p.1 = [] → b = true → isR run p.2 = false) ∧ Good run blank (isR run p.2) r
def lastR (run : Nat → Bool) : Bool → List (List Nat × List Nat) → Bool
  | b, [] => b
  | _, p :: r => lastR run (isR run p.2) r
theorem good_snoc {p : List Nat × List Nat} (h1 : ∀ c ∈ p.1, blank c = true) (h2 : Tok run blank p.2) : ∀ (ps : List (List Nat × List Nat)) (b : Bool), Good run blank b ps → (p.1 = [] → lastR run b ps = true → isR run p.2 = false) → Good run blank b (ps ++ [p])
  | [], b, _, h3 => ⟨h1, h2, h3, trivial⟩
  | q :: r, b, h, h3 => ⟨h.1, h.2.1, h.2.2.1, good_snoc h1 h2 r _ h.2.2.2 h3⟩
theorem lastR_snoc {p : List Nat × List Nat} : ∀ (ps : List (List Nat × List Nat)) (b : Bool), lastR run b (ps ++ [p]) = isR run p.2
  | [], _ => rfl
  | _ :: r, b => lastR_snoc r _
def flat (ps : List (List Nat × List Nat)) : List Nat := (ps.map fun p => p.1 ++ p.2).flatten
theorem tw_all {l r : List Nat} (h : ∀ c ∈ l, run c = true) (hr : r.head?.all (fun c => !run c) = true) : (l ++ r).takeWhile run = l ∧ (l ++ r).dropWhile run = r := by
  induction l with
  | nil =>
    cases r with
    | nil => simp
    | cons c r => simp at hr; simp [hr]
  | cons c l ih =>
    have hc := h c List.mem_cons_self
    obtain ⟨i1, i2⟩ := ih fun x hx => h x (List.mem_cons_of_mem _ hx)
    simp [hc, i1, i2]
theorem dw_all {l r : List Nat} (h : ∀ c ∈ l, blank c = true) : (l ++ r).dropWhile blank = r.dropWhile blank := by
  induction l with
  | nil => rfl
  | cons c l ih => simp [h c List.mem_cons_self, ih fun x hx => h x (List.mem_cons_of_mem _ hx)]
theorem go_flat (hb : ∀ c, blank c = true → run c = false) {fin : List Nat} (hf : ∀ c ∈ fin, blank c = true) : ∀ (ps : List (List Nat × List Nat)) (b : Bool), Good run blank b ps →
    go run blank none (flat ps ++ fin) = ps.map (·.2) ∧ (b = true → (flat ps ++ fin).head?.all (fun c => !run c) = true)
  | [], b, _ => by
    constructor
    · rw [show flat [] ++ fin = fin from rfl, go_skip hb]
      have : fin.dropWhile blank = [] := by
        have := dw_all (l := fin) (r := []) hf
        simpa using this
      rw [this]
      rfl
    · intro _
      cases fin with
      | nil => rfl
      | cons c r =>
        have := hb c (hf c List.mem_cons_self)
        simp [flat, this]
  | (s, w) :: r, b, h => by
    obtain ⟨h1, h2, h3, h4⟩ := h
    obtain ⟨i1, i2⟩ := go_flat hb hf r _ h4
    have e : flat ((s, w) :: r) ++ fin = s ++ (w ++ (flat r ++ fin)) := by simp [flat]
    rw [e]
    constructor
    · have e2 : go run blank none (s ++ (w ++ (flat r ++ fin))) = go run blank none (w ++ (flat r ++ fin)) := by
        rw [go_skip hb, dw_all h1, ← go_skip hb]
      rw [e2]
      rcases h2 with ⟨c, t, rfl, hr⟩ | ⟨c, rfl, hr, hbl⟩
      · have hc := hr c List.mem_cons_self
        have ht : ∀ x ∈ t, run x = true := fun x hx => hr x (List.mem_cons_of_mem _ hx)
        obtain ⟨t1, t2⟩ := tw_all ht (i2 hc)
        rw [List.cons_append, go, if_pos hc, go_in, t1, t2, i1]
        rfl
      · rw [List.cons_append, List.nil_append, go, if_neg (by simp [hr]), if_neg (by simp [hbl]), i1]
        rfl
    · intro hbt
      cases s with
      | nil =>
        have := h3 rfl hbt
        rcases h2 with ⟨c, t, rfl, hr⟩ | ⟨c, rfl, hr, hbl⟩
        · simp [isR] at this; simp [this]
        · simp [hr]
      | cons c s =>
        have := hb c (h1 c List.mem_cons_self)
        simp [this]
end
end K01

set_option Elab.async false
set_option linter.all false
set_option maxRecDepth 100000
set_option maxHeartbeats 4000000
namespace Wk01
open PySem PySem.Spec PyProof.Rows L2 Dv K01

/-! ### the signs -/
def rn (c : Nat) : Bool := decide (c < 128) && (strIn (chr1 c) "abcdefghijklmnopqrstuvwxyz" || (strIn (chr1 c) "ABCDEFGHIJKLMNOPQRSTUVWXYZ" || strIn (chr1 c) "0123456789"))
def bk (c : Nat) : Bool := decide (c < 128) && strIn (chr1 c) " \n"
def every : List Nat := ("abcdefghijklmnopqrstuvwxyz0123456789ABCDEFGHIJKLMNOPQRSTUVWXYZ" : Str).cps.toList
theorem sg1 : ∀ c < 128, strIn (chr1 c) (st every) = rn c := by decide +kernel
theorem sg2 : ∀ c < 128, bk c = (decide (chr1 c = " ") || decide (chr1 c = "\n")) := by decide +kernel
theorem sg3 : ∀ c < 128, bk c = true → rn c = false := by decide +kernel
theorem run_blank (c : Nat) (h : bk c = true) : rn c = false := by
  by_cases hc : c < 128
  · exact sg3 c hc h
  · simp [bk, hc] at h
theorem every_lt : ∀ c ∈ every, c < 128 := by decide +kernel
theorem every_len : every.length = 62 := by decide +kernel
theorem signs_ok {F : Fn} {M : Nat} : runDef F M 1 b__law_run_signs [] = .ok (.val (.str (st every)), []) := by
  have h : (Str.ofString "abcdefghijklmnopqrstuvwxyz0123456789").length + (Str.ofString "ABCDEFGHIJKLMNOPQRSTUVWXYZ").length ≤ sizeLine := by decide +kernel
  have e : Str.ofString "abcdefghijklmnopqrstuvwxyz0123456789" ++ Str.ofString "ABCDEFGHIJKLMNOPQRSTUVWXYZ" = st every := by decide +kernel
  simp [b__law_run_signs, Dv.envOf, h, e]
def gw : List (List Nat) := (Txt.split ("book money rate to company in treaty from on gross left shield each year price sunset none share over limit lesser greater then plus 0 1 12 007 1234567890 ark Book abcdefghi a1 9z" : Str) " ").map fun x => x.cps.toList
theorem gw_ok {F : Fn} {M : Nat} : runDef F M 1 b__law_grammar_words [] = .ok (.own (.lst (gw.map fun l => .str (st l))), []) := by
  have h : (Str.ofString "book money rate to company in treaty from on gross left shield each year price sunset none share over").length + (Str.ofString " limit lesser greater then plus 0 1 12 007 1234567890 ark Book abcdefghi a1 9z").length ≤ sizeLine := by decide +kernel
  have e : Str.ofString "book money rate to company in treaty from on gross left shield each year price sunset none share over" ++ Str.ofString " limit lesser greater then plus 0 1 12 007 1234567890 ark Book abcdefghi a1 9z" =
    Str.ofString "book money rate to company in treaty from on gross left shield each year price sunset none share over limit lesser greater then plus 0 1 12 007 1234567890 ark Book abcdefghi a1 9z" := by decide +kernel
  have h2 : (((Str.ofString " ").length == 0) = false ∧ (Str.ofString "book money rate to company in treaty from on gross left shield each year price sunset none share over limit lesser greater then plus 0 1 12 007 1234567890 ark Book abcdefghi a1 9z").length + 2 ≤ sizeLine) := by decide +kernel
  have e2 : gw.map (fun l => D.str (st l)) = (Txt.split (Str.ofString "book money rate to company in treaty from on gross left shield each year price sunset none share over limit lesser greater then plus 0 1 12 007 1234567890 ark Book abcdefghi a1 9z") (Str.ofString " ")).map D.str := by
    unfold gw
    rw [List.map_map]
    exact List.map_congr_left fun x _ => congrArg D.str (st_of x).symm
  rw [e2]
  have ev1 : ∀ {x y z : Str}, x.length + y.length ≤ sizeLine → x ++ y = z → dBin .Add (.str x) (.str y) = .ok (.val (.str z)) := fun hh ee => by
    show need _ _ = _
    rw [need_true hh, ee]
  have ev2 : ∀ {x y : Str}, ((y.length == 0) = false ∧ x.length + 2 ≤ sizeLine) → dMe .split (.str x) [.str y] = .ok (.own (.lst ((Txt.split x y).map .str))) := fun hh => need_true hh
  have ev1 := ev1 h e
  have ev2 := ev2 h2
  simp only [b__law_grammar_words, runDef_d, Dv.envOf, List.map_nil, List.nil_append, List.length_nil, Nat.sub_zero, List.replicate_succ, List.replicate_zero]
  simp [-c25_dBin, -c84_dMe, ev1, ev2]
theorem gw_lt : ∀ w ∈ gw, w.length ≤ 14 ∧ ∀ c ∈ w, c < 128 := by decide +kernel
theorem gw_len : gw.length = 34 := by decide +kernel

/-! ### draws -/
theorem dr {F : Fn} {M n : Nat} {d : D} {m : Int} (hF : F.call "_law_draw" = fun as => if as.length = 2 then runDef (mkF glo M ds1) M 5 b__law_draw as else .bad) (hd : DS n d) (hn : n < 2 ^ 60) (h0 : 0 < m) (h1 : m < 2 ^ 64) :
    ∃ r d', F.call "_law_draw" [.own d, .val (.int m)] = .ok (.val (.int r), [.own d', .val (.int m)]) ∧ 0 ≤ r ∧ r < m ∧ DS (n + 1) d' := by
  rw [hF]
  exact draw_ok hd hn h0 h1
theorem rare_ok {M n : Nat} {d : D} {m : Int} (hd : DS n d) (hn : n < 2 ^ 60) (h0 : 0 < m) (h1 : m < 2 ^ 64) :
    ∃ b d', runDef (mkF glo M ds2) M 2 b__law_rare [.own d, .val (.int m)] = .ok (.val (.bl b), [.own d', .val (.int m)]) ∧ DS (n + 1) d' := by
  obtain ⟨r, d', e, _, _, h⟩ := dr (M := M) at2__law_draw hd hn h0 h1
  have dv := dv_ok (i := m) (j := 2) (by decide) (by decide)
  exact ⟨decide (r = m.fdiv 2), d', by simp [b__law_rare, Dv.envOf, e, dfl2, dv], h⟩
theorem pick_ok {M n : Nat} {d : D} {row : List D} (hd : DS n d) (hn : n < 2 ^ 60) (h0 : 0 < row.length) (h1 : row.length < 1000) :
    ∃ x d', runDef (mkF glo M ds4) M 2 b__law_pick [.own d, .own (.lst row)] = .ok (.val x, [.own d', .own (.lst row)]) ∧ x ∈ row ∧ DS (n + 1) d' := by
  obtain ⟨r, d', e, h2, h3, h⟩ := dr (m := (row.length : Int)) (at4__law_draw (M := M)) hd hn (by omega) (by omega)
  have hr : r.toNat < row.length := by omega
  refine ⟨row[r.toNat], d', ?_, List.getElem_mem hr, h⟩
  have ha : atI row r = some row[r.toNat] := by rw [atI_nat h2 h3]; exact List.getElem?_eq_getElem hr
  simp [b__law_pick, Dv.envOf, e, dfl4, ha]
end Wk01

set_option Elab.async false
set_option linter.all false
set_option maxRecDepth 100000
set_option maxHeartbeats 4000000
namespace Wk01
open PySem PySem.Spec PyProof.Rows L2 Dv K01
/-- one drawn sign -/
theorem sign_at {src : List Nat} {r : Int} (h0 : 0 ≤ r) (h1 : r < src.length) (hs : src.length ≤ 1000) (hl : ∀ c ∈ src, c < 128) : ∃ c, dIdx (.str (st src)) (.int r) = .ok (.str (st [c])) ∧ c < 128 := by
  have hr : r.toNat < src.length := by omega
  refine ⟨src[r.toNat], ?_, hl _ (List.getElem_mem hr)⟩
  have ha : atI src r = some src[r.toNat] := by rw [atI_nat h0 h1]; exact List.getElem?_eq_getElem hr
  have hz : (st src).length ≤ sizeLine := Nat.le_trans hs (by decide)
  show need _ _ = _
  rw [need_true hz, st_cps, ha]
  rfl
abbrev pEnv (d : D) (kd : Int) : Env' := [some (.own true d), some (.val (.int kd)), some (.val (.str (st every))), none, none]
theorem chars_ok {M n : Nat} {d : D} {kd m q : Int} {S : Ex} {src : List Nat} (hS : ∀ d i, ev (mkF glo M ds6) S [some (.own true d), some (.val (.int kd)), some (.val (.str (st every))), none, some (.val (.int i))] = .ok (.val (.str (st src)), [some (.own true d), some (.val (.int kd)), some (.val (.str (st every))), none, some (.val (.int i))]))
    (hm : m ≤ src.length) (hs : src.length ≤ 1000) (hl : ∀ c ∈ src, c < 128) (h0 : 0 < m) (hd : DS n d) (hn : n < 2 ^ 50) (hq0 : 0 < q) (hq1 : q < 100) :
    ∃ d' l, ev (mkF glo M ds6) (.met .join (.cst (.str "")) (.cons (.comp (.idx S (.call "_law_draw" (.cons (.var 0) (.cons (.cst (.int m)) .nil)))) (.nm 4) (.rng (.bin .Add (.cst (.int 1)) (.call "_law_draw" (.cons (.var 0) (.cons (.cst (.int q)) .nil))))) .none [4]) .nil)) (pEnv d kd) =
      .ok (.val (.str (st l)), pEnv d' kd) ∧ l.length ≤ q.toNat ∧ (∀ c ∈ l, c < 128) ∧ DS (n + 1 + q.toNat) d' := by
  obtain ⟨r, d1, e, hr0, hr1, h1⟩ := dr (m := q) (at6__law_draw (M := M)) hd (by omega) hq0 (by omega)
  have inr : Dv.inR (1 + r) := by unfold Dv.inR; omega
  obtain ⟨out, ρ2, ⟨d2, ls, rfl, hd2, rfl, hll, hlc⟩, ec⟩ := comp_gen (F := mkF glo M ds6) (elt := .idx S (.call "_law_draw" (.cons (.var 0) (.cons (.cst (.int m)) .nil)))) (tg := .nm 4)
    (it := .rng (.bin .Add (.cst (.int 1)) (.call "_law_draw" (.cons (.var 0) (.cons (.cst (.int q)) .nil))))) (ifs := .none) (own := [4]) (ρ := pEnv d kd) (l := rng 0 (1 + r).toNat) (p := .val .non) (ρ1 := pEnv d1 kd)
    (by simp [e, dfl6, inr])
    (fun i out ρ => ∃ d' ls, ρ = pEnv d' kd ∧ DS (n + 1 + i) d' ∧ out = ls.map (fun l => D.str (st l)) ∧ ls.length = i ∧ ∀ l ∈ ls, l.length = 1 ∧ ∀ c ∈ l, c < 128)
    (fun i x out ρ ex _ ⟨d', ls, e1, hd', e2, hl1, hlc⟩ => by
      subst e1 e2
      have hi : i < (rng 0 (1 + r).toNat).length := (List.getElem?_eq_some_iff.mp ex).1
      have hi2 : i < (1 + r).toNat := by simpa [rng] using hi
      obtain rfl : x = .int (0 + (i : Nat)) := by
        have : (rng 0 (1 + r).toNat)[i]? = some (.int (0 + (i : Nat))) := by simp [rng, hi2]
        rw [this] at ex
        exact (Option.some.inj ex).symm
      obtain ⟨r2, d3, e3, h2, h3, h4⟩ := dr (m := m) (at6__law_draw (M := M)) hd' (by omega) h0 (by omega)
      obtain ⟨c, e4, hc⟩ := sign_at (src := src) h2 (by omega) hs hl
      refine ⟨some (.str (st [c])), [some (.own true d3), some (.val (.int kd)), some (.val (.str (st every))), none, some (.val (.int (0 + (i : Nat))))], ?_, d3, ls ++ [[c]], rfl, by simpa [Nat.add_assoc] using h4, by simp, by simp [hl1], ?_⟩
      · simp [turnR, -c49_dIdx, hS, e3, dfl6, e4]
      · intro l hl
        rcases List.mem_append.mp hl with hl | hl
        · exact hlc l hl
        · simp at hl; subst hl; simp [hc])
    ⟨d1, [], by simp, by simpa using h1, rfl, rfl, by simp⟩
  have hlen : (rng 0 (1 + r).toNat).length = (1 + r).toNat := by simp [rng]
  rw [hlen] at hd2 hll
  have fl : ls.flatten.length = ls.length := by
    clear ec hll
    induction ls with
    | nil => rfl
    | cons a t ih =>
      have := (hlc a List.mem_cons_self).1
      rw [List.flatten_cons, List.length_append, ih fun l hl => hlc l (List.mem_cons_of_mem _ hl), this, List.length_cons]
      omega
  have hsz : ls.length < sizeLine := by unfold sizeLine; omega
  refine ⟨d2, ls.flatten, ?_, by omega, fun c hc => ?_, hd2.mono (by omega)⟩
  · simp [-r_ev_comp, ec, hsz, join_ok (ls := ls) (by omega)]
  · obtain ⟨l, h1, h2⟩ := List.mem_flatten.mp hc
    exact (hlc l h1).2 c h2
end Wk01

set_option Elab.async false
set_option linter.all false
set_option maxRecDepth 100000
set_option maxHeartbeats 4000000
namespace Wk01
open PySem PySem.Spec PyProof.Rows L2 Dv K01
theorem lit2 : (Str.ofString " \n") = st [32, 10] := by decide +kernel
def sep7 : List Nat := ("{}(),;/" : Str).cps.toList
theorem lit7 : (Str.ofString "{}(),;/") = st sep7 := by decide +kernel
theorem sep7_lt : sep7.length = 7 ∧ ∀ c ∈ sep7, c < 128 := by decide +kernel
def odd : List Nat := (" \n!\"#$&'()*+,-./:;<=>?\x40[\\]^_`{|}~" : Str).cps.toList
theorem litO : (Str.ofString " \n!\"#$&'()*+,-./:;<=>?\x40[\\]^_`{|}~") = st odd := by decide +kernel
theorem odd_lt : (odd ++ every).length = 95 ∧ ∀ c ∈ odd ++ every, c < 128 := by decide +kernel
theorem piece_ok {M n : Nat} {d : D} (hd : DS n d) (hn : n < 2 ^ 40) :
    ∃ l d', runDef (mkF glo M ds6) M 5 b__law_piece [.own d] = .ok (.val (.str (st l)), [.own d']) ∧ l.length ≤ 14 ∧ (∀ c ∈ l, c < 128) ∧ DS (n + 40) d' := by
  obtain ⟨r, d1, e, hr0, hr1, h1⟩ := dr (m := 7) (at6__law_draw (M := M)) hd (by omega) (by omega) (by omega)
  have es : (mkF glo M ds6).call "_law_run_signs" [] = .ok (.val (.str (st every)), []) := by rw [at6__law_run_signs]; exact signs_ok
  have hv : ∀ d i, ev (mkF glo M ds6) (.var 2) [some (.own true d), some (.val (.int r)), some (.val (.str (st every))), none, some (.val (.int i))] = .ok (.val (.str (st every)), [some (.own true d), some (.val (.int r)), some (.val (.str (st every))), none, some (.val (.int i))]) := fun d i => by simp
  by_cases k0 : r = 0
  · subst k0
    obtain ⟨d2, l, e2, hl, hc, h2⟩ := chars_ok (m := 36) (q := 9) hv (by rw [every_len]; omega) (by rw [every_len]; omega) every_lt (by omega) h1 (by omega) (by omega) (by omega)
    exact ⟨l, d2, by simp [b__law_piece, Dv.envOf, e, es, dfl6, -r_ev_met, e2], by omega, hc, h2.mono (by omega)⟩
  by_cases k1 : r = 1
  · subst k1
    obtain ⟨d2, l, e2, hl, hc, h2⟩ := chars_ok (m := 62) (q := 14) hv (by rw [every_len]; omega) (by rw [every_len]; omega) every_lt (by omega) h1 (by omega) (by omega) (by omega)
    exact ⟨l, d2, by simp [b__law_piece, Dv.envOf, e, es, dfl6, -r_ev_met, e2], by omega, hc, h2.mono (by omega)⟩
  by_cases k2 : r = 2
  · subst k2
    obtain ⟨d2, l, e2, hl, hc, h2⟩ := chars_ok (M := M) (kd := 2) (m := 2) (q := 3) (S := .cst (.str " \n")) (src := [32, 10]) (fun d i => by rw [r_ev_cst, lit2]) (by decide) (by decide) (by decide) (by omega) h1 (by omega) (by omega) (by omega)
    exact ⟨l, d2, by simp [b__law_piece, Dv.envOf, e, es, dfl6, -r_ev_met, e2], by omega, hc, h2.mono (by omega)⟩
  by_cases k3 : r = 3
  · subst k3
    obtain ⟨r2, d2, e2, h2, h3, h4⟩ := dr (m := 7) (at6__law_draw (M := M)) h1 (by omega) (by omega) (by omega)
    obtain ⟨c, e4, hc⟩ := sign_at (src := sep7) h2 (by rw [sep7_lt.1]; omega) (by rw [sep7_lt.1]; omega) sep7_lt.2
    exact ⟨[c], d2, by simp [b__law_piece, Dv.envOf, e, es, dfl6, e2, lit7, -c49_dIdx, e4], by simp, by simpa using hc, h4.mono (by omega)⟩
  by_cases k4 : r = 4
  · subst k4
    have eg : (mkF glo M ds6).call "_law_grammar_words" [] = .ok (.own (.lst (gw.map fun l => .str (st l))), []) := by rw [at6__law_grammar_words]; exact gw_ok
    obtain ⟨x, d2, e2, hx, h2⟩ := pick_ok (M := M) (row := gw.map fun l => .str (st l)) h1 (by omega) (by rw [List.length_map, gw_len]; omega) (by rw [List.length_map, gw_len]; omega)
    obtain ⟨l, hl, rfl⟩ := List.mem_map.mp hx
    have ep : (mkF glo M ds6).call "_law_pick" [.own d1, .own (.lst (gw.map fun l => .str (st l)))] = .ok (.val (.str (st l)), [.own d2, .own (.lst (gw.map fun l => .str (st l)))]) := by rw [at6__law_pick]; exact e2
    exact ⟨l, d2, by simp [b__law_piece, Dv.envOf, e, es, dfl6, eg, ep], (gw_lt l hl).1, (gw_lt l hl).2, h2.mono (by omega)⟩
  · have hz : odd.length + every.length ≤ 16777216 := by have := odd_lt.1; rw [List.length_append] at this; omega
    have hz2 : odd.length + every.length = 95 := by have := odd_lt.1; rw [List.length_append] at this; omega
    obtain ⟨r2, d2, e2, h2, h3, h4⟩ := dr (m := 95) (at6__law_draw (M := M)) h1 (by omega) (by omega) (by omega)
    obtain ⟨c, e4, hc⟩ := sign_at (src := odd ++ every) h2 (by rw [odd_lt.1]; omega) (by rw [odd_lt.1]; omega) odd_lt.2
    have cast : ((odd.length : Int) + (every.length : Int)) = 95 := by omega
    exact ⟨[c], d2, by simp [b__law_piece, Dv.envOf, e, es, dfl6, k0, k1, k2, k3, k4, litO, hz, hz2, sizeLine, cast, e2, -c49_dIdx, e4], by simp, by simpa using hc, h4.mono (by omega)⟩
end Wk01

set_option Elab.async false
set_option linter.all false
set_option maxRecDepth 100000
set_option maxHeartbeats 4000000
namespace Wk01
open PySem PySem.Spec PyProof.Rows L2 Dv K01
theorem cut20 {l : List Nat} : cutS (st l) none (some 20) = st (l.take 20) := by
  unfold cutS
  have h1 : HT.sIx (st l).length 0 none = 0 := rfl
  have h2 : HT.sIx (st l).length (st l).length (some 20) = min 20 l.length := HT.sIx_nat _ _ 20
  rw [h1, h2, Nat.sub_zero, List.drop_zero, st_cps]
  show st (l.take (min 20 l.length)) = _
  by_cases h : 20 ≤ l.length
  · rw [Nat.min_eq_left h]
  · rw [Nat.min_eq_right (by omega), List.take_of_length_le (Nat.le_refl _), List.take_of_length_le (by omega)]
abbrev tEnv (d : D) (r : Int) (b : Bool) : Env' := [some (.own true d), some (.val (.int r)), some (.val (.bl b)), none, none]
theorem text_ok {M n : Nat} {d : D} (hd : DS n d) (hn : n < 2 ^ 30) :
    ∃ l d', runDef (mkF glo M ds7) M 5 b__law_text [.own d] = .ok (.val (.str (st l)), [.own d']) ∧ l.length ≤ 960 ∧ (∀ c ∈ l, c < 128) ∧ DS (n + 1000) d' := by
  obtain ⟨r, d1, e1, hr0, hr1, h1⟩ := dr (m := 14) (at7__law_draw (M := M)) hd (by omega) (by omega) (by omega)
  obtain ⟨b, d2, e2, h2⟩ := rare_ok (M := M) (m := 16) h1 (by omega) (by omega) (by omega)
  have e2' : (mkF glo M ds7).call "_law_rare" [.own d1, .val (.int 16)] = .ok (.val (.bl b), [.own d2, .val (.int 16)]) := by rw [at7__law_rare]; exact e2
  have inr : Dv.inR r := by unfold Dv.inR; omega
  obtain ⟨out, ρ2, ⟨d3, ls, rfl, hd3, rfl, hll, hlc⟩, ec⟩ := comp_gen (F := mkF glo M ds7) (elt := .call "_law_piece" (.cons (.var 0) .nil)) (tg := .nm 4)
    (it := .rng (.var 1)) (ifs := .none) (own := [4]) (ρ := tEnv d2 r b) (l := rng 0 r.toNat) (p := .val .non) (ρ1 := tEnv d2 r b)
    (by simp [inr])
    (fun i out ρ => ∃ d' ls, ρ = tEnv d' r b ∧ DS (n + 2 + 40 * i) d' ∧ out = ls.map (fun l => D.str (st l)) ∧ ls.length = i ∧ ∀ l ∈ ls, l.length ≤ 14 ∧ ∀ c ∈ l, c < 128)
    (fun i x out ρ ex _ ⟨d', ls, e1, hd', e2, hl1, hlc⟩ => by
      subst e1 e2
      have hi : i < (rng 0 r.toNat).length := (List.getElem?_eq_some_iff.mp ex).1
      have hi2 : i < r.toNat := by simpa [rng] using hi
      obtain ⟨l, d3, e3, hl, hc, h4⟩ := piece_ok (M := M) hd' (by omega)
      have e3' : (mkF glo M ds7).call "_law_piece" [.own d'] = .ok (.val (.str (st l)), [.own d3]) := by rw [at7__law_piece]; exact e3
      refine ⟨some (.str (st l)), [some (.own true d3), some (.val (.int r)), some (.val (.bl b)), none, some (.val x)], ?_, d3, ls ++ [l], rfl, h4.mono (by omega), by simp, by simp [hl1], ?_⟩
      · simp [turnR, e3', dfl7]
      · intro w hw
        rcases List.mem_append.mp hw with hw | hw
        · exact hlc w hw
        · simp at hw; subst hw; exact ⟨hl, hc⟩)
    ⟨d2, [], by simp, by simpa using h2, rfl, rfl, by simp⟩
  have hlen : (rng 0 r.toNat).length = r.toNat := by simp [rng]
  rw [hlen] at hd3 hll
  have fl : ls.flatten.length ≤ 14 * ls.length := by
    clear ec hll
    induction ls with
    | nil => simp
    | cons a t ih =>
      have h1 := (hlc a List.mem_cons_self).1
      have h2 := ih fun l hl => hlc l (List.mem_cons_of_mem _ hl)
      rw [List.flatten_cons, List.length_append, List.length_cons]
      omega
  have hch : ∀ c ∈ ls.flatten, c < 128 := fun c hc => by
    obtain ⟨l, h1, h2⟩ := List.mem_flatten.mp hc
    exact (hlc l h1).2 c h2
  have hsz : ls.length < sizeLine := by unfold sizeLine; omega
  have ej := join_ok (ls := ls) (by omega)
  generalize ls.flatten = t at *
  cases b with
  | false => exact ⟨t, d3, by simp [b__law_text, Dv.envOf, e1, e2', dfl7, -r_ev_comp, ec, hsz, ej], by omega, hch, hd3.mono (by omega)⟩
  | true =>
    obtain ⟨r2, d4, e4, h5, h6, h7⟩ := dr (m := 48) (at7__law_draw (M := M)) hd3 (by omega) (by omega) (by omega)
    obtain ⟨k, hk⟩ : ∃ k : Nat, 1 + r2 = (k : Int) := ⟨(1 + r2).toNat, by omega⟩
    have hz : t.length ≤ sizeLine := by unfold sizeLine; omega
    have hm := mulOk_st (l := t.take 20) (n := k) (by omega) (by rw [List.length_take]; omega)
    refine ⟨(List.replicate k (t.take 20)).flatten, d4, by simp [b__law_text, Dv.envOf, e1, e2', dfl7, -r_ev_comp, ec, hsz, ej, cut20, hz, e4, hk, hm, mul_st (l := t.take 20) (n := k) (by omega)], ?_, fun c hc => ?_, h7.mono (by omega)⟩
    · have : k * min 20 t.length ≤ 48 * 20 := Nat.mul_le_mul (by omega) (by omega)
      simpa using this
    · obtain ⟨l, h8, h9⟩ := List.mem_flatten.mp hc
      rw [List.mem_replicate] at h8
      rw [h8.2] at h9
      exact hch c (List.mem_of_mem_take h9)
end Wk01

set_option Elab.async false
set_option linter.all false
set_option maxRecDepth 100000
set_option maxHeartbeats 4000000
namespace Wk01
open PySem PySem.Spec PyProof.Rows L2 Dv K01
abbrev txs (ls : List (List Nat)) : List D := ls.map fun l => D.str (st l)
abbrev kEnv (T : D) (found : List (List Nat)) (ins : Bool) (o4 o5 : Option S) : Env' := [some (.val T), some (.val (.str (st every))), some (.own false (.lst (txs found))), some (.val (.bl ins)), o4, o5]
def kBody : Sxs := (.cons 
    (.set 5 (.cmp .In (.var 4) (.var 1))) (.cons 
    (.ite (.and_ (.cons (.val (.var 5)) (.cons (.val (.var 3)) .nil))) (.cons 
    (.setI 2 (.bin .Sub (.blt .len (.cons (.var 2) .nil)) (.cst (.int 1))) (.bin .Add (.idx (.var 2) (.bin .Sub (.blt .len (.cons (.var 2) .nil)) (.cst (.int 1)))) (.var 4))) .nil) (.cons 
    (.ite (.and_ (.cons (.cmp .NotEq (.var 4) (.cst (.str " "))) (.cons (.cmp .NotEq (.var 4) (.cst (.str "\n"))) .nil))) (.cons 
    (.expr (.chg .append 2 (.cons (.var 4) .nil))) .nil) .nil) .nil)) (.cons 
    (.set 3 (.var 5)) .nil)))
theorem b_tok : b__law_tokens = .cons (.set 1 (.call "_law_run_signs" .nil)) (.cons (.set 2 (.lst .nil)) (.cons (.set 3 (.cst (.bl false))) (.cons (.for_ (.nm 4) (.seq (.var 0)) kBody) (.cons (.ret (.var 2)) .nil)))) := rfl
theorem shp_sp : shp (.str (Str.ofString " ")) = true := by decide +kernel
theorem shp_nl : shp (.str (Str.ofString "\n")) = true := by decide +kernel
theorem atI_fin {f : List (List Nat)} {w : List Nat} : atI (txs (f ++ [w])) (((f ++ [w]).length : Int) - 1) = some (.str (st w)) := by
  rw [atI_nat (by simp) (by simp; omega)]
  have e : (((f ++ [w]).length : Int) - 1).toNat = f.length := by simp
  rw [e]
  simp [txs]
theorem k_run {F : Fn} {M : Nat} {T : D} {f : List (List Nat)} {w : List Nat} {c : Nat} {o4 o5 : Option S} (hc : c < 128) (hr : rn c = true) (hw : w.length < 10000) (hf : f.length < 10000) (g4 : gFree (some o4) = true) (g5 : gFree (some o5) = true) :
    ((asgT (.nm 4) (.str (st [c])) (kEnv T (f ++ [w]) true o4 o5)).bind (exs F M kBody)) = .ok (.nx, kEnv T (f ++ [w ++ [c]]) true (some (.val (.str (st [c])))) (some (.val (.bl true)))) := by
  have e1 : strIn (st [c]) (st every) = true := by rw [← hr, ← sg1 c hc]; rfl
  have h1 : f.length + 1 < sizeLine := by unfold sizeLine; omega
  have h2 : w.length + 1 ≤ sizeLine := by unfold sizeLine; omega
  have e2 := atI_fin (f := f) (w := w)
  rw [List.length_append, List.length_singleton] at e2
  have e3 : ixN (f.length + 1) (((f.length + 1 : Nat) : Int) - 1) = some f.length := by
    unfold ixN
    rw [if_pos (by omega), if_pos (by omega)]
    simp
  simp at e2 e3
  simp [kBody, g4, g5, e1, e2, e3, h2]
theorem k_blank {F : Fn} {M : Nat} {T : D} {f : List (List Nat)} {ins : Bool} {c : Nat} {o4 o5 : Option S} (hc : c < 128) (hr : bk c = true) (g4 : gFree (some o4) = true) (g5 : gFree (some o5) = true) :
    ((asgT (.nm 4) (.str (st [c])) (kEnv T f ins o4 o5)).bind (exs F M kBody)) = .ok (.nx, kEnv T f false (some (.val (.str (st [c])))) (some (.val (.bl false)))) := by
  have e0 := sg3 c hc hr
  have e1 : strIn (st [c]) (st every) = false := by rw [← e0, ← sg1 c hc]; rfl
  have e2 := sg2 c hc
  rw [hr] at e2
  have e3 := shp_st (l := [c]) (by simpa using hc)
  rcases Bool.or_eq_true_iff.mp e2.symm with h | h
  · have h : st [c] = Str.ofString " " := of_decide_eq_true h
    rw [h] at e1 e3 ⊢
    simp [kBody, g4, g5, e1, e3, shp_nl]
  · have h : st [c] = Str.ofString "\n" := of_decide_eq_true h
    have n : ¬ (Str.ofString "\n" = Str.ofString " ") := by decide +kernel
    rw [h] at e1 e3 ⊢
    simp [kBody, g4, g5, e1, e3, shp_sp, n]
theorem k_new {F : Fn} {M : Nat} {T : D} {f : List (List Nat)} {ins : Bool} {c : Nat} {o4 o5 : Option S} (hc : c < 128) (hr : bk c = false) (hi : (rn c && ins) = false) (hf : f.length < 10000) (g4 : gFree (some o4) = true) (g5 : gFree (some o5) = true) :
    ((asgT (.nm 4) (.str (st [c])) (kEnv T f ins o4 o5)).bind (exs F M kBody)) = .ok (.nx, kEnv T (f ++ [[c]]) (rn c) (some (.val (.str (st [c])))) (some (.val (.bl (rn c))))) := by
  have e1 : strIn (st [c]) (st every) = rn c := by rw [← sg1 c hc]; rfl
  have e2 := sg2 c hc
  rw [hr] at e2
  have e3 := shp_st (l := [c]) (by simpa using hc)
  have h := e2.symm
  rw [Bool.or_eq_false_iff] at h
  have h1 : ¬ st [c] = Str.ofString " " := of_decide_eq_false h.1
  have h2 : ¬ st [c] = Str.ofString "\n" := of_decide_eq_false h.2
  have h3 : f.length < sizeLine := by unfold sizeLine; omega
  cases hrc : rn c with
  | false => simp [kBody, g4, g5, e1, e3, shp_sp, shp_nl, h1, h2, hrc, h3]
  | true =>
    rw [hrc] at hi
    have : ins = false := by simpa using hi
    subst this
    simp [kBody, g4, g5, e1, e3, shp_sp, shp_nl, h1, h2, hrc, h3]
/-- what the reader has found -/
def Seen (l : List Nat) (i : Nat) (found : List (List Nat)) (ins : Bool) : Prop := found.length ≤ i ∧ match ins with
  | false => found ++ go rn bk none (l.drop i) = go rn bk none l
  | true => ∃ f w, found = f ++ [w] ∧ w.length ≤ i ∧ f ++ go rn bk (some w) (l.drop i) = go rn bk none l
theorem tokens_law {M : Nat} {l : List Nat} (hl : l.length ≤ 2001) (hc : ∀ c ∈ l, c < 128) : runDef (mkF glo M ds8) M 6 b__law_tokens [.val (.str (st l))] = .ok (.own (.lst (txs (go rn bk none l))), [.val (.str (st l))]) := by
  have es : (mkF glo M ds8).call "_law_run_signs" [] = .ok (.val (.str (st every)), []) := by rw [at8__law_run_signs]; exact signs_ok
  obtain ⟨ρ', e, found, ins, o4, o5, rfl, hs, _⟩ := forR_gen (f := fun d ρ1 => (asgT (.nm 4) d ρ1).bind (exs (mkF glo M ds8) M kBody)) (l := l.map fun c => .str (st [c])) (k := 0) (ρ := kEnv (.str (st l)) [] false none none)
    (I := fun i ρ => ∃ found ins o4 o5, ρ = kEnv (.str (st l)) found ins o4 o5 ∧ Seen l i found ins ∧ gFree (some o4) = true ∧ gFree (some o5) = true)
    (fun i d ρ ex ⟨found, ins, o4, o5, e1, ⟨hn, hs⟩, g4, g5⟩ => by
      rw [Nat.zero_add] at hn hs ⊢
      subst e1
      rw [List.getElem?_map] at ex
      cases hx : l[i]? with
      | none => rw [hx] at ex; cases ex
      | some c =>
        rw [hx] at ex
        cases ex
        obtain ⟨hi, rfl⟩ := List.getElem?_eq_some_iff.mp hx
        have hcc := hc _ (List.getElem_mem hi)
        have hd : l.drop i = l[i] :: l.drop (i + 1) := List.drop_eq_getElem_cons hi
        generalize l[i] = c at *
        by_cases hA : (rn c && ins) = true
        · obtain ⟨h1, h2⟩ := Bool.and_eq_true_iff.mp hA
          subst h2
          obtain ⟨f, w, rfl, hw, hg⟩ := hs
          rw [List.length_append, List.length_singleton] at hn
          refine ⟨_, k_run hcc h1 (by omega) (by omega) g4 g5, f ++ [w ++ [c]], true, _, _, rfl, ⟨by simp; omega, f, w ++ [c], rfl, by simp; omega, ?_⟩, rfl, rfl⟩
          rw [hd, go, if_pos h1] at hg
          exact hg
        · have hA : (rn c && ins) = false := by simpa using hA
          by_cases hb : bk c = true
          · refine ⟨_, k_blank hcc hb g4 g5, found, false, _, _, rfl, ⟨by omega, ?_⟩, rfl, rfl⟩
            have hr := sg3 c hcc hb
            cases ins with
            | false =>
              have hs : found ++ go rn bk none (l.drop i) = _ := hs
              rw [hd, go, if_neg (by simp [hr]), if_pos hb] at hs
              exact hs
            | true =>
              obtain ⟨f, w, rfl, hw, hg⟩ := hs
              rw [hd, go, if_neg (by simp [hr]), if_pos hb] at hg
              show (f ++ [w]) ++ go rn bk none (l.drop (i + 1)) = _
              rw [← hg, List.append_assoc]
              rfl
          · have hb : bk c = false := by simpa using hb
            refine ⟨_, k_new hcc hb hA (by omega) g4 g5, found ++ [[c]], rn c, _, _, rfl, ⟨by simp; omega, ?_⟩, rfl, rfl⟩
            cases hr : rn c with
            | true =>
              rw [hr] at hA
              have : ins = false := by simpa using hA
              subst this
              have hs : found ++ go rn bk none (l.drop i) = _ := hs
              rw [hd, go, if_pos hr] at hs
              exact ⟨found, [c], rfl, by simp, hs⟩
            | false =>
              show (found ++ [[c]]) ++ go rn bk none (l.drop (i + 1)) = _
              cases ins with
              | false =>
                have hs : found ++ go rn bk none (l.drop i) = _ := hs
                rw [hd, go, if_neg (by simp [hr]), if_neg (by simp [hb])] at hs
                rw [← hs, List.append_assoc]
                rfl
              | true =>
                obtain ⟨f, w, rfl, hw, hg⟩ := hs
                rw [hd, go, if_neg (by simp [hr]), if_neg (by simp [hb])] at hg
                rw [← hg]
                simp)
    ⟨[], false, none, none, rfl, ⟨by simp, rfl⟩, rfl, rfl⟩
  rw [List.length_map, Nat.zero_add] at hs
  have hfin : found = go rn bk none l := by
    obtain ⟨_, hs⟩ := hs
    cases ins with
    | false =>
      have hs : found ++ go rn bk none (l.drop l.length) = _ := hs
      rw [List.drop_length] at hs
      simpa [go] using hs
    | true =>
      obtain ⟨f, w, rfl, hw, hg⟩ := hs
      rw [List.drop_length] at hg
      simpa [go] using hg
  subst hfin
  have ei : items (.str (st l)) = .ok (l.map fun c => .str (st [c])) := rfl
  have ef := for_ok (F := mkF glo M ds8) (N := M) (tg := .nm 4) (it := .seq (.var 0)) (b := kBody) (ρ := kEnv (.str (st l)) [] false none none) (ρ1 := kEnv (.str (st l)) [] false none none) (p := .val (.str (st l))) (by simp [-c53_items, ei]) e
  rw [show kEnv (.str (st l)) [] false none none = [some (.val (.str (st l))), some (.val (.str (st every))), some (.own false (.lst [])), some (.val (.bl false)), none, none] from rfl] at ef
  rw [b_tok]
  simp [Dv.envOf, es, dfl8, -r_ex_for_, ef]
end Wk01

set_option Elab.async false
set_option linter.all false
set_option maxRecDepth 100000
set_option maxHeartbeats 4000000
namespace Wk01
open PySem PySem.Spec PyProof.Rows L2 Dv K01
theorem inR_nat {n : Nat} (h : n ≤ 100000) : Dv.inR (n : Int) := ⟨Int.le_trans (b := 0) (by decide +kernel) (Int.natCast_nonneg n), Int.lt_of_lt_of_le (b := 100001) (by omega) (by decide +kernel)⟩
theorem bls_rep : ∀ n : Nat, bls (List.replicate n (D.bl true)) = some (List.replicate n true)
  | 0 => rfl
  | n + 1 => by
    show (bls (List.replicate n (D.bl true))).map _ = _
    rw [bls_rep n]
    rfl
theorem sign_n {l : List Nat} {j : Nat} (h : j < l.length) (hs : l.length ≤ 16777216) : dIdx (.str (st l)) (.int (j : Int)) = .ok (.str (st [l[j]])) := by
  have ha : atI l (j : Int) = some l[j] := by rw [atI_nat (by omega) (by omega)]; simpa using h
  have hz : (st l).length ≤ sizeLine := hs
  show need _ _ = _
  rw [need_true hz, st_cps, ha]
  rfl
/-- a loop that passes signs -/
theorem pass_loop {l : List Nat} {p : Nat → Bool} {t : Env' → Rs (Bool × Env')} {b : Env' → Rs (Fl × Env')} (E : Nat → Env') (ht : ∀ j (h : j < l.length), t (E j) = .ok (p l[j], E j)) (hend : t (E l.length) = .ok (false, E l.length)) (hb : ∀ j, j < l.length → b (E j) = .ok (.nx, E (j + 1))) :
    ∀ (k j N : Nat), l.length - j = k → k < N → j ≤ l.length → whileR t b N (E j) = .ok (.nx, E (j + ((l.drop j).takeWhile p).length))
  | k, j, 0, h1, h2, h3 => by omega
  | k, j, N + 1, h1, h2, h3 => by
    by_cases h : j < l.length
    · have hd : l.drop j = l[j] :: l.drop (j + 1) := List.drop_eq_getElem_cons h
      have e := ht j h
      show (t (E j)).bind _ = _
      rw [e]
      cases hp : p l[j] with
      | false =>
        show Rs.ok (Fl.nx, E j) = _
        rw [hd, List.takeWhile_cons, hp]
        rfl
      | true =>
        show (b (E j)).bind _ = _
        rw [hb j h]
        show whileR t b N (E (j + 1)) = _
        rw [pass_loop E ht hend hb (k - 1) (j + 1) N (by omega) (by omega) (by omega), hd, List.takeWhile_cons, hp]
        simp [Nat.add_assoc, Nat.add_comm 1]
    · have : j = l.length := by omega
      subst this
      show (t (E l.length)).bind _ = _
      rw [hend]
      simp
theorem rn_n {F : Fn} {M : Nat} {c : Nat} (h : c < 128) : runDef (mkF glo M ds11) M 1 b_is_run_sign [.val (.str (st [c]))] = .ok (.val (.bl (rn c)), [.val (.str (st [c]))]) := by
  have e : rn c = (strIn (st [c]) (Str.ofString "abcdefghijklmnopqrstuvwxyz") || (strIn (st [c]) (Str.ofString "ABCDEFGHIJKLMNOPQRSTUVWXYZ") || strIn (st [c]) (Str.ofString "0123456789"))) := by
    unfold rn
    rw [decide_eq_true h]
    rfl
  rw [e]
  cases h1 : strIn (st [c]) (Str.ofString "abcdefghijklmnopqrstuvwxyz") <;> cases h2 : strIn (st [c]) (Str.ofString "ABCDEFGHIJKLMNOPQRSTUVWXYZ") <;> cases h3 : strIn (st [c]) (Str.ofString "0123456789") <;>
    simp [b_is_run_sign, Dv.envOf, glo_SMALL, glo_CAPITALS, glo_DIGITS, h1, h2, h3]
theorem start_ok {M : Nat} {l : List Nat} {a : Nat} (hl : l.length ≤ 1000000) (hc : ∀ c ∈ l, c < 128) (hM : l.length < M) (ha : a ≤ l.length) :
    runDef (mkF glo M ds10) M 3 b_token_start [.val (.str (st l)), .val (.int (a : Int))] = .ok (.val (.int ((a + ((l.drop a).takeWhile bk).length : Nat) : Int)), [.val (.str (st l)), .val (.int (a : Int))]) := by
  have hz : l.length ≤ sizeLine := by unfold sizeLine; omega
  have hw := pass_loop (l := l) (p := bk) (t := evT (mkF glo M ds10) (.and_ (.cons (.cmp .Lt (.var 2) (.blt .len (.cons (.var 0) .nil))) (.cons (.cmp .In (.idx (.var 0) (.var 2)) (.glo "BETWEEN")) .nil))))
    (b := exs (mkF glo M ds10) M (.cons (.set 2 (.bin .Add (.var 2) (.cst (.int 1)))) .nil)) (fun j => [some (.val (.str (st l))), some (.val (.int (a : Int))), some (.val (.int (j : Int)))])
    (fun j h => by
      have e1 := sign_n h (by omega)
      have e2 : strIn (st [l[j]]) (Str.ofString " \n") = bk l[j] := by
        unfold bk
        rw [decide_eq_true (hc _ (List.getElem_mem h))]
        rfl
      cases hb : bk l[j] <;> simp [hz, h, glo_BETWEEN, -c49_dIdx, e1, e2, hb])
    (by simp [hz])
    (fun j h => by simp)
    (l.length - a) a M rfl (by omega) ha
  have ew : ex (mkF glo M ds10) M (.whl (.and_ (.cons (.cmp .Lt (.var 2) (.blt .len (.cons (.var 0) .nil))) (.cons (.cmp .In (.idx (.var 0) (.var 2)) (.glo "BETWEEN")) .nil))) (.cons (.set 2 (.bin .Add (.var 2) (.cst (.int 1)))) .nil)) _ = _ := hw
  simp [b_token_start, Dv.envOf, -r_ex_whl, ew]
theorem run_ok {M : Nat} {l : List Nat} {a : Nat} (hl : l.length ≤ 1000000) (hc : ∀ c ∈ l, c < 128) (hM : l.length < M) (ha : a ≤ l.length) :
    runDef (mkF glo M ds12) M 3 b_run_end [.val (.str (st l)), .val (.int (a : Int))] = .ok (.val (.int ((a + ((l.drop a).takeWhile rn).length : Nat) : Int)), [.val (.str (st l)), .val (.int (a : Int))]) := by
  have hz : l.length ≤ sizeLine := by unfold sizeLine; omega
  have hw := pass_loop (l := l) (p := rn) (t := evT (mkF glo M ds12) (.and_ (.cons (.cmp .Lt (.var 2) (.blt .len (.cons (.var 0) .nil))) (.cons (.val (.call "is_run_sign" (.cons (.idx (.var 0) (.var 2)) .nil))) .nil))))
    (b := exs (mkF glo M ds12) M (.cons (.set 2 (.bin .Add (.var 2) (.cst (.int 1)))) .nil)) (fun j => [some (.val (.str (st l))), some (.val (.int (a : Int))), some (.val (.int (j : Int)))])
    (fun j h => by
      have e1 := sign_n h (by omega)
      have e2 : (mkF glo M ds12).call "is_run_sign" [.val (.str (st [l[j]]))] = .ok (.val (.bl (rn l[j])), [.val (.str (st [l[j]]))]) := by
        rw [at12_is_run_sign]; exact rn_n (F := mkF glo M ds12) (hc _ (List.getElem_mem h))
      cases hb : rn l[j] <;> simp [hz, h, dfl12, -c49_dIdx, e1, e2, hb])
    (by simp [hz])
    (fun j h => by simp)
    (l.length - a) a M rfl (by omega) ha
  have ew : ex (mkF glo M ds12) M (.whl (.and_ (.cons (.cmp .Lt (.var 2) (.blt .len (.cons (.var 0) .nil))) (.cons (.val (.call "is_run_sign" (.cons (.idx (.var 0) (.var 2)) .nil))) .nil))) (.cons (.set 2 (.bin .Add (.var 2) (.cst (.int 1)))) .nil)) _ = _ := hw
  simp [b_run_end, Dv.envOf, -r_ex_whl, ew]
theorem end_ok {M : Nat} {l : List Nat} {a : Nat} (hl : l.length ≤ 1000000) (hc : ∀ c ∈ l, c < 128) (hM : l.length < M) (ha : a < l.length) :
    runDef (mkF glo M ds13) M 2 b_token_end [.val (.str (st l)), .val (.int (a : Int))] = .ok (.val (.int ((if rn l[a] then a + ((l.drop a).takeWhile rn).length else a + 1 : Nat) : Int)), [.val (.str (st l)), .val (.int (a : Int))]) := by
  have e1 := sign_n ha (by omega)
  have e2 : (mkF glo M ds13).call "is_run_sign" [.val (.str (st [l[a]]))] = .ok (.val (.bl (rn l[a])), [.val (.str (st [l[a]]))]) := by
    rw [at13_is_run_sign]; exact rn_n (F := mkF glo M ds12) (hc _ (List.getElem_mem ha))
  have e3 : (mkF glo M ds13).call "run_end" [.val (.str (st l)), .val (.int (a : Int))] = .ok (.val (.int ((a + ((l.drop a).takeWhile rn).length : Nat) : Int)), [.val (.str (st l)), .val (.int (a : Int))]) := by rw [at13_run_end]; exact run_ok hl hc hM (by omega)
  cases hb : rn l[a] <;> simp [b_token_end, Dv.envOf, dfl13, -c49_dIdx, e1, e2, e3, hb]
end Wk01

set_option Elab.async false
set_option linter.all false
set_option maxRecDepth 100000
set_option maxHeartbeats 4000000
namespace Wk01
open PySem PySem.Spec PyProof.Rows L2 Dv K01
theorem dw_drop {p : Nat → Bool} : ∀ (l : List Nat), l.dropWhile p = l.drop (l.takeWhile p).length
  | [] => rfl
  | c :: l => by
    cases h : p c with
    | true => simp [h, dw_drop l]
    | false => simp [h]
theorem tw_len {p : Nat → Bool} : ∀ (l : List Nat), (l.takeWhile p).length ≤ l.length
  | [] => Nat.le_refl _
  | c :: l => by
    cases h : p c with
    | true => simpa [h] using tw_len l
    | false => simp [h]
theorem tw_take {p : Nat → Bool} : ∀ (l : List Nat), l.take (l.takeWhile p).length = l.takeWhile p
  | [] => rfl
  | c :: l => by
    cases h : p c with
    | true => simp [h, tw_take l]
    | false => simp [h]
theorem dw_head {p : Nat → Bool} : ∀ (l : List Nat) (h : 0 < (l.dropWhile p).length), p (l.dropWhile p)[0] = false
  | [], h => by simp at h
  | c :: l, h => by
    cases hp : p c with
    | true =>
      have e : (c :: l).dropWhile p = l.dropWhile p := by simp [hp]
      have h2 : 0 < (l.dropWhile p).length := by rw [← e]; exact h
      simpa [e] using dw_head l h2
    | false => simpa [hp] using hp
def endOf (l : List Nat) (j : Nat) : Nat := if rn (l.getD j 0) then j + ((l.drop j).takeWhile rn).length else j + 1
theorem end_step {l : List Nat} {j : Nat} (h : j < l.length) (hb : bk l[j] = false) : j < endOf l j ∧ endOf l j ≤ l.length ∧ go rn bk none (l.drop j) = (l.drop j).take (endOf l j - j) :: go rn bk none (l.drop (endOf l j)) := by
  have hd : l.drop j = l[j] :: l.drop (j + 1) := List.drop_eq_getElem_cons h
  have hg : l.getD j 0 = l[j] := by simp [h]
  unfold endOf
  rw [hg]
  have hle := tw_len (p := rn) (l.drop (j + 1))
  rw [List.length_drop] at hle
  cases hr : rn l[j] with
  | true =>
    have ht : ((l.drop j).takeWhile rn) = l[j] :: (l.drop (j + 1)).takeWhile rn := by rw [hd, List.takeWhile_cons, if_pos hr]
    simp only [if_true]
    refine ⟨by rw [ht, List.length_cons]; omega, by rw [ht, List.length_cons]; omega, ?_⟩
    rw [show j + ((l.drop j).takeWhile rn).length - j = ((l.drop j).takeWhile rn).length by omega, tw_take, ht]
    rw [hd, go, if_pos hr, go_in, dw_drop, List.drop_drop, List.length_cons]
    rw [show j + 1 + ((l.drop (j + 1)).takeWhile rn).length = j + (((l.drop (j + 1)).takeWhile rn).length + 1) by omega]
    rfl
  | false =>
    simp only [Bool.false_eq_true, if_false]
    refine ⟨by omega, by omega, ?_⟩
    rw [show j + 1 - j = 1 by omega, hd, go, if_neg (by simp [hr]), if_neg (by simp [hb])]
    rfl
theorem skip_step (l : List Nat) (e : Nat) (he : e ≤ l.length) : e + ((l.drop e).takeWhile bk).length ≤ l.length ∧ go rn bk none (l.drop e) = go rn bk none (l.drop (e + ((l.drop e).takeWhile bk).length)) ∧ ∀ h : e + ((l.drop e).takeWhile bk).length < l.length, bk l[e + ((l.drop e).takeWhile bk).length] = false := by
  have hle := tw_len (p := bk) (l.drop e)
  rw [List.length_drop] at hle
  have hd : (l.drop e).dropWhile bk = l.drop (e + ((l.drop e).takeWhile bk).length) := by rw [dw_drop, List.drop_drop]
  refine ⟨by omega, by rw [go_skip run_blank, hd], fun h => ?_⟩
  have := dw_head (p := bk) (l.drop e) (by rw [hd, List.length_drop]; omega)
  simpa [hd] using this
def tT : Tx := .cmp .Lt (.var 2) (.blt .len (.cons (.var 0) .nil))
def tB : Sxs := (.cons 
    (.set 3 (.call "token_end" (.cons (.var 0) (.cons (.var 2) .nil)))) (.cons 
    (.expr (.chg .append 1 (.cons (.slc (.var 0) (.some (.var 2)) (.some (.var 3))) .nil))) (.cons 
    (.set 2 (.call "token_start" (.cons (.var 0) (.cons (.var 3) .nil)))) .nil)))
abbrev oEnv (l : List Nat) (found : List (List Nat)) (j : Nat) (o3 : Option S) : Env' := [some (.val (.str (st l))), some (.own false (.lst (txs found))), some (.val (.int (j : Int))), o3]
theorem tB_ok {M : Nat} {l : List Nat} {found : List (List Nat)} {j : Nat} {o3 : Option S} (hl : l.length ≤ 1000000) (hc : ∀ c ∈ l, c < 128) (hM : l.length < M) (h : j < l.length) (hb : bk l[j] = false) (g : gFree (some o3) = true) (hf : found.length ≤ j) :
    exs (mkF glo M ds14) M tB (oEnv l found j o3) = .ok (.nx, oEnv l (found ++ [(l.drop j).take (endOf l j - j)]) (endOf l j + ((l.drop (endOf l j)).takeWhile bk).length) (some (.val (.int (endOf l j : Nat))))) := by
  obtain ⟨h1, h2, _⟩ := end_step h hb
  have hg : l.getD j 0 = l[j] := by simp [h]
  have e1 : (mkF glo M ds14).call "token_end" [.val (.str (st l)), .val (.int (j : Int))] = .ok (.val (.int (endOf l j : Nat)), [.val (.str (st l)), .val (.int (j : Int))]) := by
    rw [at14_token_end]
    have := end_ok (M := M) hl hc hM h
    unfold endOf
    rw [hg]
    exact this
  have e2 : (mkF glo M ds14).call "token_start" [.val (.str (st l)), .val (.int (endOf l j : Nat))] = .ok (.val (.int ((endOf l j + ((l.drop (endOf l j)).takeWhile bk).length : Nat) : Int)), [.val (.str (st l)), .val (.int (endOf l j : Nat))]) := by
    rw [at14_token_start]; exact start_ok hl hc hM h2
  have e3 := cut_st (l := l) (Nat.le_of_lt h1) h2
  have hz : l.length ≤ sizeLine := by unfold sizeLine; omega
  have hf2 : found.length < sizeLine := by unfold sizeLine; omega
  generalize endOf l j = e at *
  generalize e + ((l.drop e).takeWhile bk).length = a at *
  generalize (l.drop j).take (e - j) = w at *
  simp [tB, dfl14, g, e1, e2, e3, hz, hf2]
theorem tok_loop {M : Nat} {l : List Nat} (hl : l.length ≤ 1000000) (hc : ∀ c ∈ l, c < 128) (hM : l.length < M) : ∀ (N j : Nat) (found : List (List Nat)) (o3 : Option S), l.length - j < N → j ≤ l.length → (∀ h : j < l.length, bk l[j] = false) → gFree (some o3) = true → found.length ≤ j →
    ∃ j' o', whileR (evT (mkF glo M ds14) tT) (exs (mkF glo M ds14) M tB) N (oEnv l found j o3) = .ok (.nx, oEnv l (found ++ go rn bk none (l.drop j)) j' o')
  | 0, j, _, _, h, _, _, _, _ => by omega
  | N + 1, j, found, o3, h1, h2, hb, g, hf => by
    have hz : l.length ≤ sizeLine := by unfold sizeLine; omega
    by_cases h : j < l.length
    · obtain ⟨g1, g2, g3⟩ := end_step h (hb h)
      obtain ⟨s1, s2, s3⟩ := skip_step l (endOf l j) g2
      obtain ⟨j', o', e⟩ := tok_loop hl hc hM N _ (found ++ [(l.drop j).take (endOf l j - j)]) (some (.val (.int (endOf l j : Nat)))) (by omega) s1 s3 rfl (by rw [List.length_append, List.length_singleton]; omega)
      refine ⟨j', o', ?_⟩
      have et : evT (mkF glo M ds14) tT (oEnv l found j o3) = .ok (true, oEnv l found j o3) := by simp [tT, hz, h]
      show (evT _ tT _).bind _ = _
      rw [et]
      show (exs _ M tB _).bind _ = _
      rw [tB_ok hl hc hM h (hb h) g hf]
      show whileR _ _ N _ = _
      rw [e, ← s2, g3, List.append_assoc]
      rfl
    · have : j = l.length := by omega
      subst this
      refine ⟨l.length, o3, ?_⟩
      have et : evT (mkF glo M ds14) tT (oEnv l found l.length o3) = .ok (false, oEnv l found l.length o3) := by simp [tT, hz]
      show (evT _ tT _).bind _ = _
      rw [et, List.drop_length]
      simp [go]
theorem tokens_ok {M : Nat} {l : List Nat} (hl : l.length ≤ 1000000) (hc : ∀ c ∈ l, c < 128) (hM : l.length < M) : runDef (mkF glo M ds14) M 4 b_tokens_of [.val (.str (st l))] = .ok (.val (.tup (txs (go rn bk none l))), [.val (.str (st l))]) := by
  obtain ⟨s1, s2, s3⟩ := skip_step l 0 (Nat.zero_le _)
  rw [Nat.zero_add] at s1 s2 s3
  have e0 : (mkF glo M ds14).call "token_start" [.val (.str (st l)), .val (.int 0)] = .ok (.val (.int ((((l.drop 0).takeWhile bk).length : Nat) : Int)), [.val (.str (st l)), .val (.int 0)]) := by
    rw [at14_token_start]
    have := start_ok (M := M) (a := 0) hl hc hM (Nat.zero_le _)
    rw [Nat.zero_add] at this
    exact this
  obtain ⟨j', o', e⟩ := tok_loop hl hc hM M _ [] none (by omega) s1 s3 rfl (by simp)
  rw [← s2, List.drop_zero, List.nil_append] at e
  rw [List.drop_zero] at e0
  have ew : ex (mkF glo M ds14) M (.whl tT tB) _ = _ := e
  rw [show oEnv l [] ((l.takeWhile bk).length) none = [some (.val (.str (st l))), some (.own false (.lst [])), some (.val (.int ((l.takeWhile bk).length : Nat))), none] from rfl] at ew
  rw [show b_tokens_of = .cons (.set 1 (.lst .nil)) (.cons (.set 2 (.call "token_start" (.cons (.var 0) (.cons (.cst (.int 0)) .nil)))) (.cons (.whl tT tB) (.cons (.ret (.blt .tuple (.cons (.var 1) .nil))) .nil))) from rfl]
  simp [Dv.envOf, dfl14, e0, -r_ex_whl, ew]
end Wk01

set_option Elab.async false
set_option linter.all false
set_option maxRecDepth 100000
set_option maxHeartbeats 4000000
namespace Wk01
open PySem PySem.Spec PyProof.Rows L2 Dv K01
def sps : List D := [.str "", .str " ", .str "\n", .str "  ", .str " \n ", .str "", .str "\n\n"]
def fins : List D := [.str "", .str " ", .str "\n", .str " \n"]
theorem sp_at {r : Int} (h0 : 0 ≤ r) (h1 : r < 7) : ∃ sp, atI sps r = some (.str (st sp)) ∧ (∀ c ∈ sp, c < 128) ∧ (∀ c ∈ sp, bk c = true) ∧ sp.length ≤ 3 := by
  have : r = 0 ∨ r = 1 ∨ r = 2 ∨ r = 3 ∨ r = 4 ∨ r = 5 ∨ r = 6 := by omega
  rcases this with rfl | rfl | rfl | rfl | rfl | rfl | rfl
  · exact ⟨[], by kernel_rfl, by decide +kernel, by decide +kernel, by decide⟩
  · exact ⟨[32], by kernel_rfl, by decide +kernel, by decide +kernel, by decide⟩
  · exact ⟨[10], by kernel_rfl, by decide +kernel, by decide +kernel, by decide⟩
  · exact ⟨[32, 32], by kernel_rfl, by decide +kernel, by decide +kernel, by decide⟩
  · exact ⟨[32, 10, 32], by kernel_rfl, by decide +kernel, by decide +kernel, by decide⟩
  · exact ⟨[], by kernel_rfl, by decide +kernel, by decide +kernel, by decide⟩
  · exact ⟨[10, 10], by kernel_rfl, by decide +kernel, by decide +kernel, by decide⟩
theorem fin_at {r : Int} (h0 : 0 ≤ r) (h1 : r < 4) : ∃ sp, atI fins r = some (.str (st sp)) ∧ (∀ c ∈ sp, c < 128) ∧ (∀ c ∈ sp, bk c = true) ∧ sp.length ≤ 3 := by
  have : r = 0 ∨ r = 1 ∨ r = 2 ∨ r = 3 := by omega
  rcases this with rfl | rfl | rfl | rfl
  · exact ⟨[], by kernel_rfl, by decide +kernel, by decide +kernel, by decide⟩
  · exact ⟨[32], by kernel_rfl, by decide +kernel, by decide +kernel, by decide⟩
  · exact ⟨[10], by kernel_rfl, by decide +kernel, by decide +kernel, by decide⟩
  · exact ⟨[32, 10], by kernel_rfl, by decide +kernel, by decide +kernel, by decide⟩
def sB : Sxs := (.cons 
    (.set 6 (.cmp .In (.idx (.var 5) (.cst (.int 0))) (.var 2))) (.cons 
    (.set 7 (.idx (.lst (.cons (.cst (.str "")) (.cons (.cst (.str " ")) (.cons (.cst (.str "\n")) (.cons (.cst (.str "  ")) (.cons (.cst (.str " \n ")) (.cons (.cst (.str "")) (.cons (.cst (.str "\n\n")) .nil)))))))) (.call "_law_draw" (.cons (.var 0) (.cons (.cst (.int 7)) .nil))))) (.cons 
    (.ite (.and_ (.cons (.cmp .Eq (.var 7) (.cst (.str ""))) (.cons (.val (.var 6)) (.cons (.val (.var 4)) .nil)))) (.cons 
    (.set 7 (.cst (.str "\n"))) .nil) .nil) (.cons 
    (.expr (.chg .append 3 (.cons (.bin .Add (.var 7) (.var 5)) .nil))) (.cons 
    (.set 4 (.var 6)) .nil)))))
abbrev gl (ps : List (List Nat × List Nat)) : List (List Nat) := ps.map fun p => p.1 ++ p.2
abbrev sEnv (d : D) (ts : List (List Nat)) (ps : List (List Nat)) (ins : Bool) (o5 o6 o7 : Option S) : Env' := [some (.own true d), some (.lck true (.lst (txs ts))), some (.val (.str (st every))), some (.own false (.lst (txs ps))), some (.val (.bl ins)), o5, o6, o7]
theorem sB_ok {M n : Nat} {d : D} {ts ps : List (List Nat)} {ins : Bool} {c : Nat} {w : List Nat} {o5 o6 o7 : Option S} (hd : DS n d) (hn : n < 2 ^ 40) (hc : c < 128) (hw : w.length ≤ 2000) (hp : ps.length ≤ 2000) (g5 : gFree (some o5) = true) (g6 : gFree (some o6) = true) (g7 : gFree (some o7) = true) :
    ∃ d' sp o7', ((asgT (.nm 5) (.str (st (c :: w))) (sEnv d ts ps ins o5 o6 o7)).bind (exs (mkF glo M ds15) M sB)) = .ok (.nx, sEnv d' ts (ps ++ [sp ++ (c :: w)]) (rn c) (some (.val (.str (st (c :: w))))) (some (.val (.bl (rn c)))) (some (.val o7'))) ∧
      (∀ c ∈ sp, c < 128) ∧ (∀ c ∈ sp, bk c = true) ∧ sp.length ≤ 3 ∧ (sp = [] → ins = true → rn c = false) ∧ DS (n + 1) d' := by
  obtain ⟨r, d1, e, hr0, hr1, h1⟩ := dr (m := 7) (at15__law_draw (M := M)) hd (by omega) (by omega) (by omega)
  obtain ⟨sp, ea, hs1, hs2, hs3⟩ := sp_at hr0 hr1
  unfold sps at ea
  have e1 : strIn (chr1 c) (st every) = rn c := sg1 c hc
  have hz : w.length + 1 ≤ sizeLine := by unfold sizeLine; omega
  have hz0 : w.length ≤ 16777215 := by omega
  have h7 : 7 ≤ sizeLine := by decide
  have hp2 : ps.length < sizeLine := by unfold sizeLine; omega
  have sh := shp_st hs1
  have s0 : shp (.str (Str.ofString "")) = true := by decide +kernel
  have hnl : (Str.ofString "\n") = st [10] := by decide +kernel
  have hz2 : sp.length + (w.length + 1) ≤ sizeLine := by unfold sizeLine; omega
  have hz3 : 1 + (w.length + 1) ≤ sizeLine := by unfold sizeLine; omega
  by_cases hsp : sp = []
  · have q : (st [] = Str.ofString "") := by decide +kernel
    have sh := shp_st (l := []) (by simp)
    subst hsp
    have hz2 : 0 + (w.length + 1) ≤ sizeLine := by unfold sizeLine; omega
    rw [← nil_st] at ea sh
    by_cases hA : (rn c && ins) = true
    · obtain ⟨a1, a2⟩ := Bool.and_eq_true_iff.mp hA
      subst a2
      rw [hnl] at ea
      exact ⟨d1, [10], .str (st [10]), by simp [sB, g5, g6, g7, e, dfl15, ea, e1, a1, hz, h7, hp2, sh, s0, q, hnl, hz3], by decide, by decide +kernel, by decide, by simp, h1⟩
    · have hA : (rn c && ins) = false := by simpa using hA
      rw [nil_st] at s0 ea sh
      refine ⟨d1, [], .str (st []), ?_, hs1, hs2, hs3, fun _ h => by rw [h] at hA; simpa using hA, h1⟩
      cases hrc : rn c with
      | false => simp [sB, g5, g6, g7, e, dfl15, nil_st, ea, e1, hrc, hz, h7, hp2, sh, hz2]
      | true =>
        rw [hrc] at hA
        have : ins = false := by simpa using hA
        subst this
        simp [sB, g5, g6, g7, e, dfl15, nil_st, ea, e1, hrc, hz, h7, hp2, sh, hz2]
  · have q : ¬ (st sp = Str.ofString "") := by rw [nil_st]; exact fun h => hsp (st_inj.mp h)
    exact ⟨d1, sp, .str (st sp), by simp [sB, g5, g6, g7, e, dfl15, ea, e1, hz, h7, hp2, sh, s0, q, hz2], hs1, hs2, hs3, fun h => absurd h hsp, h1⟩
end Wk01

set_option Elab.async false
set_option linter.all false
set_option maxRecDepth 2000
set_option maxHeartbeats 4000000
namespace Wk01
open PySem PySem.Spec PyProof.Rows L2 Dv K01
theorem same_okF {F : Fn} {M : Nat} {a : List (List Nat)} (hl : a.length ≤ 2000) (hc : ∀ w ∈ a, ∀ c ∈ w, c < 128) : runDef (F) M 3 b__law_same_tokens [.val (.tup (txs a)), .own (.lst (txs a))] = .ok (.val (.bl true), [.val (.tup (txs a)), .own (.lst (txs a))]) := by
  have la : (txs a).length = a.length := by simp
  have inr : Dv.inR ((txs a).length : Int) := inR_nat (by omega)
  have hi : ∀ (U : D) (T : List D), Dv.inR (T.length : Int) → evi (F) (.rng (.blt .len (.cons (.var 1) .nil))) [some (.val U), some (.own true (.lst T)), none] = .ok ((rng 0 T.length, .val .non), [some (.val U), some (.own true (.lst T)), none]) := fun U T h => by simp [h]
  obtain ⟨out, ρ2, ⟨rfl, rfl⟩, ec⟩ := comp_gen (F := F) (elt := .and_ (.cons (.isi .str (.idx (.var 0) (.var 2))) (.cons (.cmp .Eq (.idx (.var 0) (.var 2)) (.idx (.var 1) (.var 2))) .nil))) (tg := .nm 2)
    (it := .rng (.blt .len (.cons (.var 1) .nil))) (ifs := .none) (own := [2]) (ρ := [some (.val (.tup (txs a))), some (.own true (.lst (txs a))), none]) (l := rng 0 (txs a).length) (p := .val .non) (ρ1 := [some (.val (.tup (txs a))), some (.own true (.lst (txs a))), none])
    (hi _ _ inr)
    (fun i out ρ => ρ = [some (.val (.tup (txs a))), some (.own true (.lst (txs a))), none] ∧ out = List.replicate i (.bl true))
    (fun i x out ρ ex _ ⟨e1, e2⟩ => by
      subst e1 e2
      rw [la] at ex
      have hi : i < (rng 0 a.length).length := (List.getElem?_eq_some_iff.mp ex).1
      have hi2 : i < a.length := by simpa [rng] using hi
      obtain rfl : x = .int (0 + (i : Nat)) := by
        have : (rng 0 a.length)[i]? = some (.int (0 + (i : Nat))) := by simp [rng, hi2]
        rw [this] at ex
        exact (Option.some.inj ex).symm
      have ha : atI (txs a) (i : Int) = some (.str (st a[i])) := by
        rw [atI_nat (by omega) (by simpa using hi2)]
        simp [txs, hi2]
      have hs := shp_st (l := a[i]) (hc _ (List.getElem_mem hi2))
      refine ⟨some (.bl true), [some (.val (.tup (txs a))), some (.own true (.lst (txs a))), some (.val (.int (0 + (i : Nat))))], ?_, by simp, ?_⟩
      · simp [turnR, ha, hs]
      · simp [List.replicate_succ'])
    ⟨by simp, rfl⟩
  have hlen : (rng 0 (txs a).length).length = a.length := by simp [rng]
  rw [hlen] at ec
  have hsz : a.length < sizeLine := by unfold sizeLine; omega
  have sn : shp (.int (a.length : Int)) = true := rfl
  simp [b__law_same_tokens, Dv.envOf, -r_ev_comp, ec, hsz, bls_rep]
end Wk01

set_option Elab.async false
set_option linter.all false
set_option maxRecDepth 100000
set_option maxHeartbeats 4000000
namespace Wk01
open PySem PySem.Spec PyProof.Rows L2 Dv K01
theorem b_spr : b__law_spread = .cons (.set 2 (.call "_law_run_signs" .nil)) (.cons (.set 3 (.lst .nil)) (.cons (.set 4 (.cst (.bl false))) (.cons (.for_ (.nm 5) (.seq (.var 1)) sB) (.cons (.ret (.bin .Add (.met .join (.cst (.str "")) (.cons (.var 3) .nil)) (.idx (.lst (.cons (.cst (.str "")) (.cons (.cst (.str " ")) (.cons (.cst (.str "\n")) (.cons (.cst (.str " \n")) .nil))))) (.call "_law_draw" (.cons (.var 0) (.cons (.cst (.int 4)) .nil)))))) .nil)))) := rfl
theorem spread_ok {M n : Nat} {d : D} {ts : List (List Nat)} (hd : DS n d) (hn : n < 2 ^ 30) (ht : ∀ w ∈ ts, Tok rn bk w ∧ ∀ c ∈ w, c < 128) (hw : ∀ w ∈ ts, w.length ≤ 961) (hl : ts.length ≤ 960) :
    ∃ l d', runDef (mkF glo M ds15) M 8 b__law_spread [.own d, .own (.lst (txs ts))] = .ok (.val (.str (st l)), [.own d', .own (.lst (txs ts))]) ∧ go rn bk none l = ts ∧ l.length ≤ 1000000 ∧ (∀ c ∈ l, c < 128) ∧ DS (n + 2000) d' := by
  have es : (mkF glo M ds15).call "_law_run_signs" [] = .ok (.val (.str (st every)), []) := by rw [at15__law_run_signs]; exact signs_ok
  obtain ⟨ρ', e, d2, ps, o5, o6, o7, rfl, hm, hg, hp, hd2, _⟩ := forR_gen (f := fun d ρ1 => (asgT (.nm 5) d ρ1).bind (exs (mkF glo M ds15) M sB)) (l := txs ts) (k := 0) (ρ := sEnv d ts [] false none none none)
    (I := fun i ρ => ∃ d' ps o5 o6 o7, ρ = sEnv d' ts (gl ps) (lastR rn false ps) o5 o6 o7 ∧ ps.map (·.2) = ts.take i ∧ Good rn bk false ps ∧ (∀ p ∈ ps, p.1.length ≤ 3 ∧ (∀ c ∈ p.1, c < 128)) ∧ DS (n + i) d' ∧ gFree (some o5) = true ∧ gFree (some o6) = true ∧ gFree (some o7) = true)
    (fun i x ρ ex ⟨d', ps, o5, o6, o7, e1, hm, hg, hp, hd', g5, g6, g7⟩ => by
      rw [Nat.zero_add] at hm hd' ⊢
      subst e1
      rw [List.getElem?_map] at ex
      cases hx : ts[i]? with
      | none => rw [hx] at ex; cases ex
      | some w =>
        rw [hx] at ex
        cases ex
        obtain ⟨hi, rfl⟩ := List.getElem?_eq_some_iff.mp hx
        have hmem := List.getElem_mem hi
        obtain ⟨htok, hch⟩ := ht _ hmem
        have hlen := hw _ hmem
        have htk : ts.take (i + 1) = ts.take i ++ [ts[i]] := by rw [List.take_succ, hx]; rfl
        have hpl : ps.length ≤ 960 := by
          have := congrArg List.length hm
          rw [List.length_map, List.length_take] at this
          omega
        generalize ts[i] = w at *
        obtain ⟨c, w', rfl⟩ : ∃ c w', w = c :: w' := by
          rcases htok with ⟨c, r, rfl, _⟩ | ⟨c, rfl, _⟩
          · exact ⟨c, r, rfl⟩
          · exact ⟨c, [], rfl⟩
        obtain ⟨d3, sp, o7', e2, s1, s2, s3, s4, hd3⟩ := sB_ok (M := M) (ts := ts) (ps := gl ps) (ins := lastR rn false ps) (w := w') hd' (by omega) (hch c List.mem_cons_self) (by rw [List.length_cons] at hlen; omega) (by rw [List.length_map]; omega) g5 g6 g7
        refine ⟨_, e2, d3, ps ++ [(sp, c :: w')], some (.val (.str (st (c :: w')))), some (.val (.bl (rn c))), some (.val o7'), ?_, ?_, ?_, ?_, hd3, rfl, rfl, rfl⟩
        · rw [lastR_snoc]
          simp [gl, isR]
        · rw [List.map_append, hm, htk]
          rfl
        · exact good_snoc s2 htok ps false hg fun h1 h2 => s4 h1 h2
        · intro p hp2
          rcases List.mem_append.mp hp2 with hp2 | hp2
          · exact hp p hp2
          · simp at hp2; subst hp2; exact ⟨s3, s1⟩)
    ⟨d, [], none, none, none, rfl, rfl, trivial, by simp, hd, rfl, rfl, rfl⟩
  rw [List.length_map, Nat.zero_add] at hm hd2
  rw [List.take_length] at hm
  have hpl : ps.length = ts.length := by have := congrArg List.length hm; rw [List.length_map] at this; exact this
  obtain ⟨r, d3, e3, hr0, hr1, h3⟩ := dr (m := 4) (at15__law_draw (M := M)) hd2 (by omega) (by omega) (by omega)
  obtain ⟨fi, ef, f1, f2, f3⟩ := fin_at hr0 hr1
  unfold fins at ef
  have hfl : (gl ps).flatten.length ≤ 964 * ps.length := by
    have hq : ∀ p ∈ ps, p.1.length + p.2.length ≤ 964 := fun p hp2 => by
      have h1 := (hp p hp2).1
      have h2 := hw p.2 (by rw [← hm]; exact List.mem_map_of_mem hp2)
      omega
    clear hm hg e hpl ef hp
    induction ps with
    | nil => simp
    | cons p t ih =>
      have h1 := hq p List.mem_cons_self
      have h2 := ih fun x hx => hq x (List.mem_cons_of_mem _ hx)
      show (p.1 ++ p.2 ++ (gl t).flatten).length ≤ _
      rw [List.length_append, List.length_append, List.length_cons]
      omega
  have ej := join_ok (ls := gl ps) (by omega)
  have hfc : ∀ c ∈ (gl ps).flatten, c < 128 := fun c hc => by
    obtain ⟨l, h1, h2⟩ := List.mem_flatten.mp hc
    obtain ⟨p, h4, rfl⟩ := List.mem_map.mp h1
    rcases List.mem_append.mp h2 with h2 | h2
    · exact (hp p h4).2 c h2
    · exact (ht p.2 (by rw [← hm]; exact List.mem_map_of_mem h4)).2 c h2
  have efl := (go_flat (run := rn) (blank := bk) run_blank f2 ps false hg).1
  rw [hm] at efl
  refine ⟨flat ps ++ fi, d3, ?_, efl, ?_, ?_, h3.mono (by omega)⟩
  · have ef2 := for_ok (F := mkF glo M ds15) (N := M) (tg := .nm 5) (it := .seq (.var 1)) (b := sB) (ρ := [some (.own true d), some (.own true (.lst (txs ts))), some (.val (.str (st every))), some (.own false (.lst [])), some (.val (.bl false)), none, none, none])
      (ρ1 := [some (.own true d), some (.own true (.lst (txs ts))), some (.val (.str (st every))), some (.own false (.lst [])), some (.val (.bl false)), none, none, none]) (p := .at_ 1) (by simp) e
    have hz : (gl ps).flatten.length + fi.length ≤ sizeLine := by unfold sizeLine; omega
    have h4 : 4 ≤ sizeLine := by decide
    have hfe : (gl ps).flatten = flat ps := rfl
    rw [hfe] at ej hz
    rw [b_spr]
    clear e hfl hfe
    generalize gl ps = G at ej ef2
    generalize flat ps = t at *
    simp [Dv.envOf, es, dfl15, -r_ex_for_, ef2, -c82_dMe, ej, e3, ef, hz, h4]
  · rw [List.length_append]
    have hfe : (gl ps).flatten = flat ps := rfl
    rw [← hfe]
    omega
  · intro c hc
    rcases List.mem_append.mp hc with hc | hc
    · exact hfc c hc
    · exact f1 c hc
end Wk01

set_option Elab.async false
set_option linter.all false
set_option maxRecDepth 100000
set_option maxHeartbeats 4000000
namespace Wk01
open PySem PySem.Spec PyProof.Rows L2 Dv K01
theorem cl {F : Fn} {f : Str} {np : Nat} {r : Rs (Re × List A)} {g : List A → Rs (Re × List A)} (h : F.call f = fun as => if as.length = np then g as else .bad) {as : List A} (hl : as.length = np) (e : g as = r) : F.call f as = r := by
  rw [h]
  show (if as.length = np then g as else .bad) = r
  rw [if_pos hl, e]
theorem law_eval {F : Fn} {M : Nat} {ns : List Int} {d0 d1 d2 d3 : D} {a b s : List Nat} {TA TB : List D} (hdfl : ∀ f n, F.dfl f n = [])
    (hb : F.call "_law_begin" [.val (.scr ns)] = .ok (.own d0, [.val (.scr ns)]))
    (h1 : F.call "_law_text" [.own d0] = .ok (.val (.str (st a)), [.own d1])) (h2 : F.call "_law_text" [.own d1] = .ok (.val (.str (st b)), [.own d2]))
    (ta : F.call "_law_tokens" [.val (.str (st a))] = .ok (.own (.lst TA), [.val (.str (st a))])) (tb : F.call "_law_tokens" [.val (.str (st b))] = .ok (.own (.lst TB), [.val (.str (st b))]))
    (oa : F.call "tokens_of" [.val (.str (st a))] = .ok (.val (.tup TA), [.val (.str (st a))])) (ob : F.call "tokens_of" [.val (.str (st b))] = .ok (.val (.tup TB), [.val (.str (st b))]))
    (hs : F.call "_law_spread" [.own d2, .own (.lst TA)] = .ok (.val (.str (st s)), [.own d3, .own (.lst TA)])) (os : F.call "tokens_of" [.val (.str (st s))] = .ok (.val (.tup TA), [.val (.str (st s))]))
    (oc : F.call "tokens_of" [.val (.str (st (a ++ 59 :: b)))] = .ok (.val (.tup (TA ++ .str (st [59]) :: TB)), [.val (.str (st (a ++ 59 :: b)))]))
    (same : ∀ T, (T = TA ∨ T = TB ∨ T = TA ++ .str (st [59]) :: TB) → F.call "_law_same_tokens" [.val (.tup T), .own (.lst T)] = .ok (.val (.bl true), [.val (.tup T), .own (.lst T)]))
    (l1 : a.length + 1 ≤ sizeLine) (l2 : a.length + 1 + b.length ≤ sizeLine) (l3 : TA.length + 1 ≤ sizeLine) (l4 : TA.length + 1 + TB.length ≤ sizeLine) :
    runDef F M 6 b_law [.val (.scr ns)] = .ok (.val (.bl true), [.val (.scr ns)]) := by
  have e0 : (Str.ofString ";") = st [59] := by decide +kernel
  have s1 := same TA (.inl rfl)
  have s2 := same TB (.inr (.inl rfl))
  have s3 := same _ (.inr (.inr rfl))
  have k1 : 1 ≤ sizeLine := by decide
  simp [b_law, Dv.envOf, hdfl, hb, h1, h2, ta, tb, oa, ob, hs, os, e0, oc, s1, s2, s3, l1, l2, l3, l4, k1]
theorem pure_law (ns : List Int) (hl : ns.length ≤ 63) (hbits : ∀ z ∈ ns, PySem.Builtin.Int.intBits z ≤ 1048576) : ∃ M as', (Dv.mkF glo M ds17).call "law" [.val (.scr ns)] = .ok (.val (.bl true), as') := by
  refine ⟨1000001, [.val (.scr ns)], ?_⟩
  have D0 : DS 0 (.lst [.lst (ns.map .int), .int 0, .int 0, .int 7, .int 3]) := ⟨ns, 0, 0, 7, rfl, hbits, hl, by omega, by omega, by omega, big_pos, by omega, by omega⟩
  obtain ⟨a, d1, t1, la, ca, D1⟩ := text_ok (M := 1000001) D0 (by omega)
  obtain ⟨b, d2, t2, lb, cb, D2⟩ := text_ok (M := 1000001) D1 (by omega)
  have ta := tokens_law (M := 1000001) (l := a) (by omega) ca
  have tb := tokens_law (M := 1000001) (l := b) (by omega) cb
  have ga := go_len (run := rn) (blank := bk) a none 0 (fun w e => by cases e)
  have gb := go_len (run := rn) (blank := bk) b none 0 (fun w e => by cases e)
  have ka := go_tok (run := rn) (blank := bk) (Q := fun c => c < 128) a none (fun w e => by cases e) ca
  have kb := go_tok (run := rn) (blank := bk) (Q := fun c => c < 128) b none (fun w e => by cases e) cb
  have la2 : (go rn bk none a).length ≤ 960 := by have := ga.1; simp at this; omega
  have lb2 : (go rn bk none b).length ≤ 960 := by have := gb.1; simp at this; omega
  obtain ⟨s, d3, t3, gs, ls, cs, D3⟩ := spread_ok (M := 1000001) D2 (by omega) ka (fun w hw => by have := ga.2 w hw; omega) la2
  have oa := tokens_ok (M := 1000001) (l := a) (by omega) ca (by omega)
  have ob := tokens_ok (M := 1000001) (l := b) (by omega) cb (by omega)
  have os := tokens_ok (M := 1000001) (l := s) (by omega) cs (by omega)
  rw [gs] at os
  have r59 : rn 59 = false := by decide +kernel
  have b59 : bk 59 = false := by decide +kernel
  have cc : ∀ c ∈ a ++ 59 :: b, c < 128 := fun c hc => by
    rcases List.mem_append.mp hc with hc | hc
    · exact ca c hc
    · rcases List.mem_cons.mp hc with rfl | hc
      · decide
      · exact cb c hc
  have lc : (a ++ 59 :: b).length ≤ 1921 := by rw [List.length_append, List.length_cons]; omega
  have oc := tokens_ok (M := 1000001) (l := a ++ 59 :: b) (by omega) cc (by omega)
  rw [go_cut r59 b59] at oc
  have ec : txs (go rn bk none a ++ [59] :: go rn bk none b) = txs (go rn bk none a) ++ .str (st [59]) :: txs (go rn bk none b) := by simp
  have sm : ∀ (x : List (List Nat)), x.length ≤ 2000 → (∀ w ∈ x, ∀ c ∈ w, c < 128) → (mkF glo 1000001 ds16).call "_law_same_tokens" [.val (.tup (txs x)), .own (.lst (txs x))] = .ok (.val (.bl true), [.val (.tup (txs x)), .own (.lst (txs x))]) := fun x h1 h2 => cl at16__law_same_tokens rfl (same_okF h1 h2)
  have fin := law_eval (F := mkF glo 1000001 ds16) (M := 1000001) (ns := ns) (TA := txs (go rn bk none a)) (TB := txs (go rn bk none b)) dfl16
    (cl at16__law_begin rfl (begin_ok hl)) (cl at16__law_text rfl t1) (cl at16__law_text rfl t2) (cl at16__law_tokens rfl ta) (cl at16__law_tokens rfl tb)
    (cl at16_tokens_of rfl oa) (cl at16_tokens_of rfl ob) (cl at16__law_spread rfl t3) (cl at16_tokens_of rfl os) (by rw [← ec]; exact cl at16_tokens_of rfl oc)
    (fun T hT => by
      rcases hT with rfl | rfl | rfl
      · exact sm _ (by omega) fun w hw => (ka w hw).2
      · exact sm _ (by omega) fun w hw => (kb w hw).2
      · rw [← ec]
        refine sm _ (by rw [List.length_append, List.length_cons]; omega) fun w hw => ?_
        rcases List.mem_append.mp hw with hw | hw
        · exact (ka w hw).2
        · rcases List.mem_cons.mp hw with rfl | hw
          · decide
          · exact (kb w hw).2)
    (by unfold sizeLine; omega) (by unfold sizeLine; omega) (by rw [List.length_map]; unfold sizeLine; omega) (by rw [List.length_map, List.length_map]; unfold sizeLine; omega)
  exact cl (F := mkF glo 1000001 ds17) (funext fun as => mkF_self as) rfl fin
end Wk01

open PySem PySem.W PySem.Calls PyProof.Rows
theorem PySem.Challenge.cw_cedewheel_k01_tokens_holds : PySem.Challenge.rw_cedewheel_k01_tokens.Holds := by
  w_on; o_law
  refine HandSHeadRun.head_any (r := OpenLaw.row PySem.Challenge.rw_cedewheel_k01_tokens) (q := view (OpenLaw.row PySem.Challenge.rw_cedewheel_k01_tokens).prog [22]) (H := Wk01.hk) (ob := Wk01.ob) (M := 20000) (loose := Wk01.names) (d := HandSHeadRun.topDef (OpenLaw.row PySem.Challenge.rw_cedewheel_k01_tokens).prog 22) (kwd := []) Wk01.ob_eq
    (by kernel_rfl) (fun s => by kernel_rfl) Wk01.run (by kernel_rfl) (by kernel_rfl) (by kernel_rfl) (by rfl) (by first | assumption | decide +kernel) (by decide +kernel) ⟨rfl, rfl, rfl, rfl, rfl, by decide +kernel⟩ ?hw ?hc
  case hw => w_witness2
  case hc =>
    refine Dv.walk_ofEB (l := PySem.Challenge.rw_cedewheel_k01_tokens) (n := 63) (k := 17) (x := "script") (CX := fun w => L2.CX (PySem.Challenge.rw_cedewheel_k01_tokens).prog w) rfl (by decide) (by kernel_rfl) ⟨rfl, by decide, by decide⟩ ?F (fun w H s e s' z => Dv.cx_none _ w H s e s' z)
    intro w mg fa h Y G hmg0
    obtain ⟨K, KX, c⟩ := Y
    have hmg : mg ("law" : PySem.Str) = some (.ref fa) := by
      have e : (HandSHeadRun.topDef (OpenLaw.row PySem.Challenge.rw_cedewheel_k01_tokens).prog 22).name = ("law" : PySem.Str) := by kernel_rfl
      rw [← e]
      exact hmg0
    obtain ⟨fd, hb, hF⟩ := Wk01.facts (P := (PySem.Challenge.rw_cedewheel_k01_tokens).prog) (w := w) KX G hmg c
    refine ⟨K, fd, _, KX, hb, fun H a ns hl hbits hS => ?_, hF⟩
    obtain ⟨M, as', e⟩ := Wk01.pure_law ns hl hbits
    exact ⟨M, Dv.sp_law hS e⟩

