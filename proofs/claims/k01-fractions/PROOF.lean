import PyProof.Rows.All
import Wide.All
import OpenK.AllK
import Wide.FinOn
import PyProof.ReprReads
import HandS.ForMost
import HandS.ForExc
import HandS.Wide
import HandS.ExcCtx
import HandS.ExcIs
import HandS.Lambda
import HandS.HotCalls
import HandS.Defaults
import HandS.TupAny
import HandS.Deep
import HandS.Zip
import HandS.ExcOwn
import HandS.NestedK
import HandS.EndTab
import HandS.HeadHook4
import HandS.Head2
import HandS.HeadEnd
import PyProof.ReprLen
import PySem.Challenge.RW_slipward_k01_fractions
set_option Elab.async false
set_option linter.all false
set_option maxRecDepth 100000
set_option maxHeartbeats 4000000
/-! the pure layer: data as trees, a store of lists, predicate transformers over both; each rule is shown sound over the hand layer -/
namespace PL
open PySem PySem.Spec PyProof.Rows L2 -- the layers

/-! ## data -/
/-- data: tuples by value; lists, dicts, instances and defs by their address -/
inductive D where
  | non
  | bl (b : Bool)
  | int (i : Int)
  | str (x : Str)
  | tup (xs : List D)
  | rol (xs : List D)
  | ref (a : Addr)
  | ty (n : String)

/-- a list that nobody writes: it is known to the object, or stands in the written part -/
def Rol (K : PySem.W.Frag) (H : Hp) (a : Addr) (vs : List V) : Prop :=
  (∃ o, H a = some (.frz o (.lst vs))) ∨
    ∃ (o : Obj) (its : Array Value) (n : Nat), K.lookup a = some o ∧ o.cls = .type "list" ∧ o.dict = none ∧ o.data = .seq its n ∧ its.size ≤ sizeLine ∧ Vals vs its.toList
theorem Rol.sq {K : PySem.W.Frag} {H : Hp} {a : Addr} {vs : List V} (h : Rol K H a vs) : SqL K H a vs := by
  rcases h with h | h
  · exact .inl (.inr h)
  · exact .inr h

mutual
/-- the value v of the hand layer bears the datum -/
def RV (K : PySem.W.Frag) (H : Hp) : D → V → Prop
  | .non, v => v = .non
  | .bl b, v => v = .bl b
  | .int i, v => v = .int i
  | .str x, v => v = .str x
  | .tup ds, v => ∃ a vs, v = .ref a ∧ SqT K H a vs ∧ RVs K H ds vs
  | .rol ds, v => ∃ a vs, v = .ref a ∧ Rol K H a vs ∧ RVs K H ds vs
  | .ref a, v => v = .ref a
  | .ty n, v => v = .ty n
def RVs (K : PySem.W.Frag) (H : Hp) : List D → List V → Prop
  | [], vs => vs = []
  | d :: ds, vs => ∃ v r, vs = v :: r ∧ RV K H d v ∧ RVs K H ds r
end

/-- tuples and what nobody writes stay -/
structure Keep (K : PySem.W.Frag) (H H' : Hp) : Prop where
  tup : ∀ a vs, SqT K H a vs → SqT K H' a vs
  frz : ∀ a o u, H a = some (.frz o u) → H' a = some (.frz o u)
theorem Keep.refl {K : PySem.W.Frag} {H : Hp} : Keep K H H := ⟨fun _ _ h => h, fun _ _ _ h => h⟩
theorem Keep.trans {K : PySem.W.Frag} {H H1 H2 : Hp} (a : Keep K H H1) (b : Keep K H1 H2) : Keep K H H2 :=
  ⟨fun c vs h => b.tup c vs (a.tup c vs h), fun c o u h => b.frz c o u (a.frz c o u h)⟩
theorem Keep.rol {K : PySem.W.Frag} {H H' : Hp} (k : Keep K H H') {a : Addr} {vs : List V} (h : Rol K H a vs) : Rol K H' a vs := by
  rcases h with ⟨o, h⟩ | h
  · exact .inl ⟨o, k.frz _ _ _ h⟩
  · exact .inr h
mutual
theorem RV.keep {K : PySem.W.Frag} {H H' : Hp} (k : Keep K H H') : ∀ (d : D) (v : V), RV K H d v → RV K H' d v
  | .non, _, h => h
  | .bl _, _, h => h
  | .int _, _, h => h
  | .str _, _, h => h
  | .ref _, _, h => h
  | .ty _, _, h => h
  | .tup ds, v, h => by
    unfold RV at h ⊢
    obtain ⟨a, vs, e, s, r⟩ := h
    exact ⟨a, vs, e, k.tup _ _ s, RVs.keep k ds vs r⟩
  | .rol ds, v, h => by
    unfold RV at h ⊢
    obtain ⟨a, vs, e, s, r⟩ := h
    exact ⟨a, vs, e, k.rol s, RVs.keep k ds vs r⟩
theorem RVs.keep {K : PySem.W.Frag} {H H' : Hp} (k : Keep K H H') : ∀ (ds : List D) (vs : List V), RVs K H ds vs → RVs K H' ds vs
  | [], _, h => h
  | d :: ds, vs, h => by
    unfold RVs at h ⊢
    obtain ⟨v, r, e, h1, h2⟩ := h
    exact ⟨v, r, e, RV.keep k d v h1, RVs.keep k ds r h2⟩
end
theorem Same.keep {K : PySem.W.Frag} {H H' : Hp} (s : Same H H') : Keep K H H' := by
  refine ⟨fun a vs h => ?_, fun a o u h => s _ _ h⟩
  rcases h with (h | ⟨o, h⟩) | h
  · exact .inl (.inl (s _ _ h))
  · exact .inl (.inr ⟨o, s _ _ h⟩)
  · exact .inr h
theorem same_new {H : Hp} {p : Addr} {o : HO} (n : H p = none) : Same H (upd H p o) := fun b u e => by
  rw [upd_ne (ne_of_none e n)]
  exact e
theorem Keep.new {K : PySem.W.Frag} {H : Hp} {p : Addr} {o : HO} (n : H p = none) : Keep K H (upd H p o) := Same.keep (same_new n)
/-- a list, a dict, an instance is written -/
theorem Keep.mut {K : PySem.W.Frag} {H : Hp} {p : Addr} {o u : HO} (n : H p = some u) (h1 : ∀ xs, u ≠ .tup xs) (h2 : ∀ ob w, u ≠ .frz ob w) : Keep K H (upd H p o) := by
  have ne : ∀ {a : Addr} {w : HO}, H a = some w → w ≠ u → a ≠ p := fun {a w} e q z => by
    rw [z, n] at e
    exact q (Option.some.inj e).symm
  refine ⟨fun a vs h => ?_, fun a ob w h => ?_⟩
  · rcases h with (h | ⟨ob, h⟩) | h
    · exact .inl (.inl (by rw [upd_ne (ne h (fun z => h1 _ z.symm))]; exact h))
    · exact .inl (.inr ⟨ob, by rw [upd_ne (ne h (fun z => h2 _ _ z.symm))]; exact h⟩)
    · exact .inr h
  · rw [upd_ne (ne h (fun z => h2 _ _ z.symm))]
    exact h

theorem RVs.nil_iff {K : PySem.W.Frag} {H : Hp} {vs : List V} : RVs K H [] vs ↔ vs = [] := by unfold RVs; exact Iff.rfl
theorem RVs.length {K : PySem.W.Frag} {H : Hp} : ∀ {ds : List D} {vs : List V}, RVs K H ds vs → ds.length = vs.length
  | [], vs, h => by unfold RVs at h; subst h; rfl
  | d :: ds, vs, h => by
    unfold RVs at h
    obtain ⟨v, r, e, _, h2⟩ := h
    subst e
    simp [RVs.length h2]
theorem RVs.get {K : PySem.W.Frag} {H : Hp} : ∀ {ds : List D} {vs : List V} {i : Nat} {d : D}, RVs K H ds vs → ds[i]? = some d → ∃ v, vs[i]? = some v ∧ RV K H d v
  | [], _, _, _, _, e => by simp at e
  | d :: ds, vs, 0, x, h, e => by
    unfold RVs at h
    obtain ⟨v, r, e1, h1, _⟩ := h
    subst e1
    simp at e
    subst e
    exact ⟨v, rfl, h1⟩
  | d :: ds, vs, i + 1, x, h, e => by
    unfold RVs at h
    obtain ⟨v, r, e1, _, h2⟩ := h
    subst e1
    obtain ⟨w, a, b⟩ := RVs.get h2 (i := i) (d := x) (by simpa using e)
    exact ⟨w, by simpa using a, b⟩
theorem RVs.append {K : PySem.W.Frag} {H : Hp} : ∀ {ds es : List D} {vs ws : List V}, RVs K H ds vs → RVs K H es ws → RVs K H (ds ++ es) (vs ++ ws)
  | [], _, vs, _, h, q => by unfold RVs at h; subst h; exact q
  | d :: ds, es, vs, ws, h, q => by
    unfold RVs at h
    obtain ⟨v, r, e, h1, h2⟩ := h
    subst e
    show RVs K H (d :: (ds ++ es)) (v :: (r ++ ws))
    unfold RVs
    exact ⟨v, r ++ ws, rfl, h1, RVs.append h2 q⟩
theorem RVs.one {K : PySem.W.Frag} {H : Hp} {d : D} {v : V} (h : RV K H d v) : RVs K H [d] [v] := by
  unfold RVs
  exact ⟨v, [], rfl, h, RVs.nil_iff.mpr rfl⟩
theorem RVs.set {K : PySem.W.Frag} {H : Hp} {d : D} {v : V} (q : RV K H d v) : ∀ {ds : List D} {vs : List V} (i : Nat), RVs K H ds vs → RVs K H (ds.set i d) (vs.set i v)
  | [], vs, _, h => by unfold RVs at h; subst h; exact RVs.nil_iff.mpr rfl
  | x :: ds, vs, 0, h => by
    unfold RVs at h
    obtain ⟨w, r, e, _, h2⟩ := h
    subst e
    show RVs K H (d :: ds) (v :: r)
    unfold RVs
    exact ⟨v, r, rfl, q, h2⟩
  | x :: ds, vs, i + 1, h => by
    unfold RVs at h
    obtain ⟨w, r, e, h1, h2⟩ := h
    subst e
    show RVs K H (x :: ds.set i d) (w :: r.set i v)
    unfold RVs
    exact ⟨w, _, rfl, h1, RVs.set q i h2⟩
theorem RVs.drop {K : PySem.W.Frag} {H : Hp} : ∀ {ds : List D} {vs : List V} (n : Nat), RVs K H ds vs → RVs K H (ds.drop n) (vs.drop n)
  | _, _, 0, h => h
  | [], vs, n + 1, h => by unfold RVs at h; subst h; exact RVs.nil_iff.mpr rfl
  | d :: ds, vs, n + 1, h => by
    unfold RVs at h
    obtain ⟨w, r, e, _, h2⟩ := h
    subst e
    exact RVs.drop n h2
theorem RVs.take {K : PySem.W.Frag} {H : Hp} : ∀ {ds : List D} {vs : List V} (n : Nat), RVs K H ds vs → RVs K H (ds.take n) (vs.take n)
  | _, _, 0, _ => RVs.nil_iff.mpr rfl
  | [], vs, n + 1, h => by unfold RVs at h; subst h; exact RVs.nil_iff.mpr rfl
  | d :: ds, vs, n + 1, h => by
    unfold RVs at h
    obtain ⟨w, r, e, h1, h2⟩ := h
    subst e
    show RVs K H (d :: ds.take n) (w :: r.take n)
    unfold RVs
    exact ⟨w, _, rfl, h1, RVs.take n h2⟩

/-! ## the store -/
/-- what the pure side knows to stand at an address -/
inductive O where
  | lst (ds : List D)
  | tab (q : Str)
  | cod (q : Str)
abbrev Sto := Addr → Option O
def ups (S : Sto) (a : Addr) (o : O) : Sto := fun b => if b = a then some o else S b
theorem ups_same {S : Sto} {a : Addr} {o : O} : ups S a o a = some o := by unfold ups; rw [if_pos rfl]
theorem ups_ne {S : Sto} {a b : Addr} {o : O} (h : b ≠ a) : ups S a o b = S b := by unfold ups; rw [if_neg h]
theorem ups_ups {S : Sto} {a : Addr} {o u : O} : ups (ups S a o) a u = ups S a u := by
  funext b; unfold ups; split <;> rfl
/-- S stands in S' -/
def Sub (S S' : Sto) : Prop := ∀ a o, S a = some o → S' a = some o
theorem Sub.refl (S : Sto) : Sub S S := fun _ _ h => h
theorem Sub.trans {S S1 S2 : Sto} (a : Sub S S1) (b : Sub S1 S2) : Sub S S2 := fun c o h => b c o (a c o h)
theorem sto_ne {S : Sto} {a b : Addr} {o : O} (h : S a = some o) (n : S b = none) : a ≠ b := by
  intro e; subst e; rw [h] at n; cases n
theorem Sub.new {S S' : Sto} {p : Addr} {o : O} (s : Sub S S') (n : S' p = none) : Sub S (ups S' p o) := fun a u h => by
  rw [ups_ne (sto_ne (s a u h) n)]
  exact s a u h
/-- an object that is not S's own is written -/
theorem Sub.at {S S' : Sto} {p : Addr} {o : O} (s : Sub S S') (n : S p = none) : Sub S (ups S' p o) := fun a u h => by
  rw [ups_ne (sto_ne h n)]
  exact s a u h
theorem Sub.none {S S' : Sto} {p : Addr} (s : Sub S S') (n : S' p = none) : S p = none := by
  cases e : S p with
  | none => rfl
  | some o =>
    rw [s p o e] at n
    cases n

def RO (K : PySem.W.Frag) (H : Hp) (a : Addr) : O → Prop
  | .lst ds => ∃ vs, H a = some (.lst vs) ∧ RVs K H ds vs
  | .tab q => LamX.TabS H a q
  | .cod q => H a = some (LamX.CodeO a q)
def Rep (K : PySem.W.Frag) (S : Sto) (H : Hp) : Prop := ∀ a o, S a = some o → RO K H a o
theorem Rep.sub {K : PySem.W.Frag} {S S' : Sto} {H : Hp} (r : Rep K S' H) (s : Sub S S') : Rep K S H := fun a o h => r a o (s a o h)
theorem Rep.free {K : PySem.W.Frag} {S : Sto} {H : Hp} (r : Rep K S H) {p : Addr} (n : H p = none) : S p = none := by
  cases e : S p with
  | none => rfl
  | some o =>
    have z := r p o e
    cases o with
    | lst ds =>
      obtain ⟨vs, z, _⟩ := z
      rw [n] at z
      cases z
    | tab q =>
      obtain ⟨ps, z, _⟩ := z
      rw [n] at z
      cases z
    | cod q =>
      have z : H p = some (LamX.CodeO p q) := z
      rw [n] at z
      cases z
theorem RO.same {K : PySem.W.Frag} {H H' : Hp} (s : Same H H') {a : Addr} {o : O} (r : RO K H a o) : RO K H' a o := by
  cases o with
  | lst ds =>
    obtain ⟨vs, h, q⟩ := r
    exact ⟨vs, s _ _ h, RVs.keep (Same.keep s) _ _ q⟩
  | tab q => exact LamX.TabS.ext r s
  | cod q => exact s _ _ r
theorem Rep.same {K : PySem.W.Frag} {S : Sto} {H H' : Hp} (r : Rep K S H) (s : Same H H') : Rep K S H' := fun a o h => RO.same s (r a o h)
/-- a new list -/
theorem Rep.newL {K : PySem.W.Frag} {S : Sto} {H : Hp} (r : Rep K S H) {p : Addr} {ds : List D} {vs : List V} (n : H p = none) (q : RVs K H ds vs) : Rep K (ups S p (.lst ds)) (upd H p (.lst vs)) := fun a o h => by
  by_cases e : a = p
  · subst e
    rw [ups_same] at h
    cases h
    exact ⟨vs, upd_same, RVs.keep (Keep.new n) _ _ q⟩
  · rw [ups_ne e] at h
    exact RO.same (same_new n) (r a o h)
/-- a list is written -/
theorem Rep.setL {K : PySem.W.Frag} {S : Sto} {H : Hp} (r : Rep K S H) {p : Addr} {ds : List D} {vs us : List V} (h0 : H p = some (.lst us)) (q : RVs K H ds vs) : Rep K (ups S p (.lst ds)) (upd H p (.lst vs)) := fun a o h => by
  have kp : Keep K H (upd H p (.lst vs)) := Keep.mut h0 (fun _ z => by cases z) (fun _ _ z => by cases z)
  by_cases e : a = p
  · subst e
    rw [ups_same] at h
    cases h
    exact ⟨vs, upd_same, RVs.keep kp _ _ q⟩
  · rw [ups_ne e] at h
    have z := r a o h
    cases o with
    | lst ds' =>
      obtain ⟨vs', h', q'⟩ := z
      exact ⟨vs', by rw [upd_ne e]; exact h', RVs.keep kp _ _ q'⟩
    | tab nm =>
      obtain ⟨ps, h1, h2, h3⟩ := z
      refine ⟨ps, by rw [upd_ne e]; exact h1, h2, fun pos cv hc => ?_⟩
      obtain ⟨c, e1, e2⟩ := h3 pos cv hc
      refine ⟨c, e1, ?_⟩
      have hcp : c ≠ p := fun z => by
        rw [z, h0] at e2
        unfold LamX.CodeO at e2
        cases e2
      rw [upd_ne hcp]
      exact e2
    | cod nm =>
      show upd H p (.lst vs) a = some (LamX.CodeO a nm)
      rw [upd_ne e]
      exact z

/-! ## the frame -/
abbrev Loc := List (Option D)
structure RL (K : PySem.W.Frag) (H : Hp) (loc : Loc) (σ : L2.St) : Prop where
  len : loc.length = σ.length
  at_ : ∀ (i : Nat) (d : D), loc[i]? = some (some d) → ∃ v, σ[i]? = some (some v) ∧ RV K H d v
theorem RL.keep {K : PySem.W.Frag} {H H' : Hp} {loc : Loc} {σ : L2.St} (r : RL K H loc σ) (k : Keep K H H') : RL K H' loc σ :=
  ⟨r.len, fun i d h => by
    obtain ⟨v, a, b⟩ := r.at_ i d h
    exact ⟨v, a, RV.keep k _ _ b⟩⟩
theorem RL.set {K : PySem.W.Frag} {H : Hp} {loc : Loc} {σ : L2.St} (r : RL K H loc σ) {d : D} {v : V} (q : RV K H d v) (i : Nat) : RL K H (loc.set i (some d)) (σ.set i (some v)) := by
  refine ⟨by simp [r.len], fun j x h => ?_⟩
  by_cases e : i = j
  · subst e
    by_cases hl : i < loc.length
    · rw [List.getElem?_set_self hl] at h
      cases h
      exact ⟨v, by rw [List.getElem?_set_self (by rw [← r.len]; exact hl)], q⟩
    · rw [List.getElem?_eq_none (by simpa using hl)] at h
      cases h
  · rw [List.getElem?_set_ne e] at h
    obtain ⟨w, a, b⟩ := r.at_ j x h
    exact ⟨w, by rw [List.getElem?_set_ne e]; exact a, b⟩
/-- the slots forgotten -/
def wipeD (loc : Loc) : List Nat → Loc
  | [] => loc
  | v :: vs => (wipeD loc vs).set v none
theorem RL.wipe {K : PySem.W.Frag} {H : Hp} {loc : Loc} {σ : L2.St} (r : RL K H loc σ) : ∀ vs : List Nat, RL K H (wipeD loc vs) (L2.wipe σ vs)
  | [] => r
  | v :: vs => by
    have ih := RL.wipe r vs
    refine ⟨by simp [wipeD, L2.wipe, ih.len], fun j x h => ?_⟩
    unfold wipeD at h
    unfold L2.wipe
    by_cases e : v = j
    · subst e
      by_cases hl : v < (wipeD loc vs).length
      · rw [List.getElem?_set_self hl] at h
        cases h
      · rw [List.getElem?_eq_none (by simpa using hl)] at h
        cases h
    · rw [List.getElem?_set_ne e] at h
      obtain ⟨w, a, b⟩ := ih.at_ j x h
      exact ⟨w, by rw [List.getElem?_set_ne e]; exact a, b⟩

/-! ## exceptions -/
/-- an exception: its class, its one field -/
structure Ex where
  cls : Addr
  fld : Option (Str × D) := none
def RX (K : PySem.W.Frag) (H : Hp) (x : Ex) (c : Value) (d : Option Addr) : Prop :=
  c = .ref x.cls ∧ match x.fld with
    | none => d = none
    | some (f, y) => ∃ a v, d = some a ∧ H a = some (.xd [(f, v)]) ∧ RV K H y v

/-! ## readings of the pure side -/
abbrev PD := D → Sto → Prop
abbrev PX := Ex → Sto → Prop
abbrev QE := Loc → Sto → PD → PX → Prop
abbrev QT := Loc → Sto → (Bool → Sto → Prop) → PX → Prop
abbrev QA := Loc → Sto → (List D → Sto → Prop) → PX → Prop
structure QN where
  nx : Loc → Sto → Prop
  rt : PD
  bk : Loc → Sto → Prop := fun _ _ => False
  ct : Loc → Sto → Prop := fun _ _ => False
  ex : Ex → Loc → Sto → Prop := fun _ _ _ => False
abbrev QS := QN → Loc → Sto → Prop
abbrev QF := List D → Sto → PD → PX → Prop

/-- what a value's wish becomes over the hand layer -/
def GoD (K : PySem.W.Frag) (H : Hp) (P : PD) (Q : VK) : Prop := ∀ d S' v H', P d S' → Keep K H H' → Rep K S' H' → RV K H' d v → Q v H'
def GoX (K : PySem.W.Frag) (H : Hp) (σ : L2.St) (E : PX) (W : WX) : Prop := ∀ x S' H' c d, E x S' → Keep K H H' → Rep K S' H' → RX K H' x c d → W c d σ H'
def GoB (K : PySem.W.Frag) (H : Hp) (P : Bool → Sto → Prop) (Q : Bool → Hp → Prop) : Prop := ∀ b S' H', P b S' → Keep K H H' → Rep K S' H' → Q b H'
def GoA (K : PySem.W.Frag) (H : Hp) (P : List D → Sto → Prop) (Q : List V → Hp → Prop) : Prop := ∀ ds S' vs H', P ds S' → Keep K H H' → Rep K S' H' → RVs K H' ds vs → Q vs H'
def GoL (K : PySem.W.Frag) (H : Hp) (P : Loc → Sto → Prop) (Q : L2.St → Hp → Prop) : Prop := ∀ loc' S' σ' H', P loc' S' → Keep K H H' → RL K H' loc' σ' → Rep K S' H' → Q σ' H'
def GoLX (K : PySem.W.Frag) (H : Hp) (E : Ex → Loc → Sto → Prop) (W : WX) : Prop := ∀ x loc' S' σ' H' c d, E x loc' S' → Keep K H H' → RL K H' loc' σ' → Rep K S' H' → RX K H' x c d → W c d σ' H'
section
variable {K : PySem.W.Frag} {H H1 : Hp}
theorem GoD.keep {P : PD} {Q : VK} (g : GoD K H P Q) (k : Keep K H H1) : GoD K H1 P Q := fun d S v H' p k' => g d S v H' p (k.trans k')
theorem GoX.keep {σ : L2.St} {E : PX} {W : WX} (g : GoX K H σ E W) (k : Keep K H H1) : GoX K H1 σ E W := fun x S H' c d p k' => g x S H' c d p (k.trans k')
theorem GoB.keep {P : Bool → Sto → Prop} {Q : Bool → Hp → Prop} (g : GoB K H P Q) (k : Keep K H H1) : GoB K H1 P Q := fun d S H' p k' => g d S H' p (k.trans k')
theorem GoA.keep {P : List D → Sto → Prop} {Q : List V → Hp → Prop} (g : GoA K H P Q) (k : Keep K H H1) : GoA K H1 P Q := fun d S v H' p k' => g d S v H' p (k.trans k')
theorem GoL.keep {P : Loc → Sto → Prop} {Q : L2.St → Hp → Prop} (g : GoL K H P Q) (k : Keep K H H1) : GoL K H1 P Q := fun l S v H' p k' => g l S v H' p (k.trans k')
theorem GoLX.keep {E : Ex → Loc → Sto → Prop} {W : WX} (g : GoLX K H E W) (k : Keep K H H1) : GoLX K H1 E W := fun x l S v H' c d p k' => g x l S v H' c d p (k.trans k')
end
def lift (K : PySem.W.Frag) (W : WX) (q : QE) : TE := fun σ H Q => ∃ loc S P E, RL K H loc σ ∧ Rep K S H ∧ q loc S P E ∧ GoD K H P Q ∧ GoX K H σ E W
def liftT (K : PySem.W.Frag) (W : WX) (q : QT) : TT := fun σ H Q => ∃ loc S P E, RL K H loc σ ∧ Rep K S H ∧ q loc S P E ∧ GoB K H P Q ∧ GoX K H σ E W
def liftA (K : PySem.W.Frag) (W : WX) (q : QA) : TA := fun σ H Q => ∃ loc S P E, RL K H loc σ ∧ Rep K S H ∧ q loc S P E ∧ GoA K H P Q ∧ GoX K H σ E W
structure GoN (K : PySem.W.Frag) (H : Hp) (P : QN) (D : Ends) (W : WX) : Prop where
  nx : GoL K H P.nx D.nx
  rt : GoD K H P.rt D.rt
  bk : GoL K H P.bk D.bk
  ct : GoL K H P.ct D.ct
  ex : GoLX K H P.ex W
theorem GoN.keep {K : PySem.W.Frag} {H H1 : Hp} {P : QN} {D : Ends} {W : WX} (g : GoN K H P D W) (k : Keep K H H1) : GoN K H1 P D W := ⟨g.nx.keep k, g.rt.keep k, g.bk.keep k, g.ct.keep k, g.ex.keep k⟩
def liftS (K : PySem.W.Frag) (W : WX) (q : QS) : TS := fun D σ H => ∃ loc S P, RL K H loc σ ∧ Rep K S H ∧ q P loc S ∧ GoN K H P D W
/-- a def's promise -/
def liftF (K : PySem.W.Frag) (sp : QF) : Sp := fun vs H Q E => ∃ ds S P PE, RVs K H ds vs ∧ Rep K S H ∧ sp ds S P PE ∧ GoD K H P Q ∧ ∀ x S' H' c d, PE x S' → Keep K H H' → Rep K S' H' → RX K H' x c d → E c d H'

def DE (X : Cx) (e : Expr) (q : QE) : Prop := ∀ W, L2N.Takes X W → PE X e (lift X.K W q)
def DT (X : Cx) (e : Expr) (q : QT) : Prop := ∀ W, L2N.Takes X W → PT X e (liftT X.K W q)
def DW (X : Cx) (e : Expr) (q : QT) : Prop := ∀ W, L2N.Takes X W → PW X e (liftT X.K W q)
def DA (X : Cx) (es : List Expr) (q : QA) : Prop := ∀ W, L2N.Takes X W → PA X es (liftA X.K W q)
def DS (X : Cx) (st : Stmt) (q : QS) : Prop := ∀ W, L2N.Takes X W → PS X st (liftS X.K W q)
def DB (X : Cx) (st : List Stmt) (q : QS) : Prop := ∀ W, L2N.Takes X W → PSs X st (liftS X.K W q)
section
variable {X : Cx}
theorem PE.imp {e : Expr} {t t' : TE} (h : PE X e t) (i : ∀ σ H Q, t' σ H Q → t σ H Q) : PE X e t' := ⟨fun p s σ H Q I q => h.run p s σ H Q I (i _ _ _ q)⟩
theorem PT.imp {e : Expr} {t t' : TT} (h : PT X e t) (i : ∀ σ H Q, t' σ H Q → t σ H Q) : PT X e t' := ⟨fun p s σ H Q I q => h.run p s σ H Q I (i _ _ _ q)⟩
theorem PW.imp {e : Expr} {t t' : TT} (h : PW X e t) (i : ∀ σ H Q, t' σ H Q → t σ H Q) : PW X e t' := ⟨fun wh p s σ H Q I q => h.run wh p s σ H Q I (i _ _ _ q)⟩
theorem PA.imp {e : List Expr} {t t' : TA} (h : PA X e t) (i : ∀ σ H Q, t' σ H Q → t σ H Q) : PA X e t' := ⟨fun po p s σ H Q I q => h.run po p s σ H Q I (i _ _ _ q)⟩
theorem PS.imp {e : Stmt} {t t' : TS} (h : PS X e t) (i : ∀ D σ H, t' D σ H → t D σ H) : PS X e t' := ⟨fun p s σ H Q I q => h.run p s σ H Q I (i _ _ _ q)⟩
theorem PSs.imp {e : List Stmt} {t t' : TS} (h : PSs X e t) (i : ∀ D σ H, t' D σ H → t D σ H) : PSs X e t' := ⟨fun p s σ H Q I q => h.run p s σ H Q I (i _ _ _ q)⟩
end
end PL

namespace PL
open PySem PySem.Spec PyProof.Rows L2 -- the layers
section
variable {X : Cx}
theorem takes0 : L2N.Takes X (fun _ _ _ _ => False) := fun _ _ x => by
  obtain ⟨_, _, _, _, _, _, _, _, _, _, _, _, _, _, _, _, z⟩ := x
  exact z.elim

/-! ## names, constants -/
def qVar (i : Nat) : QE := fun loc S P _ => match loc[i]? with
  | some (some d) => P d S
  | _ => False
def qC (d : D) : QE := fun _ S P _ => P d S
theorem de_var (i : Nat) {x : Str} {pos : Pos} (hN : X.N[i]? = some x := by rfl) (hv : Vis X.env.scope x := by first | exact Or.inl rfl | exact Or.inr (Or.inl rfl) | exact Or.inr (Or.inr rfl)) (hd : (x == ("__debug__" : Str)) = false := by decide)
    (hcd : (x == ("__classdict__" : Str)) = false := by decide) : DE X (.Name x pos) (qVar i) := fun W _ => PE.imp (pe_var hN hv hd hcd) fun σ H Q h => by
  obtain ⟨loc, S, P, E, rl, rep, q, g, _⟩ := h
  unfold qVar at q
  split at q
  · rename_i d e
    obtain ⟨v, e1, e2⟩ := rl.at_ i d e
    exact ⟨v, e1, g d S v H q Keep.refl rep e2⟩
  · exact q.elim
/-- a value that is written -/
theorem de_const {e : Expr} {v : V} {d : D} (h : PE X e (tC v)) (r : ∀ H, RV X.K H d v) : DE X e (qC d) := fun W _ => PE.imp h fun σ H Q z => by
  obtain ⟨loc, S, P, E, rl, rep, q, g, _⟩ := z
  exact g d S v H q Keep.refl rep (r H)
theorem de_int {i j pos} : DE X (.Constant (.int i) j pos) (qC (.int i)) := de_const pe_int fun _ => by unfold RV; rfl
theorem de_bl {b j pos} : DE X (.Constant (.bool b) j pos) (qC (.bl b)) := de_const pe_bl fun _ => by unfold RV; rfl
theorem de_non {j pos} : DE X (.Constant .none j pos) (qC .non) := de_const pe_non fun _ => by unfold RV; rfl
theorem de_str {x j pos} : DE X (.Constant (.str x) j pos) (qC (.str x)) := de_const pe_str fun _ => by unfold RV; rfl
theorem de_globI {x : Str} {i : Int} {t : Tok} {pos : Pos} (hg : Gl X x) (hm : X.mg x = some (.int i t)) (hd : (x == ("__debug__" : Str)) = false := by decide) : DE X (.Name x pos) (qC (.int i)) :=
  de_const (pe_glob (v := .int i) hg hm ⟨t, rfl⟩ hd) fun _ => by unfold RV; rfl
theorem de_globS {x z : Str} {t : Tok} {pos : Pos} (hg : Gl X x) (hm : X.mg x = some (.str z t)) (hd : (x == ("__debug__" : Str)) = false := by decide) : DE X (.Name x pos) (qC (.str z)) :=
  de_const (pe_glob (v := .str z) hg hm ⟨t, rfl⟩ hd) fun _ => by unfold RV; rfl

/-! ## operations by values -/
abbrev QO := D → D → Sto → PD → Prop
def ODok (X : Cx) (f : Value → Value → Sem Value) (q : QO) : Prop :=
  ∃ r : R2, OpR X f r ∧ ∀ x y S P H vx vy Q, q x y S P → Rep X.K S H → RV X.K H x vx → RV X.K H y vy → GoD X.K H P Q → r vx vy H Q
def qBin (f : QO) (qa qb : QE) : QE := fun loc S P E => qa loc S (fun x S1 => qb loc S1 (fun y S2 => f x y S2 P) E) E
variable {a b c : Expr} {qa qb qc : QE} {pos : Pos} {W : WX} {σ : L2.St} {H : Hp}
/-- two readings in a row -/
theorem lift2 {K : PySem.W.Frag} {R : V → V → Hp → Prop} {F : D → D → Sto → Prop} {E : PX} {loc : Loc} {S : Sto} (rl : RL K H loc σ) (rep : Rep K S H) (gx : GoX K H σ E W) (q : qa loc S (fun x S1 => qb loc S1 (fun y S2 => F x y S2) E) E)
    (h : ∀ x y S' vx vy H', F x y S' → Keep K H H' → Rep K S' H' → RV K H' x vx → RV K H' y vy → R vx vy H') : lift K W qa σ H fun vx H1 => lift K W qb σ H1 fun vy H2 => R vx vy H2 := by
  refine ⟨loc, S, _, E, rl, rep, q, fun x S1 vx H1 q1 k1 rep1 r1 => ?_, gx⟩
  exact ⟨loc, S1, _, E, rl.keep k1, rep1, q1, fun y S2 vy H2 q2 k2 rep2 r2 => h x y S2 vx vy H2 q2 (k1.trans k2) rep2 (RV.keep k2 _ _ r1) r2, gx.keep k1⟩
theorem op_imp {f : Value → Value → Sem Value} {q : QO} {r : R2} (hr : ∀ x y S P H vx vy Q, q x y S P → Rep X.K S H → RV X.K H x vx → RV X.K H y vy → GoD X.K H P Q → r vx vy H Q) {σ : L2.St} {H : Hp} {Q : VK} (h : lift X.K W (qBin q qa qb) σ H Q) :
    tOp r (lift X.K W qa) (lift X.K W qb) σ H Q := by
  obtain ⟨loc, S, P, E, rl, rep, hq, g, gx⟩ := h
  exact lift2 rl rep gx hq fun x y S' vx vy H' hf k rep' rx ry => hr x y S' P H' vx vy Q hf rep' rx ry (g.keep k)
theorem de_bin {op : Operator} {q : QO} (ho : ODok X (binaryOp op) q) (ha : DE X a qa) (hb : DE X b qb) : DE X (.BinOp a op b pos) (qBin q qa qb) := fun W tk => by
  obtain ⟨r, o, hr⟩ := ho
  exact PE.imp (pe_op o (ha W tk) (hb W tk)) fun σ H Q h => op_imp (f := binaryOp op) hr h
theorem de_cmp {op : CmpOp} {q : QO} (ho : ODok X (compareOp op) q) (ha : DE X a qa) (hb : DE X b qb) (hm : behindInMarks op b = false) : DE X (.Compare a [op] [b] pos) (qBin q qa qb) := fun W tk => by
  obtain ⟨r, o, hr⟩ := ho
  exact PE.imp (pe_cmpR o (ha W tk) (hb W tk) hm) fun σ H Q h => op_imp (f := compareOp op) hr h
/-- a bool as a test's answer -/
def qTB (q : QE) : QT := fun loc S P E => q loc S (fun d S' => match d with
  | .bl b => P b S'
  | _ => False) E
theorem dt_cmp {op : CmpOp} {q : QO} (ho : ODok X (compareOp op) q) (ha : DE X a qa) (hb : DE X b qb) (hm : behindInMarks op b = false) : DT X (.Compare a [op] [b] pos) (qTB (qBin q qa qb)) := fun W tk => by
  obtain ⟨r, o, hr⟩ := ho
  refine PT.imp (pt_cmpR o (ha W tk) (hb W tk) hm) fun σ H Q h => ?_
  obtain ⟨loc, S, P, E, rl, rep, hq, g, gx⟩ := h
  refine op_imp (f := compareOp op) (q := q) (r := r) (W := W) (qa := qa) (qb := qb) hr ⟨loc, S, _, E, rl, rep, hq, fun d S' v H' p k rep' rv => ?_, gx⟩
  cases d with
  | bl b =>
    unfold RV at rv
    exact ⟨b, rv, g b S' H' p k rep'⟩
  | _ => exact (show False from p).elim
/-- a < b < c -/
def qChain (f f' : QO) (qa qb qc : QE) : QE := fun loc S P E => qa loc S (fun x S1 => qb loc S1 (fun y S2 => f x y S2 (fun z S3 => match z with
  | .bl true => qc loc S3 (fun u S4 => f' y u S4 P) E
  | .bl false => P (.bl false) S3
  | _ => False)) E) E
theorem chain_imp {f f' : Value → Value → Sem Value} {q q' : QO} {r r' : R2} (hr : ∀ x y S P H vx vy Q, q x y S P → Rep X.K S H → RV X.K H x vx → RV X.K H y vy → GoD X.K H P Q → r vx vy H Q)
    (hr' : ∀ x y S P H vx vy Q, q' x y S P → Rep X.K S H → RV X.K H x vx → RV X.K H y vy → GoD X.K H P Q → r' vx vy H Q) {σ : L2.St} {H : Hp} {Q : VK} (h : lift X.K W (qChain q q' qa qb qc) σ H Q) :
    tChain r r' (lift X.K W qa) (lift X.K W qb) (lift X.K W qc) σ H Q := by
  obtain ⟨loc, S, P, E, rl, rep, hq, g, gx⟩ := h
  unfold tChain
  refine ⟨loc, S, _, E, rl, rep, hq, fun x S1 vx H1 q1 k1 rep1 r1 => ?_, gx⟩
  refine ⟨loc, S1, _, E, rl.keep k1, rep1, q1, fun y S2 vy H2 q2 k2 rep2 r2 => ?_, gx.keep k1⟩
  refine hr x y S2 _ H2 vx vy _ q2 rep2 (RV.keep k2 _ _ r1) r2 fun z S3 vz H3 q3 k3 rep3 r3 => ?_
  cases z with
  | bl bb =>
    unfold RV at r3
    refine ⟨bb, r3, ?_⟩
    cases bb with
    | true =>
      have kk := k1.trans (k2.trans k3)
      have q3' : qc loc S3 (fun u S4 => q' y u S4 P) E := q3
      refine iteT ?_
      refine ⟨loc, S3, _, E, rl.keep kk, rep3, q3', fun u S4 vu H4 q4 k4 rep4 r4 => ?_, gx.keep kk⟩
      exact hr' y u S4 P H4 vy vu Q q4 rep4 (RV.keep (k3.trans k4) _ _ r2) r4 (g.keep (kk.trans k4))
    | false =>
      refine iteF ?_
      exact g _ S3 _ H3 q3 (k1.trans (k2.trans k3)) rep3 (by unfold RV; rfl)
  | _ => exact (show False from q3).elim
theorem de_chain {op op' : CmpOp} {q q' : QO} (ho : ODok X (compareOp op) q) (ho' : ODok X (compareOp op') q') (ha : DE X a qa) (hb : DE X b qb) (hc : DE X c qc)
    (hm : lastMarks [op, op'] [b, c] = false := by with_unfolding_all rfl) : DE X (.Compare a [op, op'] [b, c] pos) (qChain q q' qa qb qc) := fun W tk => by
  obtain ⟨r, o, hr⟩ := ho
  obtain ⟨r', o', hr'⟩ := ho'
  exact PE.imp (pe_chain o o' (ha W tk) (hb W tk) (hc W tk) hm) fun σ H Q h => chain_imp (f := compareOp op) (f' := compareOp op') hr hr' h
/-- a reading of a bool, as a test -/
theorem tb_imp {K : PySem.W.Frag} {t : TE} {q : QE} (i : ∀ σ H Q, lift K W q σ H Q → t σ H Q) {σ : L2.St} {H : Hp} {Q : Bool → Hp → Prop} (h : liftT K W (qTB q) σ H Q) : t σ H fun x H' => ∃ k, x = .bl k ∧ Q k H' := by
  obtain ⟨loc, S, P, E, rl, rep, hq, g, gx⟩ := h
  refine i _ _ _ ⟨loc, S, _, E, rl, rep, hq, fun d S' v H' p k rep' rv => ?_, gx⟩
  cases d with
  | bl b =>
    unfold RV at rv
    exact ⟨b, rv, g b S' H' p k rep'⟩
  | _ => exact (show False from p).elim
theorem dt_chain {op op' : CmpOp} {q q' : QO} (ho : ODok X (compareOp op) q) (ho' : ODok X (compareOp op') q') (ha : DE X a qa) (hb : DE X b qb) (hc : DE X c qc)
    (hm : lastMarks [op, op'] [b, c] = false := by with_unfolding_all rfl) : DT X (.Compare a [op, op'] [b, c] pos) (qTB (qChain q q' qa qb qc)) := fun W tk => by
  obtain ⟨r, o, hr⟩ := ho
  obtain ⟨r', o', hr'⟩ := ho'
  exact PT.imp (pt_chain o o' (ha W tk) (hb W tk) (hc W tk) hm) fun σ H Q h => tb_imp (fun σ H Q h => chain_imp (f := compareOp op) (f' := compareOp op') hr hr' h) h
/-- a bool's expression as a test -/
theorem dt_val {e : Expr} {q : QE} (h : DE X e q) (he : ∀ whole, isTrue e X.env whole = (do let v ← whole; standAt e.pos; holding [v] (truthy v)) := by intro _; rfl) : DT X e (qTB q) := fun W tk =>
  PT.imp (pt_val (h W tk) he) fun _ _ _ z => tb_imp (fun _ _ _ y => y) z

/-! ## truth -/
def tru (d : D) (S : Sto) (P : Bool → Sto → Prop) : Prop := match d with
  | .non => P false S
  | .bl b => P b S
  | .int i => P (i != 0) S
  | .str y => y.length ≤ sizeLine ∧ P ((y.length : Int) != 0) S
  | .tup xs => P (!xs.isEmpty) S
  | .rol xs => P (!xs.isEmpty) S
  | .ref a => ∃ xs, S a = some (.lst xs) ∧ P (!xs.isEmpty) S
  | .ty _ => False
def qTru (q : QE) : QT := fun loc S P E => q loc S (fun d S' => tru d S' P) E
theorem RVs.isEmpty {K : PySem.W.Frag} {H : Hp} {ds : List D} {vs : List V} (h : RVs K H ds vs) : ds.isEmpty = vs.isEmpty := by
  have e := h.length
  cases ds <;> cases vs <;> simp_all
theorem dt_truth {e : Expr} {q : QE} (h : DE X e q) (he : ∀ whole, isTrue e X.env whole = (do let v ← whole; standAt e.pos; holding [v] (truthy v)) := by intro _; rfl) : DT X e (qTru q) := fun W tk => by
  refine PT.imp (pt_truth (h W tk) he) fun σ H Q z => ?_
  obtain ⟨loc, S, P, E, rl, rep, hq, g, gx⟩ := z
  refine ⟨loc, S, _, E, rl, rep, hq, fun d S' v H' p k rep' rv => ?_, gx⟩
  cases d with
  | non => unfold RV at rv; subst rv; exact ⟨_, rfl, g _ _ _ p k rep'⟩
  | bl b => unfold RV at rv; subst rv; exact ⟨_, rfl, g _ _ _ p k rep'⟩
  | int i => unfold RV at rv; subst rv; exact ⟨_, rfl, g _ _ _ p k rep'⟩
  | str y => unfold RV at rv; subst rv; exact ⟨_, ⟨p.1, rfl⟩, g _ _ _ p.2 k rep'⟩
  | tup xs =>
    unfold RV at rv
    obtain ⟨a, vs, e, s, r⟩ := rv
    subst e
    exact ⟨_, Or.inr (Or.inl ⟨vs, s, by rw [← r.isEmpty]⟩), g _ _ _ p k rep'⟩
  | rol xs =>
    unfold RV at rv
    obtain ⟨a, vs, e, s, r⟩ := rv
    subst e
    exact ⟨_, Or.inl ⟨vs, s.sq, by rw [← r.isEmpty]⟩, g _ _ _ p k rep'⟩
  | ref a =>
    unfold RV at rv
    subst rv
    obtain ⟨xs, e, p⟩ := p
    obtain ⟨vs, e2, r⟩ := rep' a _ e
    exact ⟨_, Or.inl ⟨vs, SqL.of e2, by rw [← r.isEmpty]⟩, g _ _ _ p k rep'⟩
  | ty n => exact (show False from p).elim

/-! ## and, or, not, if -/
variable {rest : List Expr} {ta tb tc : QT}
def qAndT (t u : QT) : QT := fun loc S P E => t loc S (fun c S1 => if c = true then u loc S1 P E else P false S1) E
def qOrT (t u : QT) : QT := fun loc S P E => t loc S (fun c S1 => if c = true then P true S1 else u loc S1 P E) E
def qNotT (t : QT) : QT := fun loc S P E => t loc S (fun c S1 => P (!c) S1) E
theorem dw_pt {e : Expr} {t : QT} (h : DW X e t) : DT X e t := fun W tk => (h W tk).pt
theorem dw_and1 (ha : DT X a ta) : DW X (.BoolOp .And [a] pos) ta := fun W tk => pw_and1 (ha W tk)
theorem dw_or1 (ha : DT X a ta) : DW X (.BoolOp .Or [a] pos) ta := fun W tk => pw_or1 (ha W tk)
theorem dw_and (ha : DT X a ta) (hb : DW X (.BoolOp .And (b :: rest) pos) tb) : DW X (.BoolOp .And (a :: b :: rest) pos) (qAndT ta tb) := fun W tk => by
  refine PW.imp (pw_and (ha W tk) (hb W tk)) fun σ H Q h => ?_
  obtain ⟨loc, S, P, E, rl, rep, hq, g, gx⟩ := h
  refine ⟨loc, S, _, E, rl, rep, hq, fun c S1 H1 q1 k1 rep1 => ?_, gx⟩
  cases c with
  | true =>
    refine iteT ?_
    exact ⟨loc, S1, P, E, rl.keep k1, rep1, q1, g.keep k1, gx.keep k1⟩
  | false =>
    refine iteF ?_
    exact g _ _ _ q1 k1 rep1
theorem dw_or (ha : DT X a ta) (hb : DW X (.BoolOp .Or (b :: rest) pos) tb) : DW X (.BoolOp .Or (a :: b :: rest) pos) (qOrT ta tb) := fun W tk => by
  refine PW.imp (pw_or (ha W tk) (hb W tk)) fun σ H Q h => ?_
  obtain ⟨loc, S, P, E, rl, rep, hq, g, gx⟩ := h
  refine ⟨loc, S, _, E, rl, rep, hq, fun c S1 H1 q1 k1 rep1 => ?_, gx⟩
  cases c with
  | true =>
    refine iteT ?_
    exact g _ _ _ q1 k1 rep1
  | false =>
    refine iteF ?_
    exact ⟨loc, S1, P, E, rl.keep k1, rep1, q1, g.keep k1, gx.keep k1⟩
theorem dt_not (ha : DT X a ta) : DT X (.UnaryOp .Not a pos) (qNotT ta) := fun W tk => by
  refine PT.imp (pt_not (ha W tk)) fun σ H Q h => ?_
  obtain ⟨loc, S, P, E, rl, rep, hq, g, gx⟩ := h
  exact ⟨loc, S, _, E, rl, rep, hq, fun c S1 H1 q1 k1 rep1 => g _ _ _ q1 k1 rep1, gx⟩
def bd (d : D) (P : Bool → Prop) : Prop := match d with
  | .bl b => P b
  | _ => False
def qAnd (qa qb : QE) : QE := fun loc S P E => qa loc S (fun d S1 => bd d fun c => if c = true then qb loc S1 P E else P (.bl false) S1) E
def qOr (qa qb : QE) : QE := fun loc S P E => qa loc S (fun d S1 => bd d fun c => if c = true then P (.bl true) S1 else qb loc S1 P E) E
def qNot (qa : QE) : QE := fun loc S P E => qa loc S (fun d S1 => bd d fun c => P (.bl (!c)) S1) E
theorem bd_rv {K : PySem.W.Frag} {H : Hp} {d : D} {v : V} {P : Bool → Prop} (h : bd d P) (r : RV K H d v) : ∃ c, v = .bl c ∧ P c := by
  cases d with
  | bl b => unfold RV at r; exact ⟨b, r, h⟩
  | _ => exact (show False from h).elim
theorem de_one {op} (h : DE X a qa) : DE X (.BoolOp op [a] pos) qa := fun W tk => pe_one (h W tk)
theorem de_and (ha : DE X a qa) (hb : DE X (.BoolOp .And (b :: rest) pos) qb) : DE X (.BoolOp .And (a :: b :: rest) pos) (qAnd qa qb) := fun W tk => by
  refine PE.imp (pe_and (ha W tk) (hb W tk)) fun σ H Q h => ?_
  obtain ⟨loc, S, P, E, rl, rep, hq, g, gx⟩ := h
  refine ⟨loc, S, _, E, rl, rep, hq, fun d S1 v H1 q1 k1 rep1 r1 => ?_, gx⟩
  obtain ⟨c, e, q1⟩ := bd_rv q1 r1
  refine ⟨c, e, ?_⟩
  cases c with
  | true =>
    refine iteT ?_
    exact ⟨loc, S1, P, E, rl.keep k1, rep1, q1, g.keep k1, gx.keep k1⟩
  | false =>
    refine iteF ?_
    exact g _ _ _ _ q1 k1 rep1 (by unfold RV; rfl)
theorem de_or (ha : DE X a qa) (hb : DE X (.BoolOp .Or (b :: rest) pos) qb) : DE X (.BoolOp .Or (a :: b :: rest) pos) (qOr qa qb) := fun W tk => by
  refine PE.imp (pe_or (ha W tk) (hb W tk)) fun σ H Q h => ?_
  obtain ⟨loc, S, P, E, rl, rep, hq, g, gx⟩ := h
  refine ⟨loc, S, _, E, rl, rep, hq, fun d S1 v H1 q1 k1 rep1 r1 => ?_, gx⟩
  obtain ⟨c, e, q1⟩ := bd_rv q1 r1
  refine ⟨c, e, ?_⟩
  cases c with
  | true =>
    refine iteT ?_
    exact g _ _ _ _ q1 k1 rep1 (by unfold RV; rfl)
  | false =>
    refine iteF ?_
    exact ⟨loc, S1, P, E, rl.keep k1, rep1, q1, g.keep k1, gx.keep k1⟩
theorem de_not (ha : DE X a qa) : DE X (.UnaryOp .Not a pos) (qNot qa) := fun W tk => by
  refine PE.imp (pe_not (ha W tk)) fun σ H Q h => ?_
  obtain ⟨loc, S, P, E, rl, rep, hq, g, gx⟩ := h
  refine ⟨loc, S, _, E, rl, rep, hq, fun d S1 v H1 q1 k1 rep1 r1 => ?_, gx⟩
  obtain ⟨c, e, q1⟩ := bd_rv q1 r1
  exact ⟨c, e, g _ _ _ _ q1 k1 rep1 (by unfold RV; rfl)⟩
def qIf (t : QT) (qa qb : QE) : QE := fun loc S P E => t loc S (fun c S1 => if c = true then qa loc S1 P E else qb loc S1 P E) E
theorem de_if (hc : DT X c tc) (ha : DE X a qa) (hb : DE X b qb) : DE X (.IfExp c a b pos) (qIf tc qa qb) := fun W tk => by
  refine PE.imp (pe_ifExp (hc W tk) (ha W tk) (hb W tk)) fun σ H Q h => ?_
  obtain ⟨loc, S, P, E, rl, rep, hq, g, gx⟩ := h
  refine ⟨loc, S, _, E, rl, rep, hq, fun c S1 H1 q1 k1 rep1 => ?_, gx⟩
  cases c with
  | true =>
    refine iteT ?_
    exact ⟨loc, S1, P, E, rl.keep k1, rep1, q1, g.keep k1, gx.keep k1⟩
  | false =>
    refine iteF ?_
    exact ⟨loc, S1, P, E, rl.keep k1, rep1, q1, g.keep k1, gx.keep k1⟩

/-! ## argument lists, displays -/
def qNil : QA := fun _ S P _ => P [] S
def qCons (q : QE) (r : QA) : QA := fun loc S P E => q loc S (fun d S1 => r loc S1 (fun ds S2 => P (d :: ds) S2) E) E
variable {e : Expr} {es : List Expr} {q : QE} {qs : QA}
theorem da_nil : DA X [] qNil := fun W _ => PA.imp pa_nil fun σ H Q h => by
  obtain ⟨loc, S, P, E, rl, rep, hq, g, _⟩ := h
  exact g _ _ _ _ hq Keep.refl rep (RVs.nil_iff.mpr rfl)
theorem da_cons (ha : DE X e q) (hr : DA X es qs) (hs : starEach (e :: es) X.env = (false, eval e X.env) :: starEach es X.env := by rfl) : DA X (e :: es) (qCons q qs) := fun W tk => by
  refine PA.imp (pa_cons (ha W tk) (hr W tk) hs) fun σ H Q h => ?_
  obtain ⟨loc, S, P, E, rl, rep, hq, g, gx⟩ := h
  refine ⟨loc, S, _, E, rl, rep, hq, fun d S1 v H1 q1 k1 rep1 r1 => ?_, gx⟩
  refine ⟨loc, S1, _, E, rl.keep k1, rep1, q1, fun ds S2 vs H2 q2 k2 rep2 r2 => ?_, gx.keep k1⟩
  refine g _ _ _ _ q2 (k1.trans k2) rep2 ?_
  unfold RVs
  exact ⟨v, vs, rfl, RV.keep k2 _ _ r1, r2⟩
def qTup (qs : QA) : QE := fun loc S P E => qs loc S (fun ds S1 => ds.length ≤ sizeLine ∧ P (.tup ds) S1) E
def qLst (qs : QA) : QE := fun loc S P E => qs loc S (fun ds S1 => ds.length ≤ sizeLine ∧ ∀ p, S1 p = none → P (.ref p) (ups S1 p (.lst ds))) E
theorem rv_newT {K : PySem.W.Frag} {H : Hp} {p : Addr} {ds : List D} {vs : List V} (n : H p = none) (r : RVs K H ds vs) : RV K (upd H p (.tup vs)) (.tup ds) (.ref p) := by
  unfold RV
  exact ⟨p, vs, rfl, SqT.of upd_same, RVs.keep (Keep.new n) _ _ r⟩
theorem de_tup {x1} (h : DA X es qs) : DE X (.Tuple es x1 pos) (qTup qs) := fun W tk => by
  refine PE.imp (pe_tup (h W tk)) fun σ H Q z => ?_
  obtain ⟨loc, S, P, E, rl, rep, hq, g, gx⟩ := z
  refine ⟨loc, S, _, E, rl, rep, hq, fun ds S1 vs H1 q1 k1 rep1 r1 => ?_, gx⟩
  refine ⟨by rw [← r1.length]; exact q1.1, fun p n => ?_⟩
  exact g _ _ _ _ q1.2 (k1.trans (Keep.new n)) (rep1.same (same_new n)) (rv_newT n r1)
theorem de_lst (h : DA X es qs) : DE X (.List es pos) (qLst qs) := fun W tk => by
  refine PE.imp (pe_lst (h W tk)) fun σ H Q z => ?_
  obtain ⟨loc, S, P, E, rl, rep, hq, g, gx⟩ := z
  refine ⟨loc, S, _, E, rl, rep, hq, fun ds S1 vs H1 q1 k1 rep1 r1 => ?_, gx⟩
  refine ⟨by rw [← r1.length]; exact q1.1, fun p n => ?_⟩
  exact g _ _ _ _ (q1.2 p (rep1.free n)) (k1.trans (Keep.new n)) (rep1.newL n r1) (by unfold RV; rfl)
/-- what is known may be forgotten -/
def qDrop (q : QE) : QE := fun loc S P E => q loc S (fun d S' => ∃ S2, Sub S2 S' ∧ P d S2) E
theorem de_drop (h : DE X e q) : DE X e (qDrop q) := fun W tk => PE.imp (h W tk) fun σ H Q z => by
  obtain ⟨loc, S, P, E, rl, rep, hq, g, gx⟩ := z
  exact ⟨loc, S, _, E, rl, rep, hq, fun d S' v H' ⟨S2, s, p⟩ k rep' rv => g d S2 v H' p k (rep'.sub s) rv, gx⟩
end
end PL

namespace PL
open PySem PySem.Spec PyProof.Rows L2 -- the layers
section
variable {X : Cx}

/-! ## a list by its value or its address -/
def LsAt (S : Sto) (d : D) (xs : List D) : Prop := d = .rol xs ∨ ∃ a, d = .ref a ∧ S a = some (.lst xs)
theorem LsAt.sq {K : PySem.W.Frag} {S : Sto} {H : Hp} {d : D} {xs : List D} {v : V} (h : LsAt S d xs) (rep : Rep K S H) (r : RV K H d v) : ∃ a vs, v = .ref a ∧ SqL K H a vs ∧ RVs K H xs vs := by
  rcases h with h | ⟨a, h, e⟩
  · subst h
    unfold RV at r
    obtain ⟨a, vs, e, s, q⟩ := r
    exact ⟨a, vs, e, s.sq, q⟩
  · subst h
    unfold RV at r
    obtain ⟨vs, e2, q⟩ := rep a _ e
    exact ⟨a, vs, r, SqL.of e2, q⟩

/-! ## + - * // % ** on ints, + on texts, tuples, lists -/
theorem rv_int {K : PySem.W.Frag} {H : Hp} {i : Int} {v : V} (r : RV K H (.int i) v) : v = .int i := by unfold RV at r; exact r
theorem rv_str {K : PySem.W.Frag} {H : Hp} {i : Str} {v : V} (r : RV K H (.str i) v) : v = .str i := by unfold RV at r; exact r
theorem rv_bl {K : PySem.W.Frag} {H : Hp} {i : Bool} {v : V} (r : RV K H (.bl i) v) : v = .bl i := by unfold RV at r; exact r
theorem rv_ref {K : PySem.W.Frag} {H : Hp} {i : Addr} {v : V} (r : RV K H (.ref i) v) : v = .ref i := by unfold RV at r; exact r
theorem rv_non {K : PySem.W.Frag} {H : Hp} {v : V} (r : RV K H .non v) : v = .non := by unfold RV at r; exact r
theorem rv_tup {K : PySem.W.Frag} {H : Hp} {ds : List D} {v : V} (r : RV K H (.tup ds) v) : ∃ a vs, v = .ref a ∧ SqT K H a vs ∧ RVs K H ds vs := by unfold RV at r; exact r
theorem rv_ofI {K : PySem.W.Frag} {H : Hp} {i : Int} : RV K H (.int i) (.int i) := by unfold RV; rfl
theorem rv_ofS {K : PySem.W.Frag} {H : Hp} {i : Str} : RV K H (.str i) (.str i) := by unfold RV; rfl
theorem rv_ofB {K : PySem.W.Frag} {H : Hp} {i : Bool} : RV K H (.bl i) (.bl i) := by unfold RV; rfl
theorem rv_ofR {K : PySem.W.Frag} {H : Hp} {i : Addr} : RV K H (.ref i) (.ref i) := by unfold RV; rfl
theorem rv_ofN {K : PySem.W.Frag} {H : Hp} : RV K H .non .non := by unfold RV; rfl
theorem GoD.now {K : PySem.W.Frag} {H : Hp} {P : PD} {Q : VK} (g : GoD K H P Q) {d : D} {S : Sto} {v : V} (p : P d S) (rep : Rep K S H) (r : RV K H d v) : Q v H := g d S v H p Keep.refl rep r

/-- two ints in, under C -/
def oI (C : Int → Int → Prop) (f : Int → Int → D) : QO := fun x y S P => match x, y with
  | .int i, .int j => C i j ∧ P (f i j) S
  | _, _ => False
theorem oI_inv {C : Int → Int → Prop} {f : Int → Int → D} {x y : D} {S : Sto} {P : PD} (h : oI C f x y S P) : ∃ i j, x = .int i ∧ y = .int j ∧ C i j ∧ P (f i j) S := by
  cases x <;> cases y <;> first | exact (show False from h).elim | exact ⟨_, _, rfl, rfl, h⟩
theorem od_I {f : Value → Value → Sem Value} {C : Int → Int → Prop} {g : Int → Int → V} {g' : Int → Int → D} (h : OpR X f (rI C g)) (e : ∀ K H i j, RV K H (g' i j) (g i j)) : ODok X f (oI C g') := by
  refine ⟨_, h, fun x y S P H vx vy Q q rep rx ry go => ?_⟩
  obtain ⟨i, j, rfl, rfl, c, p⟩ := oI_inv q
  exact ⟨i, j, rv_int rx, rv_int ry, c, go.now p rep (e _ _ _ _)⟩
theorem op_rI0 {f : Value → Value → Sem Value} {g : Int → Int → V} (h : OpR X f (rI0 g)) : OpR X f (rI (fun _ _ => True) g) := fun pins s σ H x y v u Q I rx ry z => by
  obtain ⟨i, j, e1, e2, _, q⟩ := z
  exact h pins s σ H x y v u Q I rx ry ⟨i, j, e1, e2, q⟩
theorem ODok.or {f : Value → Value → Sem Value} {q q' : QO} (h : ODok X f q) (h' : ODok X f q') : ODok X f (fun x y S P => q x y S P ∨ q' x y S P) := by
  obtain ⟨r, o, a⟩ := h
  obtain ⟨r', o', a'⟩ := h'
  refine ⟨_, o.or o', fun x y S P H vx vy Q z rep rx ry go => ?_⟩
  rcases z with z | z
  · exact .inl (a x y S P H vx vy Q z rep rx ry go)
  · exact .inr (a' x y S P H vx vy Q z rep rx ry go)
theorem ODok.imp {f : Value → Value → Sem Value} {q q' : QO} (h : ODok X f q) (i : ∀ x y S P, q' x y S P → q x y S P) : ODok X f q' := by
  obtain ⟨r, o, a⟩ := h
  exact ⟨r, o, fun x y S P H vx vy Q z rep rx ry go => a x y S P H vx vy Q (i _ _ _ _ z) rep rx ry go⟩
def oSub : QO := oI (fun _ _ => True) fun i j => .int (i - j)
def oMul : QO := oI IntMulOk fun i j => .int (i * j)
def CDivA (_ j : Int) : Prop := j ≠ 0 ∧ j.natAbs.log2 < 9000
def oDiv : QO := oI CDivA fun i j => .int (i.fdiv j)
def oMod : QO := oI (fun _ j => j ≠ 0) fun i j => .int (i.fmod j)
def oPow : QO := oI CPow fun i j => .int (i ^ j.toNat)
theorem od_sub : ODok X (binaryOp .Sub) oSub := od_I (op_rI0 op_sub) fun _ _ _ _ => rv_ofI
theorem od_mul : ODok X (binaryOp .Mult) oMul := od_I (g := fun i j => .int (i * j)) (opI fun _ _ _ _ _ _ _ hc q => mul_int q hc) fun _ _ _ _ => rv_ofI
theorem od_div : ODok X (binaryOp .FloorDiv) oDiv := od_I (g := fun i j => .int (i.fdiv j)) (opI fun _ _ _ _ _ _ _ hc q => floordiv_int hc.1 q (.inl (PyProof.noPylong_of_log2 hc.2))) fun _ _ _ _ => rv_ofI
theorem od_mod : ODok X (binaryOp .Mod) oMod := od_I op_modN fun _ _ _ _ => rv_ofI
theorem od_pow : ODok X (binaryOp .Pow) oPow := od_I op_pow fun _ _ _ _ => rv_ofI
def oAdd : QO := fun x y S P => match x, y with
  | .int i, .int j => P (.int (i + j)) S
  | .str i, .str j => i.length + j.length ≤ sizeLine ∧ P (.str (i ++ j)) S
  | .tup i, .tup j => i.length + j.length ≤ sizeLine ∧ P (.tup (i ++ j)) S
  | .ref i, .ref j => ∃ xs ys, S i = some (.lst xs) ∧ S j = some (.lst ys) ∧ xs.length + ys.length ≤ sizeLine ∧ ∀ p, S p = none → P (.ref p) (ups S p (.lst (xs ++ ys)))
  | _, _ => False
theorem od_add : ODok X (binaryOp .Add) oAdd := by
  refine ⟨_, (op_add.or op_add_str).or (op_catA.or op_cat), fun x y S P H vx vy Q q rep rx ry go => ?_⟩
  cases x <;> cases y <;> first | exact (show False from q).elim | skip
  · exact .inl (.inl ⟨_, _, rv_int rx, rv_int ry, go.now q rep rv_ofI⟩)
  · exact .inl (.inr ⟨_, _, rv_str rx, rv_str ry, q.1, go.now q.2 rep rv_ofS⟩)
  · rename_i as bs
    obtain ⟨a, vs, e1, s1, r1⟩ := rv_tup rx
    obtain ⟨b, ws, e2, s2, r2⟩ := rv_tup ry
    refine .inr (.inl ⟨a, b, vs, ws, e1, e2, s1, s2, by rw [← r1.length, ← r2.length]; exact q.1, ?_⟩)
    refine ⟨fun h0 => ?_, fun _ h0 => ?_, fun _ _ p n => ?_⟩
    · subst h0
      have e : as = [] := List.eq_nil_of_length_eq_zero (by rw [r1.length]; rfl)
      subst e
      exact go.now q.2 rep (by unfold RV; exact ⟨b, ws, rfl, s2, r2⟩)
    · subst h0
      have e : bs = [] := List.eq_nil_of_length_eq_zero (by rw [r2.length]; rfl)
      subst e
      refine go.now q.2 rep ?_
      rw [List.append_nil]
      unfold RV
      exact ⟨a, vs, rfl, s1, r1⟩
    · exact go _ _ _ _ q.2 (Keep.new n) (rep.same (same_new n)) (rv_newT n (r1.append r2))
  · rename_i a b
    obtain ⟨xs, ys, e1, e2, hz, h⟩ := q
    obtain ⟨vs, f1, r1⟩ := rep _ _ e1
    obtain ⟨ws, f2, r2⟩ := rep _ _ e2
    refine .inr (.inr ⟨a, b, vs, ws, rv_ref rx, rv_ref ry, f1, f2, by rw [← r1.length, ← r2.length]; exact hz, fun p n => ?_⟩)
    exact go _ _ _ _ (h p (rep.free n)) (Keep.new n) (rep.newL n (r1.append r2)) rv_ofR


/-! ## data, for == and repr -/
mutual
inductive Dat (S : Sto) : D → PyData → Prop
  | non : Dat S .non .none
  | bl (b : Bool) : Dat S (.bl b) (.bool b)
  | int (i : Int) : Dat S (.int i) (.int i)
  | str (x : Str) : Dat S (.str x) (.str x)
  | tup {ds : List D} {ps : List PyData} : Dats S ds ps → Dat S (.tup ds) (.tuple ps)
  | rol {ds : List D} {ps : List PyData} : Dats S ds ps → Dat S (.rol ds) (.list ps)
  | lst {a : Addr} {ds : List D} {ps : List PyData} : S a = some (.lst ds) → Dats S ds ps → Dat S (.ref a) (.list ps)
inductive Dats (S : Sto) : List D → List PyData → Prop
  | nil : Dats S [] []
  | cons {d : D} {ds : List D} {p : PyData} {ps : List PyData} : Dat S d p → Dats S ds ps → Dats S (d :: ds) (p :: ps)
end
mutual
theorem Dat.dp {K : PySem.W.Frag} {S : Sto} {H : Hp} (rep : Rep K S H) : ∀ (p : PyData) (d : D) (v : V), Dat S d p → RV K H d v → Dp K H v p
  | .none, _, v, h, r => by
    cases h
    rw [rv_non r]
    exact .non
  | .bool b, _, v, h, r => by
    cases h
    rw [rv_bl r]
    exact .bl b
  | .int i, _, v, h, r => by
    cases h
    rw [rv_int r]
    exact .int i
  | .str x, _, v, h, r => by
    cases h
    rw [rv_str r]
    exact .str x
  | .tuple ps, _, v, h, r => by
    cases h with
    | tup hs =>
      obtain ⟨a, vs, e, s, q⟩ := rv_tup r
      subst e
      exact .tup s (Dats.dp rep ps _ vs hs q)
  | .list ps, _, v, h, r => by
    cases h with
    | rol hs =>
      unfold RV at r
      obtain ⟨a, vs, e, s, q⟩ := r
      subst e
      exact .lst s.sq (Dats.dp rep ps _ vs hs q)
    | lst e hs =>
      rw [rv_ref r]
      obtain ⟨vs, e2, q⟩ := rep _ _ e
      exact .lst (SqL.of e2) (Dats.dp rep ps _ vs hs q)
  | .dict _, _, _, h, _ => by cases h
theorem Dats.dp {K : PySem.W.Frag} {S : Sto} {H : Hp} (rep : Rep K S H) : ∀ (ps : List PyData) (ds : List D) (vs : List V), Dats S ds ps → RVs K H ds vs → DpAll K H vs ps
  | [], _, vs, h, r => by
    cases h
    rw [RVs.nil_iff.mp r]
    exact .nil
  | p :: ps, _, vs, h, r => by
    cases h with
    | cons h1 h2 =>
      unfold RVs at r
      obtain ⟨v, w, e, r1, r2⟩ := r
      subst e
      exact .cons (Dat.dp rep p _ v h1 r1) (Dats.dp rep ps _ w h2 r2)
end
mutual
theorem Dat.sub {S S' : Sto} (s : Sub S S') : ∀ (p : PyData) (d : D), Dat S d p → Dat S' d p
  | .none, _, h => by cases h; exact .non
  | .bool b, _, h => by cases h; exact .bl b
  | .int i, _, h => by cases h; exact .int i
  | .str x, _, h => by cases h; exact .str x
  | .tuple ps, _, h => by
    cases h with
    | tup hs => exact .tup (Dats.sub s ps _ hs)
  | .list ps, _, h => by
    cases h with
    | rol hs => exact .rol (Dats.sub s ps _ hs)
    | lst e hs => exact .lst (s _ _ e) (Dats.sub s ps _ hs)
  | .dict _, _, h => by cases h
theorem Dats.sub {S S' : Sto} (s : Sub S S') : ∀ (ps : List PyData) (ds : List D), Dats S ds ps → Dats S' ds ps
  | [], _, h => by cases h; exact .nil
  | p :: ps, _, h => by
    cases h with
    | cons h1 h2 => exact .cons (Dat.sub s p _ h1) (Dats.sub s ps _ h2)
end
/- data of tuples alone -/
mutual
def pyD : D → PyData
  | .non => .none
  | .bl b => .bool b
  | .int i => .int i
  | .str x => .str x
  | .tup ds => .tuple (pyDs ds)
  | .rol ds => .list (pyDs ds)
  | .ref _ => .none
  | .ty _ => .none
def pyDs : List D → List PyData
  | [] => []
  | d :: ds => pyD d :: pyDs ds
end
mutual
def pureD : D → Bool
  | .tup ds => pureDs ds
  | .rol ds => pureDs ds
  | .ref _ => false
  | .ty _ => false
  | _ => true
def pureDs : List D → Bool
  | [] => true
  | d :: ds => pureD d && pureDs ds
end
mutual
theorem Dat.pure {S : Sto} : ∀ (d : D), pureD d = true → Dat S d (pyD d)
  | .non, _ => by unfold pyD; exact .non
  | .bl b, _ => by unfold pyD; exact .bl b
  | .int i, _ => by unfold pyD; exact .int i
  | .str x, _ => by unfold pyD; exact .str x
  | .tup ds, h => by
    unfold pyD
    unfold pureD at h
    exact .tup (Dats.pure ds h)
  | .rol ds, h => by
    unfold pyD
    unfold pureD at h
    exact .rol (Dats.pure ds h)
  | .ref _, h => by unfold pureD at h; cases h
  | .ty _, h => by unfold pureD at h; cases h
theorem Dats.pure {S : Sto} : ∀ (ds : List D), pureDs ds = true → Dats S ds (pyDs ds)
  | [], _ => by unfold pyDs; exact .nil
  | d :: ds, h => by
    unfold pyDs
    unfold pureDs at h
    obtain ⟨h1, h2⟩ := Bool.and_eq_true_iff.mp h
    exact .cons (Dat.pure d h1) (Dats.pure ds h2)
end

/-! ## comparisons -/
/-- two alike scalars, else data -/
def oEqW (k : Bool → Bool) : QO := fun x y S P => match x, y with
  | .int i, .int j => P (.bl (k (decide (i = j)))) S
  | .str i, .str j => P (.bl (k (decide (i = j)))) S
  | .bl i, .bl j => P (.bl (k (decide (i = j)))) S
  | x, y => ∃ a b, Dat S x a ∧ Dat S y b ∧ SeqAt.shaped a = true ∧ SeqAt.shaped b = true ∧ P (.bl (k (PyData.eqv a b))) S
def oEq : QO := oEqW id
def oNe : QO := oEqW not
theorem dec_V_int {i j : Int} : decide (V.int i = V.int j) = decide (i = j) := by rw [dec_int, Bool.beq_eq_decide_eq]
theorem dec_V_str {i j : Str} : decide (V.str i = V.str j) = decide (i = j) := by rw [dec_str, Bool.beq_eq_decide_eq]
theorem dec_V_bl {i j : Bool} : decide (V.bl i = V.bl j) = decide (i = j) := by rw [dec_bl, Bool.beq_eq_decide_eq]
theorem oEqW_inv {k : Bool → Bool} {x y : D} {S : Sto} {P : PD} (h : oEqW k x y S P) : (∃ vx vy, scal vx vy = true ∧ (∀ K H v, RV K H x v → v = vx) ∧ (∀ K H v, RV K H y v → v = vy) ∧ P (.bl (k (decide (vx = vy)))) S) ∨
    ∃ a b, Dat S x a ∧ Dat S y b ∧ SeqAt.shaped a = true ∧ SeqAt.shaped b = true ∧ P (.bl (k (PyData.eqv a b))) S := by
  unfold oEqW at h
  split at h
  · exact .inl ⟨_, _, rfl, fun _ _ _ r => rv_int r, fun _ _ _ r => rv_int r, by rw [dec_V_int]; exact h⟩
  · exact .inl ⟨_, _, rfl, fun _ _ _ r => rv_str r, fun _ _ _ r => rv_str r, by rw [dec_V_str]; exact h⟩
  · exact .inl ⟨_, _, rfl, fun _ _ _ r => rv_bl r, fun _ _ _ r => rv_bl r, by rw [dec_V_bl]; exact h⟩
  · exact .inr h
theorem od_eq (hu : X.A.units + 64 < cLine) : ODok X (compareOp .Eq) oEq := by
  refine ⟨_, op_eq.or (op_eqD hu), fun x y S P H vx vy Q q rep rx ry go => ?_⟩
  rcases oEqW_inv q with ⟨a, b, sc, ha, hb, p⟩ | ⟨a, b, da, db, s1, s2, p⟩
  · rw [ha _ _ _ rx, hb _ _ _ ry]
    exact .inl ⟨sc, go.now p rep rv_ofB⟩
  · exact .inr ⟨a, b, Dat.dp rep _ _ _ da rx, Dat.dp rep _ _ _ db ry, s1, s2, go.now p rep rv_ofB⟩
theorem od_ne (hu : X.A.units + 64 < cLine) : ODok X (compareOp .NotEq) oNe := by
  refine ⟨_, op_ne.or (op_neD hu), fun x y S P H vx vy Q q rep rx ry go => ?_⟩
  rcases oEqW_inv q with ⟨a, b, sc, ha, hb, p⟩ | ⟨a, b, da, db, s1, s2, p⟩
  · rw [ha _ _ _ rx, hb _ _ _ ry]
    exact .inl ⟨sc, go.now p rep rv_ofB⟩
  · exact .inr ⟨a, b, Dat.dp rep _ _ _ da rx, Dat.dp rep _ _ _ db ry, s1, s2, go.now p rep rv_ofB⟩
/-- < and its kin, of ints, of texts -/
def oOrd (f : Int → Int → Bool) (g : List Nat → List Nat → Bool) : QO := fun x y S P => match x, y with
  | .int i, .int j => P (.bl (f i j)) S
  | .str i, .str j => P (.bl (g i.cps.toList j.cps.toList)) S
  | _, _ => False
def oLt : QO := oOrd (fun i j => decide (i < j)) fun i j => decide (i < j)
def oLe : QO := oOrd (fun i j => decide (i ≤ j)) fun i j => !decide (j < i)
def oGt : QO := oOrd (fun i j => decide (j < i)) fun i j => decide (j < i)
def oGe : QO := oOrd (fun i j => decide (j ≤ i)) fun i j => !decide (i < j)
theorem od_ord {f : Value → Value → Sem Value} {g : Int → Int → Bool} {h : List Nat → List Nat → Bool} (a : OpR X f (rI0 fun i j => .bl (g i j))) (b : OpR X f (fun x y H Q => ∃ i j, x = .str i ∧ y = .str j ∧ Q (.bl (h i.cps.toList j.cps.toList)) H)) : ODok X f (oOrd g h) := by
  refine ⟨_, a.or b, fun x y S P H vx vy Q q rep rx ry go => ?_⟩
  cases x <;> cases y <;> first | exact (show False from q).elim | skip
  · exact .inl ⟨_, _, rv_int rx, rv_int ry, go.now q rep rv_ofB⟩
  · exact .inr ⟨_, _, rv_str rx, rv_str ry, go.now q rep rv_ofB⟩
theorem od_lt : ODok X (compareOp .Lt) oLt := od_ord op_lt op_lt_str
theorem od_le : ODok X (compareOp .LtE) oLe := od_ord op_le op_le_str
theorem od_gt : ODok X (compareOp .Gt) oGt := od_ord op_gt op_gt_str
theorem od_ge : ODok X (compareOp .GtE) oGe := od_ord op_ge op_ge_str
/-- x in a list of data -/
def oInL (k : Bool → Bool) : QO := fun x y S P => ∃ a ds, Dat S x a ∧ Dat S y (.list ds) ∧ SeqAt.shaped a = true ∧ SeqAt.shaped (.list ds) = true ∧ P (.bl (k (ds.any fun z => PyData.eqv z a))) S
theorem od_inL (hu : X.A.units + 65 < cLine) : ODok X (compareOp .In) (oInL id) := by
  refine ⟨_, op_inD hu, fun x y S P H vx vy Q q rep rx ry go => ?_⟩
  obtain ⟨a, ds, h1, h2, h3, h4, p⟩ := q
  exact ⟨a, ds, Dat.dp rep _ _ _ h1 rx, Dat.dp rep _ _ _ h2 ry, h3, h4, go.now p rep rv_ofB⟩
theorem od_notInL (hu : X.A.units + 65 < cLine) : ODok X (compareOp .NotIn) (oInL not) := by
  refine ⟨_, op_notInD hu, fun x y S P H vx vy Q q rep rx ry go => ?_⟩
  obtain ⟨a, ds, h1, h2, h3, h4, p⟩ := q
  exact ⟨a, ds, Dat.dp rep _ _ _ h1 rx, Dat.dp rep _ _ _ h2 ry, h3, h4, go.now p rep rv_ofB⟩

/-! ## -x -/
def qNeg (q : QE) : QE := fun loc S P E => q loc S (fun d S1 => match d with
  | .int i => P (.int (-i)) S1
  | _ => False) E
theorem de_neg {a : Expr} {qa : QE} {pos : Pos} (ha : DE X a qa) : DE X (.UnaryOp .USub a pos) (qNeg qa) := fun W tk => by
  refine PE.imp (pe_un un_neg (ha W tk)) fun σ H Q h => ?_
  obtain ⟨loc, S, P, E, rl, rep, hq, g, gx⟩ := h
  refine ⟨loc, S, _, E, rl, rep, hq, fun d S1 v H1 q1 k1 rep1 r1 => ?_, gx⟩
  cases d with
  | int i => exact ⟨i, rv_int r1, g _ _ _ _ q1 k1 rep1 rv_ofI⟩
  | _ => exact (show False from q1).elim

/-! ## x[i], x[i:j] -/
/-- the item of a sequence -/
def oIx : QO := fun x y S P => match x, y with
  | .tup xs, .int i => ∃ d, atI xs i = some d ∧ P d S
  | .rol xs, .int i => ∃ d, atI xs i = some d ∧ P d S
  | .ref a, .int i => ∃ xs d, S a = some (.lst xs) ∧ atI xs i = some d ∧ P d S
  | .str z, .int i => z.length ≤ sizeLine ∧ ∃ c, atI z.cps.toList i = some c ∧ P (.str ⟨#[c]⟩) S
  | _, _ => False
theorem RVs.atI {K : PySem.W.Frag} {H : Hp} {ds : List D} {vs : List V} {i : Int} {d : D} (r : RVs K H ds vs) (h : atI ds i = some d) : ∃ v, L2.atI vs i = some v ∧ RV K H d v := by
  unfold L2.atI at h ⊢
  cases e : ixN ds.length i with
  | none => rw [e] at h; cases h
  | some j =>
    rw [e] at h
    obtain ⟨v, e1, e2⟩ := RVs.get r (i := j) h
    exact ⟨v, by rw [← r.length, e]; exact e1, e2⟩
theorem de_ix {a b : Expr} {qa qb : QE} {pos : Pos} (ha : DE X a qa) (hb : DE X b qb) (hs : PlainIx b := by exact fun _ _ => rfl) : DE X (.Subscript a b pos) (qBin oIx qa qb) := fun W tk => by
  refine PE.imp (pe_ix ix_seq (ha W tk) (hb W tk) hs) fun σ H Q h => ?_
  obtain ⟨loc, S, P, E, rl, rep, hq, g, gx⟩ := h
  refine lift2 rl rep gx hq fun x y S' vx vy H' hf k rep' rx ry => ?_
  cases x <;> cases y <;> first | exact (show False from hf).elim | skip
  · obtain ⟨h1, c, h2, p⟩ := hf
    exact .inr (.inr ⟨_, _, c, rv_str rx, rv_int ry, h1, h2, g _ _ _ _ p k rep' rv_ofS⟩)
  · obtain ⟨d, h1, p⟩ := hf
    obtain ⟨q, vs, e, s, r⟩ := rv_tup rx
    obtain ⟨v, h2, rv⟩ := RVs.atI r h1
    exact .inr (.inl ⟨q, vs, _, v, e, rv_int ry, s, h2, g _ _ _ _ p k rep' rv⟩)
  · obtain ⟨d, h1, p⟩ := hf
    unfold RV at rx
    obtain ⟨q, vs, e, s, r⟩ := rx
    obtain ⟨v, h2, rv⟩ := RVs.atI r h1
    exact .inl ⟨q, vs, _, v, e, rv_int ry, s.sq, h2, g _ _ _ _ p k rep' rv⟩
  · obtain ⟨xs, d, h0, h1, p⟩ := hf
    obtain ⟨vs, s, r⟩ := rep' _ _ h0
    obtain ⟨v, h2, rv⟩ := RVs.atI r h1
    exact .inl ⟨_, vs, _, v, rv_ref rx, rv_int ry, SqL.of s, h2, g _ _ _ _ p k rep' rv⟩
abbrev QO1 := Loc → Sto → (Option Int → Sto → Prop) → PX → Prop
def liftO (K : PySem.W.Frag) (W : WX) (q : QO1) : TO := fun σ H Q => ∃ loc S P E, RL K H loc σ ∧ Rep K S H ∧ q loc S P E ∧ (∀ o S' H', P o S' → Keep K H H' → Rep K S' H' → Q o H') ∧ GoX K H σ E W
def DO (X : Cx) (e : Option Expr) (q : QO1) : Prop := ∀ W, L2N.Takes X W → PO X e (liftO X.K W q)
def qNo : QO1 := fun _ S P _ => P none S
def qPart (q : QE) : QO1 := fun loc S P E => q loc S (fun d S1 => match d with
  | .int i => P (some i) S1
  | _ => False) E
theorem PO.imp {e : Option Expr} {t t' : TO} (h : PO X e t) (i : ∀ σ H Q, t' σ H Q → t σ H Q) : PO X e t' := ⟨fun p s σ H Q I q => h.run p s σ H Q I (i _ _ _ q)⟩
theorem do_none : DO X none qNo := fun W _ => PO.imp po_none fun σ H Q h => by
  obtain ⟨loc, S, P, E, rl, rep, hq, g, _⟩ := h
  exact g _ _ _ hq Keep.refl rep
theorem do_some {e : Expr} {q : QE} (h : DE X e q) : DO X (some e) (qPart q) := fun W tk => PO.imp (po_some (h W tk)) fun σ H Q z => by
  obtain ⟨loc, S, P, E, rl, rep, hq, g, gx⟩ := z
  refine ⟨loc, S, _, E, rl, rep, hq, fun d S1 v H1 q1 k1 rep1 r1 => ?_, gx⟩
  cases d with
  | int i => exact ⟨i, rv_int r1, g _ _ _ q1 k1 rep1⟩
  | _ => exact (show False from q1).elim
def cutL {α : Type} (xs : List α) (lo hi : Option Int) : List α := (xs.drop (HT.sIx xs.length 0 lo)).take (HT.sIx xs.length xs.length hi - HT.sIx xs.length 0 lo)
theorem RVs.cut {K : PySem.W.Frag} {H : Hp} {ds : List D} {vs : List V} (r : RVs K H ds vs) (lo hi : Option Int) : RVs K H (cutL ds lo hi) (cutV vs lo hi) := by
  unfold cutL cutV
  rw [r.length]
  exact RVs.take _ (RVs.drop _ r)
theorem cutL_all {α : Type} {xs : List α} {lo hi : Option Int} (h : HT.sIx xs.length 0 lo = 0 ∧ HT.sIx xs.length xs.length hi = xs.length) : cutL xs lo hi = xs := by
  unfold cutL
  rw [h.1, h.2]
  simp
def oSl (x : D) (lo hi : Option Int) (S : Sto) (P : PD) : Prop := match x with
  | .tup xs => P (.tup (cutL xs lo hi)) S
  | .rol xs => ∀ p, S p = none → P (.ref p) (ups S p (.lst (cutL xs lo hi)))
  | .ref a => ∃ xs, S a = some (.lst xs) ∧ ∀ p, S p = none → P (.ref p) (ups S p (.lst (cutL xs lo hi)))
  | .str z => z.length ≤ sizeLine ∧ P (.str (cutS z lo hi)) S
  | _ => False
def qSl (q : QE) (l h : QO1) : QE := fun loc S P E => q loc S (fun x S1 => l loc S1 (fun lo S2 => h loc S2 (fun hi S3 => oSl x lo hi S3 P) E) E) E
theorem de_sl {e : Expr} {lo hi : Option Expr} {q : QE} {l h : QO1} {pos p2 : Pos} (he : DE X e q) (hl : DO X lo l) (hh : DO X hi h) : DE X (.Subscript e (.Slice lo hi none p2) pos) (qSl q l h) := fun W tk => by
  refine PE.imp (pe_slice (sl_list.or (sl_tupA.or sl_str)) (he W tk) (hl W tk) (hh W tk)) fun σ H Q z => ?_
  obtain ⟨loc, S, P, E, rl, rep, hq, g, gx⟩ := z
  refine ⟨loc, S, _, E, rl, rep, hq, fun x S1 vx H1 q1 k1 rep1 r1 => ?_, gx⟩
  refine ⟨loc, S1, _, E, rl.keep k1, rep1, q1, fun lo S2 H2 q2 k2 rep2 => ?_, gx.keep k1⟩
  refine ⟨loc, S2, _, E, rl.keep (k1.trans k2), rep2, q2, fun hi S3 H3 q3 k3 rep3 => ?_, gx.keep (k1.trans k2)⟩
  have kk := k1.trans (k2.trans k3)
  have r3 := RV.keep (k2.trans k3) _ _ r1
  have alloc : ∀ xs vs, (∀ p, S3 p = none → P (.ref p) (ups S3 p (.lst (cutL xs lo hi)))) → RVs X.K H3 xs vs → ∀ p, H3 p = none → Q (.ref p) (upd H3 p (.lst (cutV vs lo hi))) := fun xs vs hp r p n =>
    g _ _ _ _ (hp p (rep3.free n)) (kk.trans (Keep.new n)) (rep3.newL n (r.cut lo hi)) rv_ofR
  cases x with
  | tup xs =>
    obtain ⟨a, vs, e, s, r⟩ := rv_tup r3
    refine .inr (.inl ⟨a, vs, e, s, fun hw => ?_, fun _ p n => ?_⟩)
    · refine g _ _ _ _ q3 kk rep3 ?_
      rw [← r.length] at hw
      rw [cutL_all hw]
      unfold RV
      exact ⟨a, vs, rfl, s, r⟩
    · exact g _ _ _ _ q3 (kk.trans (Keep.new n)) (rep3.same (same_new n)) (rv_newT n (r.cut lo hi))
  | rol xs =>
    unfold RV at r3
    obtain ⟨a, vs, e, s, r⟩ := r3
    exact .inl ⟨a, vs, e, s.sq, alloc xs vs q3 r⟩
  | ref a =>
    obtain ⟨xs, e, hp⟩ := q3
    obtain ⟨vs, s, r⟩ := rep3 _ _ e
    exact .inl ⟨a, vs, rv_ref r3, SqL.of s, alloc xs vs hp r⟩
  | str z => exact .inr (.inr ⟨z, rv_str r3, q3.1, g _ _ _ _ q3.2 kk rep3 rv_ofS⟩)
  | _ => exact (show False from q3).elim
end
end PL

namespace PL
open PySem PySem.Spec PyProof.Rows L2 -- the layers
section
variable {X : Cx}

/-! ## calls of built-ins -/
abbrev QC := List D → Sto → PD → Prop
def CDok (X : Cx) (f : Value) (q : QC) : Prop :=
  ∃ r : List V → Hp → VK → Prop, CallR X f r ∧ ∀ ds S P H vs Q, q ds S P → Rep X.K S H → RVs X.K H ds vs → GoD X.K H P Q → r vs H Q
def qCB (q : QC) (qa : QA) : QE := fun loc S P E => qa loc S (fun ds S1 => q ds S1 P) E
variable {e : Expr} {es : List Expr} {qa : QA} {q : QC} {x : Str} {p pos : Pos} {id T : String}
theorem cb_imp {K : PySem.W.Frag} {W : WX} {r : List V → Hp → VK → Prop} (hr : ∀ ds S P H vs Q, q ds S P → Rep K S H → RVs K H ds vs → GoD K H P Q → r vs H Q) {σ : L2.St} {H : Hp} {Q : VK} (h : lift K W (qCB q qa) σ H Q) : tCB r (liftA K W qa) σ H Q := by
  obtain ⟨loc, S, P, E, rl, rep, hq, g, gx⟩ := h
  exact ⟨loc, S, _, E, rl, rep, hq, fun ds S1 vs H1 q1 k1 rep1 r1 => hr ds S1 P H1 vs Q q1 rep1 r1 (g.keep k1), gx⟩
theorem de_callB (ho : CDok X (.builtin id) q) (hg : Gl X x) (hm : X.mg x = none) (hv : bootBuiltins x = some (.builtin id)) (ha : DA X (e :: es) qa) (hn : x ≠ "__name__" := by decide) (hdb : (x == ("__debug__" : Str)) = false := by decide)
    (he : starEach (e :: es) X.env = (false, eval e X.env) :: starEach es X.env := by rfl) (hpl : (backTo pos (starEach es X.env)).any (·.1) = false := by rfl) : DE X (.Call (.Name x p) (e :: es) [] pos) (qCB q qa) := fun W tk => by
  obtain ⟨r, o, hr⟩ := ho
  exact PE.imp (pe_callB o hg hm hv (ha W tk) hn hdb he hpl) fun σ H Q h => cb_imp hr h
theorem de_callTy (ho : CDok X (.type T) q) (hg : Gl X x) (hm : X.mg x = none) (hv : bootBuiltins x = some (.type T)) (ha : DA X (e :: es) qa) (hn : x ≠ "__name__" := by decide) (hdb : (x == ("__debug__" : Str)) = false := by decide)
    (he : starEach (e :: es) X.env = (false, eval e X.env) :: starEach es X.env := by rfl) (hpl : (backTo pos (starEach es X.env)).any (·.1) = false := by rfl) : DE X (.Call (.Name x p) (e :: es) [] pos) (qCB q qa) := fun W tk => by
  obtain ⟨r, o, hr⟩ := ho
  exact PE.imp (pe_callTy o hg hm hv (ha W tk) hn hdb he hpl) fun σ H Q h => cb_imp hr h
theorem rvs_one {K : PySem.W.Frag} {H : Hp} {d : D} {vs : List V} (r : RVs K H [d] vs) : ∃ v, vs = [v] ∧ RV K H d v := by
  unfold RVs at r
  obtain ⟨v, w, e, h1, h2⟩ := r
  rw [RVs.nil_iff.mp h2] at e
  exact ⟨v, e, h1⟩
theorem rvs_two {K : PySem.W.Frag} {H : Hp} {d d' : D} {vs : List V} (r : RVs K H [d, d'] vs) : ∃ v w, vs = [v, w] ∧ RV K H d v ∧ RV K H d' w := by
  unfold RVs at r
  obtain ⟨v, w, e, h1, h2⟩ := r
  obtain ⟨u, e2, h3⟩ := rvs_one h2
  subst e2
  exact ⟨v, u, e, h1, h3⟩
/-- the one argument, an int -/
def cInt (f : Int → D) : QC := fun ds S P => match ds with
  | [.int i] => P (f i) S
  | _ => False
theorem cInt_inv {f : Int → D} {ds : List D} {S : Sto} {P : PD} (h : cInt f ds S P) : ∃ i, ds = [.int i] ∧ P (f i) S := by
  unfold cInt at h
  split at h
  · exact ⟨_, rfl, h⟩
  · exact h.elim
theorem cd_abs : CDok X (.builtin "abs") (cInt fun i => .int (if i < 0 then -i else i)) := by
  refine ⟨_, call_abs, fun ds S P H vs Q q rep r go => ?_⟩
  obtain ⟨i, rfl, p⟩ := cInt_inv q
  obtain ⟨v, rfl, rv⟩ := rvs_one r
  exact ⟨i, by rw [rv_int rv], go.now p rep rv_ofI⟩
def cToInt : QC := fun ds S P => match ds with
  | [.int i] => P (.int i) S
  | [.bl b] => P (.int (if b then 1 else 0)) S
  | _ => False
theorem cd_int : CDok X (.type "int") cToInt := by
  refine ⟨_, call_int1, fun ds S P H vs Q q rep r go => ?_⟩
  unfold cToInt at q
  split at q
  · obtain ⟨v, rfl, rv⟩ := rvs_one r
    exact .inl ⟨_, by rw [rv_int rv], go.now q rep rv_ofI⟩
  · obtain ⟨v, rfl, rv⟩ := rvs_one r
    exact .inr ⟨_, by rw [rv_bl rv], go.now q rep rv_ofI⟩
  · exact q.elim
def cInt2 (f : Int → Int → D) : QC := fun ds S P => match ds with
  | [.int i, .int j] => P (f i j) S
  | _ => False
theorem cInt2_inv {f : Int → Int → D} {ds : List D} {S : Sto} {P : PD} (h : cInt2 f ds S P) : ∃ i j, ds = [.int i, .int j] ∧ P (f i j) S := by
  unfold cInt2 at h
  split at h
  · exact ⟨_, _, rfl, h⟩
  · exact h.elim
theorem cd_max2 (hc : X.calm = true) : CDok X (.builtin "max") (cInt2 fun i j => .int (if j > i then j else i)) := by
  refine ⟨_, call_max2 hc, fun ds S P H vs Q q rep r go => ?_⟩
  obtain ⟨i, j, rfl, p⟩ := cInt2_inv q
  obtain ⟨v, w, rfl, r1, r2⟩ := rvs_two r
  exact ⟨i, j, by rw [rv_int r1, rv_int r2], go.now p rep rv_ofI⟩
theorem cd_min2 (hc : X.calm = true) : CDok X (.builtin "min") (cInt2 fun i j => .int (if j < i then j else i)) := by
  refine ⟨_, call_min2 hc, fun ds S P H vs Q q rep r go => ?_⟩
  obtain ⟨i, j, rfl, p⟩ := cInt2_inv q
  obtain ⟨v, w, rfl, r1, r2⟩ := rvs_two r
  exact ⟨i, j, by rw [rv_int r1, rv_int r2], go.now p rep rv_ofI⟩
def cLen : QC := fun ds S P => match ds with
  | [.str z] => z.length ≤ sizeLine ∧ P (.int z.length) S
  | [.tup xs] => P (.int xs.length) S
  | [.rol xs] => P (.int xs.length) S
  | [.ref a] => ∃ xs, S a = some (.lst xs) ∧ P (.int xs.length) S
  | _ => False
theorem cd_len : CDok X (.builtin "len") cLen := by
  refine ⟨_, call_len, fun ds S P H vs Q q rep r go => ?_⟩
  unfold cLen at q
  split at q
  · obtain ⟨v, rfl, rv⟩ := rvs_one r
    exact ⟨v, _, rfl, by rw [rv_str rv]; exact ⟨q.1, rfl⟩, go.now q.2 rep rv_ofI⟩
  · obtain ⟨v, rfl, rv⟩ := rvs_one r
    obtain ⟨a, ws, e, s, r2⟩ := rv_tup rv
    subst e
    exact ⟨_, _, rfl, .inr ⟨ws, s, rfl⟩, by rw [← r2.length]; exact go.now q rep rv_ofI⟩
  · obtain ⟨v, rfl, rv⟩ := rvs_one r
    unfold RV at rv
    obtain ⟨a, ws, e, s, r2⟩ := rv
    subst e
    exact ⟨_, _, rfl, .inl ⟨ws, s.sq, rfl⟩, by rw [← r2.length]; exact go.now q rep rv_ofI⟩
  · obtain ⟨v, rfl, rv⟩ := rvs_one r
    rw [rv_ref rv]
    obtain ⟨xs, e, p⟩ := q
    obtain ⟨ws, s, r2⟩ := rep _ _ e
    exact ⟨_, _, rfl, .inl ⟨ws, SqL.of s, rfl⟩, by rw [← r2.length]; exact go.now p rep rv_ofI⟩
  · exact q.elim
/-- what repr shows of data -/
def good (p : PyData) : Prop := p.showable = true ∧ p.hasDict = false ∧ p.shown.length ≤ sizeLine ∧ p.depth ≤ 60
def cRepr : QC := fun ds S P => ∃ d p, ds = [d] ∧ (∃ a, d = .ref a) ∧ Dat S d p ∧ good p ∧ P (.str p.shown) S
theorem cd_repr (hG : X.A.guards = some []) (hu : X.A.units + 64 < cLine) : CDok X (.builtin "repr") cRepr := by
  refine ⟨fun vs H Q => ∃ a p, vs = [.ref a] ∧ Dp X.K H (.ref a) p ∧ good p ∧ Q (.str p.shown) H, fun pins s σ H xs us Q I r h => ?_, fun ds S P H vs Q q rep r go => ?_⟩
  · obtain ⟨a, p, rfl, hd, ⟨g1, g2, g3, g4⟩, hq⟩ := h
    obtain ⟨u, rfl, ru⟩ := vals1 r
    cases ru
    obtain ⟨as, hr⟩ := Dp.reads I p _ _ hd rfl
    refine repr_of_reads' hr g1 (fun z => by rw [g2] at z; cases z) hG (by omega) (fun _ _ z => z) (fun h' u tk hk => ?_) g3
    exact ⟨.str p.shown, H, I.kept hk, ⟨_, rfl⟩, hq⟩
  · obtain ⟨d, p, rfl, ⟨a, rfl⟩, hd, hg, hp⟩ := q
    obtain ⟨v, rfl, rv⟩ := rvs_one r
    have rv' := rv
    rw [rv_ref rv] at rv' ⊢
    exact ⟨a, p, rfl, Dat.dp rep _ _ _ hd rv', hg, go.now hp rep rv_ofS⟩
/-- tuple(x), list(x) -/
def cTuple : QC := fun ds S P => match ds with
  | [.tup xs] => P (.tup xs) S
  | [.rol xs] => P (.tup xs) S
  | [.ref a] => ∃ xs, S a = some (.lst xs) ∧ P (.tup xs) S
  | _ => False
theorem cd_tuple : CDok X (.type "tuple") cTuple := by
  refine ⟨_, call_tuple_of, fun ds S P H vs Q q rep r go => ?_⟩
  unfold cTuple at q
  split at q
  · obtain ⟨v, rfl, rv⟩ := rvs_one r
    obtain ⟨a, ws, e, s, r2⟩ := rv_tup rv
    subst e
    exact ⟨a, ws, rfl, .inr ⟨s, go.now q rep rv⟩⟩
  · obtain ⟨v, rfl, rv⟩ := rvs_one r
    unfold RV at rv
    obtain ⟨a, ws, e, s, r2⟩ := rv
    subst e
    exact ⟨a, ws, rfl, .inl ⟨s.sq, fun l n => go _ _ _ _ q (Keep.new n) (rep.same (same_new n)) (rv_newT n r2)⟩⟩
  · obtain ⟨v, rfl, rv⟩ := rvs_one r
    rw [rv_ref rv]
    obtain ⟨xs, e, p⟩ := q
    obtain ⟨ws, s, r2⟩ := rep _ _ e
    exact ⟨_, ws, rfl, .inl ⟨SqL.of s, fun l n => go _ _ _ _ p (Keep.new n) (rep.same (same_new n)) (rv_newT n r2)⟩⟩
  · exact q.elim
def cList : QC := fun ds S P => match ds with
  | [.tup xs] => ∀ p, S p = none → P (.ref p) (ups S p (.lst xs))
  | [.rol xs] => ∀ p, S p = none → P (.ref p) (ups S p (.lst xs))
  | [.ref a] => ∃ xs, S a = some (.lst xs) ∧ ∀ p, S p = none → P (.ref p) (ups S p (.lst xs))
  | _ => False
theorem cd_list : CDok X (.type "list") cList := by
  refine ⟨_, call_list_of, fun ds S P H vs Q q rep r go => ?_⟩
  have fin : ∀ xs ws, (∀ p, S p = none → P (.ref p) (ups S p (.lst xs))) → RVs X.K H xs ws → ∀ l, H l = none → Q (.ref l) (upd H l (.lst ws)) := fun xs ws h r2 l n => go _ _ _ _ (h l (rep.free n)) (Keep.new n) (rep.newL n r2) rv_ofR
  unfold cList at q
  split at q
  · obtain ⟨v, rfl, rv⟩ := rvs_one r
    obtain ⟨a, ws, e, s, r2⟩ := rv_tup rv
    subst e
    exact ⟨a, ws, rfl, .inr s, fin _ _ q r2⟩
  · obtain ⟨v, rfl, rv⟩ := rvs_one r
    unfold RV at rv
    obtain ⟨a, ws, e, s, r2⟩ := rv
    subst e
    exact ⟨a, ws, rfl, .inl s.sq, fin _ _ q r2⟩
  · obtain ⟨v, rfl, rv⟩ := rvs_one r
    rw [rv_ref rv]
    obtain ⟨xs, e, p⟩ := q
    obtain ⟨ws, s, r2⟩ := rep _ _ e
    exact ⟨_, ws, rfl, .inl (SqL.of s), fin _ _ p r2⟩
  · exact q.elim
/-- all, any of a list of bools -/
def cBools (f : List Bool → Bool) : QC := fun ds S P => ∃ (d : D) (bs : List Bool), ds = [d] ∧ LsAt S d (bs.map D.bl) ∧ P (.bl (f bs)) S
theorem rvs_bls {K : PySem.W.Frag} {H : Hp} : ∀ {bs : List Bool} {vs : List V}, RVs K H (bs.map D.bl) vs → vs = bs.map V.bl
  | [], vs, r => RVs.nil_iff.mp r
  | b :: bs, vs, r => by
    have r' : RVs K H (D.bl b :: bs.map D.bl) vs := r
    unfold RVs at r'
    obtain ⟨v, w, e, h1, h2⟩ := r'
    rw [e, rv_bl h1, rvs_bls h2]
    rfl
theorem rvs_ints {K : PySem.W.Frag} {H : Hp} : ∀ {bs : List Int} {vs : List V}, RVs K H (bs.map D.int) vs → vs = bs.map V.int
  | [], vs, r => RVs.nil_iff.mp r
  | b :: bs, vs, r => by
    have r' : RVs K H (D.int b :: bs.map D.int) vs := r
    unfold RVs at r'
    obtain ⟨v, w, e, h1, h2⟩ := r'
    rw [e, rv_int h1, rvs_ints h2]
    rfl
theorem rvs_strs {K : PySem.W.Frag} {H : Hp} : ∀ {bs : List Str} {vs : List V}, RVs K H (bs.map D.str) vs → vs = bs.map V.str
  | [], vs, r => RVs.nil_iff.mp r
  | b :: bs, vs, r => by
    have r' : RVs K H (D.str b :: bs.map D.str) vs := r
    unfold RVs at r'
    obtain ⟨v, w, e, h1, h2⟩ := r'
    rw [e, rv_str h1, rvs_strs h2]
    rfl
theorem cd_bools {id : String} {f : List Bool → Bool} (h : CallR X (.builtin id) fun vs H Q => ∃ (a : Addr) (bs : List Bool), vs = [V.ref a] ∧ SqL X.K H a (bs.map V.bl) ∧ Q (.bl (f bs)) H) : CDok X (.builtin id) (cBools f) := by
  refine ⟨_, h, fun ds S P H vs Q q rep r go => ?_⟩
  obtain ⟨d, bs, rfl, l, p⟩ := q
  obtain ⟨v, rfl, rv⟩ := rvs_one r
  obtain ⟨a, ws, e, s, r2⟩ := l.sq rep rv
  subst e
  rw [rvs_bls r2] at s
  exact ⟨a, bs, rfl, s, go.now p rep rv_ofB⟩
theorem cd_all (hc : X.calm = true) : CDok X (.builtin "all") (cBools fun bs => bs.all _root_.id) := cd_bools (cr_all hc)
theorem cd_any (hc : X.calm = true) : CDok X (.builtin "any") (cBools fun bs => bs.any _root_.id) := cd_bools (cr_any hc)
def cSum : QC := fun ds S P => ∃ (d : D) (ns : List Int), ds = [d] ∧ LsAt S d (ns.map D.int) ∧ P (.int ns.sum) S
theorem cd_sum (hc : X.calm = true) : CDok X (.builtin "sum") cSum := by
  refine ⟨_, cr_sum hc, fun ds S P H vs Q q rep r go => ?_⟩
  obtain ⟨d, bs, rfl, l, p⟩ := q
  obtain ⟨v, rfl, rv⟩ := rvs_one r
  obtain ⟨a, ws, e, s, r2⟩ := l.sq rep rv
  subst e
  rw [rvs_ints r2] at s
  exact ⟨a, bs, rfl, s, go.now p rep rv_ofI⟩

/-! ## methods of lists -/
/-- a method of a list at an address -/
abbrev QM := Addr → List D → List D → Sto → PD → Prop
def qMeth (f : QM) (q : QE) (qa : QA) : QE := fun loc S P E => q loc S (fun d S1 => match d with
  | .ref a => (∃ xs, S1 a = some (.lst xs)) ∧ qa loc S1 (fun ds S2 => ∃ xs, S2 a = some (.lst xs) ∧ f a xs ds S2 P) E
  | _ => False) E
def qMeth0 (f : QM) (q : QE) : QE := fun loc S P E => q loc S (fun d S1 => match d with
  | .ref a => ∃ xs, S1 a = some (.lst xs) ∧ f a xs [] S1 P
  | _ => False) E
def MDok (X : Cx) (id : String) (f : QM) : Prop :=
  ∃ r, MtR X id r ∧ ∀ a xs ds S P H us vs Q, f a xs ds S P → Rep X.K S H → S a = some (.lst xs) → H a = some (.lst us) → RVs X.K H xs us → RVs X.K H ds vs → GoD X.K H P Q → r (.ref a) vs H Q
theorem de_meth {o : Expr} {q : QE} {f : QM} {name : Str} {apos cpos : Pos} (slot : Slot "list" name id) (hty : typeOf (.builtin id) = pure (.type "method_descriptor")) (hm : MDok X id f) (ho : DE X o q) (ha : DA X (e :: es) qa)
    (hbase : attributeBase o name X.env (eval o X.env) = eval o X.env := by rfl)
    (hfew : ((backTo cpos (starEach (e :: es) X.env)).all (fun x => !x.1) && (backToKw cpos (keywordEach [] X.env)).all (fun x => x.1.isSome)
      && decide ((e :: es).length + ([] : List Keyword).length + (if ([] : List Keyword).isEmpty then 0 else 1) < 30)) = true := by rfl)
    (hline : (apos.endLine == cpos.line) = true := by rfl) (hs : starEach (e :: es) X.env = (false, eval e X.env) :: starEach es X.env := by rfl) (hplain : (backTo cpos (starEach es X.env)).any (·.1) = false := by rfl) :
    DE X (.Call (.Attribute o name apos) (e :: es) [] cpos) (qMeth f q qa) := fun W tk => by
  obtain ⟨r, hr, hi⟩ := hm
  refine PE.imp (pe_bm PySem.F.plainAttrs_list slot hty hr (ho W tk) (ha W tk) hbase hfew hline hs hplain) fun σ H Q h => ?_
  obtain ⟨loc, S, P, E, rl, rep, hq, g, gx⟩ := h
  refine ⟨loc, S, _, E, rl, rep, hq, fun d S1 v H1 q1 k1 rep1 r1 => ?_, gx⟩
  cases d with
  | ref a =>
    obtain ⟨⟨xs, e1⟩, q1⟩ := q1
    rw [rv_ref r1]
    obtain ⟨us, f1, _⟩ := rep1 _ _ e1
    refine ⟨.inl ⟨rfl, us, SqL.of f1⟩, ?_⟩
    refine ⟨loc, S1, _, E, rl.keep k1, rep1, q1, fun ds S2 vs H2 q2 k2 rep2 r2 => ?_, gx.keep k1⟩
    obtain ⟨ys, e2, q2⟩ := q2
    obtain ⟨ws, f2, rw2⟩ := rep2 _ _ e2
    exact hi a ys ds S2 P H2 ws vs Q q2 rep2 e2 f2 rw2 r2 (g.keep (k1.trans k2))
  | _ => exact (show False from q1).elim
theorem de_meth0 {o : Expr} {q : QE} {f : QM} {name : Str} {apos cpos : Pos} (slot : Slot "list" name id) (hty : typeOf (.builtin id) = pure (.type "method_descriptor")) (hm : MDok X id f) (ho : DE X o q)
    (hbase : attributeBase o name X.env (eval o X.env) = eval o X.env := by rfl) (hline : (apos.endLine == cpos.line) = true := by rfl) : DE X (.Call (.Attribute o name apos) [] [] cpos) (qMeth0 f q) := fun W tk => by
  obtain ⟨r, hr, hi⟩ := hm
  refine PE.imp (pe_bm0 PySem.F.plainAttrs_list slot hty hr (ho W tk) hbase hline) fun σ H Q h => ?_
  obtain ⟨loc, S, P, E, rl, rep, hq, g, gx⟩ := h
  refine ⟨loc, S, _, E, rl, rep, hq, fun d S1 v H1 q1 k1 rep1 r1 => ?_, gx⟩
  cases d with
  | ref a =>
    obtain ⟨xs, e1, q1⟩ := q1
    rw [rv_ref r1]
    obtain ⟨us, f1, rw1⟩ := rep1 _ _ e1
    exact ⟨.inl ⟨rfl, us, SqL.of f1⟩, hi a xs [] S1 P H1 us [] Q q1 rep1 e1 f1 rw1 (RVs.nil_iff.mpr rfl) (g.keep k1)⟩
  | _ => exact (show False from q1).elim
def mAppend : QM := fun a xs ds S P => match ds with
  | [d] => xs.length < sizeLine ∧ P .non (ups S a (.lst (xs ++ [d])))
  | _ => False
theorem keepL {K : PySem.W.Frag} {H : Hp} {a : Addr} {us : List V} {o : HO} (h : H a = some (.lst us)) : Keep K H (upd H a o) := Keep.mut h (fun _ z => by cases z) (fun _ _ z => by cases z)
theorem md_append : MDok X "list.append" mAppend := by
  refine ⟨_, mt_append, fun a xs ds S P H us vs Q q rep e f rx rd go => ?_⟩
  unfold mAppend at q
  split at q
  · obtain ⟨v, rfl, rv⟩ := rvs_one rd
    refine ⟨a, us, v, rfl, rfl, f, by rw [← rx.length]; exact q.1, ?_⟩
    exact go _ _ _ _ q.2 (keepL f) (rep.setL f (rx.append (RVs.one rv))) rv_ofN
  · exact q.elim
theorem de_append {o : Expr} {q : QE} {apos cpos : Pos} (ho : DE X o q) (ha : DA X (e :: es) qa)
    (hbase : attributeBase o "append" X.env (eval o X.env) = eval o X.env := by rfl)
    (hfew : ((backTo cpos (starEach (e :: es) X.env)).all (fun x => !x.1) && (backToKw cpos (keywordEach [] X.env)).all (fun x => x.1.isSome)
      && decide ((e :: es).length + ([] : List Keyword).length + (if ([] : List Keyword).isEmpty then 0 else 1) < 30)) = true := by rfl)
    (hline : (apos.endLine == cpos.line) = true := by rfl) (hs : starEach (e :: es) X.env = (false, eval e X.env) :: starEach es X.env := by rfl) (hplain : (backTo cpos (starEach es X.env)).any (·.1) = false := by rfl) :
    DE X (.Call (.Attribute o "append" apos) (e :: es) [] cpos) (qMeth mAppend q qa) := de_meth PySem.F.slot_list_append PySem.F.type_list_append md_append ho ha hbase hfew hline hs hplain
end
end PL

namespace PL
open PySem PySem.Spec PyProof.Rows L2 -- the layers
section
variable {X : Cx} {W : WX} {σ : L2.St} {H : Hp}

/-! ## blocks, small statements -/
def sNext : QS := fun P loc S => P.nx loc S
def sSeq (t u : QS) : QS := fun P loc S => t { P with nx := fun loc' S' => u P loc' S' } loc S
theorem db_nil : DB X [] sNext := fun W _ => PSs.imp pss_nil fun D σ H h => by
  obtain ⟨loc, S, P, rl, rep, q, g⟩ := h
  exact g.nx _ _ _ _ q Keep.refl rl rep
theorem db_cons {st : Stmt} {rest : List Stmt} {t u : QS} (h1 : DS X st t) (h2 : DB X rest u) : DB X (st :: rest) (sSeq t u) := fun W tk => by
  refine PSs.imp (pss_cons (h1 W tk) (h2 W tk)) fun D σ H h => ?_
  obtain ⟨loc, S, P, rl, rep, q, g⟩ := h
  exact ⟨loc, S, { P with nx := fun loc' S' => u P loc' S' }, rl, rep, q, fun loc' S' σ' H' p k rl' rep' => ⟨loc', S', P, rl', rep', p, g.keep k⟩, g.rt, g.bk, g.ct, g.ex⟩
theorem db_one {st : Stmt} {t : QS} (h : DS X st t) : DB X [st] t := fun W tk => pss_one (h W tk)
def sBreak : QS := fun P loc S => P.bk loc S
def sCont : QS := fun P loc S => P.ct loc S
theorem ds_pass {pos : Pos} : DS X (.Pass pos) sNext := fun W _ => PS.imp ps_pass fun D σ H h => by
  obtain ⟨loc, S, P, rl, rep, q, g⟩ := h
  exact g.nx _ _ _ _ q Keep.refl rl rep
theorem ds_break {pos : Pos} : DS X (.Break pos) sBreak := fun W _ => PS.imp ps_break fun D σ H h => by
  obtain ⟨loc, S, P, rl, rep, q, g⟩ := h
  exact g.bk _ _ _ _ q Keep.refl rl rep
theorem ds_continue {pos : Pos} : DS X (.Continue pos) sCont := fun W _ => PS.imp ps_continue fun D σ H h => by
  obtain ⟨loc, S, P, rl, rep, q, g⟩ := h
  exact g.ct _ _ _ _ q Keep.refl rl rep
variable {e : Expr} {q : QE} {pos : Pos}
/-- an expression's exceptions leave the statement -/
theorem GoN.gx {K : PySem.W.Frag} {P : QN} {D : Ends} {loc : Loc} (g : GoN K H P D W) (rl : RL K H loc σ) : GoX K H σ (fun x S' => P.ex x loc S') W := fun x S' H' c d p k rep rx => g.ex x loc S' σ H' c d p k (rl.keep k) rep rx
def sDrop (q : QE) : QS := fun P loc S => q loc S (fun _ S1 => P.nx loc S1) fun x S1 => P.ex x loc S1
theorem ds_expr (he : DE X e q) (hs : swapsWith e none pos.line X.env = pure false := by rfl) : DS X (.Expr e pos) (sDrop q) := fun W tk => by
  refine PS.imp (ps_expr (he W tk) hs) fun D σ H h => ?_
  obtain ⟨loc, S, P, rl, rep, hq, g⟩ := h
  exact ⟨loc, S, _, _, rl, rep, hq, fun d S1 v H1 q1 k1 rep1 r1 => g.nx _ _ _ _ q1 k1 (rl.keep k1) rep1, g.gx rl⟩
def sRet (q : QE) : QS := fun P loc S => q loc S P.rt fun x S1 => P.ex x loc S1
theorem ds_ret (he : DE X e q) : DS X (.Return (some e) pos) (sRet q) := fun W tk => by
  refine PS.imp (ps_ret (he W tk)) fun D σ H h => ?_
  obtain ⟨loc, S, P, rl, rep, hq, g⟩ := h
  exact ⟨loc, S, _, _, rl, rep, hq, g.rt, g.gx rl⟩
def sRetN : QS := fun P _ S => P.rt .non S
theorem ds_retN : DS X (.Return none pos) sRetN := fun W _ => PS.imp ps_retN fun D σ H h => by
  obtain ⟨loc, S, P, rl, rep, hq, g⟩ := h
  exact g.rt.now hq rep rv_ofN
def sIf (c : QT) (t u : QS) : QS := fun P loc S => c loc S (fun b S1 => if b = true then t P loc S1 else u P loc S1) fun x S1 => P.ex x loc S1
theorem ds_if {c : Expr} {a b : List Stmt} {tc : QT} {t u : QS} (hc : DT X c tc) (ha : DB X a t) (hb : DB X b u) : DS X (.If c a b pos) (sIf tc t u) := fun W tk => by
  refine PS.imp (ps_if (hc W tk) (ha W tk) (hb W tk)) fun D σ H h => ?_
  obtain ⟨loc, S, P, rl, rep, hq, g⟩ := h
  refine ⟨loc, S, _, _, rl, rep, hq, fun b S1 H1 q1 k1 rep1 => ?_, g.gx rl⟩
  cases b with
  | true =>
    refine iteT ?_
    exact ⟨loc, S1, P, rl.keep k1, rep1, q1, g.keep k1⟩
  | false =>
    refine iteF ?_
    exact ⟨loc, S1, P, rl.keep k1, rep1, q1, g.keep k1⟩

/-! ## targets -/
abbrev QG := D → Loc → Sto → (Loc → Sto → Prop) → PX → Prop
abbrev QGs := List D → Loc → Sto → (Loc → Sto → Prop) → PX → Prop
def liftG (K : PySem.W.Frag) (W : WX) (q : QG) : TG := fun v σ H Q => ∃ d loc S P E, RV K H d v ∧ RL K H loc σ ∧ Rep K S H ∧ q d loc S P E ∧ GoL K H P Q ∧ GoX K H σ E W
def liftGs (K : PySem.W.Frag) (W : WX) (q : QGs) : TGs := fun vs σ H Q => ∃ ds loc S P E, RVs K H ds vs ∧ RL K H loc σ ∧ Rep K S H ∧ q ds loc S P E ∧ GoL K H P Q ∧ GoX K H σ E W
def DG (X : Cx) (t : Expr) (q : QG) : Prop := ∀ W, L2N.Takes X W → PG X t (liftG X.K W q)
def DGs (X : Cx) (ts : List Expr) (q : QGs) : Prop := ∀ W, L2N.Takes X W → PGs X ts (liftGs X.K W q)
theorem PG.imp {e : Expr} {t t' : TG} (h : PG X e t) (i : ∀ v σ H Q, t' v σ H Q → t v σ H Q) : PG X e t' := ⟨fun p s σ H v u Q I r q => h.run p s σ H v u Q I r (i _ _ _ _ q)⟩
theorem PGs.imp {e : List Expr} {t t' : TGs} (h : PGs X e t) (i : ∀ v σ H Q, t' v σ H Q → t v σ H Q) : PGs X e t' := ⟨fun p s σ H v u Q I r q => h.run p s σ H v u Q I r (i _ _ _ _ q)⟩
def gN (i : Nat) : QG := fun d loc S P _ => P (loc.set i (some d)) S
theorem dg_name {i : Nat} {x : Str} (hN : X.N.Nodup) (hi : X.N[i]? = some x) (hx : L2.Loc X.env.scope x) (hf : X.fn x = true ∨ X.env.scope.names.lookup x = some .local := by first | exact .inl rfl | exact .inr rfl | assumption) : DG X (.Name x pos) (gN i) := fun W _ => by
  refine PG.imp (pg_name hN hi hx hf) fun v σ H Q h => ?_
  obtain ⟨d, loc, S, P, E, rv, rl, rep, hq, g, _⟩ := h
  exact g _ _ _ _ hq Keep.refl (rl.set rv i) rep
def gE : QGs := fun ds loc S P _ => ds = [] ∧ P loc S
def gC (t : QG) (u : QGs) : QGs := fun ds loc S P E => match ds with
  | d :: r => t d loc S (fun loc' S' => u r loc' S' P fun _ _ => False) E
  | [] => False
theorem dgs_nil : DGs X [] gE := fun W _ => by
  refine PGs.imp pgs_nil fun v σ H Q h => ?_
  obtain ⟨ds, loc, S, P, E, rv, rl, rep, ⟨e, hq⟩, g, _⟩ := h
  subst e
  exact ⟨RVs.nil_iff.mp rv, g _ _ _ _ hq Keep.refl rl rep⟩
theorem dgs_cons {e : Expr} {es : List Expr} {t : QG} {u : QGs} (h1 : DG X e t) (h2 : DGs X es u)
    (hs : (assignEach (e :: es) X.env).map (·.2) = assign e X.env :: (assignEach es X.env).map (·.2) := by rfl) : DGs X (e :: es) (gC t u) := fun W tk => by
  refine PGs.imp (pgs_cons (h1 W tk) (h2 W tk) hs) fun v σ H Q h => ?_
  obtain ⟨ds, loc, S, P, E, rv, rl, rep, hq, g, gx⟩ := h
  cases ds with
  | nil => exact (show False from hq).elim
  | cons d r =>
    unfold RVs at rv
    obtain ⟨w, ws, e, r1, r2⟩ := rv
    refine ⟨w, ws, e, d, loc, S, _, E, r1, rl, rep, hq, fun loc' S' σ' H' p k rl' rep' => ?_, gx⟩
    exact ⟨r, loc', S', P, _, RVs.keep k _ _ r2, rl', rep', p, g.keep k, fun _ _ _ _ _ z => z.elim⟩
/-- a, b = a tuple -/
def gT (n : Nat) (t : QGs) : QG := fun d loc S P E => match d with
  | .tup xs => xs.length = n ∧ t xs loc S P E
  | _ => False
theorem dg_tup {es : List Expr} {k : Nat} {t : QGs} {n : Nat} (hc : X.calm = true) (h : DGs X es t)
    (hn : (assignEach es X.env).length = n := by rfl) (hst : (assignEach es X.env).findIdx? (·.1) = none := by rfl) : DG X (.Tuple es k pos) (gT n t) := fun W tk => by
  refine PG.imp (pg_tup hc (h W tk) hn hst) fun v σ H Q h => ?_
  obtain ⟨d, loc, S, P, E, rv, rl, rep, hq, g, gx⟩ := h
  cases d with
  | tup xs =>
    obtain ⟨a, vs, e, s, r⟩ := rv_tup rv
    exact ⟨a, vs, e, s, by rw [← r.length]; exact hq.1, xs, loc, S, P, E, r, rl, rep, hq.2, g, gx⟩
  | _ => exact (show False from hq).elim
/-- a, b = a list -/
def gL (n : Nat) (t : QGs) : QG := fun d loc S P E => ∃ xs, LsAt S d xs ∧ xs.length = n ∧ t xs loc S P E
theorem dg_lst {es : List Expr} {k : Nat} {t : QGs} {n : Nat} (hc : X.calm = true) (h : DGs X es t)
    (hn : (assignEach es X.env).length = n := by rfl) (hst : (assignEach es X.env).findIdx? (·.1) = none := by rfl) : DG X (.Tuple es k pos) (gL n t) := fun W tk => by
  refine PG.imp (pg_lst hc (h W tk) hn hst) fun v σ H Q h => ?_
  obtain ⟨d, loc, S, P, E, rv, rl, rep, ⟨xs, l, hz, hq⟩, g, gx⟩ := h
  obtain ⟨a, vs, e, s, r⟩ := l.sq rep rv
  exact ⟨a, vs, e, s, by rw [← r.length]; exact hz, xs, loc, S, P, E, r, rl, rep, hq, g, gx⟩
/-- o[i] = .. of a list -/
def gS (qo qi : QE) : QG := fun d loc S P E => qo loc S (fun o S1 => qi loc S1 (fun i S2 => match o, i with
  | .ref a, .int k => ∃ xs j, S2 a = some (.lst xs) ∧ ixN xs.length k = some j ∧ P loc (ups S2 a (.lst (xs.set j d)))
  | _, _ => False) E) E
theorem dg_sub {o i : Expr} {qo qi : QE} (ho : DE X o qo) (hi : DE X i qi)
    (ha : ∀ v, assign (.Subscript o i pos) X.env v = (do
      let ov ← holding [v] (eval o X.env)
      let iv ← holding [v, ov] (eval i X.env)
      standAt pos
      holding [v, ov, iv] (setItem ov iv v)
      release [v, ov, iv] []) := by intro _; rfl) : DG X (.Subscript o i pos) (gS qo qi) := fun W tk => by
  refine PG.imp (pg_sub (ho W tk) (hi W tk) set_list ha) fun v σ H Q h => ?_
  obtain ⟨d, loc, S, P, E, rv, rl, rep, hq, g, gx⟩ := h
  refine ⟨loc, S, _, E, rl, rep, hq, fun x S1 vx H1 q1 k1 rep1 r1 => ?_, gx⟩
  refine ⟨loc, S1, _, E, rl.keep k1, rep1, q1, fun y S2 vy H2 q2 k2 rep2 r2 => ?_, gx.keep k1⟩
  cases x <;> first | exact (show False from q2).elim | skip
  cases y <;> first | exact (show False from q2).elim | skip
  rename_i a k
  obtain ⟨xs, j, e1, e2, p⟩ := q2
  obtain ⟨us, f1, ru⟩ := rep2 _ _ e1
  refine ⟨a, us, k, j, rv_ref r1, rv_int r2, f1, by rw [← ru.length]; exact e2, ?_⟩
  have kk := k1.trans (k2.trans (keepL (o := .lst (us.set j v)) f1))
  exact g _ _ _ _ p kk (rl.keep kk) (rep2.setL f1 (RVs.set (RV.keep (k1.trans k2) _ _ rv) j ru))
def sAsg (q : QE) (g : QG) : QS := fun P loc S => q loc S (fun d S1 => g d loc S1 P.nx fun x S2 => P.ex x loc S2) fun x S1 => P.ex x loc S1
theorem ds_asg {tg : Expr} {g : QG} (he : DE X e q) (hg : DG X tg g) (hs : swapsWithSole [tg] e pos.line X.env = pure false := by rfl) (hw : swappedStores [tg] e X.env = pure none := by rfl)
    (h1 : (assignEach [tg] X.env).map (·.2) = [assign tg X.env] := by rfl) : DS X (.Assign [tg] e pos) (sAsg q g) := fun W tk => by
  refine PS.imp (ps_asg (he W tk) (hg W tk) hs hw h1) fun D σ H h => ?_
  obtain ⟨loc, S, P, rl, rep, hq, go⟩ := h
  refine ⟨loc, S, _, _, rl, rep, hq, fun d S1 v H1 q1 k1 rep1 r1 => ?_, go.gx rl⟩
  exact ⟨d, loc, S1, _, _, r1, rl.keep k1, rep1, q1, go.nx.keep k1, (go.keep k1).gx (rl.keep k1)⟩
def sSet (i : Nat) (q : QE) : QS := fun P loc S => q loc S (fun d S1 => P.nx (loc.set i (some d)) S1) fun x S1 => P.ex x loc S1
theorem ds_set {i : Nat} {x : Str} {pos' : Pos} (hN : X.N.Nodup) (hi : X.N[i]? = some x) (hx : L2.Loc X.env.scope x) (he : DE X e q) (hs : swapsWith e (some (.Name x pos')) pos.line X.env = pure false := by rfl) (hf : X.fn x = true ∨ X.env.scope.names.lookup x = some .local := by first | exact .inl rfl | exact .inr rfl | assumption) :
    DS X (.Assign [.Name x pos'] e pos) (sSet i q) := fun W tk => by
  refine PS.imp (ps_set hN hi hx (he W tk) hs hf) fun D σ H h => ?_
  obtain ⟨loc, S, P, rl, rep, hq, g⟩ := h
  exact ⟨loc, S, _, _, rl, rep, hq, fun d S1 v H1 q1 k1 rep1 r1 => g.nx _ _ _ _ q1 k1 ((rl.keep k1).set r1 i) rep1, g.gx rl⟩
/-- a, b = x, y of local names -/
def sPar (i j : Nat) (qa : QA) : QS := fun P loc S => qa loc S (fun ds S1 => match ds with
  | [d, d'] => P.nx ((loc.set i (some d)).set j (some d')) S1
  | _ => False) fun x S1 => P.ex x loc S1
theorem ds_par {i j : Nat} {x y : Str} {a b : Expr} {qa : QA} {px py pt : Pos} {kt k2 pt2} (hc : X.calm = true) (hN : X.N.Nodup) (hi : X.N[i]? = some x) (hj : X.N[j]? = some y) (hij : i ≠ j)
    (hx : X.env.scope.names.lookup x = some .local) (hy : X.env.scope.names.lookup y = some .local) (ha : DA X [a, b] qa)
    (hw : swappedStores [.Tuple [.Name x px, .Name y py] kt pt] (.Tuple [a, b] k2 pt2) X.env = pure (some [x, y]))
    (hs : swapsWithSole [.Tuple [.Name x px, .Name y py] kt pt] (.Tuple [a, b] k2 pt2) pos.line X.env = pure false := by rfl) :
    DS X (.Assign [.Tuple [.Name x px, .Name y py] kt pt] (.Tuple [a, b] k2 pt2) pos) (sPar i j qa) := fun W tk => by
  refine PS.imp (ps_par hc hN hi hj hij hx hy (ha W tk) hw hs) fun D σ H h => ?_
  obtain ⟨loc, S, P, rl, rep, hq, g⟩ := h
  refine ⟨loc, S, _, _, rl, rep, hq, fun ds S1 vs H1 q1 k1 rep1 r1 => ?_, g.gx rl⟩
  dsimp only at q1
  split at q1
  · obtain ⟨v, w, e, r2, r3⟩ := rvs_two r1
    exact ⟨v, w, e, g.nx _ _ _ _ q1 k1 (((rl.keep k1).set r2 i).set r3 j) rep1⟩
  · exact q1.elim

/-! ## while -/
def sWhile (c : QT) (tb : QS) : QS := fun P loc S => ∃ V : Nat → Loc → Sto → Prop, (∃ m, V m loc S) ∧ ∀ m loc S, V m loc S →
  c loc S (fun b S1 => if b = true then tb { P with nx := fun loc' S' => ∃ m', m' < m ∧ V m' loc' S', ct := fun loc' S' => ∃ m', m' < m ∧ V m' loc' S', bk := P.nx } loc S1 else P.nx loc S1) fun x S1 => P.ex x loc S1
theorem ds_while {c : Expr} {body : List Stmt} {tc : QT} {tb : QS} (hp : PassesOwn (model X.prog X.w) X.A X.env X.xe) (hc : DT X c tc) (hb : DB X body tb) : DS X (.While c body [] pos) (sWhile tc tb) := fun W tk => by
  refine PS.imp (ps_while hp (hc W tk) (hb W tk)) fun D σ H h => ?_
  obtain ⟨loc, S, P, rl, rep, ⟨V, ⟨m0, v0⟩, turn⟩, g⟩ := h
  refine ⟨fun m σ' H' => ∃ loc' S', Keep X.K H H' ∧ RL X.K H' loc' σ' ∧ Rep X.K S' H' ∧ V m loc' S', ⟨m0, loc, S, Keep.refl, rl, rep, v0⟩, ?_⟩
  rintro m σ1 H1 ⟨loc1, S1, k1, rl1, rep1, v1⟩
  have g1 := g.keep k1
  refine ⟨loc1, S1, _, _, rl1, rep1, turn m loc1 S1 v1, fun b S2 H2 q2 k2 rep2 => ?_, g1.gx rl1⟩
  have rl2 := rl1.keep k2
  have g2 := g1.keep k2
  cases b with
  | false =>
    refine iteF ?_
    exact g2.nx _ _ _ _ q2 Keep.refl rl2 rep2
  | true =>
    refine iteT ⟨fun σ' H' => ∃ m', m' < m ∧ ∃ loc' S', Keep X.K H H' ∧ RL X.K H' loc' σ' ∧ Rep X.K S' H' ∧ V m' loc' S', fun σ' H' ⟨m', hm, z⟩ => ⟨m', hm, z⟩, ?_⟩
    have go : GoL X.K H2 (fun loc' S' => ∃ m', m' < m ∧ V m' loc' S') fun σ' H' => ∃ m', m' < m ∧ ∃ loc' S', Keep X.K H H' ∧ RL X.K H' loc' σ' ∧ Rep X.K S' H' ∧ V m' loc' S' :=
      fun loc' S' σ' H' ⟨m', hm, v⟩ k rl' rep' => ⟨m', hm, loc', S', k1.trans (k2.trans k), rl', rep', v⟩
    exact ⟨loc1, S2, { P with nx := fun loc' S' => ∃ m', m' < m ∧ V m' loc' S', ct := fun loc' S' => ∃ m', m' < m ∧ V m' loc' S', bk := P.nx }, rl2, rep2, q2, go, g2.rt, g2.nx, go, g2.ex⟩

/-! ## what is walked -/
/-- items; where they stand in a list that may be written, that list -/
inductive Src where
  | vals (xs : List D)
  | live (a : Addr) (xs : List D)
def Src.items : Src → List D
  | .vals xs => xs
  | .live _ xs => xs
def Src.ok (S : Sto) : Src → Prop
  | .vals _ => True
  | .live a xs => S a = some (.lst xs)
/-- the iterator J of the hand layer yields the source's items -/
structure ItRel (K : PySem.W.Frag) (H : Hp) (src : Src) (J : It) : Prop where
  go : ∀ i d S' H', src.items[i]? = some d → src.ok S' → Keep K H H' → Rep K S' H' → J.go i H'
  stop : ∀ i S' H', src.items.length ≤ i → src.ok S' → Keep K H H' → Rep K S' H' → J.stop i H'
  yld : ∀ i d S' H' x H2, src.items[i]? = some d → src.ok S' → Keep K H H' → Rep K S' H' → J.yld i H' x H2 → Keep K H' H2 ∧ Rep K S' H2 ∧ RV K H2 d x
abbrev QI := Loc → Sto → (Src → Sto → Prop) → PX → Prop
def liftI (K : PySem.W.Frag) (W : WX) (q : QI) : TI := fun σ H R => ∃ loc S P E, RL K H loc σ ∧ Rep K S H ∧ q loc S P E ∧ (∀ src S' H' J, P src S' → Keep K H H' → Rep K S' H' → ItRel K H' src J → R J H') ∧ GoX K H σ E W
def DI (X : Cx) (tg iter : Expr) (q : QI) : Prop := ∀ W, L2N.Takes X W → PI X tg iter (liftI X.K W q)
theorem PI.imp {tg e : Expr} {t t' : TI} (h : PI X tg e t) (i : ∀ σ H Q, t' σ H Q → t σ H Q) : PI X tg e t' := ⟨fun p s σ H R I q => h.run p s σ H R I (i _ _ _ q)⟩
theorem rel_live {K : PySem.W.Frag} {a : Addr} {xs : List D} : ItRel K H (.live a xs) (Itl K a) where
  go := fun i d S' H' hi ok k rep => by
    obtain ⟨vs, e, r⟩ := rep a _ ok
    obtain ⟨v, e2, _⟩ := RVs.get r hi
    exact ⟨vs, v, SqL.of e, e2⟩
  stop := fun i S' H' hi ok k rep => by
    obtain ⟨vs, e, r⟩ := rep a _ ok
    exact ⟨vs, SqL.of e, by rw [← r.length]; exact hi⟩
  yld := fun i d S' H' x H2 hi ok k rep y => by
    obtain ⟨e1, y⟩ := y
    subst e1
    obtain ⟨vs, e, r⟩ := rep a _ ok
    obtain ⟨v, e2, rv⟩ := RVs.get r hi
    have e3 := y vs (SqL.of e)
    rw [e2] at e3
    cases e3
    exact ⟨Keep.refl, rep, rv⟩
/-- the items of a tuple, of a list that nobody writes -/
theorem rel_tup {K : PySem.W.Frag} {a : Addr} {xs : List D} {vs : List V} (s : SqT K H a vs) (r : RVs K H xs vs) : ItRel K H (.vals xs) (Itt K a) where
  go := fun i d S' H' hi ok k rep => by
    obtain ⟨v, e2, _⟩ := RVs.get r hi
    exact ⟨vs, v, k.tup _ _ s, e2⟩
  stop := fun i S' H' hi ok k rep => ⟨vs, k.tup _ _ s, by rw [← r.length]; exact hi⟩
  yld := fun i d S' H' x H2 hi ok k rep y => by
    obtain ⟨e1, y⟩ := y
    subst e1
    obtain ⟨v, e2, rv⟩ := RVs.get r hi
    have e3 := y vs (k.tup _ _ s)
    rw [e2] at e3
    cases e3
    exact ⟨Keep.refl, rep, RV.keep k _ _ rv⟩
theorem rel_rol {K : PySem.W.Frag} {a : Addr} {xs : List D} {vs : List V} (s : Rol K H a vs) (r : RVs K H xs vs) : ItRel K H (.vals xs) (Itl K a) where
  go := fun i d S' H' hi ok k rep => by
    obtain ⟨v, e2, _⟩ := RVs.get r hi
    exact ⟨vs, v, (k.rol s).sq, e2⟩
  stop := fun i S' H' hi ok k rep => ⟨vs, (k.rol s).sq, by rw [← r.length]; exact hi⟩
  yld := fun i d S' H' x H2 hi ok k rep y => by
    obtain ⟨e1, y⟩ := y
    subst e1
    obtain ⟨v, e2, rv⟩ := RVs.get r hi
    have e3 := y vs (k.rol s).sq
    rw [e2] at e3
    cases e3
    exact ⟨Keep.refl, rep, RV.keep k _ _ rv⟩
def chars (z : Str) : List D := z.cps.toList.map fun c => D.str ⟨#[c]⟩
theorem rel_str {K : PySem.W.Frag} {z : Str} : ItRel K H (.vals (chars z)) (Its z) where
  go := fun i d S' H' hi ok k rep => by
    have h := (List.getElem?_eq_some_iff.mp hi).1
    have h2 : i < z.cps.toList.length := by simpa [Src.items, chars] using h
    show i < z.cps.size
    simpa using h2
  stop := fun i S' H' hi ok k rep => by
    have h2 : z.cps.toList.length ≤ i := by simpa [Src.items, chars] using hi
    show z.cps.size ≤ i
    simpa using h2
  yld := fun i d S' H' x H2 hi ok k rep y => by
    obtain ⟨e1, c, e2, e3⟩ := y
    subst e1 e3
    have h2 : (z.cps.toList.map fun c => D.str ⟨#[c]⟩)[i]? = some d := hi
    rw [List.getElem?_map, Array.getElem?_toList, e2] at h2
    cases h2
    exact ⟨Keep.refl, rep, rv_ofS⟩
def rangeD (lo : Int) (n : Nat) : List D := (List.range n).map fun (i : Nat) => D.int (lo + (i : Int))
theorem rel_range {K : PySem.W.Frag} {lo : Int} {n : Nat} : ItRel K H (.vals (rangeD lo n)) (Itr lo n) where
  go := fun i d S' H' hi ok k rep => by
    have h := (List.getElem?_eq_some_iff.mp hi).1
    have h2 : i < n := by simpa [Src.items, rangeD] using h
    exact h2
  stop := fun i S' H' hi ok k rep => by
    have h2 : n ≤ i := by simpa [Src.items, rangeD] using hi
    exact h2
  yld := fun i d S' H' x H2 hi ok k rep y => by
    obtain ⟨e1, e2⟩ := y
    subst e1 e2
    have h := (List.getElem?_eq_some_iff.mp hi).1
    have h1 : i < n := by simpa [Src.items, rangeD] using h
    have h2 : ((List.range n).map fun (i : Nat) => D.int (lo + (i : Int)))[i]? = some d := hi
    rw [List.getElem?_map, List.getElem?_range h1] at h2
    cases h2
    exact ⟨Keep.refl, rep, rv_ofI⟩
/-- any sequence: a list, a tuple, a text -/
def iSeq (q : QE) : QI := fun loc S P E => q loc S (fun d S1 => match d with
  | .tup xs => P (.vals xs) S1
  | .rol xs => P (.vals xs) S1
  | .str z => P (.vals (chars z)) S1
  | .ref a => ∃ xs, S1 a = some (.lst xs) ∧ P (.live a xs) S1
  | _ => False) E
/-- the three walks of the hand layer over a value that is there -/
def tAny (t : TE) (K : PySem.W.Frag) : TI := fun σ H R => t σ H fun x H1 => (∃ a, x = .ref a ∧ (∃ xs, SqL K H1 a xs) ∧ R (Itl K a) H1) ∨ (∃ a, x = .ref a ∧ (∃ xs, SqT K H1 a xs) ∧ R (Itt K a) H1) ∨ ∃ z, x = .str z ∧ R (Its z) H1
theorem pi_any {tg : Expr} {t : TE} (he : PE X e t) : PI X tg e (tAny t X.K) := by
  refine ⟨fun pins s σ H R I h => ?_⟩
  refine thn (he.run pins s σ H _ I h) fun v s1 ⟨x, H1, I1, r1, q1⟩ => ?_
  rcases q1 with ⟨a, e, ⟨xs, hq⟩, q⟩ | ⟨a, e, ⟨xs, hq⟩, q⟩ | ⟨z, e, q⟩
  · subst e
    cases r1
    obtain ⟨its, rv, p, _⟩ := I1.list hq
    exact wpAny_pyIter_list p.isList (pi_one (tk := s1.toks) I1 _ (turn_list a _) ⟨_, Heap.get?_push_size _ rfl, rfl, rfl⟩ q)
  · subst e
    cases r1
    obtain ⟨its, rv, p, _⟩ := I1.tuple hq
    exact wpAny_pyIter_tuple (show s1.heap.IsTuple a its.toArray from p) (pi_one (tk := s1.toks) I1 _ (turn_tuple a _) ⟨_, Heap.get?_push_size _ rfl, rfl, rfl⟩ q)
  · subst e
    obtain ⟨tk, rfl⟩ := r1
    cases ha : z.cps.all (· < 128)
    · exact wpAny_pyIter_wide ha (pi_one (tk := s1.toks) I1 _ (turn_str _ z tk "str_iterator" (.inr rfl)) ⟨_, Heap.get?_push_size _ rfl, rfl, rfl⟩ q)
    · exact wpAny_pyIter_ascii ha (pi_one (tk := s1.toks) I1 _ (turn_str _ z tk "str_ascii_iterator" (.inl rfl)) ⟨_, Heap.get?_push_size _ rfl, rfl, rfl⟩ q)
theorem di_seq {tg : Expr} (he : DE X e q) : DI X tg e (iSeq q) := fun W tk => by
  refine PI.imp (pi_any (he W tk)) fun σ H R h => ?_
  obtain ⟨loc, S, P, E, rl, rep, hq, g, gx⟩ := h
  refine ⟨loc, S, _, E, rl, rep, hq, fun d S1 v H1 q1 k1 rep1 r1 => ?_, gx⟩
  cases d with
  | tup xs =>
    obtain ⟨a, vs, e, s, r⟩ := rv_tup r1
    exact .inr (.inl ⟨a, e, ⟨vs, s⟩, g _ _ _ _ q1 k1 rep1 (rel_tup s r)⟩)
  | rol xs =>
    unfold RV at r1
    obtain ⟨a, vs, e, s, r⟩ := r1
    exact .inl ⟨a, e, ⟨vs, s.sq⟩, g _ _ _ _ q1 k1 rep1 (rel_rol s r)⟩
  | str z => exact .inr (.inr ⟨z, rv_str r1, g _ _ _ _ q1 k1 rep1 rel_str⟩)
  | ref a =>
    obtain ⟨xs, e1, q1⟩ := q1
    obtain ⟨vs, s, r⟩ := rep1 _ _ e1
    exact .inl ⟨a, rv_ref r1, ⟨vs, SqL.of s⟩, g _ _ _ _ q1 k1 rep1 rel_live⟩
  | _ => exact (show False from q1).elim
def iRange1 (qa : QA) : QI := fun loc S P E => qa loc S (fun ds S1 => match ds with
  | [.int j] => -(2 ^ 62) ≤ j ∧ j < 2 ^ 62 ∧ P (.vals (rangeD 0 j.toNat)) S1
  | _ => False) E
def iRange2 (qa : QA) : QI := fun loc S P E => qa loc S (fun ds S1 => match ds with
  | [.int i, .int j] => (-(2 ^ 62) ≤ i ∧ i < 2 ^ 62 ∧ -(2 ^ 62) ≤ j ∧ j < 2 ^ 62) ∧ P (.vals (rangeD i (j - i).toNat)) S1
  | _ => False) E
theorem di_range1 {tg a : Expr} {qa : QA} {p : Pos} (hg : Gl X "range") (hm : X.mg "range" = none) (ha : DA X [a] qa) (hs : starEach [a] X.env = [(false, eval a X.env)] := by rfl) : DI X tg (.Call (.Name "range" p) [a] [] pos) (iRange1 qa) := fun W tk => by
  refine PI.imp (pi_range1 hg hm (ha W tk) hs) fun σ H R h => ?_
  obtain ⟨loc, S, P, E, rl, rep, hq, g, gx⟩ := h
  refine ⟨loc, S, _, E, rl, rep, hq, fun ds S1 vs H1 q1 k1 rep1 r1 => ?_, gx⟩
  dsimp only at q1
  split at q1
  · obtain ⟨v, e, r2⟩ := rvs_one r1
    exact ⟨_, by rw [e, rv_int r2], q1.1, q1.2.1, g _ _ _ _ q1.2.2 k1 rep1 rel_range⟩
  · exact q1.elim
theorem di_range2 {tg a b : Expr} {qa : QA} {p : Pos} (hg : Gl X "range") (hm : X.mg "range" = none) (ha : DA X [a, b] qa) (hs : starEach [a, b] X.env = [(false, eval a X.env), (false, eval b X.env)] := by rfl) (hs2 : starEach [b] X.env = [(false, eval b X.env)] := by rfl) :
    DI X tg (.Call (.Name "range" p) [a, b] [] pos) (iRange2 qa) := fun W tk => by
  refine PI.imp (pi_range2 hg hm (ha W tk) hs hs2) fun σ H R h => ?_
  obtain ⟨loc, S, P, E, rl, rep, hq, g, gx⟩ := h
  refine ⟨loc, S, _, E, rl, rep, hq, fun ds S1 vs H1 q1 k1 rep1 r1 => ?_, gx⟩
  dsimp only at q1
  split at q1
  · obtain ⟨v, w, e, r2, r3⟩ := rvs_two r1
    exact ⟨_, _, by rw [e, rv_int r2, rv_int r3], q1.1, g _ _ _ _ q1.2 k1 rep1 rel_range⟩
  · exact q1.elim

/-! ## for -/
def sFor (it : QI) (g : QG) (tb : QS) : QS := fun P loc S => it loc S (fun src S1 => ∃ V : Nat → Loc → Sto → Prop, V 0 loc S1 ∧
  (∀ i d loc S, src.items[i]? = some d → V i loc S → src.ok S ∧ g d loc S (fun loc' S' => tb { P with nx := V (i + 1), ct := V (i + 1), bk := P.nx } loc' S') fun x S' => P.ex x loc S') ∧
  ∀ loc S, V src.items.length loc S → src.ok S ∧ P.nx loc S) fun x S1 => P.ex x loc S1
theorem ds_for {tg iter : Expr} {body : List Stmt} {it : QI} {g : QG} {tb : QS} (hp : PassesOwn (model X.prog X.w) X.A X.env X.xe) (hc : X.calm = true) (hi : DI X tg iter it) (hg : DG X tg g) (hb : DB X body tb)
    (hs : ∀ x, foldedSetIterable iter X.env x = pure x := by intro _; rfl) : DS X (.For tg iter body [] pos) (sFor it g tb) := fun W tk => by
  refine PS.imp (ps_for hp hc (hi W tk) (hg W tk) (hb W tk) hs) fun D σ H h => ?_
  obtain ⟨loc, S, P, rl, rep, hq, go⟩ := h
  refine ⟨loc, S, _, _, rl, rep, hq, fun src S1 H1 J q1 k1 rep1 rel => ?_, go.gx rl⟩
  obtain ⟨V, v0, turn, done⟩ := q1
  refine ⟨fun i m σ' H' => m = src.items.length - i ∧ i ≤ src.items.length ∧ ∃ loc' S', Keep X.K H1 H' ∧ RL X.K H' loc' σ' ∧ Rep X.K S' H' ∧ V i loc' S', ⟨src.items.length, by simp, Nat.zero_le _, loc, S1, Keep.refl, rl.keep k1, rep1, v0⟩, ?_⟩
  rintro i m σ2 H2 ⟨rfl, hle, loc2, S2, k2, rl2, rep2, v2⟩
  have go2 := go.keep (k1.trans k2)
  by_cases hlt : i < src.items.length
  · have hd : src.items[i]? = some src.items[i] := List.getElem?_eq_getElem hlt
    obtain ⟨ok, t⟩ := turn i _ loc2 S2 hd v2
    refine .inr ⟨rel.go i _ S2 H2 hd ok k2 rep2, fun σ' H' => ∃ loc' S', Keep X.K H1 H' ∧ RL X.K H' loc' σ' ∧ Rep X.K S' H' ∧ V (i + 1) loc' S', fun σ' H' z => ⟨src.items.length - (i + 1), by omega, rfl, hlt, z⟩, fun x H3 y => ?_⟩
    obtain ⟨k3, rep3, rv3⟩ := rel.yld i _ S2 H2 x H3 hd ok k2 rep2 y
    have rl3 := rl2.keep k3
    have go3 := go2.keep k3
    refine ⟨src.items[i], loc2, S2, _, _, rv3, rl3, rep3, t, fun loc4 S4 σ4 H4 q4 k4 rl4 rep4 => ?_, go3.gx rl3⟩
    have go4 := go3.keep k4
    have again : GoL X.K H4 (V (i + 1)) fun σ' H' => ∃ loc' S', Keep X.K H1 H' ∧ RL X.K H' loc' σ' ∧ Rep X.K S' H' ∧ V (i + 1) loc' S' :=
      fun loc' S' σ' H' v k rl' rep' => ⟨loc', S', k2.trans (k3.trans (k4.trans k)), rl', rep', v⟩
    exact ⟨loc4, S4, { P with nx := V (i + 1), ct := V (i + 1), bk := P.nx }, rl4, rep4, q4, again, go4.rt, go4.nx, again, go4.ex⟩
  · have e : i = src.items.length := by omega
    subst e
    obtain ⟨ok, n⟩ := done loc2 S2 v2
    exact .inl ⟨rel.stop _ S2 H2 (Nat.le_refl _) ok k2 rep2, go2.nx _ _ _ _ n Keep.refl rl2 rep2⟩
end
end PL

namespace PL
open PySem PySem.Spec PyProof.Rows L2 -- the layers

/-! ## defs and their promises -/
/-- a def that keeps its promise in every run in which no guard of repr stands -/
structure FnG (P : Program) (w : World) (K : PySem.W.Frag) (mg : Str → Option Value) (base : Heap) (k : Nat) (f : Addr) (fd : FuncData) (ps : List Str) (sp : QF) : Prop where
  len : ∀ ds S Q E, sp ds S Q E → ds.length = ps.length
  run : ∀ (A : Around) (outer : List Env) (s : Shared) (H : Hp) (args : Args) (us : List Value) (vs : List V) (Q : VK) (E : XK), Room k A → A.guards = some [] → Env0 P w K mg base A outer s H → BindsTo s fd args (ps.zip us) → Vals vs us → liftF K sp vs H Q E →
    codeAny (model P w) A (.call (.ref f) args) (CR (L2N.CX P w) outer P w H s Q E) s
abbrev FnP (P : Program) (w : World) (K : PySem.W.Frag) (mg : Str → Option Value) (base : Heap) (k : Nat) (f : Addr) (fd : FuncData) (ps : List Str) (sp : QF) : Prop := FnOk P w K mg base (L2N.CX P w) k f fd ps (liftF K sp)
section
variable {P : Program} {w : World} {K : PySem.W.Frag} {mg : Str → Option Value} {base : Heap} {k j : Nat} {f : Addr} {fd : FuncData} {ps : List Str} {sp : QF}
theorem FnG.mono (F : FnG P w K mg base j f fd ps sp) (h : j ≤ k) : FnG P w K mg base k f fd ps sp := ⟨F.len, fun A outer s H args us vs Q E hr => F.run A outer s H args us vs Q E (hr.mono h)⟩
theorem startD_len {N : List Str} {ds : List D} {vs : List V} {H : Hp} (r : RVs K H ds vs) : RL K H (ds.map some ++ List.replicate (N.length - ds.length) none) (L2.start N vs) := by
  have hl := r.length
  refine ⟨by simp [L2.start, hl], fun i d h => ?_⟩
  by_cases hi : i < ds.length
  · rw [List.getElem?_append_left (by simpa using hi)] at h
    rw [List.getElem?_map] at h
    cases e : ds[i]? with
    | none => rw [e] at h; cases h
    | some x =>
      rw [e] at h
      have ex : x = d := Option.some.inj (Option.some.inj h)
      subst ex
      obtain ⟨v, e1, e2⟩ := RVs.get r e
      refine ⟨v, ?_, e2⟩
      unfold L2.start
      rw [List.getElem?_append_left (by simpa [← hl] using hi), List.getElem?_map, e1]
      rfl
  · rw [List.getElem?_append_right (by simpa using hi)] at h
    have := List.mem_of_getElem? h
    simp at this
def startD (N : List Str) (ds : List D) : Loc := ds.map some ++ List.replicate (N.length - ds.length) none
/-- what a body is to reach: what is known at its end may be forgotten -/
def endsF (P : PD) (E : PX) : QN where
  nx := fun _ S => ∃ S2, Sub S2 S ∧ P .non S2
  rt := fun d S => ∃ S2, Sub S2 S ∧ P d S2
  bk := fun _ _ => False
  ct := fun _ _ => False
  ex := fun x _ S => ∃ S2, Sub S2 S ∧ E x S2
theorem endsF_go {H : Hp} {Pd : PD} {PE : PX} {Q : VK} {E : XK} (g : GoD K H Pd Q) (gx : ∀ x S' H' c d, PE x S' → Keep K H H' → Rep K S' H' → RX K H' x c d → E c d H') :
    GoN K H (endsF Pd PE) { nx := fun _ H' => Q .non H', rt := Q } fun c d _ H' => E c d H' where
  nx := fun _ S' _ H' ⟨S2, s, p⟩ k _ rep => g .non S2 .non H' p k (rep.sub s) rv_ofN
  rt := fun d S' v H' ⟨S2, s, p⟩ k rep r => g d S2 v H' p k (rep.sub s) r
  bk := fun _ _ _ _ z => z.elim
  ct := fun _ _ _ _ z => z.elim
  ex := fun x _ S' _ H' c d ⟨S2, s, p⟩ k _ rep rx => gx x S2 H' c d p k (rep.sub s) rx
/-- THE RULE for a def: the derivation of its body, its pure reading -/
theorem FunD.pure {x qual : Str} {params : Arguments} {body : List Stmt} {scope : Scope} {kws : List (Str × V)} {N : List Str} {q : QS} (F : FunD K x qual params body scope [] kws f fd) (S : FnScope N ps scope)
    (hbody : ∀ (cdv : Value) (A : Around) (outer : List Env) (s : Shared) (H : Hp) (E : XK), Room k (A.deeper (envOfC qual scope s.heap.objs.size f cdv)) → DB (cxOf (L2N.CX P w) P w K mg base N qual scope f cdv A outer s H E) body q)
    (len : ∀ ds S Q E, sp ds S Q E → ds.length = ps.length) (spec : ∀ ds S Q E, sp ds S Q E → q (endsF Q E) (startD N ds) S) : FnP P w K mg base (k + 1) f fd ps sp := by
  refine F.ok S (fun vs H Q E h => ?_) fun cdv A outer s H vs Q E hr h => ?_
  · obtain ⟨ds, St, Pd, PE, r, _, h, _⟩ := h
    rw [← r.length, len _ _ _ _ h]
  · obtain ⟨ds, St, Pd, PE, r, rep, h, g, gx⟩ := h
    refine ⟨_, hbody cdv A outer s H E hr (fun c d _ H' => E c d H') (L2N.takes_of rfl rfl rfl rfl), ?_⟩
    exact ⟨startD N ds, St, endsF Pd PE, startD_len r, rep, spec _ _ _ _ h, endsF_go g gx⟩
/-- .. for a def that wants no guard of repr around -/
theorem FunD.pureG {x qual : Str} {params : Arguments} {body : List Stmt} {scope : Scope} {kws : List (Str × V)} {N : List Str} {q : QS} (F : FunD K x qual params body scope [] kws f fd) (S : FnScope N ps scope)
    (hbody : ∀ (cdv : Value) (A : Around) (outer : List Env) (s : Shared) (H : Hp) (E : XK), Room k (A.deeper (envOfC qual scope s.heap.objs.size f cdv)) → (A.deeper (envOfC qual scope s.heap.objs.size f cdv)).guards = some [] → DB (cxOf (L2N.CX P w) P w K mg base N qual scope f cdv A outer s H E) body q)
    (len : ∀ ds S Q E, sp ds S Q E → ds.length = ps.length) (spec : ∀ ds S Q E, sp ds S Q E → q (endsF Q E) (startD N ds) S) : FnG P w K mg base (k + 1) f fd ps sp := by
  refine ⟨len, fun A outer s H args us vs Q E hr hG e0 hb r h => ?_⟩
  obtain ⟨oc, od, dV, kV, doc, pm, an, cdv, ct, osl, rfl, lk, hcd, _, _⟩ := F.ex
  obtain ⟨ds, St, Pd, PE, rv, rep, h, g, gx⟩ := h
  refine LamX.run_ofS lk hcd S hr e0 hb r (by rw [← rv.length, len _ _ _ _ h]) fun hr' => ?_
  refine ⟨_, hbody cdv A outer s H E hr' (by exact hG) (fun c d _ H' => E c d H') (L2N.takes_of rfl rfl rfl rfl), ?_⟩
  exact ⟨startD N ds, St, endsF Pd PE, startD_len rv, rep, spec _ _ _ _ h, endsF_go g gx⟩
end
section
variable {X : Cx} {W : WX} {σ : L2.St} {H : Hp} {k : Nat} {f : Addr} {fd : FuncData} {ps : List Str} {sp : QF} {x : Str} {e : Expr} {es : List Expr} {qa : QA} {p pos : Pos}
def qCall (sp : QF) (qa : QA) : QE := fun loc S P E => qa loc S (fun ds S1 => sp ds S1 P E) E
theorem call_imp {K : PySem.W.Frag} {σ : L2.St} {H : Hp} {Q : VK} (h : lift K W (qCall sp qa) σ H Q) : tCallS (liftF K sp) (WE W) (liftA K W qa) σ H Q := by
  obtain ⟨loc, S, P, E, rl, rep, hq, g, gx⟩ := h
  refine ⟨loc, S, _, E, rl, rep, hq, fun ds S1 vs H1 q1 k1 rep1 r1 => ?_, gx⟩
  exact ⟨ds, S1, P, E, r1, rep1, q1, g.keep k1, fun y S' H' c d ey kk rep' rx => gx y S' H' c d ey (k1.trans kk) rep' rx⟩
theorem de_call (F : FnP X.prog X.w X.K X.mg X.base k f fd ps sp) (hr : Room k X.A) (hg : Gl X x) (hm : X.mg x = some (.ref f)) (hk : PySem.W.keepIn X.K (.ref f) = true) (hb : Binds X.K fd ps [])
    (ha : DA X (e :: es) qa) (hdb : (x == ("__debug__" : Str)) = false := by decide) (he : starEach (e :: es) X.env = (false, eval e X.env) :: starEach es X.env := by rfl) (hpl : (backTo pos (starEach es X.env)).any (·.1) = false := by rfl) :
    DE X (.Call (.Name x p) (e :: es) [] pos) (qCall sp qa) := fun W tk =>
  PE.imp (pe_callS F hr hg hm hk hb (fun σ => L2N.passAt tk σ) (ha W tk) hdb he hpl) fun σ H Q h => call_imp h
/-- a call of a def that wants no guard of repr -/
theorem run_fnG {pins : List (Addr × Obj)} {s : Shared} {Q : VK} {us : List Value} {vs : List V} (F : FnG X.prog X.w X.K X.mg X.base k f fd ps sp) (hr : Room k X.A) (hG : X.A.guards = some []) (hb : Binds X.K fd ps []) (tk : L2N.Takes X W)
    (I : Inv X pins σ H s) (r : Vals vs us) (h : liftF X.K sp vs H Q (WE W σ)) : wpAny (model X.prog X.w) X.A (call (.ref f) us) (EP X pins σ Q) X.xe s := by
  have hl : us.length = ps.length := by
    obtain ⟨ds, S, P, PE, rv, _, h, _⟩ := h
    rw [← r.length, ← rv.length]
    exact F.len _ _ _ _ h
  have b := hb s us I.kIn (by rw [List.append_nil]; exact hl)
  rw [List.append_nil] at b
  refine wpAny_call (codeAny_mono (F.run X.A X.stack s H ⟨us, []⟩ us vs Q (WE W σ) hr hG I.env0 b r h) fun res s' hq => ?_)
  match res, hq with
  | .error e, hq => exact L2N.passAt tk σ pins H s e s' I hq
  | .ok (.ret u), hq => exact I.after hq
  | .ok .next, hq => exact False.elim hq
  | .ok .brk, hq => exact False.elim hq
  | .ok .cont, hq => exact False.elim hq
theorem de_callG (F : FnG X.prog X.w X.K X.mg X.base k f fd ps sp) (hr : Room k X.A) (hG : X.A.guards = some []) (hg : Gl X x) (hm : X.mg x = some (.ref f)) (hk : PySem.W.keepIn X.K (.ref f) = true) (hb : Binds X.K fd ps [])
    (ha : DA X (e :: es) qa) (hdb : (x == ("__debug__" : Str)) = false := by decide) (he : starEach (e :: es) X.env = (false, eval e X.env) :: starEach es X.env := by rfl) (hpl : (backTo pos (starEach es X.env)).any (·.1) = false := by rfl) :
    DE X (.Call (.Name x p) (e :: es) [] pos) (qCall sp qa) := fun W tk => by
  refine PE.imp (t := tCallS (liftF X.K sp) (WE W) (liftA X.K W qa)) ⟨fun pins s σ H Q I h => ?_⟩ fun σ H Q h => call_imp h
  refine wpAny_Call_Name_kw (ld_glob I hg hm ?_ hdb)
  refine PySem.W.callWith_K (h₀ := X.base) I.ok.mod.kin hk (thn ((ha W tk).run pos pins s σ H _ I h) fun us s1 hh => ?_) he hpl
  obtain ⟨vs, H1, I1, r, q⟩ := hh
  exact ⟨I1.kIn, run_fnG F hr hG hb tk I1 r q⟩

/-! ## raise X('..') -/
def sRaise (C : Addr) : QS := fun P loc S => P.ex { cls := C } loc S
/-- what is known of an exception class of the program without own __init__ -/
structure ExcT (K : PySem.W.Frag) (mg : Str → Option Value) (x : Str) (C : Addr) : Prop where
  gC : mg x = some (.ref C)
  ex : PySem.W.excIn K C [.type "ValueError", .type "Exception", .type "BaseException", .type "object"] "ValueError.__new__" = true
  kC : PySem.W.keepIn K (.ref C) = true
  sub : PySem.W.subIn K (.ref C) (.type "BaseException") = some true
  ty : PySem.W.typeIn K (.ref C) = some (.type "type")
theorem ds_raise {C : Addr} {m : Str} {j : Nat} {p2 pos2 : Pos} (hc : X.calm = true) (T : ExcT X.K X.mg x C) (hg : Gl X x) (hdb : (x == ("__debug__" : Str)) = false := by decide) :
    DS X (.Raise (some (.Call (.Name x p) [.Constant (.str m) j p2] [] pos)) none pos2) (sRaise C) := fun W tk => by
  refine PS.imp (L2N.ps_raise hc tk (L2N.pmk_own PySem.F.excBase_ValueError T.ex T.gC T.kC (raises_own T.sub T.ty) hg hdb)) fun D σ H h => ?_
  obtain ⟨loc, S, P, rl, rep, hq, g⟩ := h
  exact g.ex _ _ _ _ _ _ _ hq Keep.refl rl rep ⟨rfl, rfl⟩

/-! ## comprehensions -/
/-- a clause's tests -/
def DTs (X : Cx) (ifs : List Expr) (q : QT) : Prop := ∀ W, L2N.Takes X W → PTs X ifs (liftT X.K W q)
def qYes : QT := fun _ S P _ => P true S
theorem dts_nil : DTs X [] qYes := fun W _ => ⟨fun pins s σ H Q I h => pts_nil.run pins s σ H Q I (by
  obtain ⟨loc, S, P, E, rl, rep, q, g, _⟩ := h
  exact g _ _ _ q Keep.refl rep)⟩
theorem dts_one {c : Expr} {t : QT} (h : DT X c t) : DTs X [c] t := fun W tk => pts_one (h W tk)
theorem wipe_get (σ : L2.St) (j : Nat) : ∀ vs : List Nat, (L2.wipe σ vs)[j]? = if j ∈ vs then (σ[j]?).map (fun _ => none) else σ[j]?
  | [] => by simp [L2.wipe]
  | v :: vs => by
    have ih := wipe_get σ j vs
    have hl := L2.wipe_length σ vs
    unfold L2.wipe
    by_cases e : v = j
    · subst e
      by_cases h : v < σ.length
      · rw [List.getElem?_set_self (by rw [hl]; exact h), if_pos (List.mem_cons_self ..), List.getElem?_eq_getElem h]
        rfl
      · rw [List.getElem?_eq_none (by simp [hl]; omega), if_pos (List.mem_cons_self ..), List.getElem?_eq_none (by omega)]
        rfl
    · rw [List.getElem?_set_ne e, ih]
      by_cases h : j ∈ vs
      · rw [if_pos h, if_pos (List.mem_cons_of_mem _ h)]
      · rw [if_neg h, if_neg (fun z => (List.mem_cons.mp z).elim (fun q => e q.symm) h)]
theorem wipe_eq {σ τ : L2.St} {vs : List Nat} (hl : σ.length = τ.length) (h : ∀ j, j ∉ vs → σ[j]? = τ[j]?) : L2.wipe σ vs = L2.wipe τ vs := by
  refine List.ext_getElem? fun j => ?_
  rw [wipe_get, wipe_get]
  by_cases hj : j ∈ vs
  · rw [if_pos hj, if_pos hj]
    by_cases h1 : j < σ.length
    · rw [List.getElem?_eq_getElem h1, List.getElem?_eq_getElem (by rw [← hl]; exact h1)]
      rfl
    · rw [List.getElem?_eq_none (by omega), List.getElem?_eq_none (by omega)]
  · rw [if_neg hj, if_neg hj, h j hj]
theorem wipe_set {σ : L2.St} {vs : List Nat} {i : Nat} {v : Option V} (hi : i ∈ vs) : L2.wipe (σ.set i v) vs = L2.wipe σ vs :=
  wipe_eq (by simp) fun j hj => List.getElem?_set_ne (fun e => hj (by rw [← e]; exact hi))
theorem wipe_wipe {σ : L2.St} {vs : List Nat} : L2.wipe (L2.wipe σ vs) vs = L2.wipe σ vs :=
  wipe_eq (L2.wipe_length ..) fun j hj => by rw [wipe_get, if_neg hj]
/-- a target that stores the block's own names alone -/
def liftGo (K : PySem.W.Frag) (own : List Nat) (q : QG) : TG := fun v σ H Q => ∃ d loc S P, RV K H d v ∧ RL K H loc σ ∧ Rep K S H ∧ q d loc S P (fun _ _ => False) ∧
  ∀ loc' S' σ' H', P loc' S' → Keep K H H' → RL K H' loc' σ' → Rep K S' H' → L2.wipe σ' own = L2.wipe σ own → Q σ' H'
def liftGos (K : PySem.W.Frag) (own : List Nat) (q : QGs) : TGs := fun vs σ H Q => ∃ ds loc S P, RVs K H ds vs ∧ RL K H loc σ ∧ Rep K S H ∧ q ds loc S P (fun _ _ => False) ∧
  ∀ loc' S' σ' H', P loc' S' → Keep K H H' → RL K H' loc' σ' → Rep K S' H' → L2.wipe σ' own = L2.wipe σ own → Q σ' H'
def DGo (X : Cx) (t : Expr) (own : List Nat) (q : QG) : Prop := PG X t (liftGo X.K own q)
def DGos (X : Cx) (ts : List Expr) (own : List Nat) (q : QGs) : Prop := PGs X ts (liftGos X.K own q)
theorem dgo_name {i : Nat} {x : Str} {own : List Nat} (hN : X.N.Nodup) (hi : X.N[i]? = some x) (ho : i ∈ own) (hx : L2.Loc X.env.scope x) (hf : X.fn x = true ∨ X.env.scope.names.lookup x = some .local := by first | exact .inl rfl | exact .inr rfl | assumption) : DGo X (.Name x pos) own (gN i) := by
  refine PG.imp (pg_name hN hi hx hf) fun v σ H Q h => ?_
  obtain ⟨d, loc, S, P, rv, rl, rep, hq, g⟩ := h
  exact g _ _ _ _ hq Keep.refl (rl.set rv i) rep (wipe_set ho)
theorem dgos_nil {own : List Nat} : DGos X [] own gE := by
  refine PGs.imp pgs_nil fun v σ H Q h => ?_
  obtain ⟨ds, loc, S, P, rv, rl, rep, ⟨e, hq⟩, g⟩ := h
  subst e
  exact ⟨RVs.nil_iff.mp rv, g _ _ _ _ hq Keep.refl rl rep rfl⟩
theorem dgos_cons {own : List Nat} {e : Expr} {es : List Expr} {t : QG} {u : QGs} (h1 : DGo X e own t) (h2 : DGos X es own u)
    (hs : (assignEach (e :: es) X.env).map (·.2) = assign e X.env :: (assignEach es X.env).map (·.2) := by rfl) : DGos X (e :: es) own (gC t u) := by
  refine PGs.imp (pgs_cons h1 h2 hs) fun v σ H Q h => ?_
  obtain ⟨ds, loc, S, P, rv, rl, rep, hq, g⟩ := h
  cases ds with
  | nil => exact (show False from hq).elim
  | cons d r =>
    unfold RVs at rv
    obtain ⟨w, ws, e, r1, r2⟩ := rv
    refine ⟨w, ws, e, d, loc, S, _, r1, rl, rep, hq, fun loc' S' σ' H' p k rl' rep' hw => ?_⟩
    exact ⟨r, loc', S', P, RVs.keep k _ _ r2, rl', rep', p, fun l2 S2 σ2 H2 p2 k2 rl2 rep2 hw2 => g l2 S2 σ2 H2 p2 (k.trans k2) rl2 rep2 (hw2.trans hw)⟩
theorem dgo_tup {own : List Nat} {es : List Expr} {j : Nat} {t : QGs} {n : Nat} (hc : X.calm = true) (h : DGos X es own t)
    (hn : (assignEach es X.env).length = n := by rfl) (hst : (assignEach es X.env).findIdx? (·.1) = none := by rfl) : DGo X (.Tuple es j pos) own (gT n t) := by
  refine PG.imp (pg_tup hc h hn hst) fun v σ H Q h => ?_
  obtain ⟨d, loc, S, P, rv, rl, rep, hq, g⟩ := h
  cases d with
  | tup xs =>
    obtain ⟨a, vs, e, s, r⟩ := rv_tup rv
    exact ⟨a, vs, e, s, by rw [← r.length]; exact hq.1, xs, loc, S, P, r, rl, rep, hq.2, g⟩
  | _ => exact (show False from hq).elim
/-- [elt for target in iter if ..]: V by the turn, what is made so far, the store (the new list stands in it) -/
def qLc (it : QI) (g : QG) (tt : QT) (te : QE) (own : List Nat) : QE := fun loc S P E => it loc S (fun src S1 => ∀ p, S1 p = none → ∃ V : Nat → List D → Sto → Prop, V 0 [] (ups S1 p (.lst [])) ∧
  (∀ i d acc S, src.items[i]? = some d → V i acc S → src.ok S ∧ g d (wipeD loc own) S (fun loc' S' => tt loc' S' (fun b S2 => if b = true then
    te loc' S2 (fun y S3 => S3 p = some (.lst acc) ∧ acc.length < sizeLine ∧ V (i + 1) (acc ++ [y]) (ups S3 p (.lst (acc ++ [y])))) fun _ _ => False else V (i + 1) acc S2) fun _ _ => False) fun _ _ => False) ∧
  ∀ acc S, V src.items.length acc S → src.ok S ∧ P (.ref p) S) E
theorem noX {K : PySem.W.Frag} {σ : L2.St} {H : Hp} {W : WX} : GoX K H σ (fun _ _ => False) W := fun _ _ _ _ _ z => z.elim
theorem lc_imp {it : QI} {g : QG} {tt : QT} {te : QE} {own : List Nat} {σ : L2.St} {H : Hp} {Q : VK} (h : lift X.K W (qLc it g tt te own) σ H Q) :
    tLc (liftI X.K W it) (liftGo X.K own g) (liftT X.K (fun _ _ _ _ => False) tt) (lift X.K (fun _ _ _ _ => False) te) own σ H Q := by
  obtain ⟨loc, S, P, E, rl, rep, hq, go, gx⟩ := h
  refine ⟨loc, S, _, E, rl, rep, hq, fun src S1 H1 J q1 k1 rep1 rel p np => ?_, gx⟩
  obtain ⟨V, v0, turn, done⟩ := q1 p (rep1.free np)
  refine ⟨fun i m H' => m = src.items.length - i ∧ i ≤ src.items.length ∧ ∃ acc S', Keep X.K H1 H' ∧ Rep X.K S' H' ∧ V i acc S', ⟨src.items.length, by simp, Nat.zero_le _, [], _, Keep.new np, rep1.newL np (RVs.nil_iff.mpr rfl), v0⟩, ?_⟩
  rintro i m H2 ⟨rfl, hle, acc, S2, k2, rep2, v2⟩
  by_cases hlt : i < src.items.length
  · have hd : src.items[i]? = some src.items[i] := List.getElem?_eq_getElem hlt
    obtain ⟨ok, t⟩ := turn i _ acc S2 hd v2
    refine .inr ⟨rel.go i _ S2 H2 hd ok k2 rep2, fun H' => ∃ acc S', Keep X.K H1 H' ∧ Rep X.K S' H' ∧ V (i + 1) acc S', fun H' z => ⟨src.items.length - (i + 1), by omega, rfl, hlt, z⟩, fun x H3 y => ?_⟩
    obtain ⟨k3, rep3, rv3⟩ := rel.yld i _ S2 H2 x H3 hd ok k2 rep2 y
    have rl3 := ((rl.keep (k1.trans (k2.trans k3))).wipe own)
    refine ⟨src.items[i], wipeD loc own, S2, _, rv3, rl3, rep3, t, fun loc4 S4 σ4 H4 q4 k4 rl4 rep4 hw => ?_⟩
    refine ⟨by rw [hw, wipe_wipe], loc4, S4, _, _, rl4, rep4, q4, fun b S5 H5 q5 k5 rep5 => ?_, noX⟩
    cases b with
    | true =>
      refine iteT ?_
      refine ⟨loc4, S5, _, _, rl4.keep k5, rep5, q5, fun yd S6 yv H6 q6 k6 rep6 ry => ?_, noX⟩
      obtain ⟨e6, hz, v6⟩ := q6
      obtain ⟨us, f6, ru⟩ := rep6 _ _ e6
      refine ⟨us, f6, by rw [← ru.length]; exact hz, acc ++ [yd], _, ?_, rep6.setL f6 (ru.append (RVs.one ry)), v6⟩
      exact k2.trans (k3.trans (k4.trans (k5.trans (k6.trans (keepL f6)))))
    | false =>
      refine iteF ?_
      exact ⟨acc, S5, k2.trans (k3.trans (k4.trans k5)), rep5, q5⟩
  · have e : i = src.items.length := by omega
    subst e
    obtain ⟨ok, n⟩ := done acc S2 v2
    exact .inl ⟨rel.stop _ S2 H2 (Nat.le_refl _) ok k2 rep2, go _ _ _ _ n (k1.trans k2) rep2 rv_ofR⟩
theorem de_lc {elt tg iter : Expr} {ifs : List Expr} {scope : Scope} {own : List (Str × Nat)} {it : QI} {g : QG} {tt : QT} {te : QE} (hc : X.calm = true) (hN : X.N.Nodup) (hi : DI X tg iter it) (ok : BlkOk X.N X.env.scope scope own)
    (hg : ∀ (s : Shared) (H : Hp) (C : Addr) (cl : List (Str × Addr)) (fp : List Addr), DGo (X.blk s H scope (compEnvC scope cl C X.env) fp) tg (own.map (·.2)) g) (ht : ∀ (s : Shared) (H : Hp) (C : Addr) (cl : List (Str × Addr)) (fp : List Addr), DTs (X.blk s H scope (compEnvC scope cl C X.env) fp) ifs tt)
    (he : ∀ (s : Shared) (H : Hp) (C : Addr) (cl : List (Str × Addr)) (fp : List Addr), DE (X.blk s H scope (compEnvC scope cl C X.env) fp) elt te) (hs : ∀ x, foldedSetIterable iter X.env x = pure x := by intro _; rfl) :
    DE X (.ListComp elt [⟨tg, iter, ifs, 0⟩] scope pos) (qLc it g tt te (own.map (·.2))) := fun W tk =>
  PE.imp (pe_lc (g := liftGo X.K (own.map fun (x : Str × Nat) => x.2) g) (tt := liftT X.K (fun _ _ _ _ => False) tt) (te := lift X.K (fun _ _ _ _ => False) te) hc hN (hi W tk) ok hg (fun s H C cl fp => ht s H C cl fp _ takes0) (fun s H C cl fp => he s H C cl fp _ takes0) hs) fun σ H Q h => lc_imp h
theorem ds_setLc {i : Nat} {y : Str} {py : Pos} {elt tg iter : Expr} {ifs : List Expr} {scope : Scope} {own : List (Str × Nat)} {spos : Pos} {it : QI} {g : QG} {tt : QT} {te : QE} (hc : X.calm = true) (hN : X.N.Nodup) (hy : X.N[i]? = some y) (hyl : X.env.scope.names.lookup y = some .local)
    (hsw : swapsWith (.ListComp elt [⟨tg, iter, ifs, 0⟩] scope pos) (some (.Name y py)) spos.line X.env = pure true) (hi : DI X tg iter it) (ok : BlkOk X.N X.env.scope scope own)
    (hg : ∀ (s : Shared) (H : Hp) (C : Addr) (cl : List (Str × Addr)) (fp : List Addr), DGo (X.blk s H scope (compEnvC scope cl C X.env) fp) tg (own.map (·.2)) g) (ht : ∀ (s : Shared) (H : Hp) (C : Addr) (cl : List (Str × Addr)) (fp : List Addr), DTs (X.blk s H scope (compEnvC scope cl C X.env) fp) ifs tt)
    (he : ∀ (s : Shared) (H : Hp) (C : Addr) (cl : List (Str × Addr)) (fp : List Addr), DE (X.blk s H scope (compEnvC scope cl C X.env) fp) elt te) (hs : ∀ x, foldedSetIterable iter X.env x = pure x := by intro _; rfl) :
    DS X (.Assign [.Name y py] (.ListComp elt [⟨tg, iter, ifs, 0⟩] scope pos) spos) (sSet i (qLc it g tt te (own.map (·.2)))) := fun W tk => by
  refine PS.imp (ps_setLc (g := liftGo X.K (own.map fun (x : Str × Nat) => x.2) g) (tt := liftT X.K (fun _ _ _ _ => False) tt) (te := lift X.K (fun _ _ _ _ => False) te) hc hN hy hyl hsw (hi W tk) ok hg (fun s H C cl fp => ht s H C cl fp _ takes0) (fun s H C cl fp => he s H C cl fp _ takes0) hs) fun D σ H h => ?_
  obtain ⟨loc, S, P, rl, rep, hq, go⟩ := h
  refine lc_imp (W := W) ⟨loc, S, _, _, rl, rep, hq, fun d S1 v H1 q1 k1 rep1 r1 => ?_, go.gx rl⟩
  exact go.nx _ _ _ _ q1 k1 ((rl.keep k1).set r1 i) rep1
end
end PL

namespace PL
open PySem PySem.Spec PyProof.Rows L2 -- the layers
/-! ## a lambda without parameters, handed to a def of the top -/
/-- the tables of code objects that the store tells are just those of T -/
def TabOk (T : List (Addr × Str)) (S : Sto) : Prop := (∀ p ∈ T, S p.1 = some (.tab p.2)) ∧ ∀ a q, S a = some (.tab q) → (a, q) ∈ T
theorem TabOk.new {T : List (Addr × Str)} {S : Sto} (t : TabOk T S) {p : Addr} {ds : List D} (n : S p = none) : TabOk T (ups S p (.lst ds)) := by
  refine ⟨fun q hq => ?_, fun a q h => ?_⟩
  · rw [ups_ne (sto_ne (t.1 q hq) n)]
    exact t.1 q hq
  · by_cases e : a = p
    · subst e
      rw [ups_same] at h
      cases h
    · rw [ups_ne e] at h
      exact t.2 a q h
theorem TabOk.set {T : List (Addr × Str)} {S : Sto} (t : TabOk T S) {p : Addr} {ds us : List D} (n : S p = some (.lst us)) : TabOk T (ups S p (.lst ds)) := by
  refine ⟨fun q hq => ?_, fun a q h => ?_⟩
  · have ne : q.1 ≠ p := fun z => by
      have := t.1 q hq
      rw [z, n] at this
      cases this
    rw [ups_ne ne]
    exact t.1 q hq
  · by_cases e : a = p
    · subst e
      rw [ups_same] at h
      cases h
    · rw [ups_ne e] at h
      exact t.2 a q h
theorem Rep.tabs {K : PySem.W.Frag} {T : List (Addr × Str)} {S : Sto} {H : Hp} (r : Rep K S H) (t : TabOk T S) : LamX.Tabs T H := fun p hp => r p.1 _ (t.1 p hp)
theorem ExtN.keep {K : PySem.W.Frag} {H H1 : Hp} (e : LamX.ExtN H H1) : Keep K H H1 := by
  refine ⟨fun a vs h => ?_, fun a o u h => e _ _ h (fun _ z => by cases z)⟩
  rcases h with (h | ⟨o, h⟩) | h
  · exact .inl (.inl (e _ _ h (fun _ z => by cases z)))
  · exact .inl (.inr ⟨o, e _ _ h (fun _ z => by cases z)⟩)
  · exact .inr h
theorem Rep.extN {K : PySem.W.Frag} {T : List (Addr × Str)} {S : Sto} {H H1 : Hp} (r : Rep K S H) (t : TabOk T S) (e : LamX.ExtN H H1) (t1 : LamX.Tabs T H1) : Rep K S H1 := fun a o h => by
  have z := r a o h
  cases o with
  | lst ds =>
    obtain ⟨vs, h1, q⟩ := z
    exact ⟨vs, e _ _ h1 (fun _ w => by cases w), RVs.keep (ExtN.keep e) _ _ q⟩
  | tab q => exact t1 (a, q) (t.2 a q h)
  | cod q => exact e _ _ z (fun _ w => by unfold LamX.CodeO at w; cases w)
theorem Un.keepP {K : PySem.W.Frag} {fs ex : List Addr} {H H' : Hp} {h h' : Heap} (u : Un fs ex H H' h h') : Keep K H H' := by
  refine ⟨fun a vs z => ?_, fun a o w z => u.frzs _ _ _ z⟩
  rcases z with (z | ⟨o, z⟩) | z
  · exact .inl (.inl (u.tups _ _ z))
  · exact .inl (.inr ⟨o, u.frzs _ _ _ z⟩)
  · exact .inr z
/-- the context of a lambda's body; what leaves it was raised where nothing was handled -/
def lamN (X : Cx) (A : Around) (outer : List Env) (s : Shared) (H : Hp) (E : XK) (scope : Scope) (f c' : Addr) : Cx :=
  (LamX.lamCx X A outer s H E scope f c').wish fun e s' => wpAny (model X.prog X.w) (A.deeper (LamX.lamEnv X scope s.heap.objs.size f c')) (leaving (LamX.lamEnv X scope s.heap.objs.size f c') e)
    (fun _ s2 => L2N.CX X.prog X.w outer H s E e s2) (fun e2 s2 => L2N.CX X.prog X.w outer H s E e2 s2) s'
/-- the context of the def that got the lambda -/
abbrev gotCx (X : Cx) (Ng : List Str) (qg : Str) (sg : Scope) (g : Addr) (cdg : Value) (A : Around) (outer : List Env) (s : Shared) (H : Hp) (E : XK) : Cx := cxOf (L2N.CX X.prog X.w) X.prog X.w X.K X.mg X.base Ng qg sg g cdg A outer s H E
def qAct (f c' : Addr) (nm : Str) (loc : Loc) (q : QE) : QE := fun locZ S P E => locZ[0]? = some (some (.ref f)) ∧ S c' = some (.cod nm) ∧ q loc S P E
section
variable {X : Cx} {pins : List (Addr × Obj)} {σ : L2.St} {H HZ : Hp} {s s1 : Shared}
theorem de_act {Eg : XK} {Ng : List Str} {qg : Str} {sg : Scope} {g f c' : Addr} {cdg pm ctv : Value} {params : Arguments} {body : Expr} {scope : Scope} {k : Nat} {a : Str} {pn : List (Addr × Obj)} {xe : Value → Shared → Prop} {q : QE} {loc : Loc} {p1 p2 : Pos}
    (I : Inv X pins σ H s) (L : LamX.LamS X.env.scope scope) (hf : s.heap.get? f = some (PySem.W.kla_obj "<lambda>" (X.env.qual ++ "<lambda>") params body scope (cloFrom X.env.cells scope.names []) pm c' ctv)) (hfn : H f = none) (hfr : f ∉ frs X.stack) (rl : RL X.K H loc σ)
    (hbind : bindArgs (PySem.W.kla_fn "<lambda>" (X.env.qual ++ "<lambda>") params body scope (cloFrom X.env.cells scope.names []) pm (.ref c') ctv) ⟨[], []⟩ = pure [])
    (hr : Room (k + 1) (X.A.deeper (envOfC qg sg s.heap.objs.size g cdg)))
    (hbody : ∀ (A : Around) (outer : List Env) (s : Shared) (H : Hp) (E : XK), Room k (A.deeper (LamX.lamEnv X scope s.heap.objs.size f c')) → DE (lamN X A outer s H E scope f c') body q)
    (hN : Ng[0]? = some a) (hv : Vis sg a) (hd : (a == ("__debug__" : Str)) = false := by decide) (hcd : (a == ("__classdict__" : Str)) = false := by decide) :
    DE ((gotCx X Ng qg sg g cdg X.A X.stack s H Eg).tr pn xe) (.Call (.Name a p1) [] [] p2) (qAct f c' (X.env.qual ++ "<lambda>") loc q) := fun W tk => by
  refine ⟨fun pinsZ sZ σZ HZ Q IZ h => ?_⟩
  obtain ⟨locZ, SZ, P, E, rlZ, repZ, ⟨h0, hcod, hq⟩, go, gx⟩ := h
  obtain ⟨vf, e0, rvf⟩ := rlZ.at_ 0 _ h0
  rw [rv_ref rvf] at e0
  refine wpAny_Call_Name_kw (thn ((pe_var (pos := p1) (i := 0) hN hv hd hcd).run pinsZ sZ σZ HZ (fun v H1 => v = .ref f ∧ H1 = HZ) IZ ⟨.ref f, e0, rfl, rfl⟩) fun u s1 hu => ?_)
  obtain ⟨v, H1, I1, r1, ev, eH⟩ := hu
  subst ev
  rw [eH] at I1
  obtain rfl : u = Value.ref f := r1
  have un : Un (frs X.stack) [] H HZ s.heap s1.heap := I1.base
  have kZ : Keep X.K H HZ := Un.keepP un
  have of1 : s1.heap.get? f = some (PySem.W.kla_obj "<lambda>" (X.env.qual ++ "<lambda>") params body scope (cloFrom X.env.cells scope.names []) pm c' ctv) := un.keep f _ hf hfn hfr (by simp)
  refine PySem.W.callWith_F0 ⟨_, _, _, _, of1⟩ ?_
  have hco : HZ c' = some (LamX.CodeO c' (X.env.qual ++ "<lambda>")) := repZ c' _ hcod
  have hob := I1.hok c' _ hco
  obtain ⟨⟨oc, vs, t, hoc, hdc, hvc⟩, _, _⟩ := hob
  have rc : codeAny (model X.prog X.w) (X.A.deeper (envOfC qg sg s.heap.objs.size g cdg)) (.call (.ref f) ⟨[], []⟩) (CR (L2N.CX X.prog X.w) (envOfC qg sg s.heap.objs.size g cdg :: X.stack) X.prog X.w HZ s1 Q (WE W σZ)) s1 := by
    refine PySem.W.kla_callFunE hr.depth of1 rfl L.co L.gen rfl ⟨c', oc, vs, t, rfl, hoc, hdc, hvc⟩ ?_
    rw [hbind]
    refine wpAny_pure (wpAny_newFunctionEnv (fun y hy => (L.own y hy).2) (fun y hy => absurd hy (by simp)) (fun h₁ hns hsb => ⟨I1.nolimit.fresh _ hsb, ?_⟩) L.kind)
    show codeAny _ _ (.expr body (LamX.lamEnv X scope s1.heap.objs.size f c')) _ _
    have kp : ∀ b o, s1.heap.get? b = some o → h₁.get? b = some o := fun b o e => hsb.extBut b o (Nat.ne_of_lt (Heap.lt_size e)) (Heap.get?_push_of_some _ e)
    have J0 := LamX.lam_start2 (A := X.A.deeper (envOfC qg sg s.heap.objs.size g cdg)) (outer := envOfC qg sg s.heap.objs.size g cdg :: X.stack) (f := f) (c' := c') (tk := s1.toks + ([] : List (Str × Value)).length) (E := WE W σZ) I L I1.env0 hr.hd un hns kp
    have J : Inv (lamN X (X.A.deeper (envOfC qg sg s.heap.objs.size g cdg)) (envOfC qg sg s.heap.objs.size g cdg :: X.stack) s1 HZ (WE W σZ) scope f c') [] σ HZ { s1 with heap := h₁, toks := s1.toks + ([] : List (Str × Value)).length } := J0.wish _
    have pb := hbody (X.A.deeper (envOfC qg sg s.heap.objs.size g cdg)) (envOfC qg sg s.heap.objs.size g cdg :: X.stack) s1 HZ (WE W σZ) (hr.deeper _) (fun c d _ H' => WE W σZ c d H') (L2N.takes_of rfl rfl rfl rfl)
    refine PySem.W.kla_codeExpr (wpAny_mono (pb.run [] _ σ HZ Q J ⟨loc, SZ, P, E, rl.keep kZ, repZ, hq, go, fun x S' H' c d ex k rep rx => gx x S' H' c d ex k rep rx⟩) (fun v s' hq => ?_) fun e s' hq => hq)
    obtain ⟨w', H', J', rv, q⟩ := hq
    exact ⟨w', H', J'.os, J'.bare, J'.base, J'.hok, rv, q⟩
  refine wpAny_call (codeAny_mono rc fun r s' hq => ?_)
  match r, hq with
  | .error e, hq => exact L2N.passAt tk σZ pinsZ HZ s1 e s' I1 hq
  | .ok (.ret u), hq => exact I1.after hq
  | .ok .next, hq => exact False.elim hq
  | .ok .brk, hq => exact False.elim hq
  | .ok .cont, hq => exact False.elim hq
/-- the reading of x(lambda: ..): qB what x makes of its parameter's call, q the lambda's -/
def qLam (T : List (Addr × Str)) (Ng : List Str) (nm : Str) (qB : QE → QS) (q : QE) : QE := fun loc S P _ => TabOk T S ∧ ∀ f c' S1, Sub S S1 → S1 c' = some (.cod nm) → TabOk T S1 → qB (qAct f c' nm loc q) (endsF P fun _ _ => False) (startD Ng [.ref f]) S1
theorem de_lam {T : List (Addr × Str)} {qB : QE → QS} {x a : Str} {g c P : Addr} {k : Nat} {pg : Arguments} {bg : List Stmt} {sg : Scope} {dV kV doc pm cdv ct oc : Value} {an od : Option Addr} {osl : Array (Option Value)} {Ng : List Str}
    {params : Arguments} {body : Expr} {scope : Scope} {q : QE} {p lpos pos : Pos} (hg : Gl X x) (hm : X.mg x = some (.ref g)) (hk : PySem.W.keepIn X.K (.ref g) = true)
    (lk : X.K.lookup g = some ⟨oc, od, .func (PySem.W.fnOf x x pg bg sg dV kV doc pm an cdv ct), osl⟩) (hcg : PySem.W.codeIn X.K cdv x = true) (hb : L2.Binds X.K (PySem.W.fnOf x x pg bg sg dV kV doc pm an cdv ct) [a] []) (Sg : FnScope Ng [a] sg) (hNg : Ng[0]? = some a) (hva : Vis sg a)
    (hB : ∀ (s : Shared) (H : Hp) (qc : QE), Room (k + 1) (X.A.deeper (envOfC x sg s.heap.objs.size g cdv)) → (∀ (pn : List (Addr × Obj)) (xe : Value → Shared → Prop) (p1 p2 : Pos), DE ((gotCx X Ng x sg g cdv X.A X.stack s H fun _ _ _ => False).tr pn xe) (.Call (.Name a p1) [] [] p2) qc) →
      DB (gotCx X Ng x sg g cdv X.A X.stack s H fun _ _ _ => False) bg (qB qc))
    (TB : LamX.TabB X.base X.mg c P) (hcode : X.env.code = .ref c) (hmT : (P, X.env.qual ++ "<lambda>") ∈ T) (hu : ∀ p ∈ T, p.1 = P → p.2 = X.env.qual ++ "<lambda>") (hr : Room (k + 2) X.A) (L : LamX.LamS X.env.scope scope) (hdef : defaultsOf params X.env = ([], []))
    (hbind : ∀ (q : Str) (cl : List (Str × Addr)) (pm cv ctv : Value), bindArgs (PySem.W.kla_fn "<lambda>" q params body scope cl pm cv ctv) ⟨[], []⟩ = pure [])
    (hbody : ∀ (A : Around) (outer : List Env) (s : Shared) (H : Hp) (E : XK) (f c' : Addr), Room k (A.deeper (LamX.lamEnv X scope s.heap.objs.size f c')) → DE (lamN X A outer s H E scope f c') body q)
    (hdb : (x == ("__debug__" : Str)) = false := by decide) (hd : (a == ("__debug__" : Str)) = false := by decide) (hcd : (a == ("__classdict__" : Str)) = false := by decide) :
    DE X (.Call (.Name x p) [.Lambda params body scope lpos] [] pos) (qLam T Ng (X.env.qual ++ "<lambda>") qB q) := fun W _ => by
  refine ⟨fun pins s σ H Q I h => ?_⟩
  obtain ⟨loc, S, Pd, E, rl, rep, ⟨tok, hq⟩, go, _⟩ := h
  refine wpAny_Call_Name_kw (ld_glob I hg hm ?_ hdb)
  refine PySem.W.callWith_K (h₀ := X.base) I.ok.mod.kin hk ?_ (by rfl) (by rfl)
  show wpAny _ _ (spliced ((false, eval (.Lambda params body scope lpos) X.env) :: backTo pos (starEach [] X.env))) _ _ s
  refine Calls.spliced_cons (LamX.lam_make2 I TB hcode hmT hu (rep.tabs tok) hdef (L.has I.ok) fun f c' pm' ctv H1 s' I1 eN T1 hf hfn hfr hco => ?_)
  refine Calls.spliced_nil ⟨I1.kIn, ?_⟩
  have k1 : Keep X.K H H1 := ExtN.keep eN
  have rep0 : Rep X.K S H1 := rep.extN tok eN T1
  have rep1 : Rep X.K (ups S c' (.cod (X.env.qual ++ "<lambda>"))) H1 := fun b o e => by
    by_cases hb : b = c'
    · subst hb
      rw [ups_same] at e
      cases e
      exact hco
    · rw [ups_ne hb] at e
      exact rep0 b o e
  have sub1 : Sub S (ups S c' (.cod (X.env.qual ++ "<lambda>"))) := fun b o e => by
    by_cases hb : b = c'
    · subst hb
      have z := rep0 _ _ e
      cases o with
      | lst ds =>
        obtain ⟨vs, z, _⟩ := z
        rw [hco] at z
        unfold LamX.CodeO at z
        cases z
      | tab nm =>
        obtain ⟨vs, z, _⟩ := z
        rw [hco] at z
        unfold LamX.CodeO at z
        cases z
      | cod nm =>
        have z : H1 b = some (LamX.CodeO b nm) := z
        have e1 : LamX.CodeO b nm = LamX.CodeO b (X.env.qual ++ "<lambda>") := Option.some.inj (z.symm.trans hco)
        have o1 := I1.hok b _ hco
        have o2 := I1.hok b _ z
        obtain ⟨⟨oc1, vs1, t1, a1, a2, a3⟩, _, _⟩ := o1
        obtain ⟨⟨oc2, vs2, t2, b1, b2, b3⟩, _, _⟩ := o2
        rw [a1] at b1
        cases b1
        rw [a2] at b2
        cases b2
        rw [a3] at b3
        have e3 : nm = X.env.qual ++ "<lambda>" := by
          have e4 := Option.some.inj b3
          injection e4 with e5 _
          exact e5.symm
        rw [e3, ups_same]
    · rw [ups_ne hb]
      exact e
  have tok1 : TabOk T (ups S c' (.cod (X.env.qual ++ "<lambda>"))) := ⟨fun q hq => sub1 _ _ (tok.1 q hq), fun b o e => by
    by_cases hb : b = c'
    · subst hb
      rw [ups_same] at e
      cases e
    · rw [ups_ne hb] at e
      exact tok.2 b o e⟩
  have rf : RVs X.K H1 [D.ref f] [V.ref f] := RVs.one rv_ofR
  have rc : codeAny (model X.prog X.w) X.A (.call (.ref g) ⟨[.ref f], []⟩) (CR (L2N.CX X.prog X.w) X.stack X.prog X.w H1 s' Q fun _ _ _ => False) s' := by
    refine LamX.run_ofS (N := Ng) (ps := [a]) (us := [.ref f]) (vs := [.ref f]) lk hcg Sg hr I1.env0 (hb s' [.ref f] I1.kIn rfl) (.cons rfl .nil) rfl fun hr' => ?_
    have db := hB s' H1 (qAct f c' (X.env.qual ++ "<lambda>") loc q) hr' fun pn xe p1 p2 => de_act I1 L hf hfn hfr (rl.keep k1) (hbind _ _ _ _ _) hr' (fun A outer s H E hr2 => hbody A outer s H E f c' hr2) hNg hva hd hcd
    refine ⟨_, db (fun c d _ H' => False) (L2N.takes_of rfl rfl rfl rfl), ?_⟩
    exact ⟨startD Ng [.ref f], _, endsF Pd fun _ _ => False, startD_len rf, rep1, hq f c' _ sub1 ups_same tok1, endsF_go (E := fun _ _ _ => False) (go.keep k1) fun _ _ _ _ _ z => z.elim⟩
  refine wpAny_call (codeAny_mono rc fun r s2 hq => ?_)
  match r, hq with
  | .error e, hq =>
    obtain ⟨_, _, _, _, _, _, _, _, _, _, _, _, z⟩ := hq
    exact z.elim
  | .ok (.ret u), hq => exact I1.after hq
  | .ok .next, hq => exact False.elim hq
  | .ok .brk, hq => exact False.elim hq
  | .ok .cont, hq => exact False.elim hq
end
end PL

namespace PL
open PySem PySem.Spec PyProof.Rows L2 -- the layers
/-! ## a list comprehension over a range, where an exception is handled -/
/-- the block's context, the handled exception pinned -/
abbrev hotB (X : Cx) (p : Addr × Obj) (s : Shared) (H : Hp) (scope : Scope) (ce : Env) (fp : List Addr) : Cx := (X.blk s H scope ce fp).tr ([] ++ [p]) fun _ _ => False
section
variable {X : Cx} {p : Addr × Obj}
theorem hot_start {scope : Scope} {own : List (Str × Nat)} {fp : List Addr} {pins : List (Addr × Obj)} {σ : L2.St} {H : Hp} {s : Shared} (hp : p ∈ X.pn) (I : Inv X pins σ H s) (ok : BlkOk X.N X.env.scope scope own) (hN : X.N.Nodup) (hfp : ∀ b ∈ fp, FpOk X pins H b ∧ b < s.heap.objs.size) :
    Inv (hotB X p s H scope (compEnvC scope (cellsFrom (s.heap.objs.size + 1) scope.names (cloFrom X.env.cells scope.names [])) s.heap.objs.size X.env) fp) [] (L2.wipe σ (own.map (·.2))) H { s with heap := pushCells (s.heap.push { cls := .type "dict", data := .dict #[] }) scope.names } := by
  have J := block_start I ok hN hfp
  obtain ⟨e1, e2, e3, e4, e5⟩ := I.pin p (List.mem_append_left _ hp)
  refine Inv.toTry (J.pins_of (pins' := [p]) fun q hq => ?_) _
  obtain rfl := List.mem_singleton.mp hq
  refine ⟨pushCells_keeps _ _ _ _ (Heap.get?_push_of_some _ e1), e2, Nat.ne_of_lt (Heap.lt_size e1), fun z => ?_, e5⟩
  rcases List.mem_cons.mp (I.stkSub _ z) with h | h
  · exact e3 h
  · exact e4 h
theorem lcH {pins : List (Addr × Obj)} {s : Shared} {σ : L2.St} {H : Hp} {Q : VK} {elt tg iter : Expr} {ifs : List Expr} {scope : Scope} {own : List (Str × Nat)} {pos pos' : Pos} {wi : TI} {g : TG} {tt : TT} {te : TE} {use : Option (Value → Sem Unit)} {Qf : Value → Shared → Prop}
    (h1 : L2H.Hot1 X.A p) (hp : p ∈ X.pn) (hN : X.N.Nodup) (I : Inv X pins σ H s) (hi : L2H.PIH X tg iter wi) (ok : BlkOk X.N X.env.scope scope own)
    (hG : ∀ (s : Shared) (H : Hp) (C : Addr) (cl : List (Str × Addr)) (fp : List Addr), PG (hotB X p s H scope (compEnvC scope cl C X.env) fp) tg g)
    (hT : ∀ (s : Shared) (H : Hp) (C : Addr) (cl : List (Str × Addr)) (fp : List Addr), PTs (hotB X p s H scope (compEnvC scope cl C X.env) fp) ifs tt)
    (hE : ∀ (s : Shared) (H : Hp) (C : Addr) (cl : List (Str × Addr)) (fp : List Addr), PE (hotB X p s H scope (compEnvC scope cl C X.env) fp) elt te) (hs : ∀ x, foldedSetIterable iter X.env x = pure x)
    (h : tLc wi g tt te (own.map (·.2)) σ H Q)
    (fin : ∀ D C s' m H', Inv X pins σ H' s' → Q (.ref D) H' → s'.heap.Ns C m → FpOk X pins H' C → compPost (model X.prog X.w) X.A X.xe use Qf (.ref D) C (.ok .next) s') :
    wpAny (model X.prog X.w) X.A (comprehension (.ListComp elt [⟨tg, iter, ifs, 0⟩] scope pos) scope X.env pos' (newList []) false (eval iter X.env) use) Qf X.xe s := by
  have hfree : ∀ y ∈ scope.names, y.2 = .free → ∃ c, X.env.cells.lookup y.1 = some c := fun y hy e => (ok.free y hy e).elim (fun k => I.ok.has _ (.inl k)) fun k => I.ok.has _ (.inr k)
  refine wpAny_comprehension_free (use := use) rfl hs (closure_ok hfree) ok.kind (fun y hy e => by rw [ok.uniq y hy, e]) ?_
  refine thn (hi.run pins s σ H _ I h) fun xv s1 hx => thn hx fun itv s2 h2 => ?_
  obtain ⟨it, fp, tn, J, H2, rfl, I2, T, st2, f2, q⟩ := h2
  refine wpAny_newObj_type (newEnv_comp ?_) (by show 0 ≤ sizeLine; decide)
  -- the new list's address, and the state with it
  obtain ⟨D, hD⟩ : ∃ D, s2.heap.objs.size = D := ⟨_, rfl⟩
  have nD : H2 D = none := I2.hok.fresh (Nat.le_of_eq hD)
  obtain ⟨W, ⟨m0, w0⟩, turn⟩ := q D nD
  have obj0 : ObjOk X.prog X.w (upd H2 D (.lst [])) (s2.heap.push { cls := .type "list", data := .seq ([] : List Value).toArray }) D (.lst []) := ⟨Nat.zero_le _, [], 0, .nil, by rw [← hD]; exact Heap.get?_push_size _ rfl⟩
  have I3 := I2.laid (t' := s2.toks) (fun b o e => Heap.get?_push_of_some _ e) (Nat.le_of_eq hD) obj0
  rw [hD]
  obtain ⟨s3, hs3⟩ : ∃ s3 : Shared, s3 = { s2 with heap := s2.heap.push { cls := .type "list", data := .seq ([] : List Value).toArray } } := ⟨_, rfl⟩
  have hh3 : s3.heap = s2.heap.push { cls := .type "list", data := .seq ([] : List Value).toArray } := by rw [hs3]
  rw [← hs3] at I3
  obtain ⟨H3, hH3⟩ : ∃ H3, H3 = upd H2 D (.lst []) := ⟨_, rfl⟩
  rw [← hH3] at I3 w0
  have small : ∀ b ∈ fp, b < s2.heap.objs.size := fun b hb => by
    obtain ⟨o, e, _⟩ := T.obj _ _ st2 b hb
    exact Heap.lt_size e
  have f3 : ∀ b ∈ fp, FpOk X pins H3 b ∧ b < s3.heap.objs.size := fun b hb => by
    refine ⟨⟨?_, (f2 b hb).2⟩, by rw [hh3, Heap.size_push]; exact Nat.lt_succ_of_lt (small b hb)⟩
    rw [hH3, upd_ne (by rw [← hD]; exact Nat.ne_of_lt (small b hb))]
    exact (f2 b hb).1
  have st3 : tn 0 s3.heap := T.keep _ _ _ st2 fun b _ o e => by rw [hh3]; exact Heap.get?_push_of_some _ e
  have I4 := hot_start hp I3 ok hN f3
  have pg := hG s3 H3 s3.heap.objs.size (cellsFrom (s3.heap.objs.size + 1) scope.names (cloFrom X.env.cells scope.names [])) fp
  have pt := hT s3 H3 s3.heap.objs.size (cellsFrom (s3.heap.objs.size + 1) scope.names (cloFrom X.env.cells scope.names [])) fp
  have pe := hE s3 H3 s3.heap.objs.size (cellsFrom (s3.heap.objs.size + 1) scope.names (cloFrom X.env.cells scope.names [])) fp
  have nfp : ∀ b ∈ fp, H3 b = none := fun b hb => (f3 b hb).1.1
  obtain ⟨ce, hce⟩ : ∃ ce, ce = compEnvC scope (cellsFrom (s3.heap.objs.size + 1) scope.names (cloFrom X.env.cells scope.names [])) s3.heap.objs.size X.env := ⟨_, rfl⟩
  have cL : ce.locals = s3.heap.objs.size := by rw [hce]; rfl
  rw [← hce] at I4 pg pt pe
  have go : codeAny (model X.prog X.w) X.A (.compStart (.ListComp elt [⟨tg, iter, ifs, 0⟩] scope pos) 0 (.ref it) (.ref D) ce) (compPost (model X.prog X.w) X.A X.xe use Qf (.ref D) s3.heap.objs.size) { s3 with heap := pushCells (s3.heap.push { cls := .type "dict", data := .dict #[] }) scope.names } := by
    obtain ⟨s4, hs4⟩ : ∃ s4 : Shared, s4 = { s3 with heap := pushCells (s3.heap.push { cls := .type "dict", data := .dict #[] }) scope.names } := ⟨_, rfl⟩
    rw [← hs4] at I4 ⊢
    have st4 : tn 0 s4.heap := T.keep _ _ _ st3 fun b _ o e => by rw [hs4]; exact pushCells_keeps _ _ _ _ (Heap.get?_push_of_some _ e)
    have hotc : L2H.HotC (hotB X p s3 H3 scope ce fp) := ⟨p, h1, List.mem_append_right _ (List.mem_singleton.mpr rfl)⟩
    have stat : ∀ {σ' : L2.St} {H' : Hp} {s' : Shared}, Inv (hotB X p s3 H3 scope ce fp) [] σ' H' s' → (∀ b ∈ fp, H' b = none) → (∀ b ∈ fp, b ≠ p.1) → ∀ b ∈ fp, FpOk (hotB X p s3 H3 scope ce fp) [] H' b := fun {σ' H' s'} I' hn hne b hb =>
      ⟨hn b hb, (I'.ok.exf b hb).1, I'.ok.exfs b hb, .inl hb, fun x c e => (I'.ok.exf b hb).2 x c e, fun q hq => by
        have hq' : q ∈ ([] ++ [p]) ++ ([] : List (Addr × Obj)) := hq
        have hq2 : q = p := by simpa using hq'
        rw [hq2]
        exact (hne b hb).symm⟩
    have hne : ∀ b ∈ fp, b ≠ p.1 := fun b hb z => (f2 b hb).2.2.2.2.2 p (List.mem_append_left _ hp) z.symm
    have loop : codeAny (model X.prog X.w) X.A (.compLoop (.ListComp elt [⟨tg, iter, ifs, 0⟩] scope pos) 0 (.ref it) (.ref D) ce) (compPost (model X.prog X.w) X.A X.xe use Qf (.ref D) s3.heap.objs.size) s4 := by
      refine compLoop_any (fun n s' => ∃ i H', Inv (hotB X p s3 H3 scope ce fp) [] (L2.wipe σ (own.map (·.2))) H' s' ∧ tn i s'.heap ∧ (∀ b ∈ fp, H' b = none) ∧ W i n H') ?_ m0 ⟨0, H3, I4, st4, nfp, w0⟩
      rintro n s5 ⟨i, H5, I5, st5, n5, w5⟩
      rcases turn i n H5 w5 with ⟨stop, qq⟩ | ⟨goes, Nx, hNx, step⟩
      · refine thnF (T.done (hotB X p s3 H3 scope ce fp) rfl rfl rfl hotc i [] s5 _ H5 (fun _ _ => False) I5 (stat I5 n5 hne) st5 stop) fun r s6 hr => ?_
        obtain ⟨rfl, I6⟩ := hr
        have I7 : Inv X pins σ H5 s6 := I3.call' (ch := fp) I6.os I6.base I6.hok I6.bare fun b hb => ⟨(f3 b hb).1.2.2.2.1, (f3 b hb).1.2.1, (f3 b hb).1.2.2.2.2.1, (f3 b hb).1.2.2.2.2.2⟩
        have nC : H5 s3.heap.objs.size = none := by
          have z : H5 ce.locals = none := I6.free
          rwa [cL] at z
        obtain ⟨m, hn, _⟩ := I6.loc
        have hn' : s6.heap.Ns ce.locals m := hn
        rw [cL] at hn'
        exact fin D s3.heap.objs.size s6 m H5 I7 qq hn' (I3.fpOk (Nat.le_refl _) nC)
      · refine thnF (T.item (hotB X p s3 H3 scope ce fp) rfl rfl rfl hotc i [] s5 _ H5 (fun _ _ => False) I5 (stat I5 n5 hne) st5 goes) fun r s6 hr => ?_
        obtain ⟨u, rfl, h6⟩ := hr
        refine thnF h6 fun _ s7 hh => ?_
        obtain ⟨x, H7, I7, r7, y7, st7, n7⟩ := hh
        have I7' := I7.pinned (stat I7 n7 hne) (T.obj _ _ st7)
        refine thnF (pg.run _ s7 _ H7 x u _ I7' r7 (step x H7 y7)) fun _ s8 hh8 => ?_
        obtain ⟨σ8, H8, I8, hw8, q8⟩ := hh8
        refine thnF (pt.run _ s8 σ8 H8 _ I8 q8) fun b s9 hh9 => ?_
        obtain ⟨H9, I9, q9⟩ := hh9
        have again : ∀ {s' : Shared} {H' : Hp}, Inv (hotB X p s3 H3 scope ce fp) ([] ++ pinsAt fp s7.heap) σ8 H' s' → Nx H' → ∃ m, m < n ∧ ∃ i H', Inv (hotB X p s3 H3 scope ce fp) [] (L2.wipe σ (own.map (·.2))) H' s' ∧ tn i s'.heap ∧ (∀ b ∈ fp, H' b = none) ∧ W i m H' := fun {s' H'} I' nx => by
          obtain ⟨m', hm, w'⟩ := hNx H' nx
          have kept : ∀ b ∈ fp, ∀ o, s7.heap.get? b = some o → s'.heap.get? b = some o ∧ H' b = none := fun b hb o e => by
            have z := I'.pin (b, o) (List.mem_append_right _ (List.mem_append_right _ (mem_pinsAt hb e)))
            exact ⟨z.1, z.2.1⟩
          refine ⟨m', hm, i + 1, H', (I'.unpinned (pins := [])).weak (by rw [← hw8, L2.wipe_length]) (fun j v e => ?_), T.keep _ _ _ st7 fun b hb o e => (kept b hb o e).1, fun b hb => ?_, w'⟩
          · rw [← hw8] at e
            exact (wipe_some e).1
          · obtain ⟨o, e, _⟩ := T.obj _ _ st7 b hb
            exact (kept b hb o e).2
        cases b with
        | false =>
          simp only [Bool.false_eq_true, if_false] at q9 ⊢
          exact again I9 q9
        | true =>
          simp only [if_true] at q9 ⊢
          refine thnF (pe.run _ s9 σ8 H9 _ I9 q9) fun z s10 hh10 => ?_
          obtain ⟨yv, H10, I10, r10, acc, hD10, hz10, nx⟩ := hh10
          exact app_ok (X := hotB X p s3 H3 scope ce fp) I10 hD10 hz10 r10 fun s11 I11 => again I11 nx
    exact codeAny_compStart_list loop (T.self X.A 0 _ _ _ st4 loop)
  rw [hce] at go
  rw [hs3] at go
  exact go
/-- name = [..] over a range, in an except suite -/
def DIH (X : Cx) (tg iter : Expr) (q : QI) : Prop := ∀ W, L2N.Takes X W → L2H.PIH X tg iter (liftI X.K W q)
theorem dih_range1 {tg a : Expr} {qa : QA} {pc pos : Pos} (hg : Gl X "range") (hm : X.mg "range" = none) (ha : DA X [a] qa) (hs : starEach [a] X.env = [(false, eval a X.env)] := by rfl) : DIH X tg (.Call (.Name "range" pc) [a] [] pos) (iRange1 qa) := fun W tk => by
  refine ⟨fun pins s σ H R I h => (L2H.pi_range1H hg hm (ha W tk) hs).run pins s σ H R I ?_⟩
  obtain ⟨loc, S, P, E, rl, rep, hq, g, gx⟩ := h
  refine ⟨loc, S, _, E, rl, rep, hq, fun ds S1 vs H1 q1 k1 rep1 r1 => ?_, gx⟩
  dsimp only at q1
  split at q1
  · obtain ⟨v, e, r2⟩ := rvs_one r1
    exact ⟨_, by rw [e, rv_int r2], q1.1, q1.2.1, g _ _ _ _ q1.2.2 k1 rep1 rel_range⟩
  · exact q1.elim
theorem ds_setLcH {i : Nat} {y : Str} {py pos : Pos} {elt tg iter : Expr} {ifs : List Expr} {scope : Scope} {own : List (Str × Nat)} {spos : Pos} {it : QI} {g : QG} {tt : QT} {te : QE} (h1 : L2H.Hot1 X.A p) (hp : p ∈ X.pn) (hN : X.N.Nodup) (hy : X.N[i]? = some y) (hyl : X.env.scope.names.lookup y = some .local)
    (hsw : swapsWith (.ListComp elt [⟨tg, iter, ifs, 0⟩] scope pos) (some (.Name y py)) spos.line X.env = pure true) (hi : DIH X tg iter it) (ok : BlkOk X.N X.env.scope scope own)
    (hg : ∀ (s : Shared) (H : Hp) (C : Addr) (cl : List (Str × Addr)) (fp : List Addr), DGo (hotB X p s H scope (compEnvC scope cl C X.env) fp) tg (own.map (·.2)) g) (ht : ∀ (s : Shared) (H : Hp) (C : Addr) (cl : List (Str × Addr)) (fp : List Addr), DTs (hotB X p s H scope (compEnvC scope cl C X.env) fp) ifs tt)
    (he : ∀ (s : Shared) (H : Hp) (C : Addr) (cl : List (Str × Addr)) (fp : List Addr), DE (hotB X p s H scope (compEnvC scope cl C X.env) fp) elt te) (hs : ∀ x, foldedSetIterable iter X.env x = pure x := by intro _; rfl) :
    DS X (.Assign [.Name y py] (.ListComp elt [⟨tg, iter, ifs, 0⟩] scope pos) spos) (sSet i (qLc it g tt te (own.map (·.2)))) := fun W tk => by
  refine ⟨fun pins s σ H D I h => ?_⟩
  obtain ⟨loc, S, P, rl, rep, hq, go⟩ := h
  rw [exec_Assign_Name_used _ _ _ _ hsw]
  refine wpAny_bind (wpAny_standAt (wpAny_bind ?_))
  show wpAny _ X.A (do let _ ← comprehension (.ListComp elt [⟨tg, iter, ifs, 0⟩] scope pos) scope X.env (firstIterPos [⟨tg, iter, ifs, 0⟩] pos) (newList []) false (eval iter X.env) (some (assign (.Name y py) X.env))) _ _ s
  have hl : lift X.K W (qLc it g tt te (own.map (·.2))) σ H fun x H1 => gName i x σ H1 D.nx :=
    ⟨loc, S, _, _, rl, rep, hq, fun d S1 v H1 q1 k1 rep1 r1 => go.nx _ _ _ _ q1 k1 ((rl.keep k1).set r1 i) rep1, go.gx rl⟩
  refine wpAny_bind (thn (lcH (g := liftGo X.K (own.map fun (x : Str × Nat) => x.2) g) (tt := liftT X.K (fun _ _ _ _ => False) tt) (te := lift X.K (fun _ _ _ _ => False) te) (Qf := fun _ s' => SP X pins D .next s') h1 hp hN I (hi W tk) ok hg (fun s H C cl fp => ht s H C cl fp _ takes0) (fun s H C cl fp => he s H C cl fp _ takes0) hs (lc_imp hl) fun L C s' m H' I' q hn f => ?_) fun _ s' hq => wpAny_pure (wpAny_pure hq))
  show wpAny _ _ (assign (.Name y py) X.env (.ref L)) _ _ _
  refine wpAny_assign_Name (store_ok2 (v := V.ref L) I' hN hy (.inl hyl) rfl (fun s2 I2 hsb => ?_) (.inr hyl))
  obtain ⟨a, sb, ha⟩ := hsb
  obtain ⟨f0, f1, f2, f3, f4, f5⟩ := f
  have haC : C ≠ a := by
    rcases ha with z | z
    · rw [z]
      exact f1
    · exact fun e => f4 y a z e.symm
  exact ⟨m, hn.sameBut sb haC, fun h3 sb3 => ⟨_, H', I2.turned (t' := s2.toks) (fun b o hb e => (sb3.2 b hb).trans e) f0 f1 f3 f4 f5, q⟩⟩

/-! ## try: .. except x as n: .. -/
theorem RL.setNone {K : PySem.W.Frag} {H : Hp} {loc : Loc} {σ : L2.St} (r : RL K H loc σ) (i : Nat) : RL K H (loc.set i none) (σ.set i none) := by
  refine ⟨by simp [r.len], fun j x h => ?_⟩
  by_cases e : i = j
  · subst e
    by_cases hl : i < loc.length
    · rw [List.getElem?_set_self hl] at h
      cases h
    · rw [List.getElem?_eq_none (by simpa using hl)] at h
      cases h
  · rw [List.getElem?_set_ne e] at h
    obtain ⟨w, a, b⟩ := r.at_ j x h
    exact ⟨w, by rw [List.getElem?_set_ne e]; exact a, b⟩
def goneN (i : Nat) (P : QN) : QN where
  nx := fun l s => P.nx (l.set i none) s
  rt := P.rt
  bk := fun l s => P.bk (l.set i none) s
  ct := fun l s => P.ct (l.set i none) s
  ex := fun _ _ _ => False
def sTry (Cs : List Addr) (i : Nat) (tb : QS) (ts : Addr → Addr → QS) : QS := fun P loc S => tb { P with ex := fun x loc' S' => x.fld = none ∧ x.cls ∈ Cs ∧ ∀ a, S' a = none → ts x.cls a (goneN i P) (loc'.set i (some (.ref a))) S' } loc S
theorem ds_try {x n : Str} {CS : Addr} {Cs : List Addr} {i : Nat} {body suite : List Stmt} {b₀ : Stmt} {np pos pos' : Pos} {tb : QS} {ts : Addr → Addr → QS} (hs : X.stack = X.env :: X.outer) (hf : X.env.frame = some X.env.locals) (hN : X.N.Nodup) (hi : X.N[i]? = some n) (hln : X.env.kindOf n = some .local) (hc : Names X x (.ref CS))
    (hx : ∀ C ∈ Cs, PySem.W.exmOne X.K (.ref C) (.ref CS) = some true) (hb : ∀ pn xe, PassesOwn (model X.prog X.w) X.A X.env xe → DB (X.tr pn xe) body tb)
    (hsu : ∀ (a : Addr) (oe : Obj) (C : Addr) (pn : List (Addr × Obj)), C ∈ Cs → L2N.Zn (.ref C) none oe → (∃ vs, oe.data = .fields vs) → DB (X.suite a ((a, oe) :: pn)) (b₀ :: suite) (ts C a)) :
    DS X (.Try body [.ExceptHandler (some (.Name x np)) (some n) (b₀ :: suite) pos'] [] [] pos) (sTry Cs i tb ts) := fun W tk => by
  refine PS.imp (L2N.ps_try_as (tb := fun W => liftS X.K W tb) (ts := fun a c d => fun D σ H => ∃ C, C ∈ Cs ∧ c = .ref C ∧ d = none ∧ liftS X.K (fun _ _ _ _ => False) (ts C a) D σ H) hs hf hN hi hln hc tk (fun W pn xe tk' po => hb pn xe po W tk') fun a oe c d pn hz hd => ?_) fun D σ H h => ?_
  · refine ⟨fun pins s σ H D I h => ?_⟩
    obtain ⟨C, hC, rfl, rfl, h⟩ := h
    exact (hsu a oe C pn hC hz hd _ takes0).run pins s σ H D I h
  · obtain ⟨loc, S, P, rl, rep, hq, g⟩ := h
    refine ⟨loc, S, _, rl, rep, hq, g.nx, g.rt, g.bk, g.ct, fun y loc' S' σ' H' c d z k rl' rep' rx => ?_⟩
    obtain ⟨hfd, hC, h⟩ := z
    obtain ⟨e1, e2⟩ := rx
    rw [hfd] at e2
    subst e1
    have e2 : d = none := e2
    subst e2
    refine ⟨true, hx _ hC, fun _ a na => ⟨y.cls, hC, rfl, rfl, loc'.set i (some (.ref a)), S', goneN i P, rl'.set rv_ofR i, rep', h a (rep'.free na), ?_⟩, fun z => nomatch z⟩
    have g' := g.keep k
    exact ⟨fun l s σ2 H2 p k2 rl2 rep2 => g'.nx _ _ _ _ p k2 (rl2.setNone i) rep2, g'.rt, fun l s σ2 H2 p k2 rl2 rep2 => g'.bk _ _ _ _ p k2 (rl2.setNone i) rep2, fun l s σ2 H2 p k2 rl2 rep2 => g'.ct _ _ _ _ p k2 (rl2.setNone i) rep2, fun _ _ _ _ _ _ _ z => z.elim⟩
theorem hot_suite {a : Addr} {oe : Obj} {C : Addr} {pn : List (Addr × Obj)} (hz : L2N.Zn (.ref C) none oe) (hd : ∃ vs, oe.data = .fields vs) : L2H.Hot1 (X.suite a ((a, oe) :: pn)).A (a, oe) := by
  obtain ⟨vs, hv⟩ := hd
  exact ⟨rfl, vs, hv, hz.2.2 vs hv⟩
/-! ## isinstance(e, C) of the exception in hand; a class by its name -/
theorem de_globR {x : Str} {a : Addr} {pos : Pos} (hg : Gl X x) (hm : X.mg x = some (.ref a)) (hd : (x == ("__debug__" : Str)) = false := by decide) : DE X (.Name x pos) (qC (.ref a)) :=
  de_const (pe_glob (v := .ref a) hg hm rfl hd) fun _ => rv_ofR
def cIsE (K : PySem.W.Frag) (a C : Addr) : QC := fun ds S P => ∃ c b, ds = [.ref a, .ref c] ∧ PySem.W.kitOne K (.ref C) (.ref c) = some b ∧ P (.bl b) S
theorem cd_isE {a C : Addr} {oe : Obj} {pn : List (Addr × Obj)} (T : ExcC X.K C) (hz : L2N.Zn (.ref C) none oe) (hd : ∃ vs, oe.data = .fields vs) : CDok (X.suite a ((a, oe) :: pn)) (.builtin "isinstance") (cIsE X.K a C) := by
  refine ⟨_, call_isE T hz.zc hd, fun ds S P H vs Q q rep r go => ?_⟩
  obtain ⟨c, b, rfl, e, hp⟩ := q
  obtain ⟨v, w, rfl, r1, r2⟩ := rvs_two r
  exact ⟨.ref c, .ref c, b, by rw [rv_ref r1, rv_ref r2], fun u hu => hu, e, go.now hp rep rv_ofB⟩
end
end PL

namespace PL
open PySem PySem.Spec PyProof.Rows L2 -- the layers
/-! ## the end of a law's row -/
section
variable {P : Program} {w : World} {K : PySem.W.Frag} {mg mb : Str → Option Value} {fa a : Addr} {cs : List (Addr × Addr)} {s₁ : Shared} {vs : List Value} {ns : List Int}
abbrev tabObj : Obj := { cls := .none, data := .fields #[] }
abbrev scrObj (vs : List Value) : Obj := { cls := .type "list", data := .seq vs.toArray }
/-- what is tracked at the law's entry: the tables; the script, where the written part does not hold it -/
def entryH (K : PySem.W.Frag) (cs : List (Addr × Addr)) (a : Addr) (vs : List Value) (ns : List Int) : Hp := fun b =>
  if b ∈ cs.map (·.2) then some (.tbl #[]) else if b = a ∧ K.lookup a = none then some (.frz (scrObj vs) (.lst (ns.map V.int))) else none
def entryS (cs : List (Addr × Addr)) (nm : Addr → Str) : Sto := fun b => if b ∈ cs.map (·.2) then some (.tab (nm b)) else none
def entryT (cs : List (Addr × Addr)) (nm : Addr → Str) : List (Addr × Str) := cs.map fun p => (p.2, nm p.2)
theorem entry_tabOk {nm : Addr → Str} : TabOk (entryT cs nm) (entryS cs nm) := by
  refine ⟨fun p hp => ?_, fun b q h => ?_⟩
  · obtain ⟨c, hc, rfl⟩ := List.mem_map.mp hp
    exact if_pos (List.mem_map.mpr ⟨c, hc, rfl⟩)
  · unfold entryS at h
    by_cases hb : b ∈ cs.map (·.2)
    · rw [if_pos hb] at h
      cases h
      obtain ⟨c, hc, rfl⟩ := List.mem_map.mp hb
      exact List.mem_map.mpr ⟨c, hc, rfl⟩
    · rw [if_neg hb] at h
      cases h
theorem rvs_intsOf {H : Hp} : ∀ ns : List Int, RVs K H (ns.map D.int) (ns.map V.int)
  | [] => RVs.nil_iff.mpr rfl
  | n :: ns => by
    show RVs K H (D.int n :: ns.map D.int) (V.int n :: ns.map V.int)
    unfold RVs
    exact ⟨_, _, rfl, rv_ofI, rvs_intsOf ns⟩
theorem entry_cases {b : Addr} {u : HO} (h : entryH K cs a vs ns b = some u) : (b ∈ cs.map (·.2) ∧ u = .tbl #[]) ∨ (b = a ∧ K.lookup a = none ∧ u = .frz (scrObj vs) (.lst (ns.map V.int))) := by
  unfold entryH at h
  split at h
  · rename_i hb
    exact .inl ⟨hb, (Option.some.inj h).symm⟩
  · split at h
    · rename_i hb
      exact .inr ⟨hb.1, hb.2, (Option.some.inj h).symm⟩
    · cases h
theorem end_call {k : Nat} {fd : FuncData} {x : Str} {sp : QF} {nm : Addr → Str}
    (KX : K.In s₁.heap) (hns : s₁.heap.Ns mainGlobals mg) (hb : s₁.heap.Ns builtinsNs mb) (hbb : ∀ x : Str, x ≠ "__name__" → mb x = bootBuiltins x) (hlim : s₁.heap.NoLimit) (hg : s₁.gens = #[])
    (hT : ∀ p ∈ cs, s₁.heap.get? p.2 = some tabObj) (nT : ∀ p ∈ cs, K.lookup p.2 = none) (hC : ∀ p ∈ cs, PySem.W.codeHdIn K p.1 p.2 = true)
    (hbm : ∃ (bm : Addr) (ob : Obj), mg "__builtins__" = some (.ref bm) ∧ bm ≠ builtinsNs ∧ s₁.heap.get? bm = some ob ∧ ob.cls = .type "module" ∧ ob.dict = some builtinsNs ∧ ob.data = .plain)
    (ha : s₁.heap.get? a = some (scrObj vs)) (hi : IntsAre vs ns) (hl : ns.length ≤ sizeLine) (hr : Room k callerA)
    (F : ∀ base : Heap, K.In base → base.Ns mainGlobals mg → (∀ p ∈ cs, LamX.TabB base mg p.1 p.2) → FnG P w K mg base k fa fd [x] sp) (hbind : ∀ (s : Shared) (u : Value), BindsTo s fd ⟨[u], []⟩ [(x, u)])
    (hsp : sp [.rol (ns.map D.int)] (entryS cs nm) (fun d _ => d = .bl true) fun _ _ => False) :
    codeAny (model P w) callerA (.call (.ref fa) ⟨[.ref a], []⟩) (fun r s' => r = .ok (.ret (.bool true)) ∧ OldK s₁.heap s'.heap ∧ s'.os = s₁.os ∧ AllBare s'.gens) s₁ := by
  have rv := vals_ints hi
  have lenV := hi.length
  have tabAt : ∀ b, b ∈ cs.map (·.2) → s₁.heap.get? b = some tabObj ∧ K.lookup b = none := fun b z => by
    obtain ⟨p, hp, rfl⟩ := List.mem_map.mp z
    exact ⟨hT p hp, nT p hp⟩
  have aNo : a ∉ cs.map (·.2) := fun z => by
    have e := (tabAt a z).1
    rw [ha] at e
    have e2 : Data.seq vs.toArray _ = Data.fields #[] := congrArg Obj.data (Option.some.inj e)
    cases e2
  generalize hHdef : entryH K cs a vs ns = H
  have hCases : ∀ {b u}, H b = some u → (b ∈ cs.map (·.2) ∧ u = .tbl #[]) ∨ (b = a ∧ K.lookup a = none ∧ u = .frz (scrObj vs) (.lst (ns.map V.int))) := fun {b u} h => entry_cases (by rw [hHdef]; exact h)
  have hTab : ∀ b, b ∈ cs.map (·.2) → H b = some (.tbl #[]) := fun b z => by
    rw [← hHdef]
    exact if_pos z
  have hScr : K.lookup a = none → H a = some (.frz (scrObj vs) (.lst (ns.map V.int))) := fun z => by
    rw [← hHdef]
    exact (if_neg aNo).trans (if_pos ⟨rfl, z⟩)
  -- what is tracked is a table or the script
  have free : ∀ {b : Addr} {o : Obj}, s₁.heap.get? b = some o → (∀ xs n, o.data ≠ .seq xs n) → o.data ≠ .fields #[] → H b = none := fun {b o} e h1 h2 => by
    cases q : H b with
    | none => rfl
    | some u =>
      rcases hCases q with ⟨z, _⟩ | ⟨z, _, _⟩
      · rw [(tabAt b z).1] at e
        cases e
        exact (h2 rfl).elim
      · rw [z, ha] at e
        cases e
        exact (h1 _ _ rfl).elim
  have inB : ∀ {b : Addr} {o : Obj}, s₁.heap.get? b = some o → (∀ xs n, o.data ≠ .seq xs n) → o.data ≠ .fields #[] → (hidT s₁.heap H).get? b = some o := fun e h1 h2 => hidT_get e (free e h1 h2)
  have nsB : ∀ {b : Addr} {m : Str → Option Value}, s₁.heap.Ns b m → (hidT s₁.heap H).Ns b m := fun {b m} z => by
    obtain ⟨o, es, ep, e, d, r⟩ := z
    exact ⟨o, es, ep, inB e (fun xs n z => by rw [d] at z; cases z) (fun z => by rw [d] at z; cases z), d, r⟩
  have kB : K.In (hidT s₁.heap H) := fun b o e => hidT_get (KX b o e) (by
    cases q : H b with
    | none => rfl
    | some u =>
      rcases hCases q with ⟨z, _⟩ | ⟨z, z2, _⟩
      · rw [(tabAt b z).2] at e
        cases e
      · rw [z, z2] at e
        cases e)
  have modB : L2.Mod K mg (hidT s₁.heap H) := ⟨kB, nsB hns, ⟨mb, nsB hb, hbb⟩, by
    obtain ⟨mc, h1, h2⟩ := hlim
    exact ⟨mc, nsB h1, h2⟩⟩
  have okH : HOk P w H s₁.heap := fun b u e => by
    rcases hCases e with ⟨z, rfl⟩ | ⟨rfl, _, rfl⟩
    · exact (tabAt b z).1
    · exact ⟨ha, by rw [List.length_map]; exact hl, vs, _, rv, ha⟩
  have tbB : ∀ p ∈ cs, LamX.TabB (hidT s₁.heap H) mg p.1 p.2 := fun p hp => by
    refine ⟨PySem.W.codeHd_of_K kB (hC p hp), ?_, fun z => ?_⟩
    · obtain ⟨bm, ob, b1, b2, b3, b4, b5, b6⟩ := hbm
      refine ⟨bm, ob, b1, b2, fun q => ?_, fun q => ?_, inB b3 (fun xs n z => by rw [b6] at z; cases z) (fun z => by rw [b6] at z; cases z), b4, b5, b6⟩
      · obtain ⟨o, es, ep, e, hd, _⟩ := hns
        rw [q, e] at b3
        cases b3
        rw [hd] at b6
        cases b6
      · rw [q, hT p hp] at b3
        cases b3
        cases b6
    · obtain ⟨o, es, ep, e, hd, _⟩ := hns
      rw [z, hT p hp] at e
      cases e
      cases hd
  have e0 : Env0 P w K mg (hidT s₁.heap H) callerA [] s₁ H := ⟨rfl, modB, fun b o e => of_hidT e, Nat.le_of_eq (hidT_size _ _), trivial, fun b hb => absurd (show b ∈ ([] : List Addr) from hb) (by simp), okH, .of_eq hg⟩
  have rol : Rol K H a (ns.map V.int) := by
    cases q : K.lookup a with
    | none => exact .inl ⟨_, hScr q⟩
    | some o =>
      have e := KX a o q
      rw [ha] at e
      cases e
      exact .inr ⟨_, vs.toArray, _, q, rfl, rfl, rfl, by rw [List.size_toArray, lenV]; exact hl, by simpa using rv⟩
  have rep : Rep K (entryS cs nm) H := fun b o e => by
    unfold entryS at e
    split at e
    · rename_i z
      cases e
      exact LamX.TabS.nil (hTab b z)
    · cases e
  have arg : RVs K H [D.rol (ns.map D.int)] [V.ref a] := RVs.one (by unfold RV; exact ⟨a, _, rfl, rol, rvs_intsOf ns⟩)
  refine codeAny_mono ((F _ kB (nsB hns) tbB).run callerA [] s₁ H ⟨[.ref a], []⟩ [.ref a] [.ref a] (fun v _ => v = .bl true) (fun _ _ _ => False) hr rfl e0 (hbind s₁ (.ref a)) (.cons rfl .nil)
    ⟨_, _, _, _, arg, rep, hsp, fun d S' v H' p _ _ r => by subst p; exact rv_bl r, fun _ _ _ _ _ z => z.elim⟩) fun r s' h => ?_
  match r, h with
  | .error e, h =>
    obtain ⟨_, _, _, _, _, _, _, _, _, _, _, _, z⟩ := h
    exact z.elim
  | .ok .next, h => exact False.elim h
  | .ok .brk, h => exact False.elim h
  | .ok .cont, h => exact False.elim h
  | .ok (.ret u), h =>
    obtain ⟨v, H', os, bare, un, ok', r', q⟩ := h
    have q' : v = .bl true := q
    subst q'
    obtain rfl : u = Value.bool true := r'
    have same : ∀ b o, b ∉ cs.map (·.2) → s₁.heap.get? b = some o → s'.heap.get? b = some o := fun b o nb e => by
      cases q : H b with
      | none => exact un.keep b o e q (by intro z; exact absurd (show b ∈ ([] : List Addr) from z) (by simp)) (by simp)
      | some u =>
        rcases hCases q with ⟨z, _⟩ | ⟨z1, _, z2⟩
        · exact absurd z nb
        · subst z2
          have e1 := (okH b _ q).1
          have e2 := (ok' b _ (un.frzs b _ _ q)).1
          rw [e] at e1
          cases e1
          exact e2
    have grown : ∀ b, b ∈ cs.map (·.2) → ∃ more : Array Value, s'.heap.get? b = some { cls := .none, data := .fields more } := fun b z => by
      obtain ⟨more, e⟩ := un.tbls b #[] (hTab b z)
      exact ⟨_, ok' b _ e⟩
    refine ⟨rfl, ⟨fun b o e => ?_, fun b o e => ?_⟩, os, bare⟩
    · by_cases z : b ∈ cs.map (·.2)
      · obtain ⟨more, e2⟩ := grown b z
        obtain ⟨p, hp, rfl⟩ := List.mem_map.mp z
        rw [hT p hp] at e
        cases e
        exact .inr (.inl ⟨((PySem.W.codeHd_of_K KX (hC p hp)).tab (hT p hp)).isCodeTable, rfl, #[], more, rfl, by rw [Array.empty_append]; exact e2⟩)
      · exact .inl (same b o z e)
    · by_cases z : b ∈ cs.map (·.2)
      · obtain ⟨more, e2⟩ := grown b z
        exact ⟨_, e2⟩
      · exact ⟨o, same b o z e⟩
end
/-- what is known of the law's promise at the head's heap h -/
def LawAt (l : PySem.W.OpenLaw) (w : World) (K : PySem.W.Frag) (k n : Nat) (x : Str) (mg : Str → Option Value) (fa : Addr) (h : Heap) : Prop :=
  ∃ (fd : FuncData) (cs : List (Addr × Addr)) (nm : Addr → Str) (sp : QF), (∀ p ∈ cs, h.get? p.2 = some tabObj) ∧ (∀ p ∈ cs, K.lookup p.2 = none) ∧ (∀ p ∈ cs, PySem.W.codeHdIn K p.1 p.2 = true) ∧ (∀ (s : Shared) (u : Value), BindsTo s fd ⟨[u], []⟩ [(x, u)]) ∧
    (∀ ns : List Int, ns.length ≤ n → (∀ z ∈ ns, Builtin.Int.intBits z ≤ 1048576) → sp [.rol (ns.map D.int)] (entryS cs nm) (fun d _ => d = .bl true) fun _ _ => False) ∧
    ∀ base : Heap, K.In base → base.Ns mainGlobals mg → (∀ p ∈ cs, LamX.TabB base mg p.1 p.2) → FnG l.prog w K mg base k fa fd [x] sp
theorem walk_law {l : PySem.W.OpenLaw} {n k : Nat} {q : Program} {loose : List Str} {XP : (Str → Option Value) → Heap → Prop} {YP : World → Heap → Prop} {d : DefRec} {x : Str}
    (hn : l.most = some n) (hn2 : n ≤ sizeLine) (hdf : d.params.defaults = []) (hr : Room k callerA)
    (F : ∀ (w : World) (mg : Str → Option Value) (fa : Addr) (h : Heap), YP w h → h.Ns mainGlobals mg → mg d.name = some (.ref fa) → ∃ K : PySem.W.Frag, K.In h ∧ LawAt l w K k n x mg fa h) :
    PySem.W.WalkO q loose XP YP l.row.toRowW d [] (fun f vs => PySem.call f vs) := by
  refine Att.attach_callB hn hdf fun w s₀ s₁ mg mb fa o pm cd doc a vs ns G Y ho hd hcd hmg hobj hints hlen hbits hg => ?_
  obtain ⟨K, KX, fd, cs, nm, sp, hT, nT, C, hb, hsp, hF⟩ := F w mg fa _ Y G.T.g hmg
  exact end_call KX G.T.g G.T.b G.T.builtins G.T.nolimit hg hT nT C G.T.bmain hobj hints (Nat.le_trans hlen hn2) hr hF hb (hsp ns hlen hbits)
end PL

namespace PL
open PySem PySem.Spec PyProof.Rows L2 -- the layers
/-! ## names of the errors; defs by name; what the printed derivations use -/
structure Ad where
  SlipError : Addr
  NotAllowed : Addr
  TooLarge : Addr
  Missing : Addr
  BadPaper : Addr
  BadForm : Addr
  Broken : Addr
def Ad.six (ad : Ad) : List Addr := [ad.NotAllowed, ad.TooLarge, ad.Missing, ad.BadPaper, ad.BadForm, ad.Broken]
def Ad.row (ad : Ad) (k : Nat) : Addr := ad.six.getD k 0
def GF (P : Program) (w : World) (K : PySem.W.Frag) (mg : Str → Option Value) (base : Heap) (x : Str) (ps : List Str) (k : Nat) (sp : QF) : Prop :=
  ∃ (f : Addr) (fd : FuncData), mg x = some (.ref f) ∧ PySem.W.keepIn K (.ref f) = true ∧ Binds K fd ps [] ∧ FnP P w K mg base k f fd ps sp
def GG (P : Program) (w : World) (K : PySem.W.Frag) (mg : Str → Option Value) (base : Heap) (x : Str) (ps : List Str) (k : Nat) (sp : QF) : Prop :=
  ∃ (f : Addr) (fd : FuncData), mg x = some (.ref f) ∧ PySem.W.keepIn K (.ref f) = true ∧ Binds K fd ps [] ∧ FnG P w K mg base k f fd ps sp
def ToldT (K : PySem.W.Frag) (mg : Str → Option Value) (st : Stmt) (ps : List Str) : Prop :=
  ∃ (g : Addr) (fd : FuncData), mg "_law_told" = some (.ref g) ∧ FunD K "_law_told" "_law_told" (defArgs st) (defBody st) (defScope st) [] [] g fd ∧ Binds K fd ps []
theorem u65 {k : Nat} {A : Around} (h : Room k A) : A.units + 65 < cLine := by have := h.un; omega
section
variable {X : Cx} {k : Nat} {x : Str} {ps : List Str} {sp : QF} {e : Expr} {es : List Expr} {qa : QA} {p pos : Pos}
theorem de_callF (G : GF X.prog X.w X.K X.mg X.base x ps k sp) (hr : Room k X.A) (hg : Gl X x) (ha : DA X (e :: es) qa) (hdb : (x == ("__debug__" : Str)) = false := by decide)
    (he : starEach (e :: es) X.env = (false, eval e X.env) :: starEach es X.env := by rfl) (hpl : (backTo pos (starEach es X.env)).any (·.1) = false := by rfl) : DE X (.Call (.Name x p) (e :: es) [] pos) (qCall sp qa) := by
  obtain ⟨f, fd, hm, hk, hb, F⟩ := G
  exact de_call F hr hg hm hk hb ha hdb he hpl
theorem de_callGG (G : GG X.prog X.w X.K X.mg X.base x ps k sp) (hr : Room k X.A) (hG : X.A.guards = some []) (hg : Gl X x) (ha : DA X (e :: es) qa) (hdb : (x == ("__debug__" : Str)) = false := by decide)
    (he : starEach (e :: es) X.env = (false, eval e X.env) :: starEach es X.env := by rfl) (hpl : (backTo pos (starEach es X.env)).any (·.1) = false := by rfl) : DE X (.Call (.Name x p) (e :: es) [] pos) (qCall sp qa) := by
  obtain ⟨f, fd, hm, hk, hb, F⟩ := G
  exact de_callG F hr hG hg hm hk hb ha hdb he hpl
end
theorem bb_len : bootBuiltins ("len" : Str) = some (.builtin "len") := by decide +kernel
theorem bb_abs : bootBuiltins ("abs" : Str) = some (.builtin "abs") := by decide +kernel
theorem bb_repr : bootBuiltins ("repr" : Str) = some (.builtin "repr") := by decide +kernel
theorem bb_max : bootBuiltins ("max" : Str) = some (.builtin "max") := by decide +kernel
theorem bb_min : bootBuiltins ("min" : Str) = some (.builtin "min") := by decide +kernel
theorem bb_all : bootBuiltins ("all" : Str) = some (.builtin "all") := by decide +kernel
theorem bb_any : bootBuiltins ("any" : Str) = some (.builtin "any") := by decide +kernel
theorem bb_sum : bootBuiltins ("sum" : Str) = some (.builtin "sum") := by decide +kernel
theorem bb_isinstance : bootBuiltins ("isinstance" : Str) = some (.builtin "isinstance") := by decide +kernel
theorem bb_int : bootBuiltins ("int" : Str) = some (.type "int") := by decide +kernel
theorem bb_tuple : bootBuiltins ("tuple" : Str) = some (.type "tuple") := by decide +kernel
theorem bb_list : bootBuiltins ("list" : Str) = some (.type "list") := by decide +kernel
section
variable {X : Cx}
def cIsK (ad : Ad) (a C : Addr) : QC := fun ds S P => ∃ c, c ∈ ad.six ∧ ds = [.ref a, .ref c] ∧ P (.bl (decide (C = c))) S
theorem cd_isK {ad : Ad} {a C : Addr} {oe : Obj} {pn : List (Addr × Obj)} (T : ExcC X.K C) (hk : ∀ c ∈ ad.six, PySem.W.kitOne X.K (.ref C) (.ref c) = some (decide (C = c))) (hz : L2N.Zn (.ref C) none oe) (hd : ∃ vs, oe.data = .fields vs) : CDok (X.suite a ((a, oe) :: pn)) (.builtin "isinstance") (cIsK ad a C) := by
  obtain ⟨r, o, hr⟩ := cd_isE (X := X) (a := a) (pn := pn) T hz hd
  refine ⟨r, o, fun ds S P H vs Q q rep rv go => hr ds S P H vs Q ?_ rep rv go⟩
  obtain ⟨c, hc, e, hp⟩ := q
  exact ⟨c, _, e, hk c hc, hp⟩
/-- a, b = a tuple or a list -/
def gU (n : Nat) (t : QGs) : QG := fun d loc S P E => ∃ xs, (d = .tup xs ∨ LsAt S d xs) ∧ xs.length = n ∧ t xs loc S P E
theorem dg_unp {es : List Expr} {k : Nat} {t : QGs} {n : Nat} {pos : Pos} (hc : X.calm = true) (h : DGs X es t)
    (hn : (assignEach es X.env).length = n := by rfl) (hst : (assignEach es X.env).findIdx? (·.1) = none := by rfl) : DG X (.Tuple es k pos) (gU n t) := fun W tk => by
  refine ⟨fun pins s σ H v u Q I r h' => ?_⟩
  obtain ⟨d, loc, S, P, E, rv, rl, rep, ⟨xs, hd, hl, hq⟩, g, gx⟩ := h'
  rcases hd with rfl | hd
  · exact (dg_tup hc h hn hst W tk).run pins s σ H v u Q I r ⟨_, loc, S, P, E, rv, rl, rep, ⟨hl, hq⟩, g, gx⟩
  · exact (dg_lst hc h hn hst W tk).run pins s σ H v u Q I r ⟨_, loc, S, P, E, rv, rl, rep, ⟨xs, hd, hl, hq⟩, g, gx⟩
abbrev oIn : QO := oInL id
abbrev oNotIn : QO := oInL not
theorem od_in (hu : X.A.units + 65 < cLine) : ODok X (compareOp .In) oIn := od_inL hu
theorem od_notIn (hu : X.A.units + 65 < cLine) : ODok X (compareOp .NotIn) oNotIn := od_notInL hu
/-- _law_told(lambda: ..) -/
theorem de_told {T : List (Addr × Str)} {qB : QE → QS} {c P : Addr} {k : Nat} {st : Stmt} {a : Str} {Ng : List Str} {params : Arguments} {body : Expr} {scope : Scope} {q : QE} {p lpos pos : Pos} (TL : ToldT X.K X.mg st [a]) (hg : Gl X "_law_told") (Sg : FnScope Ng [a] (defScope st)) (hNg : Ng[0]? = some a) (hva : Vis (defScope st) a)
    (hB : ∀ (g : Addr) (cdv : Value) (s : Shared) (H : Hp) (qc : QE), Room (k + 1) (X.A.deeper (envOfC "_law_told" (defScope st) s.heap.objs.size g cdv)) → (∀ (pn : List (Addr × Obj)) (xe : Value → Shared → Prop) (p1 p2 : Pos), DE ((gotCx X Ng "_law_told" (defScope st) g cdv X.A X.stack s H fun _ _ _ => False).tr pn xe) (.Call (.Name a p1) [] [] p2) qc) →
      DB (gotCx X Ng "_law_told" (defScope st) g cdv X.A X.stack s H fun _ _ _ => False) (defBody st) (qB qc))
    (TB : LamX.TabB X.base X.mg c P) (hcode : X.env.code = .ref c) (hmT : (P, X.env.qual ++ "<lambda>") ∈ T) (hu : ∀ p ∈ T, p.1 = P → p.2 = X.env.qual ++ "<lambda>") (hr : Room (k + 2) X.A) (L : LamX.LamS X.env.scope scope) (hdef : defaultsOf params X.env = ([], []))
    (hbind : ∀ (q : Str) (cl : List (Str × Addr)) (pm cv ctv : Value), bindArgs (PySem.W.kla_fn "<lambda>" q params body scope cl pm cv ctv) ⟨[], []⟩ = pure [])
    (hbody : ∀ (A : Around) (outer : List Env) (s : Shared) (H : Hp) (E : XK) (f c' : Addr), Room k (A.deeper (LamX.lamEnv X scope s.heap.objs.size f c')) → DE (lamN X A outer s H E scope f c') body q)
    (hd : (a == ("__debug__" : Str)) = false := by decide) (hcd : (a == ("__classdict__" : Str)) = false := by decide) :
    DE X (.Call (.Name "_law_told" p) [.Lambda params body scope lpos] [] pos) (qLam T Ng (X.env.qual ++ "<lambda>") qB q) := by
  obtain ⟨g, fd, hm, F, hb⟩ := TL
  obtain ⟨oc, od, dV, kV, doc, pm, an, cdv, ct, osl, rfl, lk, hcg, _, _⟩ := F.ex
  exact de_lam hg hm F.kp lk hcg hb Sg hNg hva (hB g cdv) TB hcode hmT hu hr L hdef hbind hbody (by decide) hd hcd
end
section
variable {P : Program} {w : World} {K : PySem.W.Frag} {mg : Str → Option Value} {base : Heap} {k : Nat} {f : Addr} {fd : FuncData} {ps : List Str} {sp : QF}
/-- the rule for a def whose code object is known -/
theorem FunD.pureC {x qual : Str} {params : Arguments} {body : List Stmt} {scope : Scope} {kws : List (Str × V)} {N : List Str} {q : QS} {c : Addr} (F : FunD K x qual params body scope [] kws f fd) (hc : fd.code = .ref c) (S : FnScope N ps scope)
    (hbody : ∀ (cdv : Value) (A : Around) (outer : List Env) (s : Shared) (H : Hp) (E : XK), cdv = .ref c → Room k (A.deeper (envOfC qual scope s.heap.objs.size f cdv)) → (A.deeper (envOfC qual scope s.heap.objs.size f cdv)).guards = some [] → DB (cxOf (L2N.CX P w) P w K mg base N qual scope f cdv A outer s H E) body q)
    (len : ∀ ds S Q E, sp ds S Q E → ds.length = ps.length) (spec : ∀ ds S Q E, sp ds S Q E → q (endsF Q E) (startD N ds) S) : FnG P w K mg base (k + 1) f fd ps sp := by
  refine ⟨len, fun A outer s H args us vs Q E hr hG e0 hb r h => ?_⟩
  obtain ⟨oc, od, dV, kV, doc, pm, an, cdv, ct, osl, rfl, lk, hcd, _, _⟩ := F.ex
  obtain ⟨ds, St, Pd, PE, rv, rep, h, g, gx⟩ := h
  refine LamX.run_ofS lk hcd S hr e0 hb r (by rw [← rv.length, len _ _ _ _ h]) fun hr' => ?_
  refine ⟨_, hbody cdv A outer s H E hc hr' (by exact hG) (fun c d _ H' => E c d H') (L2N.takes_of rfl rfl rfl rfl), ?_⟩
  exact ⟨startD N ds, St, endsF Pd PE, startD_len rv, rep, spec _ _ _ _ h, endsF_go g gx⟩
end
end PL

namespace PL
open PySem PySem.Spec PyProof.Rows L2 -- the layers
/-! ## what the readings say of values that are known -/
section
variable {S : Sto} {P : PD} {i j : Int} {x y : Str} {b c : Bool} {xs ys : List D} {a a' : Addr} {d e : D}
theorem oAdd_ii : oAdd (.int i) (.int j) S P = P (.int (i + j)) S := rfl
theorem oI_ii {C : Int → Int → Prop} {f : Int → Int → D} : oI C f (.int i) (.int j) S P = (C i j ∧ P (f i j) S) := rfl
theorem oEqW_ii {k : Bool → Bool} : oEqW k (.int i) (.int j) S P = P (.bl (k (decide (i = j)))) S := rfl
theorem oEqW_ss {k : Bool → Bool} : oEqW k (.str x) (.str y) S P = P (.bl (k (decide (x = y)))) S := rfl
theorem oEqW_bb {k : Bool → Bool} : oEqW k (.bl b) (.bl c) S P = P (.bl (k (decide (b = c)))) S := rfl
theorem oOrd_ii {f : Int → Int → Bool} {g : List Nat → List Nat → Bool} : oOrd f g (.int i) (.int j) S P = P (.bl (f i j)) S := rfl
theorem oOrd_ss {f : Int → Int → Bool} {g : List Nat → List Nat → Bool} : oOrd f g (.str x) (.str y) S P = P (.bl (g x.cps.toList y.cps.toList)) S := rfl
theorem oIx_t : oIx (.tup xs) (.int i) S P = ∃ d, atI xs i = some d ∧ P d S := rfl
theorem oIx_r : oIx (.rol xs) (.int i) S P = ∃ d, atI xs i = some d ∧ P d S := rfl
theorem oIx_l : oIx (.ref a) (.int i) S P = ∃ xs, S a = some (.lst xs) ∧ ∃ d, atI xs i = some d ∧ P d S := by
  refine propext ⟨fun ⟨xs, d, h1, h2, h3⟩ => ⟨xs, h1, d, h2, h3⟩, fun ⟨xs, h1, d, h2, h3⟩ => ⟨xs, d, h1, h2, h3⟩⟩
theorem oIx_s : oIx (.str x) (.int i) S P = (x.length ≤ sizeLine ∧ ∃ c, atI x.cps.toList i = some c ∧ P (.str ⟨#[c]⟩) S) := rfl
theorem bd_bl {Q : Bool → Prop} : bd (.bl b) Q = Q b := rfl
theorem tru_non {Q : Bool → Sto → Prop} : tru .non S Q = Q false S := rfl
theorem tru_bl {Q : Bool → Sto → Prop} : tru (.bl b) S Q = Q b S := rfl
theorem tru_int {Q : Bool → Sto → Prop} : tru (.int i) S Q = Q (i != 0) S := rfl
theorem tru_str {Q : Bool → Sto → Prop} : tru (.str x) S Q = (x.length ≤ sizeLine ∧ Q ((x.length : Int) != 0) S) := rfl
theorem tru_tup {Q : Bool → Sto → Prop} : tru (.tup xs) S Q = Q (!xs.isEmpty) S := rfl
theorem tru_rol {Q : Bool → Sto → Prop} : tru (.rol xs) S Q = Q (!xs.isEmpty) S := rfl
theorem tru_ref {Q : Bool → Sto → Prop} : tru (.ref a) S Q = ∃ xs, S a = some (.lst xs) ∧ Q (!xs.isEmpty) S := rfl
theorem cInt_i {f : Int → D} : cInt f [.int i] S P = P (f i) S := rfl
theorem cInt2_ii {f : Int → Int → D} : cInt2 f [.int i, .int j] S P = P (f i j) S := rfl
theorem cToInt_i : cToInt [.int i] S P = P (.int i) S := rfl
theorem cToInt_b : cToInt [.bl b] S P = P (.int (if b then 1 else 0)) S := rfl
theorem cLen_s : cLen [.str x] S P = (x.length ≤ sizeLine ∧ P (.int x.length) S) := rfl
theorem cLen_t : cLen [.tup xs] S P = P (.int xs.length) S := rfl
theorem cLen_r : cLen [.rol xs] S P = P (.int xs.length) S := rfl
theorem cLen_l : cLen [.ref a] S P = ∃ xs, S a = some (.lst xs) ∧ P (.int xs.length) S := rfl
theorem cTuple_t : cTuple [.tup xs] S P = P (.tup xs) S := rfl
theorem cTuple_r : cTuple [.rol xs] S P = P (.tup xs) S := rfl
theorem cTuple_l : cTuple [.ref a] S P = ∃ xs, S a = some (.lst xs) ∧ P (.tup xs) S := rfl
theorem cList_t : cList [.tup xs] S P = ∀ p, S p = none → P (.ref p) (ups S p (.lst xs)) := rfl
theorem cList_r : cList [.rol xs] S P = ∀ p, S p = none → P (.ref p) (ups S p (.lst xs)) := rfl
theorem cList_l : cList [.ref a] S P = ∃ xs, S a = some (.lst xs) ∧ ∀ p, S p = none → P (.ref p) (ups S p (.lst xs)) := rfl
theorem oSl_t {lo hi : Option Int} : oSl (.tup xs) lo hi S P = P (.tup (cutL xs lo hi)) S := rfl
theorem oSl_r {lo hi : Option Int} : oSl (.rol xs) lo hi S P = ∀ p, S p = none → P (.ref p) (ups S p (.lst (cutL xs lo hi))) := rfl
theorem oSl_l {lo hi : Option Int} : oSl (.ref a) lo hi S P = ∃ xs, S a = some (.lst xs) ∧ ∀ p, S p = none → P (.ref p) (ups S p (.lst (cutL xs lo hi))) := rfl
theorem oSl_s {lo hi : Option Int} : oSl (.str x) lo hi S P = (x.length ≤ sizeLine ∧ P (.str (cutS x lo hi)) S) := rfl
theorem mAppend_1 : mAppend a xs [d] S P = (xs.length < sizeLine ∧ P .non (ups S a (.lst (xs ++ [d])))) := rfl
theorem lst_inj : (some (O.lst xs) = some (O.lst ys)) = (xs = ys) := by simp
theorem ixN_lt {n j : Nat} (h : j < n) : ixN n (j : Int) = some j := by
  unfold ixN
  rw [if_pos (by omega), if_pos (by omega)]
  simp
theorem atI_lt {α : Type} {xs : List α} {j : Nat} : atI xs (j : Int) = xs[j]? := by
  by_cases h : j < xs.length
  · unfold atI
    rw [ixN_lt h]
    rfl
  · unfold atI ixN
    rw [if_pos (by omega), if_neg (by omega), List.getElem?_eq_none (by omega)]
    rfl
theorem atI_0 {x : D} {r : List D} : atI (x :: r) 0 = some x := atI_lt (j := 0)
theorem atI_1 {x y : D} {r : List D} : atI (x :: y :: r) 1 = some y := atI_lt (j := 1)
theorem atI_2 {x y z : D} {r : List D} : atI (x :: y :: z :: r) 2 = some z := atI_lt (j := 2)
theorem atI_3 {x y z u : D} {r : List D} : atI (x :: y :: z :: u :: r) 3 = some u := atI_lt (j := 3)
theorem ixN_1 {n : Nat} : ixN (n + 2) 1 = some 1 := ixN_lt (j := 1) (by omega)
theorem ixN_0 {n : Nat} : ixN (n + 1) 0 = some 0 := ixN_lt (j := 0) (by omega)
theorem ixN_21 : ixN 2 1 = some 1 := rfl
end
theorem ifT {c : Bool} {p q : Prop} (h : c = true) (x : p) : if c = true then p else q := by rw [if_pos h]; exact x
theorem ifF {c : Bool} {p q : Prop} (h : c = false) (x : q) : if c = true then p else q := by
  subst h
  exact x
theorem ex_some {α : Type} {x : α} {Q : α → Prop} : (∃ d, some x = some d ∧ Q d) = Q x := by simp
theorem ex_lst {xs : List D} {Q : List D → Prop} : (∃ ys, some (O.lst xs) = some (O.lst ys) ∧ Q ys) = Q xs := by simp
theorem ex_lst2 {α : Type} {xs : List D} {Q : List D → α → Prop} : (∃ ys j, some (O.lst xs) = some (O.lst ys) ∧ Q ys j) = ∃ j, Q xs j := by simp
/-! ## bounds -/
theorem CMul.ofL {i j : Int} (h : -1000000000000000000 < i ∧ i < 1000000000000000000) : IntMulOk i j := CMul.ok (.inl (by omega))
theorem CMul.ofR {i j : Int} (h : -1000000000000000000 < j ∧ j < 1000000000000000000) : IntMulOk i j := CMul.ok (.inr (by omega))
theorem log_of {n k : Nat} (h : n < 2 ^ k) (hk : 0 < k) : n.log2 < k := by
  by_cases e : n = 0
  · subst e
    exact hk
  · exact (Nat.log2_lt e).mpr h
theorem CDivA.small {i j : Int} (h : j ≠ 0) (k : -1000000000000000000 < j ∧ j < 1000000000000000000) : CDivA i j :=
  ⟨h, Nat.lt_of_lt_of_le (log_of (k := 60) (by omega) (by decide)) (by decide)⟩
/-! ## what is shown -/
mutual
/-- data without dicts, of numbers that can be written and characters that there are -/
def fine : PyData → Bool
  | .none => true
  | .bool _ => true
  | .int i => decide (i.natAbs.log2 < 1920)
  | .str x => x.cps.toList.all fun c => decide (c < 16 ^ 8)
  | .list xs => fines xs
  | .tuple xs => fines xs
  | .dict _ => false
def fines : List PyData → Bool
  | [] => true
  | x :: xs => fine x && fines xs
end
mutual
theorem fine_ok : ∀ p : PyData, fine p = true → p.showable = true ∧ p.hasDict = false
  | .none, _ => by simp [PyData.showable, PyData.hasDict]
  | .bool b, _ => by simp [PyData.showable, PyData.hasDict]
  | .int i, h => by
    unfold fine at h
    exact ⟨by unfold PyData.showable; exact h, by unfold PyData.hasDict; rfl⟩
  | .str x, h => ⟨by unfold PyData.showable; rfl, by unfold PyData.hasDict; rfl⟩
  | .list xs, h => by
    unfold fine at h
    unfold PyData.showable PyData.hasDict
    exact fines_ok xs h
  | .tuple xs, h => by
    unfold fine at h
    unfold PyData.showable PyData.hasDict
    exact fines_ok xs h
  | .dict _, h => by
    unfold fine at h
    cases h
theorem fines_ok : ∀ xs : List PyData, fines xs = true → PyData.showableAll xs = true ∧ PyData.hasDictAll xs = false
  | [], _ => by simp [PyData.showableAll, PyData.hasDictAll]
  | x :: xs, h => by
    unfold fines at h
    obtain ⟨h1, h2⟩ := Bool.and_eq_true_iff.mp h
    obtain ⟨a1, a2⟩ := fine_ok x h1
    obtain ⟨b1, b2⟩ := fines_ok xs h2
    unfold PyData.showableAll PyData.hasDictAll
    rw [a1, a2, b1, b2]
    exact ⟨rfl, rfl⟩
end
mutual
/-- no fewer characters than are shown -/
def sz : PyData → Nat
  | .none => 4
  | .bool _ => 5
  | .int i => i.natAbs.log2 + 2
  | .str x => 10 * x.length + 2
  | .list xs => szs xs + 3
  | .tuple xs => szs xs + 3
  | .dict _ => 0
def szs : List PyData → Nat
  | [] => 0
  | x :: xs => sz x + 2 + szs xs
end
mutual
theorem shown_sz : ∀ p : PyData, fine p = true → p.shown.length ≤ sz p
  | .none, _ => by
    unfold sz
    have e : (PyData.shown .none).length = 4 := rfl
    omega
  | .bool b, _ => by
    unfold sz
    have e : (PyData.shown (.bool b)).length ≤ 5 := by cases b <;> decide
    omega
  | .int i, h => by
    unfold sz
    rw [PyData.shown_int, PySem.ofString_length]
    have := int_text_length_le (a := i) (k := i.natAbs.log2 + 1) (by omega) (by omega)
    omega
  | .str x, h => by
    unfold sz
    unfold fine at h
    rw [PyData.shown_str]
    have := StrLaws.reprText_len x (by simpa only [List.all_eq_true, decide_eq_true_eq] using h)
    have e : x.length = x.cps.size := rfl
    omega
  | .list xs, h => by
    unfold fine at h
    unfold sz
    have h1 := shownAll_sz xs h
    have h2 := listText_len_le (PyData.shownAll xs)
    have h3 := PyData.shownAll_length xs
    simp only [PyData.shown]
    omega
  | .tuple xs, h => by
    unfold fine at h
    unfold sz
    have h1 := shownAll_sz xs h
    have h2 := tupleText_len_le (PyData.shownAll xs)
    have h3 := PyData.shownAll_length xs
    simp only [PyData.shown]
    omega
  | .dict _, h => by
    unfold fine at h
    cases h
theorem shownAll_sz : ∀ xs : List PyData, fines xs = true → ((PyData.shownAll xs).map (·.length)).sum + 2 * xs.length ≤ szs xs
  | [], _ => by simp [PyData.shownAll, szs]
  | x :: xs, h => by
    unfold fines at h
    obtain ⟨h1, h2⟩ := Bool.and_eq_true_iff.mp h
    have a1 := shown_sz x h1
    have a2 := shownAll_sz xs h2
    unfold szs
    rw [PyData.shownAll_cons, List.map_cons, List.sum_cons, List.length_cons]
    omega
end
theorem good_of {p : PyData} (h : fine p = true) (hw : sz p ≤ 16000000) (hd : p.depth ≤ 60) : good p := by
  obtain ⟨h1, h2⟩ := fine_ok p h
  refine ⟨h1, h2, ?_, hd⟩
  have := shown_sz p h
  have e : sizeLine = 16777216 := by decide
  omega
end PL

namespace K01
open PySem PySem.Spec PyProof.Rows L2 PL
/-! ## promises -/
def Sm (i : Int) : Prop := -1152921504606846976 < i ∧ i < 1152921504606846976
def redF (a b : Int) : Int × Int := (a.fdiv (if b < 0 then -(Int.gcd a b : Int) else (Int.gcd a b : Int)), b.fdiv (if b < 0 then -(Int.gcd a b : Int) else (Int.gcd a b : Int)))
abbrev redD (a b : Int) : D := .tup [.int (redF a b).1, .int (redF a b).2]
def sp_divisor (ad : Ad) : QF := fun ds S P E => ∃ a b : Int, ds = [.int a, .int b] ∧ P (.int (Int.gcd a b)) S
def sp__law_common (ad : Ad) : QF := sp_divisor ad
def Lg (b : Int) : Prop := b.natAbs.log2 < 8000
def sp_fraction (ad : Ad) : QF := fun ds S P E => ∃ a b : Int, ds = [.int a, .int b] ∧ Lg b ∧ (b = 0 → E { cls := ad.NotAllowed } S) ∧ (b ≠ 0 → P (redD a b) S)
def sp__law_reduced (ad : Ad) : QF := fun ds S P E => ∃ a b : Int, ds = [.int a, .int b] ∧ Lg b ∧ b ≠ 0 ∧ P (redD a b) S
def isFr : List Int → Bool
  | [a, b] => decide (1 ≤ b) && decide ((Int.gcd a b : Int) = 1)
  | _ => false
def sp_is_fraction (ad : Ad) : QF := fun ds S P E => ∃ xs : List Int, ds = [.tup (xs.map D.int)] ∧ P (.bl (isFr xs)) S
def sp_added (ad : Ad) : QF := fun ds S P E => ∃ a b c d : Int, ds = [.tup [.int a, .int b], .tup [.int c, .int d]] ∧ Sm a ∧ Sm b ∧ Sm c ∧ Sm d ∧ b * d ≠ 0 ∧ P (redD (a * d + c * b) (b * d)) S
def sp_times (ad : Ad) : QF := fun ds S P E => ∃ a b c d : Int, ds = [.tup [.int a, .int b], .tup [.int c, .int d]] ∧ Sm a ∧ Sm b ∧ Sm c ∧ Sm d ∧ b * d ≠ 0 ∧ P (redD (a * c) (b * d)) S
def sp_less (ad : Ad) : QF := fun ds S P E => ∃ a b c d : Int, ds = [.tup [.int a, .int b], .tup [.int c, .int d]] ∧ Sm a ∧ Sm b ∧ Sm c ∧ Sm d ∧ P (.bl (decide (a * d < c * b))) S
def sp__law_same (ad : Ad) : QF := fun ds S P E => ∃ a b p, ds = [a, b] ∧ Dat S a p ∧ Dat S b p ∧ good (.list [p]) ∧ P (.bl true) S
/-- the stream's numbers -/
structure Nums (xs : List Int) : Prop where
  ne : xs ≠ []
  len : xs.length ≤ 4000
  rng : ∀ x ∈ xs, 0 ≤ x ∧ x < 1009
/-- the law's state -/
structure Strm (S : Sto) (s n : Addr) (xs : List Int) (k : Int) : Prop where
  st : S s = some (.lst [.ref n, .int k])
  nm : S n = some (.lst (xs.map D.int))
  ne : s ≠ n
  ok : Nums xs
  k0 : 0 ≤ k
def stepS (S : Sto) (s n : Addr) (k : Int) : Sto := ups S s (.lst [.ref n, .int k])
def sp__law_stream (ad : Ad) : QF := fun ds S P E => ∃ ns : List Int, ds = [.rol (ns.map D.int)] ∧ ns.length ≤ 63 ∧ ∀ (n : Addr) (xs : List Int) (S' : Sto), S n = none → Sub S S' → (∀ b o, S' b = some o → b = n ∨ S b = some o ∨ ∃ ds, o = .lst ds) → S' n = some (.lst (xs.map D.int)) → Nums xs → P (.ref n) S'
def sp__law_next (ad : Ad) : QF := fun ds S P E => ∃ s n xs k many, ds = [.ref s, .int many] ∧ Strm S s n xs k ∧ 0 < many ∧ k < 1000000000 ∧ ∀ r : Int, 0 ≤ r → r < many → P (.int r) (stepS S s n (k + 1))
def sp__law_great (ad : Ad) : QF := fun ds S P E => ∃ s n xs k many, ds = [.ref s, .int many] ∧ Strm S s n xs k ∧ 0 < many ∧ k < 900000000 ∧ ∀ r : Int, 0 ≤ r → r < many → P (.int r) (stepS S s n (k + 2))
def sp__law_number (ad : Ad) : QF := fun ds S P E => ∃ s n xs k, ds = [.ref s] ∧ Strm S s n xs k ∧ k < 800000000 ∧ ∀ z : Int, Sm z → P (.int z) (stepS S s n (k + 7))
def sp_law (ad : Ad) : QF := fun ds S P E => ∃ ns : List Int, ds = [.rol (ns.map D.int)] ∧ ns.length ≤ 63 ∧ (∀ S', P (.bl true) S')
end K01

/-! printed by gen.py -/
namespace K01
open PySem PySem.Spec PyProof.Rows L2 PL
def topS (i : Nat) : Stmt := PySem.Challenge.pw_slipward_k01_fractions.main.body.getD i (.Pass ⟨0, 0, 0, 0⟩)
/-- what the top has written -/
structure Txt (K : PySem.W.Frag) (mg : Str → Option Value) (ad : Ad) : Prop where
  n_abs : mg "abs" = none
  n_int : mg "int" = none
  n_isinstance : mg "isinstance" = none
  n_len : mg "len" = none
  n_max : mg "max" = none
  n_range : mg "range" = none
  n_repr : mg "repr" = none
  g_BadForm : mg "BadForm" = some (.ref ad.BadForm)
  g_BadPaper : mg "BadPaper" = some (.ref ad.BadPaper)
  g_Broken : mg "Broken" = some (.ref ad.Broken)
  g_Missing : mg "Missing" = some (.ref ad.Missing)
  g_NotAllowed : mg "NotAllowed" = some (.ref ad.NotAllowed)
  g_SlipError : mg "SlipError" = some (.ref ad.SlipError)
  g_TooLarge : mg "TooLarge" = some (.ref ad.TooLarge)
  x_NotAllowed : ExcT K mg "NotAllowed" ad.NotAllowed
  exm : ∀ C ∈ ad.six, PySem.W.exmOne K (.ref C) (.ref ad.SlipError) = some true
  exc : ∀ C ∈ ad.six, ExcC K C
  kit : ∀ C ∈ ad.six, ∀ c ∈ ad.six, PySem.W.kitOne K (.ref C) (.ref c) = some (decide (C = c))
section
variable {P : Program} {w : World} {K : PySem.W.Frag} {mg : Str → Option Value} {base : Heap} {ad : Ad}
/-! ## divisor -/
abbrev s_divisor : Stmt := topS 9
abbrev N_divisor : List Str := ["first", "second"]
theorem sc_divisor : FnScope N_divisor ["first", "second"] (defScope s_divisor) := ⟨rfl, rfl, rfl, by decide +kernel, rfl, by decide +kernel, by decide +kernel⟩
def r_divisor_b1 (ad : Ad) : QS := (sPar 0 1 (qCons (qVar 1) (qCons (qBin oMod (qVar 0) (qVar 1)) qNil)))
def r_divisor (ad : Ad) : QS := (sSeq (sPar 0 1 (qCons (qCB (cInt fun i => .int (if i < 0 then -i else i)) (qCons (qVar 0) qNil)) (qCons (qCB (cInt fun i => .int (if i < 0 then -i else i)) (qCons (qVar 1) qNil)) qNil)))
    (sSeq (sWhile (qTB (qBin oGt (qVar 1) (qC (.int 0)))) (r_divisor_b1 ad))
    (sRet (qVar 0))))
theorem d_divisor (T : Txt K mg ad) (f : Addr) (cdv : Value) (A : Around) (outer : List Env) (s : Shared) (H : Hp) (E : XK) (hr : Room 0 (A.deeper (envOfC "divisor" (defScope s_divisor) s.heap.objs.size f cdv))) :
    DB (cxOf (L2N.CX P w) P w K mg base N_divisor "divisor" (defScope s_divisor) f cdv A outer s H E) (defBody s_divisor) (r_divisor ad) := by
  have hu := hr.units
  have hu5 := u65 hr
  have hp : PassesOwn (model P w) (A.deeper (envOfC "divisor" (defScope s_divisor) s.heap.objs.size f cdv)) (envOfC "divisor" (defScope s_divisor) s.heap.objs.size f cdv) (cxOf (L2N.CX P w) P w K mg base N_divisor "divisor" (defScope s_divisor) f cdv A outer s H E).xe := passes_of (X := cxOf (L2N.CX P w) P w K mg base N_divisor "divisor" (defScope s_divisor) f cdv A outer s H E) rfl
  exact (db_cons (ds_par (i := 0) (j := 1) rfl sc_divisor.nd rfl rfl (by decide) rfl rfl (da_cons (de_callB cd_abs rfl T.n_abs bb_abs (da_cons (de_var 0) da_nil)) (da_cons (de_callB cd_abs rfl T.n_abs bb_abs (da_cons (de_var 1) da_nil)) da_nil)) (by rfl))
    (db_cons (ds_while hp (dt_cmp od_gt (de_var 1) de_int (nomark _)) (db_one (ds_par (i := 0) (j := 1) rfl sc_divisor.nd rfl rfl (by decide) rfl rfl (da_cons (de_var 1) (da_cons (de_bin od_mod (de_var 0) (de_var 1)) da_nil)) (by rfl))))
    (db_one (ds_ret (de_var 0)))))
/-! ## fraction -/
abbrev s_fraction : Stmt := topS 10
abbrev N_fraction : List Str := ["top", "below", "common"]
theorem sc_fraction : FnScope N_fraction ["top", "below"] (defScope s_fraction) := ⟨rfl, rfl, rfl, by decide +kernel, rfl, by decide +kernel, by decide +kernel⟩
def r_fraction (ad : Ad) : QS := (sSeq (sIf (qTB (qBin oEq (qVar 1) (qC (.int 0)))) (sRaise ad.NotAllowed) sNext)
    (sSeq (sSet 2 (qCall (sp_divisor ad) (qCons (qVar 0) (qCons (qVar 1) qNil))))
    (sSeq (sIf (qTB (qBin oLt (qVar 1) (qC (.int 0)))) (sSet 2 (qNeg (qVar 2))) sNext)
    (sRet (qTup (qCons (qBin oDiv (qVar 0) (qVar 2)) (qCons (qBin oDiv (qVar 1) (qVar 2)) qNil)))))))
theorem d_fraction (T : Txt K mg ad) (G_divisor : GF P w K mg base "divisor" ["first", "second"] 1 (sp_divisor ad)) (f : Addr) (cdv : Value) (A : Around) (outer : List Env) (s : Shared) (H : Hp) (E : XK) (hr : Room 1 (A.deeper (envOfC "fraction" (defScope s_fraction) s.heap.objs.size f cdv))) :
    DB (cxOf (L2N.CX P w) P w K mg base N_fraction "fraction" (defScope s_fraction) f cdv A outer s H E) (defBody s_fraction) (r_fraction ad) := by
  have hu := hr.units
  have hu5 := u65 hr
  have hp : PassesOwn (model P w) (A.deeper (envOfC "fraction" (defScope s_fraction) s.heap.objs.size f cdv)) (envOfC "fraction" (defScope s_fraction) s.heap.objs.size f cdv) (cxOf (L2N.CX P w) P w K mg base N_fraction "fraction" (defScope s_fraction) f cdv A outer s H E).xe := passes_of (X := cxOf (L2N.CX P w) P w K mg base N_fraction "fraction" (defScope s_fraction) f cdv A outer s H E) rfl
  exact (db_cons (ds_if (dt_cmp (od_eq hu) (de_var 1) de_int (nomark _)) (db_one (ds_raise rfl T.x_NotAllowed rfl)) db_nil)
    (db_cons (ds_set (i := 2) sc_fraction.nd rfl (Or.inl rfl) (de_callF G_divisor (hr.mono (by decide)) rfl (da_cons (de_var 0) (da_cons (de_var 1) da_nil))))
    (db_cons (ds_if (dt_cmp od_lt (de_var 1) de_int (nomark _)) (db_one (ds_set (i := 2) sc_fraction.nd rfl (Or.inl rfl) (de_neg (de_var 2)))) db_nil)
    (db_one (ds_ret (de_tup (da_cons (de_bin od_div (de_var 0) (de_var 2)) (da_cons (de_bin od_div (de_var 1) (de_var 2)) da_nil))))))))
/-! ## is_fraction -/
abbrev s_is_fraction : Stmt := topS 11
abbrev N_is_fraction : List Str := ["value"]
theorem sc_is_fraction : FnScope N_is_fraction ["value"] (defScope s_is_fraction) := ⟨rfl, rfl, rfl, by decide +kernel, rfl, by decide +kernel, by decide +kernel⟩
def r_is_fraction (ad : Ad) : QS := (sRet (qAnd (qBin oEq (qCB cLen (qCons (qVar 0) qNil)) (qC (.int 2))) (qAnd (qBin oGe (qBin oIx (qVar 0) (qC (.int 1))) (qC (.int 1))) (qBin oEq (qCall (sp_divisor ad) (qCons (qBin oIx (qVar 0) (qC (.int 0))) (qCons (qBin oIx (qVar 0) (qC (.int 1))) qNil))) (qC (.int 1))))))
theorem d_is_fraction (T : Txt K mg ad) (G_divisor : GF P w K mg base "divisor" ["first", "second"] 1 (sp_divisor ad)) (f : Addr) (cdv : Value) (A : Around) (outer : List Env) (s : Shared) (H : Hp) (E : XK) (hr : Room 1 (A.deeper (envOfC "is_fraction" (defScope s_is_fraction) s.heap.objs.size f cdv))) :
    DB (cxOf (L2N.CX P w) P w K mg base N_is_fraction "is_fraction" (defScope s_is_fraction) f cdv A outer s H E) (defBody s_is_fraction) (r_is_fraction ad) := by
  have hu := hr.units
  have hu5 := u65 hr
  have hp : PassesOwn (model P w) (A.deeper (envOfC "is_fraction" (defScope s_is_fraction) s.heap.objs.size f cdv)) (envOfC "is_fraction" (defScope s_is_fraction) s.heap.objs.size f cdv) (cxOf (L2N.CX P w) P w K mg base N_is_fraction "is_fraction" (defScope s_is_fraction) f cdv A outer s H E).xe := passes_of (X := cxOf (L2N.CX P w) P w K mg base N_is_fraction "is_fraction" (defScope s_is_fraction) f cdv A outer s H E) rfl
  exact (db_one (ds_ret (de_and (de_cmp (od_eq hu) (de_callB cd_len rfl T.n_len bb_len (da_cons (de_var 0) da_nil)) de_int (nomark _)) (de_and (de_cmp od_ge (de_ix (de_var 0) de_int) de_int (nomark _)) (de_one (de_cmp (od_eq hu) (de_callF G_divisor (hr.mono (by decide)) rfl (da_cons (de_ix (de_var 0) de_int) (da_cons (de_ix (de_var 0) de_int) da_nil))) de_int (nomark _)))))))
/-! ## added -/
abbrev s_added : Stmt := topS 12
abbrev N_added : List Str := ["first", "second"]
theorem sc_added : FnScope N_added ["first", "second"] (defScope s_added) := ⟨rfl, rfl, rfl, by decide +kernel, rfl, by decide +kernel, by decide +kernel⟩
def r_added (ad : Ad) : QS := (sRet (qCall (sp_fraction ad) (qCons (qBin oAdd (qBin oMul (qBin oIx (qVar 0) (qC (.int 0))) (qBin oIx (qVar 1) (qC (.int 1)))) (qBin oMul (qBin oIx (qVar 1) (qC (.int 0))) (qBin oIx (qVar 0) (qC (.int 1))))) (qCons (qBin oMul (qBin oIx (qVar 0) (qC (.int 1))) (qBin oIx (qVar 1) (qC (.int 1)))) qNil))))
theorem d_added (T : Txt K mg ad) (G_fraction : GF P w K mg base "fraction" ["top", "below"] 2 (sp_fraction ad)) (f : Addr) (cdv : Value) (A : Around) (outer : List Env) (s : Shared) (H : Hp) (E : XK) (hr : Room 2 (A.deeper (envOfC "added" (defScope s_added) s.heap.objs.size f cdv))) :
    DB (cxOf (L2N.CX P w) P w K mg base N_added "added" (defScope s_added) f cdv A outer s H E) (defBody s_added) (r_added ad) := by
  have hu := hr.units
  have hu5 := u65 hr
  have hp : PassesOwn (model P w) (A.deeper (envOfC "added" (defScope s_added) s.heap.objs.size f cdv)) (envOfC "added" (defScope s_added) s.heap.objs.size f cdv) (cxOf (L2N.CX P w) P w K mg base N_added "added" (defScope s_added) f cdv A outer s H E).xe := passes_of (X := cxOf (L2N.CX P w) P w K mg base N_added "added" (defScope s_added) f cdv A outer s H E) rfl
  exact (db_one (ds_ret (de_callF G_fraction (hr.mono (by decide)) rfl (da_cons (de_bin od_add (de_bin od_mul (de_ix (de_var 0) de_int) (de_ix (de_var 1) de_int)) (de_bin od_mul (de_ix (de_var 1) de_int) (de_ix (de_var 0) de_int))) (da_cons (de_bin od_mul (de_ix (de_var 0) de_int) (de_ix (de_var 1) de_int)) da_nil)))))
/-! ## times -/
abbrev s_times : Stmt := topS 13
abbrev N_times : List Str := ["first", "second"]
theorem sc_times : FnScope N_times ["first", "second"] (defScope s_times) := ⟨rfl, rfl, rfl, by decide +kernel, rfl, by decide +kernel, by decide +kernel⟩
def r_times (ad : Ad) : QS := (sRet (qCall (sp_fraction ad) (qCons (qBin oMul (qBin oIx (qVar 0) (qC (.int 0))) (qBin oIx (qVar 1) (qC (.int 0)))) (qCons (qBin oMul (qBin oIx (qVar 0) (qC (.int 1))) (qBin oIx (qVar 1) (qC (.int 1)))) qNil))))
theorem d_times (T : Txt K mg ad) (G_fraction : GF P w K mg base "fraction" ["top", "below"] 2 (sp_fraction ad)) (f : Addr) (cdv : Value) (A : Around) (outer : List Env) (s : Shared) (H : Hp) (E : XK) (hr : Room 2 (A.deeper (envOfC "times" (defScope s_times) s.heap.objs.size f cdv))) :
    DB (cxOf (L2N.CX P w) P w K mg base N_times "times" (defScope s_times) f cdv A outer s H E) (defBody s_times) (r_times ad) := by
  have hu := hr.units
  have hu5 := u65 hr
  have hp : PassesOwn (model P w) (A.deeper (envOfC "times" (defScope s_times) s.heap.objs.size f cdv)) (envOfC "times" (defScope s_times) s.heap.objs.size f cdv) (cxOf (L2N.CX P w) P w K mg base N_times "times" (defScope s_times) f cdv A outer s H E).xe := passes_of (X := cxOf (L2N.CX P w) P w K mg base N_times "times" (defScope s_times) f cdv A outer s H E) rfl
  exact (db_one (ds_ret (de_callF G_fraction (hr.mono (by decide)) rfl (da_cons (de_bin od_mul (de_ix (de_var 0) de_int) (de_ix (de_var 1) de_int)) (da_cons (de_bin od_mul (de_ix (de_var 0) de_int) (de_ix (de_var 1) de_int)) da_nil)))))
/-! ## less -/
abbrev s_less : Stmt := topS 14
abbrev N_less : List Str := ["first", "second"]
theorem sc_less : FnScope N_less ["first", "second"] (defScope s_less) := ⟨rfl, rfl, rfl, by decide +kernel, rfl, by decide +kernel, by decide +kernel⟩
def r_less (ad : Ad) : QS := (sRet (qBin oLt (qBin oMul (qBin oIx (qVar 0) (qC (.int 0))) (qBin oIx (qVar 1) (qC (.int 1)))) (qBin oMul (qBin oIx (qVar 1) (qC (.int 0))) (qBin oIx (qVar 0) (qC (.int 1))))))
theorem d_less (T : Txt K mg ad) (f : Addr) (cdv : Value) (A : Around) (outer : List Env) (s : Shared) (H : Hp) (E : XK) (hr : Room 0 (A.deeper (envOfC "less" (defScope s_less) s.heap.objs.size f cdv))) :
    DB (cxOf (L2N.CX P w) P w K mg base N_less "less" (defScope s_less) f cdv A outer s H E) (defBody s_less) (r_less ad) := by
  have hu := hr.units
  have hu5 := u65 hr
  have hp : PassesOwn (model P w) (A.deeper (envOfC "less" (defScope s_less) s.heap.objs.size f cdv)) (envOfC "less" (defScope s_less) s.heap.objs.size f cdv) (cxOf (L2N.CX P w) P w K mg base N_less "less" (defScope s_less) f cdv A outer s H E).xe := passes_of (X := cxOf (L2N.CX P w) P w K mg base N_less "less" (defScope s_less) f cdv A outer s H E) rfl
  exact (db_one (ds_ret (de_cmp od_lt (de_bin od_mul (de_ix (de_var 0) de_int) (de_ix (de_var 1) de_int)) (de_bin od_mul (de_ix (de_var 1) de_int) (de_ix (de_var 0) de_int)) (nomark _))))
/-! ## _law_same -/
abbrev s__law_same : Stmt := topS 16
abbrev N__law_same : List Str := ["told", "due"]
theorem sc__law_same : FnScope N__law_same ["told", "due"] (defScope s__law_same) := ⟨rfl, rfl, rfl, by decide +kernel, rfl, by decide +kernel, by decide +kernel⟩
def r__law_same (ad : Ad) : QS := (sRet (qBin oEq (qCB cRepr (qCons (qLst (qCons (qVar 0) qNil)) qNil)) (qCB cRepr (qCons (qLst (qCons (qVar 1) qNil)) qNil))))
theorem d__law_same (T : Txt K mg ad) (f : Addr) (cdv : Value) (A : Around) (outer : List Env) (s : Shared) (H : Hp) (E : XK) (hr : Room 0 (A.deeper (envOfC "_law_same" (defScope s__law_same) s.heap.objs.size f cdv))) (hG : (A.deeper (envOfC "_law_same" (defScope s__law_same) s.heap.objs.size f cdv)).guards = some []) :
    DB (cxOf (L2N.CX P w) P w K mg base N__law_same "_law_same" (defScope s__law_same) f cdv A outer s H E) (defBody s__law_same) (r__law_same ad) := by
  have hu := hr.units
  have hu5 := u65 hr
  have hp : PassesOwn (model P w) (A.deeper (envOfC "_law_same" (defScope s__law_same) s.heap.objs.size f cdv)) (envOfC "_law_same" (defScope s__law_same) s.heap.objs.size f cdv) (cxOf (L2N.CX P w) P w K mg base N__law_same "_law_same" (defScope s__law_same) f cdv A outer s H E).xe := passes_of (X := cxOf (L2N.CX P w) P w K mg base N__law_same "_law_same" (defScope s__law_same) f cdv A outer s H E) rfl
  exact (db_one (ds_ret (de_cmp (od_eq hu) (de_callB (cd_repr hG hu) rfl T.n_repr bb_repr (da_cons (de_lst (da_cons (de_var 0) da_nil)) da_nil)) (de_callB (cd_repr hG hu) rfl T.n_repr bb_repr (da_cons (de_lst (da_cons (de_var 1) da_nil)) da_nil)) (nomark _))))
/-! ## _law_stream -/
abbrev s__law_stream : Stmt := topS 17
abbrev N__law_stream : List Str := ["script", "numbers", "cell", "rest", "k", "stirred"]
theorem sc__law_stream : FnScope N__law_stream ["script"] (defScope s__law_stream) := ⟨rfl, rfl, rfl, by decide +kernel, rfl, by decide +kernel, by decide +kernel⟩
def r__law_stream_b1 (ad : Ad) : QS := (sSeq (sDrop (qMeth mAppend (qVar 1) (qCons (qBin oMod (qCB cToInt (qCons (qVar 3) qNil)) (qC (.int 1009))) qNil)))
    (sSeq (sSet 3 (qBin oDiv (qVar 3) (qC (.int 1009))))
    (sIf (qTB (qBin oEq (qVar 3) (qC (.int 0)))) sBreak sNext)))
def r__law_stream_b2 (ad : Ad) : QS := (sSeq (sSet 5 (qBin oMod (qCB cToInt (qCons (qBin oAdd (qBin oAdd (qBin oMul (qVar 5) (qC (.int 48271))) (qBin oMul (qC (.int 7)) (qVar 4))) (qC (.int 11))) qNil)) (qC (.int 2147483647))))
    (sDrop (qMeth mAppend (qVar 1) (qCons (qBin oMod (qBin oMod (qCB cToInt (qCons (qBin oAdd (qBin oMul (qVar 5) (qC (.int 69621))) (qVar 4)) qNil)) (qC (.int 2147483629))) (qC (.int 1009))) qNil))))
def r__law_stream_b3 (ad : Ad) : QS := (sSeq (sSet 3 (qCB (cInt fun i => .int (if i < 0 then -i else i)) (qCons (qCB cToInt (qCons (qVar 2) qNil)) qNil)))
    (sIf (qTB (qBin oGe (qVar 3) (qBin oPow (qC (.int 10)) (qC (.int 18))))) (sFor (iRange1 (qCons (qC (.int 60)) qNil)) (gN 4) (r__law_stream_b1 ad)) (sSeq (sSet 5 (qBin oMod (qCB cToInt (qCons (qVar 3) qNil)) (qC (.int 2147483647))))
    (sFor (iRange1 (qCons (qC (.int 10)) qNil)) (gN 4) (r__law_stream_b2 ad)))))
def r__law_stream (ad : Ad) : QS := (sSeq (sSet 1 (qLst qNil))
    (sSeq (sFor (iSeq (qSl (qVar 0) qNo (qPart (qC (.int 63))))) (gN 2) (r__law_stream_b3 ad))
    (sSeq (sIf (qTB (qBin oEq (qCB cLen (qCons (qVar 1) qNil)) (qC (.int 0)))) (sDrop (qMeth mAppend (qVar 1) (qCons (qC (.int 0)) qNil))) sNext)
    (sRet (qVar 1)))))
theorem d__law_stream (T : Txt K mg ad) (f : Addr) (cdv : Value) (A : Around) (outer : List Env) (s : Shared) (H : Hp) (E : XK) (hr : Room 0 (A.deeper (envOfC "_law_stream" (defScope s__law_stream) s.heap.objs.size f cdv))) :
    DB (cxOf (L2N.CX P w) P w K mg base N__law_stream "_law_stream" (defScope s__law_stream) f cdv A outer s H E) (defBody s__law_stream) (r__law_stream ad) := by
  have hu := hr.units
  have hu5 := u65 hr
  have hp : PassesOwn (model P w) (A.deeper (envOfC "_law_stream" (defScope s__law_stream) s.heap.objs.size f cdv)) (envOfC "_law_stream" (defScope s__law_stream) s.heap.objs.size f cdv) (cxOf (L2N.CX P w) P w K mg base N__law_stream "_law_stream" (defScope s__law_stream) f cdv A outer s H E).xe := passes_of (X := cxOf (L2N.CX P w) P w K mg base N__law_stream "_law_stream" (defScope s__law_stream) f cdv A outer s H E) rfl
  exact (db_cons (ds_set (i := 1) sc__law_stream.nd rfl (Or.inl rfl) (de_lst da_nil))
    (db_cons (ds_for hp rfl (di_seq (de_sl (de_var 0) do_none (do_some de_int))) (dg_name (i := 2) sc__law_stream.nd rfl (Or.inl rfl)) (db_cons (ds_set (i := 3) sc__law_stream.nd rfl (Or.inl rfl) (de_callB cd_abs rfl T.n_abs bb_abs (da_cons (de_callTy cd_int rfl T.n_int bb_int (da_cons (de_var 2) da_nil)) da_nil)))
    (db_one (ds_if (dt_cmp od_ge (de_var 3) (de_bin od_pow de_int de_int) (nomark _)) (db_one (ds_for hp rfl (di_range1 rfl T.n_range (da_cons de_int da_nil)) (dg_name (i := 4) sc__law_stream.nd rfl (Or.inl rfl)) (db_cons (ds_expr (de_append (de_var 1) (da_cons (de_bin od_mod (de_callTy cd_int rfl T.n_int bb_int (da_cons (de_var 3) da_nil)) de_int) da_nil)))
    (db_cons (ds_set (i := 3) sc__law_stream.nd rfl (Or.inl rfl) (de_bin od_div (de_var 3) de_int))
    (db_one (ds_if (dt_cmp (od_eq hu) (de_var 3) de_int (nomark _)) (db_one ds_break) db_nil)))))) (db_cons (ds_set (i := 5) sc__law_stream.nd rfl (Or.inl rfl) (de_bin od_mod (de_callTy cd_int rfl T.n_int bb_int (da_cons (de_var 3) da_nil)) de_int))
    (db_one (ds_for hp rfl (di_range1 rfl T.n_range (da_cons de_int da_nil)) (dg_name (i := 4) sc__law_stream.nd rfl (Or.inl rfl)) (db_cons (ds_set (i := 5) sc__law_stream.nd rfl (Or.inl rfl) (de_bin od_mod (de_callTy cd_int rfl T.n_int bb_int (da_cons (de_bin od_add (de_bin od_add (de_bin od_mul (de_var 5) de_int) (de_bin od_mul de_int (de_var 4))) de_int) da_nil)) de_int))
    (db_one (ds_expr (de_append (de_var 1) (da_cons (de_bin od_mod (de_bin od_mod (de_callTy cd_int rfl T.n_int bb_int (da_cons (de_bin od_add (de_bin od_mul (de_var 5) de_int) (de_var 4)) da_nil)) de_int) de_int) da_nil))))))))))))
    (db_cons (ds_if (dt_cmp (od_eq hu) (de_callB cd_len rfl T.n_len bb_len (da_cons (de_var 1) da_nil)) de_int (nomark _)) (db_one (ds_expr (de_append (de_var 1) (da_cons de_int da_nil)))) db_nil)
    (db_one (ds_ret (de_var 1))))))
/-! ## _law_next -/
abbrev s__law_next : Stmt := topS 18
abbrev N__law_next : List Str := ["state", "many", "turn"]
theorem sc__law_next : FnScope N__law_next ["state", "many"] (defScope s__law_next) := ⟨rfl, rfl, rfl, by decide +kernel, rfl, by decide +kernel, by decide +kernel⟩
def r__law_next (ad : Ad) : QS := (sSeq (sAsg (qBin oAdd (qBin oIx (qVar 0) (qC (.int 1))) (qC (.int 1))) (gS (qVar 0) (qC (.int 1))))
    (sSeq (sSet 2 (qBin oDiv (qBin oIx (qVar 0) (qC (.int 1))) (qCB cLen (qCons (qBin oIx (qVar 0) (qC (.int 0))) qNil))))
    (sRet (qBin oMod (qCB cToInt (qCons (qBin oAdd (qBin oAdd (qBin oIx (qBin oIx (qVar 0) (qC (.int 0))) (qBin oMod (qBin oIx (qVar 0) (qC (.int 1))) (qCB cLen (qCons (qBin oIx (qVar 0) (qC (.int 0))) qNil)))) (qBin oMul (qVar 2) (qC (.int 389)))) (qBin oMul (qBin oMul (qBin oIx (qVar 0) (qC (.int 1))) (qVar 2)) (qC (.int 17)))) qNil)) (qVar 1)))))
theorem d__law_next (T : Txt K mg ad) (f : Addr) (cdv : Value) (A : Around) (outer : List Env) (s : Shared) (H : Hp) (E : XK) (hr : Room 0 (A.deeper (envOfC "_law_next" (defScope s__law_next) s.heap.objs.size f cdv))) :
    DB (cxOf (L2N.CX P w) P w K mg base N__law_next "_law_next" (defScope s__law_next) f cdv A outer s H E) (defBody s__law_next) (r__law_next ad) := by
  have hu := hr.units
  have hu5 := u65 hr
  have hp : PassesOwn (model P w) (A.deeper (envOfC "_law_next" (defScope s__law_next) s.heap.objs.size f cdv)) (envOfC "_law_next" (defScope s__law_next) s.heap.objs.size f cdv) (cxOf (L2N.CX P w) P w K mg base N__law_next "_law_next" (defScope s__law_next) f cdv A outer s H E).xe := passes_of (X := cxOf (L2N.CX P w) P w K mg base N__law_next "_law_next" (defScope s__law_next) f cdv A outer s H E) rfl
  exact (db_cons (ds_asg (de_bin od_add (de_ix (de_var 0) de_int) de_int) (dg_sub (de_var 0) de_int))
    (db_cons (ds_set (i := 2) sc__law_next.nd rfl (Or.inl rfl) (de_bin od_div (de_ix (de_var 0) de_int) (de_callB cd_len rfl T.n_len bb_len (da_cons (de_ix (de_var 0) de_int) da_nil))))
    (db_one (ds_ret (de_bin od_mod (de_callTy cd_int rfl T.n_int bb_int (da_cons (de_bin od_add (de_bin od_add (de_ix (de_ix (de_var 0) de_int) (de_bin od_mod (de_ix (de_var 0) de_int) (de_callB cd_len rfl T.n_len bb_len (da_cons (de_ix (de_var 0) de_int) da_nil)))) (de_bin od_mul (de_var 2) de_int)) (de_bin od_mul (de_bin od_mul (de_ix (de_var 0) de_int) (de_var 2)) de_int)) da_nil)) (de_var 1))))))
/-! ## _law_great -/
abbrev s__law_great : Stmt := topS 19
abbrev N__law_great : List Str := ["state", "many"]
theorem sc__law_great : FnScope N__law_great ["state", "many"] (defScope s__law_great) := ⟨rfl, rfl, rfl, by decide +kernel, rfl, by decide +kernel, by decide +kernel⟩
def r__law_great (ad : Ad) : QS := (sRet (qBin oMod (qCB cToInt (qCons (qBin oAdd (qBin oMul (qCall (sp__law_next ad) (qCons (qVar 0) (qCons (qC (.int 1009)) qNil))) (qC (.int 1009))) (qCall (sp__law_next ad) (qCons (qVar 0) (qCons (qC (.int 1009)) qNil)))) qNil)) (qVar 1)))
theorem d__law_great (T : Txt K mg ad) (G__law_next : GF P w K mg base "_law_next" ["state", "many"] 1 (sp__law_next ad)) (f : Addr) (cdv : Value) (A : Around) (outer : List Env) (s : Shared) (H : Hp) (E : XK) (hr : Room 1 (A.deeper (envOfC "_law_great" (defScope s__law_great) s.heap.objs.size f cdv))) :
    DB (cxOf (L2N.CX P w) P w K mg base N__law_great "_law_great" (defScope s__law_great) f cdv A outer s H E) (defBody s__law_great) (r__law_great ad) := by
  have hu := hr.units
  have hu5 := u65 hr
  have hp : PassesOwn (model P w) (A.deeper (envOfC "_law_great" (defScope s__law_great) s.heap.objs.size f cdv)) (envOfC "_law_great" (defScope s__law_great) s.heap.objs.size f cdv) (cxOf (L2N.CX P w) P w K mg base N__law_great "_law_great" (defScope s__law_great) f cdv A outer s H E).xe := passes_of (X := cxOf (L2N.CX P w) P w K mg base N__law_great "_law_great" (defScope s__law_great) f cdv A outer s H E) rfl
  exact (db_one (ds_ret (de_bin od_mod (de_callTy cd_int rfl T.n_int bb_int (da_cons (de_bin od_add (de_bin od_mul (de_callF G__law_next (hr.mono (by decide)) rfl (da_cons (de_var 0) (da_cons de_int da_nil))) de_int) (de_callF G__law_next (hr.mono (by decide)) rfl (da_cons (de_var 0) (da_cons de_int da_nil)))) da_nil)) (de_var 1))))
/-! ## _law_told -/
abbrev s__law_told : Stmt := topS 20
abbrev N__law_told : List Str := ["call", "e", "kinds", "names", "k"]
theorem sc__law_told : FnScope N__law_told ["call"] (defScope s__law_told) := ⟨rfl, rfl, rfl, by decide +kernel, rfl, by decide +kernel, by decide +kernel⟩
def r__law_told_s (ad : Ad) (C a : Addr) : QS := (sSeq (sSet 2 (qLst (qCons (qCB (cIsK ad a C) (qCons (qVar 1) (qCons (qC (.ref ad.NotAllowed)) qNil))) (qCons (qCB (cIsK ad a C) (qCons (qVar 1) (qCons (qC (.ref ad.TooLarge)) qNil))) (qCons (qCB (cIsK ad a C) (qCons (qVar 1) (qCons (qC (.ref ad.Missing)) qNil))) (qCons (qCB (cIsK ad a C) (qCons (qVar 1) (qCons (qC (.ref ad.BadPaper)) qNil))) (qCons (qCB (cIsK ad a C) (qCons (qVar 1) (qCons (qC (.ref ad.BadForm)) qNil))) (qCons (qCB (cIsK ad a C) (qCons (qVar 1) (qCons (qC (.ref ad.Broken)) qNil))) qNil))))))))
    (sSeq (sSet 3 (qLc (iRange1 (qCons (qC (.int 6)) qNil)) (gN 4) (qTru (qBin oIx (qVar 2) (qVar 4))) (qBin oIx (qLst (qCons (qC (.str "refused")) (qCons (qC (.str "large")) (qCons (qC (.str "missing")) (qCons (qC (.str "paper")) (qCons (qC (.str "form")) (qCons (qC (.str "broken")) qNil))))))) (qVar 4)) [4]))
    (sRet (qTup (qCons (qBin oIx (qLst (qCons (qC (.str "odd")) (qCons (qBin oIx (qBin oAdd (qVar 3) (qLst (qCons (qC (.str "")) qNil))) (qC (.int 0))) qNil))) (qCB cToInt (qCons (qBin oEq (qCB cLen (qCons (qVar 3) qNil)) (qC (.int 1))) qNil))) qNil)))))
def r__law_told (ad : Ad) (qc : QE) : QS := (sTry ad.six 1 (sRet (qTup (qCons (qC (.str "told")) (qCons qc qNil)))) (r__law_told_s ad))
theorem d__law_told {X : Cx} (T : Txt X.K X.mg ad) {g : Addr} {cdv : Value} {k : Nat} (s : Shared) (H : Hp) (qc : QE) (hr : Room k (X.A.deeper (envOfC "_law_told" (defScope s__law_told) s.heap.objs.size g cdv))) (hq : ∀ (pn : List (Addr × Obj)) (xe : Value → Shared → Prop) (p1 p2 : Pos), DE ((gotCx X N__law_told "_law_told" (defScope s__law_told) g cdv X.A X.stack s H fun _ _ _ => False).tr pn xe) (.Call (.Name "call" p1) [] [] p2) qc) :
    DB (gotCx X N__law_told "_law_told" (defScope s__law_told) g cdv X.A X.stack s H fun _ _ _ => False) (defBody s__law_told) (r__law_told ad qc) := by
  have hu := hr.units
  have hu5 := u65 hr
  exact (db_one (ds_try (Cs := ad.six) (i := 1) (ts := r__law_told_s ad) rfl rfl sc__law_told.nd rfl rfl ⟨rfl, by decide, Or.inl T.g_SlipError⟩ T.exm (fun pn xe hp => by exact (db_one (ds_ret (de_tup (da_cons de_str (da_cons (hq _ _ _ _) da_nil))))))
      (fun a oe C pn hC hz hd => by have TE := T.exc C hC; exact (db_cons (ds_set (i := 2) sc__law_told.nd rfl (Or.inr rfl) (de_lst (da_cons (de_callB (cd_isK TE (T.kit C hC) hz hd) rfl T.n_isinstance bb_isinstance (da_cons (de_var 1) (da_cons (de_globR rfl T.g_NotAllowed) da_nil))) (da_cons (de_callB (cd_isK TE (T.kit C hC) hz hd) rfl T.n_isinstance bb_isinstance (da_cons (de_var 1) (da_cons (de_globR rfl T.g_TooLarge) da_nil))) (da_cons (de_callB (cd_isK TE (T.kit C hC) hz hd) rfl T.n_isinstance bb_isinstance (da_cons (de_var 1) (da_cons (de_globR rfl T.g_Missing) da_nil))) (da_cons (de_callB (cd_isK TE (T.kit C hC) hz hd) rfl T.n_isinstance bb_isinstance (da_cons (de_var 1) (da_cons (de_globR rfl T.g_BadPaper) da_nil))) (da_cons (de_callB (cd_isK TE (T.kit C hC) hz hd) rfl T.n_isinstance bb_isinstance (da_cons (de_var 1) (da_cons (de_globR rfl T.g_BadForm) da_nil))) (da_cons (de_callB (cd_isK TE (T.kit C hC) hz hd) rfl T.n_isinstance bb_isinstance (da_cons (de_var 1) (da_cons (de_globR rfl T.g_Broken) da_nil))) da_nil))))))))
    (db_cons (ds_setLcH (i := 3) (own := [("k", 4)]) (hot_suite hz hd) (List.mem_cons_self ..) sc__law_told.nd rfl rfl (sw_true rfl rfl rfl (by decide +kernel)) (dih_range1 rfl T.n_range (da_cons de_int da_nil)) (blkOk_by (own := [("k", 4)]) (N := N__law_told) (sc := defScope s__law_told) (by decide +kernel)) (fun _ _ _ _ _ => (dgo_name (i := 4) sc__law_told.nd rfl (by decide) (by first | exact Or.inl rfl | exact Or.inr rfl))) (fun _ _ _ _ _ => (dts_one (dt_truth (de_ix (de_var 2) (de_var 4))))) (fun _ _ _ _ _ => (de_ix (de_lst (da_cons de_str (da_cons de_str (da_cons de_str (da_cons de_str (da_cons de_str (da_cons de_str da_nil))))))) (de_var 4))))
    (db_one (ds_ret (de_tup (da_cons (de_ix (de_lst (da_cons de_str (da_cons (de_ix (de_bin od_add (de_var 3) (de_lst (da_cons de_str da_nil))) de_int) da_nil))) (de_callTy cd_int rfl T.n_int bb_int (da_cons (de_cmp (od_eq hu) (de_callB cd_len rfl T.n_len bb_len (da_cons (de_var 3) da_nil)) de_int (nomark _)) da_nil))) da_nil)))))))))
/-! ## _law_common -/
abbrev s__law_common : Stmt := topS 21
abbrev N__law_common : List Str := ["first", "second"]
theorem sc__law_common : FnScope N__law_common ["first", "second"] (defScope s__law_common) := ⟨rfl, rfl, rfl, by decide +kernel, rfl, by decide +kernel, by decide +kernel⟩
def r__law_common_b1 (ad : Ad) : QS := (sPar 0 1 (qCons (qVar 1) (qCons (qBin oMod (qCB cToInt (qCons (qVar 0) qNil)) (qVar 1)) qNil)))
def r__law_common (ad : Ad) : QS := (sSeq (sSet 0 (qCB (cInt2 fun i j => .int (if j > i then j else i)) (qCons (qVar 0) (qCons (qBin oSub (qC (.int 0)) (qVar 0)) qNil))))
    (sSeq (sSet 1 (qCB (cInt2 fun i j => .int (if j > i then j else i)) (qCons (qVar 1) (qCons (qBin oSub (qC (.int 0)) (qVar 1)) qNil))))
    (sSeq (sWhile (qTB (qBin oGt (qVar 1) (qC (.int 0)))) (r__law_common_b1 ad))
    (sRet (qVar 0)))))
theorem d__law_common (T : Txt K mg ad) (f : Addr) (cdv : Value) (A : Around) (outer : List Env) (s : Shared) (H : Hp) (E : XK) (hr : Room 0 (A.deeper (envOfC "_law_common" (defScope s__law_common) s.heap.objs.size f cdv))) :
    DB (cxOf (L2N.CX P w) P w K mg base N__law_common "_law_common" (defScope s__law_common) f cdv A outer s H E) (defBody s__law_common) (r__law_common ad) := by
  have hu := hr.units
  have hu5 := u65 hr
  have hp : PassesOwn (model P w) (A.deeper (envOfC "_law_common" (defScope s__law_common) s.heap.objs.size f cdv)) (envOfC "_law_common" (defScope s__law_common) s.heap.objs.size f cdv) (cxOf (L2N.CX P w) P w K mg base N__law_common "_law_common" (defScope s__law_common) f cdv A outer s H E).xe := passes_of (X := cxOf (L2N.CX P w) P w K mg base N__law_common "_law_common" (defScope s__law_common) f cdv A outer s H E) rfl
  exact (db_cons (ds_set (i := 0) sc__law_common.nd rfl (Or.inl rfl) (de_callB (cd_max2 rfl) rfl T.n_max bb_max (da_cons (de_var 0) (da_cons (de_bin od_sub de_int (de_var 0)) da_nil))))
    (db_cons (ds_set (i := 1) sc__law_common.nd rfl (Or.inl rfl) (de_callB (cd_max2 rfl) rfl T.n_max bb_max (da_cons (de_var 1) (da_cons (de_bin od_sub de_int (de_var 1)) da_nil))))
    (db_cons (ds_while hp (dt_cmp od_gt (de_var 1) de_int (nomark _)) (db_one (ds_par (i := 0) (j := 1) rfl sc__law_common.nd rfl rfl (by decide) rfl rfl (da_cons (de_var 1) (da_cons (de_bin od_mod (de_callTy cd_int rfl T.n_int bb_int (da_cons (de_var 0) da_nil)) (de_var 1)) da_nil)) (by rfl))))
    (db_one (ds_ret (de_var 0))))))
/-! ## _law_reduced -/
abbrev s__law_reduced : Stmt := topS 22
abbrev N__law_reduced : List Str := ["top", "below", "common"]
theorem sc__law_reduced : FnScope N__law_reduced ["top", "below"] (defScope s__law_reduced) := ⟨rfl, rfl, rfl, by decide +kernel, rfl, by decide +kernel, by decide +kernel⟩
def r__law_reduced (ad : Ad) : QS := (sSeq (sSet 2 (qCall (sp__law_common ad) (qCons (qVar 0) (qCons (qVar 1) qNil))))
    (sSeq (sIf (qTB (qBin oLt (qVar 1) (qC (.int 0)))) (sSet 2 (qBin oSub (qC (.int 0)) (qVar 2))) sNext)
    (sRet (qTup (qCons (qBin oDiv (qVar 0) (qVar 2)) (qCons (qBin oDiv (qVar 1) (qVar 2)) qNil))))))
theorem d__law_reduced (T : Txt K mg ad) (G__law_common : GF P w K mg base "_law_common" ["first", "second"] 1 (sp__law_common ad)) (f : Addr) (cdv : Value) (A : Around) (outer : List Env) (s : Shared) (H : Hp) (E : XK) (hr : Room 1 (A.deeper (envOfC "_law_reduced" (defScope s__law_reduced) s.heap.objs.size f cdv))) :
    DB (cxOf (L2N.CX P w) P w K mg base N__law_reduced "_law_reduced" (defScope s__law_reduced) f cdv A outer s H E) (defBody s__law_reduced) (r__law_reduced ad) := by
  have hu := hr.units
  have hu5 := u65 hr
  have hp : PassesOwn (model P w) (A.deeper (envOfC "_law_reduced" (defScope s__law_reduced) s.heap.objs.size f cdv)) (envOfC "_law_reduced" (defScope s__law_reduced) s.heap.objs.size f cdv) (cxOf (L2N.CX P w) P w K mg base N__law_reduced "_law_reduced" (defScope s__law_reduced) f cdv A outer s H E).xe := passes_of (X := cxOf (L2N.CX P w) P w K mg base N__law_reduced "_law_reduced" (defScope s__law_reduced) f cdv A outer s H E) rfl
  exact (db_cons (ds_set (i := 2) sc__law_reduced.nd rfl (Or.inl rfl) (de_callF G__law_common (hr.mono (by decide)) rfl (da_cons (de_var 0) (da_cons (de_var 1) da_nil))))
    (db_cons (ds_if (dt_cmp od_lt (de_var 1) de_int (nomark _)) (db_one (ds_set (i := 2) sc__law_reduced.nd rfl (Or.inl rfl) (de_bin od_sub de_int (de_var 2)))) db_nil)
    (db_one (ds_ret (de_tup (da_cons (de_bin od_div (de_var 0) (de_var 2)) (da_cons (de_bin od_div (de_var 1) (de_var 2)) da_nil)))))))
/-! ## _law_number -/
abbrev s__law_number : Stmt := topS 23
abbrev N__law_number : List Str := ["state", "number"]
theorem sc__law_number : FnScope N__law_number ["state"] (defScope s__law_number) := ⟨rfl, rfl, rfl, by decide +kernel, rfl, by decide +kernel, by decide +kernel⟩
def r__law_number (ad : Ad) : QS := (sSeq (sSet 1 (qBin oIx (qLst (qCons (qCall (sp__law_next ad) (qCons (qVar 0) (qCons (qC (.int 13)) qNil))) (qCons (qCall (sp__law_great ad) (qCons (qVar 0) (qCons (qC (.int 9999)) qNil))) (qCons (qBin oAdd (qBin oMul (qCall (sp__law_great ad) (qCons (qVar 0) (qCons (qBin oPow (qC (.int 10)) (qC (.int 6))) qNil))) (qC (.int 999983))) (qC (.int 1))) (qCons (qC (.int 0)) qNil))))) (qCall (sp__law_next ad) (qCons (qVar 0) (qCons (qC (.int 4)) qNil)))))
    (sRet (qBin oIx (qLst (qCons (qVar 1) (qCons (qBin oSub (qC (.int 0)) (qVar 1)) qNil))) (qCall (sp__law_next ad) (qCons (qVar 0) (qCons (qC (.int 2)) qNil))))))
theorem d__law_number (T : Txt K mg ad) (G__law_great : GF P w K mg base "_law_great" ["state", "many"] 2 (sp__law_great ad)) (G__law_next : GF P w K mg base "_law_next" ["state", "many"] 1 (sp__law_next ad)) (f : Addr) (cdv : Value) (A : Around) (outer : List Env) (s : Shared) (H : Hp) (E : XK) (hr : Room 2 (A.deeper (envOfC "_law_number" (defScope s__law_number) s.heap.objs.size f cdv))) :
    DB (cxOf (L2N.CX P w) P w K mg base N__law_number "_law_number" (defScope s__law_number) f cdv A outer s H E) (defBody s__law_number) (r__law_number ad) := by
  have hu := hr.units
  have hu5 := u65 hr
  have hp : PassesOwn (model P w) (A.deeper (envOfC "_law_number" (defScope s__law_number) s.heap.objs.size f cdv)) (envOfC "_law_number" (defScope s__law_number) s.heap.objs.size f cdv) (cxOf (L2N.CX P w) P w K mg base N__law_number "_law_number" (defScope s__law_number) f cdv A outer s H E).xe := passes_of (X := cxOf (L2N.CX P w) P w K mg base N__law_number "_law_number" (defScope s__law_number) f cdv A outer s H E) rfl
  exact (db_cons (ds_set (i := 1) sc__law_number.nd rfl (Or.inl rfl) (de_ix (de_lst (da_cons (de_callF G__law_next (hr.mono (by decide)) rfl (da_cons (de_var 0) (da_cons de_int da_nil))) (da_cons (de_callF G__law_great (hr.mono (by decide)) rfl (da_cons (de_var 0) (da_cons de_int da_nil))) (da_cons (de_bin od_add (de_bin od_mul (de_callF G__law_great (hr.mono (by decide)) rfl (da_cons (de_var 0) (da_cons (de_bin od_pow de_int de_int) da_nil))) de_int) de_int) (da_cons de_int da_nil))))) (de_callF G__law_next (hr.mono (by decide)) rfl (da_cons (de_var 0) (da_cons de_int da_nil)))))
    (db_one (ds_ret (de_ix (de_lst (da_cons (de_var 1) (da_cons (de_bin od_sub de_int (de_var 1)) da_nil))) (de_callF G__law_next (hr.mono (by decide)) rfl (da_cons (de_var 0) (da_cons de_int da_nil)))))))
/-! ## law -/
abbrev s_law : Stmt := topS 24
abbrev N_law : List Str := ["script", "state", "turn", "value", "pairs", "k", "top", "below", "due", "total", "one", "other", "left", "right"]
theorem sc_law : FnScope N_law ["script"] (defScope s_law) := ⟨rfl, rfl, rfl, by decide +kernel, rfl, by decide +kernel, by decide +kernel⟩
def r_law_c1 (ad : Ad) (tb : List (Addr × Str)) (nm : Str) : QS := (sIf (qNotT (qTru (qCall (sp__law_same ad) (qCons (qLam tb N__law_told nm (r__law_told ad) (qCall (sp_is_fraction ad) (qCons (qVar 3) qNil))) (qCons (qTup (qCons (qC (.str "told")) (qCons (qBin oIn (qVar 3) (qLst (qCons (qTup (qCons (qC (.int 0)) (qCons (qC (.int 1)) qNil))) (qCons (qTup (qCons (qC (.int 7)) (qCons (qC (.int 1)) qNil))) qNil)))) qNil))) qNil))))) (sRet (qC (.bl false))) sNext)
def r_law_b1 (ad : Ad) (tb : List (Addr × Str)) (nm : Str) : QS := (r_law_c1 ad tb nm)
def r_law_c2 (ad : Ad) (tb : List (Addr × Str)) (nm : Str) : QS := (sIf (qNotT (qTru (qCall (sp__law_same ad) (qCons (qLam tb N__law_told nm (r__law_told ad) (qCall (sp_less ad) (qCons (qVar 12) (qCons (qVar 13) qNil)))) (qCons (qTup (qCons (qC (.str "told")) (qCons (qBin oLt (qBin oMul (qBin oIx (qVar 12) (qC (.int 0))) (qBin oIx (qVar 13) (qC (.int 1)))) (qBin oMul (qBin oIx (qVar 13) (qC (.int 0))) (qBin oIx (qVar 12) (qC (.int 1))))) qNil))) qNil))))) (sRet (qC (.bl false))) sNext)
def r_law_b2 (ad : Ad) (tb : List (Addr × Str)) (nm : Str) : QS := (r_law_c2 ad tb nm)
def r_law_c3 (ad : Ad) (tb : List (Addr × Str)) (nm : Str) : QS := (sIf (qNotT (qTru (qCall (sp__law_same ad) (qCons (qLam tb N__law_told nm (r__law_told ad) (qCall (sp_times ad) (qCons (qVar 10) (qCons (qVar 11) qNil)))) (qCons (qTup (qCons (qC (.str "told")) (qCons (qCall (sp__law_reduced ad) (qCons (qBin oMul (qBin oIx (qVar 10) (qC (.int 0))) (qBin oIx (qVar 11) (qC (.int 0)))) (qCons (qBin oMul (qBin oIx (qVar 10) (qC (.int 1))) (qBin oIx (qVar 11) (qC (.int 1)))) qNil))) qNil))) qNil))))) (sRet (qC (.bl false))) sNext)
def r_law_c4 (ad : Ad) (tb : List (Addr × Str)) (nm : Str) : QS := (sIf (qNotT (qTru (qCall (sp__law_same ad) (qCons (qLam tb N__law_told nm (r__law_told ad) (qCall (sp_added ad) (qCons (qVar 10) (qCons (qVar 11) qNil)))) (qCons (qTup (qCons (qC (.str "told")) (qCons (qVar 9) qNil))) qNil))))) (sRet (qC (.bl false))) sNext)
def r_law_c5 (ad : Ad) (tb : List (Addr × Str)) (nm : Str) : QS := (sIf (qNotT (qTru (qCall (sp__law_same ad) (qCons (qLam tb N__law_told nm (r__law_told ad) (qCall (sp_is_fraction ad) (qCons (qTup (qCons (qVar 6) (qCons (qVar 7) qNil))) qNil))) (qCons (qTup (qCons (qC (.str "told")) (qCons (qAnd (qBin oGt (qVar 7) (qC (.int 0))) (qBin oEq (qCall (sp__law_common ad) (qCons (qVar 6) (qCons (qVar 7) qNil))) (qC (.int 1)))) qNil))) qNil))))) (sRet (qC (.bl false))) sNext)
def r_law_c6 (ad : Ad) (tb : List (Addr × Str)) (nm : Str) : QS := (sIf (qNotT (qTru (qCall (sp__law_same ad) (qCons (qLam tb N__law_told nm (r__law_told ad) (qCall (sp_fraction ad) (qCons (qVar 6) (qCons (qVar 7) qNil)))) (qCons (qVar 8) qNil))))) (sRet (qC (.bl false))) sNext)
def r_law_b3 (ad : Ad) (tb : List (Addr × Str)) (nm : Str) : QS := (sSeq (sSet 6 (qCall (sp__law_number ad) (qCons (qVar 1) qNil)))
    (sSeq (sSet 7 (qCall (sp__law_number ad) (qCons (qVar 1) qNil)))
    (sSeq (sSet 8 (qTup (qCons (qC (.str "refused")) qNil)))
    (sSeq (sIf (qTB (qBin oNe (qVar 7) (qC (.int 0)))) (sSeq (sSet 8 (qTup (qCons (qC (.str "told")) (qCons (qCall (sp__law_reduced ad) (qCons (qVar 6) (qCons (qVar 7) qNil))) qNil))))
    (sDrop (qMeth mAppend (qVar 4) (qCons (qBin oIx (qVar 8) (qC (.int 1))) qNil)))) sNext)
    (sSeq (r_law_c6 ad tb nm)
    (r_law_c5 ad tb nm))))))
def r_law_b4 (ad : Ad) (tb : List (Addr × Str)) (nm : Str) : QS := (sSeq (sSet 4 (qLst qNil))
    (sSeq (sFor (iRange1 (qCons (qC (.int 2)) qNil)) (gN 5) (r_law_b3 ad tb nm))
    (sIf (qTB (qBin oEq (qCB cLen (qCons (qVar 4) qNil)) (qC (.int 2)))) (sSeq (sAsg (qVar 4) (gU 2 (gC (gN 10) (gC (gN 11) gE))))
    (sSeq (sSet 9 (qCall (sp__law_reduced ad) (qCons (qBin oAdd (qBin oMul (qBin oIx (qVar 10) (qC (.int 0))) (qBin oIx (qVar 11) (qC (.int 1)))) (qBin oMul (qBin oIx (qVar 11) (qC (.int 0))) (qBin oIx (qVar 10) (qC (.int 1))))) (qCons (qBin oMul (qBin oIx (qVar 10) (qC (.int 1))) (qBin oIx (qVar 11) (qC (.int 1)))) qNil))))
    (sSeq (r_law_c4 ad tb nm)
    (sSeq (r_law_c3 ad tb nm)
    (sFor (iSeq (qLst (qCons (qTup (qCons (qVar 10) (qCons (qVar 11) qNil))) (qCons (qTup (qCons (qVar 11) (qCons (qVar 10) qNil))) (qCons (qTup (qCons (qVar 10) (qCons (qVar 10) qNil))) qNil))))) (gU 2 (gC (gN 12) (gC (gN 13) gE))) (r_law_b2 ad tb nm)))))) sNext)))
def r_law (ad : Ad) (tb : List (Addr × Str)) (nm : Str) : QS := (sSeq (sSet 1 (qLst (qCons (qCall (sp__law_stream ad) (qCons (qVar 0) qNil)) (qCons (qC (.int 0)) qNil))))
    (sSeq (sFor (iRange1 (qCons (qC (.int 12)) qNil)) (gN 2) (r_law_b4 ad tb nm))
    (sSeq (sFor (iSeq (qLst (qCons (qTup (qCons (qC (.int 0)) (qCons (qC (.int 1)) qNil))) (qCons (qTup (qCons (qC (.int 0)) (qCons (qC (.int 2)) qNil))) (qCons (qTup (qCons (qC (.int 3)) (qCons (qNeg (qC (.int 1))) qNil))) (qCons (qTup (qCons (qC (.int 1)) (qCons (qC (.int 2)) (qCons (qC (.int 1)) qNil)))) (qCons (qTup (qCons (qC (.int 1)) qNil)) (qCons (qTup (qCons (qC (.int 2)) (qCons (qC (.int 4)) qNil))) (qCons (qTup (qCons (qC (.int 7)) (qCons (qC (.int 1)) qNil))) qNil))))))))) (gN 3) (r_law_b1 ad tb nm))
    (sRet (qC (.bl true))))))
theorem d_law {tb : List (Addr × Str)} {c Pt : Addr} (T : Txt K mg ad) (TL : ToldT K mg s__law_told ["call"]) (TB : LamX.TabB base mg c Pt) (G__law_common : GF P w K mg base "_law_common" ["first", "second"] 1 (sp__law_common ad)) (G__law_number : GF P w K mg base "_law_number" ["state"] 3 (sp__law_number ad)) (G__law_reduced : GF P w K mg base "_law_reduced" ["top", "below"] 2 (sp__law_reduced ad)) (G__law_stream : GF P w K mg base "_law_stream" ["script"] 1 (sp__law_stream ad)) (G_added : GF P w K mg base "added" ["first", "second"] 3 (sp_added ad)) (G_fraction : GF P w K mg base "fraction" ["top", "below"] 2 (sp_fraction ad)) (G_is_fraction : GF P w K mg base "is_fraction" ["value"] 2 (sp_is_fraction ad)) (G_less : GF P w K mg base "less" ["first", "second"] 1 (sp_less ad)) (G_times : GF P w K mg base "times" ["first", "second"] 3 (sp_times ad)) (G__law_same : GG P w K mg base "_law_same" ["told", "due"] 1 (sp__law_same ad)) (f : Addr) (cdv : Value) (hcv : cdv = .ref c) (A : Around) (outer : List Env) (s : Shared) (H : Hp) (E : XK)
    (hmT : (Pt, (envOfC "law" (defScope s_law) s.heap.objs.size f cdv).qual ++ "<lambda>") ∈ tb) (hu1 : ∀ p ∈ tb, p.1 = Pt → p.2 = (envOfC "law" (defScope s_law) s.heap.objs.size f cdv).qual ++ "<lambda>")
    (hr : Room 5 (A.deeper (envOfC "law" (defScope s_law) s.heap.objs.size f cdv))) (hG : (A.deeper (envOfC "law" (defScope s_law) s.heap.objs.size f cdv)).guards = some []) :
    DB (cxOf (L2N.CX P w) P w K mg base N_law "law" (defScope s_law) f cdv A outer s H E) (defBody s_law) (r_law ad tb ((envOfC "law" (defScope s_law) s.heap.objs.size f cdv).qual ++ "<lambda>")) := by
  have hu := hr.units
  have hu5 := u65 hr
  have hp : PassesOwn (model P w) (A.deeper (envOfC "law" (defScope s_law) s.heap.objs.size f cdv)) (envOfC "law" (defScope s_law) s.heap.objs.size f cdv) (cxOf (L2N.CX P w) P w K mg base N_law "law" (defScope s_law) f cdv A outer s H E).xe := passes_of (X := cxOf (L2N.CX P w) P w K mg base N_law "law" (defScope s_law) f cdv A outer s H E) rfl
  have hcode : (cxOf (L2N.CX P w) P w K mg base N_law "law" (defScope s_law) f cdv A outer s H E).env.code = .ref c := hcv
  have hr0 : Room (3 + 2) (cxOf (L2N.CX P w) P w K mg base N_law "law" (defScope s_law) f cdv A outer s H E).A := hr
  exact (db_cons (ds_set (i := 1) sc_law.nd rfl (Or.inl rfl) (de_lst (da_cons (de_callF G__law_stream (hr.mono (by decide)) rfl (da_cons (de_var 0) da_nil)) (da_cons de_int da_nil))))
    (db_cons (ds_for hp rfl (di_range1 rfl T.n_range (da_cons de_int da_nil)) (dg_name (i := 2) sc_law.nd rfl (Or.inl rfl)) (db_cons (ds_set (i := 4) sc_law.nd rfl (Or.inl rfl) (de_lst da_nil))
    (db_cons (ds_for hp rfl (di_range1 rfl T.n_range (da_cons de_int da_nil)) (dg_name (i := 5) sc_law.nd rfl (Or.inl rfl)) (db_cons (ds_set (i := 6) sc_law.nd rfl (Or.inr rfl) (de_callF G__law_number (hr.mono (by decide)) rfl (da_cons (de_var 1) da_nil)))
    (db_cons (ds_set (i := 7) sc_law.nd rfl (Or.inr rfl) (de_callF G__law_number (hr.mono (by decide)) rfl (da_cons (de_var 1) da_nil)))
    (db_cons (ds_set (i := 8) sc_law.nd rfl (Or.inl rfl) (de_tup (da_cons de_str da_nil)))
    (db_cons (ds_if (dt_cmp (od_ne hu) (de_var 7) de_int (nomark _)) (db_cons (ds_set (i := 8) sc_law.nd rfl (Or.inl rfl) (de_tup (da_cons de_str (da_cons (de_callF G__law_reduced (hr.mono (by decide)) rfl (da_cons (de_var 6) (da_cons (de_var 7) da_nil))) da_nil))))
    (db_one (ds_expr (de_append (de_var 4) (da_cons (de_ix (de_var 8) de_int) da_nil))))) db_nil)
    (db_cons (ds_if (dt_not (dt_truth (de_callGG G__law_same (hr.mono (by decide)) hG rfl (da_cons (de_told (T := tb) (Ng := N__law_told) (qB := r__law_told ad) TL rfl sc__law_told rfl (Or.inl rfl) (fun g2 cdv2 s2 H2 qc2 hr2 hq2 => d__law_told T s2 H2 qc2 hr2 hq2) TB hcode hmT hu1 hr0 (LamX.lamS_by (sc := defScope s_law) (by decide +kernel)) rfl (fun _ _ _ _ _ => rfl)
      (fun A2 outer2 s2 H2 E2 f2 c2 hr => by have hu := hr.units; have hu5 := u65 hr; exact (de_callF G_fraction (hr.mono (by decide)) rfl (da_cons (de_var 6) (da_cons (de_var 7) da_nil))))) (da_cons (de_var 8) da_nil))))) (db_one (ds_ret de_bl)) db_nil)
    (db_one (ds_if (dt_not (dt_truth (de_callGG G__law_same (hr.mono (by decide)) hG rfl (da_cons (de_told (T := tb) (Ng := N__law_told) (qB := r__law_told ad) TL rfl sc__law_told rfl (Or.inl rfl) (fun g2 cdv2 s2 H2 qc2 hr2 hq2 => d__law_told T s2 H2 qc2 hr2 hq2) TB hcode hmT hu1 hr0 (LamX.lamS_by (sc := defScope s_law) (by decide +kernel)) rfl (fun _ _ _ _ _ => rfl)
      (fun A2 outer2 s2 H2 E2 f2 c2 hr => by have hu := hr.units; have hu5 := u65 hr; exact (de_callF G_is_fraction (hr.mono (by decide)) rfl (da_cons (de_tup (da_cons (de_var 6) (da_cons (de_var 7) da_nil))) da_nil)))) (da_cons (de_tup (da_cons de_str (da_cons (de_and (de_cmp od_gt (de_var 7) de_int (nomark _)) (de_one (de_cmp (od_eq hu) (de_callF G__law_common (hr.mono (by decide)) rfl (da_cons (de_var 6) (da_cons (de_var 7) da_nil))) de_int (nomark _)))) da_nil))) da_nil))))) (db_one (ds_ret de_bl)) db_nil))))))))
    (db_one (ds_if (dt_cmp (od_eq hu) (de_callB cd_len rfl T.n_len bb_len (da_cons (de_var 4) da_nil)) de_int (nomark _)) (db_cons (ds_asg (de_var 4) (dg_unp rfl (dgs_cons (dg_name (i := 10) sc_law.nd rfl (Or.inr rfl)) (dgs_cons (dg_name (i := 11) sc_law.nd rfl (Or.inr rfl)) dgs_nil))))
    (db_cons (ds_set (i := 9) sc_law.nd rfl (Or.inl rfl) (de_callF G__law_reduced (hr.mono (by decide)) rfl (da_cons (de_bin od_add (de_bin od_mul (de_ix (de_var 10) de_int) (de_ix (de_var 11) de_int)) (de_bin od_mul (de_ix (de_var 11) de_int) (de_ix (de_var 10) de_int))) (da_cons (de_bin od_mul (de_ix (de_var 10) de_int) (de_ix (de_var 11) de_int)) da_nil))))
    (db_cons (ds_if (dt_not (dt_truth (de_callGG G__law_same (hr.mono (by decide)) hG rfl (da_cons (de_told (T := tb) (Ng := N__law_told) (qB := r__law_told ad) TL rfl sc__law_told rfl (Or.inl rfl) (fun g2 cdv2 s2 H2 qc2 hr2 hq2 => d__law_told T s2 H2 qc2 hr2 hq2) TB hcode hmT hu1 hr0 (LamX.lamS_by (sc := defScope s_law) (by decide +kernel)) rfl (fun _ _ _ _ _ => rfl)
      (fun A2 outer2 s2 H2 E2 f2 c2 hr => by have hu := hr.units; have hu5 := u65 hr; exact (de_callF G_added (hr.mono (by decide)) rfl (da_cons (de_var 10) (da_cons (de_var 11) da_nil))))) (da_cons (de_tup (da_cons de_str (da_cons (de_var 9) da_nil))) da_nil))))) (db_one (ds_ret de_bl)) db_nil)
    (db_cons (ds_if (dt_not (dt_truth (de_callGG G__law_same (hr.mono (by decide)) hG rfl (da_cons (de_told (T := tb) (Ng := N__law_told) (qB := r__law_told ad) TL rfl sc__law_told rfl (Or.inl rfl) (fun g2 cdv2 s2 H2 qc2 hr2 hq2 => d__law_told T s2 H2 qc2 hr2 hq2) TB hcode hmT hu1 hr0 (LamX.lamS_by (sc := defScope s_law) (by decide +kernel)) rfl (fun _ _ _ _ _ => rfl)
      (fun A2 outer2 s2 H2 E2 f2 c2 hr => by have hu := hr.units; have hu5 := u65 hr; exact (de_callF G_times (hr.mono (by decide)) rfl (da_cons (de_var 10) (da_cons (de_var 11) da_nil))))) (da_cons (de_tup (da_cons de_str (da_cons (de_callF G__law_reduced (hr.mono (by decide)) rfl (da_cons (de_bin od_mul (de_ix (de_var 10) de_int) (de_ix (de_var 11) de_int)) (da_cons (de_bin od_mul (de_ix (de_var 10) de_int) (de_ix (de_var 11) de_int)) da_nil))) da_nil))) da_nil))))) (db_one (ds_ret de_bl)) db_nil)
    (db_one (ds_for hp rfl (di_seq (de_lst (da_cons (de_tup (da_cons (de_var 10) (da_cons (de_var 11) da_nil))) (da_cons (de_tup (da_cons (de_var 11) (da_cons (de_var 10) da_nil))) (da_cons (de_tup (da_cons (de_var 10) (da_cons (de_var 10) da_nil))) da_nil))))) (dg_unp rfl (dgs_cons (dg_name (i := 12) sc_law.nd rfl (Or.inr rfl)) (dgs_cons (dg_name (i := 13) sc_law.nd rfl (Or.inr rfl)) dgs_nil))) (db_one (ds_if (dt_not (dt_truth (de_callGG G__law_same (hr.mono (by decide)) hG rfl (da_cons (de_told (T := tb) (Ng := N__law_told) (qB := r__law_told ad) TL rfl sc__law_told rfl (Or.inl rfl) (fun g2 cdv2 s2 H2 qc2 hr2 hq2 => d__law_told T s2 H2 qc2 hr2 hq2) TB hcode hmT hu1 hr0 (LamX.lamS_by (sc := defScope s_law) (by decide +kernel)) rfl (fun _ _ _ _ _ => rfl)
      (fun A2 outer2 s2 H2 E2 f2 c2 hr => by have hu := hr.units; have hu5 := u65 hr; exact (de_callF G_less (hr.mono (by decide)) rfl (da_cons (de_var 12) (da_cons (de_var 13) da_nil))))) (da_cons (de_tup (da_cons de_str (da_cons (de_cmp od_lt (de_bin od_mul (de_ix (de_var 12) de_int) (de_ix (de_var 13) de_int)) (de_bin od_mul (de_ix (de_var 13) de_int) (de_ix (de_var 12) de_int)) (nomark _)) da_nil))) da_nil))))) (db_one (ds_ret de_bl)) db_nil)))))))) db_nil)))))
    (db_cons (ds_for hp rfl (di_seq (de_lst (da_cons (de_tup (da_cons de_int (da_cons de_int da_nil))) (da_cons (de_tup (da_cons de_int (da_cons de_int da_nil))) (da_cons (de_tup (da_cons de_int (da_cons (de_neg de_int) da_nil))) (da_cons (de_tup (da_cons de_int (da_cons de_int (da_cons de_int da_nil)))) (da_cons (de_tup (da_cons de_int da_nil)) (da_cons (de_tup (da_cons de_int (da_cons de_int da_nil))) (da_cons (de_tup (da_cons de_int (da_cons de_int da_nil))) da_nil))))))))) (dg_name (i := 3) sc_law.nd rfl (Or.inr rfl)) (db_one (ds_if (dt_not (dt_truth (de_callGG G__law_same (hr.mono (by decide)) hG rfl (da_cons (de_told (T := tb) (Ng := N__law_told) (qB := r__law_told ad) TL rfl sc__law_told rfl (Or.inl rfl) (fun g2 cdv2 s2 H2 qc2 hr2 hq2 => d__law_told T s2 H2 qc2 hr2 hq2) TB hcode hmT hu1 hr0 (LamX.lamS_by (sc := defScope s_law) (by decide +kernel)) rfl (fun _ _ _ _ _ => rfl)
      (fun A2 outer2 s2 H2 E2 f2 c2 hr => by have hu := hr.units; have hu5 := u65 hr; exact (de_callF G_is_fraction (hr.mono (by decide)) rfl (da_cons (de_var 3) da_nil)))) (da_cons (de_tup (da_cons de_str (da_cons (de_cmp (od_in hu5) (de_var 3) (de_lst (da_cons (de_tup (da_cons de_int (da_cons de_int da_nil))) (da_cons (de_tup (da_cons de_int (da_cons de_int da_nil))) da_nil))) (by rfl)) da_nil))) da_nil))))) (db_one (ds_ret de_bl)) db_nil)))
    (db_one (ds_ret de_bl)))))
end
end K01

namespace K01
open PySem PySem.Spec PyProof.Rows L2 PL
variable {ad : Ad}
theorem gcd_abs (a b : Int) : Int.gcd (if a < 0 then -a else a) (if b < 0 then -b else b) = Int.gcd a b := by
  split <;> split <;> simp
theorem gcd_mod {a b : Int} (ha : 0 ≤ a) (h : 0 < b) : Int.gcd b (a.fmod b) = Int.gcd a b := by
  obtain ⟨m, rfl⟩ := Int.eq_ofNat_of_zero_le ha
  obtain ⟨n, rfl⟩ := Int.eq_ofNat_of_zero_le (Int.le_of_lt h)
  rw [Int.fmod_eq_emod_of_nonneg _ (by omega)]
  show Nat.gcd n ((m : Int) % (n : Int)).natAbs = Nat.gcd m n
  rw [← Int.natCast_emod, Int.natAbs_natCast, Nat.gcd_comm m n, Nat.gcd_rec n m, Nat.gcd_comm]
theorem fmod_pos {a b : Int} (h : 0 < b) : 0 ≤ a.fmod b ∧ a.fmod b < b := ⟨Int.fmod_nonneg_of_pos a h, Int.fmod_lt_of_pos a h⟩
theorem Sm.lg {b : Int} (h : Sm b) : Lg b := Nat.lt_of_lt_of_le (log_of (k := 60) (by unfold Sm at h; omega) (by decide)) (by decide)
theorem Sm.natAbs {b : Int} (h : Sm b) : b.natAbs < 2 ^ 60 := by unfold Sm at h; omega
theorem Sm.lg2 {b d : Int} (h : Sm b) (k : Sm d) : Lg (b * d) := by
  refine Nat.lt_of_lt_of_le (log_of (k := 120) ?_ (by decide)) (by decide)
  rw [Int.natAbs_mul]
  have := Nat.mul_lt_mul'' h.natAbs k.natAbs
  exact this
theorem Sm.mul {a b : Int} (h : Sm a) : IntMulOk a b := CMul.ok (.inl (by unfold Sm at h; omega))
theorem mulR {a b : Int} (h : -1000000000000 < b ∧ b < 1000000000000) : IntMulOk a b := CMul.ok (.inr (by omega))
theorem divA {b : Int} (h : b ≠ 0) (k : Lg b) (a : Int) : CDivA a (Int.gcd a b) ∧ CDivA a (-(Int.gcd a b : Int)) := by
  have h1 : Int.gcd a b ≠ 0 := Int.gcd_ne_zero_right h
  have h2 : Int.gcd a b ≤ b.natAbs := Int.gcd_le_natAbs_right a h
  have h3 : (Int.gcd a b).log2 < 9000 := by
    unfold Lg at k
    exact (Nat.log2_lt h1).mpr (Nat.lt_of_le_of_lt h2 ((Nat.log2_lt (by omega)).mp (by omega)))
  exact ⟨⟨by omega, by simpa using h3⟩, ⟨by omega, by simpa using h3⟩⟩
/-- a part by a divisor is no greater -/
theorem part_le {a g : Int} (hg : g ≠ 0) (h : g ∣ a) : (a.fdiv g).natAbs ≤ a.natAbs ∧ g * a.fdiv g = a := by
  obtain ⟨c, rfl⟩ := h
  rw [Int.mul_fdiv_cancel_left _ hg]
  refine ⟨?_, rfl⟩
  rw [Int.natAbs_mul]
  exact Nat.le_mul_of_pos_left _ (by omega)
theorem redF_ok {a b : Int} (hb : b ≠ 0) : (redF a b).1.natAbs ≤ a.natAbs ∧ (redF a b).2.natAbs ≤ b.natAbs ∧ (redF a b).2 ≠ 0 := by
  have h1 : (Int.gcd a b : Int) ≠ 0 := by
    have := Int.gcd_ne_zero_right (a := a) hb
    omega
  have d1 : (Int.gcd a b : Int) ∣ a := Int.gcd_dvd_left a b
  have d2 : (Int.gcd a b : Int) ∣ b := Int.gcd_dvd_right a b
  unfold redF
  dsimp only
  split
  · refine ⟨(part_le (by omega) (Int.neg_dvd.mpr d1)).1, (part_le (by omega) (Int.neg_dvd.mpr d2)).1, fun z => ?_⟩
    have := (part_le (g := -(Int.gcd a b : Int)) (by omega) (Int.neg_dvd.mpr d2)).2
    rw [z] at this
    omega
  · refine ⟨(part_le h1 d1).1, (part_le h1 d2).1, fun z => ?_⟩
    have := (part_le h1 d2).2
    rw [z] at this
    omega
theorem redF_sm {a b : Int} (hb : b ≠ 0) (ha : Sm a) (h : Sm b) : Sm (redF a b).1 ∧ Sm (redF a b).2 ∧ (redF a b).2 ≠ 0 := by
  obtain ⟨h1, h2, h3⟩ := redF_ok (a := a) hb
  unfold Sm at *
  exact ⟨by omega, by omega, h3⟩
theorem p_divisor : ∀ ds S Q E, sp_divisor ad ds S Q E → r_divisor ad (endsF Q E) (startD N_divisor ds) S := by
  rintro ds S Q E ⟨a, b, rfl, hq⟩
  simp only [r_divisor, r_divisor_b1, sSeq, sNext, sBreak, sCont, sDrop, sRet, sRetN, sIf, sSet, sPar, sAsg, sRaise, gN, gE, gC, gU, gS, qVar, qC, qBin, qTB, qChain, qNot, qAnd, qOr, bd_bl, qNotT, qAndT, qOrT, qTru, tru_non, tru_bl, tru_int, tru_str, tru_tup, tru_rol, tru_ref, qIf, qNil, qCons, qTup, qLst, qCB, cInt_i, cInt2_ii, cToInt_i, cToInt_b, cLen_s, cLen_t, cLen_r, cLen_l, cTuple_t, cTuple_r, cTuple_l, cList_t, cList_r, cList_l, qNeg, oI_ii, oAdd_ii, oSub, oMul, oDiv, oMod, oPow, oEq, oNe, oEqW_ii, oEqW_ss, oEqW_bb, oLt, oLe, oGt, oGe, oOrd_ii, oOrd_ss, oIx_t, oIx_r, oIx_l, oIx_s, qNo, qPart, qSl, oSl_t, oSl_r, oSl_l, oSl_s, qMeth, mAppend_1, iSeq, iRange1, iRange2, qCall, endsF, startD, List.map_cons, List.map_nil, List.length_cons, List.length_nil, List.length_map, List.cons_append, List.nil_append, List.replicate, List.getElem?_cons_zero, List.getElem?_cons_succ, List.set_cons_zero, List.set_cons_succ, Nat.reduceAdd, Nat.reduceSub, if_true, if_false, id, ups_same, ex_lst, ex_lst2, ex_some, atI_0, atI_1, atI_2, atI_3, ixN_0, ixN_1, ixN_21]
  refine ⟨fun m loc S' => ∃ x y : Int, loc = [some (.int x), some (.int y)] ∧ S' = S ∧ 0 ≤ x ∧ 0 ≤ y ∧ m = y.toNat ∧ Int.gcd x y = Int.gcd a b, ⟨_, _, _, rfl, rfl, ?_, ?_, rfl, gcd_abs a b⟩, ?_⟩
  · split <;> omega
  · split <;> omega
  · rintro m loc S' ⟨x, y, rfl, rfl, hx, hy, rfl, hg⟩
    simp only [sSeq, sNext, sBreak, sCont, sDrop, sRet, sRetN, sIf, sSet, sPar, sAsg, sRaise, gN, gE, gC, gU, gS, qVar, qC, qBin, qTB, qChain, qNot, qAnd, qOr, bd_bl, qNotT, qAndT, qOrT, qTru, tru_non, tru_bl, tru_int, tru_str, tru_tup, tru_rol, tru_ref, qIf, qNil, qCons, qTup, qLst, qCB, cInt_i, cInt2_ii, cToInt_i, cToInt_b, cLen_s, cLen_t, cLen_r, cLen_l, cTuple_t, cTuple_r, cTuple_l, cList_t, cList_r, cList_l, qNeg, oI_ii, oAdd_ii, oSub, oMul, oDiv, oMod, oPow, oEq, oNe, oEqW_ii, oEqW_ss, oEqW_bb, oLt, oLe, oGt, oGe, oOrd_ii, oOrd_ss, oIx_t, oIx_r, oIx_l, oIx_s, qNo, qPart, qSl, oSl_t, oSl_r, oSl_l, oSl_s, qMeth, mAppend_1, iSeq, iRange1, iRange2, qCall, endsF, startD, List.map_cons, List.map_nil, List.length_cons, List.length_nil, List.length_map, List.cons_append, List.nil_append, List.replicate, List.getElem?_cons_zero, List.getElem?_cons_succ, List.set_cons_zero, List.set_cons_succ, Nat.reduceAdd, Nat.reduceSub, if_true, if_false, id, ups_same, ex_lst, ex_lst2, ex_some, atI_0, atI_1, atI_2, atI_3, ixN_0, ixN_1, ixN_21]
    by_cases h : 0 < y
    · rw [if_pos (decide_eq_true h)]
      have := fmod_pos (a := x) h
      exact ⟨by omega, _, by omega, _, _, rfl, trivial, by omega, by omega, rfl, (gcd_mod hx h).trans hg⟩
    · rw [if_neg (by simpa using h)]
      obtain rfl : y = 0 := by omega
      refine ⟨S', Sub.refl _, ?_⟩
      rw [← hg] at hq
      have : ((Int.gcd x 0 : Nat) : Int) = x := by simp; omega
      rw [this] at hq
      exact hq
theorem max_neg (a : Int) : (if 0 - a > a then 0 - a else a) = if a < 0 then -a else a := by split <;> split <;> omega
theorem p__law_common : ∀ ds S Q E, sp__law_common ad ds S Q E → r__law_common ad (endsF Q E) (startD N__law_common ds) S := by
  rintro ds S Q E ⟨a, b, rfl, hq⟩
  simp only [r__law_common, r__law_common_b1, sSeq, sNext, sBreak, sCont, sDrop, sRet, sRetN, sIf, sSet, sPar, sAsg, sRaise, gN, gE, gC, gU, gS, qVar, qC, qBin, qTB, qChain, qNot, qAnd, qOr, bd_bl, qNotT, qAndT, qOrT, qTru, tru_non, tru_bl, tru_int, tru_str, tru_tup, tru_rol, tru_ref, qIf, qNil, qCons, qTup, qLst, qCB, cInt_i, cInt2_ii, cToInt_i, cToInt_b, cLen_s, cLen_t, cLen_r, cLen_l, cTuple_t, cTuple_r, cTuple_l, cList_t, cList_r, cList_l, qNeg, oI_ii, oAdd_ii, oSub, oMul, oDiv, oMod, oPow, oEq, oNe, oEqW_ii, oEqW_ss, oEqW_bb, oLt, oLe, oGt, oGe, oOrd_ii, oOrd_ss, oIx_t, oIx_r, oIx_l, oIx_s, qNo, qPart, qSl, oSl_t, oSl_r, oSl_l, oSl_s, qMeth, mAppend_1, iSeq, iRange1, iRange2, qCall, endsF, startD, List.map_cons, List.map_nil, List.length_cons, List.length_nil, List.length_map, List.cons_append, List.nil_append, List.replicate, List.getElem?_cons_zero, List.getElem?_cons_succ, List.set_cons_zero, List.set_cons_succ, Nat.reduceAdd, Nat.reduceSub, if_true, if_false, id, ups_same, ex_lst, ex_lst2, ex_some, atI_0, atI_1, atI_2, atI_3, ixN_0, ixN_1, ixN_21, max_neg, true_and]
  refine ⟨fun m loc S' => ∃ x y : Int, loc = [some (.int x), some (.int y)] ∧ S' = S ∧ 0 ≤ x ∧ 0 ≤ y ∧ m = y.toNat ∧ Int.gcd x y = Int.gcd a b, ⟨_, _, _, rfl, rfl, ?_, ?_, rfl, gcd_abs a b⟩, ?_⟩
  · split <;> omega
  · split <;> omega
  · rintro m loc S' ⟨x, y, rfl, rfl, hx, hy, rfl, hg⟩
    simp only [sSeq, sNext, sBreak, sCont, sDrop, sRet, sRetN, sIf, sSet, sPar, sAsg, sRaise, gN, gE, gC, gU, gS, qVar, qC, qBin, qTB, qChain, qNot, qAnd, qOr, bd_bl, qNotT, qAndT, qOrT, qTru, tru_non, tru_bl, tru_int, tru_str, tru_tup, tru_rol, tru_ref, qIf, qNil, qCons, qTup, qLst, qCB, cInt_i, cInt2_ii, cToInt_i, cToInt_b, cLen_s, cLen_t, cLen_r, cLen_l, cTuple_t, cTuple_r, cTuple_l, cList_t, cList_r, cList_l, qNeg, oI_ii, oAdd_ii, oSub, oMul, oDiv, oMod, oPow, oEq, oNe, oEqW_ii, oEqW_ss, oEqW_bb, oLt, oLe, oGt, oGe, oOrd_ii, oOrd_ss, oIx_t, oIx_r, oIx_l, oIx_s, qNo, qPart, qSl, oSl_t, oSl_r, oSl_l, oSl_s, qMeth, mAppend_1, iSeq, iRange1, iRange2, qCall, endsF, startD, List.map_cons, List.map_nil, List.length_cons, List.length_nil, List.length_map, List.cons_append, List.nil_append, List.replicate, List.getElem?_cons_zero, List.getElem?_cons_succ, List.set_cons_zero, List.set_cons_succ, Nat.reduceAdd, Nat.reduceSub, if_true, if_false, id, ups_same, ex_lst, ex_lst2, ex_some, atI_0, atI_1, atI_2, atI_3, ixN_0, ixN_1, ixN_21]
    by_cases h : 0 < y
    · rw [if_pos (decide_eq_true h)]
      have := fmod_pos (a := x) h
      exact ⟨by omega, _, by omega, _, _, rfl, trivial, by omega, by omega, rfl, (gcd_mod hx h).trans hg⟩
    · rw [if_neg (by simpa using h)]
      obtain rfl : y = 0 := by omega
      refine ⟨S', Sub.refl _, ?_⟩
      rw [← hg] at hq
      have : ((Int.gcd x 0 : Nat) : Int) = x := by simp; omega
      rw [this] at hq
      exact hq
theorem sz2 : (2 : Nat) ≤ sizeLine := by decide
theorem p_fraction : ∀ ds S Q E, sp_fraction ad ds S Q E → r_fraction ad (endsF Q E) (startD N_fraction ds) S := by
  rintro ds S Q E ⟨a, b, rfl, hl, h0, h1⟩
  simp only [r_fraction, sp_divisor, sSeq, sNext, sBreak, sCont, sDrop, sRet, sRetN, sIf, sSet, sPar, sAsg, sRaise, gN, gE, gC, gU, gS, qVar, qC, qBin, qTB, qChain, qNot, qAnd, qOr, bd_bl, qNotT, qAndT, qOrT, qTru, tru_non, tru_bl, tru_int, tru_str, tru_tup, tru_rol, tru_ref, qIf, qNil, qCons, qTup, qLst, qCB, cInt_i, cInt2_ii, cToInt_i, cToInt_b, cLen_s, cLen_t, cLen_r, cLen_l, cTuple_t, cTuple_r, cTuple_l, cList_t, cList_r, cList_l, qNeg, oI_ii, oAdd_ii, oSub, oMul, oDiv, oMod, oPow, oEq, oNe, oEqW_ii, oEqW_ss, oEqW_bb, oLt, oLe, oGt, oGe, oOrd_ii, oOrd_ss, oIx_t, oIx_r, oIx_l, oIx_s, qNo, qPart, qSl, oSl_t, oSl_r, oSl_l, oSl_s, qMeth, mAppend_1, iSeq, iRange1, iRange2, qCall, endsF, startD, List.map_cons, List.map_nil, List.length_cons, List.length_nil, List.length_map, List.cons_append, List.nil_append, List.replicate, List.getElem?_cons_zero, List.getElem?_cons_succ, List.set_cons_zero, List.set_cons_succ, Nat.reduceAdd, Nat.reduceSub, if_true, if_false, id, ups_same, ex_lst, ex_lst2, ex_some, atI_0, atI_1, atI_2, atI_3, ixN_0, ixN_1, ixN_21]
  by_cases hb : b = 0
  · rw [if_pos (decide_eq_true hb)]
    exact ⟨S, Sub.refl _, h0 hb⟩
  · rw [if_neg (by simpa using hb)]
    refine ⟨a, b, rfl, ?_⟩
    have hd := divA hb hl a
    by_cases hn : b < 0
    · rw [if_pos (decide_eq_true hn)]
      have q := h1 hb
      unfold redD redF at q
      simp only [if_pos hn] at q
      exact ⟨hd.2, hd.2, sz2, S, Sub.refl _, q⟩
    · rw [if_neg (by simpa using hn)]
      have q := h1 hb
      unfold redD redF at q
      simp only [if_neg hn] at q
      exact ⟨hd.1, hd.1, sz2, S, Sub.refl _, q⟩
theorem p__law_reduced : ∀ ds S Q E, sp__law_reduced ad ds S Q E → r__law_reduced ad (endsF Q E) (startD N__law_reduced ds) S := by
  rintro ds S Q E ⟨a, b, rfl, hl, hb, q⟩
  simp only [r__law_reduced, sp__law_common, sp_divisor, sSeq, sNext, sBreak, sCont, sDrop, sRet, sRetN, sIf, sSet, sPar, sAsg, sRaise, gN, gE, gC, gU, gS, qVar, qC, qBin, qTB, qChain, qNot, qAnd, qOr, bd_bl, qNotT, qAndT, qOrT, qTru, tru_non, tru_bl, tru_int, tru_str, tru_tup, tru_rol, tru_ref, qIf, qNil, qCons, qTup, qLst, qCB, cInt_i, cInt2_ii, cToInt_i, cToInt_b, cLen_s, cLen_t, cLen_r, cLen_l, cTuple_t, cTuple_r, cTuple_l, cList_t, cList_r, cList_l, qNeg, oI_ii, oAdd_ii, oSub, oMul, oDiv, oMod, oPow, oEq, oNe, oEqW_ii, oEqW_ss, oEqW_bb, oLt, oLe, oGt, oGe, oOrd_ii, oOrd_ss, oIx_t, oIx_r, oIx_l, oIx_s, qNo, qPart, qSl, oSl_t, oSl_r, oSl_l, oSl_s, qMeth, mAppend_1, iSeq, iRange1, iRange2, qCall, endsF, startD, List.map_cons, List.map_nil, List.length_cons, List.length_nil, List.length_map, List.cons_append, List.nil_append, List.replicate, List.getElem?_cons_zero, List.getElem?_cons_succ, List.set_cons_zero, List.set_cons_succ, Nat.reduceAdd, Nat.reduceSub, if_true, if_false, id, ups_same, ex_lst, ex_lst2, ex_some, atI_0, atI_1, atI_2, atI_3, ixN_0, ixN_1, ixN_21]
  refine ⟨a, b, rfl, ?_⟩
  have hd := divA hb hl a
  unfold redD redF at q
  by_cases hn : b < 0
  · rw [if_pos (decide_eq_true hn)]
    simp only [if_pos hn] at q
    rw [show (0 : Int) - (Int.gcd a b : Int) = -(Int.gcd a b : Int) by omega]
    exact ⟨trivial, hd.2, hd.2, sz2, S, Sub.refl _, q⟩
  · rw [if_neg (by simpa using hn)]
    simp only [if_neg hn] at q
    exact ⟨hd.1, hd.1, sz2, S, Sub.refl _, q⟩
theorem p_is_fraction : ∀ ds S Q E, sp_is_fraction ad ds S Q E → r_is_fraction ad (endsF Q E) (startD N_is_fraction ds) S := by
  rintro ds S Q E ⟨xs, rfl, q⟩
  match xs, q with
  | [], q =>
    simp only [r_is_fraction, sp_divisor, sSeq, sNext, sBreak, sCont, sDrop, sRet, sRetN, sIf, sSet, sPar, sAsg, sRaise, gN, gE, gC, gU, gS, qVar, qC, qBin, qTB, qChain, qNot, qAnd, qOr, bd_bl, qNotT, qAndT, qOrT, qTru, tru_non, tru_bl, tru_int, tru_str, tru_tup, tru_rol, tru_ref, qIf, qNil, qCons, qTup, qLst, qCB, cInt_i, cInt2_ii, cToInt_i, cToInt_b, cLen_s, cLen_t, cLen_r, cLen_l, cTuple_t, cTuple_r, cTuple_l, cList_t, cList_r, cList_l, qNeg, oI_ii, oAdd_ii, oSub, oMul, oDiv, oMod, oPow, oEq, oNe, oEqW_ii, oEqW_ss, oEqW_bb, oLt, oLe, oGt, oGe, oOrd_ii, oOrd_ss, oIx_t, oIx_r, oIx_l, oIx_s, qNo, qPart, qSl, oSl_t, oSl_r, oSl_l, oSl_s, qMeth, mAppend_1, iSeq, iRange1, iRange2, qCall, endsF, startD, List.map_cons, List.map_nil, List.length_cons, List.length_nil, List.length_map, List.cons_append, List.nil_append, List.replicate, List.getElem?_cons_zero, List.getElem?_cons_succ, List.set_cons_zero, List.set_cons_succ, Nat.reduceAdd, Nat.reduceSub, if_true, if_false, id, ups_same, ex_lst, ex_lst2, ex_some, atI_0, atI_1, atI_2, atI_3, ixN_0, ixN_1, ixN_21]
    exact ⟨S, Sub.refl _, q⟩
  | [a], q =>
    simp only [r_is_fraction, sp_divisor, sSeq, sNext, sBreak, sCont, sDrop, sRet, sRetN, sIf, sSet, sPar, sAsg, sRaise, gN, gE, gC, gU, gS, qVar, qC, qBin, qTB, qChain, qNot, qAnd, qOr, bd_bl, qNotT, qAndT, qOrT, qTru, tru_non, tru_bl, tru_int, tru_str, tru_tup, tru_rol, tru_ref, qIf, qNil, qCons, qTup, qLst, qCB, cInt_i, cInt2_ii, cToInt_i, cToInt_b, cLen_s, cLen_t, cLen_r, cLen_l, cTuple_t, cTuple_r, cTuple_l, cList_t, cList_r, cList_l, qNeg, oI_ii, oAdd_ii, oSub, oMul, oDiv, oMod, oPow, oEq, oNe, oEqW_ii, oEqW_ss, oEqW_bb, oLt, oLe, oGt, oGe, oOrd_ii, oOrd_ss, oIx_t, oIx_r, oIx_l, oIx_s, qNo, qPart, qSl, oSl_t, oSl_r, oSl_l, oSl_s, qMeth, mAppend_1, iSeq, iRange1, iRange2, qCall, endsF, startD, List.map_cons, List.map_nil, List.length_cons, List.length_nil, List.length_map, List.cons_append, List.nil_append, List.replicate, List.getElem?_cons_zero, List.getElem?_cons_succ, List.set_cons_zero, List.set_cons_succ, Nat.reduceAdd, Nat.reduceSub, if_true, if_false, id, ups_same, ex_lst, ex_lst2, ex_some, atI_0, atI_1, atI_2, atI_3, ixN_0, ixN_1, ixN_21]
    exact ⟨S, Sub.refl _, q⟩
  | [a, b], q =>
    simp only [r_is_fraction, sp_divisor, sSeq, sNext, sBreak, sCont, sDrop, sRet, sRetN, sIf, sSet, sPar, sAsg, sRaise, gN, gE, gC, gU, gS, qVar, qC, qBin, qTB, qChain, qNot, qAnd, qOr, bd_bl, qNotT, qAndT, qOrT, qTru, tru_non, tru_bl, tru_int, tru_str, tru_tup, tru_rol, tru_ref, qIf, qNil, qCons, qTup, qLst, qCB, cInt_i, cInt2_ii, cToInt_i, cToInt_b, cLen_s, cLen_t, cLen_r, cLen_l, cTuple_t, cTuple_r, cTuple_l, cList_t, cList_r, cList_l, qNeg, oI_ii, oAdd_ii, oSub, oMul, oDiv, oMod, oPow, oEq, oNe, oEqW_ii, oEqW_ss, oEqW_bb, oLt, oLe, oGt, oGe, oOrd_ii, oOrd_ss, oIx_t, oIx_r, oIx_l, oIx_s, qNo, qPart, qSl, oSl_t, oSl_r, oSl_l, oSl_s, qMeth, mAppend_1, iSeq, iRange1, iRange2, qCall, endsF, startD, List.map_cons, List.map_nil, List.length_cons, List.length_nil, List.length_map, List.cons_append, List.nil_append, List.replicate, List.getElem?_cons_zero, List.getElem?_cons_succ, List.set_cons_zero, List.set_cons_succ, Nat.reduceAdd, Nat.reduceSub, if_true, if_false, id, ups_same, ex_lst, ex_lst2, ex_some, atI_0, atI_1, atI_2, atI_3, ixN_0, ixN_1, ixN_21]
    refine ifT rfl ?_
    have q : Q (.bl (decide (1 ≤ b) && decide ((Int.gcd a b : Int) = 1))) S := q
    by_cases h : 1 ≤ b
    · rw [decide_eq_true h, Bool.true_and] at q
      exact ifT (decide_eq_true h) ⟨a, b, rfl, S, Sub.refl _, q⟩
    · rw [decide_eq_false h, Bool.false_and] at q
      exact ifF (decide_eq_false h) ⟨S, Sub.refl _, q⟩
  | a :: b :: c :: r, q =>
    simp only [r_is_fraction, sp_divisor, sSeq, sNext, sBreak, sCont, sDrop, sRet, sRetN, sIf, sSet, sPar, sAsg, sRaise, gN, gE, gC, gU, gS, qVar, qC, qBin, qTB, qChain, qNot, qAnd, qOr, bd_bl, qNotT, qAndT, qOrT, qTru, tru_non, tru_bl, tru_int, tru_str, tru_tup, tru_rol, tru_ref, qIf, qNil, qCons, qTup, qLst, qCB, cInt_i, cInt2_ii, cToInt_i, cToInt_b, cLen_s, cLen_t, cLen_r, cLen_l, cTuple_t, cTuple_r, cTuple_l, cList_t, cList_r, cList_l, qNeg, oI_ii, oAdd_ii, oSub, oMul, oDiv, oMod, oPow, oEq, oNe, oEqW_ii, oEqW_ss, oEqW_bb, oLt, oLe, oGt, oGe, oOrd_ii, oOrd_ss, oIx_t, oIx_r, oIx_l, oIx_s, qNo, qPart, qSl, oSl_t, oSl_r, oSl_l, oSl_s, qMeth, mAppend_1, iSeq, iRange1, iRange2, qCall, endsF, startD, List.map_cons, List.map_nil, List.length_cons, List.length_nil, List.length_map, List.cons_append, List.nil_append, List.replicate, List.getElem?_cons_zero, List.getElem?_cons_succ, List.set_cons_zero, List.set_cons_succ, Nat.reduceAdd, Nat.reduceSub, if_true, if_false, id, ups_same, ex_lst, ex_lst2, ex_some, atI_0, atI_1, atI_2, atI_3, ixN_0, ixN_1, ixN_21]
    rw [if_neg (by simp; omega)]
    exact ⟨S, Sub.refl _, q⟩
theorem p_added : ∀ ds S Q E, sp_added ad ds S Q E → r_added ad (endsF Q E) (startD N_added ds) S := by
  rintro ds S Q E ⟨a, b, c, d, rfl, ha, hb, hc, hd, h0, q⟩
  simp only [r_added, sp_fraction, sSeq, sNext, sBreak, sCont, sDrop, sRet, sRetN, sIf, sSet, sPar, sAsg, sRaise, gN, gE, gC, gU, gS, qVar, qC, qBin, qTB, qChain, qNot, qAnd, qOr, bd_bl, qNotT, qAndT, qOrT, qTru, tru_non, tru_bl, tru_int, tru_str, tru_tup, tru_rol, tru_ref, qIf, qNil, qCons, qTup, qLst, qCB, cInt_i, cInt2_ii, cToInt_i, cToInt_b, cLen_s, cLen_t, cLen_r, cLen_l, cTuple_t, cTuple_r, cTuple_l, cList_t, cList_r, cList_l, qNeg, oI_ii, oAdd_ii, oSub, oMul, oDiv, oMod, oPow, oEq, oNe, oEqW_ii, oEqW_ss, oEqW_bb, oLt, oLe, oGt, oGe, oOrd_ii, oOrd_ss, oIx_t, oIx_r, oIx_l, oIx_s, qNo, qPart, qSl, oSl_t, oSl_r, oSl_l, oSl_s, qMeth, mAppend_1, iSeq, iRange1, iRange2, qCall, endsF, startD, List.map_cons, List.map_nil, List.length_cons, List.length_nil, List.length_map, List.cons_append, List.nil_append, List.replicate, List.getElem?_cons_zero, List.getElem?_cons_succ, List.set_cons_zero, List.set_cons_succ, Nat.reduceAdd, Nat.reduceSub, if_true, if_false, id, ups_same, ex_lst, ex_lst2, ex_some, atI_0, atI_1, atI_2, atI_3, ixN_0, ixN_1, ixN_21]
  exact ⟨ha.mul, hc.mul, hb.mul, _, _, rfl, hb.lg2 hd, fun z => absurd z h0, fun _ => ⟨S, Sub.refl _, q⟩⟩
theorem p_times : ∀ ds S Q E, sp_times ad ds S Q E → r_times ad (endsF Q E) (startD N_times ds) S := by
  rintro ds S Q E ⟨a, b, c, d, rfl, ha, hb, hc, hd, h0, q⟩
  simp only [r_times, sp_fraction, sSeq, sNext, sBreak, sCont, sDrop, sRet, sRetN, sIf, sSet, sPar, sAsg, sRaise, gN, gE, gC, gU, gS, qVar, qC, qBin, qTB, qChain, qNot, qAnd, qOr, bd_bl, qNotT, qAndT, qOrT, qTru, tru_non, tru_bl, tru_int, tru_str, tru_tup, tru_rol, tru_ref, qIf, qNil, qCons, qTup, qLst, qCB, cInt_i, cInt2_ii, cToInt_i, cToInt_b, cLen_s, cLen_t, cLen_r, cLen_l, cTuple_t, cTuple_r, cTuple_l, cList_t, cList_r, cList_l, qNeg, oI_ii, oAdd_ii, oSub, oMul, oDiv, oMod, oPow, oEq, oNe, oEqW_ii, oEqW_ss, oEqW_bb, oLt, oLe, oGt, oGe, oOrd_ii, oOrd_ss, oIx_t, oIx_r, oIx_l, oIx_s, qNo, qPart, qSl, oSl_t, oSl_r, oSl_l, oSl_s, qMeth, mAppend_1, iSeq, iRange1, iRange2, qCall, endsF, startD, List.map_cons, List.map_nil, List.length_cons, List.length_nil, List.length_map, List.cons_append, List.nil_append, List.replicate, List.getElem?_cons_zero, List.getElem?_cons_succ, List.set_cons_zero, List.set_cons_succ, Nat.reduceAdd, Nat.reduceSub, if_true, if_false, id, ups_same, ex_lst, ex_lst2, ex_some, atI_0, atI_1, atI_2, atI_3, ixN_0, ixN_1, ixN_21]
  exact ⟨ha.mul, hb.mul, _, _, rfl, hb.lg2 hd, fun z => absurd z h0, fun _ => ⟨S, Sub.refl _, q⟩⟩
theorem p_less : ∀ ds S Q E, sp_less ad ds S Q E → r_less ad (endsF Q E) (startD N_less ds) S := by
  rintro ds S Q E ⟨a, b, c, d, rfl, ha, hb, hc, hd, q⟩
  simp only [r_less, sSeq, sNext, sBreak, sCont, sDrop, sRet, sRetN, sIf, sSet, sPar, sAsg, sRaise, gN, gE, gC, gU, gS, qVar, qC, qBin, qTB, qChain, qNot, qAnd, qOr, bd_bl, qNotT, qAndT, qOrT, qTru, tru_non, tru_bl, tru_int, tru_str, tru_tup, tru_rol, tru_ref, qIf, qNil, qCons, qTup, qLst, qCB, cInt_i, cInt2_ii, cToInt_i, cToInt_b, cLen_s, cLen_t, cLen_r, cLen_l, cTuple_t, cTuple_r, cTuple_l, cList_t, cList_r, cList_l, qNeg, oI_ii, oAdd_ii, oSub, oMul, oDiv, oMod, oPow, oEq, oNe, oEqW_ii, oEqW_ss, oEqW_bb, oLt, oLe, oGt, oGe, oOrd_ii, oOrd_ss, oIx_t, oIx_r, oIx_l, oIx_s, qNo, qPart, qSl, oSl_t, oSl_r, oSl_l, oSl_s, qMeth, mAppend_1, iSeq, iRange1, iRange2, qCall, endsF, startD, List.map_cons, List.map_nil, List.length_cons, List.length_nil, List.length_map, List.cons_append, List.nil_append, List.replicate, List.getElem?_cons_zero, List.getElem?_cons_succ, List.set_cons_zero, List.set_cons_succ, Nat.reduceAdd, Nat.reduceSub, if_true, if_false, id, ups_same, ex_lst, ex_lst2, ex_some, atI_0, atI_1, atI_2, atI_3, ixN_0, ixN_1, ixN_21]
  exact ⟨ha.mul, hc.mul, S, Sub.refl _, q⟩
theorem sz1 : (1 : Nat) ≤ sizeLine := by decide
theorem p__law_same : ∀ ds S Q E, sp__law_same ad ds S Q E → r__law_same ad (endsF Q E) (startD N__law_same ds) S := by
  rintro ds S Q E ⟨a, b, p, rfl, ha, hb, hg, q⟩
  simp only [r__law_same, cRepr, sSeq, sNext, sBreak, sCont, sDrop, sRet, sRetN, sIf, sSet, sPar, sAsg, sRaise, gN, gE, gC, gU, gS, qVar, qC, qBin, qTB, qChain, qNot, qAnd, qOr, bd_bl, qNotT, qAndT, qOrT, qTru, tru_non, tru_bl, tru_int, tru_str, tru_tup, tru_rol, tru_ref, qIf, qNil, qCons, qTup, qLst, qCB, cInt_i, cInt2_ii, cToInt_i, cToInt_b, cLen_s, cLen_t, cLen_r, cLen_l, cTuple_t, cTuple_r, cTuple_l, cList_t, cList_r, cList_l, qNeg, oI_ii, oAdd_ii, oSub, oMul, oDiv, oMod, oPow, oEq, oNe, oEqW_ii, oEqW_ss, oEqW_bb, oLt, oLe, oGt, oGe, oOrd_ii, oOrd_ss, oIx_t, oIx_r, oIx_l, oIx_s, qNo, qPart, qSl, oSl_t, oSl_r, oSl_l, oSl_s, qMeth, mAppend_1, iSeq, iRange1, iRange2, qCall, endsF, startD, List.map_cons, List.map_nil, List.length_cons, List.length_nil, List.length_map, List.cons_append, List.nil_append, List.replicate, List.getElem?_cons_zero, List.getElem?_cons_succ, List.set_cons_zero, List.set_cons_succ, Nat.reduceAdd, Nat.reduceSub, if_true, if_false, id, ups_same, ex_lst, ex_lst2, ex_some, atI_0, atI_1, atI_2, atI_3, ixN_0, ixN_1, ixN_21]
  refine ⟨sz1, fun x hx => ⟨_, .list [p], rfl, ⟨x, rfl⟩, ?_, hg, ?_⟩⟩
  · exact .lst ups_same (.cons (Dat.sub (fun c o h => (Sub.refl S).new hx c o h) _ _ ha) .nil)
  · refine ⟨sz1, fun y hy => ⟨_, .list [p], rfl, ⟨y, rfl⟩, ?_, hg, ?_⟩⟩
    · exact .lst ups_same (.cons (Dat.sub (((Sub.refl S).new hx).new hy) _ _ hb) .nil)
    · refine ⟨S, ((Sub.refl S).new hx).new hy, ?_⟩
      rw [decide_eq_true rfl]
      exact q
end K01

namespace K01
open PySem PySem.Spec PyProof.Rows L2 PL
variable {ad : Ad}
theorem stepS_stepS {S : Sto} {s n : Addr} {j k : Int} : stepS (stepS S s n j) s n k = stepS S s n k := ups_ups
theorem stepS_sub {S S' : Sto} {s n : Addr} {k : Int} (h : Sub S S') : Sub (stepS S s n k) (stepS S' s n k) := fun a o e => by
  unfold stepS at *
  by_cases z : a = s
  · subst z
    rw [ups_same] at e ⊢
    exact e
  · rw [ups_ne z] at e ⊢
    exact h a o e
theorem Strm.next {S : Sto} {s n : Addr} {xs : List Int} {k j : Int} (h : Strm S s n xs k) (hj : 0 ≤ j) : Strm (stepS S s n j) s n xs j :=
  ⟨ups_same, by unfold stepS; rw [ups_ne (Ne.symm h.ne)]; exact h.nm, h.ne, h.ok, hj⟩
theorem Strm.sub {S S' : Sto} {s n : Addr} {xs : List Int} {k : Int} (h : Strm S s n xs k) (b : Sub S S') : Strm S' s n xs k := ⟨b _ _ h.st, b _ _ h.nm, h.ne, h.ok, h.k0⟩
theorem Nums.get {xs : List Int} (h : Nums xs) {i : Int} (h0 : 0 ≤ i) (h1 : i < xs.length) : ∃ z, atI (xs.map D.int) i = some (.int z) ∧ 0 ≤ z ∧ z < 1009 := by
  obtain ⟨j, rfl⟩ := Int.eq_ofNat_of_zero_le h0
  have hj : j < xs.length := by omega
  refine ⟨xs[j], ?_, (h.rng _ (List.getElem_mem hj)).1, (h.rng _ (List.getElem_mem hj)).2⟩
  unfold atI ixN
  rw [if_pos (by omega), if_pos (by rw [List.length_map]; omega)]
  simp [hj]
theorem p__law_next : ∀ ds S Q E, sp__law_next ad ds S Q E → r__law_next ad (endsF Q E) (startD N__law_next ds) S := by
  rintro ds S Q E ⟨s, n, xs, k, many, rfl, h, hm, hk, q⟩
  have hl : 0 < xs.length := by
    have := h.ok.ne
    cases xs with
    | nil => exact absurd rfl this
    | cons => simp
  have hl2 := h.ok.len
  have hk0 := h.k0
  have f := fmod_pos (a := k + 1) (b := (xs.length : Int)) (by omega)
  obtain ⟨z, e, z0, z1⟩ := h.ok.get f.1 f.2
  have f2 : 0 ≤ (k + 1).fdiv xs.length ∧ (k + 1).fdiv xs.length ≤ k + 1 := by
    refine ⟨Int.fdiv_nonneg (by omega) (by omega), ?_⟩
    rw [Int.fdiv_eq_ediv_of_nonneg _ (by omega)]
    exact Int.ediv_le_self _ (by omega)
  simp only [r__law_next, sSeq, sNext, sBreak, sCont, sDrop, sRet, sRetN, sIf, sSet, sPar, sAsg, sRaise, gN, gE, gC, gU, gS, qVar, qC, qBin, qTB, qChain, qNot, qAnd, qOr, bd_bl, qNotT, qAndT, qOrT, qTru, tru_non, tru_bl, tru_int, tru_str, tru_tup, tru_rol, tru_ref, qIf, qNil, qCons, qTup, qLst, qCB, cInt_i, cInt2_ii, cToInt_i, cToInt_b, cLen_s, cLen_t, cLen_r, cLen_l, cTuple_t, cTuple_r, cTuple_l, cList_t, cList_r, cList_l, qNeg, oI_ii, oAdd_ii, oSub, oMul, oDiv, oMod, oPow, oEq, oNe, oEqW_ii, oEqW_ss, oEqW_bb, oLt, oLe, oGt, oGe, oOrd_ii, oOrd_ss, oIx_t, oIx_r, oIx_l, oIx_s, qNo, qPart, qSl, oSl_t, oSl_r, oSl_l, oSl_s, qMeth, mAppend_1, iSeq, iRange1, iRange2, qCall, endsF, startD, List.map_cons, List.map_nil, List.length_cons, List.length_nil, List.length_map, List.cons_append, List.nil_append, List.replicate, List.getElem?_cons_zero, List.getElem?_cons_succ, List.set_cons_zero, List.set_cons_succ, Nat.reduceAdd, Nat.reduceSub, if_true, if_false, id, ups_same, ex_lst, ex_lst2, ex_some, atI_0, atI_1, atI_2, atI_3, ixN_0, ixN_1, ixN_21, h.st, ups_ne (Ne.symm h.ne), h.nm, e]
  refine ⟨CDivA.small (by omega) (by omega), by omega, CMul.ofL (by omega), CMul.ofL (by omega), CMul.ofR (by omega), by omega, stepS S s n (k + 1), Sub.refl _, ?_⟩
  exact q _ (fmod_pos hm).1 (fmod_pos hm).2
theorem p__law_great : ∀ ds S Q E, sp__law_great ad ds S Q E → r__law_great ad (endsF Q E) (startD N__law_great ds) S := by
  rintro ds S Q E ⟨s, n, xs, k, many, rfl, h, hm, hk, q⟩
  have hk0 := h.k0
  simp only [r__law_great, sp__law_next, sSeq, sNext, sBreak, sCont, sDrop, sRet, sRetN, sIf, sSet, sPar, sAsg, sRaise, gN, gE, gC, gU, gS, qVar, qC, qBin, qTB, qChain, qNot, qAnd, qOr, bd_bl, qNotT, qAndT, qOrT, qTru, tru_non, tru_bl, tru_int, tru_str, tru_tup, tru_rol, tru_ref, qIf, qNil, qCons, qTup, qLst, qCB, cInt_i, cInt2_ii, cToInt_i, cToInt_b, cLen_s, cLen_t, cLen_r, cLen_l, cTuple_t, cTuple_r, cTuple_l, cList_t, cList_r, cList_l, qNeg, oI_ii, oAdd_ii, oSub, oMul, oDiv, oMod, oPow, oEq, oNe, oEqW_ii, oEqW_ss, oEqW_bb, oLt, oLe, oGt, oGe, oOrd_ii, oOrd_ss, oIx_t, oIx_r, oIx_l, oIx_s, qNo, qPart, qSl, oSl_t, oSl_r, oSl_l, oSl_s, qMeth, mAppend_1, iSeq, iRange1, iRange2, qCall, endsF, startD, List.map_cons, List.map_nil, List.length_cons, List.length_nil, List.length_map, List.cons_append, List.nil_append, List.replicate, List.getElem?_cons_zero, List.getElem?_cons_succ, List.set_cons_zero, List.set_cons_succ, Nat.reduceAdd, Nat.reduceSub, if_true, if_false, id, ups_same, ex_lst, ex_lst2, ex_some, atI_0, atI_1, atI_2, atI_3, ixN_0, ixN_1, ixN_21]
  refine ⟨s, n, xs, k, 1009, rfl, h, by omega, by omega, fun r h0 h1 => ⟨CMul.ofL (by omega), s, n, xs, k + 1, 1009, rfl, h.next (by omega), by omega, by omega, fun r' h0' h1' => ⟨by omega, _, Sub.refl _, ?_⟩⟩⟩
  rw [stepS_stepS, show k + 1 + 1 = k + 2 by omega]
  exact q _ (fmod_pos hm).1 (fmod_pos hm).2
theorem Strm.fresh {S : Sto} {s n p : Addr} {xs : List Int} {k : Int} (h : Strm S s n xs k) (hp : S p = none) {o : O} : Strm (ups S p o) s n xs k := h.sub ((Sub.refl S).new hp)
/-- of four numbers one -/
theorem at4 {a b c d : D} {r : Int} (h0 : 0 ≤ r) (h1 : r < 4) : ∃ x, atI [a, b, c, d] r = some x ∧ (x = a ∨ x = b ∨ x = c ∨ x = d) := by
  obtain ⟨j, rfl⟩ := Int.eq_ofNat_of_zero_le h0
  match j, h1 with
  | 0, _ => exact ⟨a, rfl, .inl rfl⟩
  | 1, _ => exact ⟨b, rfl, .inr (.inl rfl)⟩
  | 2, _ => exact ⟨c, rfl, .inr (.inr (.inl rfl))⟩
  | 3, _ => exact ⟨d, rfl, .inr (.inr (.inr rfl))⟩
  | n + 4, h => exact absurd h (by omega)
theorem at2 {a b : D} {r : Int} (h0 : 0 ≤ r) (h1 : r < 2) : ∃ x, atI [a, b] r = some x ∧ (x = a ∨ x = b) := by
  obtain ⟨j, rfl⟩ := Int.eq_ofNat_of_zero_le h0
  match j, h1 with
  | 0, _ => exact ⟨a, rfl, .inl rfl⟩
  | 1, _ => exact ⟨b, rfl, .inr rfl⟩
  | n + 2, h => exact absurd h (by omega)
theorem stepS_ne {S : Sto} {s n p : Addr} {k : Int} (h : p ≠ s) : stepS S s n k p = S p := ups_ne h
theorem Strm.ne_s {S : Sto} {s n p : Addr} {xs : List Int} {k : Int} (h : Strm S s n xs k) (hp : S p = none) : p ≠ s := Ne.symm (sto_ne h.st hp)
theorem p__law_number : ∀ ds S Q E, sp__law_number ad ds S Q E → r__law_number ad (endsF Q E) (startD N__law_number ds) S := by
  rintro ds S Q E ⟨s, n, xs, k, rfl, h, hk, q⟩
  have hk0 := h.k0
  simp only [r__law_number, sp__law_next, sp__law_great, sSeq, sNext, sBreak, sCont, sDrop, sRet, sRetN, sIf, sSet, sPar, sAsg, sRaise, gN, gE, gC, gU, gS, qVar, qC, qBin, qTB, qChain, qNot, qAnd, qOr, bd_bl, qNotT, qAndT, qOrT, qTru, tru_non, tru_bl, tru_int, tru_str, tru_tup, tru_rol, tru_ref, qIf, qNil, qCons, qTup, qLst, qCB, cInt_i, cInt2_ii, cToInt_i, cToInt_b, cLen_s, cLen_t, cLen_r, cLen_l, cTuple_t, cTuple_r, cTuple_l, cList_t, cList_r, cList_l, qNeg, oI_ii, oAdd_ii, oSub, oMul, oDiv, oMod, oPow, oEq, oNe, oEqW_ii, oEqW_ss, oEqW_bb, oLt, oLe, oGt, oGe, oOrd_ii, oOrd_ss, oIx_t, oIx_r, oIx_l, oIx_s, qNo, qPart, qSl, oSl_t, oSl_r, oSl_l, oSl_s, qMeth, mAppend_1, iSeq, iRange1, iRange2, qCall, endsF, startD, List.map_cons, List.map_nil, List.length_cons, List.length_nil, List.length_map, List.cons_append, List.nil_append, List.replicate, List.getElem?_cons_zero, List.getElem?_cons_succ, List.set_cons_zero, List.set_cons_succ, Nat.reduceAdd, Nat.reduceSub, if_true, if_false, id, ups_same, ex_lst, ex_lst2, ex_some, atI_0, atI_1, atI_2, atI_3, ixN_0, ixN_1, ixN_21, Int.reduceToNat, Int.reducePow]
  refine ⟨s, n, xs, k, 13, rfl, h, by omega, by omega, fun r h0 h1 => ⟨s, n, xs, k + 1, 9999, rfl, h.next (by omega), by omega, by omega, fun r2 h02 h12 => ⟨by unfold CPow; omega, s, n, xs, _, 1000000, rfl, (h.next (by omega)).next (by omega), by omega, by omega, fun r3 h03 h13 => ⟨CMul.ofR (by omega), by decide, fun p hp => ?_⟩⟩⟩⟩
  simp only [stepS_stepS] at hp ⊢
  have h5 : Strm (stepS S s n (k + 1 + 2 + 2)) s n xs (k + 1 + 2 + 2) := h.next (by omega)
  refine ⟨s, n, xs, _, 4, rfl, h5.fresh hp, by omega, by omega, fun r4 h04 h14 => ?_⟩
  obtain ⟨x, ex, hx⟩ := at4 (a := .int r) (b := .int r2) (c := .int (r3 * 999983 + 1)) (d := .int 0) h04 h14
  obtain ⟨z, rfl, hz⟩ : ∃ z : Int, x = .int z ∧ Sm z := by
    rcases hx with rfl | rfl | rfl | rfl
    · exact ⟨_, rfl, by unfold Sm; omega⟩
    · exact ⟨_, rfl, by unfold Sm; omega⟩
    · exact ⟨_, rfl, by unfold Sm; omega⟩
    · exact ⟨_, rfl, by unfold Sm; omega⟩
  simp only [sSeq, sNext, sBreak, sCont, sDrop, sRet, sRetN, sIf, sSet, sPar, sAsg, sRaise, gN, gE, gC, gU, gS, qVar, qC, qBin, qTB, qChain, qNot, qAnd, qOr, bd_bl, qNotT, qAndT, qOrT, qTru, tru_non, tru_bl, tru_int, tru_str, tru_tup, tru_rol, tru_ref, qIf, qNil, qCons, qTup, qLst, qCB, cInt_i, cInt2_ii, cToInt_i, cToInt_b, cLen_s, cLen_t, cLen_r, cLen_l, cTuple_t, cTuple_r, cTuple_l, cList_t, cList_r, cList_l, qNeg, oI_ii, oAdd_ii, oSub, oMul, oDiv, oMod, oPow, oEq, oNe, oEqW_ii, oEqW_ss, oEqW_bb, oLt, oLe, oGt, oGe, oOrd_ii, oOrd_ss, oIx_t, oIx_r, oIx_l, oIx_s, qNo, qPart, qSl, oSl_t, oSl_r, oSl_l, oSl_s, qMeth, mAppend_1, iSeq, iRange1, iRange2, qCall, endsF, startD, List.map_cons, List.map_nil, List.length_cons, List.length_nil, List.length_map, List.cons_append, List.nil_append, List.replicate, List.getElem?_cons_zero, List.getElem?_cons_succ, List.set_cons_zero, List.set_cons_succ, Nat.reduceAdd, Nat.reduceSub, if_true, if_false, id, ups_same, ex_lst, ex_lst2, ex_some, atI_0, atI_1, atI_2, atI_3, ixN_0, ixN_1, ixN_21, stepS_ne (h5.ne_s hp), ex, true_and]
  have h6 := (h5.fresh hp (o := .lst [.int r, .int r2, .int (r3 * 999983 + 1), .int 0])).next (j := k + 1 + 2 + 2 + 1) (by omega)
  refine ⟨sz2, fun p2 hp2 => ⟨s, n, xs, _, 2, rfl, h6.fresh hp2, by omega, by omega, fun r5 h05 h15 => ?_⟩⟩
  obtain ⟨y, ey, hy⟩ := at2 (a := .int z) (b := .int (0 - z)) h05 h15
  obtain ⟨u, rfl, hu⟩ : ∃ u : Int, y = .int u ∧ Sm u := by
    rcases hy with rfl | rfl
    · exact ⟨_, rfl, hz⟩
    · exact ⟨_, rfl, by unfold Sm at *; omega⟩
  simp only [sSeq, sNext, sBreak, sCont, sDrop, sRet, sRetN, sIf, sSet, sPar, sAsg, sRaise, gN, gE, gC, gU, gS, qVar, qC, qBin, qTB, qChain, qNot, qAnd, qOr, bd_bl, qNotT, qAndT, qOrT, qTru, tru_non, tru_bl, tru_int, tru_str, tru_tup, tru_rol, tru_ref, qIf, qNil, qCons, qTup, qLst, qCB, cInt_i, cInt2_ii, cToInt_i, cToInt_b, cLen_s, cLen_t, cLen_r, cLen_l, cTuple_t, cTuple_r, cTuple_l, cList_t, cList_r, cList_l, qNeg, oI_ii, oAdd_ii, oSub, oMul, oDiv, oMod, oPow, oEq, oNe, oEqW_ii, oEqW_ss, oEqW_bb, oLt, oLe, oGt, oGe, oOrd_ii, oOrd_ss, oIx_t, oIx_r, oIx_l, oIx_s, qNo, qPart, qSl, oSl_t, oSl_r, oSl_l, oSl_s, qMeth, mAppend_1, iSeq, iRange1, iRange2, qCall, endsF, startD, List.map_cons, List.map_nil, List.length_cons, List.length_nil, List.length_map, List.cons_append, List.nil_append, List.replicate, List.getElem?_cons_zero, List.getElem?_cons_succ, List.set_cons_zero, List.set_cons_succ, Nat.reduceAdd, Nat.reduceSub, if_true, if_false, id, ups_same, ex_lst, ex_lst2, ex_some, atI_0, atI_1, atI_2, atI_3, ixN_0, ixN_1, ixN_21, stepS_ne (h6.ne_s hp2), ey]
  refine ⟨_, ?_, q u hu⟩
  have b1 := stepS_sub (s := s) (n := n) (k := k + 1 + 2 + 2 + 1) ((Sub.refl _).new hp (o := .lst [.int r, .int r2, .int (r3 * 999983 + 1), .int 0]))
  have b2 := stepS_sub (s := s) (n := n) (k := k + 7) (b1.new hp2 (o := .lst [.int z, .int (0 - z)]))
  rw [stepS_stepS, stepS_stepS] at b2
  rw [show k + 1 + 2 + 2 + 1 + 1 = k + 7 by omega]
  exact b2
end K01

namespace K01
open PySem PySem.Spec PyProof.Rows L2 PL
variable {ad : Ad}
def Rg (zs : List Int) : Prop := ∀ x ∈ zs, 0 ≤ x ∧ x < 1009
theorem Rg.snoc {zs : List Int} (h : Rg zs) {z : Int} (hz : 0 ≤ z ∧ z < 1009) : Rg (zs ++ [z]) := fun x hx => by
  rcases List.mem_append.mp hx with h' | h'
  · exact h x h'
  · obtain rfl : x = z := by simpa using h'
    exact hz
theorem rangeD_get {lo : Int} {n i : Nat} {d : D} (h : (rangeD lo n)[i]? = some d) : i < n ∧ d = .int (lo + i) := by
  unfold rangeD at h
  rw [List.getElem?_map] at h
  by_cases hi : i < n
  · rw [List.getElem?_range hi] at h
    exact ⟨hi, (Option.some.inj h).symm⟩
  · rw [List.getElem?_eq_none (by simpa using hi)] at h
    cases h
theorem rangeD_len {lo : Int} {n : Nat} : (rangeD lo n).length = n := by simp [rangeD]
theorem map_snoc {zs : List Int} {z : Int} : zs.map D.int ++ [D.int z] = (zs ++ [z]).map D.int := by simp
theorem szBig {n : Nat} (h : n < 16000000) : n < sizeLine := by
  have e : sizeLine = 16777216 := by decide
  omega
theorem loop1 {P : QN} {T : Sto} {p : Addr} {x0 x2 x4 x5 : Option D} {zs : List Int} {rest : Int} (hz : Rg zs) (hl : zs.length ≤ 10000)
    (hn : ∀ (zs' : List Int) (y3 y4 : Option D), Rg zs' → zs'.length ≤ zs.length + 60 → P.nx [x0, some (.ref p), x2, y3, y4, x5] (ups T p (.lst (zs'.map D.int)))) :
    sFor (iRange1 (qCons (qC (.int 60)) qNil)) (gN 4) (r__law_stream_b1 ad) P [x0, some (.ref p), x2, some (.int rest), x4, x5] (ups T p (.lst (zs.map D.int))) := by
  unfold sFor
  simp only [sSeq, sNext, sBreak, sCont, sDrop, sRet, sRetN, sIf, sSet, sPar, sAsg, sRaise, gN, gE, gC, gU, gS, qVar, qC, qBin, qTB, qChain, qNot, qAnd, qOr, bd_bl, qNotT, qAndT, qOrT, qTru, tru_non, tru_bl, tru_int, tru_str, tru_tup, tru_rol, tru_ref, qIf, qNil, qCons, qTup, qLst, qCB, cInt_i, cInt2_ii, cToInt_i, cToInt_b, cLen_s, cLen_t, cLen_r, cLen_l, cTuple_t, cTuple_r, cTuple_l, cList_t, cList_r, cList_l, qNeg, oI_ii, oAdd_ii, oSub, oMul, oDiv, oMod, oPow, oEq, oNe, oEqW_ii, oEqW_ss, oEqW_bb, oLt, oLe, oGt, oGe, oOrd_ii, oOrd_ss, oIx_t, oIx_r, oIx_l, oIx_s, qNo, qPart, qSl, oSl_t, oSl_r, oSl_l, oSl_s, qMeth, mAppend_1, iSeq, iRange1, iRange2, qCall, endsF, startD, List.map_cons, List.map_nil, List.length_cons, List.length_nil, List.length_map, List.cons_append, List.nil_append, List.replicate, List.getElem?_cons_zero, List.getElem?_cons_succ, List.set_cons_zero, List.set_cons_succ, Nat.reduceAdd, Nat.reduceSub, if_true, if_false, id, ups_same, ex_lst, ex_lst2, ex_some, atI_0, atI_1, atI_2, atI_3, ixN_0, ixN_1, ixN_21]
  refine ⟨by decide, by decide, fun i loc S => ∃ (zs' : List Int) (r : Int) (y4 : Option D), loc = [x0, some (.ref p), x2, some (.int r), y4, x5] ∧ S = ups T p (.lst (zs'.map D.int)) ∧ Rg zs' ∧ zs'.length ≤ zs.length + i, ⟨zs, rest, x4, rfl, rfl, hz, by omega⟩, ?_, ?_⟩
  · rintro i d loc S hi ⟨zs', r, y4, rfl, rfl, hz', hl'⟩
    obtain ⟨hi1, rfl⟩ := rangeD_get hi
    have hi2 : i < 60 := hi1
    simp only [r__law_stream_b1, sSeq, sNext, sBreak, sCont, sDrop, sRet, sRetN, sIf, sSet, sPar, sAsg, sRaise, gN, gE, gC, gU, gS, qVar, qC, qBin, qTB, qChain, qNot, qAnd, qOr, bd_bl, qNotT, qAndT, qOrT, qTru, tru_non, tru_bl, tru_int, tru_str, tru_tup, tru_rol, tru_ref, qIf, qNil, qCons, qTup, qLst, qCB, cInt_i, cInt2_ii, cToInt_i, cToInt_b, cLen_s, cLen_t, cLen_r, cLen_l, cTuple_t, cTuple_r, cTuple_l, cList_t, cList_r, cList_l, qNeg, oI_ii, oAdd_ii, oSub, oMul, oDiv, oMod, oPow, oEq, oNe, oEqW_ii, oEqW_ss, oEqW_bb, oLt, oLe, oGt, oGe, oOrd_ii, oOrd_ss, oIx_t, oIx_r, oIx_l, oIx_s, qNo, qPart, qSl, oSl_t, oSl_r, oSl_l, oSl_s, qMeth, mAppend_1, iSeq, iRange1, iRange2, qCall, endsF, startD, List.map_cons, List.map_nil, List.length_cons, List.length_nil, List.length_map, List.cons_append, List.nil_append, List.replicate, List.getElem?_cons_zero, List.getElem?_cons_succ, List.set_cons_zero, List.set_cons_succ, Nat.reduceAdd, Nat.reduceSub, if_true, if_false, id, ups_same, ex_lst, ex_lst2, ex_some, atI_0, atI_1, atI_2, atI_3, ixN_0, ixN_1, ixN_21, map_snoc, ups_ups]
    have h9 := fmod_pos (a := r) (b := 1009) (by decide)
    refine ⟨trivial, ⟨_, rfl⟩, by decide, szBig (by omega), CDivA.small (by decide) (by decide), ?_⟩
    split
    · exact hn _ _ _ (hz'.snoc h9) (by simp; omega)
    · exact ⟨_, _, _, rfl, rfl, hz'.snoc h9, by simp; omega⟩
  · rintro loc S ⟨zs', r, y4, rfl, rfl, hz', hl'⟩
    refine ⟨trivial, hn _ _ _ hz' ?_⟩
    have : (Src.vals (rangeD 0 (60 : Int).toNat)).items.length = 60 := rangeD_len
    omega
theorem loop2 {P : QN} {T : Sto} {p : Addr} {x0 x2 x3 x4 : Option D} {zs : List Int} {st : Int} (hz : Rg zs) (hl : zs.length ≤ 10000) (hs : 0 ≤ st ∧ st < 2147483647)
    (hn : ∀ (zs' : List Int) (y4 y5 : Option D), Rg zs' → zs'.length ≤ zs.length + 60 → P.nx [x0, some (.ref p), x2, x3, y4, y5] (ups T p (.lst (zs'.map D.int)))) :
    sFor (iRange1 (qCons (qC (.int 10)) qNil)) (gN 4) (r__law_stream_b2 ad) P [x0, some (.ref p), x2, x3, x4, some (.int st)] (ups T p (.lst (zs.map D.int))) := by
  unfold sFor
  simp only [sSeq, sNext, sBreak, sCont, sDrop, sRet, sRetN, sIf, sSet, sPar, sAsg, sRaise, gN, gE, gC, gU, gS, qVar, qC, qBin, qTB, qChain, qNot, qAnd, qOr, bd_bl, qNotT, qAndT, qOrT, qTru, tru_non, tru_bl, tru_int, tru_str, tru_tup, tru_rol, tru_ref, qIf, qNil, qCons, qTup, qLst, qCB, cInt_i, cInt2_ii, cToInt_i, cToInt_b, cLen_s, cLen_t, cLen_r, cLen_l, cTuple_t, cTuple_r, cTuple_l, cList_t, cList_r, cList_l, qNeg, oI_ii, oAdd_ii, oSub, oMul, oDiv, oMod, oPow, oEq, oNe, oEqW_ii, oEqW_ss, oEqW_bb, oLt, oLe, oGt, oGe, oOrd_ii, oOrd_ss, oIx_t, oIx_r, oIx_l, oIx_s, qNo, qPart, qSl, oSl_t, oSl_r, oSl_l, oSl_s, qMeth, mAppend_1, iSeq, iRange1, iRange2, qCall, endsF, startD, List.map_cons, List.map_nil, List.length_cons, List.length_nil, List.length_map, List.cons_append, List.nil_append, List.replicate, List.getElem?_cons_zero, List.getElem?_cons_succ, List.set_cons_zero, List.set_cons_succ, Nat.reduceAdd, Nat.reduceSub, if_true, if_false, id, ups_same, ex_lst, ex_lst2, ex_some, atI_0, atI_1, atI_2, atI_3, ixN_0, ixN_1, ixN_21]
  refine ⟨by decide, by decide, fun i loc S => ∃ (zs' : List Int) (r : Int) (y4 : Option D), loc = [x0, some (.ref p), x2, x3, y4, some (.int r)] ∧ S = ups T p (.lst (zs'.map D.int)) ∧ Rg zs' ∧ zs'.length ≤ zs.length + i ∧ 0 ≤ r ∧ r < 2147483647, ⟨zs, st, x4, rfl, rfl, hz, by omega, hs⟩, ?_, ?_⟩
  · rintro i d loc S hi ⟨zs', r, y4, rfl, rfl, hz', hl', hr⟩
    obtain ⟨hi1, rfl⟩ := rangeD_get hi
    have hi2 : i < 10 := hi1
    simp only [r__law_stream_b2, sSeq, sNext, sBreak, sCont, sDrop, sRet, sRetN, sIf, sSet, sPar, sAsg, sRaise, gN, gE, gC, gU, gS, qVar, qC, qBin, qTB, qChain, qNot, qAnd, qOr, bd_bl, qNotT, qAndT, qOrT, qTru, tru_non, tru_bl, tru_int, tru_str, tru_tup, tru_rol, tru_ref, qIf, qNil, qCons, qTup, qLst, qCB, cInt_i, cInt2_ii, cToInt_i, cToInt_b, cLen_s, cLen_t, cLen_r, cLen_l, cTuple_t, cTuple_r, cTuple_l, cList_t, cList_r, cList_l, qNeg, oI_ii, oAdd_ii, oSub, oMul, oDiv, oMod, oPow, oEq, oNe, oEqW_ii, oEqW_ss, oEqW_bb, oLt, oLe, oGt, oGe, oOrd_ii, oOrd_ss, oIx_t, oIx_r, oIx_l, oIx_s, qNo, qPart, qSl, oSl_t, oSl_r, oSl_l, oSl_s, qMeth, mAppend_1, iSeq, iRange1, iRange2, qCall, endsF, startD, List.map_cons, List.map_nil, List.length_cons, List.length_nil, List.length_map, List.cons_append, List.nil_append, List.replicate, List.getElem?_cons_zero, List.getElem?_cons_succ, List.set_cons_zero, List.set_cons_succ, Nat.reduceAdd, Nat.reduceSub, if_true, if_false, id, ups_same, ex_lst, ex_lst2, ex_some, atI_0, atI_1, atI_2, atI_3, ixN_0, ixN_1, ixN_21, map_snoc, ups_ups]
    have h8 := fmod_pos (a := r * 48271 + 7 * (0 + (i : Int)) + 11) (b := 2147483647) (by decide)
    have h9 := fun z : Int => fmod_pos (a := z) (b := 1009) (by decide)
    refine ⟨trivial, CMul.ofL (by omega), CMul.ofL (by omega), by decide, ⟨_, rfl⟩, CMul.ofL (by omega), by decide, by decide, szBig (by omega), ?_⟩
    exact ⟨_, _, _, rfl, rfl, hz'.snoc (h9 _), by simp; omega, h8⟩
  · rintro loc S ⟨zs', r, y4, rfl, rfl, hz', hl', hr⟩
    refine ⟨trivial, hn _ _ _ hz' ?_⟩
    have : (Src.vals (rangeD 0 (10 : Int).toNat)).items.length = 10 := rangeD_len
    omega
theorem ups_id {S : Sto} {a : Addr} {o : O} (h : S a = some o) : ups S a o = S := by
  funext b
  unfold ups
  split
  · rename_i e
    rw [e, h]
  · rfl
theorem cut_get {ns : List Int} {lo hi : Option Int} {i : Nat} {d : D} (h : (cutL (ns.map D.int) lo hi)[i]? = some d) : ∃ n, d = .int n := by
  have h1 := List.mem_of_getElem? h
  unfold cutL at h1
  obtain ⟨n, _, e⟩ := List.mem_map.mp (List.mem_of_mem_drop (List.mem_of_mem_take h1))
  exact ⟨n, e.symm⟩
theorem cut_len {α : Type} {xs : List α} {lo hi : Option Int} : (cutL xs lo hi).length ≤ xs.length := by
  unfold cutL
  have h1 := List.length_take_le (HT.sIx xs.length xs.length hi - HT.sIx xs.length 0 lo) (xs.drop (HT.sIx xs.length 0 lo))
  have h2 : (xs.drop (HT.sIx xs.length 0 lo)).length ≤ xs.length := by simp
  have h3 : ((xs.drop (HT.sIx xs.length 0 lo)).take (HT.sIx xs.length xs.length hi - HT.sIx xs.length 0 lo)).length ≤ (xs.drop (HT.sIx xs.length 0 lo)).length := by simp; omega
  omega
theorem p__law_stream : ∀ ds S Q E, sp__law_stream ad ds S Q E → r__law_stream ad (endsF Q E) (startD N__law_stream ds) S := by
  rintro ds S Q E ⟨ns, rfl, hl, q⟩
  simp only [r__law_stream, sSeq, sNext, sBreak, sCont, sDrop, sRet, sRetN, sIf, sSet, sPar, sAsg, sRaise, gN, gE, gC, gU, gS, qVar, qC, qBin, qTB, qChain, qNot, qAnd, qOr, bd_bl, qNotT, qAndT, qOrT, qTru, tru_non, tru_bl, tru_int, tru_str, tru_tup, tru_rol, tru_ref, qIf, qNil, qCons, qTup, qLst, qCB, cInt_i, cInt2_ii, cToInt_i, cToInt_b, cLen_s, cLen_t, cLen_r, cLen_l, cTuple_t, cTuple_r, cTuple_l, cList_t, cList_r, cList_l, qNeg, oI_ii, oAdd_ii, oSub, oMul, oDiv, oMod, oPow, oEq, oNe, oEqW_ii, oEqW_ss, oEqW_bb, oLt, oLe, oGt, oGe, oOrd_ii, oOrd_ss, oIx_t, oIx_r, oIx_l, oIx_s, qNo, qPart, qSl, oSl_t, oSl_r, oSl_l, oSl_s, qMeth, mAppend_1, iSeq, iRange1, iRange2, qCall, endsF, startD, List.map_cons, List.map_nil, List.length_cons, List.length_nil, List.length_map, List.cons_append, List.nil_append, List.replicate, List.getElem?_cons_zero, List.getElem?_cons_succ, List.set_cons_zero, List.set_cons_succ, Nat.reduceAdd, Nat.reduceSub, if_true, if_false, id, ups_same, ex_lst, ex_lst2, ex_some, atI_0, atI_1, atI_2, atI_3, ixN_0, ixN_1, ixN_21]
  refine ⟨by decide, fun p hp => ?_⟩
  unfold sFor
  simp only [sSeq, sNext, sBreak, sCont, sDrop, sRet, sRetN, sIf, sSet, sPar, sAsg, sRaise, gN, gE, gC, gU, gS, qVar, qC, qBin, qTB, qChain, qNot, qAnd, qOr, bd_bl, qNotT, qAndT, qOrT, qTru, tru_non, tru_bl, tru_int, tru_str, tru_tup, tru_rol, tru_ref, qIf, qNil, qCons, qTup, qLst, qCB, cInt_i, cInt2_ii, cToInt_i, cToInt_b, cLen_s, cLen_t, cLen_r, cLen_l, cTuple_t, cTuple_r, cTuple_l, cList_t, cList_r, cList_l, qNeg, oI_ii, oAdd_ii, oSub, oMul, oDiv, oMod, oPow, oEq, oNe, oEqW_ii, oEqW_ss, oEqW_bb, oLt, oLe, oGt, oGe, oOrd_ii, oOrd_ss, oIx_t, oIx_r, oIx_l, oIx_s, qNo, qPart, qSl, oSl_t, oSl_r, oSl_l, oSl_s, qMeth, mAppend_1, iSeq, iRange1, iRange2, qCall, endsF, startD, List.map_cons, List.map_nil, List.length_cons, List.length_nil, List.length_map, List.cons_append, List.nil_append, List.replicate, List.getElem?_cons_zero, List.getElem?_cons_succ, List.set_cons_zero, List.set_cons_succ, Nat.reduceAdd, Nat.reduceSub, if_true, if_false, id, ups_same, ex_lst, ex_lst2, ex_some, atI_0, atI_1, atI_2, atI_3, ixN_0, ixN_1, ixN_21]
  intro t ht
  have tp : t ≠ p := Ne.symm (sto_ne ups_same ht)
  have lenL : (cutL (ns.map D.int) none (some 63)).length ≤ 63 := Nat.le_trans cut_len (by simpa using hl)
  have e0 : ups (ups (ups S p (.lst [])) t (.lst (cutL (ns.map D.int) none (some 63)))) p (.lst (([] : List Int).map D.int)) = ups (ups S p (.lst [])) t (.lst (cutL (ns.map D.int) none (some 63))) := ups_id (by rw [ups_ne (Ne.symm tp)]; exact ups_same)
  refine ⟨fun i loc S' => ∃ (zs : List Int) (a b c d : Option D), loc = [some (.rol (ns.map D.int)), some (.ref p), a, b, c, d] ∧ S' = ups (ups (ups S p (.lst [])) t (.lst (cutL (ns.map D.int) none (some 63)))) p (.lst (zs.map D.int)) ∧ Rg zs ∧ zs.length ≤ 60 * i, ?_, ?_, ?_⟩
  · exact ⟨[], none, none, none, none, rfl, e0.symm, (fun _ z => by cases z), by simp⟩
  · rintro i d loc S' hi ⟨zs, a, b, c, d', rfl, rfl, hz, hzl⟩
    obtain ⟨cell, rfl⟩ := cut_get hi
    have hil : i < 63 := Nat.lt_of_lt_of_le (List.getElem?_eq_some_iff.mp hi).1 lenL
    refine ⟨by show ups _ _ _ t = _; rw [ups_ne tp]; exact ups_same, ?_⟩
    simp only [r__law_stream_b3, sSeq, sNext, sBreak, sCont, sDrop, sRet, sRetN, sIf, sSet, sPar, sAsg, sRaise, gN, gE, gC, gU, gS, qVar, qC, qBin, qTB, qChain, qNot, qAnd, qOr, bd_bl, qNotT, qAndT, qOrT, qTru, tru_non, tru_bl, tru_int, tru_str, tru_tup, tru_rol, tru_ref, qIf, qNil, qCons, qTup, qLst, qCB, cInt_i, cInt2_ii, cToInt_i, cToInt_b, cLen_s, cLen_t, cLen_r, cLen_l, cTuple_t, cTuple_r, cTuple_l, cList_t, cList_r, cList_l, qNeg, oI_ii, oAdd_ii, oSub, oMul, oDiv, oMod, oPow, oEq, oNe, oEqW_ii, oEqW_ss, oEqW_bb, oLt, oLe, oGt, oGe, oOrd_ii, oOrd_ss, oIx_t, oIx_r, oIx_l, oIx_s, qNo, qPart, qSl, oSl_t, oSl_r, oSl_l, oSl_s, qMeth, mAppend_1, iSeq, iRange1, iRange2, qCall, endsF, startD, List.map_cons, List.map_nil, List.length_cons, List.length_nil, List.length_map, List.cons_append, List.nil_append, List.replicate, List.getElem?_cons_zero, List.getElem?_cons_succ, List.set_cons_zero, List.set_cons_succ, Nat.reduceAdd, Nat.reduceSub, if_true, if_false, id, ups_same, ex_lst, ex_lst2, ex_some, atI_0, atI_1, atI_2, atI_3, ixN_0, ixN_1, ixN_21]
    generalize (if cell < 0 then -cell else cell) = r
    refine ⟨by unfold CPow; omega, ?_⟩
    by_cases h : (10 : Int) ^ (18 : Int).toNat ≤ r
    · refine ifT (decide_eq_true h) (loop1 hz (by omega) ?_)
      intro zs' y3 y4 hz' hl'
      exact ⟨zs', _, _, _, _, rfl, rfl, hz', by omega⟩
    · refine ifF (decide_eq_false h) ⟨by decide, loop2 hz (by omega) (fmod_pos (by decide)) ?_⟩
      intro zs' y4 y5 hz' hl'
      exact ⟨zs', _, _, _, _, rfl, rfl, hz', by omega⟩
  · rintro loc S' ⟨zs, a, b, c, d', rfl, rfl, hz, hzl⟩
    have hl3 : zs.length ≤ 60 * 63 := Nat.le_trans hzl (Nat.mul_le_mul_left _ lenL)
    refine ⟨by show ups _ _ _ t = _; rw [ups_ne tp]; exact ups_same, ?_⟩
    have sub : ∀ zs : List Int, Sub S (ups (ups (ups S p (.lst [])) t (.lst (cutL (ns.map D.int) none (some 63)))) p (.lst (zs.map D.int))) := fun zs => (((Sub.refl S).new hp).new ht).at hp
    have oth : ∀ (zs : List Int) (b : Addr) (o : O), ups (ups (ups S p (.lst [])) t (.lst (cutL (ns.map D.int) none (some 63)))) p (.lst (zs.map D.int)) b = some o → b = p ∨ S b = some o ∨ ∃ ds, o = .lst ds := fun zs b o e => by
      by_cases h1 : b = p
      · exact .inl h1
      · rw [ups_ne h1] at e
        by_cases h2 : b = t
        · subst h2
          rw [ups_same] at e
          exact .inr (.inr ⟨_, (Option.some.inj e).symm⟩)
        · rw [ups_ne h2, ups_ne h1] at e
          exact .inr (.inl e)
    simp only [sSeq, sNext, sBreak, sCont, sDrop, sRet, sRetN, sIf, sSet, sPar, sAsg, sRaise, gN, gE, gC, gU, gS, qVar, qC, qBin, qTB, qChain, qNot, qAnd, qOr, bd_bl, qNotT, qAndT, qOrT, qTru, tru_non, tru_bl, tru_int, tru_str, tru_tup, tru_rol, tru_ref, qIf, qNil, qCons, qTup, qLst, qCB, cInt_i, cInt2_ii, cToInt_i, cToInt_b, cLen_s, cLen_t, cLen_r, cLen_l, cTuple_t, cTuple_r, cTuple_l, cList_t, cList_r, cList_l, qNeg, oI_ii, oAdd_ii, oSub, oMul, oDiv, oMod, oPow, oEq, oNe, oEqW_ii, oEqW_ss, oEqW_bb, oLt, oLe, oGt, oGe, oOrd_ii, oOrd_ss, oIx_t, oIx_r, oIx_l, oIx_s, qNo, qPart, qSl, oSl_t, oSl_r, oSl_l, oSl_s, qMeth, mAppend_1, iSeq, iRange1, iRange2, qCall, endsF, startD, List.map_cons, List.map_nil, List.length_cons, List.length_nil, List.length_map, List.cons_append, List.nil_append, List.replicate, List.getElem?_cons_zero, List.getElem?_cons_succ, List.set_cons_zero, List.set_cons_succ, Nat.reduceAdd, Nat.reduceSub, if_true, if_false, id, ups_same, ex_lst, ex_lst2, ex_some, atI_0, atI_1, atI_2, atI_3, ixN_0, ixN_1, ixN_21]
    split
    · rename_i h0
      have hz0 : zs = [] := by
        cases zs with
        | nil => rfl
        | cons x r => simp at h0; omega
      subst hz0
      refine ⟨⟨_, rfl⟩, by decide, _, Sub.refl _, ?_⟩
      rw [ups_ups]
      exact q p [0] _ hp (sub [0]) (oth [0]) ups_same ⟨by simp, by simp, fun x hx => by
        obtain rfl : x = 0 := by simpa using hx
        omega⟩
    · rename_i h0
      refine ⟨_, Sub.refl _, q p zs _ hp (sub zs) (oth zs) ups_same ⟨fun z => ?_, by omega, hz⟩⟩
      subst z
      exact h0 rfl
end K01

namespace K01
open PySem PySem.Spec PyProof.Rows L2 PL
variable {ad : Ad}
def nmk (k : Nat) : Str := (["refused", "large", "missing", "paper", "form", "broken"] : List Str).getD k ""
theorem kinds_of (nd : ad.six.Nodup) {k : Nat} (hk : k < 6) : [D.bl (decide (ad.row k = ad.NotAllowed)), D.bl (decide (ad.row k = ad.TooLarge)), D.bl (decide (ad.row k = ad.Missing)), D.bl (decide (ad.row k = ad.BadPaper)), D.bl (decide (ad.row k = ad.BadForm)), D.bl (decide (ad.row k = ad.Broken))] = (List.range 6).map fun j => D.bl (decide (k = j)) := by
  have key : ∀ j, j < 6 → decide (ad.row k = ad.row j) = decide (k = j) := fun j hj => by
    have e : ∀ i, i < 6 → ∃ h : i < ad.six.length, ad.row i = ad.six[i] := fun i hi => ⟨hi, by
      have hi' : i < ad.six.length := hi
      unfold Ad.row
      rw [List.getD_eq_getElem?_getD, List.getElem?_eq_getElem hi']
      rfl⟩
    obtain ⟨h1, e1⟩ := e k hk
    obtain ⟨h2, e2⟩ := e j hj
    rw [e1, e2]
    have nd2 := List.pairwise_iff_getElem.mp nd
    refine decide_eq_decide.mpr ⟨fun z => ?_, fun z => by subst z; rfl⟩
    rcases Nat.lt_trichotomy k j with h | h | h
    · exact absurd z (nd2 k j h1 h2 h)
    · exact h
    · exact absurd z.symm (nd2 j k h2 h1 h)
  have h0 := key 0 (by decide)
  have h1 := key 1 (by decide)
  have h2 := key 2 (by decide)
  have h3 := key 3 (by decide)
  have h4 := key 4 (by decide)
  have h5 := key 5 (by decide)
  have e0 : ad.row 0 = ad.NotAllowed := rfl
  have e1 : ad.row 1 = ad.TooLarge := rfl
  have e2 : ad.row 2 = ad.Missing := rfl
  have e3 : ad.row 3 = ad.BadPaper := rfl
  have e4 : ad.row 4 = ad.BadForm := rfl
  have e5 : ad.row 5 = ad.Broken := rfl
  rw [e0] at h0
  rw [e1] at h1
  rw [e2] at h2
  rw [e3] at h3
  rw [e4] at h4
  rw [e5] at h5
  rw [h0, h1, h2, h3, h4, h5]
  rfl
theorem told_s (nd : ad.six.Nodup) {k : Nat} (hk : k < 6) {P : QN} {a : Addr} {S : Sto} {x0 x2 x3 x4 : Option D} (h : ∀ S', Sub S S' → P.rt (.tup [.str (nmk k)]) S') :
    r__law_told_s ad (ad.row k) a P [x0, some (.ref a), x2, x3, x4] S := by
  have m0 : ad.NotAllowed ∈ ad.six := by simp [Ad.six]
  have m1 : ad.TooLarge ∈ ad.six := by simp [Ad.six]
  have m2 : ad.Missing ∈ ad.six := by simp [Ad.six]
  have m3 : ad.BadPaper ∈ ad.six := by simp [Ad.six]
  have m4 : ad.BadForm ∈ ad.six := by simp [Ad.six]
  have m5 : ad.Broken ∈ ad.six := by simp [Ad.six]
  simp only [r__law_told_s, cIsK, sSeq, sNext, sBreak, sCont, sDrop, sRet, sRetN, sIf, sSet, sPar, sAsg, sRaise, gN, gE, gC, gU, gS, qVar, qC, qBin, qTB, qChain, qNot, qAnd, qOr, bd_bl, qNotT, qAndT, qOrT, qTru, tru_non, tru_bl, tru_int, tru_str, tru_tup, tru_rol, tru_ref, qIf, qNil, qCons, qTup, qLst, qCB, cInt_i, cInt2_ii, cToInt_i, cToInt_b, cLen_s, cLen_t, cLen_r, cLen_l, cTuple_t, cTuple_r, cTuple_l, cList_t, cList_r, cList_l, qNeg, oI_ii, oAdd_ii, oSub, oMul, oDiv, oMod, oPow, oEq, oNe, oEqW_ii, oEqW_ss, oEqW_bb, oLt, oLe, oGt, oGe, oOrd_ii, oOrd_ss, oIx_t, oIx_r, oIx_l, oIx_s, qNo, qPart, qSl, oSl_t, oSl_r, oSl_l, oSl_s, qMeth, mAppend_1, iSeq, iRange1, iRange2, qCall, endsF, startD, List.map_cons, List.map_nil, List.length_cons, List.length_nil, List.length_map, List.cons_append, List.nil_append, List.replicate, List.getElem?_cons_zero, List.getElem?_cons_succ, List.set_cons_zero, List.set_cons_succ, Nat.reduceAdd, Nat.reduceSub, if_true, if_false, id, ups_same, ex_lst, ex_lst2, ex_some, atI_0, atI_1, atI_2, atI_3, ixN_0, ixN_1, ixN_21]
  refine ⟨_, m0, rfl, _, m1, rfl, _, m2, rfl, _, m3, rfl, _, m4, rfl, _, m5, rfl, by decide, fun q hq => ?_⟩
  rw [kinds_of nd hk]
  unfold qLc
  simp only [sSeq, sNext, sBreak, sCont, sDrop, sRet, sRetN, sIf, sSet, sPar, sAsg, sRaise, gN, gE, gC, gU, gS, qVar, qC, qBin, qTB, qChain, qNot, qAnd, qOr, bd_bl, qNotT, qAndT, qOrT, qTru, tru_non, tru_bl, tru_int, tru_str, tru_tup, tru_rol, tru_ref, qIf, qNil, qCons, qTup, qLst, qCB, cInt_i, cInt2_ii, cToInt_i, cToInt_b, cLen_s, cLen_t, cLen_r, cLen_l, cTuple_t, cTuple_r, cTuple_l, cList_t, cList_r, cList_l, qNeg, oI_ii, oAdd_ii, oSub, oMul, oDiv, oMod, oPow, oEq, oNe, oEqW_ii, oEqW_ss, oEqW_bb, oLt, oLe, oGt, oGe, oOrd_ii, oOrd_ss, oIx_t, oIx_r, oIx_l, oIx_s, qNo, qPart, qSl, oSl_t, oSl_r, oSl_l, oSl_s, qMeth, mAppend_1, iSeq, iRange1, iRange2, qCall, endsF, startD, List.map_cons, List.map_nil, List.length_cons, List.length_nil, List.length_map, List.cons_append, List.nil_append, List.replicate, List.getElem?_cons_zero, List.getElem?_cons_succ, List.set_cons_zero, List.set_cons_succ, Nat.reduceAdd, Nat.reduceSub, if_true, if_false, id, ups_same, ex_lst, ex_lst2, ex_some, atI_0, atI_1, atI_2, atI_3, ixN_0, ixN_1, ixN_21, wipeD]
  refine ⟨by decide, by decide, fun p hp => ?_⟩
  have hpq : p ≠ q := Ne.symm (sto_ne ups_same hp)
  refine ⟨fun i acc S' => acc = (if k < i then [D.str (nmk k)] else []) ∧ Sub (ups S q (.lst ((List.range 6).map fun j => D.bl (decide (k = j))))) S' ∧ S' p = some (.lst acc), ⟨rfl, (Sub.refl _).new hp, ups_same⟩, ?_, ?_⟩
  · rintro i d acc S' hi ⟨rfl, sub, hacc⟩
    obtain ⟨hi1, rfl⟩ := rangeD_get hi
    have hi6 : i < 6 := hi1
    have e1 : S' q = some (.lst ((List.range 6).map fun j => D.bl (decide (k = j)))) := sub q _ ups_same
    have e2 : ((List.range 6).map fun j => D.bl (decide (k = j)))[i]? = some (D.bl (decide (k = i))) := by rw [List.getElem?_map, List.getElem?_range hi6]; rfl
    have e3 : [D.str "refused", D.str "large", D.str "missing", D.str "paper", D.str "form", D.str "broken"][i]? = some (D.str (nmk i)) := by
      match i, hi6 with
      | 0, _ => rfl
      | 1, _ => rfl
      | 2, _ => rfl
      | 3, _ => rfl
      | 4, _ => rfl
      | 5, _ => rfl
    simp only [sSeq, sNext, sBreak, sCont, sDrop, sRet, sRetN, sIf, sSet, sPar, sAsg, sRaise, gN, gE, gC, gU, gS, qVar, qC, qBin, qTB, qChain, qNot, qAnd, qOr, bd_bl, qNotT, qAndT, qOrT, qTru, tru_non, tru_bl, tru_int, tru_str, tru_tup, tru_rol, tru_ref, qIf, qNil, qCons, qTup, qLst, qCB, cInt_i, cInt2_ii, cToInt_i, cToInt_b, cLen_s, cLen_t, cLen_r, cLen_l, cTuple_t, cTuple_r, cTuple_l, cList_t, cList_r, cList_l, qNeg, oI_ii, oAdd_ii, oSub, oMul, oDiv, oMod, oPow, oEq, oNe, oEqW_ii, oEqW_ss, oEqW_bb, oLt, oLe, oGt, oGe, oOrd_ii, oOrd_ss, oIx_t, oIx_r, oIx_l, oIx_s, qNo, qPart, qSl, oSl_t, oSl_r, oSl_l, oSl_s, qMeth, mAppend_1, iSeq, iRange1, iRange2, qCall, endsF, startD, List.map_cons, List.map_nil, List.length_cons, List.length_nil, List.length_map, List.cons_append, List.nil_append, List.replicate, List.getElem?_cons_zero, List.getElem?_cons_succ, List.set_cons_zero, List.set_cons_succ, Nat.reduceAdd, Nat.reduceSub, if_true, if_false, id, ups_same, ex_lst, ex_lst2, ex_some, atI_0, atI_1, atI_2, atI_3, ixN_0, ixN_1, ixN_21, Int.zero_add, e1, atI_lt, e2, e3]
    refine ⟨trivial, ?_⟩
    by_cases hki : k = i
    · refine ifT (decide_eq_true hki) ⟨by decide, fun p1 hp1 => ?_⟩
      have hpp : p ≠ p1 := sto_ne hacc hp1
      subst hki
      rw [if_neg (by omega), if_pos (by omega)]
      rw [if_neg (by omega)] at hacc
      exact ⟨by rw [ups_ne hpp]; exact hacc, szBig (by simp), rfl, (sub.new hp1).at hp, trivial⟩
    · refine ifF (decide_eq_false hki) ?_
      have e4 : (if k < i + 1 then [D.str (nmk k)] else []) = if k < i then [D.str (nmk k)] else [] := by
        by_cases h : k < i
        · rw [if_pos h, if_pos (by omega)]
        · rw [if_neg h, if_neg (by omega)]
      rw [e4]
      exact ⟨rfl, sub, hacc⟩
  · rintro acc S' ⟨hac, sub, hacc⟩
    have : (Src.vals (rangeD 0 (6 : Int).toNat)).items.length = 6 := rangeD_len
    rw [this, if_pos hk] at hac
    subst hac
    refine ⟨trivial, by decide, fun p1 hp1 => ?_⟩
    have hpp : p ≠ p1 := sto_ne hacc hp1
    have oAdd_ll : ∀ (i j : Addr) (S : Sto) (P : PD), oAdd (.ref i) (.ref j) S P = ∃ xs ys, S i = some (.lst xs) ∧ S j = some (.lst ys) ∧ xs.length + ys.length ≤ sizeLine ∧ ∀ p, S p = none → P (.ref p) (ups S p (.lst (xs ++ ys))) := fun _ _ _ _ => rfl
    rw [oAdd_ll]
    refine ⟨[D.str (nmk k)], _, by rw [ups_ne hpp]; exact hacc, ups_same, sz2, fun p2 hp2 => ?_⟩
    have hs1 : Sub S' (ups (ups S' p1 (.lst [D.str ""])) p2 (.lst ([D.str (nmk k)] ++ [D.str ""]))) := ((Sub.refl _).new hp1).new hp2
    simp only [sSeq, sNext, sBreak, sCont, sDrop, sRet, sRetN, sIf, sSet, sPar, sAsg, sRaise, gN, gE, gC, gU, gS, qVar, qC, qBin, qTB, qChain, qNot, qAnd, qOr, bd_bl, qNotT, qAndT, qOrT, qTru, tru_non, tru_bl, tru_int, tru_str, tru_tup, tru_rol, tru_ref, qIf, qNil, qCons, qTup, qLst, qCB, cInt_i, cInt2_ii, cToInt_i, cToInt_b, cLen_s, cLen_t, cLen_r, cLen_l, cTuple_t, cTuple_r, cTuple_l, cList_t, cList_r, cList_l, qNeg, oI_ii, oAdd_ii, oSub, oMul, oDiv, oMod, oPow, oEq, oNe, oEqW_ii, oEqW_ss, oEqW_bb, oLt, oLe, oGt, oGe, oOrd_ii, oOrd_ss, oIx_t, oIx_r, oIx_l, oIx_s, qNo, qPart, qSl, oSl_t, oSl_r, oSl_l, oSl_s, qMeth, mAppend_1, iSeq, iRange1, iRange2, qCall, endsF, startD, List.map_cons, List.map_nil, List.length_cons, List.length_nil, List.length_map, List.cons_append, List.nil_append, List.replicate, List.getElem?_cons_zero, List.getElem?_cons_succ, List.set_cons_zero, List.set_cons_succ, Nat.reduceAdd, Nat.reduceSub, if_true, if_false, id, ups_same, ex_lst, ex_lst2, ex_some, atI_0, atI_1, atI_2, atI_3, ixN_0, ixN_1, ixN_21]
    refine ⟨by decide, fun p3 hp3 => ?_⟩
    have e5 : ups (ups (ups S' p1 (.lst [D.str ""])) p2 (.lst ([D.str (nmk k)] ++ [D.str ""]))) p3 (.lst [D.str "odd", D.str (nmk k)]) p = some (.lst [D.str (nmk k)]) := by
      rw [ups_ne (sto_ne (hs1 _ _ hacc) hp3)]
      exact hs1 _ _ hacc
    simp only [List.cons_append, List.nil_append] at e5
    simp only [sSeq, sNext, sBreak, sCont, sDrop, sRet, sRetN, sIf, sSet, sPar, sAsg, sRaise, gN, gE, gC, gU, gS, qVar, qC, qBin, qTB, qChain, qNot, qAnd, qOr, bd_bl, qNotT, qAndT, qOrT, qTru, tru_non, tru_bl, tru_int, tru_str, tru_tup, tru_rol, tru_ref, qIf, qNil, qCons, qTup, qLst, qCB, cInt_i, cInt2_ii, cToInt_i, cToInt_b, cLen_s, cLen_t, cLen_r, cLen_l, cTuple_t, cTuple_r, cTuple_l, cList_t, cList_r, cList_l, qNeg, oI_ii, oAdd_ii, oSub, oMul, oDiv, oMod, oPow, oEq, oNe, oEqW_ii, oEqW_ss, oEqW_bb, oLt, oLe, oGt, oGe, oOrd_ii, oOrd_ss, oIx_t, oIx_r, oIx_l, oIx_s, qNo, qPart, qSl, oSl_t, oSl_r, oSl_l, oSl_s, qMeth, mAppend_1, iSeq, iRange1, iRange2, qCall, endsF, startD, List.map_cons, List.map_nil, List.length_cons, List.length_nil, List.length_map, List.cons_append, List.nil_append, List.replicate, List.getElem?_cons_zero, List.getElem?_cons_succ, List.set_cons_zero, List.set_cons_succ, Nat.reduceAdd, Nat.reduceSub, if_true, if_false, id, ups_same, ex_lst, ex_lst2, ex_some, atI_0, atI_1, atI_2, atI_3, ixN_0, ixN_1, ixN_21, e5]
    refine ⟨_, rfl, by decide, h _ ?_⟩
    exact ((Sub.refl S).new hq).trans (sub.trans (hs1.new hp3))
theorem TabOk.of {tb : List (Addr × Str)} {S S' : Sto} (t : TabOk tb S) (h : Sub S S') (h2 : ∀ b o, S' b = some o → S b = some o ∨ ∃ ds, o = .lst ds) : TabOk tb S' :=
  ⟨fun p hp => h _ _ (t.1 p hp), fun a q e => by
    rcases h2 _ _ e with z | ⟨ds, z⟩
    · exact t.2 a q z
    · cases z⟩
/-- what _law_told(lambda: ..) is -/
theorem told_ok (nd : ad.six.Nodup) {tb : List (Addr × Str)} {nm : Str} {loc : PL.Loc} {S : Sto} {P : PD} {E : PX} {q : QE} (tok : TabOk tb S)
    (h : ∀ (S1 : Sto) (P1 : PD) (E1 : PX), Sub S S1 → TabOk tb S1 → (∀ d S2, Sub S S2 → P (.tup [.str "told", d]) S → P1 d S2) → (∀ k S2, k < 6 → Sub S S2 → P (.tup [.str (nmk k)]) S → E1 { cls := ad.row k } S2) → q loc S1 P1 E1) :
    qLam tb N__law_told nm (r__law_told ad) q loc S P E := by
  refine ⟨tok, fun f c' S1 sub hc tok1 => ?_⟩
  unfold r__law_told sTry
  simp only [sSeq, sNext, sBreak, sCont, sDrop, sRet, sRetN, sIf, sSet, sPar, sAsg, sRaise, gN, gE, gC, gU, gS, qVar, qC, qBin, qTB, qChain, qNot, qAnd, qOr, bd_bl, qNotT, qAndT, qOrT, qTru, tru_non, tru_bl, tru_int, tru_str, tru_tup, tru_rol, tru_ref, qIf, qNil, qCons, qTup, qLst, qCB, cInt_i, cInt2_ii, cToInt_i, cToInt_b, cLen_s, cLen_t, cLen_r, cLen_l, cTuple_t, cTuple_r, cTuple_l, cList_t, cList_r, cList_l, qNeg, oI_ii, oAdd_ii, oSub, oMul, oDiv, oMod, oPow, oEq, oNe, oEqW_ii, oEqW_ss, oEqW_bb, oLt, oLe, oGt, oGe, oOrd_ii, oOrd_ss, oIx_t, oIx_r, oIx_l, oIx_s, qNo, qPart, qSl, oSl_t, oSl_r, oSl_l, oSl_s, qMeth, mAppend_1, iSeq, iRange1, iRange2, qCall, endsF, startD, List.map_cons, List.map_nil, List.length_cons, List.length_nil, List.length_map, List.cons_append, List.nil_append, List.replicate, List.getElem?_cons_zero, List.getElem?_cons_succ, List.set_cons_zero, List.set_cons_succ, Nat.reduceAdd, Nat.reduceSub, if_true, if_false, id, ups_same, ex_lst, ex_lst2, ex_some, atI_0, atI_1, atI_2, atI_3, ixN_0, ixN_1, ixN_21, qAct]
  refine ⟨trivial, hc, h S1 _ _ sub tok1 (fun d S2 s2 hp => ⟨sz2, S, s2, hp⟩) fun k S2 hk s2 hp => ⟨rfl, ?_, fun a ha => ?_⟩⟩
  · unfold Ad.row
    rw [List.getD_eq_getElem?_getD, List.getElem?_eq_getElem (show k < ad.six.length from hk)]
    exact List.getElem_mem _
  · exact told_s nd hk fun S' s' => ⟨S, s2.trans s', hp⟩
end K01

namespace K01
open PySem PySem.Spec PyProof.Rows L2 PL
variable {ad : Ad}
/-- a comparison that holds -/
theorem check_ok {tb : List (Addr × Str)} {P : QN} {loc : PL.Loc} {S : Sto} {told due : QE} {a b : D} {p : PyData} (ht : ∀ (Q : PD) (E : PX), Q a S → told loc S Q E) (hd : ∀ (Q : PD) (E : PX), (∀ S', Sub S S' → TabOk tb S' → Q b S') → due loc S Q E)
    (da : Dat S a p) (db : Dat S b p) (hg : good (.list [p])) (hn : ∀ S', Sub S S' → TabOk tb S' → P.nx loc S') :
    sIf (qNotT (qTru (qCall (sp__law_same ad) (qCons told (qCons due qNil))))) (sRet (qC (.bl false))) sNext P loc S := by
  simp only [sp__law_same, sSeq, sNext, sBreak, sCont, sDrop, sRet, sRetN, sIf, sSet, sPar, sAsg, sRaise, gN, gE, gC, gU, gS, qVar, qC, qBin, qTB, qChain, qNot, qAnd, qOr, bd_bl, qNotT, qAndT, qOrT, qTru, tru_non, tru_bl, tru_int, tru_str, tru_tup, tru_rol, tru_ref, qIf, qNil, qCons, qTup, qLst, qCB, cInt_i, cInt2_ii, cToInt_i, cToInt_b, cLen_s, cLen_t, cLen_r, cLen_l, cTuple_t, cTuple_r, cTuple_l, cList_t, cList_r, cList_l, qNeg, oI_ii, oAdd_ii, oSub, oMul, oDiv, oMod, oPow, oEq, oNe, oEqW_ii, oEqW_ss, oEqW_bb, oLt, oLe, oGt, oGe, oOrd_ii, oOrd_ss, oIx_t, oIx_r, oIx_l, oIx_s, qNo, qPart, qSl, oSl_t, oSl_r, oSl_l, oSl_s, qMeth, mAppend_1, iSeq, iRange1, iRange2, qCall, endsF, startD, List.map_cons, List.map_nil, List.length_cons, List.length_nil, List.length_map, List.cons_append, List.nil_append, List.replicate, List.getElem?_cons_zero, List.getElem?_cons_succ, List.set_cons_zero, List.set_cons_succ, Nat.reduceAdd, Nat.reduceSub, if_true, if_false, id, ups_same, ex_lst, ex_lst2, ex_some, atI_0, atI_1, atI_2, atI_3, ixN_0, ixN_1, ixN_21]
  refine ht _ _ (hd _ _ fun S' s' t' => ⟨a, b, p, rfl, Dat.sub s' _ _ da, Dat.sub s' _ _ db, hg, ?_⟩)
  exact hn S' s' t'
structure Inv (tb : List (Addr × Str)) (s n : Addr) (xs : List Int) (k : Int) (S : Sto) : Prop where
  st : Strm S s n xs k
  tok : TabOk tb S
theorem Inv.sub {tb : List (Addr × Str)} {s n : Addr} {xs : List Int} {k : Int} {S S' : Sto} (h : Inv tb s n xs k S) (b : Sub S S') (t : TabOk tb S') : Inv tb s n xs k S' := ⟨h.st.sub b, t⟩
theorem Inv.fresh {tb : List (Addr × Str)} {s n p : Addr} {xs : List Int} {k : Int} {S : Sto} {ds : List D} (h : Inv tb s n xs k S) (hp : S p = none) : Inv tb s n xs k (ups S p (.lst ds)) := ⟨h.st.fresh hp, h.tok.new hp⟩
theorem Inv.step {tb : List (Addr × Str)} {s n : Addr} {xs : List Int} {k j : Int} {S : Sto} (h : Inv tb s n xs k S) (hj : 0 ≤ j) : Inv tb s n xs j (stepS S s n j) := ⟨h.st.next hj, h.tok.set h.st.st⟩
def prD (q : Int × Int) : D := .tup [.int q.1, .int q.2]
def Pr (q : Int × Int) : Prop := Sm q.1 ∧ Sm q.2 ∧ q.2 ≠ 0
theorem log60 {z : Int} (h : Sm z) : z.natAbs.log2 < 60 := log_of h.natAbs (by decide)
def prP (a b : Int) : PyData := .tuple [.str "told", .tuple [.int a, .int b]]
theorem dat_pr (S : Sto) (a b : Int) : Dat S (.tup [.str "told", .tup [.int a, .int b]]) (prP a b) := Dat.pure (.tup [.str "told", .tup [.int a, .int b]]) rfl
theorem good_pr {a b : Int} (ha : a.natAbs.log2 < 1000) (hb : b.natAbs.log2 < 1000) : good (.list [prP a b]) := by
  refine good_of ?_ ?_ ?_
  · have e : (("told" : Str).cps.toList.all fun c => decide (c < 16 ^ 8)) = true := by decide +kernel
    simp only [prP, fine, fines, e, Bool.and_true, Bool.true_and, Bool.and_eq_true, decide_eq_true_eq]
    omega
  · have e : ("told" : Str).length = 4 := by decide +kernel
    simp only [prP, sz, szs, e]
    omega
  · show 3 ≤ 60
    decide
def blP (b : Bool) : PyData := .tuple [.str "told", .bool b]
theorem dat_bl (S : Sto) (b : Bool) : Dat S (.tup [.str "told", .bl b]) (blP b) := Dat.pure (.tup [.str "told", .bl b]) rfl
theorem good_bl (b : Bool) : good (.list [blP b]) := by
  refine good_of ?_ ?_ ?_
  · have e : (("told" : Str).cps.toList.all fun c => decide (c < 16 ^ 8)) = true := by decide +kernel
    simp only [blP, fine, fines, e, Bool.and_true]
  · have e : ("told" : Str).length = 4 := by decide +kernel
    simp only [blP, sz, szs, e]
    omega
  · show 2 ≤ 60
    decide
def oneP (x : Str) : PyData := .tuple [.str x]
theorem dat_one (S : Sto) (x : Str) : Dat S (.tup [.str x]) (oneP x) := Dat.pure (.tup [.str x]) rfl
theorem good_one : good (.list [oneP "refused"]) := by
  refine good_of ?_ ?_ ?_
  · have e : (("refused" : Str).cps.toList.all fun c => decide (c < 16 ^ 8)) = true := by decide +kernel
    simp only [oneP, fine, fines, e, Bool.and_true]
  · have e : ("refused" : Str).length = 7 := by decide +kernel
    simp only [oneP, sz, szs, e]
    omega
  · show 2 ≤ 60
    decide
section
variable {tb : List (Addr × Str)} {nm : Str} {s n : Addr} {xs : List Int} {k : Int} {S : Sto} {P : QN} {y0 y1 y2 y3 y4 y5 y6 y7 y8 y9 y10 y11 y12 y13 : Option D} {top below : Int}
theorem c6_ok (nd : ad.six.Nodup) (tok : TabOk tb S) (ht : Sm top) (hb : Sm below) {due : D} (hd : (below = 0 ∧ due = .tup [.str "refused"]) ∨ (below ≠ 0 ∧ due = .tup [.str "told", redD top below]))
    (hn : ∀ S', Sub S S' → TabOk tb S' → P.nx [y0, y1, y2, y3, y4, y5, some (.int top), some (.int below), some due, y9, y10, y11, y12, y13] S') :
    r_law_c6 ad tb nm P [y0, y1, y2, y3, y4, y5, some (.int top), some (.int below), some due, y9, y10, y11, y12, y13] S := by
  unfold r_law_c6
  obtain ⟨p, dp, gp⟩ : ∃ p, Dat S due p ∧ good (.list [p]) := by
    rcases hd with ⟨_, rfl⟩ | ⟨h, rfl⟩
    · exact ⟨_, dat_one S _, good_one⟩
    · have hr := redF_sm h ht hb
      exact ⟨_, dat_pr S _ _, good_pr (Nat.lt_trans (log60 hr.1) (by decide)) (Nat.lt_trans (log60 hr.2.1) (by decide))⟩
  refine check_ok (a := due) (b := due) (p := p) (fun Q E hQ => told_ok nd tok fun S1 P1 E1 sub tok1 h1 h2 => ?_) (fun Q E hQ => ?_) dp dp gp hn
  · simp only [sp_fraction, sSeq, sNext, sBreak, sCont, sDrop, sRet, sRetN, sIf, sSet, sPar, sAsg, sRaise, gN, gE, gC, gU, gS, qVar, qC, qBin, qTB, qChain, qNot, qAnd, qOr, bd_bl, qNotT, qAndT, qOrT, qTru, tru_non, tru_bl, tru_int, tru_str, tru_tup, tru_rol, tru_ref, qIf, qNil, qCons, qTup, qLst, qCB, cInt_i, cInt2_ii, cToInt_i, cToInt_b, cLen_s, cLen_t, cLen_r, cLen_l, cTuple_t, cTuple_r, cTuple_l, cList_t, cList_r, cList_l, qNeg, oI_ii, oAdd_ii, oSub, oMul, oDiv, oMod, oPow, oEq, oNe, oEqW_ii, oEqW_ss, oEqW_bb, oLt, oLe, oGt, oGe, oOrd_ii, oOrd_ss, oIx_t, oIx_r, oIx_l, oIx_s, qNo, qPart, qSl, oSl_t, oSl_r, oSl_l, oSl_s, qMeth, mAppend_1, iSeq, iRange1, iRange2, qCall, endsF, startD, List.map_cons, List.map_nil, List.length_cons, List.length_nil, List.length_map, List.cons_append, List.nil_append, List.replicate, List.getElem?_cons_zero, List.getElem?_cons_succ, List.set_cons_zero, List.set_cons_succ, Nat.reduceAdd, Nat.reduceSub, if_true, if_false, id, ups_same, ex_lst, ex_lst2, ex_some, atI_0, atI_1, atI_2, atI_3, ixN_0, ixN_1, ixN_21]
    refine ⟨top, below, rfl, hb.lg, fun h0 => ?_, fun h0 => ?_⟩
    · rcases hd with ⟨_, rfl⟩ | ⟨h, rfl⟩
      · exact h2 0 S1 (by decide) sub hQ
      · exact absurd h0 h
    · rcases hd with ⟨h, rfl⟩ | ⟨_, rfl⟩
      · exact absurd h h0
      · exact h1 _ _ sub hQ
  · simp only [sSeq, sNext, sBreak, sCont, sDrop, sRet, sRetN, sIf, sSet, sPar, sAsg, sRaise, gN, gE, gC, gU, gS, qVar, qC, qBin, qTB, qChain, qNot, qAnd, qOr, bd_bl, qNotT, qAndT, qOrT, qTru, tru_non, tru_bl, tru_int, tru_str, tru_tup, tru_rol, tru_ref, qIf, qNil, qCons, qTup, qLst, qCB, cInt_i, cInt2_ii, cToInt_i, cToInt_b, cLen_s, cLen_t, cLen_r, cLen_l, cTuple_t, cTuple_r, cTuple_l, cList_t, cList_r, cList_l, qNeg, oI_ii, oAdd_ii, oSub, oMul, oDiv, oMod, oPow, oEq, oNe, oEqW_ii, oEqW_ss, oEqW_bb, oLt, oLe, oGt, oGe, oOrd_ii, oOrd_ss, oIx_t, oIx_r, oIx_l, oIx_s, qNo, qPart, qSl, oSl_t, oSl_r, oSl_l, oSl_s, qMeth, mAppend_1, iSeq, iRange1, iRange2, qCall, endsF, startD, List.map_cons, List.map_nil, List.length_cons, List.length_nil, List.length_map, List.cons_append, List.nil_append, List.replicate, List.getElem?_cons_zero, List.getElem?_cons_succ, List.set_cons_zero, List.set_cons_succ, Nat.reduceAdd, Nat.reduceSub, if_true, if_false, id, ups_same, ex_lst, ex_lst2, ex_some, atI_0, atI_1, atI_2, atI_3, ixN_0, ixN_1, ixN_21]
    exact hQ S (Sub.refl _) tok
theorem c5_ok (nd : ad.six.Nodup) (tok : TabOk tb S) (hn : ∀ S', Sub S S' → TabOk tb S' → P.nx [y0, y1, y2, y3, y4, y5, some (.int top), some (.int below), y8, y9, y10, y11, y12, y13] S') :
    r_law_c5 ad tb nm P [y0, y1, y2, y3, y4, y5, some (.int top), some (.int below), y8, y9, y10, y11, y12, y13] S := by
  unfold r_law_c5
  refine check_ok (a := .tup [.str "told", .bl (isFr [top, below])]) (b := .tup [.str "told", .bl (isFr [top, below])]) (p := blP _) (fun Q E hQ => told_ok nd tok fun S1 P1 E1 sub tok1 h1 h2 => ?_) (fun Q E hQ => ?_) (dat_bl S _) (dat_bl S _) (good_bl _) hn
  · simp only [sp_is_fraction, sSeq, sNext, sBreak, sCont, sDrop, sRet, sRetN, sIf, sSet, sPar, sAsg, sRaise, gN, gE, gC, gU, gS, qVar, qC, qBin, qTB, qChain, qNot, qAnd, qOr, bd_bl, qNotT, qAndT, qOrT, qTru, tru_non, tru_bl, tru_int, tru_str, tru_tup, tru_rol, tru_ref, qIf, qNil, qCons, qTup, qLst, qCB, cInt_i, cInt2_ii, cToInt_i, cToInt_b, cLen_s, cLen_t, cLen_r, cLen_l, cTuple_t, cTuple_r, cTuple_l, cList_t, cList_r, cList_l, qNeg, oI_ii, oAdd_ii, oSub, oMul, oDiv, oMod, oPow, oEq, oNe, oEqW_ii, oEqW_ss, oEqW_bb, oLt, oLe, oGt, oGe, oOrd_ii, oOrd_ss, oIx_t, oIx_r, oIx_l, oIx_s, qNo, qPart, qSl, oSl_t, oSl_r, oSl_l, oSl_s, qMeth, mAppend_1, iSeq, iRange1, iRange2, qCall, endsF, startD, List.map_cons, List.map_nil, List.length_cons, List.length_nil, List.length_map, List.cons_append, List.nil_append, List.replicate, List.getElem?_cons_zero, List.getElem?_cons_succ, List.set_cons_zero, List.set_cons_succ, Nat.reduceAdd, Nat.reduceSub, if_true, if_false, id, ups_same, ex_lst, ex_lst2, ex_some, atI_0, atI_1, atI_2, atI_3, ixN_0, ixN_1, ixN_21]
    exact ⟨sz2, [top, below], rfl, h1 _ _ sub hQ⟩
  · simp only [sp__law_common, sp_divisor, sSeq, sNext, sBreak, sCont, sDrop, sRet, sRetN, sIf, sSet, sPar, sAsg, sRaise, gN, gE, gC, gU, gS, qVar, qC, qBin, qTB, qChain, qNot, qAnd, qOr, bd_bl, qNotT, qAndT, qOrT, qTru, tru_non, tru_bl, tru_int, tru_str, tru_tup, tru_rol, tru_ref, qIf, qNil, qCons, qTup, qLst, qCB, cInt_i, cInt2_ii, cToInt_i, cToInt_b, cLen_s, cLen_t, cLen_r, cLen_l, cTuple_t, cTuple_r, cTuple_l, cList_t, cList_r, cList_l, qNeg, oI_ii, oAdd_ii, oSub, oMul, oDiv, oMod, oPow, oEq, oNe, oEqW_ii, oEqW_ss, oEqW_bb, oLt, oLe, oGt, oGe, oOrd_ii, oOrd_ss, oIx_t, oIx_r, oIx_l, oIx_s, qNo, qPart, qSl, oSl_t, oSl_r, oSl_l, oSl_s, qMeth, mAppend_1, iSeq, iRange1, iRange2, qCall, endsF, startD, List.map_cons, List.map_nil, List.length_cons, List.length_nil, List.length_map, List.cons_append, List.nil_append, List.replicate, List.getElem?_cons_zero, List.getElem?_cons_succ, List.set_cons_zero, List.set_cons_succ, Nat.reduceAdd, Nat.reduceSub, if_true, if_false, id, ups_same, ex_lst, ex_lst2, ex_some, atI_0, atI_1, atI_2, atI_3, ixN_0, ixN_1, ixN_21]
    have hQ2 : Q (.tup [.str "told", .bl (decide (1 ≤ below) && decide ((Int.gcd top below : Int) = 1))]) S := hQ S (Sub.refl _) tok
    by_cases h : 0 < below
    · rw [decide_eq_true (show 1 ≤ below by omega), Bool.true_and] at hQ2
      exact ifT (decide_eq_true h) ⟨top, below, rfl, sz2, hQ2⟩
    · rw [decide_eq_false (show ¬ 1 ≤ below by omega), Bool.false_and] at hQ2
      exact ifF (decide_eq_false h) ⟨sz2, hQ2⟩
theorem b3_ok (nd : ad.six.Nodup) {pp : Addr} {qs : List (Int × Int)} (I : Inv tb s n xs k S) (hk : k < 700000000) (hpp : S pp = some (.lst (qs.map prD))) (hps : pp ≠ s) (hpn : pp ≠ n) (hq : ∀ q ∈ qs, Pr q) (hql : qs.length < 100)
    (hn : ∀ (S' : Sto) (qs' : List (Int × Int)) (z6 z7 z8 : Option D), Inv tb s n xs (k + 14) S' → S' pp = some (.lst (qs'.map prD)) → (∀ q ∈ qs', Pr q) → qs'.length ≤ qs.length + 1 → P.nx [y0, some (.ref s), y2, y3, some (.ref pp), y5, z6, z7, z8, y9, y10, y11, y12, y13] S') :
    r_law_b3 ad tb nm P [y0, some (.ref s), y2, y3, some (.ref pp), y5, y6, y7, y8, y9, y10, y11, y12, y13] S := by
  have hk0 := I.st.k0
  simp only [r_law_b3, sp__law_number, sp__law_reduced, sSeq, sNext, sBreak, sCont, sDrop, sRet, sRetN, sIf, sSet, sPar, sAsg, sRaise, gN, gE, gC, gU, gS, qVar, qC, qBin, qTB, qChain, qNot, qAnd, qOr, bd_bl, qNotT, qAndT, qOrT, qTru, tru_non, tru_bl, tru_int, tru_str, tru_tup, tru_rol, tru_ref, qIf, qNil, qCons, qTup, qLst, qCB, cInt_i, cInt2_ii, cToInt_i, cToInt_b, cLen_s, cLen_t, cLen_r, cLen_l, cTuple_t, cTuple_r, cTuple_l, cList_t, cList_r, cList_l, qNeg, oI_ii, oAdd_ii, oSub, oMul, oDiv, oMod, oPow, oEq, oNe, oEqW_ii, oEqW_ss, oEqW_bb, oLt, oLe, oGt, oGe, oOrd_ii, oOrd_ss, oIx_t, oIx_r, oIx_l, oIx_s, qNo, qPart, qSl, oSl_t, oSl_r, oSl_l, oSl_s, qMeth, mAppend_1, iSeq, iRange1, iRange2, qCall, endsF, startD, List.map_cons, List.map_nil, List.length_cons, List.length_nil, List.length_map, List.cons_append, List.nil_append, List.replicate, List.getElem?_cons_zero, List.getElem?_cons_succ, List.set_cons_zero, List.set_cons_succ, Nat.reduceAdd, Nat.reduceSub, if_true, if_false, id, ups_same, ex_lst, ex_lst2, ex_some, atI_0, atI_1, atI_2, atI_3, ixN_0, ixN_1, ixN_21]
  refine ⟨s, n, xs, k, rfl, I.st, by omega, fun top ht => ⟨s, n, xs, _, rfl, I.st.next (by omega), by omega, fun below hb => ⟨sz1, ?_⟩⟩⟩
  rw [stepS_stepS, show k + 7 + 7 = k + 14 by omega]
  have I2 : Inv tb s n xs (k + 14) (stepS S s n (k + 14)) := I.step (by omega)
  have hpp2 : stepS S s n (k + 14) pp = some (.lst (qs.map prD)) := by rw [stepS_ne hps]; exact hpp
  by_cases h0 : below = 0
  · refine ifF (by simpa using h0) (c6_ok nd I2.tok ht hb (.inl ⟨h0, rfl⟩) fun S' s' t' => c5_ok nd t' fun S2 s2 t2 => ?_)
    exact hn S2 qs _ _ _ (I2.sub (s'.trans s2) t2) (s2 _ _ (s' _ _ hpp2)) hq (by omega)
  · have hr := redF_sm h0 ht hb
    refine ifT (by simpa using h0) ⟨top, below, rfl, hb.lg, h0, sz2, ⟨_, hpp2⟩, _, hpp2, szBig (by simp; omega), ?_⟩
    have e : qs.map prD ++ [redD top below] = (qs ++ [redF top below]).map prD := by simp [prD]
    rw [e]
    have I3 : Inv tb s n xs (k + 14) (ups (stepS S s n (k + 14)) pp (.lst ((qs ++ [redF top below]).map prD))) := ⟨⟨by rw [ups_ne (Ne.symm hps)]; exact I2.st.st, by rw [ups_ne (Ne.symm hpn)]; exact I2.st.nm, I2.st.ne, I2.st.ok, I2.st.k0⟩, I2.tok.set hpp2⟩
    refine c6_ok nd I3.tok ht hb (.inr ⟨h0, rfl⟩) fun S' s' t' => c5_ok nd t' fun S2 s2 t2 => ?_
    refine hn S2 (qs ++ [redF top below]) _ _ _ (I3.sub (s'.trans s2) t2) (s2 _ _ (s' _ _ ups_same)) (fun q hq' => ?_) (by simp)
    rcases List.mem_append.mp hq' with h | h
    · exact hq q h
    · obtain rfl : q = redF top below := by simpa using h
      exact hr
end
end K01

namespace K01
open PySem PySem.Spec PyProof.Rows L2 PL
variable {ad : Ad}
theorem abs_mul {a b : Int} (ha : Sm a) (hb : Sm b) : (a * b).natAbs < 2 ^ 120 := by
  rw [Int.natAbs_mul]
  have h : a.natAbs * b.natAbs < 2 ^ 60 * 2 ^ 60 := Nat.mul_lt_mul'' ha.natAbs hb.natAbs
  exact h
theorem abs_sum {a b c d : Int} (ha : Sm a) (hb : Sm b) (hc : Sm c) (hd : Sm d) : (a * d + c * b).natAbs < 2 ^ 121 := by
  have h1 := abs_mul ha hd
  have h2 := abs_mul hc hb
  have h3 := Int.natAbs_add_le (a * d) (c * b)
  omega
theorem log1000 {z : Int} (h : z.natAbs < 2 ^ 121) : z.natAbs.log2 < 1000 := Nat.lt_trans (log_of h (by decide)) (by decide)
theorem red1000 {a b : Int} (ha : a.natAbs < 2 ^ 121) (hb : b.natAbs < 2 ^ 121) (h0 : b ≠ 0) : (redF a b).1.natAbs.log2 < 1000 ∧ (redF a b).2.natAbs.log2 < 1000 := by
  have h := redF_ok (a := a) h0
  exact ⟨log1000 (Nat.lt_of_le_of_lt h.1 ha), log1000 (Nat.lt_of_le_of_lt h.2.1 hb)⟩
section
variable {tb : List (Addr × Str)} {nm : Str} {s n : Addr} {xs : List Int} {k : Int} {S : Sto} {P : QN} {y0 y1 y2 y3 y4 y5 y6 y7 y8 y9 y10 y11 y12 y13 : Option D} {q r : Int × Int}
theorem c4_ok (nd : ad.six.Nodup) (tok : TabOk tb S) (hq : Pr q) (hr : Pr r) (hn : ∀ S', Sub S S' → TabOk tb S' → P.nx [y0, y1, y2, y3, y4, y5, y6, y7, y8, some (redD (q.1 * r.2 + r.1 * q.2) (q.2 * r.2)), some (prD q), some (prD r), y12, y13] S') :
    r_law_c4 ad tb nm P [y0, y1, y2, y3, y4, y5, y6, y7, y8, some (redD (q.1 * r.2 + r.1 * q.2) (q.2 * r.2)), some (prD q), some (prD r), y12, y13] S := by
  unfold r_law_c4
  have h0 : q.2 * r.2 ≠ 0 := Int.mul_ne_zero hq.2.2 hr.2.2
  have hg := red1000 (abs_sum hq.1 hq.2.1 hr.1 hr.2.1) (Nat.lt_trans (abs_mul hq.2.1 hr.2.1) (by decide)) h0
  refine check_ok (a := .tup [.str "told", redD (q.1 * r.2 + r.1 * q.2) (q.2 * r.2)]) (b := .tup [.str "told", redD (q.1 * r.2 + r.1 * q.2) (q.2 * r.2)]) (p := prP _ _) (fun Q E hQ => told_ok nd tok fun S1 P1 E1 sub tok1 h1 h2 => ?_) (fun Q E hQ => ?_) (dat_pr S _ _) (dat_pr S _ _) (good_pr hg.1 hg.2) hn
  · simp only [sp_added, sSeq, sNext, sBreak, sCont, sDrop, sRet, sRetN, sIf, sSet, sPar, sAsg, sRaise, gN, gE, gC, gU, gS, qVar, qC, qBin, qTB, qChain, qNot, qAnd, qOr, bd_bl, qNotT, qAndT, qOrT, qTru, tru_non, tru_bl, tru_int, tru_str, tru_tup, tru_rol, tru_ref, qIf, qNil, qCons, qTup, qLst, qCB, cInt_i, cInt2_ii, cToInt_i, cToInt_b, cLen_s, cLen_t, cLen_r, cLen_l, cTuple_t, cTuple_r, cTuple_l, cList_t, cList_r, cList_l, qNeg, oI_ii, oAdd_ii, oSub, oMul, oDiv, oMod, oPow, oEq, oNe, oEqW_ii, oEqW_ss, oEqW_bb, oLt, oLe, oGt, oGe, oOrd_ii, oOrd_ss, oIx_t, oIx_r, oIx_l, oIx_s, qNo, qPart, qSl, oSl_t, oSl_r, oSl_l, oSl_s, qMeth, mAppend_1, iSeq, iRange1, iRange2, qCall, endsF, startD, List.map_cons, List.map_nil, List.length_cons, List.length_nil, List.length_map, List.cons_append, List.nil_append, List.replicate, List.getElem?_cons_zero, List.getElem?_cons_succ, List.set_cons_zero, List.set_cons_succ, Nat.reduceAdd, Nat.reduceSub, if_true, if_false, id, ups_same, ex_lst, ex_lst2, ex_some, atI_0, atI_1, atI_2, atI_3, ixN_0, ixN_1, ixN_21]
    exact ⟨q.1, q.2, r.1, r.2, rfl, hq.1, hq.2.1, hr.1, hr.2.1, h0, h1 _ _ sub hQ⟩
  · simp only [sSeq, sNext, sBreak, sCont, sDrop, sRet, sRetN, sIf, sSet, sPar, sAsg, sRaise, gN, gE, gC, gU, gS, qVar, qC, qBin, qTB, qChain, qNot, qAnd, qOr, bd_bl, qNotT, qAndT, qOrT, qTru, tru_non, tru_bl, tru_int, tru_str, tru_tup, tru_rol, tru_ref, qIf, qNil, qCons, qTup, qLst, qCB, cInt_i, cInt2_ii, cToInt_i, cToInt_b, cLen_s, cLen_t, cLen_r, cLen_l, cTuple_t, cTuple_r, cTuple_l, cList_t, cList_r, cList_l, qNeg, oI_ii, oAdd_ii, oSub, oMul, oDiv, oMod, oPow, oEq, oNe, oEqW_ii, oEqW_ss, oEqW_bb, oLt, oLe, oGt, oGe, oOrd_ii, oOrd_ss, oIx_t, oIx_r, oIx_l, oIx_s, qNo, qPart, qSl, oSl_t, oSl_r, oSl_l, oSl_s, qMeth, mAppend_1, iSeq, iRange1, iRange2, qCall, endsF, startD, List.map_cons, List.map_nil, List.length_cons, List.length_nil, List.length_map, List.cons_append, List.nil_append, List.replicate, List.getElem?_cons_zero, List.getElem?_cons_succ, List.set_cons_zero, List.set_cons_succ, Nat.reduceAdd, Nat.reduceSub, if_true, if_false, id, ups_same, ex_lst, ex_lst2, ex_some, atI_0, atI_1, atI_2, atI_3, ixN_0, ixN_1, ixN_21]
    exact ⟨sz2, hQ S (Sub.refl _) tok⟩
theorem c3_ok (nd : ad.six.Nodup) (tok : TabOk tb S) (hq : Pr q) (hr : Pr r) (hn : ∀ S', Sub S S' → TabOk tb S' → P.nx [y0, y1, y2, y3, y4, y5, y6, y7, y8, y9, some (prD q), some (prD r), y12, y13] S') :
    r_law_c3 ad tb nm P [y0, y1, y2, y3, y4, y5, y6, y7, y8, y9, some (prD q), some (prD r), y12, y13] S := by
  unfold r_law_c3
  have h0 : q.2 * r.2 ≠ 0 := Int.mul_ne_zero hq.2.2 hr.2.2
  have hg := red1000 (Nat.lt_trans (abs_mul hq.1 hr.1) (by decide)) (Nat.lt_trans (abs_mul hq.2.1 hr.2.1) (by decide)) h0
  refine check_ok (a := .tup [.str "told", redD (q.1 * r.1) (q.2 * r.2)]) (b := .tup [.str "told", redD (q.1 * r.1) (q.2 * r.2)]) (p := prP _ _) (fun Q E hQ => told_ok nd tok fun S1 P1 E1 sub tok1 h1 h2 => ?_) (fun Q E hQ => ?_) (dat_pr S _ _) (dat_pr S _ _) (good_pr hg.1 hg.2) hn
  · simp only [sp_times, sSeq, sNext, sBreak, sCont, sDrop, sRet, sRetN, sIf, sSet, sPar, sAsg, sRaise, gN, gE, gC, gU, gS, qVar, qC, qBin, qTB, qChain, qNot, qAnd, qOr, bd_bl, qNotT, qAndT, qOrT, qTru, tru_non, tru_bl, tru_int, tru_str, tru_tup, tru_rol, tru_ref, qIf, qNil, qCons, qTup, qLst, qCB, cInt_i, cInt2_ii, cToInt_i, cToInt_b, cLen_s, cLen_t, cLen_r, cLen_l, cTuple_t, cTuple_r, cTuple_l, cList_t, cList_r, cList_l, qNeg, oI_ii, oAdd_ii, oSub, oMul, oDiv, oMod, oPow, oEq, oNe, oEqW_ii, oEqW_ss, oEqW_bb, oLt, oLe, oGt, oGe, oOrd_ii, oOrd_ss, oIx_t, oIx_r, oIx_l, oIx_s, qNo, qPart, qSl, oSl_t, oSl_r, oSl_l, oSl_s, qMeth, mAppend_1, iSeq, iRange1, iRange2, qCall, endsF, startD, List.map_cons, List.map_nil, List.length_cons, List.length_nil, List.length_map, List.cons_append, List.nil_append, List.replicate, List.getElem?_cons_zero, List.getElem?_cons_succ, List.set_cons_zero, List.set_cons_succ, Nat.reduceAdd, Nat.reduceSub, if_true, if_false, id, ups_same, ex_lst, ex_lst2, ex_some, atI_0, atI_1, atI_2, atI_3, ixN_0, ixN_1, ixN_21]
    exact ⟨q.1, q.2, r.1, r.2, rfl, hq.1, hq.2.1, hr.1, hr.2.1, h0, h1 _ _ sub hQ⟩
  · simp only [sp__law_reduced, prD, sSeq, sNext, sBreak, sCont, sDrop, sRet, sRetN, sIf, sSet, sPar, sAsg, sRaise, gN, gE, gC, gU, gS, qVar, qC, qBin, qTB, qChain, qNot, qAnd, qOr, bd_bl, qNotT, qAndT, qOrT, qTru, tru_non, tru_bl, tru_int, tru_str, tru_tup, tru_rol, tru_ref, qIf, qNil, qCons, qTup, qLst, qCB, cInt_i, cInt2_ii, cToInt_i, cToInt_b, cLen_s, cLen_t, cLen_r, cLen_l, cTuple_t, cTuple_r, cTuple_l, cList_t, cList_r, cList_l, qNeg, oI_ii, oAdd_ii, oSub, oMul, oDiv, oMod, oPow, oEq, oNe, oEqW_ii, oEqW_ss, oEqW_bb, oLt, oLe, oGt, oGe, oOrd_ii, oOrd_ss, oIx_t, oIx_r, oIx_l, oIx_s, qNo, qPart, qSl, oSl_t, oSl_r, oSl_l, oSl_s, qMeth, mAppend_1, iSeq, iRange1, iRange2, qCall, endsF, startD, List.map_cons, List.map_nil, List.length_cons, List.length_nil, List.length_map, List.cons_append, List.nil_append, List.replicate, List.getElem?_cons_zero, List.getElem?_cons_succ, List.set_cons_zero, List.set_cons_succ, Nat.reduceAdd, Nat.reduceSub, if_true, if_false, id, ups_same, ex_lst, ex_lst2, ex_some, atI_0, atI_1, atI_2, atI_3, ixN_0, ixN_1, ixN_21]
    exact ⟨hq.1.mul, hq.2.1.mul, _, _, rfl, hq.2.1.lg2 hr.2.1, h0, sz2, hQ S (Sub.refl _) tok⟩
theorem c2_ok (nd : ad.six.Nodup) (tok : TabOk tb S) (hq : Pr q) (hr : Pr r) (hn : ∀ S', Sub S S' → TabOk tb S' → P.nx [y0, y1, y2, y3, y4, y5, y6, y7, y8, y9, y10, y11, some (prD q), some (prD r)] S') :
    r_law_c2 ad tb nm P [y0, y1, y2, y3, y4, y5, y6, y7, y8, y9, y10, y11, some (prD q), some (prD r)] S := by
  unfold r_law_c2
  refine check_ok (a := .tup [.str "told", .bl (decide (q.1 * r.2 < r.1 * q.2))]) (b := .tup [.str "told", .bl (decide (q.1 * r.2 < r.1 * q.2))]) (p := blP _) (fun Q E hQ => told_ok nd tok fun S1 P1 E1 sub tok1 h1 h2 => ?_) (fun Q E hQ => ?_) (dat_bl S _) (dat_bl S _) (good_bl _) hn
  · simp only [sp_less, sSeq, sNext, sBreak, sCont, sDrop, sRet, sRetN, sIf, sSet, sPar, sAsg, sRaise, gN, gE, gC, gU, gS, qVar, qC, qBin, qTB, qChain, qNot, qAnd, qOr, bd_bl, qNotT, qAndT, qOrT, qTru, tru_non, tru_bl, tru_int, tru_str, tru_tup, tru_rol, tru_ref, qIf, qNil, qCons, qTup, qLst, qCB, cInt_i, cInt2_ii, cToInt_i, cToInt_b, cLen_s, cLen_t, cLen_r, cLen_l, cTuple_t, cTuple_r, cTuple_l, cList_t, cList_r, cList_l, qNeg, oI_ii, oAdd_ii, oSub, oMul, oDiv, oMod, oPow, oEq, oNe, oEqW_ii, oEqW_ss, oEqW_bb, oLt, oLe, oGt, oGe, oOrd_ii, oOrd_ss, oIx_t, oIx_r, oIx_l, oIx_s, qNo, qPart, qSl, oSl_t, oSl_r, oSl_l, oSl_s, qMeth, mAppend_1, iSeq, iRange1, iRange2, qCall, endsF, startD, List.map_cons, List.map_nil, List.length_cons, List.length_nil, List.length_map, List.cons_append, List.nil_append, List.replicate, List.getElem?_cons_zero, List.getElem?_cons_succ, List.set_cons_zero, List.set_cons_succ, Nat.reduceAdd, Nat.reduceSub, if_true, if_false, id, ups_same, ex_lst, ex_lst2, ex_some, atI_0, atI_1, atI_2, atI_3, ixN_0, ixN_1, ixN_21]
    exact ⟨q.1, q.2, r.1, r.2, rfl, hq.1, hq.2.1, hr.1, hr.2.1, h1 _ _ sub hQ⟩
  · simp only [prD, sSeq, sNext, sBreak, sCont, sDrop, sRet, sRetN, sIf, sSet, sPar, sAsg, sRaise, gN, gE, gC, gU, gS, qVar, qC, qBin, qTB, qChain, qNot, qAnd, qOr, bd_bl, qNotT, qAndT, qOrT, qTru, tru_non, tru_bl, tru_int, tru_str, tru_tup, tru_rol, tru_ref, qIf, qNil, qCons, qTup, qLst, qCB, cInt_i, cInt2_ii, cToInt_i, cToInt_b, cLen_s, cLen_t, cLen_r, cLen_l, cTuple_t, cTuple_r, cTuple_l, cList_t, cList_r, cList_l, qNeg, oI_ii, oAdd_ii, oSub, oMul, oDiv, oMod, oPow, oEq, oNe, oEqW_ii, oEqW_ss, oEqW_bb, oLt, oLe, oGt, oGe, oOrd_ii, oOrd_ss, oIx_t, oIx_r, oIx_l, oIx_s, qNo, qPart, qSl, oSl_t, oSl_r, oSl_l, oSl_s, qMeth, mAppend_1, iSeq, iRange1, iRange2, qCall, endsF, startD, List.map_cons, List.map_nil, List.length_cons, List.length_nil, List.length_map, List.cons_append, List.nil_append, List.replicate, List.getElem?_cons_zero, List.getElem?_cons_succ, List.set_cons_zero, List.set_cons_succ, Nat.reduceAdd, Nat.reduceSub, if_true, if_false, id, ups_same, ex_lst, ex_lst2, ex_some, atI_0, atI_1, atI_2, atI_3, ixN_0, ixN_1, ixN_21]
    exact ⟨hq.1.mul, hr.1.mul, sz2, hQ S (Sub.refl _) tok⟩
def vals7 : List (List Int) := [[0, 1], [0, 2], [3, -1], [1, 2, 1], [1], [2, 4], [7, 1]]
def two7 : List PyData := [.tuple [.int 0, .int 1], .tuple [.int 7, .int 1]]
theorem vals_ok : ∀ v ∈ vals7, (two7.any fun z => PyData.eqv z (.tuple (v.map PyData.int))) = isFr v ∧ SeqAt.shaped (.tuple (v.map PyData.int)) = true := by decide +kernel
theorem dat_ints {S : Sto} : ∀ v : List Int, Dats S (v.map D.int) (v.map PyData.int)
  | [] => .nil
  | x :: v => .cons (.int x) (dat_ints v)
theorem c1_ok (nd : ad.six.Nodup) (tok : TabOk tb S) {v : List Int} (hv : v ∈ vals7) (hn : ∀ S', Sub S S' → TabOk tb S' → P.nx [y0, y1, y2, some (.tup (v.map D.int)), y4, y5, y6, y7, y8, y9, y10, y11, y12, y13] S') :
    r_law_c1 ad tb nm P [y0, y1, y2, some (.tup (v.map D.int)), y4, y5, y6, y7, y8, y9, y10, y11, y12, y13] S := by
  unfold r_law_c1
  refine check_ok (a := .tup [.str "told", .bl (isFr v)]) (b := .tup [.str "told", .bl (isFr v)]) (p := blP _) (fun Q E hQ => told_ok nd tok fun S1 P1 E1 sub tok1 h1 h2 => ?_) (fun Q E hQ => ?_) (dat_bl S _) (dat_bl S _) (good_bl _) hn
  · simp only [sp_is_fraction, sSeq, sNext, sBreak, sCont, sDrop, sRet, sRetN, sIf, sSet, sPar, sAsg, sRaise, gN, gE, gC, gU, gS, qVar, qC, qBin, qTB, qChain, qNot, qAnd, qOr, bd_bl, qNotT, qAndT, qOrT, qTru, tru_non, tru_bl, tru_int, tru_str, tru_tup, tru_rol, tru_ref, qIf, qNil, qCons, qTup, qLst, qCB, cInt_i, cInt2_ii, cToInt_i, cToInt_b, cLen_s, cLen_t, cLen_r, cLen_l, cTuple_t, cTuple_r, cTuple_l, cList_t, cList_r, cList_l, qNeg, oI_ii, oAdd_ii, oSub, oMul, oDiv, oMod, oPow, oEq, oNe, oEqW_ii, oEqW_ss, oEqW_bb, oLt, oLe, oGt, oGe, oOrd_ii, oOrd_ss, oIx_t, oIx_r, oIx_l, oIx_s, qNo, qPart, qSl, oSl_t, oSl_r, oSl_l, oSl_s, qMeth, mAppend_1, iSeq, iRange1, iRange2, qCall, endsF, startD, List.map_cons, List.map_nil, List.length_cons, List.length_nil, List.length_map, List.cons_append, List.nil_append, List.replicate, List.getElem?_cons_zero, List.getElem?_cons_succ, List.set_cons_zero, List.set_cons_succ, Nat.reduceAdd, Nat.reduceSub, if_true, if_false, id, ups_same, ex_lst, ex_lst2, ex_some, atI_0, atI_1, atI_2, atI_3, ixN_0, ixN_1, ixN_21]
    exact ⟨v, rfl, h1 _ _ sub hQ⟩
  · simp only [oInL, sSeq, sNext, sBreak, sCont, sDrop, sRet, sRetN, sIf, sSet, sPar, sAsg, sRaise, gN, gE, gC, gU, gS, qVar, qC, qBin, qTB, qChain, qNot, qAnd, qOr, bd_bl, qNotT, qAndT, qOrT, qTru, tru_non, tru_bl, tru_int, tru_str, tru_tup, tru_rol, tru_ref, qIf, qNil, qCons, qTup, qLst, qCB, cInt_i, cInt2_ii, cToInt_i, cToInt_b, cLen_s, cLen_t, cLen_r, cLen_l, cTuple_t, cTuple_r, cTuple_l, cList_t, cList_r, cList_l, qNeg, oI_ii, oAdd_ii, oSub, oMul, oDiv, oMod, oPow, oEq, oNe, oEqW_ii, oEqW_ss, oEqW_bb, oLt, oLe, oGt, oGe, oOrd_ii, oOrd_ss, oIx_t, oIx_r, oIx_l, oIx_s, qNo, qPart, qSl, oSl_t, oSl_r, oSl_l, oSl_s, qMeth, mAppend_1, iSeq, iRange1, iRange2, qCall, endsF, startD, List.map_cons, List.map_nil, List.length_cons, List.length_nil, List.length_map, List.cons_append, List.nil_append, List.replicate, List.getElem?_cons_zero, List.getElem?_cons_succ, List.set_cons_zero, List.set_cons_succ, Nat.reduceAdd, Nat.reduceSub, if_true, if_false, id, ups_same, ex_lst, ex_lst2, ex_some, atI_0, atI_1, atI_2, atI_3, ixN_0, ixN_1, ixN_21]
    refine ⟨sz2, sz2, sz2, fun p hp => ⟨.tuple (v.map PyData.int), two7, .tup (dat_ints v), .lst ups_same (.cons (.tup (.cons (.int 0) (.cons (.int 1) .nil))) (.cons (.tup (.cons (.int 7) (.cons (.int 1) .nil))) .nil)), (vals_ok v hv).2, by decide +kernel, sz2, ?_⟩⟩
    rw [(vals_ok v hv).1]
    exact hQ _ ((Sub.refl S).new hp) (tok.new hp)
theorem loopk_ok (nd : ad.six.Nodup) {pp : Addr} (I : Inv tb s n xs k S) (hk : k < 600000000) (hpp : S pp = some (.lst [])) (hps : pp ≠ s) (hpn : pp ≠ n)
    (hn : ∀ (S' : Sto) (qs : List (Int × Int)) (z5 z6 z7 z8 : Option D), Inv tb s n xs (k + 28) S' → S' pp = some (.lst (qs.map prD)) → (∀ q ∈ qs, Pr q) → qs.length ≤ 2 → P.nx [y0, some (.ref s), y2, y3, some (.ref pp), z5, z6, z7, z8, y9, y10, y11, y12, y13] S') :
    sFor (iRange1 (qCons (qC (.int 2)) qNil)) (gN 5) (r_law_b3 ad tb nm) P [y0, some (.ref s), y2, y3, some (.ref pp), y5, y6, y7, y8, y9, y10, y11, y12, y13] S := by
  have hk0 := I.st.k0
  unfold sFor
  simp only [sSeq, sNext, sBreak, sCont, sDrop, sRet, sRetN, sIf, sSet, sPar, sAsg, sRaise, gN, gE, gC, gU, gS, qVar, qC, qBin, qTB, qChain, qNot, qAnd, qOr, bd_bl, qNotT, qAndT, qOrT, qTru, tru_non, tru_bl, tru_int, tru_str, tru_tup, tru_rol, tru_ref, qIf, qNil, qCons, qTup, qLst, qCB, cInt_i, cInt2_ii, cToInt_i, cToInt_b, cLen_s, cLen_t, cLen_r, cLen_l, cTuple_t, cTuple_r, cTuple_l, cList_t, cList_r, cList_l, qNeg, oI_ii, oAdd_ii, oSub, oMul, oDiv, oMod, oPow, oEq, oNe, oEqW_ii, oEqW_ss, oEqW_bb, oLt, oLe, oGt, oGe, oOrd_ii, oOrd_ss, oIx_t, oIx_r, oIx_l, oIx_s, qNo, qPart, qSl, oSl_t, oSl_r, oSl_l, oSl_s, qMeth, mAppend_1, iSeq, iRange1, iRange2, qCall, endsF, startD, List.map_cons, List.map_nil, List.length_cons, List.length_nil, List.length_map, List.cons_append, List.nil_append, List.replicate, List.getElem?_cons_zero, List.getElem?_cons_succ, List.set_cons_zero, List.set_cons_succ, Nat.reduceAdd, Nat.reduceSub, if_true, if_false, id, ups_same, ex_lst, ex_lst2, ex_some, atI_0, atI_1, atI_2, atI_3, ixN_0, ixN_1, ixN_21]
  refine ⟨by decide, by decide, fun i loc S => ∃ (qs : List (Int × Int)) (z5 z6 z7 z8 : Option D), loc = [y0, some (.ref s), y2, y3, some (.ref pp), z5, z6, z7, z8, y9, y10, y11, y12, y13] ∧ Inv tb s n xs (k + 14 * i) S ∧ S pp = some (.lst (qs.map prD)) ∧ (∀ q ∈ qs, Pr q) ∧ qs.length ≤ i, ⟨[], _, _, _, _, rfl, by simpa using I, hpp, (fun _ z => by cases z), by simp⟩, ?_, ?_⟩
  · rintro i d loc S hi ⟨qs, z5, z6, z7, z8, rfl, I1, h1, h2, h3⟩
    obtain ⟨hi1, rfl⟩ := rangeD_get hi
    have hi2 : i < 2 := hi1
    simp only [sSeq, sNext, sBreak, sCont, sDrop, sRet, sRetN, sIf, sSet, sPar, sAsg, sRaise, gN, gE, gC, gU, gS, qVar, qC, qBin, qTB, qChain, qNot, qAnd, qOr, bd_bl, qNotT, qAndT, qOrT, qTru, tru_non, tru_bl, tru_int, tru_str, tru_tup, tru_rol, tru_ref, qIf, qNil, qCons, qTup, qLst, qCB, cInt_i, cInt2_ii, cToInt_i, cToInt_b, cLen_s, cLen_t, cLen_r, cLen_l, cTuple_t, cTuple_r, cTuple_l, cList_t, cList_r, cList_l, qNeg, oI_ii, oAdd_ii, oSub, oMul, oDiv, oMod, oPow, oEq, oNe, oEqW_ii, oEqW_ss, oEqW_bb, oLt, oLe, oGt, oGe, oOrd_ii, oOrd_ss, oIx_t, oIx_r, oIx_l, oIx_s, qNo, qPart, qSl, oSl_t, oSl_r, oSl_l, oSl_s, qMeth, mAppend_1, iSeq, iRange1, iRange2, qCall, endsF, startD, List.map_cons, List.map_nil, List.length_cons, List.length_nil, List.length_map, List.cons_append, List.nil_append, List.replicate, List.getElem?_cons_zero, List.getElem?_cons_succ, List.set_cons_zero, List.set_cons_succ, Nat.reduceAdd, Nat.reduceSub, if_true, if_false, id, ups_same, ex_lst, ex_lst2, ex_some, atI_0, atI_1, atI_2, atI_3, ixN_0, ixN_1, ixN_21]
    refine ⟨trivial, b3_ok nd I1 (by omega) h1 hps hpn h2 (by omega) ?_⟩
    intro S' qs' z6 z7 z8 I' h1' h2' h3'
    refine ⟨qs', _, _, _, _, rfl, ?_, h1', h2', by omega⟩
    have e : k + 14 * (i : Int) + 14 = k + 14 * ((i + 1 : Nat) : Int) := by omega
    rw [e] at I'
    exact I'
  · rintro loc S ⟨qs, z5, z6, z7, z8, rfl, I1, h1, h2, h3⟩
    have e : (Src.vals (rangeD 0 (2 : Int).toNat)).items.length = 2 := rangeD_len
    rw [e] at I1 h3
    exact ⟨trivial, hn S qs _ _ _ _ I1 h1 h2 h3⟩
theorem loopl_ok (nd : ad.six.Nodup) (I : Inv tb s n xs k S) (hq : Pr q) (hr : Pr r) (hn : ∀ (S' : Sto) (z12 z13 : Option D), Inv tb s n xs k S' → P.nx [y0, y1, y2, y3, y4, y5, y6, y7, y8, y9, some (prD q), some (prD r), z12, z13] S') :
    sFor (iSeq (qLst (qCons (qTup (qCons (qVar 10) (qCons (qVar 11) qNil))) (qCons (qTup (qCons (qVar 11) (qCons (qVar 10) qNil))) (qCons (qTup (qCons (qVar 10) (qCons (qVar 10) qNil))) qNil))))) (gU 2 (gC (gN 12) (gC (gN 13) gE))) (r_law_b2 ad tb nm) P [y0, y1, y2, y3, y4, y5, y6, y7, y8, y9, some (prD q), some (prD r), y12, y13] S := by
  unfold sFor
  simp only [sSeq, sNext, sBreak, sCont, sDrop, sRet, sRetN, sIf, sSet, sPar, sAsg, sRaise, gN, gE, gC, gU, gS, qVar, qC, qBin, qTB, qChain, qNot, qAnd, qOr, bd_bl, qNotT, qAndT, qOrT, qTru, tru_non, tru_bl, tru_int, tru_str, tru_tup, tru_rol, tru_ref, qIf, qNil, qCons, qTup, qLst, qCB, cInt_i, cInt2_ii, cToInt_i, cToInt_b, cLen_s, cLen_t, cLen_r, cLen_l, cTuple_t, cTuple_r, cTuple_l, cList_t, cList_r, cList_l, qNeg, oI_ii, oAdd_ii, oSub, oMul, oDiv, oMod, oPow, oEq, oNe, oEqW_ii, oEqW_ss, oEqW_bb, oLt, oLe, oGt, oGe, oOrd_ii, oOrd_ss, oIx_t, oIx_r, oIx_l, oIx_s, qNo, qPart, qSl, oSl_t, oSl_r, oSl_l, oSl_s, qMeth, mAppend_1, iSeq, iRange1, iRange2, qCall, endsF, startD, List.map_cons, List.map_nil, List.length_cons, List.length_nil, List.length_map, List.cons_append, List.nil_append, List.replicate, List.getElem?_cons_zero, List.getElem?_cons_succ, List.set_cons_zero, List.set_cons_succ, Nat.reduceAdd, Nat.reduceSub, if_true, if_false, id, ups_same, ex_lst, ex_lst2, ex_some, atI_0, atI_1, atI_2, atI_3, ixN_0, ixN_1, ixN_21]
  refine ⟨sz2, sz2, sz2, by decide, fun t ht => ?_⟩
  refine ⟨fun i loc S' => ∃ z12 z13, loc = [y0, y1, y2, y3, y4, y5, y6, y7, y8, y9, some (prD q), some (prD r), z12, z13] ∧ Inv tb s n xs k S' ∧ S' t = some (.lst [.tup [prD q, prD r], .tup [prD r, prD q], .tup [prD q, prD q]]), ⟨_, _, rfl, I.fresh ht, ups_same⟩, ?_, ?_⟩
  · rintro i d loc S' hi ⟨z12, z13, rfl, I1, h1⟩
    refine ⟨h1, ?_⟩
    obtain ⟨u, v, rfl, hu, hv⟩ : ∃ u v : Int × Int, d = .tup [prD u, prD v] ∧ Pr u ∧ Pr v := by
      match i, hi with
      | 0, hi => exact ⟨q, r, (Option.some.inj hi).symm, hq, hr⟩
      | 1, hi => exact ⟨r, q, (Option.some.inj hi).symm, hr, hq⟩
      | 2, hi => exact ⟨q, q, (Option.some.inj hi).symm, hq, hq⟩
      | j + 3, hi => cases hi
    simp only [sSeq, sNext, sBreak, sCont, sDrop, sRet, sRetN, sIf, sSet, sPar, sAsg, sRaise, gN, gE, gC, gU, gS, qVar, qC, qBin, qTB, qChain, qNot, qAnd, qOr, bd_bl, qNotT, qAndT, qOrT, qTru, tru_non, tru_bl, tru_int, tru_str, tru_tup, tru_rol, tru_ref, qIf, qNil, qCons, qTup, qLst, qCB, cInt_i, cInt2_ii, cToInt_i, cToInt_b, cLen_s, cLen_t, cLen_r, cLen_l, cTuple_t, cTuple_r, cTuple_l, cList_t, cList_r, cList_l, qNeg, oI_ii, oAdd_ii, oSub, oMul, oDiv, oMod, oPow, oEq, oNe, oEqW_ii, oEqW_ss, oEqW_bb, oLt, oLe, oGt, oGe, oOrd_ii, oOrd_ss, oIx_t, oIx_r, oIx_l, oIx_s, qNo, qPart, qSl, oSl_t, oSl_r, oSl_l, oSl_s, qMeth, mAppend_1, iSeq, iRange1, iRange2, qCall, endsF, startD, List.map_cons, List.map_nil, List.length_cons, List.length_nil, List.length_map, List.cons_append, List.nil_append, List.replicate, List.getElem?_cons_zero, List.getElem?_cons_succ, List.set_cons_zero, List.set_cons_succ, Nat.reduceAdd, Nat.reduceSub, if_true, if_false, id, ups_same, ex_lst, ex_lst2, ex_some, atI_0, atI_1, atI_2, atI_3, ixN_0, ixN_1, ixN_21]
    refine ⟨_, .inl rfl, rfl, rfl, ?_⟩
    unfold r_law_b2
    exact c2_ok nd I1.tok hu hv fun S2 s2 t2 => ⟨_, _, rfl, I1.sub s2 t2, s2 _ _ h1⟩
  · rintro loc S' ⟨z12, z13, rfl, I1, h1⟩
    exact ⟨h1, hn S' _ _ I1⟩
theorem b4_ok (nd : ad.six.Nodup) (I : Inv tb s n xs k S) (hk : k < 600000000)
    (hn : ∀ (S' : Sto) (z4 z5 z6 z7 z8 z9 z10 z11 z12 z13 : Option D), Inv tb s n xs (k + 28) S' → P.nx [y0, some (.ref s), y2, y3, z4, z5, z6, z7, z8, z9, z10, z11, z12, z13] S') :
    r_law_b4 ad tb nm P [y0, some (.ref s), y2, y3, y4, y5, y6, y7, y8, y9, y10, y11, y12, y13] S := by
  have hk0 := I.st.k0
  simp only [r_law_b4, sSeq, sNext, sBreak, sCont, sDrop, sRet, sRetN, sIf, sSet, sPar, sAsg, sRaise, gN, gE, gC, gU, gS, qVar, qC, qBin, qTB, qChain, qNot, qAnd, qOr, bd_bl, qNotT, qAndT, qOrT, qTru, tru_non, tru_bl, tru_int, tru_str, tru_tup, tru_rol, tru_ref, qIf, qNil, qCons, qTup, qLst, qCB, cInt_i, cInt2_ii, cToInt_i, cToInt_b, cLen_s, cLen_t, cLen_r, cLen_l, cTuple_t, cTuple_r, cTuple_l, cList_t, cList_r, cList_l, qNeg, oI_ii, oAdd_ii, oSub, oMul, oDiv, oMod, oPow, oEq, oNe, oEqW_ii, oEqW_ss, oEqW_bb, oLt, oLe, oGt, oGe, oOrd_ii, oOrd_ss, oIx_t, oIx_r, oIx_l, oIx_s, qNo, qPart, qSl, oSl_t, oSl_r, oSl_l, oSl_s, qMeth, mAppend_1, iSeq, iRange1, iRange2, qCall, endsF, startD, List.map_cons, List.map_nil, List.length_cons, List.length_nil, List.length_map, List.cons_append, List.nil_append, List.replicate, List.getElem?_cons_zero, List.getElem?_cons_succ, List.set_cons_zero, List.set_cons_succ, Nat.reduceAdd, Nat.reduceSub, if_true, if_false, id, ups_same, ex_lst, ex_lst2, ex_some, atI_0, atI_1, atI_2, atI_3, ixN_0, ixN_1, ixN_21]
  refine ⟨by decide, fun pp hp => ?_⟩
  have hps : pp ≠ s := I.st.ne_s hp
  have hpn : pp ≠ n := Ne.symm (sto_ne I.st.nm hp)
  refine loopk_ok nd (I.fresh hp) hk ups_same hps hpn ?_
  intro S' qs z5 z6 z7 z8 I1 h1 h2 h3
  match qs, h1, h2, h3 with
  | [], h1, _, _ =>
    simp only [sSeq, sNext, sBreak, sCont, sDrop, sRet, sRetN, sIf, sSet, sPar, sAsg, sRaise, gN, gE, gC, gU, gS, qVar, qC, qBin, qTB, qChain, qNot, qAnd, qOr, bd_bl, qNotT, qAndT, qOrT, qTru, tru_non, tru_bl, tru_int, tru_str, tru_tup, tru_rol, tru_ref, qIf, qNil, qCons, qTup, qLst, qCB, cInt_i, cInt2_ii, cToInt_i, cToInt_b, cLen_s, cLen_t, cLen_r, cLen_l, cTuple_t, cTuple_r, cTuple_l, cList_t, cList_r, cList_l, qNeg, oI_ii, oAdd_ii, oSub, oMul, oDiv, oMod, oPow, oEq, oNe, oEqW_ii, oEqW_ss, oEqW_bb, oLt, oLe, oGt, oGe, oOrd_ii, oOrd_ss, oIx_t, oIx_r, oIx_l, oIx_s, qNo, qPart, qSl, oSl_t, oSl_r, oSl_l, oSl_s, qMeth, mAppend_1, iSeq, iRange1, iRange2, qCall, endsF, startD, List.map_cons, List.map_nil, List.length_cons, List.length_nil, List.length_map, List.cons_append, List.nil_append, List.replicate, List.getElem?_cons_zero, List.getElem?_cons_succ, List.set_cons_zero, List.set_cons_succ, Nat.reduceAdd, Nat.reduceSub, if_true, if_false, id, ups_same, ex_lst, ex_lst2, ex_some, atI_0, atI_1, atI_2, atI_3, ixN_0, ixN_1, ixN_21, h1]
    exact ifF rfl (hn S' _ _ _ _ _ _ _ _ _ _ I1)
  | [q], h1, _, _ =>
    simp only [sSeq, sNext, sBreak, sCont, sDrop, sRet, sRetN, sIf, sSet, sPar, sAsg, sRaise, gN, gE, gC, gU, gS, qVar, qC, qBin, qTB, qChain, qNot, qAnd, qOr, bd_bl, qNotT, qAndT, qOrT, qTru, tru_non, tru_bl, tru_int, tru_str, tru_tup, tru_rol, tru_ref, qIf, qNil, qCons, qTup, qLst, qCB, cInt_i, cInt2_ii, cToInt_i, cToInt_b, cLen_s, cLen_t, cLen_r, cLen_l, cTuple_t, cTuple_r, cTuple_l, cList_t, cList_r, cList_l, qNeg, oI_ii, oAdd_ii, oSub, oMul, oDiv, oMod, oPow, oEq, oNe, oEqW_ii, oEqW_ss, oEqW_bb, oLt, oLe, oGt, oGe, oOrd_ii, oOrd_ss, oIx_t, oIx_r, oIx_l, oIx_s, qNo, qPart, qSl, oSl_t, oSl_r, oSl_l, oSl_s, qMeth, mAppend_1, iSeq, iRange1, iRange2, qCall, endsF, startD, List.map_cons, List.map_nil, List.length_cons, List.length_nil, List.length_map, List.cons_append, List.nil_append, List.replicate, List.getElem?_cons_zero, List.getElem?_cons_succ, List.set_cons_zero, List.set_cons_succ, Nat.reduceAdd, Nat.reduceSub, if_true, if_false, id, ups_same, ex_lst, ex_lst2, ex_some, atI_0, atI_1, atI_2, atI_3, ixN_0, ixN_1, ixN_21, h1]
    exact ifF rfl (hn S' _ _ _ _ _ _ _ _ _ _ I1)
  | [q, r], h1, h2, _ =>
    have hq : Pr q := h2 q (by simp)
    have hr : Pr r := h2 r (by simp)
    simp only [sSeq, sNext, sBreak, sCont, sDrop, sRet, sRetN, sIf, sSet, sPar, sAsg, sRaise, gN, gE, gC, gU, gS, qVar, qC, qBin, qTB, qChain, qNot, qAnd, qOr, bd_bl, qNotT, qAndT, qOrT, qTru, tru_non, tru_bl, tru_int, tru_str, tru_tup, tru_rol, tru_ref, qIf, qNil, qCons, qTup, qLst, qCB, cInt_i, cInt2_ii, cToInt_i, cToInt_b, cLen_s, cLen_t, cLen_r, cLen_l, cTuple_t, cTuple_r, cTuple_l, cList_t, cList_r, cList_l, qNeg, oI_ii, oAdd_ii, oSub, oMul, oDiv, oMod, oPow, oEq, oNe, oEqW_ii, oEqW_ss, oEqW_bb, oLt, oLe, oGt, oGe, oOrd_ii, oOrd_ss, oIx_t, oIx_r, oIx_l, oIx_s, qNo, qPart, qSl, oSl_t, oSl_r, oSl_l, oSl_s, qMeth, mAppend_1, iSeq, iRange1, iRange2, qCall, endsF, startD, List.map_cons, List.map_nil, List.length_cons, List.length_nil, List.length_map, List.cons_append, List.nil_append, List.replicate, List.getElem?_cons_zero, List.getElem?_cons_succ, List.set_cons_zero, List.set_cons_succ, Nat.reduceAdd, Nat.reduceSub, if_true, if_false, id, ups_same, ex_lst, ex_lst2, ex_some, atI_0, atI_1, atI_2, atI_3, ixN_0, ixN_1, ixN_21, h1]
    refine ifT rfl ⟨[prD q, prD r], .inr (.inr ⟨pp, rfl, by simpa using h1⟩), rfl, ?_⟩
    simp only [prD, sSeq, sNext, sBreak, sCont, sDrop, sRet, sRetN, sIf, sSet, sPar, sAsg, sRaise, gN, gE, gC, gU, gS, qVar, qC, qBin, qTB, qChain, qNot, qAnd, qOr, bd_bl, qNotT, qAndT, qOrT, qTru, tru_non, tru_bl, tru_int, tru_str, tru_tup, tru_rol, tru_ref, qIf, qNil, qCons, qTup, qLst, qCB, cInt_i, cInt2_ii, cToInt_i, cToInt_b, cLen_s, cLen_t, cLen_r, cLen_l, cTuple_t, cTuple_r, cTuple_l, cList_t, cList_r, cList_l, qNeg, oI_ii, oAdd_ii, oSub, oMul, oDiv, oMod, oPow, oEq, oNe, oEqW_ii, oEqW_ss, oEqW_bb, oLt, oLe, oGt, oGe, oOrd_ii, oOrd_ss, oIx_t, oIx_r, oIx_l, oIx_s, qNo, qPart, qSl, oSl_t, oSl_r, oSl_l, oSl_s, qMeth, mAppend_1, iSeq, iRange1, iRange2, qCall, endsF, startD, List.map_cons, List.map_nil, List.length_cons, List.length_nil, List.length_map, List.cons_append, List.nil_append, List.replicate, List.getElem?_cons_zero, List.getElem?_cons_succ, List.set_cons_zero, List.set_cons_succ, Nat.reduceAdd, Nat.reduceSub, if_true, if_false, id, ups_same, ex_lst, ex_lst2, ex_some, atI_0, atI_1, atI_2, atI_3, ixN_0, ixN_1, ixN_21, sp__law_reduced]
    refine ⟨trivial, hq.1.mul, hr.1.mul, hq.2.1.mul, _, _, rfl, hq.2.1.lg2 hr.2.1, Int.mul_ne_zero hq.2.2 hr.2.2, ?_⟩
    refine c4_ok (q := q) (r := r) nd I1.tok hq hr fun S2 s2 t2 => c3_ok (q := q) (r := r) nd t2 hq hr fun S3 s3 t3 => loopl_ok (q := q) (r := r) nd (I1.sub (s2.trans s3) t3) hq hr ?_
    intro S4 z12 z13 I4
    exact hn S4 _ _ _ _ _ _ _ _ _ _ I4
  | q :: r :: u :: v, _, _, h3 => exact absurd h3 (by simp)
end
section
variable {tb : List (Addr × Str)} {nm : Str} {s n : Addr} {xs : List Int} {S : Sto} {P : QN} {y0 y2 y3 y4 y5 y6 y7 y8 y9 y10 y11 y12 y13 : Option D}
theorem loopt_ok (nd : ad.six.Nodup) (I : Inv tb s n xs 0 S)
    (hn : ∀ (S' : Sto) (z2 z4 z5 z6 z7 z8 z9 z10 z11 z12 z13 : Option D), TabOk tb S' → P.nx [y0, some (.ref s), z2, y3, z4, z5, z6, z7, z8, z9, z10, z11, z12, z13] S') :
    sFor (iRange1 (qCons (qC (.int 12)) qNil)) (gN 2) (r_law_b4 ad tb nm) P [y0, some (.ref s), y2, y3, y4, y5, y6, y7, y8, y9, y10, y11, y12, y13] S := by
  unfold sFor
  simp only [sSeq, sNext, sBreak, sCont, sDrop, sRet, sRetN, sIf, sSet, sPar, sAsg, sRaise, gN, gE, gC, gU, gS, qVar, qC, qBin, qTB, qChain, qNot, qAnd, qOr, bd_bl, qNotT, qAndT, qOrT, qTru, tru_non, tru_bl, tru_int, tru_str, tru_tup, tru_rol, tru_ref, qIf, qNil, qCons, qTup, qLst, qCB, cInt_i, cInt2_ii, cToInt_i, cToInt_b, cLen_s, cLen_t, cLen_r, cLen_l, cTuple_t, cTuple_r, cTuple_l, cList_t, cList_r, cList_l, qNeg, oI_ii, oAdd_ii, oSub, oMul, oDiv, oMod, oPow, oEq, oNe, oEqW_ii, oEqW_ss, oEqW_bb, oLt, oLe, oGt, oGe, oOrd_ii, oOrd_ss, oIx_t, oIx_r, oIx_l, oIx_s, qNo, qPart, qSl, oSl_t, oSl_r, oSl_l, oSl_s, qMeth, mAppend_1, iSeq, iRange1, iRange2, qCall, endsF, startD, List.map_cons, List.map_nil, List.length_cons, List.length_nil, List.length_map, List.cons_append, List.nil_append, List.replicate, List.getElem?_cons_zero, List.getElem?_cons_succ, List.set_cons_zero, List.set_cons_succ, Nat.reduceAdd, Nat.reduceSub, if_true, if_false, id, ups_same, ex_lst, ex_lst2, ex_some, atI_0, atI_1, atI_2, atI_3, ixN_0, ixN_1, ixN_21]
  refine ⟨by decide, by decide, fun i loc S => ∃ z2 z4 z5 z6 z7 z8 z9 z10 z11 z12 z13 : Option D, loc = [y0, some (.ref s), z2, y3, z4, z5, z6, z7, z8, z9, z10, z11, z12, z13] ∧ Inv tb s n xs (28 * i) S, ⟨_, _, _, _, _, _, _, _, _, _, _, rfl, by simpa using I⟩, ?_, ?_⟩
  · rintro i d loc S hi ⟨z2, z4, z5, z6, z7, z8, z9, z10, z11, z12, z13, rfl, I1⟩
    obtain ⟨hi1, rfl⟩ := rangeD_get hi
    have hi2 : i < 12 := hi1
    simp only [sSeq, sNext, sBreak, sCont, sDrop, sRet, sRetN, sIf, sSet, sPar, sAsg, sRaise, gN, gE, gC, gU, gS, qVar, qC, qBin, qTB, qChain, qNot, qAnd, qOr, bd_bl, qNotT, qAndT, qOrT, qTru, tru_non, tru_bl, tru_int, tru_str, tru_tup, tru_rol, tru_ref, qIf, qNil, qCons, qTup, qLst, qCB, cInt_i, cInt2_ii, cToInt_i, cToInt_b, cLen_s, cLen_t, cLen_r, cLen_l, cTuple_t, cTuple_r, cTuple_l, cList_t, cList_r, cList_l, qNeg, oI_ii, oAdd_ii, oSub, oMul, oDiv, oMod, oPow, oEq, oNe, oEqW_ii, oEqW_ss, oEqW_bb, oLt, oLe, oGt, oGe, oOrd_ii, oOrd_ss, oIx_t, oIx_r, oIx_l, oIx_s, qNo, qPart, qSl, oSl_t, oSl_r, oSl_l, oSl_s, qMeth, mAppend_1, iSeq, iRange1, iRange2, qCall, endsF, startD, List.map_cons, List.map_nil, List.length_cons, List.length_nil, List.length_map, List.cons_append, List.nil_append, List.replicate, List.getElem?_cons_zero, List.getElem?_cons_succ, List.set_cons_zero, List.set_cons_succ, Nat.reduceAdd, Nat.reduceSub, if_true, if_false, id, ups_same, ex_lst, ex_lst2, ex_some, atI_0, atI_1, atI_2, atI_3, ixN_0, ixN_1, ixN_21]
    refine ⟨trivial, b4_ok nd I1 (by omega) ?_⟩
    intro S' z4 z5 z6 z7 z8 z9 z10 z11 z12 z13 I'
    refine ⟨_, _, _, _, _, _, _, _, _, _, _, rfl, ?_⟩
    have e : 28 * (i : Int) + 28 = 28 * ((i + 1 : Nat) : Int) := by omega
    rw [e] at I'
    exact I'
  · rintro loc S ⟨z2, z4, z5, z6, z7, z8, z9, z10, z11, z12, z13, rfl, I1⟩
    exact ⟨trivial, hn S _ _ _ _ _ _ _ _ _ _ _ I1.tok⟩
theorem loopv_ok (nd : ad.six.Nodup) {y1 : Option D} (tok : TabOk tb S)
    (hn : ∀ (S' : Sto) (z3 : Option D), P.nx [y0, y1, y2, z3, y4, y5, y6, y7, y8, y9, y10, y11, y12, y13] S') :
    sFor
          (iSeq
            (qLst
              (qCons (qTup (qCons (qC (D.int 0)) (qCons (qC (D.int 1)) qNil)))
                (qCons (qTup (qCons (qC (D.int 0)) (qCons (qC (D.int 2)) qNil)))
                  (qCons (qTup (qCons (qC (D.int 3)) (qCons (qNeg (qC (D.int 1))) qNil)))
                    (qCons (qTup (qCons (qC (D.int 1)) (qCons (qC (D.int 2)) (qCons (qC (D.int 1)) qNil))))
                      (qCons (qTup (qCons (qC (D.int 1)) qNil))
                        (qCons (qTup (qCons (qC (D.int 2)) (qCons (qC (D.int 4)) qNil)))
                          (qCons (qTup (qCons (qC (D.int 7)) (qCons (qC (D.int 1)) qNil))) qNil)))))))))
          (gN 3) (r_law_b1 ad tb nm) P [y0, y1, y2, y3, y4, y5, y6, y7, y8, y9, y10, y11, y12, y13] S := by
  unfold sFor
  simp only [sSeq, sNext, sBreak, sCont, sDrop, sRet, sRetN, sIf, sSet, sPar, sAsg, sRaise, gN, gE, gC, gU, gS, qVar, qC, qBin, qTB, qChain, qNot, qAnd, qOr, bd_bl, qNotT, qAndT, qOrT, qTru, tru_non, tru_bl, tru_int, tru_str, tru_tup, tru_rol, tru_ref, qIf, qNil, qCons, qTup, qLst, qCB, cInt_i, cInt2_ii, cToInt_i, cToInt_b, cLen_s, cLen_t, cLen_r, cLen_l, cTuple_t, cTuple_r, cTuple_l, cList_t, cList_r, cList_l, qNeg, oI_ii, oAdd_ii, oSub, oMul, oDiv, oMod, oPow, oEq, oNe, oEqW_ii, oEqW_ss, oEqW_bb, oLt, oLe, oGt, oGe, oOrd_ii, oOrd_ss, oIx_t, oIx_r, oIx_l, oIx_s, qNo, qPart, qSl, oSl_t, oSl_r, oSl_l, oSl_s, qMeth, mAppend_1, iSeq, iRange1, iRange2, qCall, endsF, startD, List.map_cons, List.map_nil, List.length_cons, List.length_nil, List.length_map, List.cons_append, List.nil_append, List.replicate, List.getElem?_cons_zero, List.getElem?_cons_succ, List.set_cons_zero, List.set_cons_succ, Nat.reduceAdd, Nat.reduceSub, if_true, if_false, id, ups_same, ex_lst, ex_lst2, ex_some, atI_0, atI_1, atI_2, atI_3, ixN_0, ixN_1, ixN_21]
  refine ⟨by decide, by decide, by decide, by decide, by decide, by decide, by decide, by decide, fun t ht => ?_⟩
  refine ⟨fun i loc S' => ∃ z3, loc = [y0, y1, y2, z3, y4, y5, y6, y7, y8, y9, y10, y11, y12, y13] ∧ TabOk tb S' ∧ S' t = some (.lst (vals7.map fun v => .tup (v.map D.int))), ⟨_, rfl, tok.new ht, ups_same⟩, ?_, ?_⟩
  · rintro i d loc S' hi ⟨z3, rfl, t1, h1⟩
    refine ⟨h1, ?_⟩
    obtain ⟨v, rfl, hv⟩ : ∃ v, d = .tup (v.map D.int) ∧ v ∈ vals7 := by
      have h2 : (vals7.map fun v => D.tup (v.map D.int))[i]? = some d := hi
      obtain ⟨v, hv, e⟩ := List.mem_map.mp (List.mem_of_getElem? h2)
      exact ⟨v, e.symm, hv⟩
    simp only [sSeq, sNext, sBreak, sCont, sDrop, sRet, sRetN, sIf, sSet, sPar, sAsg, sRaise, gN, gE, gC, gU, gS, qVar, qC, qBin, qTB, qChain, qNot, qAnd, qOr, bd_bl, qNotT, qAndT, qOrT, qTru, tru_non, tru_bl, tru_int, tru_str, tru_tup, tru_rol, tru_ref, qIf, qNil, qCons, qTup, qLst, qCB, cInt_i, cInt2_ii, cToInt_i, cToInt_b, cLen_s, cLen_t, cLen_r, cLen_l, cTuple_t, cTuple_r, cTuple_l, cList_t, cList_r, cList_l, qNeg, oI_ii, oAdd_ii, oSub, oMul, oDiv, oMod, oPow, oEq, oNe, oEqW_ii, oEqW_ss, oEqW_bb, oLt, oLe, oGt, oGe, oOrd_ii, oOrd_ss, oIx_t, oIx_r, oIx_l, oIx_s, qNo, qPart, qSl, oSl_t, oSl_r, oSl_l, oSl_s, qMeth, mAppend_1, iSeq, iRange1, iRange2, qCall, endsF, startD, List.map_cons, List.map_nil, List.length_cons, List.length_nil, List.length_map, List.cons_append, List.nil_append, List.replicate, List.getElem?_cons_zero, List.getElem?_cons_succ, List.set_cons_zero, List.set_cons_succ, Nat.reduceAdd, Nat.reduceSub, if_true, if_false, id, ups_same, ex_lst, ex_lst2, ex_some, atI_0, atI_1, atI_2, atI_3, ixN_0, ixN_1, ixN_21]
    unfold r_law_b1
    exact c1_ok nd t1 hv fun S2 s2 t2 => ⟨_, rfl, t2, s2 _ _ h1⟩
  · rintro loc S' ⟨z3, rfl, t1, h1⟩
    exact ⟨h1, hn S' _⟩
end
theorem p_law {tb : List (Addr × Str)} {nm : Str} (nd : ad.six.Nodup) : ∀ ds S Q E, sp_law ad ds S Q E → TabOk tb S → r_law ad tb nm (endsF Q E) (startD N_law ds) S := by
  rintro ds S Q E ⟨ns, rfl, hl, q⟩ tok
  simp only [r_law, sp__law_stream, sSeq, sNext, sBreak, sCont, sDrop, sRet, sRetN, sIf, sSet, sPar, sAsg, sRaise, gN, gE, gC, gU, gS, qVar, qC, qBin, qTB, qChain, qNot, qAnd, qOr, bd_bl, qNotT, qAndT, qOrT, qTru, tru_non, tru_bl, tru_int, tru_str, tru_tup, tru_rol, tru_ref, qIf, qNil, qCons, qTup, qLst, qCB, cInt_i, cInt2_ii, cToInt_i, cToInt_b, cLen_s, cLen_t, cLen_r, cLen_l, cTuple_t, cTuple_r, cTuple_l, cList_t, cList_r, cList_l, qNeg, oI_ii, oAdd_ii, oSub, oMul, oDiv, oMod, oPow, oEq, oNe, oEqW_ii, oEqW_ss, oEqW_bb, oLt, oLe, oGt, oGe, oOrd_ii, oOrd_ss, oIx_t, oIx_r, oIx_l, oIx_s, qNo, qPart, qSl, oSl_t, oSl_r, oSl_l, oSl_s, qMeth, mAppend_1, iSeq, iRange1, iRange2, qCall, endsF, startD, List.map_cons, List.map_nil, List.length_cons, List.length_nil, List.length_map, List.cons_append, List.nil_append, List.replicate, List.getElem?_cons_zero, List.getElem?_cons_succ, List.set_cons_zero, List.set_cons_succ, Nat.reduceAdd, Nat.reduceSub, if_true, if_false, id, ups_same, ex_lst, ex_lst2, ex_some, atI_0, atI_1, atI_2, atI_3, ixN_0, ixN_1, ixN_21]
  refine ⟨ns, rfl, hl, fun n xs S1 hn1 sub1 oth1 e1 ok => ⟨sz2, fun s hs => ?_⟩⟩
  have tok1 : TabOk tb S1 := ⟨fun p hp => sub1 _ _ (tok.1 p hp), fun a x e => by
    rcases oth1 _ _ e with z | z | ⟨ds, z⟩
    · rw [z, e1] at e
      cases e
    · exact tok.2 a x z
    · cases z⟩
  have I : Inv tb s n xs 0 (ups S1 s (.lst [.ref n, .int 0])) := ⟨⟨ups_same, by rw [ups_ne (sto_ne e1 hs)]; exact e1, Ne.symm (sto_ne e1 hs), ok, by decide⟩, tok1.new hs⟩
  refine loopt_ok nd I ?_
  intro S' z2 z4 z5 z6 z7 z8 z9 z10 z11 z12 z13 t'
  refine loopv_ok nd t' ?_
  intro S2 z3
  exact ⟨S2, Sub.refl _, q S2⟩
theorem law_start {S : Sto} (ns : List Int) (hl : ns.length ≤ 63) (hb : ∀ z ∈ ns, Builtin.Int.intBits z ≤ 1048576) : sp_law ad [.rol (ns.map D.int)] S (fun d _ => d = .bl true) fun _ _ => False := ⟨ns, rfl, hl, fun _ => rfl⟩
end K01

namespace PL
open PySem PySem.Spec PyProof.Rows L2 -- the layers
/-! ## what the head tells: the errors' classes -/
def adK (K : PySem.W.Frag) : Ad := ⟨He.ga K "SlipError", He.ga K "NotAllowed", He.ga K "TooLarge", He.ga K "Missing", He.ga K "BadPaper", He.ga K "BadForm", He.ga K "Broken"⟩
def excB (K : PySem.W.Frag) (D : Addr) : Bool :=
  decide (PySem.W.findIn K (.ref D) "__getattribute__" = some (some (.builtin "BaseException.__getattribute__"))) && (decide (PySem.W.findIn K (.ref D) "__getattr__" = some none) && (decide (PySem.W.subIn K (.ref D) (.type "BaseException") = some true) && (PySem.W.hasDictIn K D &&
    (decide (PySem.W.findIn K (.ref D) "__class__" = some (some (.builtin "object.__class__"))) && (decide (PySem.W.specialIn K (.builtin "object.__class__") "__get__" = some (some (.builtin "getset_descriptor.__get__"))) &&
      (decide (PySem.W.takesIn K (.builtin "object.__class__") = some true) && decide (PySem.W.mroIn K D (.type "object") = some true)))))))
theorem excB_ok {K : PySem.W.Frag} {D : Addr} (h : excB K D = true) : ExcC K D := by
  unfold excB at h
  simp only [Bool.and_eq_true, decide_eq_true_eq] at h
  obtain ⟨h1, h2, h3, h4, h5, h6, h7, h8⟩ := h
  exact ⟨h1, h2, h3, h4, h5, h6, h7, h8⟩
/-- the six classes: apart, each of its own kind alone, below SlipError -/
def sixB (K : PySem.W.Frag) : Bool :=
  (adK K).six.all fun C => excB K C && (decide (PySem.W.exmOne K (.ref C) (.ref (adK K).SlipError) = some true) && (adK K).six.all fun c => decide (PySem.W.kitOne K (.ref C) (.ref c) = some (decide (C = c))))
def nodupB : List Addr → Bool
  | [] => true
  | a :: r => (r.all fun b => decide (a ≠ b)) && nodupB r
theorem nodupB_ok : ∀ {l : List Addr}, nodupB l = true → l.Nodup
  | [], _ => List.nodup_nil
  | a :: r, h => by
    obtain ⟨h1, h2⟩ := Bool.and_eq_true_iff.mp h
    refine List.nodup_cons.mpr ⟨fun hm => ?_, nodupB_ok h2⟩
    exact of_decide_eq_true (List.all_eq_true.mp h1 a hm) rfl
def exB (K : PySem.W.Frag) : Bool := nodupB (adK K).six && sixB K
structure SixOk (K : PySem.W.Frag) : Prop where
  nd : (adK K).six.Nodup
  exc : ∀ C ∈ (adK K).six, ExcC K C
  exm : ∀ C ∈ (adK K).six, PySem.W.exmOne K (.ref C) (.ref (adK K).SlipError) = some true
  kit : ∀ C ∈ (adK K).six, ∀ c ∈ (adK K).six, PySem.W.kitOne K (.ref C) (.ref c) = some (decide (C = c))
theorem exB_ok {K : PySem.W.Frag} (h : exB K = true) : SixOk K := by
  obtain ⟨h1, h2⟩ := Bool.and_eq_true_iff.mp h
  have key : ∀ C ∈ (adK K).six, excB K C = true ∧ PySem.W.exmOne K (.ref C) (.ref (adK K).SlipError) = some true ∧ ∀ c ∈ (adK K).six, PySem.W.kitOne K (.ref C) (.ref c) = some (decide (C = c)) := fun C hC => by
    have z := List.all_eq_true.mp h2 C hC
    simp only [Bool.and_eq_true, decide_eq_true_eq, List.all_eq_true] at z
    exact z
  exact ⟨nodupB_ok h1, fun C hC => excB_ok (key C hC).1, fun C hC => (key C hC).2.1, fun C hC => (key C hC).2.2⟩
theorem excT_of {K : PySem.W.Frag} {h : Heap} {mg : Str → Option Value} {x : Str} (X : K.In h) (G : h.Ns mainGlobals mg) (g : (He.Fa.glo x).ok K = true) (c : (He.Fa.exc x).ok K = true) : ExcT K mg x (He.ga K x) := by
  obtain ⟨h1, h2, h3, h4⟩ := He.exc_ok c
  exact ⟨He.glo_ok X G g, h1, h2, h3, h4⟩
/-- the code object of a def that the head tells -/
theorem code_at {K : PySem.W.Frag} {p : Str × Option Str} {x qual : Str} {params : Arguments} {body : List Stmt} {scope : Scope} {dvs : List V} {kws : List (Str × V)} {fd : FuncData} (F : FunD K x qual params body scope dvs kws (He.fAd K p) fd) : fd.code = .ref (He.cT K p).1 := by
  obtain ⟨oc, od, dV, kV, doc, pm, an, cdv, ct, osl, rfl, lk, hcd, _, _⟩ := F.ex
  obtain ⟨c, rfl⟩ := He.codeIn_ref hcd
  have e := He.codeOf_eq lk (c := c) rfl
  show Value.ref c = .ref (He.codeOf K p)
  rw [e]
end PL

/-! printed by gen_end.py -/
namespace K01
open PySem PySem.Spec PyProof.Rows L2 PL
section
variable {P : Program} {w : World} {K : PySem.W.Frag} {mg : Str → Option Value} {base : Heap} {ad : Ad} {f : Addr} {fd : FuncData}
abbrev FnD (K : PySem.W.Frag) (x : Str) (st : Stmt) (f : Addr) (fd : FuncData) : Prop := FunD K x x (defArgs st) (defBody st) (defScope st) [] [] f fd
theorem len_divisor {ds : List D} {S : Sto} {Q : PD} {E : PX} (h : sp_divisor ad ds S Q E) : ds.length = ["first", "second"].length := by
  first
  | (obtain ⟨_, rfl, _⟩ := h; rfl)
  | (obtain ⟨_, _, rfl, _⟩ := h; rfl)
  | (obtain ⟨_, _, _, rfl, _⟩ := h; rfl)
  | (obtain ⟨_, _, _, _, rfl, _⟩ := h; rfl)
  | (obtain ⟨_, _, _, _, _, rfl, _⟩ := h; rfl)
  | (obtain ⟨_, _, _, _, _, _, rfl, _⟩ := h; rfl)
  | (obtain ⟨_, _, _, _, _, _, _, rfl, _⟩ := h; rfl)
  | (obtain ⟨_, _, _, _, _, _, _, _, rfl, _⟩ := h; rfl)
theorem ok_divisor (T : Txt K mg ad) (F : FnD K "divisor" s_divisor f fd) (g : mg "divisor" = some (.ref f)) : GF P w K mg base "divisor" ["first", "second"] 1 (sp_divisor ad) :=
  ⟨f, fd, g, F.kp, F.bindsN (fun _ _ _ _ _ _ us hl => match us, hl with | [_, _], _ => rfl), FunD.pure F sc_divisor (fun cdv A outer s H E hr => d_divisor T f cdv A outer s H E hr) (fun ds S Q E h => len_divisor h) p_divisor⟩
theorem len_fraction {ds : List D} {S : Sto} {Q : PD} {E : PX} (h : sp_fraction ad ds S Q E) : ds.length = ["top", "below"].length := by
  first
  | (obtain ⟨_, rfl, _⟩ := h; rfl)
  | (obtain ⟨_, _, rfl, _⟩ := h; rfl)
  | (obtain ⟨_, _, _, rfl, _⟩ := h; rfl)
  | (obtain ⟨_, _, _, _, rfl, _⟩ := h; rfl)
  | (obtain ⟨_, _, _, _, _, rfl, _⟩ := h; rfl)
  | (obtain ⟨_, _, _, _, _, _, rfl, _⟩ := h; rfl)
  | (obtain ⟨_, _, _, _, _, _, _, rfl, _⟩ := h; rfl)
  | (obtain ⟨_, _, _, _, _, _, _, _, rfl, _⟩ := h; rfl)
theorem ok_fraction (T : Txt K mg ad) (G_divisor : GF P w K mg base "divisor" ["first", "second"] 1 (sp_divisor ad)) (F : FnD K "fraction" s_fraction f fd) (g : mg "fraction" = some (.ref f)) : GF P w K mg base "fraction" ["top", "below"] 2 (sp_fraction ad) :=
  ⟨f, fd, g, F.kp, F.bindsN (fun _ _ _ _ _ _ us hl => match us, hl with | [_, _], _ => rfl), FunD.pure F sc_fraction (fun cdv A outer s H E hr => d_fraction T G_divisor f cdv A outer s H E hr) (fun ds S Q E h => len_fraction h) p_fraction⟩
theorem len_is_fraction {ds : List D} {S : Sto} {Q : PD} {E : PX} (h : sp_is_fraction ad ds S Q E) : ds.length = ["value"].length := by
  first
  | (obtain ⟨_, rfl, _⟩ := h; rfl)
  | (obtain ⟨_, _, rfl, _⟩ := h; rfl)
  | (obtain ⟨_, _, _, rfl, _⟩ := h; rfl)
  | (obtain ⟨_, _, _, _, rfl, _⟩ := h; rfl)
  | (obtain ⟨_, _, _, _, _, rfl, _⟩ := h; rfl)
  | (obtain ⟨_, _, _, _, _, _, rfl, _⟩ := h; rfl)
  | (obtain ⟨_, _, _, _, _, _, _, rfl, _⟩ := h; rfl)
  | (obtain ⟨_, _, _, _, _, _, _, _, rfl, _⟩ := h; rfl)
theorem ok_is_fraction (T : Txt K mg ad) (G_divisor : GF P w K mg base "divisor" ["first", "second"] 1 (sp_divisor ad)) (F : FnD K "is_fraction" s_is_fraction f fd) (g : mg "is_fraction" = some (.ref f)) : GF P w K mg base "is_fraction" ["value"] 2 (sp_is_fraction ad) :=
  ⟨f, fd, g, F.kp, F.bindsN (fun _ _ _ _ _ _ us hl => match us, hl with | [_], _ => rfl), FunD.pure F sc_is_fraction (fun cdv A outer s H E hr => d_is_fraction T G_divisor f cdv A outer s H E hr) (fun ds S Q E h => len_is_fraction h) p_is_fraction⟩
theorem len_added {ds : List D} {S : Sto} {Q : PD} {E : PX} (h : sp_added ad ds S Q E) : ds.length = ["first", "second"].length := by
  first
  | (obtain ⟨_, rfl, _⟩ := h; rfl)
  | (obtain ⟨_, _, rfl, _⟩ := h; rfl)
  | (obtain ⟨_, _, _, rfl, _⟩ := h; rfl)
  | (obtain ⟨_, _, _, _, rfl, _⟩ := h; rfl)
  | (obtain ⟨_, _, _, _, _, rfl, _⟩ := h; rfl)
  | (obtain ⟨_, _, _, _, _, _, rfl, _⟩ := h; rfl)
  | (obtain ⟨_, _, _, _, _, _, _, rfl, _⟩ := h; rfl)
  | (obtain ⟨_, _, _, _, _, _, _, _, rfl, _⟩ := h; rfl)
theorem ok_added (T : Txt K mg ad) (G_fraction : GF P w K mg base "fraction" ["top", "below"] 2 (sp_fraction ad)) (F : FnD K "added" s_added f fd) (g : mg "added" = some (.ref f)) : GF P w K mg base "added" ["first", "second"] 3 (sp_added ad) :=
  ⟨f, fd, g, F.kp, F.bindsN (fun _ _ _ _ _ _ us hl => match us, hl with | [_, _], _ => rfl), FunD.pure F sc_added (fun cdv A outer s H E hr => d_added T G_fraction f cdv A outer s H E hr) (fun ds S Q E h => len_added h) p_added⟩
theorem len_times {ds : List D} {S : Sto} {Q : PD} {E : PX} (h : sp_times ad ds S Q E) : ds.length = ["first", "second"].length := by
  first
  | (obtain ⟨_, rfl, _⟩ := h; rfl)
  | (obtain ⟨_, _, rfl, _⟩ := h; rfl)
  | (obtain ⟨_, _, _, rfl, _⟩ := h; rfl)
  | (obtain ⟨_, _, _, _, rfl, _⟩ := h; rfl)
  | (obtain ⟨_, _, _, _, _, rfl, _⟩ := h; rfl)
  | (obtain ⟨_, _, _, _, _, _, rfl, _⟩ := h; rfl)
  | (obtain ⟨_, _, _, _, _, _, _, rfl, _⟩ := h; rfl)
  | (obtain ⟨_, _, _, _, _, _, _, _, rfl, _⟩ := h; rfl)
theorem ok_times (T : Txt K mg ad) (G_fraction : GF P w K mg base "fraction" ["top", "below"] 2 (sp_fraction ad)) (F : FnD K "times" s_times f fd) (g : mg "times" = some (.ref f)) : GF P w K mg base "times" ["first", "second"] 3 (sp_times ad) :=
  ⟨f, fd, g, F.kp, F.bindsN (fun _ _ _ _ _ _ us hl => match us, hl with | [_, _], _ => rfl), FunD.pure F sc_times (fun cdv A outer s H E hr => d_times T G_fraction f cdv A outer s H E hr) (fun ds S Q E h => len_times h) p_times⟩
theorem len_less {ds : List D} {S : Sto} {Q : PD} {E : PX} (h : sp_less ad ds S Q E) : ds.length = ["first", "second"].length := by
  first
  | (obtain ⟨_, rfl, _⟩ := h; rfl)
  | (obtain ⟨_, _, rfl, _⟩ := h; rfl)
  | (obtain ⟨_, _, _, rfl, _⟩ := h; rfl)
  | (obtain ⟨_, _, _, _, rfl, _⟩ := h; rfl)
  | (obtain ⟨_, _, _, _, _, rfl, _⟩ := h; rfl)
  | (obtain ⟨_, _, _, _, _, _, rfl, _⟩ := h; rfl)
  | (obtain ⟨_, _, _, _, _, _, _, rfl, _⟩ := h; rfl)
  | (obtain ⟨_, _, _, _, _, _, _, _, rfl, _⟩ := h; rfl)
theorem ok_less (T : Txt K mg ad) (F : FnD K "less" s_less f fd) (g : mg "less" = some (.ref f)) : GF P w K mg base "less" ["first", "second"] 1 (sp_less ad) :=
  ⟨f, fd, g, F.kp, F.bindsN (fun _ _ _ _ _ _ us hl => match us, hl with | [_, _], _ => rfl), FunD.pure F sc_less (fun cdv A outer s H E hr => d_less T f cdv A outer s H E hr) (fun ds S Q E h => len_less h) p_less⟩
theorem len__law_same {ds : List D} {S : Sto} {Q : PD} {E : PX} (h : sp__law_same ad ds S Q E) : ds.length = ["told", "due"].length := by
  first
  | (obtain ⟨_, rfl, _⟩ := h; rfl)
  | (obtain ⟨_, _, rfl, _⟩ := h; rfl)
  | (obtain ⟨_, _, _, rfl, _⟩ := h; rfl)
  | (obtain ⟨_, _, _, _, rfl, _⟩ := h; rfl)
  | (obtain ⟨_, _, _, _, _, rfl, _⟩ := h; rfl)
  | (obtain ⟨_, _, _, _, _, _, rfl, _⟩ := h; rfl)
  | (obtain ⟨_, _, _, _, _, _, _, rfl, _⟩ := h; rfl)
  | (obtain ⟨_, _, _, _, _, _, _, _, rfl, _⟩ := h; rfl)
theorem ok__law_same (T : Txt K mg ad) (F : FnD K "_law_same" s__law_same f fd) (g : mg "_law_same" = some (.ref f)) : GG P w K mg base "_law_same" ["told", "due"] 1 (sp__law_same ad) :=
  ⟨f, fd, g, F.kp, F.bindsN (fun _ _ _ _ _ _ us hl => match us, hl with | [_, _], _ => rfl), FunD.pureG F sc__law_same (fun cdv A outer s H E hr hG => d__law_same T f cdv A outer s H E hr hG) (fun ds S Q E h => len__law_same h) p__law_same⟩
theorem len__law_stream {ds : List D} {S : Sto} {Q : PD} {E : PX} (h : sp__law_stream ad ds S Q E) : ds.length = ["script"].length := by
  first
  | (obtain ⟨_, rfl, _⟩ := h; rfl)
  | (obtain ⟨_, _, rfl, _⟩ := h; rfl)
  | (obtain ⟨_, _, _, rfl, _⟩ := h; rfl)
  | (obtain ⟨_, _, _, _, rfl, _⟩ := h; rfl)
  | (obtain ⟨_, _, _, _, _, rfl, _⟩ := h; rfl)
  | (obtain ⟨_, _, _, _, _, _, rfl, _⟩ := h; rfl)
  | (obtain ⟨_, _, _, _, _, _, _, rfl, _⟩ := h; rfl)
  | (obtain ⟨_, _, _, _, _, _, _, _, rfl, _⟩ := h; rfl)
theorem ok__law_stream (T : Txt K mg ad) (F : FnD K "_law_stream" s__law_stream f fd) (g : mg "_law_stream" = some (.ref f)) : GF P w K mg base "_law_stream" ["script"] 1 (sp__law_stream ad) :=
  ⟨f, fd, g, F.kp, F.bindsN (fun _ _ _ _ _ _ us hl => match us, hl with | [_], _ => rfl), FunD.pure F sc__law_stream (fun cdv A outer s H E hr => d__law_stream T f cdv A outer s H E hr) (fun ds S Q E h => len__law_stream h) p__law_stream⟩
theorem len__law_next {ds : List D} {S : Sto} {Q : PD} {E : PX} (h : sp__law_next ad ds S Q E) : ds.length = ["state", "many"].length := by
  first
  | (obtain ⟨_, rfl, _⟩ := h; rfl)
  | (obtain ⟨_, _, rfl, _⟩ := h; rfl)
  | (obtain ⟨_, _, _, rfl, _⟩ := h; rfl)
  | (obtain ⟨_, _, _, _, rfl, _⟩ := h; rfl)
  | (obtain ⟨_, _, _, _, _, rfl, _⟩ := h; rfl)
  | (obtain ⟨_, _, _, _, _, _, rfl, _⟩ := h; rfl)
  | (obtain ⟨_, _, _, _, _, _, _, rfl, _⟩ := h; rfl)
  | (obtain ⟨_, _, _, _, _, _, _, _, rfl, _⟩ := h; rfl)
theorem ok__law_next (T : Txt K mg ad) (F : FnD K "_law_next" s__law_next f fd) (g : mg "_law_next" = some (.ref f)) : GF P w K mg base "_law_next" ["state", "many"] 1 (sp__law_next ad) :=
  ⟨f, fd, g, F.kp, F.bindsN (fun _ _ _ _ _ _ us hl => match us, hl with | [_, _], _ => rfl), FunD.pure F sc__law_next (fun cdv A outer s H E hr => d__law_next T f cdv A outer s H E hr) (fun ds S Q E h => len__law_next h) p__law_next⟩
theorem len__law_great {ds : List D} {S : Sto} {Q : PD} {E : PX} (h : sp__law_great ad ds S Q E) : ds.length = ["state", "many"].length := by
  first
  | (obtain ⟨_, rfl, _⟩ := h; rfl)
  | (obtain ⟨_, _, rfl, _⟩ := h; rfl)
  | (obtain ⟨_, _, _, rfl, _⟩ := h; rfl)
  | (obtain ⟨_, _, _, _, rfl, _⟩ := h; rfl)
  | (obtain ⟨_, _, _, _, _, rfl, _⟩ := h; rfl)
  | (obtain ⟨_, _, _, _, _, _, rfl, _⟩ := h; rfl)
  | (obtain ⟨_, _, _, _, _, _, _, rfl, _⟩ := h; rfl)
  | (obtain ⟨_, _, _, _, _, _, _, _, rfl, _⟩ := h; rfl)
theorem ok__law_great (T : Txt K mg ad) (G__law_next : GF P w K mg base "_law_next" ["state", "many"] 1 (sp__law_next ad)) (F : FnD K "_law_great" s__law_great f fd) (g : mg "_law_great" = some (.ref f)) : GF P w K mg base "_law_great" ["state", "many"] 2 (sp__law_great ad) :=
  ⟨f, fd, g, F.kp, F.bindsN (fun _ _ _ _ _ _ us hl => match us, hl with | [_, _], _ => rfl), FunD.pure F sc__law_great (fun cdv A outer s H E hr => d__law_great T G__law_next f cdv A outer s H E hr) (fun ds S Q E h => len__law_great h) p__law_great⟩
theorem len__law_common {ds : List D} {S : Sto} {Q : PD} {E : PX} (h : sp__law_common ad ds S Q E) : ds.length = ["first", "second"].length := by
  first
  | (obtain ⟨_, rfl, _⟩ := h; rfl)
  | (obtain ⟨_, _, rfl, _⟩ := h; rfl)
  | (obtain ⟨_, _, _, rfl, _⟩ := h; rfl)
  | (obtain ⟨_, _, _, _, rfl, _⟩ := h; rfl)
  | (obtain ⟨_, _, _, _, _, rfl, _⟩ := h; rfl)
  | (obtain ⟨_, _, _, _, _, _, rfl, _⟩ := h; rfl)
  | (obtain ⟨_, _, _, _, _, _, _, rfl, _⟩ := h; rfl)
  | (obtain ⟨_, _, _, _, _, _, _, _, rfl, _⟩ := h; rfl)
theorem ok__law_common (T : Txt K mg ad) (F : FnD K "_law_common" s__law_common f fd) (g : mg "_law_common" = some (.ref f)) : GF P w K mg base "_law_common" ["first", "second"] 1 (sp__law_common ad) :=
  ⟨f, fd, g, F.kp, F.bindsN (fun _ _ _ _ _ _ us hl => match us, hl with | [_, _], _ => rfl), FunD.pure F sc__law_common (fun cdv A outer s H E hr => d__law_common T f cdv A outer s H E hr) (fun ds S Q E h => len__law_common h) p__law_common⟩
theorem len__law_reduced {ds : List D} {S : Sto} {Q : PD} {E : PX} (h : sp__law_reduced ad ds S Q E) : ds.length = ["top", "below"].length := by
  first
  | (obtain ⟨_, rfl, _⟩ := h; rfl)
  | (obtain ⟨_, _, rfl, _⟩ := h; rfl)
  | (obtain ⟨_, _, _, rfl, _⟩ := h; rfl)
  | (obtain ⟨_, _, _, _, rfl, _⟩ := h; rfl)
  | (obtain ⟨_, _, _, _, _, rfl, _⟩ := h; rfl)
  | (obtain ⟨_, _, _, _, _, _, rfl, _⟩ := h; rfl)
  | (obtain ⟨_, _, _, _, _, _, _, rfl, _⟩ := h; rfl)
  | (obtain ⟨_, _, _, _, _, _, _, _, rfl, _⟩ := h; rfl)
theorem ok__law_reduced (T : Txt K mg ad) (G__law_common : GF P w K mg base "_law_common" ["first", "second"] 1 (sp__law_common ad)) (F : FnD K "_law_reduced" s__law_reduced f fd) (g : mg "_law_reduced" = some (.ref f)) : GF P w K mg base "_law_reduced" ["top", "below"] 2 (sp__law_reduced ad) :=
  ⟨f, fd, g, F.kp, F.bindsN (fun _ _ _ _ _ _ us hl => match us, hl with | [_, _], _ => rfl), FunD.pure F sc__law_reduced (fun cdv A outer s H E hr => d__law_reduced T G__law_common f cdv A outer s H E hr) (fun ds S Q E h => len__law_reduced h) p__law_reduced⟩
theorem len__law_number {ds : List D} {S : Sto} {Q : PD} {E : PX} (h : sp__law_number ad ds S Q E) : ds.length = ["state"].length := by
  first
  | (obtain ⟨_, rfl, _⟩ := h; rfl)
  | (obtain ⟨_, _, rfl, _⟩ := h; rfl)
  | (obtain ⟨_, _, _, rfl, _⟩ := h; rfl)
  | (obtain ⟨_, _, _, _, rfl, _⟩ := h; rfl)
  | (obtain ⟨_, _, _, _, _, rfl, _⟩ := h; rfl)
  | (obtain ⟨_, _, _, _, _, _, rfl, _⟩ := h; rfl)
  | (obtain ⟨_, _, _, _, _, _, _, rfl, _⟩ := h; rfl)
  | (obtain ⟨_, _, _, _, _, _, _, _, rfl, _⟩ := h; rfl)
theorem ok__law_number (T : Txt K mg ad) (G__law_great : GF P w K mg base "_law_great" ["state", "many"] 2 (sp__law_great ad)) (G__law_next : GF P w K mg base "_law_next" ["state", "many"] 1 (sp__law_next ad)) (F : FnD K "_law_number" s__law_number f fd) (g : mg "_law_number" = some (.ref f)) : GF P w K mg base "_law_number" ["state"] 3 (sp__law_number ad) :=
  ⟨f, fd, g, F.kp, F.bindsN (fun _ _ _ _ _ _ us hl => match us, hl with | [_], _ => rfl), FunD.pure F sc__law_number (fun cdv A outer s H E hr => d__law_number T G__law_great G__law_next f cdv A outer s H E hr) (fun ds S Q E h => len__law_number h) p__law_number⟩
theorem len_law {ds : List D} {S : Sto} {Q : PD} {E : PX} (h : sp_law ad ds S Q E) : ds.length = ["script"].length := by
  first
  | (obtain ⟨_, rfl, _⟩ := h; rfl)
  | (obtain ⟨_, _, rfl, _⟩ := h; rfl)
  | (obtain ⟨_, _, _, rfl, _⟩ := h; rfl)
  | (obtain ⟨_, _, _, _, rfl, _⟩ := h; rfl)
  | (obtain ⟨_, _, _, _, _, rfl, _⟩ := h; rfl)
  | (obtain ⟨_, _, _, _, _, _, rfl, _⟩ := h; rfl)
  | (obtain ⟨_, _, _, _, _, _, _, rfl, _⟩ := h; rfl)
  | (obtain ⟨_, _, _, _, _, _, _, _, rfl, _⟩ := h; rfl)
def spL (ad : Ad) (tb : List (Addr × Str)) : QF := fun ds S Q E => sp_law ad ds S Q E ∧ TabOk tb S
def nmL : Str := (envOfC "law" (defScope s_law) 0 0 .none).qual ++ "<lambda>"
theorem nm_eq (n f : Addr) (cdv : Value) : (envOfC "law" (defScope s_law) n f cdv).qual ++ "<lambda>" = nmL := by unfold nmL envOfC; rfl
theorem ok_law (nd : ad.six.Nodup) (T : Txt K mg ad) (TL : ToldT K mg s__law_told ["call"]) {c Pt : Addr} (TB : LamX.TabB base mg c Pt) (G__law_common : GF P w K mg base "_law_common" ["first", "second"] 1 (sp__law_common ad)) (G__law_number : GF P w K mg base "_law_number" ["state"] 3 (sp__law_number ad)) (G__law_reduced : GF P w K mg base "_law_reduced" ["top", "below"] 2 (sp__law_reduced ad)) (G__law_stream : GF P w K mg base "_law_stream" ["script"] 1 (sp__law_stream ad)) (G_added : GF P w K mg base "added" ["first", "second"] 3 (sp_added ad)) (G_fraction : GF P w K mg base "fraction" ["top", "below"] 2 (sp_fraction ad)) (G_is_fraction : GF P w K mg base "is_fraction" ["value"] 2 (sp_is_fraction ad)) (G_less : GF P w K mg base "less" ["first", "second"] 1 (sp_less ad)) (G_times : GF P w K mg base "times" ["first", "second"] 3 (sp_times ad)) (G__law_same : GG P w K mg base "_law_same" ["told", "due"] 1 (sp__law_same ad)) (F : FnD K "law" s_law f fd) (hc : fd.code = .ref c) : FnG P w K mg base 6 f fd ["script"] (spL ad [(Pt, nmL)]) :=
  FunD.pureC (q := r_law ad [(Pt, nmL)] nmL) F hc sc_law (fun cdv A outer s H E hcv hr hG => by
    have z := d_law T TL TB G__law_common G__law_number G__law_reduced G__law_stream G_added G_fraction G_is_fraction G_less G_times G__law_same f cdv hcv A outer s H E (tb := [(Pt, nmL)]) (List.mem_singleton.mpr (by rw [nm_eq])) (fun p hp _ => by rw [List.mem_singleton.mp hp, nm_eq]) hr hG
    rw [nm_eq] at z
    exact z) (fun ds S Q E h => len_law h.1) fun ds S Q E h => p_law nd ds S Q E h.1 h.2
end
/-! the head -/
def D_divisor : He.DefD := ⟨("divisor", none), "divisor", "divisor", defArgs s_divisor, defBody s_divisor, defScope s_divisor, [], []⟩
def D_fraction : He.DefD := ⟨("fraction", none), "fraction", "fraction", defArgs s_fraction, defBody s_fraction, defScope s_fraction, [], []⟩
def D_is_fraction : He.DefD := ⟨("is_fraction", none), "is_fraction", "is_fraction", defArgs s_is_fraction, defBody s_is_fraction, defScope s_is_fraction, [], []⟩
def D_added : He.DefD := ⟨("added", none), "added", "added", defArgs s_added, defBody s_added, defScope s_added, [], []⟩
def D_times : He.DefD := ⟨("times", none), "times", "times", defArgs s_times, defBody s_times, defScope s_times, [], []⟩
def D_less : He.DefD := ⟨("less", none), "less", "less", defArgs s_less, defBody s_less, defScope s_less, [], []⟩
def D__law_same : He.DefD := ⟨("_law_same", none), "_law_same", "_law_same", defArgs s__law_same, defBody s__law_same, defScope s__law_same, [], []⟩
def D__law_stream : He.DefD := ⟨("_law_stream", none), "_law_stream", "_law_stream", defArgs s__law_stream, defBody s__law_stream, defScope s__law_stream, [], []⟩
def D__law_next : He.DefD := ⟨("_law_next", none), "_law_next", "_law_next", defArgs s__law_next, defBody s__law_next, defScope s__law_next, [], []⟩
def D__law_great : He.DefD := ⟨("_law_great", none), "_law_great", "_law_great", defArgs s__law_great, defBody s__law_great, defScope s__law_great, [], []⟩
def D__law_told : He.DefD := ⟨("_law_told", none), "_law_told", "_law_told", defArgs s__law_told, defBody s__law_told, defScope s__law_told, [], []⟩
def D__law_common : He.DefD := ⟨("_law_common", none), "_law_common", "_law_common", defArgs s__law_common, defBody s__law_common, defScope s__law_common, [], []⟩
def D__law_reduced : He.DefD := ⟨("_law_reduced", none), "_law_reduced", "_law_reduced", defArgs s__law_reduced, defBody s__law_reduced, defScope s__law_reduced, [], []⟩
def D__law_number : He.DefD := ⟨("_law_number", none), "_law_number", "_law_number", defArgs s__law_number, defBody s__law_number, defScope s__law_number, [], []⟩
def D_law : He.DefD := ⟨("law", none), "law", "law", defArgs s_law, defBody s_law, defScope s_law, [], []⟩
def fn : List He.DefD := [D_divisor, D_fraction, D_is_fraction, D_added, D_times, D_less, D__law_same, D__law_stream, D__law_next, D__law_great, D__law_told, D__law_common, D__law_reduced, D__law_number, D_law]
def fa : List He.Fa := [.glo "divisor", .glo "fraction", .glo "is_fraction", .glo "added", .glo "times", .glo "less", .glo "_law_same", .glo "_law_stream", .glo "_law_next", .glo "_law_great", .glo "_law_told", .glo "_law_common", .glo "_law_reduced", .glo "_law_number", .glo "law", .free "abs", .free "int", .free "isinstance", .free "len", .free "max", .free "range", .free "repr", .glo "BadForm", .glo "BadPaper", .glo "Broken", .glo "Missing", .glo "NotAllowed", .glo "SlipError", .glo "TooLarge", .exc "NotAllowed"]
abbrev R : PySem.W.OpenRow := PySem.W.OpenLaw.row PySem.Challenge.rw_slipward_k01_fractions
abbrev hk : PySem.W.Hook := He.hookX 4 fa fn [] [("law", none)] exB
def ob (s : PySem.W.SharedT) : He.AlX := He.obsX 4 fa fn [] [("law", none)] exB (HandSHeadRun.getT s)
theorem ob_eq (s : PySem.W.SharedT) : ob s = hk.obs s.abs := He.obsX_eq (HandSHeadRun.getT_eq s)
def loose0 : List Str := ["SlipError", "NotAllowed", "TooLarge", "Missing", "BadPaper", "BadForm", "Broken", "divisor", "fraction", "is_fraction", "added", "times", "less", "_law_same", "_law_stream", "_law_next", "_law_great", "_law_told", "_law_common", "_law_reduced", "_law_number"]
theorem run (w : World) : HandSHeadRun.RunEq R (PySem.W.view R.prog [24]) hk ob 2200 ["SlipError", "NotAllowed", "TooLarge", "Missing", "BadPaper", "BadForm", "Broken", "divisor", "fraction", "is_fraction", "added", "times", "less", "_law_same", "_law_stream", "_law_next", "_law_great", "_law_told", "_law_common", "_law_reduced", "_law_number"] w := by
  intro os
  kernel_rfl
theorem facts {w : World} {K : PySem.W.Frag} {h : Heap} {mg : Str → Option Value} {f : Addr} (X : K.In h) (G : h.Ns mainGlobals mg) (hfa : mg ("law" : Str) = some (.ref f)) (c : He.SaysX fa fn [] [("law", none)] exB w h K) :
    LawAt PySem.Challenge.rw_slipward_k01_fractions w K 6 63 "script" mg f h := by
  have d := c.t.d
  have sx := exB_ok c.more
  obtain ⟨fd_divisor, F_divisor⟩ := d.def_ 0 (d := D_divisor) rfl
  have g_divisor := He.glo_ok X G (d.fact 0 (f := .glo "divisor") rfl)
  obtain ⟨fd_fraction, F_fraction⟩ := d.def_ 1 (d := D_fraction) rfl
  have g_fraction := He.glo_ok X G (d.fact 1 (f := .glo "fraction") rfl)
  obtain ⟨fd_is_fraction, F_is_fraction⟩ := d.def_ 2 (d := D_is_fraction) rfl
  have g_is_fraction := He.glo_ok X G (d.fact 2 (f := .glo "is_fraction") rfl)
  obtain ⟨fd_added, F_added⟩ := d.def_ 3 (d := D_added) rfl
  have g_added := He.glo_ok X G (d.fact 3 (f := .glo "added") rfl)
  obtain ⟨fd_times, F_times⟩ := d.def_ 4 (d := D_times) rfl
  have g_times := He.glo_ok X G (d.fact 4 (f := .glo "times") rfl)
  obtain ⟨fd_less, F_less⟩ := d.def_ 5 (d := D_less) rfl
  have g_less := He.glo_ok X G (d.fact 5 (f := .glo "less") rfl)
  obtain ⟨fd__law_same, F__law_same⟩ := d.def_ 6 (d := D__law_same) rfl
  have g__law_same := He.glo_ok X G (d.fact 6 (f := .glo "_law_same") rfl)
  obtain ⟨fd__law_stream, F__law_stream⟩ := d.def_ 7 (d := D__law_stream) rfl
  have g__law_stream := He.glo_ok X G (d.fact 7 (f := .glo "_law_stream") rfl)
  obtain ⟨fd__law_next, F__law_next⟩ := d.def_ 8 (d := D__law_next) rfl
  have g__law_next := He.glo_ok X G (d.fact 8 (f := .glo "_law_next") rfl)
  obtain ⟨fd__law_great, F__law_great⟩ := d.def_ 9 (d := D__law_great) rfl
  have g__law_great := He.glo_ok X G (d.fact 9 (f := .glo "_law_great") rfl)
  obtain ⟨fd__law_told, F__law_told⟩ := d.def_ 10 (d := D__law_told) rfl
  have g__law_told := He.glo_ok X G (d.fact 10 (f := .glo "_law_told") rfl)
  obtain ⟨fd__law_common, F__law_common⟩ := d.def_ 11 (d := D__law_common) rfl
  have g__law_common := He.glo_ok X G (d.fact 11 (f := .glo "_law_common") rfl)
  obtain ⟨fd__law_reduced, F__law_reduced⟩ := d.def_ 12 (d := D__law_reduced) rfl
  have g__law_reduced := He.glo_ok X G (d.fact 12 (f := .glo "_law_reduced") rfl)
  obtain ⟨fd__law_number, F__law_number⟩ := d.def_ 13 (d := D__law_number) rfl
  have g__law_number := He.glo_ok X G (d.fact 13 (f := .glo "_law_number") rfl)
  obtain ⟨fd_law, F_law⟩ := d.def_ 14 (d := D_law) rfl
  have g_law := He.glo_ok X G (d.fact 14 (f := .glo "law") rfl)
  have T : Txt K mg (adK K) := {
    n_abs := He.free_ok X G (d.fact 15 (f := .free "abs") rfl)
    n_int := He.free_ok X G (d.fact 16 (f := .free "int") rfl)
    n_isinstance := He.free_ok X G (d.fact 17 (f := .free "isinstance") rfl)
    n_len := He.free_ok X G (d.fact 18 (f := .free "len") rfl)
    n_max := He.free_ok X G (d.fact 19 (f := .free "max") rfl)
    n_range := He.free_ok X G (d.fact 20 (f := .free "range") rfl)
    n_repr := He.free_ok X G (d.fact 21 (f := .free "repr") rfl)
    g_BadForm := He.glo_ok X G (d.fact 22 (f := .glo "BadForm") rfl)
    g_BadPaper := He.glo_ok X G (d.fact 23 (f := .glo "BadPaper") rfl)
    g_Broken := He.glo_ok X G (d.fact 24 (f := .glo "Broken") rfl)
    g_Missing := He.glo_ok X G (d.fact 25 (f := .glo "Missing") rfl)
    g_NotAllowed := He.glo_ok X G (d.fact 26 (f := .glo "NotAllowed") rfl)
    g_SlipError := He.glo_ok X G (d.fact 27 (f := .glo "SlipError") rfl)
    g_TooLarge := He.glo_ok X G (d.fact 28 (f := .glo "TooLarge") rfl)
    x_NotAllowed := excT_of X G (d.fact 26 (f := .glo "NotAllowed") rfl) (d.fact 29 (f := .exc "NotAllowed") rfl)
    exm := sx.exm
    exc := sx.exc
    kit := sx.kit }
  have e := hfa.symm.trans g_law
  cases e
  have TL : ToldT K mg s__law_told ["call"] := ⟨_, _, g__law_told, F__law_told, FunD.bindsN F__law_told (fun _ _ _ _ _ _ us hl => match us, hl with | [_], _ => rfl)⟩
  have hbind : ∀ (s : Shared) (v : Value), BindsTo s fd_law ⟨[v], []⟩ [("script", v)] := fun s v => FunD.bindsA (ps := ["script"]) F_law (fun _ _ _ _ _ _ us hl => match us, hl with | [_], _ => rfl) s [v] rfl
  refine ⟨fd_law, [He.cT K ("law", none)], fun _ => nmL, spL (adK K) [((He.cT K ("law", none)).2, nmL)], ?_, ?_, ?_, hbind, ?_, ?_⟩
  · intro p hp
    rw [List.mem_singleton.mp hp]
    exact c.empty _ (List.mem_singleton.mpr rfl)
  · intro p hp
    rw [List.mem_singleton.mp hp]
    exact c.out _ (List.mem_singleton.mpr rfl)
  · intro p hp
    rw [List.mem_singleton.mp hp]
    exact c.hd _ (List.mem_singleton.mpr rfl)
  · intro ns hl hbits
    exact ⟨law_start ns hl hbits, entry_tabOk (cs := [He.cT K ("law", none)]) (nm := fun _ => nmL)⟩
  · intro base hKb hGb hTB
    have TB := hTB _ (List.mem_singleton.mpr rfl)
    have G_divisor : GF PySem.Challenge.rw_slipward_k01_fractions.prog w K mg base "divisor" ["first", "second"] 1 (sp_divisor (adK K)) := ok_divisor T F_divisor g_divisor
    have G_fraction : GF PySem.Challenge.rw_slipward_k01_fractions.prog w K mg base "fraction" ["top", "below"] 2 (sp_fraction (adK K)) := ok_fraction T G_divisor F_fraction g_fraction
    have G_is_fraction : GF PySem.Challenge.rw_slipward_k01_fractions.prog w K mg base "is_fraction" ["value"] 2 (sp_is_fraction (adK K)) := ok_is_fraction T G_divisor F_is_fraction g_is_fraction
    have G_added : GF PySem.Challenge.rw_slipward_k01_fractions.prog w K mg base "added" ["first", "second"] 3 (sp_added (adK K)) := ok_added T G_fraction F_added g_added
    have G_times : GF PySem.Challenge.rw_slipward_k01_fractions.prog w K mg base "times" ["first", "second"] 3 (sp_times (adK K)) := ok_times T G_fraction F_times g_times
    have G_less : GF PySem.Challenge.rw_slipward_k01_fractions.prog w K mg base "less" ["first", "second"] 1 (sp_less (adK K)) := ok_less T F_less g_less
    have G__law_same : GG PySem.Challenge.rw_slipward_k01_fractions.prog w K mg base "_law_same" ["told", "due"] 1 (sp__law_same (adK K)) := ok__law_same T F__law_same g__law_same
    have G__law_stream : GF PySem.Challenge.rw_slipward_k01_fractions.prog w K mg base "_law_stream" ["script"] 1 (sp__law_stream (adK K)) := ok__law_stream T F__law_stream g__law_stream
    have G__law_next : GF PySem.Challenge.rw_slipward_k01_fractions.prog w K mg base "_law_next" ["state", "many"] 1 (sp__law_next (adK K)) := ok__law_next T F__law_next g__law_next
    have G__law_great : GF PySem.Challenge.rw_slipward_k01_fractions.prog w K mg base "_law_great" ["state", "many"] 2 (sp__law_great (adK K)) := ok__law_great T G__law_next F__law_great g__law_great
    have G__law_common : GF PySem.Challenge.rw_slipward_k01_fractions.prog w K mg base "_law_common" ["first", "second"] 1 (sp__law_common (adK K)) := ok__law_common T F__law_common g__law_common
    have G__law_reduced : GF PySem.Challenge.rw_slipward_k01_fractions.prog w K mg base "_law_reduced" ["top", "below"] 2 (sp__law_reduced (adK K)) := ok__law_reduced T G__law_common F__law_reduced g__law_reduced
    have G__law_number : GF PySem.Challenge.rw_slipward_k01_fractions.prog w K mg base "_law_number" ["state"] 3 (sp__law_number (adK K)) := ok__law_number T G__law_great G__law_next F__law_number g__law_number
    exact ok_law sx.nd T TL TB G__law_common G__law_number G__law_reduced G__law_stream G_added G_fraction G_is_fraction G_less G_times G__law_same F_law (code_at F_law)
end K01
open PySem PySem.W PySem.Calls PyProof.Rows
theorem PySem.Challenge.cw_slipward_k01_fractions_holds : PySem.Challenge.rw_slipward_k01_fractions.Holds := by
  w_on; o_law
  refine HandSHeadRun.head_any (r := OpenLaw.row PySem.Challenge.rw_slipward_k01_fractions) (q := view (OpenLaw.row PySem.Challenge.rw_slipward_k01_fractions).prog [24]) (H := K01.hk) (ob := K01.ob) (M := 2200) (loose := ["SlipError", "NotAllowed", "TooLarge", "Missing", "BadPaper", "BadForm", "Broken", "divisor", "fraction", "is_fraction", "added", "times", "less", "_law_same", "_law_stream", "_law_next", "_law_great", "_law_told", "_law_common", "_law_reduced", "_law_number"]) (d := HandSHeadRun.topDef (OpenLaw.row PySem.Challenge.rw_slipward_k01_fractions).prog 24) (kwd := []) K01.ob_eq
    (by kernel_rfl) (fun s => by kernel_rfl) K01.run (by kernel_rfl) (by kernel_rfl) (by kernel_rfl) (by rfl) (by first | assumption | decide +kernel) (by decide +kernel) ⟨rfl, rfl, rfl, rfl, rfl, by decide +kernel⟩ ?hw ?hc
  case hw => w_witness2
  case hc =>
    refine PL.walk_law (l := PySem.Challenge.rw_slipward_k01_fractions) (n := 63) (k := 6) (x := "script") rfl (by decide) (by kernel_rfl) ⟨rfl, by decide, by decide⟩ ?F
    intro w mg fa h Y G hmg0
    obtain ⟨K, KX, c⟩ := Y
    have hmg : mg ("law" : PySem.Str) = some (.ref fa) := by
      have e : (HandSHeadRun.topDef (OpenLaw.row PySem.Challenge.rw_slipward_k01_fractions).prog 24).name = ("law" : PySem.Str) := by kernel_rfl
      rw [← e]
      exact hmg0
    exact ⟨K, KX, K01.facts KX G hmg c⟩
