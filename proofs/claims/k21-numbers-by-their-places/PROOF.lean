import PyProof.Rows.All
import Wide.All
import OpenK.AllK
import Wide.FinOn
import PyProof.ReprReads
import HandS.ForMost
import HandS.ForExc
import HandS.Wide
import HandS.ExcCtx
import HandS.ExcIs
import HandS.Lambda
import HandS.HotCalls
import HandS.Defaults
import HandS.TupAny
import HandS.Deep
import HandS.Zip
import HandS.ExcOwn
import HandS.NestedK
import HandS.EndTab
import HandS.HeadHook4
import HandS.Head2
import HandS.HeadEnd
import PyProof.ReprLen
import HandS.TupMul
import HandS.Text
import HandS.SortInts
import HandS.Replace
import HandS.StrMore
import PyProof.StrLawsIn
import PyProof.Rows.StrLawsPart
import HandS.Style
import KE.GoesMore
import KE.KRevSl
import HandS.Strs
import HandS.Set
import PyProof.Rows.SortShellAny
import KE.GoesEnum
import HandS.Conv
import PySem.Challenge.RW_slipward_k21_whole_numbers_by_their_plac
set_option Elab.async false
set_option linter.all false
set_option maxRecDepth 100000
set_option maxHeartbeats 4000000
/-! the pure layer: data as trees, a store of lists, predicate transformers over both; each rule is shown sound over the hand layer -/
namespace PL
open PySem PySem.Spec PyProof.Rows L2 -- the layers

/-! ## data -/
/-- data: tuples by value; lists, dicts, instances and defs by their address -/
inductive D where
  | non
  | bl (b : Bool)
  | int (i : Int)
  | str (x : Str)
  | tup (xs : List D)
  | rol (xs : List D)
  | ptup (xs : List D)
  | ref (a : Addr)
  | ty (n : String)

/-- a list that nobody writes: it is known to the object, or stands in the written part -/
def Rol (K : PySem.W.Frag) (H : Hp) (a : Addr) (vs : List V) : Prop :=
  (∃ o, H a = some (.frz o (.lst vs))) ∨
    ∃ (o : Obj) (its : Array Value) (n : Nat), K.lookup a = some o ∧ o.cls = .type "list" ∧ o.dict = none ∧ o.data = .seq its n ∧ its.size ≤ sizeLine ∧ Vals vs its.toList
theorem Rol.sq {K : PySem.W.Frag} {H : Hp} {a : Addr} {vs : List V} (h : Rol K H a vs) : SqL K H a vs := by
  rcases h with h | h
  · exact .inl (.inr h)
  · exact .inr h

/-- a tuple whose object is known: it has no dict -/
def PTup (H : Hp) (a : Addr) (vs : List V) : Prop := ∃ o, H a = some (.frz o (.tup vs)) ∧ o.cls = .type "tuple" ∧ o.dict = none
mutual
/-- the value v of the hand layer bears the datum -/
def RV (K : PySem.W.Frag) (H : Hp) : D → V → Prop
  | .non, v => v = .non
  | .bl b, v => v = .bl b
  | .int i, v => v = .int i
  | .str x, v => v = .str x
  | .tup ds, v => ∃ a vs, v = .ref a ∧ SqT K H a vs ∧ RVs K H ds vs
  | .rol ds, v => ∃ a vs, v = .ref a ∧ Rol K H a vs ∧ RVs K H ds vs
  | .ptup ds, v => ∃ a vs, v = .ref a ∧ PTup H a vs ∧ RVs K H ds vs
  | .ref a, v => v = .ref a
  | .ty n, v => v = .ty n
def RVs (K : PySem.W.Frag) (H : Hp) : List D → List V → Prop
  | [], vs => vs = []
  | d :: ds, vs => ∃ v r, vs = v :: r ∧ RV K H d v ∧ RVs K H ds r
end

/-- tuples and what nobody writes stay -/
structure Keep (K : PySem.W.Frag) (H H' : Hp) : Prop where
  tup : ∀ a vs, SqT K H a vs → SqT K H' a vs
  frz : ∀ a o u, H a = some (.frz o u) → H' a = some (.frz o u)
theorem Keep.refl {K : PySem.W.Frag} {H : Hp} : Keep K H H := ⟨fun _ _ h => h, fun _ _ _ h => h⟩
theorem Keep.trans {K : PySem.W.Frag} {H H1 H2 : Hp} (a : Keep K H H1) (b : Keep K H1 H2) : Keep K H H2 :=
  ⟨fun c vs h => b.tup c vs (a.tup c vs h), fun c o u h => b.frz c o u (a.frz c o u h)⟩
theorem Keep.rol {K : PySem.W.Frag} {H H' : Hp} (k : Keep K H H') {a : Addr} {vs : List V} (h : Rol K H a vs) : Rol K H' a vs := by
  rcases h with ⟨o, h⟩ | h
  · exact .inl ⟨o, k.frz _ _ _ h⟩
  · exact .inr h
mutual
theorem RV.keep {K : PySem.W.Frag} {H H' : Hp} (k : Keep K H H') : ∀ (d : D) (v : V), RV K H d v → RV K H' d v
  | .non, _, h => h
  | .bl _, _, h => h
  | .int _, _, h => h
  | .str _, _, h => h
  | .ref _, _, h => h
  | .ty _, _, h => h
  | .tup ds, v, h => by
    unfold RV at h ⊢
    obtain ⟨a, vs, e, s, r⟩ := h
    exact ⟨a, vs, e, k.tup _ _ s, RVs.keep k ds vs r⟩
  | .rol ds, v, h => by
    unfold RV at h ⊢
    obtain ⟨a, vs, e, s, r⟩ := h
    exact ⟨a, vs, e, k.rol s, RVs.keep k ds vs r⟩
  | .ptup ds, v, h => by
    unfold RV at h ⊢
    obtain ⟨a, vs, e, ⟨o, h1, h2⟩, r⟩ := h
    exact ⟨a, vs, e, ⟨o, k.frz _ _ _ h1, h2⟩, RVs.keep k ds vs r⟩
theorem RVs.keep {K : PySem.W.Frag} {H H' : Hp} (k : Keep K H H') : ∀ (ds : List D) (vs : List V), RVs K H ds vs → RVs K H' ds vs
  | [], _, h => h
  | d :: ds, vs, h => by
    unfold RVs at h ⊢
    obtain ⟨v, r, e, h1, h2⟩ := h
    exact ⟨v, r, e, RV.keep k d v h1, RVs.keep k ds r h2⟩
end
theorem Same.keep {K : PySem.W.Frag} {H H' : Hp} (s : Same H H') : Keep K H H' := by
  refine ⟨fun a vs h => ?_, fun a o u h => s _ _ h⟩
  rcases h with (h | ⟨o, h⟩) | h
  · exact .inl (.inl (s _ _ h))
  · exact .inl (.inr ⟨o, s _ _ h⟩)
  · exact .inr h
theorem same_new {H : Hp} {p : Addr} {o : HO} (n : H p = none) : Same H (upd H p o) := fun b u e => by
  rw [upd_ne (ne_of_none e n)]
  exact e
theorem Keep.new {K : PySem.W.Frag} {H : Hp} {p : Addr} {o : HO} (n : H p = none) : Keep K H (upd H p o) := Same.keep (same_new n)
/-- a list, a dict, an instance is written -/
theorem Keep.mut {K : PySem.W.Frag} {H : Hp} {p : Addr} {o u : HO} (n : H p = some u) (h1 : ∀ xs, u ≠ .tup xs) (h2 : ∀ ob w, u ≠ .frz ob w) : Keep K H (upd H p o) := by
  have ne : ∀ {a : Addr} {w : HO}, H a = some w → w ≠ u → a ≠ p := fun {a w} e q z => by
    rw [z, n] at e
    exact q (Option.some.inj e).symm
  refine ⟨fun a vs h => ?_, fun a ob w h => ?_⟩
  · rcases h with (h | ⟨ob, h⟩) | h
    · exact .inl (.inl (by rw [upd_ne (ne h (fun z => h1 _ z.symm))]; exact h))
    · exact .inl (.inr ⟨ob, by rw [upd_ne (ne h (fun z => h2 _ _ z.symm))]; exact h⟩)
    · exact .inr h
  · rw [upd_ne (ne h (fun z => h2 _ _ z.symm))]
    exact h

theorem RVs.nil_iff {K : PySem.W.Frag} {H : Hp} {vs : List V} : RVs K H [] vs ↔ vs = [] := by unfold RVs; exact Iff.rfl
theorem RVs.length {K : PySem.W.Frag} {H : Hp} : ∀ {ds : List D} {vs : List V}, RVs K H ds vs → ds.length = vs.length
  | [], vs, h => by unfold RVs at h; subst h; rfl
  | d :: ds, vs, h => by
    unfold RVs at h
    obtain ⟨v, r, e, _, h2⟩ := h
    subst e
    simp [RVs.length h2]
theorem RVs.get {K : PySem.W.Frag} {H : Hp} : ∀ {ds : List D} {vs : List V} {i : Nat} {d : D}, RVs K H ds vs → ds[i]? = some d → ∃ v, vs[i]? = some v ∧ RV K H d v
  | [], _, _, _, _, e => by simp at e
  | d :: ds, vs, 0, x, h, e => by
    unfold RVs at h
    obtain ⟨v, r, e1, h1, _⟩ := h
    subst e1
    simp at e
    subst e
    exact ⟨v, rfl, h1⟩
  | d :: ds, vs, i + 1, x, h, e => by
    unfold RVs at h
    obtain ⟨v, r, e1, _, h2⟩ := h
    subst e1
    obtain ⟨w, a, b⟩ := RVs.get h2 (i := i) (d := x) (by simpa using e)
    exact ⟨w, by simpa using a, b⟩
theorem RVs.append {K : PySem.W.Frag} {H : Hp} : ∀ {ds es : List D} {vs ws : List V}, RVs K H ds vs → RVs K H es ws → RVs K H (ds ++ es) (vs ++ ws)
  | [], _, vs, _, h, q => by unfold RVs at h; subst h; exact q
  | d :: ds, es, vs, ws, h, q => by
    unfold RVs at h
    obtain ⟨v, r, e, h1, h2⟩ := h
    subst e
    show RVs K H (d :: (ds ++ es)) (v :: (r ++ ws))
    unfold RVs
    exact ⟨v, r ++ ws, rfl, h1, RVs.append h2 q⟩
theorem RVs.one {K : PySem.W.Frag} {H : Hp} {d : D} {v : V} (h : RV K H d v) : RVs K H [d] [v] := by
  unfold RVs
  exact ⟨v, [], rfl, h, RVs.nil_iff.mpr rfl⟩
theorem RVs.set {K : PySem.W.Frag} {H : Hp} {d : D} {v : V} (q : RV K H d v) : ∀ {ds : List D} {vs : List V} (i : Nat), RVs K H ds vs → RVs K H (ds.set i d) (vs.set i v)
  | [], vs, _, h => by unfold RVs at h; subst h; exact RVs.nil_iff.mpr rfl
  | x :: ds, vs, 0, h => by
    unfold RVs at h
    obtain ⟨w, r, e, _, h2⟩ := h
    subst e
    show RVs K H (d :: ds) (v :: r)
    unfold RVs
    exact ⟨v, r, rfl, q, h2⟩
  | x :: ds, vs, i + 1, h => by
    unfold RVs at h
    obtain ⟨w, r, e, h1, h2⟩ := h
    subst e
    show RVs K H (x :: ds.set i d) (w :: r.set i v)
    unfold RVs
    exact ⟨w, _, rfl, h1, RVs.set q i h2⟩
theorem RVs.drop {K : PySem.W.Frag} {H : Hp} : ∀ {ds : List D} {vs : List V} (n : Nat), RVs K H ds vs → RVs K H (ds.drop n) (vs.drop n)
  | _, _, 0, h => h
  | [], vs, n + 1, h => by unfold RVs at h; subst h; exact RVs.nil_iff.mpr rfl
  | d :: ds, vs, n + 1, h => by
    unfold RVs at h
    obtain ⟨w, r, e, _, h2⟩ := h
    subst e
    exact RVs.drop n h2
theorem RVs.take {K : PySem.W.Frag} {H : Hp} : ∀ {ds : List D} {vs : List V} (n : Nat), RVs K H ds vs → RVs K H (ds.take n) (vs.take n)
  | _, _, 0, _ => RVs.nil_iff.mpr rfl
  | [], vs, n + 1, h => by unfold RVs at h; subst h; exact RVs.nil_iff.mpr rfl
  | d :: ds, vs, n + 1, h => by
    unfold RVs at h
    obtain ⟨w, r, e, h1, h2⟩ := h
    subst e
    show RVs K H (d :: ds.take n) (w :: r.take n)
    unfold RVs
    exact ⟨w, _, rfl, h1, RVs.take n h2⟩

/-! ## the store -/
/-- what the pure side knows to stand at an address -/
inductive O where
  | lst (ds : List D)
  | tab (q : Str)
  | cod (q : Str)
abbrev Sto := Addr → Option O
def ups (S : Sto) (a : Addr) (o : O) : Sto := fun b => if b = a then some o else S b
theorem ups_same {S : Sto} {a : Addr} {o : O} : ups S a o a = some o := by unfold ups; rw [if_pos rfl]
theorem ups_ne {S : Sto} {a b : Addr} {o : O} (h : b ≠ a) : ups S a o b = S b := by unfold ups; rw [if_neg h]
theorem ups_ups {S : Sto} {a : Addr} {o u : O} : ups (ups S a o) a u = ups S a u := by
  funext b; unfold ups; split <;> rfl
/-- S stands in S' -/
def Sub (S S' : Sto) : Prop := ∀ a o, S a = some o → S' a = some o
theorem Sub.refl (S : Sto) : Sub S S := fun _ _ h => h
theorem Sub.trans {S S1 S2 : Sto} (a : Sub S S1) (b : Sub S1 S2) : Sub S S2 := fun c o h => b c o (a c o h)
theorem sto_ne {S : Sto} {a b : Addr} {o : O} (h : S a = some o) (n : S b = none) : a ≠ b := by
  intro e; subst e; rw [h] at n; cases n
theorem Sub.new {S S' : Sto} {p : Addr} {o : O} (s : Sub S S') (n : S' p = none) : Sub S (ups S' p o) := fun a u h => by
  rw [ups_ne (sto_ne (s a u h) n)]
  exact s a u h
/-- an object that is not S's own is written -/
theorem Sub.at {S S' : Sto} {p : Addr} {o : O} (s : Sub S S') (n : S p = none) : Sub S (ups S' p o) := fun a u h => by
  rw [ups_ne (sto_ne h n)]
  exact s a u h
theorem Sub.none {S S' : Sto} {p : Addr} (s : Sub S S') (n : S' p = none) : S p = none := by
  cases e : S p with
  | none => rfl
  | some o =>
    rw [s p o e] at n
    cases n

def RO (K : PySem.W.Frag) (H : Hp) (a : Addr) : O → Prop
  | .lst ds => ∃ vs, H a = some (.lst vs) ∧ RVs K H ds vs
  | .tab q => LamX.TabS H a q
  | .cod q => H a = some (LamX.CodeO a q)
def Rep (K : PySem.W.Frag) (S : Sto) (H : Hp) : Prop := ∀ a o, S a = some o → RO K H a o
theorem Rep.sub {K : PySem.W.Frag} {S S' : Sto} {H : Hp} (r : Rep K S' H) (s : Sub S S') : Rep K S H := fun a o h => r a o (s a o h)
theorem Rep.free {K : PySem.W.Frag} {S : Sto} {H : Hp} (r : Rep K S H) {p : Addr} (n : H p = none) : S p = none := by
  cases e : S p with
  | none => rfl
  | some o =>
    have z := r p o e
    cases o with
    | lst ds =>
      obtain ⟨vs, z, _⟩ := z
      rw [n] at z
      cases z
    | tab q =>
      obtain ⟨ps, z, _⟩ := z
      rw [n] at z
      cases z
    | cod q =>
      have z : H p = some (LamX.CodeO p q) := z
      rw [n] at z
      cases z
theorem RO.same {K : PySem.W.Frag} {H H' : Hp} (s : Same H H') {a : Addr} {o : O} (r : RO K H a o) : RO K H' a o := by
  cases o with
  | lst ds =>
    obtain ⟨vs, h, q⟩ := r
    exact ⟨vs, s _ _ h, RVs.keep (Same.keep s) _ _ q⟩
  | tab q => exact LamX.TabS.ext r s
  | cod q => exact s _ _ r
theorem Rep.same {K : PySem.W.Frag} {S : Sto} {H H' : Hp} (r : Rep K S H) (s : Same H H') : Rep K S H' := fun a o h => RO.same s (r a o h)
/-- a new list -/
theorem Rep.newL {K : PySem.W.Frag} {S : Sto} {H : Hp} (r : Rep K S H) {p : Addr} {ds : List D} {vs : List V} (n : H p = none) (q : RVs K H ds vs) : Rep K (ups S p (.lst ds)) (upd H p (.lst vs)) := fun a o h => by
  by_cases e : a = p
  · subst e
    rw [ups_same] at h
    cases h
    exact ⟨vs, upd_same, RVs.keep (Keep.new n) _ _ q⟩
  · rw [ups_ne e] at h
    exact RO.same (same_new n) (r a o h)
/-- a list is written -/
theorem Rep.setL {K : PySem.W.Frag} {S : Sto} {H : Hp} (r : Rep K S H) {p : Addr} {ds : List D} {vs us : List V} (h0 : H p = some (.lst us)) (q : RVs K H ds vs) : Rep K (ups S p (.lst ds)) (upd H p (.lst vs)) := fun a o h => by
  have kp : Keep K H (upd H p (.lst vs)) := Keep.mut h0 (fun _ z => by cases z) (fun _ _ z => by cases z)
  by_cases e : a = p
  · subst e
    rw [ups_same] at h
    cases h
    exact ⟨vs, upd_same, RVs.keep kp _ _ q⟩
  · rw [ups_ne e] at h
    have z := r a o h
    cases o with
    | lst ds' =>
      obtain ⟨vs', h', q'⟩ := z
      exact ⟨vs', by rw [upd_ne e]; exact h', RVs.keep kp _ _ q'⟩
    | tab nm =>
      obtain ⟨ps, h1, h2, h3⟩ := z
      refine ⟨ps, by rw [upd_ne e]; exact h1, h2, fun pos cv hc => ?_⟩
      obtain ⟨c, e1, e2⟩ := h3 pos cv hc
      refine ⟨c, e1, ?_⟩
      have hcp : c ≠ p := fun z => by
        rw [z, h0] at e2
        unfold LamX.CodeO at e2
        cases e2
      rw [upd_ne hcp]
      exact e2
    | cod nm =>
      show upd H p (.lst vs) a = some (LamX.CodeO a nm)
      rw [upd_ne e]
      exact z

/-! ## the frame -/
abbrev Loc := List (Option D)
structure RL (K : PySem.W.Frag) (H : Hp) (loc : Loc) (σ : L2.St) : Prop where
  len : loc.length = σ.length
  at_ : ∀ (i : Nat) (d : D), loc[i]? = some (some d) → ∃ v, σ[i]? = some (some v) ∧ RV K H d v
theorem RL.keep {K : PySem.W.Frag} {H H' : Hp} {loc : Loc} {σ : L2.St} (r : RL K H loc σ) (k : Keep K H H') : RL K H' loc σ :=
  ⟨r.len, fun i d h => by
    obtain ⟨v, a, b⟩ := r.at_ i d h
    exact ⟨v, a, RV.keep k _ _ b⟩⟩
theorem RL.set {K : PySem.W.Frag} {H : Hp} {loc : Loc} {σ : L2.St} (r : RL K H loc σ) {d : D} {v : V} (q : RV K H d v) (i : Nat) : RL K H (loc.set i (some d)) (σ.set i (some v)) := by
  refine ⟨by simp [r.len], fun j x h => ?_⟩
  by_cases e : i = j
  · subst e
    by_cases hl : i < loc.length
    · rw [List.getElem?_set_self hl] at h
      cases h
      exact ⟨v, by rw [List.getElem?_set_self (by rw [← r.len]; exact hl)], q⟩
    · rw [List.getElem?_eq_none (by simpa using hl)] at h
      cases h
  · rw [List.getElem?_set_ne e] at h
    obtain ⟨w, a, b⟩ := r.at_ j x h
    exact ⟨w, by rw [List.getElem?_set_ne e]; exact a, b⟩
/-- the slots forgotten -/
def wipeD (loc : Loc) : List Nat → Loc
  | [] => loc
  | v :: vs => (wipeD loc vs).set v none
theorem RL.wipe {K : PySem.W.Frag} {H : Hp} {loc : Loc} {σ : L2.St} (r : RL K H loc σ) : ∀ vs : List Nat, RL K H (wipeD loc vs) (L2.wipe σ vs)
  | [] => r
  | v :: vs => by
    have ih := RL.wipe r vs
    refine ⟨by simp [wipeD, L2.wipe, ih.len], fun j x h => ?_⟩
    unfold wipeD at h
    unfold L2.wipe
    by_cases e : v = j
    · subst e
      by_cases hl : v < (wipeD loc vs).length
      · rw [List.getElem?_set_self hl] at h
        cases h
      · rw [List.getElem?_eq_none (by simpa using hl)] at h
        cases h
    · rw [List.getElem?_set_ne e] at h
      obtain ⟨w, a, b⟩ := ih.at_ j x h
      exact ⟨w, by rw [List.getElem?_set_ne e]; exact a, b⟩

/-! ## exceptions -/
/-- an exception: its class, its one field -/
structure Ex where
  cls : Addr
  fld : Option (Str × D) := none
def RX (K : PySem.W.Frag) (H : Hp) (x : Ex) (c : Value) (d : Option Addr) : Prop :=
  c = .ref x.cls ∧ match x.fld with
    | none => d = none
    | some (f, y) => ∃ a v, d = some a ∧ H a = some (.xd [(f, v)]) ∧ RV K H y v

/-! ## readings of the pure side -/
abbrev PD := D → Sto → Prop
abbrev PX := Ex → Sto → Prop
abbrev QE := Loc → Sto → PD → PX → Prop
abbrev QT := Loc → Sto → (Bool → Sto → Prop) → PX → Prop
abbrev QA := Loc → Sto → (List D → Sto → Prop) → PX → Prop
structure QN where
  nx : Loc → Sto → Prop
  rt : PD
  bk : Loc → Sto → Prop := fun _ _ => False
  ct : Loc → Sto → Prop := fun _ _ => False
  ex : Ex → Loc → Sto → Prop := fun _ _ _ => False
abbrev QS := QN → Loc → Sto → Prop
abbrev QF := List D → Sto → PD → PX → Prop

/-- what a value's wish becomes over the hand layer -/
def GoD (K : PySem.W.Frag) (H : Hp) (P : PD) (Q : VK) : Prop := ∀ d S' v H', P d S' → Keep K H H' → Rep K S' H' → RV K H' d v → Q v H'
def GoX (K : PySem.W.Frag) (H : Hp) (σ : L2.St) (E : PX) (W : WX) : Prop := ∀ x S' H' c d, E x S' → Keep K H H' → Rep K S' H' → RX K H' x c d → W c d σ H'
def GoB (K : PySem.W.Frag) (H : Hp) (P : Bool → Sto → Prop) (Q : Bool → Hp → Prop) : Prop := ∀ b S' H', P b S' → Keep K H H' → Rep K S' H' → Q b H'
def GoA (K : PySem.W.Frag) (H : Hp) (P : List D → Sto → Prop) (Q : List V → Hp → Prop) : Prop := ∀ ds S' vs H', P ds S' → Keep K H H' → Rep K S' H' → RVs K H' ds vs → Q vs H'
def GoL (K : PySem.W.Frag) (H : Hp) (P : Loc → Sto → Prop) (Q : L2.St → Hp → Prop) : Prop := ∀ loc' S' σ' H', P loc' S' → Keep K H H' → RL K H' loc' σ' → Rep K S' H' → Q σ' H'
def GoLX (K : PySem.W.Frag) (H : Hp) (E : Ex → Loc → Sto → Prop) (W : WX) : Prop := ∀ x loc' S' σ' H' c d, E x loc' S' → Keep K H H' → RL K H' loc' σ' → Rep K S' H' → RX K H' x c d → W c d σ' H'
section
variable {K : PySem.W.Frag} {H H1 : Hp}
theorem GoD.keep {P : PD} {Q : VK} (g : GoD K H P Q) (k : Keep K H H1) : GoD K H1 P Q := fun d S v H' p k' => g d S v H' p (k.trans k')
theorem GoX.keep {σ : L2.St} {E : PX} {W : WX} (g : GoX K H σ E W) (k : Keep K H H1) : GoX K H1 σ E W := fun x S H' c d p k' => g x S H' c d p (k.trans k')
theorem GoB.keep {P : Bool → Sto → Prop} {Q : Bool → Hp → Prop} (g : GoB K H P Q) (k : Keep K H H1) : GoB K H1 P Q := fun d S H' p k' => g d S H' p (k.trans k')
theorem GoA.keep {P : List D → Sto → Prop} {Q : List V → Hp → Prop} (g : GoA K H P Q) (k : Keep K H H1) : GoA K H1 P Q := fun d S v H' p k' => g d S v H' p (k.trans k')
theorem GoL.keep {P : Loc → Sto → Prop} {Q : L2.St → Hp → Prop} (g : GoL K H P Q) (k : Keep K H H1) : GoL K H1 P Q := fun l S v H' p k' => g l S v H' p (k.trans k')
theorem GoLX.keep {E : Ex → Loc → Sto → Prop} {W : WX} (g : GoLX K H E W) (k : Keep K H H1) : GoLX K H1 E W := fun x l S v H' c d p k' => g x l S v H' c d p (k.trans k')
end
def lift (K : PySem.W.Frag) (W : WX) (q : QE) : TE := fun σ H Q => ∃ loc S P E, RL K H loc σ ∧ Rep K S H ∧ q loc S P E ∧ GoD K H P Q ∧ GoX K H σ E W
def liftT (K : PySem.W.Frag) (W : WX) (q : QT) : TT := fun σ H Q => ∃ loc S P E, RL K H loc σ ∧ Rep K S H ∧ q loc S P E ∧ GoB K H P Q ∧ GoX K H σ E W
def liftA (K : PySem.W.Frag) (W : WX) (q : QA) : TA := fun σ H Q => ∃ loc S P E, RL K H loc σ ∧ Rep K S H ∧ q loc S P E ∧ GoA K H P Q ∧ GoX K H σ E W
structure GoN (K : PySem.W.Frag) (H : Hp) (P : QN) (D : Ends) (W : WX) : Prop where
  nx : GoL K H P.nx D.nx
  rt : GoD K H P.rt D.rt
  bk : GoL K H P.bk D.bk
  ct : GoL K H P.ct D.ct
  ex : GoLX K H P.ex W
theorem GoN.keep {K : PySem.W.Frag} {H H1 : Hp} {P : QN} {D : Ends} {W : WX} (g : GoN K H P D W) (k : Keep K H H1) : GoN K H1 P D W := ⟨g.nx.keep k, g.rt.keep k, g.bk.keep k, g.ct.keep k, g.ex.keep k⟩
def liftS (K : PySem.W.Frag) (W : WX) (q : QS) : TS := fun D σ H => ∃ loc S P, RL K H loc σ ∧ Rep K S H ∧ q P loc S ∧ GoN K H P D W
/-- a def's promise -/
def liftF (K : PySem.W.Frag) (sp : QF) : Sp := fun vs H Q E => ∃ ds S P PE, RVs K H ds vs ∧ Rep K S H ∧ sp ds S P PE ∧ GoD K H P Q ∧ ∀ x S' H' c d, PE x S' → Keep K H H' → Rep K S' H' → RX K H' x c d → E c d H'

def DE (X : Cx) (e : Expr) (q : QE) : Prop := ∀ W, L2N.Takes X W → PE X e (lift X.K W q)
def DT (X : Cx) (e : Expr) (q : QT) : Prop := ∀ W, L2N.Takes X W → PT X e (liftT X.K W q)
def DW (X : Cx) (e : Expr) (q : QT) : Prop := ∀ W, L2N.Takes X W → PW X e (liftT X.K W q)
def DA (X : Cx) (es : List Expr) (q : QA) : Prop := ∀ W, L2N.Takes X W → PA X es (liftA X.K W q)
def DS (X : Cx) (st : Stmt) (q : QS) : Prop := ∀ W, L2N.Takes X W → PS X st (liftS X.K W q)
def DB (X : Cx) (st : List Stmt) (q : QS) : Prop := ∀ W, L2N.Takes X W → PSs X st (liftS X.K W q)
section
variable {X : Cx}
theorem PE.imp {e : Expr} {t t' : TE} (h : PE X e t) (i : ∀ σ H Q, t' σ H Q → t σ H Q) : PE X e t' := ⟨fun p s σ H Q I q => h.run p s σ H Q I (i _ _ _ q)⟩
theorem PT.imp {e : Expr} {t t' : TT} (h : PT X e t) (i : ∀ σ H Q, t' σ H Q → t σ H Q) : PT X e t' := ⟨fun p s σ H Q I q => h.run p s σ H Q I (i _ _ _ q)⟩
theorem PW.imp {e : Expr} {t t' : TT} (h : PW X e t) (i : ∀ σ H Q, t' σ H Q → t σ H Q) : PW X e t' := ⟨fun wh p s σ H Q I q => h.run wh p s σ H Q I (i _ _ _ q)⟩
theorem PA.imp {e : List Expr} {t t' : TA} (h : PA X e t) (i : ∀ σ H Q, t' σ H Q → t σ H Q) : PA X e t' := ⟨fun po p s σ H Q I q => h.run po p s σ H Q I (i _ _ _ q)⟩
theorem PS.imp {e : Stmt} {t t' : TS} (h : PS X e t) (i : ∀ D σ H, t' D σ H → t D σ H) : PS X e t' := ⟨fun p s σ H Q I q => h.run p s σ H Q I (i _ _ _ q)⟩
theorem PSs.imp {e : List Stmt} {t t' : TS} (h : PSs X e t) (i : ∀ D σ H, t' D σ H → t D σ H) : PSs X e t' := ⟨fun p s σ H Q I q => h.run p s σ H Q I (i _ _ _ q)⟩
end
end PL

namespace PL
open PySem PySem.Spec PyProof.Rows L2 -- the layers
section
variable {X : Cx}
theorem takes0 : L2N.Takes X (fun _ _ _ _ => False) := fun _ _ x => by
  obtain ⟨_, _, _, _, _, _, _, _, _, _, _, _, _, _, _, _, z⟩ := x
  exact z.elim

/-! ## names, constants -/
def qVar (i : Nat) : QE := fun loc S P _ => match loc[i]? with
  | some (some d) => P d S
  | _ => False
def qC (d : D) : QE := fun _ S P _ => P d S
theorem de_var (i : Nat) {x : Str} {pos : Pos} (hN : X.N[i]? = some x := by rfl) (hv : Vis X.env.scope x := by first | exact Or.inl rfl | exact Or.inr (Or.inl rfl) | exact Or.inr (Or.inr rfl)) (hd : (x == ("__debug__" : Str)) = false := by decide)
    (hcd : (x == ("__classdict__" : Str)) = false := by decide) : DE X (.Name x pos) (qVar i) := fun W _ => PE.imp (pe_var hN hv hd hcd) fun σ H Q h => by
  obtain ⟨loc, S, P, E, rl, rep, q, g, _⟩ := h
  unfold qVar at q
  split at q
  · rename_i d e
    obtain ⟨v, e1, e2⟩ := rl.at_ i d e
    exact ⟨v, e1, g d S v H q Keep.refl rep e2⟩
  · exact q.elim
/-- a value that is written -/
theorem de_const {e : Expr} {v : V} {d : D} (h : PE X e (tC v)) (r : ∀ H, RV X.K H d v) : DE X e (qC d) := fun W _ => PE.imp h fun σ H Q z => by
  obtain ⟨loc, S, P, E, rl, rep, q, g, _⟩ := z
  exact g d S v H q Keep.refl rep (r H)
theorem de_int {i j pos} : DE X (.Constant (.int i) j pos) (qC (.int i)) := de_const pe_int fun _ => by unfold RV; rfl
theorem de_bl {b j pos} : DE X (.Constant (.bool b) j pos) (qC (.bl b)) := de_const pe_bl fun _ => by unfold RV; rfl
theorem de_non {j pos} : DE X (.Constant .none j pos) (qC .non) := de_const pe_non fun _ => by unfold RV; rfl
theorem de_str {x j pos} : DE X (.Constant (.str x) j pos) (qC (.str x)) := de_const pe_str fun _ => by unfold RV; rfl
theorem de_globI {x : Str} {i : Int} {t : Tok} {pos : Pos} (hg : Gl X x) (hm : X.mg x = some (.int i t)) (hd : (x == ("__debug__" : Str)) = false := by decide) : DE X (.Name x pos) (qC (.int i)) :=
  de_const (pe_glob (v := .int i) hg hm ⟨t, rfl⟩ hd) fun _ => by unfold RV; rfl
theorem de_globS {x z : Str} {t : Tok} {pos : Pos} (hg : Gl X x) (hm : X.mg x = some (.str z t)) (hd : (x == ("__debug__" : Str)) = false := by decide) : DE X (.Name x pos) (qC (.str z)) :=
  de_const (pe_glob (v := .str z) hg hm ⟨t, rfl⟩ hd) fun _ => by unfold RV; rfl

/-! ## operations by values -/
abbrev QO := D → D → Sto → PD → Prop
def ODok (X : Cx) (f : Value → Value → Sem Value) (q : QO) : Prop :=
  ∃ r : R2, OpR X f r ∧ ∀ x y S P H vx vy Q, q x y S P → Rep X.K S H → RV X.K H x vx → RV X.K H y vy → GoD X.K H P Q → r vx vy H Q
def qBin (f : QO) (qa qb : QE) : QE := fun loc S P E => qa loc S (fun x S1 => qb loc S1 (fun y S2 => f x y S2 P) E) E
variable {a b c : Expr} {qa qb qc : QE} {pos : Pos} {W : WX} {σ : L2.St} {H : Hp}
/-- two readings in a row -/
theorem lift2 {K : PySem.W.Frag} {R : V → V → Hp → Prop} {F : D → D → Sto → Prop} {E : PX} {loc : Loc} {S : Sto} (rl : RL K H loc σ) (rep : Rep K S H) (gx : GoX K H σ E W) (q : qa loc S (fun x S1 => qb loc S1 (fun y S2 => F x y S2) E) E)
    (h : ∀ x y S' vx vy H', F x y S' → Keep K H H' → Rep K S' H' → RV K H' x vx → RV K H' y vy → R vx vy H') : lift K W qa σ H fun vx H1 => lift K W qb σ H1 fun vy H2 => R vx vy H2 := by
  refine ⟨loc, S, _, E, rl, rep, q, fun x S1 vx H1 q1 k1 rep1 r1 => ?_, gx⟩
  exact ⟨loc, S1, _, E, rl.keep k1, rep1, q1, fun y S2 vy H2 q2 k2 rep2 r2 => h x y S2 vx vy H2 q2 (k1.trans k2) rep2 (RV.keep k2 _ _ r1) r2, gx.keep k1⟩
theorem op_imp {f : Value → Value → Sem Value} {q : QO} {r : R2} (hr : ∀ x y S P H vx vy Q, q x y S P → Rep X.K S H → RV X.K H x vx → RV X.K H y vy → GoD X.K H P Q → r vx vy H Q) {σ : L2.St} {H : Hp} {Q : VK} (h : lift X.K W (qBin q qa qb) σ H Q) :
    tOp r (lift X.K W qa) (lift X.K W qb) σ H Q := by
  obtain ⟨loc, S, P, E, rl, rep, hq, g, gx⟩ := h
  exact lift2 rl rep gx hq fun x y S' vx vy H' hf k rep' rx ry => hr x y S' P H' vx vy Q hf rep' rx ry (g.keep k)
theorem de_bin {op : Operator} {q : QO} (ho : ODok X (binaryOp op) q) (ha : DE X a qa) (hb : DE X b qb) : DE X (.BinOp a op b pos) (qBin q qa qb) := fun W tk => by
  obtain ⟨r, o, hr⟩ := ho
  exact PE.imp (pe_op o (ha W tk) (hb W tk)) fun σ H Q h => op_imp (f := binaryOp op) hr h
theorem de_cmp {op : CmpOp} {q : QO} (ho : ODok X (compareOp op) q) (ha : DE X a qa) (hb : DE X b qb) (hm : behindInMarks op b = false) : DE X (.Compare a [op] [b] pos) (qBin q qa qb) := fun W tk => by
  obtain ⟨r, o, hr⟩ := ho
  exact PE.imp (pe_cmpR o (ha W tk) (hb W tk) hm) fun σ H Q h => op_imp (f := compareOp op) hr h
/-- a bool as a test's answer -/
def qTB (q : QE) : QT := fun loc S P E => q loc S (fun d S' => match d with
  | .bl b => P b S'
  | _ => False) E
theorem dt_cmp {op : CmpOp} {q : QO} (ho : ODok X (compareOp op) q) (ha : DE X a qa) (hb : DE X b qb) (hm : behindInMarks op b = false) : DT X (.Compare a [op] [b] pos) (qTB (qBin q qa qb)) := fun W tk => by
  obtain ⟨r, o, hr⟩ := ho
  refine PT.imp (pt_cmpR o (ha W tk) (hb W tk) hm) fun σ H Q h => ?_
  obtain ⟨loc, S, P, E, rl, rep, hq, g, gx⟩ := h
  refine op_imp (f := compareOp op) (q := q) (r := r) (W := W) (qa := qa) (qb := qb) hr ⟨loc, S, _, E, rl, rep, hq, fun d S' v H' p k rep' rv => ?_, gx⟩
  cases d with
  | bl b =>
    unfold RV at rv
    exact ⟨b, rv, g b S' H' p k rep'⟩
  | _ => exact (show False from p).elim
/-- a < b < c -/
def qChain (f f' : QO) (qa qb qc : QE) : QE := fun loc S P E => qa loc S (fun x S1 => qb loc S1 (fun y S2 => f x y S2 (fun z S3 => match z with
  | .bl true => qc loc S3 (fun u S4 => f' y u S4 P) E
  | .bl false => P (.bl false) S3
  | _ => False)) E) E
theorem chain_imp {f f' : Value → Value → Sem Value} {q q' : QO} {r r' : R2} (hr : ∀ x y S P H vx vy Q, q x y S P → Rep X.K S H → RV X.K H x vx → RV X.K H y vy → GoD X.K H P Q → r vx vy H Q)
    (hr' : ∀ x y S P H vx vy Q, q' x y S P → Rep X.K S H → RV X.K H x vx → RV X.K H y vy → GoD X.K H P Q → r' vx vy H Q) {σ : L2.St} {H : Hp} {Q : VK} (h : lift X.K W (qChain q q' qa qb qc) σ H Q) :
    tChain r r' (lift X.K W qa) (lift X.K W qb) (lift X.K W qc) σ H Q := by
  obtain ⟨loc, S, P, E, rl, rep, hq, g, gx⟩ := h
  unfold tChain
  refine ⟨loc, S, _, E, rl, rep, hq, fun x S1 vx H1 q1 k1 rep1 r1 => ?_, gx⟩
  refine ⟨loc, S1, _, E, rl.keep k1, rep1, q1, fun y S2 vy H2 q2 k2 rep2 r2 => ?_, gx.keep k1⟩
  refine hr x y S2 _ H2 vx vy _ q2 rep2 (RV.keep k2 _ _ r1) r2 fun z S3 vz H3 q3 k3 rep3 r3 => ?_
  cases z with
  | bl bb =>
    unfold RV at r3
    refine ⟨bb, r3, ?_⟩
    cases bb with
    | true =>
      have kk := k1.trans (k2.trans k3)
      have q3' : qc loc S3 (fun u S4 => q' y u S4 P) E := q3
      refine iteT ?_
      refine ⟨loc, S3, _, E, rl.keep kk, rep3, q3', fun u S4 vu H4 q4 k4 rep4 r4 => ?_, gx.keep kk⟩
      exact hr' y u S4 P H4 vy vu Q q4 rep4 (RV.keep (k3.trans k4) _ _ r2) r4 (g.keep (kk.trans k4))
    | false =>
      refine iteF ?_
      exact g _ S3 _ H3 q3 (k1.trans (k2.trans k3)) rep3 (by unfold RV; rfl)
  | _ => exact (show False from q3).elim
theorem de_chain {op op' : CmpOp} {q q' : QO} (ho : ODok X (compareOp op) q) (ho' : ODok X (compareOp op') q') (ha : DE X a qa) (hb : DE X b qb) (hc : DE X c qc)
    (hm : lastMarks [op, op'] [b, c] = false := by with_unfolding_all rfl) : DE X (.Compare a [op, op'] [b, c] pos) (qChain q q' qa qb qc) := fun W tk => by
  obtain ⟨r, o, hr⟩ := ho
  obtain ⟨r', o', hr'⟩ := ho'
  exact PE.imp (pe_chain o o' (ha W tk) (hb W tk) (hc W tk) hm) fun σ H Q h => chain_imp (f := compareOp op) (f' := compareOp op') hr hr' h
/-- a reading of a bool, as a test -/
theorem tb_imp {K : PySem.W.Frag} {t : TE} {q : QE} (i : ∀ σ H Q, lift K W q σ H Q → t σ H Q) {σ : L2.St} {H : Hp} {Q : Bool → Hp → Prop} (h : liftT K W (qTB q) σ H Q) : t σ H fun x H' => ∃ k, x = .bl k ∧ Q k H' := by
  obtain ⟨loc, S, P, E, rl, rep, hq, g, gx⟩ := h
  refine i _ _ _ ⟨loc, S, _, E, rl, rep, hq, fun d S' v H' p k rep' rv => ?_, gx⟩
  cases d with
  | bl b =>
    unfold RV at rv
    exact ⟨b, rv, g b S' H' p k rep'⟩
  | _ => exact (show False from p).elim
theorem dt_chain {op op' : CmpOp} {q q' : QO} (ho : ODok X (compareOp op) q) (ho' : ODok X (compareOp op') q') (ha : DE X a qa) (hb : DE X b qb) (hc : DE X c qc)
    (hm : lastMarks [op, op'] [b, c] = false := by with_unfolding_all rfl) : DT X (.Compare a [op, op'] [b, c] pos) (qTB (qChain q q' qa qb qc)) := fun W tk => by
  obtain ⟨r, o, hr⟩ := ho
  obtain ⟨r', o', hr'⟩ := ho'
  exact PT.imp (pt_chain o o' (ha W tk) (hb W tk) (hc W tk) hm) fun σ H Q h => tb_imp (fun σ H Q h => chain_imp (f := compareOp op) (f' := compareOp op') hr hr' h) h
/-- a bool's expression as a test -/
theorem dt_val {e : Expr} {q : QE} (h : DE X e q) (he : ∀ whole, isTrue e X.env whole = (do let v ← whole; standAt e.pos; holding [v] (truthy v)) := by intro _; rfl) : DT X e (qTB q) := fun W tk =>
  PT.imp (pt_val (h W tk) he) fun _ _ _ z => tb_imp (fun _ _ _ y => y) z

/-! ## truth -/
def tru (d : D) (S : Sto) (P : Bool → Sto → Prop) : Prop := match d with
  | .non => P false S
  | .bl b => P b S
  | .int i => P (i != 0) S
  | .str y => y.length ≤ sizeLine ∧ P ((y.length : Int) != 0) S
  | .tup xs => P (!xs.isEmpty) S
  | .rol xs => P (!xs.isEmpty) S
  | .ptup _ => False
  | .ref a => ∃ xs, S a = some (.lst xs) ∧ P (!xs.isEmpty) S
  | .ty _ => False
def qTru (q : QE) : QT := fun loc S P E => q loc S (fun d S' => tru d S' P) E
theorem RVs.isEmpty {K : PySem.W.Frag} {H : Hp} {ds : List D} {vs : List V} (h : RVs K H ds vs) : ds.isEmpty = vs.isEmpty := by
  have e := h.length
  cases ds <;> cases vs <;> simp_all
theorem dt_truth {e : Expr} {q : QE} (h : DE X e q) (he : ∀ whole, isTrue e X.env whole = (do let v ← whole; standAt e.pos; holding [v] (truthy v)) := by intro _; rfl) : DT X e (qTru q) := fun W tk => by
  refine PT.imp (pt_truth (h W tk) he) fun σ H Q z => ?_
  obtain ⟨loc, S, P, E, rl, rep, hq, g, gx⟩ := z
  refine ⟨loc, S, _, E, rl, rep, hq, fun d S' v H' p k rep' rv => ?_, gx⟩
  cases d with
  | non => unfold RV at rv; subst rv; exact ⟨_, rfl, g _ _ _ p k rep'⟩
  | bl b => unfold RV at rv; subst rv; exact ⟨_, rfl, g _ _ _ p k rep'⟩
  | int i => unfold RV at rv; subst rv; exact ⟨_, rfl, g _ _ _ p k rep'⟩
  | str y => unfold RV at rv; subst rv; exact ⟨_, ⟨p.1, rfl⟩, g _ _ _ p.2 k rep'⟩
  | tup xs =>
    unfold RV at rv
    obtain ⟨a, vs, e, s, r⟩ := rv
    subst e
    exact ⟨_, Or.inr (Or.inl ⟨vs, s, by rw [← r.isEmpty]⟩), g _ _ _ p k rep'⟩
  | rol xs =>
    unfold RV at rv
    obtain ⟨a, vs, e, s, r⟩ := rv
    subst e
    exact ⟨_, Or.inl ⟨vs, s.sq, by rw [← r.isEmpty]⟩, g _ _ _ p k rep'⟩
  | ref a =>
    unfold RV at rv
    subst rv
    obtain ⟨xs, e, p⟩ := p
    obtain ⟨vs, e2, r⟩ := rep' a _ e
    exact ⟨_, Or.inl ⟨vs, SqL.of e2, by rw [← r.isEmpty]⟩, g _ _ _ p k rep'⟩
  | ty n => exact (show False from p).elim
  | ptup xs => exact (show False from p).elim

/-! ## and, or, not, if -/
variable {rest : List Expr} {ta tb tc : QT}
def qAndT (t u : QT) : QT := fun loc S P E => t loc S (fun c S1 => if c = true then u loc S1 P E else P false S1) E
def qOrT (t u : QT) : QT := fun loc S P E => t loc S (fun c S1 => if c = true then P true S1 else u loc S1 P E) E
def qNotT (t : QT) : QT := fun loc S P E => t loc S (fun c S1 => P (!c) S1) E
theorem dw_pt {e : Expr} {t : QT} (h : DW X e t) : DT X e t := fun W tk => (h W tk).pt
theorem dw_and1 (ha : DT X a ta) : DW X (.BoolOp .And [a] pos) ta := fun W tk => pw_and1 (ha W tk)
theorem dw_or1 (ha : DT X a ta) : DW X (.BoolOp .Or [a] pos) ta := fun W tk => pw_or1 (ha W tk)
theorem dw_and (ha : DT X a ta) (hb : DW X (.BoolOp .And (b :: rest) pos) tb) : DW X (.BoolOp .And (a :: b :: rest) pos) (qAndT ta tb) := fun W tk => by
  refine PW.imp (pw_and (ha W tk) (hb W tk)) fun σ H Q h => ?_
  obtain ⟨loc, S, P, E, rl, rep, hq, g, gx⟩ := h
  refine ⟨loc, S, _, E, rl, rep, hq, fun c S1 H1 q1 k1 rep1 => ?_, gx⟩
  cases c with
  | true =>
    refine iteT ?_
    exact ⟨loc, S1, P, E, rl.keep k1, rep1, q1, g.keep k1, gx.keep k1⟩
  | false =>
    refine iteF ?_
    exact g _ _ _ q1 k1 rep1
theorem dw_or (ha : DT X a ta) (hb : DW X (.BoolOp .Or (b :: rest) pos) tb) : DW X (.BoolOp .Or (a :: b :: rest) pos) (qOrT ta tb) := fun W tk => by
  refine PW.imp (pw_or (ha W tk) (hb W tk)) fun σ H Q h => ?_
  obtain ⟨loc, S, P, E, rl, rep, hq, g, gx⟩ := h
  refine ⟨loc, S, _, E, rl, rep, hq, fun c S1 H1 q1 k1 rep1 => ?_, gx⟩
  cases c with
  | true =>
    refine iteT ?_
    exact g _ _ _ q1 k1 rep1
  | false =>
    refine iteF ?_
    exact ⟨loc, S1, P, E, rl.keep k1, rep1, q1, g.keep k1, gx.keep k1⟩
theorem dt_not (ha : DT X a ta) : DT X (.UnaryOp .Not a pos) (qNotT ta) := fun W tk => by
  refine PT.imp (pt_not (ha W tk)) fun σ H Q h => ?_
  obtain ⟨loc, S, P, E, rl, rep, hq, g, gx⟩ := h
  exact ⟨loc, S, _, E, rl, rep, hq, fun c S1 H1 q1 k1 rep1 => g _ _ _ q1 k1 rep1, gx⟩
def bd (d : D) (P : Bool → Prop) : Prop := match d with
  | .bl b => P b
  | _ => False
def qAnd (qa qb : QE) : QE := fun loc S P E => qa loc S (fun d S1 => bd d fun c => if c = true then qb loc S1 P E else P (.bl false) S1) E
def qOr (qa qb : QE) : QE := fun loc S P E => qa loc S (fun d S1 => bd d fun c => if c = true then P (.bl true) S1 else qb loc S1 P E) E
def qNot (qa : QE) : QE := fun loc S P E => qa loc S (fun d S1 => bd d fun c => P (.bl (!c)) S1) E
theorem bd_rv {K : PySem.W.Frag} {H : Hp} {d : D} {v : V} {P : Bool → Prop} (h : bd d P) (r : RV K H d v) : ∃ c, v = .bl c ∧ P c := by
  cases d with
  | bl b => unfold RV at r; exact ⟨b, r, h⟩
  | _ => exact (show False from h).elim
theorem de_one {op} (h : DE X a qa) : DE X (.BoolOp op [a] pos) qa := fun W tk => pe_one (h W tk)
theorem de_and (ha : DE X a qa) (hb : DE X (.BoolOp .And (b :: rest) pos) qb) : DE X (.BoolOp .And (a :: b :: rest) pos) (qAnd qa qb) := fun W tk => by
  refine PE.imp (pe_and (ha W tk) (hb W tk)) fun σ H Q h => ?_
  obtain ⟨loc, S, P, E, rl, rep, hq, g, gx⟩ := h
  refine ⟨loc, S, _, E, rl, rep, hq, fun d S1 v H1 q1 k1 rep1 r1 => ?_, gx⟩
  obtain ⟨c, e, q1⟩ := bd_rv q1 r1
  refine ⟨c, e, ?_⟩
  cases c with
  | true =>
    refine iteT ?_
    exact ⟨loc, S1, P, E, rl.keep k1, rep1, q1, g.keep k1, gx.keep k1⟩
  | false =>
    refine iteF ?_
    exact g _ _ _ _ q1 k1 rep1 (by unfold RV; rfl)
theorem de_or (ha : DE X a qa) (hb : DE X (.BoolOp .Or (b :: rest) pos) qb) : DE X (.BoolOp .Or (a :: b :: rest) pos) (qOr qa qb) := fun W tk => by
  refine PE.imp (pe_or (ha W tk) (hb W tk)) fun σ H Q h => ?_
  obtain ⟨loc, S, P, E, rl, rep, hq, g, gx⟩ := h
  refine ⟨loc, S, _, E, rl, rep, hq, fun d S1 v H1 q1 k1 rep1 r1 => ?_, gx⟩
  obtain ⟨c, e, q1⟩ := bd_rv q1 r1
  refine ⟨c, e, ?_⟩
  cases c with
  | true =>
    refine iteT ?_
    exact g _ _ _ _ q1 k1 rep1 (by unfold RV; rfl)
  | false =>
    refine iteF ?_
    exact ⟨loc, S1, P, E, rl.keep k1, rep1, q1, g.keep k1, gx.keep k1⟩
theorem de_not (ha : DE X a qa) : DE X (.UnaryOp .Not a pos) (qNot qa) := fun W tk => by
  refine PE.imp (pe_not (ha W tk)) fun σ H Q h => ?_
  obtain ⟨loc, S, P, E, rl, rep, hq, g, gx⟩ := h
  refine ⟨loc, S, _, E, rl, rep, hq, fun d S1 v H1 q1 k1 rep1 r1 => ?_, gx⟩
  obtain ⟨c, e, q1⟩ := bd_rv q1 r1
  exact ⟨c, e, g _ _ _ _ q1 k1 rep1 (by unfold RV; rfl)⟩
def qIf (t : QT) (qa qb : QE) : QE := fun loc S P E => t loc S (fun c S1 => if c = true then qa loc S1 P E else qb loc S1 P E) E
theorem de_if (hc : DT X c tc) (ha : DE X a qa) (hb : DE X b qb) : DE X (.IfExp c a b pos) (qIf tc qa qb) := fun W tk => by
  refine PE.imp (pe_ifExp (hc W tk) (ha W tk) (hb W tk)) fun σ H Q h => ?_
  obtain ⟨loc, S, P, E, rl, rep, hq, g, gx⟩ := h
  refine ⟨loc, S, _, E, rl, rep, hq, fun c S1 H1 q1 k1 rep1 => ?_, gx⟩
  cases c with
  | true =>
    refine iteT ?_
    exact ⟨loc, S1, P, E, rl.keep k1, rep1, q1, g.keep k1, gx.keep k1⟩
  | false =>
    refine iteF ?_
    exact ⟨loc, S1, P, E, rl.keep k1, rep1, q1, g.keep k1, gx.keep k1⟩

/-! ## argument lists, displays -/
def qNil : QA := fun _ S P _ => P [] S
def qCons (q : QE) (r : QA) : QA := fun loc S P E => q loc S (fun d S1 => r loc S1 (fun ds S2 => P (d :: ds) S2) E) E
variable {e : Expr} {es : List Expr} {q : QE} {qs : QA}
theorem da_nil : DA X [] qNil := fun W _ => PA.imp pa_nil fun σ H Q h => by
  obtain ⟨loc, S, P, E, rl, rep, hq, g, _⟩ := h
  exact g _ _ _ _ hq Keep.refl rep (RVs.nil_iff.mpr rfl)
theorem da_cons (ha : DE X e q) (hr : DA X es qs) (hs : starEach (e :: es) X.env = (false, eval e X.env) :: starEach es X.env := by rfl) : DA X (e :: es) (qCons q qs) := fun W tk => by
  refine PA.imp (pa_cons (ha W tk) (hr W tk) hs) fun σ H Q h => ?_
  obtain ⟨loc, S, P, E, rl, rep, hq, g, gx⟩ := h
  refine ⟨loc, S, _, E, rl, rep, hq, fun d S1 v H1 q1 k1 rep1 r1 => ?_, gx⟩
  refine ⟨loc, S1, _, E, rl.keep k1, rep1, q1, fun ds S2 vs H2 q2 k2 rep2 r2 => ?_, gx.keep k1⟩
  refine g _ _ _ _ q2 (k1.trans k2) rep2 ?_
  unfold RVs
  exact ⟨v, vs, rfl, RV.keep k2 _ _ r1, r2⟩
def qTup (qs : QA) : QE := fun loc S P E => qs loc S (fun ds S1 => ds.length ≤ sizeLine ∧ P (.tup ds) S1) E
def qLst (qs : QA) : QE := fun loc S P E => qs loc S (fun ds S1 => ds.length ≤ sizeLine ∧ ∀ p, S1 p = none → P (.ref p) (ups S1 p (.lst ds))) E
theorem rv_newT {K : PySem.W.Frag} {H : Hp} {p : Addr} {ds : List D} {vs : List V} (n : H p = none) (r : RVs K H ds vs) : RV K (upd H p (.tup vs)) (.tup ds) (.ref p) := by
  unfold RV
  exact ⟨p, vs, rfl, SqT.of upd_same, RVs.keep (Keep.new n) _ _ r⟩
theorem de_tup {x1} (h : DA X es qs) : DE X (.Tuple es x1 pos) (qTup qs) := fun W tk => by
  refine PE.imp (pe_tup (h W tk)) fun σ H Q z => ?_
  obtain ⟨loc, S, P, E, rl, rep, hq, g, gx⟩ := z
  refine ⟨loc, S, _, E, rl, rep, hq, fun ds S1 vs H1 q1 k1 rep1 r1 => ?_, gx⟩
  refine ⟨by rw [← r1.length]; exact q1.1, fun p n => ?_⟩
  exact g _ _ _ _ q1.2 (k1.trans (Keep.new n)) (rep1.same (same_new n)) (rv_newT n r1)
theorem de_lst (h : DA X es qs) : DE X (.List es pos) (qLst qs) := fun W tk => by
  refine PE.imp (pe_lst (h W tk)) fun σ H Q z => ?_
  obtain ⟨loc, S, P, E, rl, rep, hq, g, gx⟩ := z
  refine ⟨loc, S, _, E, rl, rep, hq, fun ds S1 vs H1 q1 k1 rep1 r1 => ?_, gx⟩
  refine ⟨by rw [← r1.length]; exact q1.1, fun p n => ?_⟩
  exact g _ _ _ _ (q1.2 p (rep1.free n)) (k1.trans (Keep.new n)) (rep1.newL n r1) (by unfold RV; rfl)
/-- what is known may be forgotten -/
def qDrop (q : QE) : QE := fun loc S P E => q loc S (fun d S' => ∃ S2, Sub S2 S' ∧ P d S2) E
theorem de_drop (h : DE X e q) : DE X e (qDrop q) := fun W tk => PE.imp (h W tk) fun σ H Q z => by
  obtain ⟨loc, S, P, E, rl, rep, hq, g, gx⟩ := z
  exact ⟨loc, S, _, E, rl, rep, hq, fun d S' v H' ⟨S2, s, p⟩ k rep' rv => g d S2 v H' p k (rep'.sub s) rv, gx⟩
end
end PL

namespace PL
open PySem PySem.Spec PyProof.Rows L2 -- the layers
section
variable {X : Cx}

/-! ## a list by its value or its address -/
def LsAt (S : Sto) (d : D) (xs : List D) : Prop := d = .rol xs ∨ ∃ a, d = .ref a ∧ S a = some (.lst xs)
theorem LsAt.sq {K : PySem.W.Frag} {S : Sto} {H : Hp} {d : D} {xs : List D} {v : V} (h : LsAt S d xs) (rep : Rep K S H) (r : RV K H d v) : ∃ a vs, v = .ref a ∧ SqL K H a vs ∧ RVs K H xs vs := by
  rcases h with h | ⟨a, h, e⟩
  · subst h
    unfold RV at r
    obtain ⟨a, vs, e, s, q⟩ := r
    exact ⟨a, vs, e, s.sq, q⟩
  · subst h
    unfold RV at r
    obtain ⟨vs, e2, q⟩ := rep a _ e
    exact ⟨a, vs, r, SqL.of e2, q⟩

/-! ## + - * // % ** on ints, + on texts, tuples, lists -/
theorem rv_int {K : PySem.W.Frag} {H : Hp} {i : Int} {v : V} (r : RV K H (.int i) v) : v = .int i := by unfold RV at r; exact r
theorem rv_str {K : PySem.W.Frag} {H : Hp} {i : Str} {v : V} (r : RV K H (.str i) v) : v = .str i := by unfold RV at r; exact r
theorem rv_bl {K : PySem.W.Frag} {H : Hp} {i : Bool} {v : V} (r : RV K H (.bl i) v) : v = .bl i := by unfold RV at r; exact r
theorem rv_ref {K : PySem.W.Frag} {H : Hp} {i : Addr} {v : V} (r : RV K H (.ref i) v) : v = .ref i := by unfold RV at r; exact r
theorem rv_non {K : PySem.W.Frag} {H : Hp} {v : V} (r : RV K H .non v) : v = .non := by unfold RV at r; exact r
theorem rv_tup {K : PySem.W.Frag} {H : Hp} {ds : List D} {v : V} (r : RV K H (.tup ds) v) : ∃ a vs, v = .ref a ∧ SqT K H a vs ∧ RVs K H ds vs := by unfold RV at r; exact r
theorem rv_ofI {K : PySem.W.Frag} {H : Hp} {i : Int} : RV K H (.int i) (.int i) := by unfold RV; rfl
theorem rv_ofS {K : PySem.W.Frag} {H : Hp} {i : Str} : RV K H (.str i) (.str i) := by unfold RV; rfl
theorem rv_ofB {K : PySem.W.Frag} {H : Hp} {i : Bool} : RV K H (.bl i) (.bl i) := by unfold RV; rfl
theorem rv_ofR {K : PySem.W.Frag} {H : Hp} {i : Addr} : RV K H (.ref i) (.ref i) := by unfold RV; rfl
theorem rv_ofN {K : PySem.W.Frag} {H : Hp} : RV K H .non .non := by unfold RV; rfl
theorem GoD.now {K : PySem.W.Frag} {H : Hp} {P : PD} {Q : VK} (g : GoD K H P Q) {d : D} {S : Sto} {v : V} (p : P d S) (rep : Rep K S H) (r : RV K H d v) : Q v H := g d S v H p Keep.refl rep r

/-- two ints in, under C -/
def oI (C : Int → Int → Prop) (f : Int → Int → D) : QO := fun x y S P => match x, y with
  | .int i, .int j => C i j ∧ P (f i j) S
  | _, _ => False
theorem oI_inv {C : Int → Int → Prop} {f : Int → Int → D} {x y : D} {S : Sto} {P : PD} (h : oI C f x y S P) : ∃ i j, x = .int i ∧ y = .int j ∧ C i j ∧ P (f i j) S := by
  cases x <;> cases y <;> first | exact (show False from h).elim | exact ⟨_, _, rfl, rfl, h⟩
theorem od_I {f : Value → Value → Sem Value} {C : Int → Int → Prop} {g : Int → Int → V} {g' : Int → Int → D} (h : OpR X f (rI C g)) (e : ∀ K H i j, RV K H (g' i j) (g i j)) : ODok X f (oI C g') := by
  refine ⟨_, h, fun x y S P H vx vy Q q rep rx ry go => ?_⟩
  obtain ⟨i, j, rfl, rfl, c, p⟩ := oI_inv q
  exact ⟨i, j, rv_int rx, rv_int ry, c, go.now p rep (e _ _ _ _)⟩
theorem op_rI0 {f : Value → Value → Sem Value} {g : Int → Int → V} (h : OpR X f (rI0 g)) : OpR X f (rI (fun _ _ => True) g) := fun pins s σ H x y v u Q I rx ry z => by
  obtain ⟨i, j, e1, e2, _, q⟩ := z
  exact h pins s σ H x y v u Q I rx ry ⟨i, j, e1, e2, q⟩
theorem ODok.or {f : Value → Value → Sem Value} {q q' : QO} (h : ODok X f q) (h' : ODok X f q') : ODok X f (fun x y S P => q x y S P ∨ q' x y S P) := by
  obtain ⟨r, o, a⟩ := h
  obtain ⟨r', o', a'⟩ := h'
  refine ⟨_, o.or o', fun x y S P H vx vy Q z rep rx ry go => ?_⟩
  rcases z with z | z
  · exact .inl (a x y S P H vx vy Q z rep rx ry go)
  · exact .inr (a' x y S P H vx vy Q z rep rx ry go)
theorem ODok.imp {f : Value → Value → Sem Value} {q q' : QO} (h : ODok X f q) (i : ∀ x y S P, q' x y S P → q x y S P) : ODok X f q' := by
  obtain ⟨r, o, a⟩ := h
  exact ⟨r, o, fun x y S P H vx vy Q z rep rx ry go => a x y S P H vx vy Q (i _ _ _ _ z) rep rx ry go⟩
def oSub : QO := oI (fun _ _ => True) fun i j => .int (i - j)
def oMul : QO := oI IntMulOk fun i j => .int (i * j)
def CDivA (_ j : Int) : Prop := j ≠ 0 ∧ j.natAbs.log2 < 9000
def oDiv : QO := oI CDivA fun i j => .int (i.fdiv j)
def oMod : QO := oI (fun _ j => j ≠ 0) fun i j => .int (i.fmod j)
def oPow : QO := oI CPow fun i j => .int (i ^ j.toNat)
theorem od_sub : ODok X (binaryOp .Sub) oSub := od_I (op_rI0 op_sub) fun _ _ _ _ => rv_ofI
theorem od_mul : ODok X (binaryOp .Mult) oMul := od_I (g := fun i j => .int (i * j)) (opI fun _ _ _ _ _ _ _ hc q => mul_int q hc) fun _ _ _ _ => rv_ofI
theorem od_div : ODok X (binaryOp .FloorDiv) oDiv := od_I (g := fun i j => .int (i.fdiv j)) (opI fun _ _ _ _ _ _ _ hc q => floordiv_int hc.1 q (.inl (PyProof.noPylong_of_log2 hc.2))) fun _ _ _ _ => rv_ofI
theorem od_mod : ODok X (binaryOp .Mod) oMod := od_I op_modN fun _ _ _ _ => rv_ofI
theorem od_pow : ODok X (binaryOp .Pow) oPow := od_I op_pow fun _ _ _ _ => rv_ofI
def oAdd : QO := fun x y S P => match x, y with
  | .int i, .int j => P (.int (i + j)) S
  | .str i, .str j => i.length + j.length ≤ sizeLine ∧ P (.str (i ++ j)) S
  | .tup i, .tup j => i.length + j.length ≤ sizeLine ∧ P (.tup (i ++ j)) S
  | .ref i, .ref j => ∃ xs ys, S i = some (.lst xs) ∧ S j = some (.lst ys) ∧ xs.length + ys.length ≤ sizeLine ∧ ∀ p, S p = none → P (.ref p) (ups S p (.lst (xs ++ ys)))
  | _, _ => False
theorem od_add : ODok X (binaryOp .Add) oAdd := by
  refine ⟨_, (op_add.or op_add_str).or (op_catA.or op_cat), fun x y S P H vx vy Q q rep rx ry go => ?_⟩
  cases x <;> cases y <;> first | exact (show False from q).elim | skip
  · exact .inl (.inl ⟨_, _, rv_int rx, rv_int ry, go.now q rep rv_ofI⟩)
  · exact .inl (.inr ⟨_, _, rv_str rx, rv_str ry, q.1, go.now q.2 rep rv_ofS⟩)
  · rename_i as bs
    obtain ⟨a, vs, e1, s1, r1⟩ := rv_tup rx
    obtain ⟨b, ws, e2, s2, r2⟩ := rv_tup ry
    refine .inr (.inl ⟨a, b, vs, ws, e1, e2, s1, s2, by rw [← r1.length, ← r2.length]; exact q.1, ?_⟩)
    refine ⟨fun h0 => ?_, fun _ h0 => ?_, fun _ _ p n => ?_⟩
    · subst h0
      have e : as = [] := List.eq_nil_of_length_eq_zero (by rw [r1.length]; rfl)
      subst e
      exact go.now q.2 rep (by unfold RV; exact ⟨b, ws, rfl, s2, r2⟩)
    · subst h0
      have e : bs = [] := List.eq_nil_of_length_eq_zero (by rw [r2.length]; rfl)
      subst e
      refine go.now q.2 rep ?_
      rw [List.append_nil]
      unfold RV
      exact ⟨a, vs, rfl, s1, r1⟩
    · exact go _ _ _ _ q.2 (Keep.new n) (rep.same (same_new n)) (rv_newT n (r1.append r2))
  · rename_i a b
    obtain ⟨xs, ys, e1, e2, hz, h⟩ := q
    obtain ⟨vs, f1, r1⟩ := rep _ _ e1
    obtain ⟨ws, f2, r2⟩ := rep _ _ e2
    refine .inr (.inr ⟨a, b, vs, ws, rv_ref rx, rv_ref ry, f1, f2, by rw [← r1.length, ← r2.length]; exact hz, fun p n => ?_⟩)
    exact go _ _ _ _ (h p (rep.free n)) (Keep.new n) (rep.newL n (r1.append r2)) rv_ofR


/-! ## data, for == and repr -/
mutual
inductive Dat (S : Sto) : D → PyData → Prop
  | non : Dat S .non .none
  | bl (b : Bool) : Dat S (.bl b) (.bool b)
  | int (i : Int) : Dat S (.int i) (.int i)
  | str (x : Str) : Dat S (.str x) (.str x)
  | tup {ds : List D} {ps : List PyData} : Dats S ds ps → Dat S (.tup ds) (.tuple ps)
  | rol {ds : List D} {ps : List PyData} : Dats S ds ps → Dat S (.rol ds) (.list ps)
  | lst {a : Addr} {ds : List D} {ps : List PyData} : S a = some (.lst ds) → Dats S ds ps → Dat S (.ref a) (.list ps)
inductive Dats (S : Sto) : List D → List PyData → Prop
  | nil : Dats S [] []
  | cons {d : D} {ds : List D} {p : PyData} {ps : List PyData} : Dat S d p → Dats S ds ps → Dats S (d :: ds) (p :: ps)
end
mutual
theorem Dat.dp {K : PySem.W.Frag} {S : Sto} {H : Hp} (rep : Rep K S H) : ∀ (p : PyData) (d : D) (v : V), Dat S d p → RV K H d v → Dp K H v p
  | .none, _, v, h, r => by
    cases h
    rw [rv_non r]
    exact .non
  | .bool b, _, v, h, r => by
    cases h
    rw [rv_bl r]
    exact .bl b
  | .int i, _, v, h, r => by
    cases h
    rw [rv_int r]
    exact .int i
  | .str x, _, v, h, r => by
    cases h
    rw [rv_str r]
    exact .str x
  | .tuple ps, _, v, h, r => by
    cases h with
    | tup hs =>
      obtain ⟨a, vs, e, s, q⟩ := rv_tup r
      subst e
      exact .tup s (Dats.dp rep ps _ vs hs q)
  | .list ps, _, v, h, r => by
    cases h with
    | rol hs =>
      unfold RV at r
      obtain ⟨a, vs, e, s, q⟩ := r
      subst e
      exact .lst s.sq (Dats.dp rep ps _ vs hs q)
    | lst e hs =>
      rw [rv_ref r]
      obtain ⟨vs, e2, q⟩ := rep _ _ e
      exact .lst (SqL.of e2) (Dats.dp rep ps _ vs hs q)
  | .dict _, _, _, h, _ => by cases h
theorem Dats.dp {K : PySem.W.Frag} {S : Sto} {H : Hp} (rep : Rep K S H) : ∀ (ps : List PyData) (ds : List D) (vs : List V), Dats S ds ps → RVs K H ds vs → DpAll K H vs ps
  | [], _, vs, h, r => by
    cases h
    rw [RVs.nil_iff.mp r]
    exact .nil
  | p :: ps, _, vs, h, r => by
    cases h with
    | cons h1 h2 =>
      unfold RVs at r
      obtain ⟨v, w, e, r1, r2⟩ := r
      subst e
      exact .cons (Dat.dp rep p _ v h1 r1) (Dats.dp rep ps _ w h2 r2)
end
mutual
theorem Dat.sub {S S' : Sto} (s : Sub S S') : ∀ (p : PyData) (d : D), Dat S d p → Dat S' d p
  | .none, _, h => by cases h; exact .non
  | .bool b, _, h => by cases h; exact .bl b
  | .int i, _, h => by cases h; exact .int i
  | .str x, _, h => by cases h; exact .str x
  | .tuple ps, _, h => by
    cases h with
    | tup hs => exact .tup (Dats.sub s ps _ hs)
  | .list ps, _, h => by
    cases h with
    | rol hs => exact .rol (Dats.sub s ps _ hs)
    | lst e hs => exact .lst (s _ _ e) (Dats.sub s ps _ hs)
  | .dict _, _, h => by cases h
theorem Dats.sub {S S' : Sto} (s : Sub S S') : ∀ (ps : List PyData) (ds : List D), Dats S ds ps → Dats S' ds ps
  | [], _, h => by cases h; exact .nil
  | p :: ps, _, h => by
    cases h with
    | cons h1 h2 => exact .cons (Dat.sub s p _ h1) (Dats.sub s ps _ h2)
end
/- data of tuples alone -/
mutual
def pyD : D → PyData
  | .non => .none
  | .bl b => .bool b
  | .int i => .int i
  | .str x => .str x
  | .tup ds => .tuple (pyDs ds)
  | .rol ds => .list (pyDs ds)
  | .ptup _ => .none
  | .ref _ => .none
  | .ty _ => .none
def pyDs : List D → List PyData
  | [] => []
  | d :: ds => pyD d :: pyDs ds
end
mutual
def pureD : D → Bool
  | .tup ds => pureDs ds
  | .rol ds => pureDs ds
  | .ptup _ => false
  | .ref _ => false
  | .ty _ => false
  | _ => true
def pureDs : List D → Bool
  | [] => true
  | d :: ds => pureD d && pureDs ds
end
mutual
theorem Dat.pure {S : Sto} : ∀ (d : D), pureD d = true → Dat S d (pyD d)
  | .non, _ => by unfold pyD; exact .non
  | .bl b, _ => by unfold pyD; exact .bl b
  | .int i, _ => by unfold pyD; exact .int i
  | .str x, _ => by unfold pyD; exact .str x
  | .tup ds, h => by
    unfold pyD
    unfold pureD at h
    exact .tup (Dats.pure ds h)
  | .rol ds, h => by
    unfold pyD
    unfold pureD at h
    exact .rol (Dats.pure ds h)
  | .ptup _, h => by unfold pureD at h; cases h
  | .ref _, h => by unfold pureD at h; cases h
  | .ty _, h => by unfold pureD at h; cases h
theorem Dats.pure {S : Sto} : ∀ (ds : List D), pureDs ds = true → Dats S ds (pyDs ds)
  | [], _ => by unfold pyDs; exact .nil
  | d :: ds, h => by
    unfold pyDs
    unfold pureDs at h
    obtain ⟨h1, h2⟩ := Bool.and_eq_true_iff.mp h
    exact .cons (Dat.pure d h1) (Dats.pure ds h2)
end

/-! ## comparisons -/
/-- two alike scalars, else data -/
def oEqW (k : Bool → Bool) : QO := fun x y S P => match x, y with
  | .int i, .int j => P (.bl (k (decide (i = j)))) S
  | .str i, .str j => P (.bl (k (decide (i = j)))) S
  | .bl i, .bl j => P (.bl (k (decide (i = j)))) S
  | x, y => ∃ a b, Dat S x a ∧ Dat S y b ∧ SeqAt.shaped a = true ∧ SeqAt.shaped b = true ∧ P (.bl (k (PyData.eqv a b))) S
def oEq : QO := oEqW id
def oNe : QO := oEqW not
theorem dec_V_int {i j : Int} : decide (V.int i = V.int j) = decide (i = j) := by rw [dec_int, Bool.beq_eq_decide_eq]
theorem dec_V_str {i j : Str} : decide (V.str i = V.str j) = decide (i = j) := by rw [dec_str, Bool.beq_eq_decide_eq]
theorem dec_V_bl {i j : Bool} : decide (V.bl i = V.bl j) = decide (i = j) := by rw [dec_bl, Bool.beq_eq_decide_eq]
theorem oEqW_inv {k : Bool → Bool} {x y : D} {S : Sto} {P : PD} (h : oEqW k x y S P) : (∃ vx vy, scal vx vy = true ∧ (∀ K H v, RV K H x v → v = vx) ∧ (∀ K H v, RV K H y v → v = vy) ∧ P (.bl (k (decide (vx = vy)))) S) ∨
    ∃ a b, Dat S x a ∧ Dat S y b ∧ SeqAt.shaped a = true ∧ SeqAt.shaped b = true ∧ P (.bl (k (PyData.eqv a b))) S := by
  unfold oEqW at h
  split at h
  · exact .inl ⟨_, _, rfl, fun _ _ _ r => rv_int r, fun _ _ _ r => rv_int r, by rw [dec_V_int]; exact h⟩
  · exact .inl ⟨_, _, rfl, fun _ _ _ r => rv_str r, fun _ _ _ r => rv_str r, by rw [dec_V_str]; exact h⟩
  · exact .inl ⟨_, _, rfl, fun _ _ _ r => rv_bl r, fun _ _ _ r => rv_bl r, by rw [dec_V_bl]; exact h⟩
  · exact .inr h
theorem od_eq (hu : X.A.units + 64 < cLine) : ODok X (compareOp .Eq) oEq := by
  refine ⟨_, op_eq.or (op_eqD hu), fun x y S P H vx vy Q q rep rx ry go => ?_⟩
  rcases oEqW_inv q with ⟨a, b, sc, ha, hb, p⟩ | ⟨a, b, da, db, s1, s2, p⟩
  · rw [ha _ _ _ rx, hb _ _ _ ry]
    exact .inl ⟨sc, go.now p rep rv_ofB⟩
  · exact .inr ⟨a, b, Dat.dp rep _ _ _ da rx, Dat.dp rep _ _ _ db ry, s1, s2, go.now p rep rv_ofB⟩
theorem od_ne (hu : X.A.units + 64 < cLine) : ODok X (compareOp .NotEq) oNe := by
  refine ⟨_, op_ne.or (op_neD hu), fun x y S P H vx vy Q q rep rx ry go => ?_⟩
  rcases oEqW_inv q with ⟨a, b, sc, ha, hb, p⟩ | ⟨a, b, da, db, s1, s2, p⟩
  · rw [ha _ _ _ rx, hb _ _ _ ry]
    exact .inl ⟨sc, go.now p rep rv_ofB⟩
  · exact .inr ⟨a, b, Dat.dp rep _ _ _ da rx, Dat.dp rep _ _ _ db ry, s1, s2, go.now p rep rv_ofB⟩
/-- < and its kin, of ints, of texts -/
def oOrd (f : Int → Int → Bool) (g : List Nat → List Nat → Bool) : QO := fun x y S P => match x, y with
  | .int i, .int j => P (.bl (f i j)) S
  | .str i, .str j => P (.bl (g i.cps.toList j.cps.toList)) S
  | _, _ => False
def oLt : QO := oOrd (fun i j => decide (i < j)) fun i j => decide (i < j)
def oLe : QO := oOrd (fun i j => decide (i ≤ j)) fun i j => !decide (j < i)
def oGt : QO := oOrd (fun i j => decide (j < i)) fun i j => decide (j < i)
def oGe : QO := oOrd (fun i j => decide (j ≤ i)) fun i j => !decide (i < j)
theorem od_ord {f : Value → Value → Sem Value} {g : Int → Int → Bool} {h : List Nat → List Nat → Bool} (a : OpR X f (rI0 fun i j => .bl (g i j))) (b : OpR X f (fun x y H Q => ∃ i j, x = .str i ∧ y = .str j ∧ Q (.bl (h i.cps.toList j.cps.toList)) H)) : ODok X f (oOrd g h) := by
  refine ⟨_, a.or b, fun x y S P H vx vy Q q rep rx ry go => ?_⟩
  cases x <;> cases y <;> first | exact (show False from q).elim | skip
  · exact .inl ⟨_, _, rv_int rx, rv_int ry, go.now q rep rv_ofB⟩
  · exact .inr ⟨_, _, rv_str rx, rv_str ry, go.now q rep rv_ofB⟩
theorem od_lt : ODok X (compareOp .Lt) oLt := od_ord op_lt op_lt_str
theorem od_le : ODok X (compareOp .LtE) oLe := od_ord op_le op_le_str
theorem od_gt : ODok X (compareOp .Gt) oGt := od_ord op_gt op_gt_str
theorem od_ge : ODok X (compareOp .GtE) oGe := od_ord op_ge op_ge_str
/-- x in a list of data -/
def oInL (k : Bool → Bool) : QO := fun x y S P => ∃ a ds, Dat S x a ∧ Dat S y (.list ds) ∧ SeqAt.shaped a = true ∧ SeqAt.shaped (.list ds) = true ∧ P (.bl (k (ds.any fun z => PyData.eqv z a))) S
theorem od_inL (hu : X.A.units + 65 < cLine) : ODok X (compareOp .In) (oInL id) := by
  refine ⟨_, op_inD hu, fun x y S P H vx vy Q q rep rx ry go => ?_⟩
  obtain ⟨a, ds, h1, h2, h3, h4, p⟩ := q
  exact ⟨a, ds, Dat.dp rep _ _ _ h1 rx, Dat.dp rep _ _ _ h2 ry, h3, h4, go.now p rep rv_ofB⟩
theorem od_notInL (hu : X.A.units + 65 < cLine) : ODok X (compareOp .NotIn) (oInL not) := by
  refine ⟨_, op_notInD hu, fun x y S P H vx vy Q q rep rx ry go => ?_⟩
  obtain ⟨a, ds, h1, h2, h3, h4, p⟩ := q
  exact ⟨a, ds, Dat.dp rep _ _ _ h1 rx, Dat.dp rep _ _ _ h2 ry, h3, h4, go.now p rep rv_ofB⟩

/-! ## -x -/
def qNeg (q : QE) : QE := fun loc S P E => q loc S (fun d S1 => match d with
  | .int i => P (.int (-i)) S1
  | _ => False) E
theorem de_neg {a : Expr} {qa : QE} {pos : Pos} (ha : DE X a qa) : DE X (.UnaryOp .USub a pos) (qNeg qa) := fun W tk => by
  refine PE.imp (pe_un un_neg (ha W tk)) fun σ H Q h => ?_
  obtain ⟨loc, S, P, E, rl, rep, hq, g, gx⟩ := h
  refine ⟨loc, S, _, E, rl, rep, hq, fun d S1 v H1 q1 k1 rep1 r1 => ?_, gx⟩
  cases d with
  | int i => exact ⟨i, rv_int r1, g _ _ _ _ q1 k1 rep1 rv_ofI⟩
  | _ => exact (show False from q1).elim

/-! ## x[i], x[i:j] -/
/-- the item of a sequence -/
def oIx : QO := fun x y S P => match x, y with
  | .tup xs, .int i => ∃ d, atI xs i = some d ∧ P d S
  | .rol xs, .int i => ∃ d, atI xs i = some d ∧ P d S
  | .ptup xs, .int i => ∃ d, atI xs i = some d ∧ P d S
  | .ref a, .int i => ∃ xs d, S a = some (.lst xs) ∧ atI xs i = some d ∧ P d S
  | .str z, .int i => z.length ≤ sizeLine ∧ ∃ c, atI z.cps.toList i = some c ∧ P (.str ⟨#[c]⟩) S
  | _, _ => False
theorem RVs.atI {K : PySem.W.Frag} {H : Hp} {ds : List D} {vs : List V} {i : Int} {d : D} (r : RVs K H ds vs) (h : atI ds i = some d) : ∃ v, L2.atI vs i = some v ∧ RV K H d v := by
  unfold L2.atI at h ⊢
  cases e : ixN ds.length i with
  | none => rw [e] at h; cases h
  | some j =>
    rw [e] at h
    obtain ⟨v, e1, e2⟩ := RVs.get r (i := j) h
    exact ⟨v, by rw [← r.length, e]; exact e1, e2⟩
theorem de_ix {a b : Expr} {qa qb : QE} {pos : Pos} (ha : DE X a qa) (hb : DE X b qb) (hs : PlainIx b := by exact fun _ _ => rfl) : DE X (.Subscript a b pos) (qBin oIx qa qb) := fun W tk => by
  refine PE.imp (pe_ix ix_seq (ha W tk) (hb W tk) hs) fun σ H Q h => ?_
  obtain ⟨loc, S, P, E, rl, rep, hq, g, gx⟩ := h
  refine lift2 rl rep gx hq fun x y S' vx vy H' hf k rep' rx ry => ?_
  cases x <;> cases y <;> first | exact (show False from hf).elim | skip
  · obtain ⟨h1, c, h2, p⟩ := hf
    exact .inr (.inr ⟨_, _, c, rv_str rx, rv_int ry, h1, h2, g _ _ _ _ p k rep' rv_ofS⟩)
  · obtain ⟨d, h1, p⟩ := hf
    obtain ⟨q, vs, e, s, r⟩ := rv_tup rx
    obtain ⟨v, h2, rv⟩ := RVs.atI r h1
    exact .inr (.inl ⟨q, vs, _, v, e, rv_int ry, s, h2, g _ _ _ _ p k rep' rv⟩)
  · obtain ⟨d, h1, p⟩ := hf
    unfold RV at rx
    obtain ⟨q, vs, e, s, r⟩ := rx
    obtain ⟨v, h2, rv⟩ := RVs.atI r h1
    exact .inl ⟨q, vs, _, v, e, rv_int ry, s.sq, h2, g _ _ _ _ p k rep' rv⟩
  · obtain ⟨d, h1, p⟩ := hf
    unfold RV at rx
    obtain ⟨q, vs, e, ⟨o, s, _⟩, r⟩ := rx
    obtain ⟨v, h2, rv⟩ := RVs.atI r h1
    exact .inr (.inl ⟨q, vs, _, v, e, rv_int ry, .inl (.inr ⟨o, s⟩), h2, g _ _ _ _ p k rep' rv⟩)
  · obtain ⟨xs, d, h0, h1, p⟩ := hf
    obtain ⟨vs, s, r⟩ := rep' _ _ h0
    obtain ⟨v, h2, rv⟩ := RVs.atI r h1
    exact .inl ⟨_, vs, _, v, rv_ref rx, rv_int ry, SqL.of s, h2, g _ _ _ _ p k rep' rv⟩
abbrev QO1 := Loc → Sto → (Option Int → Sto → Prop) → PX → Prop
def liftO (K : PySem.W.Frag) (W : WX) (q : QO1) : TO := fun σ H Q => ∃ loc S P E, RL K H loc σ ∧ Rep K S H ∧ q loc S P E ∧ (∀ o S' H', P o S' → Keep K H H' → Rep K S' H' → Q o H') ∧ GoX K H σ E W
def DO (X : Cx) (e : Option Expr) (q : QO1) : Prop := ∀ W, L2N.Takes X W → PO X e (liftO X.K W q)
def qNo : QO1 := fun _ S P _ => P none S
def qPart (q : QE) : QO1 := fun loc S P E => q loc S (fun d S1 => match d with
  | .int i => P (some i) S1
  | _ => False) E
theorem PO.imp {e : Option Expr} {t t' : TO} (h : PO X e t) (i : ∀ σ H Q, t' σ H Q → t σ H Q) : PO X e t' := ⟨fun p s σ H Q I q => h.run p s σ H Q I (i _ _ _ q)⟩
theorem do_none : DO X none qNo := fun W _ => PO.imp po_none fun σ H Q h => by
  obtain ⟨loc, S, P, E, rl, rep, hq, g, _⟩ := h
  exact g _ _ _ hq Keep.refl rep
theorem do_some {e : Expr} {q : QE} (h : DE X e q) : DO X (some e) (qPart q) := fun W tk => PO.imp (po_some (h W tk)) fun σ H Q z => by
  obtain ⟨loc, S, P, E, rl, rep, hq, g, gx⟩ := z
  refine ⟨loc, S, _, E, rl, rep, hq, fun d S1 v H1 q1 k1 rep1 r1 => ?_, gx⟩
  cases d with
  | int i => exact ⟨i, rv_int r1, g _ _ _ q1 k1 rep1⟩
  | _ => exact (show False from q1).elim
def cutL {α : Type} (xs : List α) (lo hi : Option Int) : List α := (xs.drop (HT.sIx xs.length 0 lo)).take (HT.sIx xs.length xs.length hi - HT.sIx xs.length 0 lo)
theorem RVs.cut {K : PySem.W.Frag} {H : Hp} {ds : List D} {vs : List V} (r : RVs K H ds vs) (lo hi : Option Int) : RVs K H (cutL ds lo hi) (cutV vs lo hi) := by
  unfold cutL cutV
  rw [r.length]
  exact RVs.take _ (RVs.drop _ r)
theorem cutL_all {α : Type} {xs : List α} {lo hi : Option Int} (h : HT.sIx xs.length 0 lo = 0 ∧ HT.sIx xs.length xs.length hi = xs.length) : cutL xs lo hi = xs := by
  unfold cutL
  rw [h.1, h.2]
  simp
def oSl (x : D) (lo hi : Option Int) (S : Sto) (P : PD) : Prop := match x with
  | .tup xs => P (.tup (cutL xs lo hi)) S
  | .rol xs => ∀ p, S p = none → P (.ref p) (ups S p (.lst (cutL xs lo hi)))
  | .ref a => ∃ xs, S a = some (.lst xs) ∧ ∀ p, S p = none → P (.ref p) (ups S p (.lst (cutL xs lo hi)))
  | .str z => z.length ≤ sizeLine ∧ P (.str (cutS z lo hi)) S
  | _ => False
def qSl (q : QE) (l h : QO1) : QE := fun loc S P E => q loc S (fun x S1 => l loc S1 (fun lo S2 => h loc S2 (fun hi S3 => oSl x lo hi S3 P) E) E) E
theorem de_sl {e : Expr} {lo hi : Option Expr} {q : QE} {l h : QO1} {pos p2 : Pos} (he : DE X e q) (hl : DO X lo l) (hh : DO X hi h) : DE X (.Subscript e (.Slice lo hi none p2) pos) (qSl q l h) := fun W tk => by
  refine PE.imp (pe_slice (sl_list.or (sl_tupA.or sl_str)) (he W tk) (hl W tk) (hh W tk)) fun σ H Q z => ?_
  obtain ⟨loc, S, P, E, rl, rep, hq, g, gx⟩ := z
  refine ⟨loc, S, _, E, rl, rep, hq, fun x S1 vx H1 q1 k1 rep1 r1 => ?_, gx⟩
  refine ⟨loc, S1, _, E, rl.keep k1, rep1, q1, fun lo S2 H2 q2 k2 rep2 => ?_, gx.keep k1⟩
  refine ⟨loc, S2, _, E, rl.keep (k1.trans k2), rep2, q2, fun hi S3 H3 q3 k3 rep3 => ?_, gx.keep (k1.trans k2)⟩
  have kk := k1.trans (k2.trans k3)
  have r3 := RV.keep (k2.trans k3) _ _ r1
  have alloc : ∀ xs vs, (∀ p, S3 p = none → P (.ref p) (ups S3 p (.lst (cutL xs lo hi)))) → RVs X.K H3 xs vs → ∀ p, H3 p = none → Q (.ref p) (upd H3 p (.lst (cutV vs lo hi))) := fun xs vs hp r p n =>
    g _ _ _ _ (hp p (rep3.free n)) (kk.trans (Keep.new n)) (rep3.newL n (r.cut lo hi)) rv_ofR
  cases x with
  | tup xs =>
    obtain ⟨a, vs, e, s, r⟩ := rv_tup r3
    refine .inr (.inl ⟨a, vs, e, s, fun hw => ?_, fun _ p n => ?_⟩)
    · refine g _ _ _ _ q3 kk rep3 ?_
      rw [← r.length] at hw
      rw [cutL_all hw]
      unfold RV
      exact ⟨a, vs, rfl, s, r⟩
    · exact g _ _ _ _ q3 (kk.trans (Keep.new n)) (rep3.same (same_new n)) (rv_newT n (r.cut lo hi))
  | rol xs =>
    unfold RV at r3
    obtain ⟨a, vs, e, s, r⟩ := r3
    exact .inl ⟨a, vs, e, s.sq, alloc xs vs q3 r⟩
  | ref a =>
    obtain ⟨xs, e, hp⟩ := q3
    obtain ⟨vs, s, r⟩ := rep3 _ _ e
    exact .inl ⟨a, vs, rv_ref r3, SqL.of s, alloc xs vs hp r⟩
  | str z => exact .inr (.inr ⟨z, rv_str r3, q3.1, g _ _ _ _ q3.2 kk rep3 rv_ofS⟩)
  | _ => exact (show False from q3).elim
end
end PL

namespace PL
open PySem PySem.Spec PyProof.Rows L2 -- the layers
section
variable {X : Cx}

/-! ## calls of built-ins -/
abbrev QC := List D → Sto → PD → Prop
def CDok (X : Cx) (f : Value) (q : QC) : Prop :=
  ∃ r : List V → Hp → VK → Prop, CallR X f r ∧ ∀ ds S P H vs Q, q ds S P → Rep X.K S H → RVs X.K H ds vs → GoD X.K H P Q → r vs H Q
def qCB (q : QC) (qa : QA) : QE := fun loc S P E => qa loc S (fun ds S1 => q ds S1 P) E
variable {e : Expr} {es : List Expr} {qa : QA} {q : QC} {x : Str} {p pos : Pos} {id T : String}
theorem cb_imp {K : PySem.W.Frag} {W : WX} {r : List V → Hp → VK → Prop} (hr : ∀ ds S P H vs Q, q ds S P → Rep K S H → RVs K H ds vs → GoD K H P Q → r vs H Q) {σ : L2.St} {H : Hp} {Q : VK} (h : lift K W (qCB q qa) σ H Q) : tCB r (liftA K W qa) σ H Q := by
  obtain ⟨loc, S, P, E, rl, rep, hq, g, gx⟩ := h
  exact ⟨loc, S, _, E, rl, rep, hq, fun ds S1 vs H1 q1 k1 rep1 r1 => hr ds S1 P H1 vs Q q1 rep1 r1 (g.keep k1), gx⟩
theorem de_callB (ho : CDok X (.builtin id) q) (hg : Gl X x) (hm : X.mg x = none) (hv : bootBuiltins x = some (.builtin id)) (ha : DA X (e :: es) qa) (hn : x ≠ "__name__" := by decide) (hdb : (x == ("__debug__" : Str)) = false := by decide)
    (he : starEach (e :: es) X.env = (false, eval e X.env) :: starEach es X.env := by rfl) (hpl : (backTo pos (starEach es X.env)).any (·.1) = false := by rfl) : DE X (.Call (.Name x p) (e :: es) [] pos) (qCB q qa) := fun W tk => by
  obtain ⟨r, o, hr⟩ := ho
  exact PE.imp (pe_callB o hg hm hv (ha W tk) hn hdb he hpl) fun σ H Q h => cb_imp hr h
theorem de_callTy (ho : CDok X (.type T) q) (hg : Gl X x) (hm : X.mg x = none) (hv : bootBuiltins x = some (.type T)) (ha : DA X (e :: es) qa) (hn : x ≠ "__name__" := by decide) (hdb : (x == ("__debug__" : Str)) = false := by decide)
    (he : starEach (e :: es) X.env = (false, eval e X.env) :: starEach es X.env := by rfl) (hpl : (backTo pos (starEach es X.env)).any (·.1) = false := by rfl) : DE X (.Call (.Name x p) (e :: es) [] pos) (qCB q qa) := fun W tk => by
  obtain ⟨r, o, hr⟩ := ho
  exact PE.imp (pe_callTy o hg hm hv (ha W tk) hn hdb he hpl) fun σ H Q h => cb_imp hr h
theorem rvs_one {K : PySem.W.Frag} {H : Hp} {d : D} {vs : List V} (r : RVs K H [d] vs) : ∃ v, vs = [v] ∧ RV K H d v := by
  unfold RVs at r
  obtain ⟨v, w, e, h1, h2⟩ := r
  rw [RVs.nil_iff.mp h2] at e
  exact ⟨v, e, h1⟩
theorem rvs_two {K : PySem.W.Frag} {H : Hp} {d d' : D} {vs : List V} (r : RVs K H [d, d'] vs) : ∃ v w, vs = [v, w] ∧ RV K H d v ∧ RV K H d' w := by
  unfold RVs at r
  obtain ⟨v, w, e, h1, h2⟩ := r
  obtain ⟨u, e2, h3⟩ := rvs_one h2
  subst e2
  exact ⟨v, u, e, h1, h3⟩
/-- the one argument, an int -/
def cInt (f : Int → D) : QC := fun ds S P => match ds with
  | [.int i] => P (f i) S
  | _ => False
theorem cInt_inv {f : Int → D} {ds : List D} {S : Sto} {P : PD} (h : cInt f ds S P) : ∃ i, ds = [.int i] ∧ P (f i) S := by
  unfold cInt at h
  split at h
  · exact ⟨_, rfl, h⟩
  · exact h.elim
theorem cd_abs : CDok X (.builtin "abs") (cInt fun i => .int (if i < 0 then -i else i)) := by
  refine ⟨_, call_abs, fun ds S P H vs Q q rep r go => ?_⟩
  obtain ⟨i, rfl, p⟩ := cInt_inv q
  obtain ⟨v, rfl, rv⟩ := rvs_one r
  exact ⟨i, by rw [rv_int rv], go.now p rep rv_ofI⟩
def cToInt : QC := fun ds S P => match ds with
  | [.int i] => P (.int i) S
  | [.bl b] => P (.int (if b then 1 else 0)) S
  | _ => False
theorem cd_int : CDok X (.type "int") cToInt := by
  refine ⟨_, call_int1, fun ds S P H vs Q q rep r go => ?_⟩
  unfold cToInt at q
  split at q
  · obtain ⟨v, rfl, rv⟩ := rvs_one r
    exact .inl ⟨_, by rw [rv_int rv], go.now q rep rv_ofI⟩
  · obtain ⟨v, rfl, rv⟩ := rvs_one r
    exact .inr ⟨_, by rw [rv_bl rv], go.now q rep rv_ofI⟩
  · exact q.elim
def cInt2 (f : Int → Int → D) : QC := fun ds S P => match ds with
  | [.int i, .int j] => P (f i j) S
  | _ => False
theorem cInt2_inv {f : Int → Int → D} {ds : List D} {S : Sto} {P : PD} (h : cInt2 f ds S P) : ∃ i j, ds = [.int i, .int j] ∧ P (f i j) S := by
  unfold cInt2 at h
  split at h
  · exact ⟨_, _, rfl, h⟩
  · exact h.elim
theorem cd_max2 (hc : X.calm = true) : CDok X (.builtin "max") (cInt2 fun i j => .int (if j > i then j else i)) := by
  refine ⟨_, call_max2 hc, fun ds S P H vs Q q rep r go => ?_⟩
  obtain ⟨i, j, rfl, p⟩ := cInt2_inv q
  obtain ⟨v, w, rfl, r1, r2⟩ := rvs_two r
  exact ⟨i, j, by rw [rv_int r1, rv_int r2], go.now p rep rv_ofI⟩
theorem cd_min2 (hc : X.calm = true) : CDok X (.builtin "min") (cInt2 fun i j => .int (if j < i then j else i)) := by
  refine ⟨_, call_min2 hc, fun ds S P H vs Q q rep r go => ?_⟩
  obtain ⟨i, j, rfl, p⟩ := cInt2_inv q
  obtain ⟨v, w, rfl, r1, r2⟩ := rvs_two r
  exact ⟨i, j, by rw [rv_int r1, rv_int r2], go.now p rep rv_ofI⟩
def cLen : QC := fun ds S P => match ds with
  | [.str z] => z.length ≤ sizeLine ∧ P (.int z.length) S
  | [.tup xs] => P (.int xs.length) S
  | [.rol xs] => P (.int xs.length) S
  | [.ref a] => ∃ xs, S a = some (.lst xs) ∧ P (.int xs.length) S
  | _ => False
theorem cd_len : CDok X (.builtin "len") cLen := by
  refine ⟨_, call_len, fun ds S P H vs Q q rep r go => ?_⟩
  unfold cLen at q
  split at q
  · obtain ⟨v, rfl, rv⟩ := rvs_one r
    exact ⟨v, _, rfl, by rw [rv_str rv]; exact ⟨q.1, rfl⟩, go.now q.2 rep rv_ofI⟩
  · obtain ⟨v, rfl, rv⟩ := rvs_one r
    obtain ⟨a, ws, e, s, r2⟩ := rv_tup rv
    subst e
    exact ⟨_, _, rfl, .inr ⟨ws, s, rfl⟩, by rw [← r2.length]; exact go.now q rep rv_ofI⟩
  · obtain ⟨v, rfl, rv⟩ := rvs_one r
    unfold RV at rv
    obtain ⟨a, ws, e, s, r2⟩ := rv
    subst e
    exact ⟨_, _, rfl, .inl ⟨ws, s.sq, rfl⟩, by rw [← r2.length]; exact go.now q rep rv_ofI⟩
  · obtain ⟨v, rfl, rv⟩ := rvs_one r
    rw [rv_ref rv]
    obtain ⟨xs, e, p⟩ := q
    obtain ⟨ws, s, r2⟩ := rep _ _ e
    exact ⟨_, _, rfl, .inl ⟨ws, SqL.of s, rfl⟩, by rw [← r2.length]; exact go.now p rep rv_ofI⟩
  · exact q.elim
/-- what repr shows of data -/
def good (p : PyData) : Prop := p.showable = true ∧ p.hasDict = false ∧ p.shown.length ≤ sizeLine ∧ p.depth ≤ 60
def cRepr : QC := fun ds S P => ∃ d p, ds = [d] ∧ (∃ a, d = .ref a) ∧ Dat S d p ∧ good p ∧ P (.str p.shown) S
theorem cd_repr (hG : X.A.guards = some []) (hu : X.A.units + 64 < cLine) : CDok X (.builtin "repr") cRepr := by
  refine ⟨fun vs H Q => ∃ a p, vs = [.ref a] ∧ Dp X.K H (.ref a) p ∧ good p ∧ Q (.str p.shown) H, fun pins s σ H xs us Q I r h => ?_, fun ds S P H vs Q q rep r go => ?_⟩
  · obtain ⟨a, p, rfl, hd, ⟨g1, g2, g3, g4⟩, hq⟩ := h
    obtain ⟨u, rfl, ru⟩ := vals1 r
    cases ru
    obtain ⟨as, hr⟩ := Dp.reads I p _ _ hd rfl
    refine repr_of_reads' hr g1 (fun z => by rw [g2] at z; cases z) hG (by omega) (fun _ _ z => z) (fun h' u tk hk => ?_) g3
    exact ⟨.str p.shown, H, I.kept hk, ⟨_, rfl⟩, hq⟩
  · obtain ⟨d, p, rfl, ⟨a, rfl⟩, hd, hg, hp⟩ := q
    obtain ⟨v, rfl, rv⟩ := rvs_one r
    have rv' := rv
    rw [rv_ref rv] at rv' ⊢
    exact ⟨a, p, rfl, Dat.dp rep _ _ _ hd rv', hg, go.now hp rep rv_ofS⟩
/-- tuple(x), list(x) -/
def cTuple : QC := fun ds S P => match ds with
  | [.tup xs] => P (.tup xs) S
  | [.rol xs] => P (.tup xs) S
  | [.ref a] => ∃ xs, S a = some (.lst xs) ∧ P (.tup xs) S
  | _ => False
theorem cd_tuple : CDok X (.type "tuple") cTuple := by
  refine ⟨_, call_tuple_of, fun ds S P H vs Q q rep r go => ?_⟩
  unfold cTuple at q
  split at q
  · obtain ⟨v, rfl, rv⟩ := rvs_one r
    obtain ⟨a, ws, e, s, r2⟩ := rv_tup rv
    subst e
    exact ⟨a, ws, rfl, .inr ⟨s, go.now q rep rv⟩⟩
  · obtain ⟨v, rfl, rv⟩ := rvs_one r
    unfold RV at rv
    obtain ⟨a, ws, e, s, r2⟩ := rv
    subst e
    exact ⟨a, ws, rfl, .inl ⟨s.sq, fun l n => go _ _ _ _ q (Keep.new n) (rep.same (same_new n)) (rv_newT n r2)⟩⟩
  · obtain ⟨v, rfl, rv⟩ := rvs_one r
    rw [rv_ref rv]
    obtain ⟨xs, e, p⟩ := q
    obtain ⟨ws, s, r2⟩ := rep _ _ e
    exact ⟨_, ws, rfl, .inl ⟨SqL.of s, fun l n => go _ _ _ _ p (Keep.new n) (rep.same (same_new n)) (rv_newT n r2)⟩⟩
  · exact q.elim
def cList : QC := fun ds S P => match ds with
  | [.tup xs] => ∀ p, S p = none → P (.ref p) (ups S p (.lst xs))
  | [.rol xs] => ∀ p, S p = none → P (.ref p) (ups S p (.lst xs))
  | [.ref a] => ∃ xs, S a = some (.lst xs) ∧ ∀ p, S p = none → P (.ref p) (ups S p (.lst xs))
  | _ => False
theorem cd_list : CDok X (.type "list") cList := by
  refine ⟨_, call_list_of, fun ds S P H vs Q q rep r go => ?_⟩
  have fin : ∀ xs ws, (∀ p, S p = none → P (.ref p) (ups S p (.lst xs))) → RVs X.K H xs ws → ∀ l, H l = none → Q (.ref l) (upd H l (.lst ws)) := fun xs ws h r2 l n => go _ _ _ _ (h l (rep.free n)) (Keep.new n) (rep.newL n r2) rv_ofR
  unfold cList at q
  split at q
  · obtain ⟨v, rfl, rv⟩ := rvs_one r
    obtain ⟨a, ws, e, s, r2⟩ := rv_tup rv
    subst e
    exact ⟨a, ws, rfl, .inr s, fin _ _ q r2⟩
  · obtain ⟨v, rfl, rv⟩ := rvs_one r
    unfold RV at rv
    obtain ⟨a, ws, e, s, r2⟩ := rv
    subst e
    exact ⟨a, ws, rfl, .inl s.sq, fin _ _ q r2⟩
  · obtain ⟨v, rfl, rv⟩ := rvs_one r
    rw [rv_ref rv]
    obtain ⟨xs, e, p⟩ := q
    obtain ⟨ws, s, r2⟩ := rep _ _ e
    exact ⟨_, ws, rfl, .inl (SqL.of s), fin _ _ p r2⟩
  · exact q.elim
/-- all, any of a list of bools -/
def cBools (f : List Bool → Bool) : QC := fun ds S P => ∃ (d : D) (bs : List Bool), ds = [d] ∧ LsAt S d (bs.map D.bl) ∧ P (.bl (f bs)) S
theorem rvs_bls {K : PySem.W.Frag} {H : Hp} : ∀ {bs : List Bool} {vs : List V}, RVs K H (bs.map D.bl) vs → vs = bs.map V.bl
  | [], vs, r => RVs.nil_iff.mp r
  | b :: bs, vs, r => by
    have r' : RVs K H (D.bl b :: bs.map D.bl) vs := r
    unfold RVs at r'
    obtain ⟨v, w, e, h1, h2⟩ := r'
    rw [e, rv_bl h1, rvs_bls h2]
    rfl
theorem rvs_ints {K : PySem.W.Frag} {H : Hp} : ∀ {bs : List Int} {vs : List V}, RVs K H (bs.map D.int) vs → vs = bs.map V.int
  | [], vs, r => RVs.nil_iff.mp r
  | b :: bs, vs, r => by
    have r' : RVs K H (D.int b :: bs.map D.int) vs := r
    unfold RVs at r'
    obtain ⟨v, w, e, h1, h2⟩ := r'
    rw [e, rv_int h1, rvs_ints h2]
    rfl
theorem rvs_strs {K : PySem.W.Frag} {H : Hp} : ∀ {bs : List Str} {vs : List V}, RVs K H (bs.map D.str) vs → vs = bs.map V.str
  | [], vs, r => RVs.nil_iff.mp r
  | b :: bs, vs, r => by
    have r' : RVs K H (D.str b :: bs.map D.str) vs := r
    unfold RVs at r'
    obtain ⟨v, w, e, h1, h2⟩ := r'
    rw [e, rv_str h1, rvs_strs h2]
    rfl
theorem cd_bools {id : String} {f : List Bool → Bool} (h : CallR X (.builtin id) fun vs H Q => ∃ (a : Addr) (bs : List Bool), vs = [V.ref a] ∧ SqL X.K H a (bs.map V.bl) ∧ Q (.bl (f bs)) H) : CDok X (.builtin id) (cBools f) := by
  refine ⟨_, h, fun ds S P H vs Q q rep r go => ?_⟩
  obtain ⟨d, bs, rfl, l, p⟩ := q
  obtain ⟨v, rfl, rv⟩ := rvs_one r
  obtain ⟨a, ws, e, s, r2⟩ := l.sq rep rv
  subst e
  rw [rvs_bls r2] at s
  exact ⟨a, bs, rfl, s, go.now p rep rv_ofB⟩
theorem cd_all (hc : X.calm = true) : CDok X (.builtin "all") (cBools fun bs => bs.all _root_.id) := cd_bools (cr_all hc)
theorem cd_any (hc : X.calm = true) : CDok X (.builtin "any") (cBools fun bs => bs.any _root_.id) := cd_bools (cr_any hc)
def cSum : QC := fun ds S P => ∃ (d : D) (ns : List Int), ds = [d] ∧ LsAt S d (ns.map D.int) ∧ P (.int ns.sum) S
theorem cd_sum (hc : X.calm = true) : CDok X (.builtin "sum") cSum := by
  refine ⟨_, cr_sum hc, fun ds S P H vs Q q rep r go => ?_⟩
  obtain ⟨d, bs, rfl, l, p⟩ := q
  obtain ⟨v, rfl, rv⟩ := rvs_one r
  obtain ⟨a, ws, e, s, r2⟩ := l.sq rep rv
  subst e
  rw [rvs_ints r2] at s
  exact ⟨a, bs, rfl, s, go.now p rep rv_ofI⟩

/-! ## methods of lists -/
/-- a method of a list at an address -/
abbrev QM := Addr → List D → List D → Sto → PD → Prop
def qMeth (f : QM) (q : QE) (qa : QA) : QE := fun loc S P E => q loc S (fun d S1 => match d with
  | .ref a => (∃ xs, S1 a = some (.lst xs)) ∧ qa loc S1 (fun ds S2 => ∃ xs, S2 a = some (.lst xs) ∧ f a xs ds S2 P) E
  | _ => False) E
def qMeth0 (f : QM) (q : QE) : QE := fun loc S P E => q loc S (fun d S1 => match d with
  | .ref a => ∃ xs, S1 a = some (.lst xs) ∧ f a xs [] S1 P
  | _ => False) E
def MDok (X : Cx) (id : String) (f : QM) : Prop :=
  ∃ r, MtR X id r ∧ ∀ a xs ds S P H us vs Q, f a xs ds S P → Rep X.K S H → S a = some (.lst xs) → H a = some (.lst us) → RVs X.K H xs us → RVs X.K H ds vs → GoD X.K H P Q → r (.ref a) vs H Q
theorem de_meth {o : Expr} {q : QE} {f : QM} {name : Str} {apos cpos : Pos} (slot : Slot "list" name id) (hty : typeOf (.builtin id) = pure (.type "method_descriptor")) (hm : MDok X id f) (ho : DE X o q) (ha : DA X (e :: es) qa)
    (hbase : attributeBase o name X.env (eval o X.env) = eval o X.env := by rfl)
    (hfew : ((backTo cpos (starEach (e :: es) X.env)).all (fun x => !x.1) && (backToKw cpos (keywordEach [] X.env)).all (fun x => x.1.isSome)
      && decide ((e :: es).length + ([] : List Keyword).length + (if ([] : List Keyword).isEmpty then 0 else 1) < 30)) = true := by rfl)
    (hline : (apos.endLine == cpos.line) = true := by rfl) (hs : starEach (e :: es) X.env = (false, eval e X.env) :: starEach es X.env := by rfl) (hplain : (backTo cpos (starEach es X.env)).any (·.1) = false := by rfl) :
    DE X (.Call (.Attribute o name apos) (e :: es) [] cpos) (qMeth f q qa) := fun W tk => by
  obtain ⟨r, hr, hi⟩ := hm
  refine PE.imp (pe_bm PySem.F.plainAttrs_list slot hty hr (ho W tk) (ha W tk) hbase hfew hline hs hplain) fun σ H Q h => ?_
  obtain ⟨loc, S, P, E, rl, rep, hq, g, gx⟩ := h
  refine ⟨loc, S, _, E, rl, rep, hq, fun d S1 v H1 q1 k1 rep1 r1 => ?_, gx⟩
  cases d with
  | ref a =>
    obtain ⟨⟨xs, e1⟩, q1⟩ := q1
    rw [rv_ref r1]
    obtain ⟨us, f1, _⟩ := rep1 _ _ e1
    refine ⟨.inl ⟨rfl, us, SqL.of f1⟩, ?_⟩
    refine ⟨loc, S1, _, E, rl.keep k1, rep1, q1, fun ds S2 vs H2 q2 k2 rep2 r2 => ?_, gx.keep k1⟩
    obtain ⟨ys, e2, q2⟩ := q2
    obtain ⟨ws, f2, rw2⟩ := rep2 _ _ e2
    exact hi a ys ds S2 P H2 ws vs Q q2 rep2 e2 f2 rw2 r2 (g.keep (k1.trans k2))
  | _ => exact (show False from q1).elim
theorem de_meth0 {o : Expr} {q : QE} {f : QM} {name : Str} {apos cpos : Pos} (slot : Slot "list" name id) (hty : typeOf (.builtin id) = pure (.type "method_descriptor")) (hm : MDok X id f) (ho : DE X o q)
    (hbase : attributeBase o name X.env (eval o X.env) = eval o X.env := by rfl) (hline : (apos.endLine == cpos.line) = true := by rfl) : DE X (.Call (.Attribute o name apos) [] [] cpos) (qMeth0 f q) := fun W tk => by
  obtain ⟨r, hr, hi⟩ := hm
  refine PE.imp (pe_bm0 PySem.F.plainAttrs_list slot hty hr (ho W tk) hbase hline) fun σ H Q h => ?_
  obtain ⟨loc, S, P, E, rl, rep, hq, g, gx⟩ := h
  refine ⟨loc, S, _, E, rl, rep, hq, fun d S1 v H1 q1 k1 rep1 r1 => ?_, gx⟩
  cases d with
  | ref a =>
    obtain ⟨xs, e1, q1⟩ := q1
    rw [rv_ref r1]
    obtain ⟨us, f1, rw1⟩ := rep1 _ _ e1
    exact ⟨.inl ⟨rfl, us, SqL.of f1⟩, hi a xs [] S1 P H1 us [] Q q1 rep1 e1 f1 rw1 (RVs.nil_iff.mpr rfl) (g.keep k1)⟩
  | _ => exact (show False from q1).elim
def mAppend : QM := fun a xs ds S P => match ds with
  | [d] => xs.length < sizeLine ∧ P .non (ups S a (.lst (xs ++ [d])))
  | _ => False
theorem keepL {K : PySem.W.Frag} {H : Hp} {a : Addr} {us : List V} {o : HO} (h : H a = some (.lst us)) : Keep K H (upd H a o) := Keep.mut h (fun _ z => by cases z) (fun _ _ z => by cases z)
theorem md_append : MDok X "list.append" mAppend := by
  refine ⟨_, mt_append, fun a xs ds S P H us vs Q q rep e f rx rd go => ?_⟩
  unfold mAppend at q
  split at q
  · obtain ⟨v, rfl, rv⟩ := rvs_one rd
    refine ⟨a, us, v, rfl, rfl, f, by rw [← rx.length]; exact q.1, ?_⟩
    exact go _ _ _ _ q.2 (keepL f) (rep.setL f (rx.append (RVs.one rv))) rv_ofN
  · exact q.elim
theorem de_append {o : Expr} {q : QE} {apos cpos : Pos} (ho : DE X o q) (ha : DA X (e :: es) qa)
    (hbase : attributeBase o "append" X.env (eval o X.env) = eval o X.env := by rfl)
    (hfew : ((backTo cpos (starEach (e :: es) X.env)).all (fun x => !x.1) && (backToKw cpos (keywordEach [] X.env)).all (fun x => x.1.isSome)
      && decide ((e :: es).length + ([] : List Keyword).length + (if ([] : List Keyword).isEmpty then 0 else 1) < 30)) = true := by rfl)
    (hline : (apos.endLine == cpos.line) = true := by rfl) (hs : starEach (e :: es) X.env = (false, eval e X.env) :: starEach es X.env := by rfl) (hplain : (backTo cpos (starEach es X.env)).any (·.1) = false := by rfl) :
    DE X (.Call (.Attribute o "append" apos) (e :: es) [] cpos) (qMeth mAppend q qa) := de_meth PySem.F.slot_list_append PySem.F.type_list_append md_append ho ha hbase hfew hline hs hplain
end
end PL

namespace PL
open PySem PySem.Spec PyProof.Rows L2 -- the layers
section
variable {X : Cx} {W : WX} {σ : L2.St} {H : Hp}

/-! ## blocks, small statements -/
def sNext : QS := fun P loc S => P.nx loc S
def sSeq (t u : QS) : QS := fun P loc S => t { P with nx := fun loc' S' => u P loc' S' } loc S
theorem db_nil : DB X [] sNext := fun W _ => PSs.imp pss_nil fun D σ H h => by
  obtain ⟨loc, S, P, rl, rep, q, g⟩ := h
  exact g.nx _ _ _ _ q Keep.refl rl rep
theorem db_cons {st : Stmt} {rest : List Stmt} {t u : QS} (h1 : DS X st t) (h2 : DB X rest u) : DB X (st :: rest) (sSeq t u) := fun W tk => by
  refine PSs.imp (pss_cons (h1 W tk) (h2 W tk)) fun D σ H h => ?_
  obtain ⟨loc, S, P, rl, rep, q, g⟩ := h
  exact ⟨loc, S, { P with nx := fun loc' S' => u P loc' S' }, rl, rep, q, fun loc' S' σ' H' p k rl' rep' => ⟨loc', S', P, rl', rep', p, g.keep k⟩, g.rt, g.bk, g.ct, g.ex⟩
theorem db_one {st : Stmt} {t : QS} (h : DS X st t) : DB X [st] t := fun W tk => pss_one (h W tk)
def sBreak : QS := fun P loc S => P.bk loc S
def sCont : QS := fun P loc S => P.ct loc S
theorem ds_pass {pos : Pos} : DS X (.Pass pos) sNext := fun W _ => PS.imp ps_pass fun D σ H h => by
  obtain ⟨loc, S, P, rl, rep, q, g⟩ := h
  exact g.nx _ _ _ _ q Keep.refl rl rep
theorem ds_break {pos : Pos} : DS X (.Break pos) sBreak := fun W _ => PS.imp ps_break fun D σ H h => by
  obtain ⟨loc, S, P, rl, rep, q, g⟩ := h
  exact g.bk _ _ _ _ q Keep.refl rl rep
theorem ds_continue {pos : Pos} : DS X (.Continue pos) sCont := fun W _ => PS.imp ps_continue fun D σ H h => by
  obtain ⟨loc, S, P, rl, rep, q, g⟩ := h
  exact g.ct _ _ _ _ q Keep.refl rl rep
variable {e : Expr} {q : QE} {pos : Pos}
/-- an expression's exceptions leave the statement -/
theorem GoN.gx {K : PySem.W.Frag} {P : QN} {D : Ends} {loc : Loc} (g : GoN K H P D W) (rl : RL K H loc σ) : GoX K H σ (fun x S' => P.ex x loc S') W := fun x S' H' c d p k rep rx => g.ex x loc S' σ H' c d p k (rl.keep k) rep rx
def sDrop (q : QE) : QS := fun P loc S => q loc S (fun _ S1 => P.nx loc S1) fun x S1 => P.ex x loc S1
theorem ds_expr (he : DE X e q) (hs : swapsWith e none pos.line X.env = pure false := by rfl) : DS X (.Expr e pos) (sDrop q) := fun W tk => by
  refine PS.imp (ps_expr (he W tk) hs) fun D σ H h => ?_
  obtain ⟨loc, S, P, rl, rep, hq, g⟩ := h
  exact ⟨loc, S, _, _, rl, rep, hq, fun d S1 v H1 q1 k1 rep1 r1 => g.nx _ _ _ _ q1 k1 (rl.keep k1) rep1, g.gx rl⟩
def sRet (q : QE) : QS := fun P loc S => q loc S P.rt fun x S1 => P.ex x loc S1
theorem ds_ret (he : DE X e q) : DS X (.Return (some e) pos) (sRet q) := fun W tk => by
  refine PS.imp (ps_ret (he W tk)) fun D σ H h => ?_
  obtain ⟨loc, S, P, rl, rep, hq, g⟩ := h
  exact ⟨loc, S, _, _, rl, rep, hq, g.rt, g.gx rl⟩
def sRetN : QS := fun P _ S => P.rt .non S
theorem ds_retN : DS X (.Return none pos) sRetN := fun W _ => PS.imp ps_retN fun D σ H h => by
  obtain ⟨loc, S, P, rl, rep, hq, g⟩ := h
  exact g.rt.now hq rep rv_ofN
def sIf (c : QT) (t u : QS) : QS := fun P loc S => c loc S (fun b S1 => if b = true then t P loc S1 else u P loc S1) fun x S1 => P.ex x loc S1
theorem ds_if {c : Expr} {a b : List Stmt} {tc : QT} {t u : QS} (hc : DT X c tc) (ha : DB X a t) (hb : DB X b u) : DS X (.If c a b pos) (sIf tc t u) := fun W tk => by
  refine PS.imp (ps_if (hc W tk) (ha W tk) (hb W tk)) fun D σ H h => ?_
  obtain ⟨loc, S, P, rl, rep, hq, g⟩ := h
  refine ⟨loc, S, _, _, rl, rep, hq, fun b S1 H1 q1 k1 rep1 => ?_, g.gx rl⟩
  cases b with
  | true =>
    refine iteT ?_
    exact ⟨loc, S1, P, rl.keep k1, rep1, q1, g.keep k1⟩
  | false =>
    refine iteF ?_
    exact ⟨loc, S1, P, rl.keep k1, rep1, q1, g.keep k1⟩

/-! ## targets -/
abbrev QG := D → Loc → Sto → (Loc → Sto → Prop) → PX → Prop
abbrev QGs := List D → Loc → Sto → (Loc → Sto → Prop) → PX → Prop
def liftG (K : PySem.W.Frag) (W : WX) (q : QG) : TG := fun v σ H Q => ∃ d loc S P E, RV K H d v ∧ RL K H loc σ ∧ Rep K S H ∧ q d loc S P E ∧ GoL K H P Q ∧ GoX K H σ E W
def liftGs (K : PySem.W.Frag) (W : WX) (q : QGs) : TGs := fun vs σ H Q => ∃ ds loc S P E, RVs K H ds vs ∧ RL K H loc σ ∧ Rep K S H ∧ q ds loc S P E ∧ GoL K H P Q ∧ GoX K H σ E W
def DG (X : Cx) (t : Expr) (q : QG) : Prop := ∀ W, L2N.Takes X W → PG X t (liftG X.K W q)
def DGs (X : Cx) (ts : List Expr) (q : QGs) : Prop := ∀ W, L2N.Takes X W → PGs X ts (liftGs X.K W q)
theorem PG.imp {e : Expr} {t t' : TG} (h : PG X e t) (i : ∀ v σ H Q, t' v σ H Q → t v σ H Q) : PG X e t' := ⟨fun p s σ H v u Q I r q => h.run p s σ H v u Q I r (i _ _ _ _ q)⟩
theorem PGs.imp {e : List Expr} {t t' : TGs} (h : PGs X e t) (i : ∀ v σ H Q, t' v σ H Q → t v σ H Q) : PGs X e t' := ⟨fun p s σ H v u Q I r q => h.run p s σ H v u Q I r (i _ _ _ _ q)⟩
def gN (i : Nat) : QG := fun d loc S P _ => P (loc.set i (some d)) S
theorem dg_name {i : Nat} {x : Str} (hN : X.N.Nodup) (hi : X.N[i]? = some x) (hx : L2.Loc X.env.scope x) (hf : X.fn x = true ∨ X.env.scope.names.lookup x = some .local := by first | exact .inl rfl | exact .inr rfl | assumption) : DG X (.Name x pos) (gN i) := fun W _ => by
  refine PG.imp (pg_name hN hi hx hf) fun v σ H Q h => ?_
  obtain ⟨d, loc, S, P, E, rv, rl, rep, hq, g, _⟩ := h
  exact g _ _ _ _ hq Keep.refl (rl.set rv i) rep
def gE : QGs := fun ds loc S P _ => ds = [] ∧ P loc S
def gC (t : QG) (u : QGs) : QGs := fun ds loc S P E => match ds with
  | d :: r => t d loc S (fun loc' S' => u r loc' S' P fun _ _ => False) E
  | [] => False
theorem dgs_nil : DGs X [] gE := fun W _ => by
  refine PGs.imp pgs_nil fun v σ H Q h => ?_
  obtain ⟨ds, loc, S, P, E, rv, rl, rep, ⟨e, hq⟩, g, _⟩ := h
  subst e
  exact ⟨RVs.nil_iff.mp rv, g _ _ _ _ hq Keep.refl rl rep⟩
theorem dgs_cons {e : Expr} {es : List Expr} {t : QG} {u : QGs} (h1 : DG X e t) (h2 : DGs X es u)
    (hs : (assignEach (e :: es) X.env).map (·.2) = assign e X.env :: (assignEach es X.env).map (·.2) := by rfl) : DGs X (e :: es) (gC t u) := fun W tk => by
  refine PGs.imp (pgs_cons (h1 W tk) (h2 W tk) hs) fun v σ H Q h => ?_
  obtain ⟨ds, loc, S, P, E, rv, rl, rep, hq, g, gx⟩ := h
  cases ds with
  | nil => exact (show False from hq).elim
  | cons d r =>
    unfold RVs at rv
    obtain ⟨w, ws, e, r1, r2⟩ := rv
    refine ⟨w, ws, e, d, loc, S, _, E, r1, rl, rep, hq, fun loc' S' σ' H' p k rl' rep' => ?_, gx⟩
    exact ⟨r, loc', S', P, _, RVs.keep k _ _ r2, rl', rep', p, g.keep k, fun _ _ _ _ _ z => z.elim⟩
/-- a, b = a tuple -/
def gT (n : Nat) (t : QGs) : QG := fun d loc S P E => match d with
  | .tup xs => xs.length = n ∧ t xs loc S P E
  | _ => False
theorem dg_tup {es : List Expr} {k : Nat} {t : QGs} {n : Nat} (hc : X.calm = true) (h : DGs X es t)
    (hn : (assignEach es X.env).length = n := by rfl) (hst : (assignEach es X.env).findIdx? (·.1) = none := by rfl) : DG X (.Tuple es k pos) (gT n t) := fun W tk => by
  refine PG.imp (pg_tup hc (h W tk) hn hst) fun v σ H Q h => ?_
  obtain ⟨d, loc, S, P, E, rv, rl, rep, hq, g, gx⟩ := h
  cases d with
  | tup xs =>
    obtain ⟨a, vs, e, s, r⟩ := rv_tup rv
    exact ⟨a, vs, e, s, by rw [← r.length]; exact hq.1, xs, loc, S, P, E, r, rl, rep, hq.2, g, gx⟩
  | _ => exact (show False from hq).elim
/-- a, b = a list -/
def gL (n : Nat) (t : QGs) : QG := fun d loc S P E => ∃ xs, LsAt S d xs ∧ xs.length = n ∧ t xs loc S P E
theorem dg_lst {es : List Expr} {k : Nat} {t : QGs} {n : Nat} (hc : X.calm = true) (h : DGs X es t)
    (hn : (assignEach es X.env).length = n := by rfl) (hst : (assignEach es X.env).findIdx? (·.1) = none := by rfl) : DG X (.Tuple es k pos) (gL n t) := fun W tk => by
  refine PG.imp (pg_lst hc (h W tk) hn hst) fun v σ H Q h => ?_
  obtain ⟨d, loc, S, P, E, rv, rl, rep, ⟨xs, l, hz, hq⟩, g, gx⟩ := h
  obtain ⟨a, vs, e, s, r⟩ := l.sq rep rv
  exact ⟨a, vs, e, s, by rw [← r.length]; exact hz, xs, loc, S, P, E, r, rl, rep, hq, g, gx⟩
/-- o[i] = .. of a list -/
def gS (qo qi : QE) : QG := fun d loc S P E => qo loc S (fun o S1 => qi loc S1 (fun i S2 => match o, i with
  | .ref a, .int k => ∃ xs j, S2 a = some (.lst xs) ∧ ixN xs.length k = some j ∧ P loc (ups S2 a (.lst (xs.set j d)))
  | _, _ => False) E) E
theorem dg_sub {o i : Expr} {qo qi : QE} (ho : DE X o qo) (hi : DE X i qi)
    (ha : ∀ v, assign (.Subscript o i pos) X.env v = (do
      let ov ← holding [v] (eval o X.env)
      let iv ← holding [v, ov] (eval i X.env)
      standAt pos
      holding [v, ov, iv] (setItem ov iv v)
      release [v, ov, iv] []) := by intro _; rfl) : DG X (.Subscript o i pos) (gS qo qi) := fun W tk => by
  refine PG.imp (pg_sub (ho W tk) (hi W tk) set_list ha) fun v σ H Q h => ?_
  obtain ⟨d, loc, S, P, E, rv, rl, rep, hq, g, gx⟩ := h
  refine ⟨loc, S, _, E, rl, rep, hq, fun x S1 vx H1 q1 k1 rep1 r1 => ?_, gx⟩
  refine ⟨loc, S1, _, E, rl.keep k1, rep1, q1, fun y S2 vy H2 q2 k2 rep2 r2 => ?_, gx.keep k1⟩
  cases x <;> first | exact (show False from q2).elim | skip
  cases y <;> first | exact (show False from q2).elim | skip
  rename_i a k
  obtain ⟨xs, j, e1, e2, p⟩ := q2
  obtain ⟨us, f1, ru⟩ := rep2 _ _ e1
  refine ⟨a, us, k, j, rv_ref r1, rv_int r2, f1, by rw [← ru.length]; exact e2, ?_⟩
  have kk := k1.trans (k2.trans (keepL (o := .lst (us.set j v)) f1))
  exact g _ _ _ _ p kk (rl.keep kk) (rep2.setL f1 (RVs.set (RV.keep (k1.trans k2) _ _ rv) j ru))
def sAsg (q : QE) (g : QG) : QS := fun P loc S => q loc S (fun d S1 => g d loc S1 P.nx fun x S2 => P.ex x loc S2) fun x S1 => P.ex x loc S1
theorem ds_asg {tg : Expr} {g : QG} (he : DE X e q) (hg : DG X tg g) (hs : swapsWithSole [tg] e pos.line X.env = pure false := by rfl) (hw : swappedStores [tg] e X.env = pure none := by rfl)
    (h1 : (assignEach [tg] X.env).map (·.2) = [assign tg X.env] := by rfl) : DS X (.Assign [tg] e pos) (sAsg q g) := fun W tk => by
  refine PS.imp (ps_asg (he W tk) (hg W tk) hs hw h1) fun D σ H h => ?_
  obtain ⟨loc, S, P, rl, rep, hq, go⟩ := h
  refine ⟨loc, S, _, _, rl, rep, hq, fun d S1 v H1 q1 k1 rep1 r1 => ?_, go.gx rl⟩
  exact ⟨d, loc, S1, _, _, r1, rl.keep k1, rep1, q1, go.nx.keep k1, (go.keep k1).gx (rl.keep k1)⟩
def sSet (i : Nat) (q : QE) : QS := fun P loc S => q loc S (fun d S1 => P.nx (loc.set i (some d)) S1) fun x S1 => P.ex x loc S1
theorem ds_set {i : Nat} {x : Str} {pos' : Pos} (hN : X.N.Nodup) (hi : X.N[i]? = some x) (hx : L2.Loc X.env.scope x) (he : DE X e q) (hs : swapsWith e (some (.Name x pos')) pos.line X.env = pure false := by rfl) (hf : X.fn x = true ∨ X.env.scope.names.lookup x = some .local := by first | exact .inl rfl | exact .inr rfl | assumption) :
    DS X (.Assign [.Name x pos'] e pos) (sSet i q) := fun W tk => by
  refine PS.imp (ps_set hN hi hx (he W tk) hs hf) fun D σ H h => ?_
  obtain ⟨loc, S, P, rl, rep, hq, g⟩ := h
  exact ⟨loc, S, _, _, rl, rep, hq, fun d S1 v H1 q1 k1 rep1 r1 => g.nx _ _ _ _ q1 k1 ((rl.keep k1).set r1 i) rep1, g.gx rl⟩
/-- a, b = x, y of local names -/
def sPar (i j : Nat) (qa : QA) : QS := fun P loc S => qa loc S (fun ds S1 => match ds with
  | [d, d'] => P.nx ((loc.set i (some d)).set j (some d')) S1
  | _ => False) fun x S1 => P.ex x loc S1
theorem ds_par {i j : Nat} {x y : Str} {a b : Expr} {qa : QA} {px py pt : Pos} {kt k2 pt2} (hc : X.calm = true) (hN : X.N.Nodup) (hi : X.N[i]? = some x) (hj : X.N[j]? = some y) (hij : i ≠ j)
    (hx : X.env.scope.names.lookup x = some .local) (hy : X.env.scope.names.lookup y = some .local) (ha : DA X [a, b] qa)
    (hw : swappedStores [.Tuple [.Name x px, .Name y py] kt pt] (.Tuple [a, b] k2 pt2) X.env = pure (some [x, y]))
    (hs : swapsWithSole [.Tuple [.Name x px, .Name y py] kt pt] (.Tuple [a, b] k2 pt2) pos.line X.env = pure false := by rfl) :
    DS X (.Assign [.Tuple [.Name x px, .Name y py] kt pt] (.Tuple [a, b] k2 pt2) pos) (sPar i j qa) := fun W tk => by
  refine PS.imp (ps_par hc hN hi hj hij hx hy (ha W tk) hw hs) fun D σ H h => ?_
  obtain ⟨loc, S, P, rl, rep, hq, g⟩ := h
  refine ⟨loc, S, _, _, rl, rep, hq, fun ds S1 vs H1 q1 k1 rep1 r1 => ?_, g.gx rl⟩
  dsimp only at q1
  split at q1
  · obtain ⟨v, w, e, r2, r3⟩ := rvs_two r1
    exact ⟨v, w, e, g.nx _ _ _ _ q1 k1 (((rl.keep k1).set r2 i).set r3 j) rep1⟩
  · exact q1.elim

/-! ## while -/
def sWhile (c : QT) (tb : QS) : QS := fun P loc S => ∃ V : Nat → Loc → Sto → Prop, (∃ m, V m loc S) ∧ ∀ m loc S, V m loc S →
  c loc S (fun b S1 => if b = true then tb { P with nx := fun loc' S' => ∃ m', m' < m ∧ V m' loc' S', ct := fun loc' S' => ∃ m', m' < m ∧ V m' loc' S', bk := P.nx } loc S1 else P.nx loc S1) fun x S1 => P.ex x loc S1
theorem ds_while {c : Expr} {body : List Stmt} {tc : QT} {tb : QS} (hp : PassesOwn (model X.prog X.w) X.A X.env X.xe) (hc : DT X c tc) (hb : DB X body tb) : DS X (.While c body [] pos) (sWhile tc tb) := fun W tk => by
  refine PS.imp (ps_while hp (hc W tk) (hb W tk)) fun D σ H h => ?_
  obtain ⟨loc, S, P, rl, rep, ⟨V, ⟨m0, v0⟩, turn⟩, g⟩ := h
  refine ⟨fun m σ' H' => ∃ loc' S', Keep X.K H H' ∧ RL X.K H' loc' σ' ∧ Rep X.K S' H' ∧ V m loc' S', ⟨m0, loc, S, Keep.refl, rl, rep, v0⟩, ?_⟩
  rintro m σ1 H1 ⟨loc1, S1, k1, rl1, rep1, v1⟩
  have g1 := g.keep k1
  refine ⟨loc1, S1, _, _, rl1, rep1, turn m loc1 S1 v1, fun b S2 H2 q2 k2 rep2 => ?_, g1.gx rl1⟩
  have rl2 := rl1.keep k2
  have g2 := g1.keep k2
  cases b with
  | false =>
    refine iteF ?_
    exact g2.nx _ _ _ _ q2 Keep.refl rl2 rep2
  | true =>
    refine iteT ⟨fun σ' H' => ∃ m', m' < m ∧ ∃ loc' S', Keep X.K H H' ∧ RL X.K H' loc' σ' ∧ Rep X.K S' H' ∧ V m' loc' S', fun σ' H' ⟨m', hm, z⟩ => ⟨m', hm, z⟩, ?_⟩
    have go : GoL X.K H2 (fun loc' S' => ∃ m', m' < m ∧ V m' loc' S') fun σ' H' => ∃ m', m' < m ∧ ∃ loc' S', Keep X.K H H' ∧ RL X.K H' loc' σ' ∧ Rep X.K S' H' ∧ V m' loc' S' :=
      fun loc' S' σ' H' ⟨m', hm, v⟩ k rl' rep' => ⟨m', hm, loc', S', k1.trans (k2.trans k), rl', rep', v⟩
    exact ⟨loc1, S2, { P with nx := fun loc' S' => ∃ m', m' < m ∧ V m' loc' S', ct := fun loc' S' => ∃ m', m' < m ∧ V m' loc' S', bk := P.nx }, rl2, rep2, q2, go, g2.rt, g2.nx, go, g2.ex⟩

/-! ## what is walked -/
/-- items; where they stand in a list that may be written, that list -/
inductive Src where
  | vals (xs : List D)
  | live (a : Addr) (xs : List D)
  | on (c : Sto → Prop) (xs : List D)
def Src.items : Src → List D
  | .vals xs => xs
  | .live _ xs => xs
  | .on _ xs => xs
def Src.ok (S : Sto) : Src → Prop
  | .vals _ => True
  | .live a xs => S a = some (.lst xs)
  | .on c _ => c S
/-- the iterator J of the hand layer yields the source's items -/
structure ItRel (K : PySem.W.Frag) (H : Hp) (src : Src) (J : It) : Prop where
  go : ∀ i d S' H', src.items[i]? = some d → src.ok S' → Keep K H H' → Rep K S' H' → J.go i H'
  stop : ∀ i S' H', src.items.length = i → src.ok S' → Keep K H H' → Rep K S' H' → J.stop i H'
  yld : ∀ i d S' H' x H2, src.items[i]? = some d → src.ok S' → Keep K H H' → Rep K S' H' → J.yld i H' x H2 → Keep K H' H2 ∧ Rep K S' H2 ∧ RV K H2 d x
abbrev QI := Loc → Sto → (Src → Sto → Prop) → PX → Prop
def liftI (K : PySem.W.Frag) (W : WX) (q : QI) : TI := fun σ H R => ∃ loc S P E, RL K H loc σ ∧ Rep K S H ∧ q loc S P E ∧ (∀ src S' H' J, P src S' → Keep K H H' → Rep K S' H' → ItRel K H' src J → R J H') ∧ GoX K H σ E W
def DI (X : Cx) (tg iter : Expr) (q : QI) : Prop := ∀ W, L2N.Takes X W → PI X tg iter (liftI X.K W q)
theorem PI.imp {tg e : Expr} {t t' : TI} (h : PI X tg e t) (i : ∀ σ H Q, t' σ H Q → t σ H Q) : PI X tg e t' := ⟨fun p s σ H R I q => h.run p s σ H R I (i _ _ _ q)⟩
theorem rel_live {K : PySem.W.Frag} {a : Addr} {xs : List D} : ItRel K H (.live a xs) (Itl K a) where
  go := fun i d S' H' hi ok k rep => by
    obtain ⟨vs, e, r⟩ := rep a _ ok
    obtain ⟨v, e2, _⟩ := RVs.get r hi
    exact ⟨vs, v, SqL.of e, e2⟩
  stop := fun i S' H' hi' ok k rep => have hi := Nat.le_of_eq hi'; by
    obtain ⟨vs, e, r⟩ := rep a _ ok
    exact ⟨vs, SqL.of e, by rw [← r.length]; exact hi⟩
  yld := fun i d S' H' x H2 hi ok k rep y => by
    obtain ⟨e1, y⟩ := y
    subst e1
    obtain ⟨vs, e, r⟩ := rep a _ ok
    obtain ⟨v, e2, rv⟩ := RVs.get r hi
    have e3 := y vs (SqL.of e)
    rw [e2] at e3
    cases e3
    exact ⟨Keep.refl, rep, rv⟩
/-- the items of a tuple, of a list that nobody writes -/
theorem rel_tup {K : PySem.W.Frag} {a : Addr} {xs : List D} {vs : List V} (s : SqT K H a vs) (r : RVs K H xs vs) : ItRel K H (.vals xs) (Itt K a) where
  go := fun i d S' H' hi ok k rep => by
    obtain ⟨v, e2, _⟩ := RVs.get r hi
    exact ⟨vs, v, k.tup _ _ s, e2⟩
  stop := fun i S' H' hi' ok k rep => have hi := Nat.le_of_eq hi'; ⟨vs, k.tup _ _ s, by rw [← r.length]; exact hi⟩
  yld := fun i d S' H' x H2 hi ok k rep y => by
    obtain ⟨e1, y⟩ := y
    subst e1
    obtain ⟨v, e2, rv⟩ := RVs.get r hi
    have e3 := y vs (k.tup _ _ s)
    rw [e2] at e3
    cases e3
    exact ⟨Keep.refl, rep, RV.keep k _ _ rv⟩
theorem rel_rol {K : PySem.W.Frag} {a : Addr} {xs : List D} {vs : List V} (s : Rol K H a vs) (r : RVs K H xs vs) : ItRel K H (.vals xs) (Itl K a) where
  go := fun i d S' H' hi ok k rep => by
    obtain ⟨v, e2, _⟩ := RVs.get r hi
    exact ⟨vs, v, (k.rol s).sq, e2⟩
  stop := fun i S' H' hi' ok k rep => have hi := Nat.le_of_eq hi'; ⟨vs, (k.rol s).sq, by rw [← r.length]; exact hi⟩
  yld := fun i d S' H' x H2 hi ok k rep y => by
    obtain ⟨e1, y⟩ := y
    subst e1
    obtain ⟨v, e2, rv⟩ := RVs.get r hi
    have e3 := y vs (k.rol s).sq
    rw [e2] at e3
    cases e3
    exact ⟨Keep.refl, rep, RV.keep k _ _ rv⟩
def chars (z : Str) : List D := z.cps.toList.map fun c => D.str ⟨#[c]⟩
theorem rel_str {K : PySem.W.Frag} {z : Str} : ItRel K H (.vals (chars z)) (Its z) where
  go := fun i d S' H' hi ok k rep => by
    have h := (List.getElem?_eq_some_iff.mp hi).1
    have h2 : i < z.cps.toList.length := by simpa [Src.items, chars] using h
    show i < z.cps.size
    simpa using h2
  stop := fun i S' H' hi' ok k rep => have hi := Nat.le_of_eq hi'; by
    have h2 : z.cps.toList.length ≤ i := by simpa [Src.items, chars] using hi
    show z.cps.size ≤ i
    simpa using h2
  yld := fun i d S' H' x H2 hi ok k rep y => by
    obtain ⟨e1, c, e2, e3⟩ := y
    subst e1 e3
    have h2 : (z.cps.toList.map fun c => D.str ⟨#[c]⟩)[i]? = some d := hi
    rw [List.getElem?_map, Array.getElem?_toList, e2] at h2
    cases h2
    exact ⟨Keep.refl, rep, rv_ofS⟩
def rangeD (lo : Int) (n : Nat) : List D := (List.range n).map fun (i : Nat) => D.int (lo + (i : Int))
theorem rel_range {K : PySem.W.Frag} {lo : Int} {n : Nat} : ItRel K H (.vals (rangeD lo n)) (Itr lo n) where
  go := fun i d S' H' hi ok k rep => by
    have h := (List.getElem?_eq_some_iff.mp hi).1
    have h2 : i < n := by simpa [Src.items, rangeD] using h
    exact h2
  stop := fun i S' H' hi' ok k rep => have hi := Nat.le_of_eq hi'; by
    have h2 : n ≤ i := by simpa [Src.items, rangeD] using hi
    exact h2
  yld := fun i d S' H' x H2 hi ok k rep y => by
    obtain ⟨e1, e2⟩ := y
    subst e1 e2
    have h := (List.getElem?_eq_some_iff.mp hi).1
    have h1 : i < n := by simpa [Src.items, rangeD] using h
    have h2 : ((List.range n).map fun (i : Nat) => D.int (lo + (i : Int)))[i]? = some d := hi
    rw [List.getElem?_map, List.getElem?_range h1] at h2
    cases h2
    exact ⟨Keep.refl, rep, rv_ofI⟩
/-- any sequence: a list, a tuple, a text -/
def iSeq (q : QE) : QI := fun loc S P E => q loc S (fun d S1 => match d with
  | .tup xs => P (.vals xs) S1
  | .rol xs => P (.vals xs) S1
  | .str z => P (.vals (chars z)) S1
  | .ref a => ∃ xs, S1 a = some (.lst xs) ∧ P (.live a xs) S1
  | _ => False) E
/-- the three walks of the hand layer over a value that is there -/
def tAny (t : TE) (K : PySem.W.Frag) : TI := fun σ H R => t σ H fun x H1 => (∃ a, x = .ref a ∧ (∃ xs, SqL K H1 a xs) ∧ R (Itl K a) H1) ∨ (∃ a, x = .ref a ∧ (∃ xs, SqT K H1 a xs) ∧ R (Itt K a) H1) ∨ ∃ z, x = .str z ∧ R (Its z) H1
theorem pi_any {tg : Expr} {t : TE} (he : PE X e t) : PI X tg e (tAny t X.K) := by
  refine ⟨fun pins s σ H R I h => ?_⟩
  refine thn (he.run pins s σ H _ I h) fun v s1 ⟨x, H1, I1, r1, q1⟩ => ?_
  rcases q1 with ⟨a, e, ⟨xs, hq⟩, q⟩ | ⟨a, e, ⟨xs, hq⟩, q⟩ | ⟨z, e, q⟩
  · subst e
    cases r1
    obtain ⟨its, rv, p, _⟩ := I1.list hq
    exact wpAny_pyIter_list p.isList (pi_one (tk := s1.toks) I1 _ (turn_list a _) ⟨_, Heap.get?_push_size _ rfl, rfl, rfl⟩ q)
  · subst e
    cases r1
    obtain ⟨its, rv, p, _⟩ := I1.tuple hq
    exact wpAny_pyIter_tuple (show s1.heap.IsTuple a its.toArray from p) (pi_one (tk := s1.toks) I1 _ (turn_tuple a _) ⟨_, Heap.get?_push_size _ rfl, rfl, rfl⟩ q)
  · subst e
    obtain ⟨tk, rfl⟩ := r1
    cases ha : z.cps.all (· < 128)
    · exact wpAny_pyIter_wide ha (pi_one (tk := s1.toks) I1 _ (turn_str _ z tk "str_iterator" (.inr rfl)) ⟨_, Heap.get?_push_size _ rfl, rfl, rfl⟩ q)
    · exact wpAny_pyIter_ascii ha (pi_one (tk := s1.toks) I1 _ (turn_str _ z tk "str_ascii_iterator" (.inl rfl)) ⟨_, Heap.get?_push_size _ rfl, rfl, rfl⟩ q)
theorem di_seq {tg : Expr} (he : DE X e q) : DI X tg e (iSeq q) := fun W tk => by
  refine PI.imp (pi_any (he W tk)) fun σ H R h => ?_
  obtain ⟨loc, S, P, E, rl, rep, hq, g, gx⟩ := h
  refine ⟨loc, S, _, E, rl, rep, hq, fun d S1 v H1 q1 k1 rep1 r1 => ?_, gx⟩
  cases d with
  | tup xs =>
    obtain ⟨a, vs, e, s, r⟩ := rv_tup r1
    exact .inr (.inl ⟨a, e, ⟨vs, s⟩, g _ _ _ _ q1 k1 rep1 (rel_tup s r)⟩)
  | rol xs =>
    unfold RV at r1
    obtain ⟨a, vs, e, s, r⟩ := r1
    exact .inl ⟨a, e, ⟨vs, s.sq⟩, g _ _ _ _ q1 k1 rep1 (rel_rol s r)⟩
  | str z => exact .inr (.inr ⟨z, rv_str r1, g _ _ _ _ q1 k1 rep1 rel_str⟩)
  | ref a =>
    obtain ⟨xs, e1, q1⟩ := q1
    obtain ⟨vs, s, r⟩ := rep1 _ _ e1
    exact .inl ⟨a, rv_ref r1, ⟨vs, SqL.of s⟩, g _ _ _ _ q1 k1 rep1 rel_live⟩
  | _ => exact (show False from q1).elim
def iRange1 (qa : QA) : QI := fun loc S P E => qa loc S (fun ds S1 => match ds with
  | [.int j] => -(2 ^ 62) ≤ j ∧ j < 2 ^ 62 ∧ P (.vals (rangeD 0 j.toNat)) S1
  | _ => False) E
def iRange2 (qa : QA) : QI := fun loc S P E => qa loc S (fun ds S1 => match ds with
  | [.int i, .int j] => (-(2 ^ 62) ≤ i ∧ i < 2 ^ 62 ∧ -(2 ^ 62) ≤ j ∧ j < 2 ^ 62) ∧ P (.vals (rangeD i (j - i).toNat)) S1
  | _ => False) E
theorem di_range1 {tg a : Expr} {qa : QA} {p : Pos} (hg : Gl X "range") (hm : X.mg "range" = none) (ha : DA X [a] qa) (hs : starEach [a] X.env = [(false, eval a X.env)] := by rfl) : DI X tg (.Call (.Name "range" p) [a] [] pos) (iRange1 qa) := fun W tk => by
  refine PI.imp (pi_range1 hg hm (ha W tk) hs) fun σ H R h => ?_
  obtain ⟨loc, S, P, E, rl, rep, hq, g, gx⟩ := h
  refine ⟨loc, S, _, E, rl, rep, hq, fun ds S1 vs H1 q1 k1 rep1 r1 => ?_, gx⟩
  dsimp only at q1
  split at q1
  · obtain ⟨v, e, r2⟩ := rvs_one r1
    exact ⟨_, by rw [e, rv_int r2], q1.1, q1.2.1, g _ _ _ _ q1.2.2 k1 rep1 rel_range⟩
  · exact q1.elim
theorem di_range2 {tg a b : Expr} {qa : QA} {p : Pos} (hg : Gl X "range") (hm : X.mg "range" = none) (ha : DA X [a, b] qa) (hs : starEach [a, b] X.env = [(false, eval a X.env), (false, eval b X.env)] := by rfl) (hs2 : starEach [b] X.env = [(false, eval b X.env)] := by rfl) :
    DI X tg (.Call (.Name "range" p) [a, b] [] pos) (iRange2 qa) := fun W tk => by
  refine PI.imp (pi_range2 hg hm (ha W tk) hs hs2) fun σ H R h => ?_
  obtain ⟨loc, S, P, E, rl, rep, hq, g, gx⟩ := h
  refine ⟨loc, S, _, E, rl, rep, hq, fun ds S1 vs H1 q1 k1 rep1 r1 => ?_, gx⟩
  dsimp only at q1
  split at q1
  · obtain ⟨v, w, e, r2, r3⟩ := rvs_two r1
    exact ⟨_, _, by rw [e, rv_int r2, rv_int r3], q1.1, g _ _ _ _ q1.2 k1 rep1 rel_range⟩
  · exact q1.elim

/-! ## for -/
def sFor (it : QI) (g : QG) (tb : QS) : QS := fun P loc S => it loc S (fun src S1 => ∃ V : Nat → Loc → Sto → Prop, V 0 loc S1 ∧
  (∀ i d loc S, src.items[i]? = some d → V i loc S → src.ok S ∧ g d loc S (fun loc' S' => tb { P with nx := V (i + 1), ct := V (i + 1), bk := P.nx } loc' S') fun x S' => P.ex x loc S') ∧
  ∀ loc S, V src.items.length loc S → src.ok S ∧ P.nx loc S) fun x S1 => P.ex x loc S1
theorem ds_for {tg iter : Expr} {body : List Stmt} {it : QI} {g : QG} {tb : QS} (hp : PassesOwn (model X.prog X.w) X.A X.env X.xe) (hc : X.calm = true) (hi : DI X tg iter it) (hg : DG X tg g) (hb : DB X body tb)
    (hs : ∀ x, foldedSetIterable iter X.env x = pure x := by intro _; rfl) : DS X (.For tg iter body [] pos) (sFor it g tb) := fun W tk => by
  refine PS.imp (ps_for hp hc (hi W tk) (hg W tk) (hb W tk) hs) fun D σ H h => ?_
  obtain ⟨loc, S, P, rl, rep, hq, go⟩ := h
  refine ⟨loc, S, _, _, rl, rep, hq, fun src S1 H1 J q1 k1 rep1 rel => ?_, go.gx rl⟩
  obtain ⟨V, v0, turn, done⟩ := q1
  refine ⟨fun i m σ' H' => m = src.items.length - i ∧ i ≤ src.items.length ∧ ∃ loc' S', Keep X.K H1 H' ∧ RL X.K H' loc' σ' ∧ Rep X.K S' H' ∧ V i loc' S', ⟨src.items.length, by simp, Nat.zero_le _, loc, S1, Keep.refl, rl.keep k1, rep1, v0⟩, ?_⟩
  rintro i m σ2 H2 ⟨rfl, hle, loc2, S2, k2, rl2, rep2, v2⟩
  have go2 := go.keep (k1.trans k2)
  by_cases hlt : i < src.items.length
  · have hd : src.items[i]? = some src.items[i] := List.getElem?_eq_getElem hlt
    obtain ⟨ok, t⟩ := turn i _ loc2 S2 hd v2
    refine .inr ⟨rel.go i _ S2 H2 hd ok k2 rep2, fun σ' H' => ∃ loc' S', Keep X.K H1 H' ∧ RL X.K H' loc' σ' ∧ Rep X.K S' H' ∧ V (i + 1) loc' S', fun σ' H' z => ⟨src.items.length - (i + 1), by omega, rfl, hlt, z⟩, fun x H3 y => ?_⟩
    obtain ⟨k3, rep3, rv3⟩ := rel.yld i _ S2 H2 x H3 hd ok k2 rep2 y
    have rl3 := rl2.keep k3
    have go3 := go2.keep k3
    refine ⟨src.items[i], loc2, S2, _, _, rv3, rl3, rep3, t, fun loc4 S4 σ4 H4 q4 k4 rl4 rep4 => ?_, go3.gx rl3⟩
    have go4 := go3.keep k4
    have again : GoL X.K H4 (V (i + 1)) fun σ' H' => ∃ loc' S', Keep X.K H1 H' ∧ RL X.K H' loc' σ' ∧ Rep X.K S' H' ∧ V (i + 1) loc' S' :=
      fun loc' S' σ' H' v k rl' rep' => ⟨loc', S', k2.trans (k3.trans (k4.trans k)), rl', rep', v⟩
    exact ⟨loc4, S4, { P with nx := V (i + 1), ct := V (i + 1), bk := P.nx }, rl4, rep4, q4, again, go4.rt, go4.nx, again, go4.ex⟩
  · have e : i = src.items.length := by omega
    subst e
    obtain ⟨ok, n⟩ := done loc2 S2 v2
    exact .inl ⟨rel.stop _ S2 H2 rfl ok k2 rep2, go2.nx _ _ _ _ n Keep.refl rl2 rep2⟩
end
end PL

namespace PL
open PySem PySem.Spec PyProof.Rows L2 -- the layers

/-! ## defs and their promises -/
/-- a def that keeps its promise in every run in which no guard of repr stands -/
structure FnG (P : Program) (w : World) (K : PySem.W.Frag) (mg : Str → Option Value) (base : Heap) (k : Nat) (f : Addr) (fd : FuncData) (ps : List Str) (sp : QF) : Prop where
  len : ∀ ds S Q E, sp ds S Q E → ds.length = ps.length
  run : ∀ (A : Around) (outer : List Env) (s : Shared) (H : Hp) (args : Args) (us : List Value) (vs : List V) (Q : VK) (E : XK), Room k A → A.guards = some [] → Env0 P w K mg base A outer s H → BindsTo s fd args (ps.zip us) → Vals vs us → liftF K sp vs H Q E →
    codeAny (model P w) A (.call (.ref f) args) (CR (L2N.CX P w) outer P w H s Q E) s
abbrev FnP (P : Program) (w : World) (K : PySem.W.Frag) (mg : Str → Option Value) (base : Heap) (k : Nat) (f : Addr) (fd : FuncData) (ps : List Str) (sp : QF) : Prop := FnOk P w K mg base (L2N.CX P w) k f fd ps (liftF K sp)
section
variable {P : Program} {w : World} {K : PySem.W.Frag} {mg : Str → Option Value} {base : Heap} {k j : Nat} {f : Addr} {fd : FuncData} {ps : List Str} {sp : QF}
theorem FnG.mono (F : FnG P w K mg base j f fd ps sp) (h : j ≤ k) : FnG P w K mg base k f fd ps sp := ⟨F.len, fun A outer s H args us vs Q E hr => F.run A outer s H args us vs Q E (hr.mono h)⟩
theorem startD_len {N : List Str} {ds : List D} {vs : List V} {H : Hp} (r : RVs K H ds vs) : RL K H (ds.map some ++ List.replicate (N.length - ds.length) none) (L2.start N vs) := by
  have hl := r.length
  refine ⟨by simp [L2.start, hl], fun i d h => ?_⟩
  by_cases hi : i < ds.length
  · rw [List.getElem?_append_left (by simpa using hi)] at h
    rw [List.getElem?_map] at h
    cases e : ds[i]? with
    | none => rw [e] at h; cases h
    | some x =>
      rw [e] at h
      have ex : x = d := Option.some.inj (Option.some.inj h)
      subst ex
      obtain ⟨v, e1, e2⟩ := RVs.get r e
      refine ⟨v, ?_, e2⟩
      unfold L2.start
      rw [List.getElem?_append_left (by simpa [← hl] using hi), List.getElem?_map, e1]
      rfl
  · rw [List.getElem?_append_right (by simpa using hi)] at h
    have := List.mem_of_getElem? h
    simp at this
def startD (N : List Str) (ds : List D) : Loc := ds.map some ++ List.replicate (N.length - ds.length) none
/-- what a body is to reach: what is known at its end may be forgotten -/
def endsF (P : PD) (E : PX) : QN where
  nx := fun _ S => ∃ S2, Sub S2 S ∧ P .non S2
  rt := fun d S => ∃ S2, Sub S2 S ∧ P d S2
  bk := fun _ _ => False
  ct := fun _ _ => False
  ex := fun x _ S => ∃ S2, Sub S2 S ∧ E x S2
theorem endsF_go {H : Hp} {Pd : PD} {PE : PX} {Q : VK} {E : XK} (g : GoD K H Pd Q) (gx : ∀ x S' H' c d, PE x S' → Keep K H H' → Rep K S' H' → RX K H' x c d → E c d H') :
    GoN K H (endsF Pd PE) { nx := fun _ H' => Q .non H', rt := Q } fun c d _ H' => E c d H' where
  nx := fun _ S' _ H' ⟨S2, s, p⟩ k _ rep => g .non S2 .non H' p k (rep.sub s) rv_ofN
  rt := fun d S' v H' ⟨S2, s, p⟩ k rep r => g d S2 v H' p k (rep.sub s) r
  bk := fun _ _ _ _ z => z.elim
  ct := fun _ _ _ _ z => z.elim
  ex := fun x _ S' _ H' c d ⟨S2, s, p⟩ k _ rep rx => gx x S2 H' c d p k (rep.sub s) rx
/-- THE RULE for a def: the derivation of its body, its pure reading -/
theorem FunD.pure {x qual : Str} {params : Arguments} {body : List Stmt} {scope : Scope} {kws : List (Str × V)} {N : List Str} {q : QS} (F : FunD K x qual params body scope [] kws f fd) (S : FnScope N ps scope)
    (hbody : ∀ (cdv : Value) (A : Around) (outer : List Env) (s : Shared) (H : Hp) (E : XK), Room k (A.deeper (envOfC qual scope s.heap.objs.size f cdv)) → DB (cxOf (L2N.CX P w) P w K mg base N qual scope f cdv A outer s H E) body q)
    (len : ∀ ds S Q E, sp ds S Q E → ds.length = ps.length) (spec : ∀ ds S Q E, sp ds S Q E → q (endsF Q E) (startD N ds) S) : FnP P w K mg base (k + 1) f fd ps sp := by
  refine F.ok S (fun vs H Q E h => ?_) fun cdv A outer s H vs Q E hr h => ?_
  · obtain ⟨ds, St, Pd, PE, r, _, h, _⟩ := h
    rw [← r.length, len _ _ _ _ h]
  · obtain ⟨ds, St, Pd, PE, r, rep, h, g, gx⟩ := h
    refine ⟨_, hbody cdv A outer s H E hr (fun c d _ H' => E c d H') (L2N.takes_of rfl rfl rfl rfl), ?_⟩
    exact ⟨startD N ds, St, endsF Pd PE, startD_len r, rep, spec _ _ _ _ h, endsF_go g gx⟩
/-- .. for a def that wants no guard of repr around -/
theorem FunD.pureG {x qual : Str} {params : Arguments} {body : List Stmt} {scope : Scope} {kws : List (Str × V)} {N : List Str} {q : QS} (F : FunD K x qual params body scope [] kws f fd) (S : FnScope N ps scope)
    (hbody : ∀ (cdv : Value) (A : Around) (outer : List Env) (s : Shared) (H : Hp) (E : XK), Room k (A.deeper (envOfC qual scope s.heap.objs.size f cdv)) → (A.deeper (envOfC qual scope s.heap.objs.size f cdv)).guards = some [] → DB (cxOf (L2N.CX P w) P w K mg base N qual scope f cdv A outer s H E) body q)
    (len : ∀ ds S Q E, sp ds S Q E → ds.length = ps.length) (spec : ∀ ds S Q E, sp ds S Q E → q (endsF Q E) (startD N ds) S) : FnG P w K mg base (k + 1) f fd ps sp := by
  refine ⟨len, fun A outer s H args us vs Q E hr hG e0 hb r h => ?_⟩
  obtain ⟨oc, od, dV, kV, doc, pm, an, cdv, ct, osl, rfl, lk, hcd, _, _⟩ := F.ex
  obtain ⟨ds, St, Pd, PE, rv, rep, h, g, gx⟩ := h
  refine LamX.run_ofS lk hcd S hr e0 hb r (by rw [← rv.length, len _ _ _ _ h]) fun hr' => ?_
  refine ⟨_, hbody cdv A outer s H E hr' (by exact hG) (fun c d _ H' => E c d H') (L2N.takes_of rfl rfl rfl rfl), ?_⟩
  exact ⟨startD N ds, St, endsF Pd PE, startD_len rv, rep, spec _ _ _ _ h, endsF_go g gx⟩
end
section
variable {X : Cx} {W : WX} {σ : L2.St} {H : Hp} {k : Nat} {f : Addr} {fd : FuncData} {ps : List Str} {sp : QF} {x : Str} {e : Expr} {es : List Expr} {qa : QA} {p pos : Pos}
def qCall (sp : QF) (qa : QA) : QE := fun loc S P E => qa loc S (fun ds S1 => sp ds S1 P E) E
theorem call_imp {K : PySem.W.Frag} {σ : L2.St} {H : Hp} {Q : VK} (h : lift K W (qCall sp qa) σ H Q) : tCallS (liftF K sp) (WE W) (liftA K W qa) σ H Q := by
  obtain ⟨loc, S, P, E, rl, rep, hq, g, gx⟩ := h
  refine ⟨loc, S, _, E, rl, rep, hq, fun ds S1 vs H1 q1 k1 rep1 r1 => ?_, gx⟩
  exact ⟨ds, S1, P, E, r1, rep1, q1, g.keep k1, fun y S' H' c d ey kk rep' rx => gx y S' H' c d ey (k1.trans kk) rep' rx⟩
theorem de_call (F : FnP X.prog X.w X.K X.mg X.base k f fd ps sp) (hr : Room k X.A) (hg : Gl X x) (hm : X.mg x = some (.ref f)) (hk : PySem.W.keepIn X.K (.ref f) = true) (hb : Binds X.K fd ps [])
    (ha : DA X (e :: es) qa) (hdb : (x == ("__debug__" : Str)) = false := by decide) (he : starEach (e :: es) X.env = (false, eval e X.env) :: starEach es X.env := by rfl) (hpl : (backTo pos (starEach es X.env)).any (·.1) = false := by rfl) :
    DE X (.Call (.Name x p) (e :: es) [] pos) (qCall sp qa) := fun W tk =>
  PE.imp (pe_callS F hr hg hm hk hb (fun σ => L2N.passAt tk σ) (ha W tk) hdb he hpl) fun σ H Q h => call_imp h
/-- a call of a def that wants no guard of repr -/
theorem run_fnG {pins : List (Addr × Obj)} {s : Shared} {Q : VK} {us : List Value} {vs : List V} (F : FnG X.prog X.w X.K X.mg X.base k f fd ps sp) (hr : Room k X.A) (hG : X.A.guards = some []) (hb : Binds X.K fd ps []) (tk : L2N.Takes X W)
    (I : Inv X pins σ H s) (r : Vals vs us) (h : liftF X.K sp vs H Q (WE W σ)) : wpAny (model X.prog X.w) X.A (call (.ref f) us) (EP X pins σ Q) X.xe s := by
  have hl : us.length = ps.length := by
    obtain ⟨ds, S, P, PE, rv, _, h, _⟩ := h
    rw [← r.length, ← rv.length]
    exact F.len _ _ _ _ h
  have b := hb s us I.kIn (by rw [List.append_nil]; exact hl)
  rw [List.append_nil] at b
  refine wpAny_call (codeAny_mono (F.run X.A X.stack s H ⟨us, []⟩ us vs Q (WE W σ) hr hG I.env0 b r h) fun res s' hq => ?_)
  match res, hq with
  | .error e, hq => exact L2N.passAt tk σ pins H s e s' I hq
  | .ok (.ret u), hq => exact I.after hq
  | .ok .next, hq => exact False.elim hq
  | .ok .brk, hq => exact False.elim hq
  | .ok .cont, hq => exact False.elim hq
theorem de_callG (F : FnG X.prog X.w X.K X.mg X.base k f fd ps sp) (hr : Room k X.A) (hG : X.A.guards = some []) (hg : Gl X x) (hm : X.mg x = some (.ref f)) (hk : PySem.W.keepIn X.K (.ref f) = true) (hb : Binds X.K fd ps [])
    (ha : DA X (e :: es) qa) (hdb : (x == ("__debug__" : Str)) = false := by decide) (he : starEach (e :: es) X.env = (false, eval e X.env) :: starEach es X.env := by rfl) (hpl : (backTo pos (starEach es X.env)).any (·.1) = false := by rfl) :
    DE X (.Call (.Name x p) (e :: es) [] pos) (qCall sp qa) := fun W tk => by
  refine PE.imp (t := tCallS (liftF X.K sp) (WE W) (liftA X.K W qa)) ⟨fun pins s σ H Q I h => ?_⟩ fun σ H Q h => call_imp h
  refine wpAny_Call_Name_kw (ld_glob I hg hm ?_ hdb)
  refine PySem.W.callWith_K (h₀ := X.base) I.ok.mod.kin hk (thn ((ha W tk).run pos pins s σ H _ I h) fun us s1 hh => ?_) he hpl
  obtain ⟨vs, H1, I1, r, q⟩ := hh
  exact ⟨I1.kIn, run_fnG F hr hG hb tk I1 r q⟩

/-! ## raise X('..') -/
def sRaise (C : Addr) : QS := fun P loc S => P.ex { cls := C } loc S
/-- what is known of an exception class of the program without own __init__ -/
structure ExcT (K : PySem.W.Frag) (mg : Str → Option Value) (x : Str) (C : Addr) : Prop where
  gC : mg x = some (.ref C)
  ex : PySem.W.excIn K C [.type "ValueError", .type "Exception", .type "BaseException", .type "object"] "ValueError.__new__" = true
  kC : PySem.W.keepIn K (.ref C) = true
  sub : PySem.W.subIn K (.ref C) (.type "BaseException") = some true
  ty : PySem.W.typeIn K (.ref C) = some (.type "type")
theorem ds_raise {C : Addr} {m : Str} {j : Nat} {p2 pos2 : Pos} (hc : X.calm = true) (T : ExcT X.K X.mg x C) (hg : Gl X x) (hdb : (x == ("__debug__" : Str)) = false := by decide) :
    DS X (.Raise (some (.Call (.Name x p) [.Constant (.str m) j p2] [] pos)) none pos2) (sRaise C) := fun W tk => by
  refine PS.imp (L2N.ps_raise hc tk (L2N.pmk_own PySem.F.excBase_ValueError T.ex T.gC T.kC (raises_own T.sub T.ty) hg hdb)) fun D σ H h => ?_
  obtain ⟨loc, S, P, rl, rep, hq, g⟩ := h
  exact g.ex _ _ _ _ _ _ _ hq Keep.refl rl rep ⟨rfl, rfl⟩

/-! ## comprehensions -/
/-- a clause's tests -/
def DTs (X : Cx) (ifs : List Expr) (q : QT) : Prop := ∀ W, L2N.Takes X W → PTs X ifs (liftT X.K W q)
def qYes : QT := fun _ S P _ => P true S
theorem dts_nil : DTs X [] qYes := fun W _ => ⟨fun pins s σ H Q I h => pts_nil.run pins s σ H Q I (by
  obtain ⟨loc, S, P, E, rl, rep, q, g, _⟩ := h
  exact g _ _ _ q Keep.refl rep)⟩
theorem dts_one {c : Expr} {t : QT} (h : DT X c t) : DTs X [c] t := fun W tk => pts_one (h W tk)
theorem wipe_get (σ : L2.St) (j : Nat) : ∀ vs : List Nat, (L2.wipe σ vs)[j]? = if j ∈ vs then (σ[j]?).map (fun _ => none) else σ[j]?
  | [] => by simp [L2.wipe]
  | v :: vs => by
    have ih := wipe_get σ j vs
    have hl := L2.wipe_length σ vs
    unfold L2.wipe
    by_cases e : v = j
    · subst e
      by_cases h : v < σ.length
      · rw [List.getElem?_set_self (by rw [hl]; exact h), if_pos (List.mem_cons_self ..), List.getElem?_eq_getElem h]
        rfl
      · rw [List.getElem?_eq_none (by simp [hl]; omega), if_pos (List.mem_cons_self ..), List.getElem?_eq_none (by omega)]
        rfl
    · rw [List.getElem?_set_ne e, ih]
      by_cases h : j ∈ vs
      · rw [if_pos h, if_pos (List.mem_cons_of_mem _ h)]
      · rw [if_neg h, if_neg (fun z => (List.mem_cons.mp z).elim (fun q => e q.symm) h)]
theorem wipe_eq {σ τ : L2.St} {vs : List Nat} (hl : σ.length = τ.length) (h : ∀ j, j ∉ vs → σ[j]? = τ[j]?) : L2.wipe σ vs = L2.wipe τ vs := by
  refine List.ext_getElem? fun j => ?_
  rw [wipe_get, wipe_get]
  by_cases hj : j ∈ vs
  · rw [if_pos hj, if_pos hj]
    by_cases h1 : j < σ.length
    · rw [List.getElem?_eq_getElem h1, List.getElem?_eq_getElem (by rw [← hl]; exact h1)]
      rfl
    · rw [List.getElem?_eq_none (by omega), List.getElem?_eq_none (by omega)]
  · rw [if_neg hj, if_neg hj, h j hj]
theorem wipe_set {σ : L2.St} {vs : List Nat} {i : Nat} {v : Option V} (hi : i ∈ vs) : L2.wipe (σ.set i v) vs = L2.wipe σ vs :=
  wipe_eq (by simp) fun j hj => List.getElem?_set_ne (fun e => hj (by rw [← e]; exact hi))
theorem wipe_wipe {σ : L2.St} {vs : List Nat} : L2.wipe (L2.wipe σ vs) vs = L2.wipe σ vs :=
  wipe_eq (L2.wipe_length ..) fun j hj => by rw [wipe_get, if_neg hj]
/-- a target that stores the block's own names alone -/
def liftGo (K : PySem.W.Frag) (own : List Nat) (q : QG) : TG := fun v σ H Q => ∃ d loc S P, RV K H d v ∧ RL K H loc σ ∧ Rep K S H ∧ q d loc S P (fun _ _ => False) ∧
  ∀ loc' S' σ' H', P loc' S' → Keep K H H' → RL K H' loc' σ' → Rep K S' H' → L2.wipe σ' own = L2.wipe σ own → Q σ' H'
def liftGos (K : PySem.W.Frag) (own : List Nat) (q : QGs) : TGs := fun vs σ H Q => ∃ ds loc S P, RVs K H ds vs ∧ RL K H loc σ ∧ Rep K S H ∧ q ds loc S P (fun _ _ => False) ∧
  ∀ loc' S' σ' H', P loc' S' → Keep K H H' → RL K H' loc' σ' → Rep K S' H' → L2.wipe σ' own = L2.wipe σ own → Q σ' H'
def DGo (X : Cx) (t : Expr) (own : List Nat) (q : QG) : Prop := PG X t (liftGo X.K own q)
def DGos (X : Cx) (ts : List Expr) (own : List Nat) (q : QGs) : Prop := PGs X ts (liftGos X.K own q)
theorem dgo_name {i : Nat} {x : Str} {own : List Nat} (hN : X.N.Nodup) (hi : X.N[i]? = some x) (ho : i ∈ own) (hx : L2.Loc X.env.scope x) (hf : X.fn x = true ∨ X.env.scope.names.lookup x = some .local := by first | exact .inl rfl | exact .inr rfl | assumption) : DGo X (.Name x pos) own (gN i) := by
  refine PG.imp (pg_name hN hi hx hf) fun v σ H Q h => ?_
  obtain ⟨d, loc, S, P, rv, rl, rep, hq, g⟩ := h
  exact g _ _ _ _ hq Keep.refl (rl.set rv i) rep (wipe_set ho)
theorem dgos_nil {own : List Nat} : DGos X [] own gE := by
  refine PGs.imp pgs_nil fun v σ H Q h => ?_
  obtain ⟨ds, loc, S, P, rv, rl, rep, ⟨e, hq⟩, g⟩ := h
  subst e
  exact ⟨RVs.nil_iff.mp rv, g _ _ _ _ hq Keep.refl rl rep rfl⟩
theorem dgos_cons {own : List Nat} {e : Expr} {es : List Expr} {t : QG} {u : QGs} (h1 : DGo X e own t) (h2 : DGos X es own u)
    (hs : (assignEach (e :: es) X.env).map (·.2) = assign e X.env :: (assignEach es X.env).map (·.2) := by rfl) : DGos X (e :: es) own (gC t u) := by
  refine PGs.imp (pgs_cons h1 h2 hs) fun v σ H Q h => ?_
  obtain ⟨ds, loc, S, P, rv, rl, rep, hq, g⟩ := h
  cases ds with
  | nil => exact (show False from hq).elim
  | cons d r =>
    unfold RVs at rv
    obtain ⟨w, ws, e, r1, r2⟩ := rv
    refine ⟨w, ws, e, d, loc, S, _, r1, rl, rep, hq, fun loc' S' σ' H' p k rl' rep' hw => ?_⟩
    exact ⟨r, loc', S', P, RVs.keep k _ _ r2, rl', rep', p, fun l2 S2 σ2 H2 p2 k2 rl2 rep2 hw2 => g l2 S2 σ2 H2 p2 (k.trans k2) rl2 rep2 (hw2.trans hw)⟩
theorem dgo_tup {own : List Nat} {es : List Expr} {j : Nat} {t : QGs} {n : Nat} (hc : X.calm = true) (h : DGos X es own t)
    (hn : (assignEach es X.env).length = n := by rfl) (hst : (assignEach es X.env).findIdx? (·.1) = none := by rfl) : DGo X (.Tuple es j pos) own (gT n t) := by
  refine PG.imp (pg_tup hc h hn hst) fun v σ H Q h => ?_
  obtain ⟨d, loc, S, P, rv, rl, rep, hq, g⟩ := h
  cases d with
  | tup xs =>
    obtain ⟨a, vs, e, s, r⟩ := rv_tup rv
    exact ⟨a, vs, e, s, by rw [← r.length]; exact hq.1, xs, loc, S, P, r, rl, rep, hq.2, g⟩
  | _ => exact (show False from hq).elim
/-- [elt for target in iter if ..]: V by the turn, what is made so far, the store (the new list stands in it) -/
def qLc (it : QI) (g : QG) (tt : QT) (te : QE) (own : List Nat) : QE := fun loc S P E => it loc S (fun src S1 => ∀ p, S1 p = none → ∃ V : Nat → List D → Sto → Prop, V 0 [] (ups S1 p (.lst [])) ∧
  (∀ i d acc S, src.items[i]? = some d → V i acc S → src.ok S ∧ g d (wipeD loc own) S (fun loc' S' => tt loc' S' (fun b S2 => if b = true then
    te loc' S2 (fun y S3 => S3 p = some (.lst acc) ∧ acc.length < sizeLine ∧ V (i + 1) (acc ++ [y]) (ups S3 p (.lst (acc ++ [y])))) fun _ _ => False else V (i + 1) acc S2) fun _ _ => False) fun _ _ => False) ∧
  ∀ acc S, V src.items.length acc S → src.ok S ∧ P (.ref p) S) E
theorem noX {K : PySem.W.Frag} {σ : L2.St} {H : Hp} {W : WX} : GoX K H σ (fun _ _ => False) W := fun _ _ _ _ _ z => z.elim
theorem lc_imp {it : QI} {g : QG} {tt : QT} {te : QE} {own : List Nat} {σ : L2.St} {H : Hp} {Q : VK} (h : lift X.K W (qLc it g tt te own) σ H Q) :
    tLc (liftI X.K W it) (liftGo X.K own g) (liftT X.K (fun _ _ _ _ => False) tt) (lift X.K (fun _ _ _ _ => False) te) own σ H Q := by
  obtain ⟨loc, S, P, E, rl, rep, hq, go, gx⟩ := h
  refine ⟨loc, S, _, E, rl, rep, hq, fun src S1 H1 J q1 k1 rep1 rel p np => ?_, gx⟩
  obtain ⟨V, v0, turn, done⟩ := q1 p (rep1.free np)
  refine ⟨fun i m H' => m = src.items.length - i ∧ i ≤ src.items.length ∧ ∃ acc S', Keep X.K H1 H' ∧ Rep X.K S' H' ∧ V i acc S', ⟨src.items.length, by simp, Nat.zero_le _, [], _, Keep.new np, rep1.newL np (RVs.nil_iff.mpr rfl), v0⟩, ?_⟩
  rintro i m H2 ⟨rfl, hle, acc, S2, k2, rep2, v2⟩
  by_cases hlt : i < src.items.length
  · have hd : src.items[i]? = some src.items[i] := List.getElem?_eq_getElem hlt
    obtain ⟨ok, t⟩ := turn i _ acc S2 hd v2
    refine .inr ⟨rel.go i _ S2 H2 hd ok k2 rep2, fun H' => ∃ acc S', Keep X.K H1 H' ∧ Rep X.K S' H' ∧ V (i + 1) acc S', fun H' z => ⟨src.items.length - (i + 1), by omega, rfl, hlt, z⟩, fun x H3 y => ?_⟩
    obtain ⟨k3, rep3, rv3⟩ := rel.yld i _ S2 H2 x H3 hd ok k2 rep2 y
    have rl3 := ((rl.keep (k1.trans (k2.trans k3))).wipe own)
    refine ⟨src.items[i], wipeD loc own, S2, _, rv3, rl3, rep3, t, fun loc4 S4 σ4 H4 q4 k4 rl4 rep4 hw => ?_⟩
    refine ⟨by rw [hw, wipe_wipe], loc4, S4, _, _, rl4, rep4, q4, fun b S5 H5 q5 k5 rep5 => ?_, noX⟩
    cases b with
    | true =>
      refine iteT ?_
      refine ⟨loc4, S5, _, _, rl4.keep k5, rep5, q5, fun yd S6 yv H6 q6 k6 rep6 ry => ?_, noX⟩
      obtain ⟨e6, hz, v6⟩ := q6
      obtain ⟨us, f6, ru⟩ := rep6 _ _ e6
      refine ⟨us, f6, by rw [← ru.length]; exact hz, acc ++ [yd], _, ?_, rep6.setL f6 (ru.append (RVs.one ry)), v6⟩
      exact k2.trans (k3.trans (k4.trans (k5.trans (k6.trans (keepL f6)))))
    | false =>
      refine iteF ?_
      exact ⟨acc, S5, k2.trans (k3.trans (k4.trans k5)), rep5, q5⟩
  · have e : i = src.items.length := by omega
    subst e
    obtain ⟨ok, n⟩ := done acc S2 v2
    exact .inl ⟨rel.stop _ S2 H2 rfl ok k2 rep2, go _ _ _ _ n (k1.trans k2) rep2 rv_ofR⟩
theorem de_lc {elt tg iter : Expr} {ifs : List Expr} {scope : Scope} {own : List (Str × Nat)} {it : QI} {g : QG} {tt : QT} {te : QE} (hc : X.calm = true) (hN : X.N.Nodup) (hi : DI X tg iter it) (ok : BlkOk X.N X.env.scope scope own)
    (hg : ∀ (s : Shared) (H : Hp) (C : Addr) (cl : List (Str × Addr)) (fp : List Addr), DGo (X.blk s H scope (compEnvC scope cl C X.env) fp) tg (own.map (·.2)) g) (ht : ∀ (s : Shared) (H : Hp) (C : Addr) (cl : List (Str × Addr)) (fp : List Addr), DTs (X.blk s H scope (compEnvC scope cl C X.env) fp) ifs tt)
    (he : ∀ (s : Shared) (H : Hp) (C : Addr) (cl : List (Str × Addr)) (fp : List Addr), DE (X.blk s H scope (compEnvC scope cl C X.env) fp) elt te) (hs : ∀ x, foldedSetIterable iter X.env x = pure x := by intro _; rfl) :
    DE X (.ListComp elt [⟨tg, iter, ifs, 0⟩] scope pos) (qLc it g tt te (own.map (·.2))) := fun W tk =>
  PE.imp (pe_lc (g := liftGo X.K (own.map fun (x : Str × Nat) => x.2) g) (tt := liftT X.K (fun _ _ _ _ => False) tt) (te := lift X.K (fun _ _ _ _ => False) te) hc hN (hi W tk) ok hg (fun s H C cl fp => ht s H C cl fp _ takes0) (fun s H C cl fp => he s H C cl fp _ takes0) hs) fun σ H Q h => lc_imp h
theorem ds_setLc {i : Nat} {y : Str} {py : Pos} {elt tg iter : Expr} {ifs : List Expr} {scope : Scope} {own : List (Str × Nat)} {spos : Pos} {it : QI} {g : QG} {tt : QT} {te : QE} (hc : X.calm = true) (hN : X.N.Nodup) (hy : X.N[i]? = some y) (hyl : X.env.scope.names.lookup y = some .local)
    (hsw : swapsWith (.ListComp elt [⟨tg, iter, ifs, 0⟩] scope pos) (some (.Name y py)) spos.line X.env = pure true) (hi : DI X tg iter it) (ok : BlkOk X.N X.env.scope scope own)
    (hg : ∀ (s : Shared) (H : Hp) (C : Addr) (cl : List (Str × Addr)) (fp : List Addr), DGo (X.blk s H scope (compEnvC scope cl C X.env) fp) tg (own.map (·.2)) g) (ht : ∀ (s : Shared) (H : Hp) (C : Addr) (cl : List (Str × Addr)) (fp : List Addr), DTs (X.blk s H scope (compEnvC scope cl C X.env) fp) ifs tt)
    (he : ∀ (s : Shared) (H : Hp) (C : Addr) (cl : List (Str × Addr)) (fp : List Addr), DE (X.blk s H scope (compEnvC scope cl C X.env) fp) elt te) (hs : ∀ x, foldedSetIterable iter X.env x = pure x := by intro _; rfl) :
    DS X (.Assign [.Name y py] (.ListComp elt [⟨tg, iter, ifs, 0⟩] scope pos) spos) (sSet i (qLc it g tt te (own.map (·.2)))) := fun W tk => by
  refine PS.imp (ps_setLc (g := liftGo X.K (own.map fun (x : Str × Nat) => x.2) g) (tt := liftT X.K (fun _ _ _ _ => False) tt) (te := lift X.K (fun _ _ _ _ => False) te) hc hN hy hyl hsw (hi W tk) ok hg (fun s H C cl fp => ht s H C cl fp _ takes0) (fun s H C cl fp => he s H C cl fp _ takes0) hs) fun D σ H h => ?_
  obtain ⟨loc, S, P, rl, rep, hq, go⟩ := h
  refine lc_imp (W := W) ⟨loc, S, _, _, rl, rep, hq, fun d S1 v H1 q1 k1 rep1 r1 => ?_, go.gx rl⟩
  exact go.nx _ _ _ _ q1 k1 ((rl.keep k1).set r1 i) rep1
end
end PL

namespace PL
open PySem PySem.Spec PyProof.Rows L2 -- the layers
/-! ## a lambda without parameters, handed to a def of the top -/
/-- the tables of code objects that the store tells are just those of T -/
def TabOk (T : List (Addr × Str)) (S : Sto) : Prop := (∀ p ∈ T, S p.1 = some (.tab p.2)) ∧ ∀ a q, S a = some (.tab q) → (a, q) ∈ T
theorem TabOk.new {T : List (Addr × Str)} {S : Sto} (t : TabOk T S) {p : Addr} {ds : List D} (n : S p = none) : TabOk T (ups S p (.lst ds)) := by
  refine ⟨fun q hq => ?_, fun a q h => ?_⟩
  · rw [ups_ne (sto_ne (t.1 q hq) n)]
    exact t.1 q hq
  · by_cases e : a = p
    · subst e
      rw [ups_same] at h
      cases h
    · rw [ups_ne e] at h
      exact t.2 a q h
theorem TabOk.set {T : List (Addr × Str)} {S : Sto} (t : TabOk T S) {p : Addr} {ds us : List D} (n : S p = some (.lst us)) : TabOk T (ups S p (.lst ds)) := by
  refine ⟨fun q hq => ?_, fun a q h => ?_⟩
  · have ne : q.1 ≠ p := fun z => by
      have := t.1 q hq
      rw [z, n] at this
      cases this
    rw [ups_ne ne]
    exact t.1 q hq
  · by_cases e : a = p
    · subst e
      rw [ups_same] at h
      cases h
    · rw [ups_ne e] at h
      exact t.2 a q h
theorem Rep.tabs {K : PySem.W.Frag} {T : List (Addr × Str)} {S : Sto} {H : Hp} (r : Rep K S H) (t : TabOk T S) : LamX.Tabs T H := fun p hp => r p.1 _ (t.1 p hp)
theorem ExtN.keep {K : PySem.W.Frag} {H H1 : Hp} (e : LamX.ExtN H H1) : Keep K H H1 := by
  refine ⟨fun a vs h => ?_, fun a o u h => e _ _ h (fun _ z => by cases z)⟩
  rcases h with (h | ⟨o, h⟩) | h
  · exact .inl (.inl (e _ _ h (fun _ z => by cases z)))
  · exact .inl (.inr ⟨o, e _ _ h (fun _ z => by cases z)⟩)
  · exact .inr h
theorem Rep.extN {K : PySem.W.Frag} {T : List (Addr × Str)} {S : Sto} {H H1 : Hp} (r : Rep K S H) (t : TabOk T S) (e : LamX.ExtN H H1) (t1 : LamX.Tabs T H1) : Rep K S H1 := fun a o h => by
  have z := r a o h
  cases o with
  | lst ds =>
    obtain ⟨vs, h1, q⟩ := z
    exact ⟨vs, e _ _ h1 (fun _ w => by cases w), RVs.keep (ExtN.keep e) _ _ q⟩
  | tab q => exact t1 (a, q) (t.2 a q h)
  | cod q => exact e _ _ z (fun _ w => by unfold LamX.CodeO at w; cases w)
theorem Un.keepP {K : PySem.W.Frag} {fs ex : List Addr} {H H' : Hp} {h h' : Heap} (u : Un fs ex H H' h h') : Keep K H H' := by
  refine ⟨fun a vs z => ?_, fun a o w z => u.frzs _ _ _ z⟩
  rcases z with (z | ⟨o, z⟩) | z
  · exact .inl (.inl (u.tups _ _ z))
  · exact .inl (.inr ⟨o, u.frzs _ _ _ z⟩)
  · exact .inr z
/-- the context of a lambda's body; what leaves it was raised where nothing was handled -/
def lamN (X : Cx) (A : Around) (outer : List Env) (s : Shared) (H : Hp) (E : XK) (scope : Scope) (f c' : Addr) : Cx :=
  (LamX.lamCx X A outer s H E scope f c').wish fun e s' => wpAny (model X.prog X.w) (A.deeper (LamX.lamEnv X scope s.heap.objs.size f c')) (leaving (LamX.lamEnv X scope s.heap.objs.size f c') e)
    (fun _ s2 => L2N.CX X.prog X.w outer H s E e s2) (fun e2 s2 => L2N.CX X.prog X.w outer H s E e2 s2) s'
/-- the context of the def that got the lambda -/
abbrev gotCx (X : Cx) (Ng : List Str) (qg : Str) (sg : Scope) (g : Addr) (cdg : Value) (A : Around) (outer : List Env) (s : Shared) (H : Hp) (E : XK) : Cx := cxOf (L2N.CX X.prog X.w) X.prog X.w X.K X.mg X.base Ng qg sg g cdg A outer s H E
def qAct (f c' : Addr) (nm : Str) (loc : Loc) (q : QE) : QE := fun locZ S P E => locZ[0]? = some (some (.ref f)) ∧ S c' = some (.cod nm) ∧ q loc S P E
section
variable {X : Cx} {pins : List (Addr × Obj)} {σ : L2.St} {H HZ : Hp} {s s1 : Shared}
theorem de_act {Eg : XK} {Ng : List Str} {qg : Str} {sg : Scope} {g f c' : Addr} {cdg pm ctv : Value} {params : Arguments} {body : Expr} {scope : Scope} {k : Nat} {a : Str} {pn : List (Addr × Obj)} {xe : Value → Shared → Prop} {q : QE} {loc : Loc} {p1 p2 : Pos}
    (I : Inv X pins σ H s) (L : LamX.LamS X.env.scope scope) (hf : s.heap.get? f = some (PySem.W.kla_obj "<lambda>" (X.env.qual ++ "<lambda>") params body scope (cloFrom X.env.cells scope.names []) pm c' ctv)) (hfn : H f = none) (hfr : f ∉ frs X.stack) (rl : RL X.K H loc σ)
    (hbind : bindArgs (PySem.W.kla_fn "<lambda>" (X.env.qual ++ "<lambda>") params body scope (cloFrom X.env.cells scope.names []) pm (.ref c') ctv) ⟨[], []⟩ = pure [])
    (hr : Room (k + 1) (X.A.deeper (envOfC qg sg s.heap.objs.size g cdg)))
    (hbody : ∀ (A : Around) (outer : List Env) (s : Shared) (H : Hp) (E : XK), Room k (A.deeper (LamX.lamEnv X scope s.heap.objs.size f c')) → DE (lamN X A outer s H E scope f c') body q)
    (hN : Ng[0]? = some a) (hv : Vis sg a) (hd : (a == ("__debug__" : Str)) = false := by decide) (hcd : (a == ("__classdict__" : Str)) = false := by decide) :
    DE ((gotCx X Ng qg sg g cdg X.A X.stack s H Eg).tr pn xe) (.Call (.Name a p1) [] [] p2) (qAct f c' (X.env.qual ++ "<lambda>") loc q) := fun W tk => by
  refine ⟨fun pinsZ sZ σZ HZ Q IZ h => ?_⟩
  obtain ⟨locZ, SZ, P, E, rlZ, repZ, ⟨h0, hcod, hq⟩, go, gx⟩ := h
  obtain ⟨vf, e0, rvf⟩ := rlZ.at_ 0 _ h0
  rw [rv_ref rvf] at e0
  refine wpAny_Call_Name_kw (thn ((pe_var (pos := p1) (i := 0) hN hv hd hcd).run pinsZ sZ σZ HZ (fun v H1 => v = .ref f ∧ H1 = HZ) IZ ⟨.ref f, e0, rfl, rfl⟩) fun u s1 hu => ?_)
  obtain ⟨v, H1, I1, r1, ev, eH⟩ := hu
  subst ev
  rw [eH] at I1
  obtain rfl : u = Value.ref f := r1
  have un : Un (frs X.stack) [] H HZ s.heap s1.heap := I1.base
  have kZ : Keep X.K H HZ := Un.keepP un
  have of1 : s1.heap.get? f = some (PySem.W.kla_obj "<lambda>" (X.env.qual ++ "<lambda>") params body scope (cloFrom X.env.cells scope.names []) pm c' ctv) := un.keep f _ hf hfn hfr (by simp)
  refine PySem.W.callWith_F0 ⟨_, _, _, _, of1⟩ ?_
  have hco : HZ c' = some (LamX.CodeO c' (X.env.qual ++ "<lambda>")) := repZ c' _ hcod
  have hob := I1.hok c' _ hco
  obtain ⟨⟨oc, vs, t, hoc, hdc, hvc⟩, _, _⟩ := hob
  have rc : codeAny (model X.prog X.w) (X.A.deeper (envOfC qg sg s.heap.objs.size g cdg)) (.call (.ref f) ⟨[], []⟩) (CR (L2N.CX X.prog X.w) (envOfC qg sg s.heap.objs.size g cdg :: X.stack) X.prog X.w HZ s1 Q (WE W σZ)) s1 := by
    refine PySem.W.kla_callFunE hr.depth of1 rfl L.co L.gen rfl ⟨c', oc, vs, t, rfl, hoc, hdc, hvc⟩ ?_
    rw [hbind]
    refine wpAny_pure (wpAny_newFunctionEnv (fun y hy => (L.own y hy).2) (fun y hy => absurd hy (by simp)) (fun h₁ hns hsb => ⟨I1.nolimit.fresh _ hsb, ?_⟩) L.kind)
    show codeAny _ _ (.expr body (LamX.lamEnv X scope s1.heap.objs.size f c')) _ _
    have kp : ∀ b o, s1.heap.get? b = some o → h₁.get? b = some o := fun b o e => hsb.extBut b o (Nat.ne_of_lt (Heap.lt_size e)) (Heap.get?_push_of_some _ e)
    have J0 := LamX.lam_start2 (A := X.A.deeper (envOfC qg sg s.heap.objs.size g cdg)) (outer := envOfC qg sg s.heap.objs.size g cdg :: X.stack) (f := f) (c' := c') (tk := s1.toks + ([] : List (Str × Value)).length) (E := WE W σZ) I L I1.env0 hr.hd un hns kp
    have J : Inv (lamN X (X.A.deeper (envOfC qg sg s.heap.objs.size g cdg)) (envOfC qg sg s.heap.objs.size g cdg :: X.stack) s1 HZ (WE W σZ) scope f c') [] σ HZ { s1 with heap := h₁, toks := s1.toks + ([] : List (Str × Value)).length } := J0.wish _
    have pb := hbody (X.A.deeper (envOfC qg sg s.heap.objs.size g cdg)) (envOfC qg sg s.heap.objs.size g cdg :: X.stack) s1 HZ (WE W σZ) (hr.deeper _) (fun c d _ H' => WE W σZ c d H') (L2N.takes_of rfl rfl rfl rfl)
    refine PySem.W.kla_codeExpr (wpAny_mono (pb.run [] _ σ HZ Q J ⟨loc, SZ, P, E, rl.keep kZ, repZ, hq, go, fun x S' H' c d ex k rep rx => gx x S' H' c d ex k rep rx⟩) (fun v s' hq => ?_) fun e s' hq => hq)
    obtain ⟨w', H', J', rv, q⟩ := hq
    exact ⟨w', H', J'.os, J'.bare, J'.base, J'.hok, rv, q⟩
  refine wpAny_call (codeAny_mono rc fun r s' hq => ?_)
  match r, hq with
  | .error e, hq => exact L2N.passAt tk σZ pinsZ HZ s1 e s' I1 hq
  | .ok (.ret u), hq => exact I1.after hq
  | .ok .next, hq => exact False.elim hq
  | .ok .brk, hq => exact False.elim hq
  | .ok .cont, hq => exact False.elim hq
/-- the reading of x(lambda: ..): qB what x makes of its parameter's call, q the lambda's -/
def qLam (T : List (Addr × Str)) (Ng : List Str) (nm : Str) (qB : QE → QS) (q : QE) : QE := fun loc S P _ => TabOk T S ∧ ∀ f c' S1, Sub S S1 → S1 c' = some (.cod nm) → TabOk T S1 → qB (qAct f c' nm loc q) (endsF P fun _ _ => False) (startD Ng [.ref f]) S1
theorem de_lam {T : List (Addr × Str)} {qB : QE → QS} {x a : Str} {g c P : Addr} {k : Nat} {pg : Arguments} {bg : List Stmt} {sg : Scope} {dV kV doc pm cdv ct oc : Value} {an od : Option Addr} {osl : Array (Option Value)} {Ng : List Str}
    {params : Arguments} {body : Expr} {scope : Scope} {q : QE} {p lpos pos : Pos} (hg : Gl X x) (hm : X.mg x = some (.ref g)) (hk : PySem.W.keepIn X.K (.ref g) = true)
    (lk : X.K.lookup g = some ⟨oc, od, .func (PySem.W.fnOf x x pg bg sg dV kV doc pm an cdv ct), osl⟩) (hcg : PySem.W.codeIn X.K cdv x = true) (hb : L2.Binds X.K (PySem.W.fnOf x x pg bg sg dV kV doc pm an cdv ct) [a] []) (Sg : FnScope Ng [a] sg) (hNg : Ng[0]? = some a) (hva : Vis sg a)
    (hB : ∀ (s : Shared) (H : Hp) (qc : QE), Room (k + 1) (X.A.deeper (envOfC x sg s.heap.objs.size g cdv)) → (∀ (pn : List (Addr × Obj)) (xe : Value → Shared → Prop) (p1 p2 : Pos), DE ((gotCx X Ng x sg g cdv X.A X.stack s H fun _ _ _ => False).tr pn xe) (.Call (.Name a p1) [] [] p2) qc) →
      DB (gotCx X Ng x sg g cdv X.A X.stack s H fun _ _ _ => False) bg (qB qc))
    (TB : LamX.TabB X.base X.mg c P) (hcode : X.env.code = .ref c) (hmT : (P, X.env.qual ++ "<lambda>") ∈ T) (hu : ∀ p ∈ T, p.1 = P → p.2 = X.env.qual ++ "<lambda>") (hr : Room (k + 2) X.A) (L : LamX.LamS X.env.scope scope) (hdef : defaultsOf params X.env = ([], []))
    (hbind : ∀ (q : Str) (cl : List (Str × Addr)) (pm cv ctv : Value), bindArgs (PySem.W.kla_fn "<lambda>" q params body scope cl pm cv ctv) ⟨[], []⟩ = pure [])
    (hbody : ∀ (A : Around) (outer : List Env) (s : Shared) (H : Hp) (E : XK) (f c' : Addr), Room k (A.deeper (LamX.lamEnv X scope s.heap.objs.size f c')) → DE (lamN X A outer s H E scope f c') body q)
    (hdb : (x == ("__debug__" : Str)) = false := by decide) (hd : (a == ("__debug__" : Str)) = false := by decide) (hcd : (a == ("__classdict__" : Str)) = false := by decide) :
    DE X (.Call (.Name x p) [.Lambda params body scope lpos] [] pos) (qLam T Ng (X.env.qual ++ "<lambda>") qB q) := fun W _ => by
  refine ⟨fun pins s σ H Q I h => ?_⟩
  obtain ⟨loc, S, Pd, E, rl, rep, ⟨tok, hq⟩, go, _⟩ := h
  refine wpAny_Call_Name_kw (ld_glob I hg hm ?_ hdb)
  refine PySem.W.callWith_K (h₀ := X.base) I.ok.mod.kin hk ?_ (by rfl) (by rfl)
  show wpAny _ _ (spliced ((false, eval (.Lambda params body scope lpos) X.env) :: backTo pos (starEach [] X.env))) _ _ s
  refine Calls.spliced_cons (LamX.lam_make2 I TB hcode hmT hu (rep.tabs tok) hdef (L.has I.ok) fun f c' pm' ctv H1 s' I1 eN T1 hf hfn hfr hco => ?_)
  refine Calls.spliced_nil ⟨I1.kIn, ?_⟩
  have k1 : Keep X.K H H1 := ExtN.keep eN
  have rep0 : Rep X.K S H1 := rep.extN tok eN T1
  have rep1 : Rep X.K (ups S c' (.cod (X.env.qual ++ "<lambda>"))) H1 := fun b o e => by
    by_cases hb : b = c'
    · subst hb
      rw [ups_same] at e
      cases e
      exact hco
    · rw [ups_ne hb] at e
      exact rep0 b o e
  have sub1 : Sub S (ups S c' (.cod (X.env.qual ++ "<lambda>"))) := fun b o e => by
    by_cases hb : b = c'
    · subst hb
      have z := rep0 _ _ e
      cases o with
      | lst ds =>
        obtain ⟨vs, z, _⟩ := z
        rw [hco] at z
        unfold LamX.CodeO at z
        cases z
      | tab nm =>
        obtain ⟨vs, z, _⟩ := z
        rw [hco] at z
        unfold LamX.CodeO at z
        cases z
      | cod nm =>
        have z : H1 b = some (LamX.CodeO b nm) := z
        have e1 : LamX.CodeO b nm = LamX.CodeO b (X.env.qual ++ "<lambda>") := Option.some.inj (z.symm.trans hco)
        have o1 := I1.hok b _ hco
        have o2 := I1.hok b _ z
        obtain ⟨⟨oc1, vs1, t1, a1, a2, a3⟩, _, _⟩ := o1
        obtain ⟨⟨oc2, vs2, t2, b1, b2, b3⟩, _, _⟩ := o2
        rw [a1] at b1
        cases b1
        rw [a2] at b2
        cases b2
        rw [a3] at b3
        have e3 : nm = X.env.qual ++ "<lambda>" := by
          have e4 := Option.some.inj b3
          injection e4 with e5 _
          exact e5.symm
        rw [e3, ups_same]
    · rw [ups_ne hb]
      exact e
  have tok1 : TabOk T (ups S c' (.cod (X.env.qual ++ "<lambda>"))) := ⟨fun q hq => sub1 _ _ (tok.1 q hq), fun b o e => by
    by_cases hb : b = c'
    · subst hb
      rw [ups_same] at e
      cases e
    · rw [ups_ne hb] at e
      exact tok.2 b o e⟩
  have rf : RVs X.K H1 [D.ref f] [V.ref f] := RVs.one rv_ofR
  have rc : codeAny (model X.prog X.w) X.A (.call (.ref g) ⟨[.ref f], []⟩) (CR (L2N.CX X.prog X.w) X.stack X.prog X.w H1 s' Q fun _ _ _ => False) s' := by
    refine LamX.run_ofS (N := Ng) (ps := [a]) (us := [.ref f]) (vs := [.ref f]) lk hcg Sg hr I1.env0 (hb s' [.ref f] I1.kIn rfl) (.cons rfl .nil) rfl fun hr' => ?_
    have db := hB s' H1 (qAct f c' (X.env.qual ++ "<lambda>") loc q) hr' fun pn xe p1 p2 => de_act I1 L hf hfn hfr (rl.keep k1) (hbind _ _ _ _ _) hr' (fun A outer s H E hr2 => hbody A outer s H E f c' hr2) hNg hva hd hcd
    refine ⟨_, db (fun c d _ H' => False) (L2N.takes_of rfl rfl rfl rfl), ?_⟩
    exact ⟨startD Ng [.ref f], _, endsF Pd fun _ _ => False, startD_len rf, rep1, hq f c' _ sub1 ups_same tok1, endsF_go (E := fun _ _ _ => False) (go.keep k1) fun _ _ _ _ _ z => z.elim⟩
  refine wpAny_call (codeAny_mono rc fun r s2 hq => ?_)
  match r, hq with
  | .error e, hq =>
    obtain ⟨_, _, _, _, _, _, _, _, _, _, _, _, z⟩ := hq
    exact z.elim
  | .ok (.ret u), hq => exact I1.after hq
  | .ok .next, hq => exact False.elim hq
  | .ok .brk, hq => exact False.elim hq
  | .ok .cont, hq => exact False.elim hq
end
end PL

namespace PL
open PySem PySem.Spec PyProof.Rows L2 -- the layers
/-! ## a list comprehension over a range, where an exception is handled -/
/-- the block's context, the handled exception pinned -/
abbrev hotB (X : Cx) (p : Addr × Obj) (s : Shared) (H : Hp) (scope : Scope) (ce : Env) (fp : List Addr) : Cx := (X.blk s H scope ce fp).tr ([] ++ [p]) fun _ _ => False
section
variable {X : Cx} {p : Addr × Obj}
theorem hot_start {scope : Scope} {own : List (Str × Nat)} {fp : List Addr} {pins : List (Addr × Obj)} {σ : L2.St} {H : Hp} {s : Shared} (hp : p ∈ X.pn) (I : Inv X pins σ H s) (ok : BlkOk X.N X.env.scope scope own) (hN : X.N.Nodup) (hfp : ∀ b ∈ fp, FpOk X pins H b ∧ b < s.heap.objs.size) :
    Inv (hotB X p s H scope (compEnvC scope (cellsFrom (s.heap.objs.size + 1) scope.names (cloFrom X.env.cells scope.names [])) s.heap.objs.size X.env) fp) [] (L2.wipe σ (own.map (·.2))) H { s with heap := pushCells (s.heap.push { cls := .type "dict", data := .dict #[] }) scope.names } := by
  have J := block_start I ok hN hfp
  obtain ⟨e1, e2, e3, e4, e5⟩ := I.pin p (List.mem_append_left _ hp)
  refine Inv.toTry (J.pins_of (pins' := [p]) fun q hq => ?_) _
  obtain rfl := List.mem_singleton.mp hq
  refine ⟨pushCells_keeps _ _ _ _ (Heap.get?_push_of_some _ e1), e2, Nat.ne_of_lt (Heap.lt_size e1), fun z => ?_, e5⟩
  rcases List.mem_cons.mp (I.stkSub _ z) with h | h
  · exact e3 h
  · exact e4 h
theorem lcH {pins : List (Addr × Obj)} {s : Shared} {σ : L2.St} {H : Hp} {Q : VK} {elt tg iter : Expr} {ifs : List Expr} {scope : Scope} {own : List (Str × Nat)} {pos pos' : Pos} {wi : TI} {g : TG} {tt : TT} {te : TE} {use : Option (Value → Sem Unit)} {Qf : Value → Shared → Prop}
    (h1 : L2H.Hot1 X.A p) (hp : p ∈ X.pn) (hN : X.N.Nodup) (I : Inv X pins σ H s) (hi : L2H.PIH X tg iter wi) (ok : BlkOk X.N X.env.scope scope own)
    (hG : ∀ (s : Shared) (H : Hp) (C : Addr) (cl : List (Str × Addr)) (fp : List Addr), PG (hotB X p s H scope (compEnvC scope cl C X.env) fp) tg g)
    (hT : ∀ (s : Shared) (H : Hp) (C : Addr) (cl : List (Str × Addr)) (fp : List Addr), PTs (hotB X p s H scope (compEnvC scope cl C X.env) fp) ifs tt)
    (hE : ∀ (s : Shared) (H : Hp) (C : Addr) (cl : List (Str × Addr)) (fp : List Addr), PE (hotB X p s H scope (compEnvC scope cl C X.env) fp) elt te) (hs : ∀ x, foldedSetIterable iter X.env x = pure x)
    (h : tLc wi g tt te (own.map (·.2)) σ H Q)
    (fin : ∀ D C s' m H', Inv X pins σ H' s' → Q (.ref D) H' → s'.heap.Ns C m → FpOk X pins H' C → compPost (model X.prog X.w) X.A X.xe use Qf (.ref D) C (.ok .next) s') :
    wpAny (model X.prog X.w) X.A (comprehension (.ListComp elt [⟨tg, iter, ifs, 0⟩] scope pos) scope X.env pos' (newList []) false (eval iter X.env) use) Qf X.xe s := by
  have hfree : ∀ y ∈ scope.names, y.2 = .free → ∃ c, X.env.cells.lookup y.1 = some c := fun y hy e => (ok.free y hy e).elim (fun k => I.ok.has _ (.inl k)) fun k => I.ok.has _ (.inr k)
  refine wpAny_comprehension_free (use := use) rfl hs (closure_ok hfree) ok.kind (fun y hy e => by rw [ok.uniq y hy, e]) ?_
  refine thn (hi.run pins s σ H _ I h) fun xv s1 hx => thn hx fun itv s2 h2 => ?_
  obtain ⟨it, fp, tn, J, H2, rfl, I2, T, st2, f2, q⟩ := h2
  refine wpAny_newObj_type (newEnv_comp ?_) (by show 0 ≤ sizeLine; decide)
  -- the new list's address, and the state with it
  obtain ⟨D, hD⟩ : ∃ D, s2.heap.objs.size = D := ⟨_, rfl⟩
  have nD : H2 D = none := I2.hok.fresh (Nat.le_of_eq hD)
  obtain ⟨W, ⟨m0, w0⟩, turn⟩ := q D nD
  have obj0 : ObjOk X.prog X.w (upd H2 D (.lst [])) (s2.heap.push { cls := .type "list", data := .seq ([] : List Value).toArray }) D (.lst []) := ⟨Nat.zero_le _, [], 0, .nil, by rw [← hD]; exact Heap.get?_push_size _ rfl⟩
  have I3 := I2.laid (t' := s2.toks) (fun b o e => Heap.get?_push_of_some _ e) (Nat.le_of_eq hD) obj0
  rw [hD]
  obtain ⟨s3, hs3⟩ : ∃ s3 : Shared, s3 = { s2 with heap := s2.heap.push { cls := .type "list", data := .seq ([] : List Value).toArray } } := ⟨_, rfl⟩
  have hh3 : s3.heap = s2.heap.push { cls := .type "list", data := .seq ([] : List Value).toArray } := by rw [hs3]
  rw [← hs3] at I3
  obtain ⟨H3, hH3⟩ : ∃ H3, H3 = upd H2 D (.lst []) := ⟨_, rfl⟩
  rw [← hH3] at I3 w0
  have small : ∀ b ∈ fp, b < s2.heap.objs.size := fun b hb => by
    obtain ⟨o, e, _⟩ := T.obj _ _ st2 b hb
    exact Heap.lt_size e
  have f3 : ∀ b ∈ fp, FpOk X pins H3 b ∧ b < s3.heap.objs.size := fun b hb => by
    refine ⟨⟨?_, (f2 b hb).2⟩, by rw [hh3, Heap.size_push]; exact Nat.lt_succ_of_lt (small b hb)⟩
    rw [hH3, upd_ne (by rw [← hD]; exact Nat.ne_of_lt (small b hb))]
    exact (f2 b hb).1
  have st3 : tn 0 s3.heap := T.keep _ _ _ st2 fun b _ o e => by rw [hh3]; exact Heap.get?_push_of_some _ e
  have I4 := hot_start hp I3 ok hN f3
  have pg := hG s3 H3 s3.heap.objs.size (cellsFrom (s3.heap.objs.size + 1) scope.names (cloFrom X.env.cells scope.names [])) fp
  have pt := hT s3 H3 s3.heap.objs.size (cellsFrom (s3.heap.objs.size + 1) scope.names (cloFrom X.env.cells scope.names [])) fp
  have pe := hE s3 H3 s3.heap.objs.size (cellsFrom (s3.heap.objs.size + 1) scope.names (cloFrom X.env.cells scope.names [])) fp
  have nfp : ∀ b ∈ fp, H3 b = none := fun b hb => (f3 b hb).1.1
  obtain ⟨ce, hce⟩ : ∃ ce, ce = compEnvC scope (cellsFrom (s3.heap.objs.size + 1) scope.names (cloFrom X.env.cells scope.names [])) s3.heap.objs.size X.env := ⟨_, rfl⟩
  have cL : ce.locals = s3.heap.objs.size := by rw [hce]; rfl
  rw [← hce] at I4 pg pt pe
  have go : codeAny (model X.prog X.w) X.A (.compStart (.ListComp elt [⟨tg, iter, ifs, 0⟩] scope pos) 0 (.ref it) (.ref D) ce) (compPost (model X.prog X.w) X.A X.xe use Qf (.ref D) s3.heap.objs.size) { s3 with heap := pushCells (s3.heap.push { cls := .type "dict", data := .dict #[] }) scope.names } := by
    obtain ⟨s4, hs4⟩ : ∃ s4 : Shared, s4 = { s3 with heap := pushCells (s3.heap.push { cls := .type "dict", data := .dict #[] }) scope.names } := ⟨_, rfl⟩
    rw [← hs4] at I4 ⊢
    have st4 : tn 0 s4.heap := T.keep _ _ _ st3 fun b _ o e => by rw [hs4]; exact pushCells_keeps _ _ _ _ (Heap.get?_push_of_some _ e)
    have hotc : L2H.HotC (hotB X p s3 H3 scope ce fp) := ⟨p, h1, List.mem_append_right _ (List.mem_singleton.mpr rfl)⟩
    have stat : ∀ {σ' : L2.St} {H' : Hp} {s' : Shared}, Inv (hotB X p s3 H3 scope ce fp) [] σ' H' s' → (∀ b ∈ fp, H' b = none) → (∀ b ∈ fp, b ≠ p.1) → ∀ b ∈ fp, FpOk (hotB X p s3 H3 scope ce fp) [] H' b := fun {σ' H' s'} I' hn hne b hb =>
      ⟨hn b hb, (I'.ok.exf b hb).1, I'.ok.exfs b hb, .inl hb, fun x c e => (I'.ok.exf b hb).2 x c e, fun q hq => by
        have hq' : q ∈ ([] ++ [p]) ++ ([] : List (Addr × Obj)) := hq
        have hq2 : q = p := by simpa using hq'
        rw [hq2]
        exact (hne b hb).symm⟩
    have hne : ∀ b ∈ fp, b ≠ p.1 := fun b hb z => (f2 b hb).2.2.2.2.2 p (List.mem_append_left _ hp) z.symm
    have loop : codeAny (model X.prog X.w) X.A (.compLoop (.ListComp elt [⟨tg, iter, ifs, 0⟩] scope pos) 0 (.ref it) (.ref D) ce) (compPost (model X.prog X.w) X.A X.xe use Qf (.ref D) s3.heap.objs.size) s4 := by
      refine compLoop_any (fun n s' => ∃ i H', Inv (hotB X p s3 H3 scope ce fp) [] (L2.wipe σ (own.map (·.2))) H' s' ∧ tn i s'.heap ∧ (∀ b ∈ fp, H' b = none) ∧ W i n H') ?_ m0 ⟨0, H3, I4, st4, nfp, w0⟩
      rintro n s5 ⟨i, H5, I5, st5, n5, w5⟩
      rcases turn i n H5 w5 with ⟨stop, qq⟩ | ⟨goes, Nx, hNx, step⟩
      · refine thnF (T.done (hotB X p s3 H3 scope ce fp) rfl rfl rfl hotc i [] s5 _ H5 (fun _ _ => False) I5 (stat I5 n5 hne) st5 stop) fun r s6 hr => ?_
        obtain ⟨rfl, I6⟩ := hr
        have I7 : Inv X pins σ H5 s6 := I3.call' (ch := fp) I6.os I6.base I6.hok I6.bare fun b hb => ⟨(f3 b hb).1.2.2.2.1, (f3 b hb).1.2.1, (f3 b hb).1.2.2.2.2.1, (f3 b hb).1.2.2.2.2.2⟩
        have nC : H5 s3.heap.objs.size = none := by
          have z : H5 ce.locals = none := I6.free
          rwa [cL] at z
        obtain ⟨m, hn, _⟩ := I6.loc
        have hn' : s6.heap.Ns ce.locals m := hn
        rw [cL] at hn'
        exact fin D s3.heap.objs.size s6 m H5 I7 qq hn' (I3.fpOk (Nat.le_refl _) nC)
      · refine thnF (T.item (hotB X p s3 H3 scope ce fp) rfl rfl rfl hotc i [] s5 _ H5 (fun _ _ => False) I5 (stat I5 n5 hne) st5 goes) fun r s6 hr => ?_
        obtain ⟨u, rfl, h6⟩ := hr
        refine thnF h6 fun _ s7 hh => ?_
        obtain ⟨x, H7, I7, r7, y7, st7, n7⟩ := hh
        have I7' := I7.pinned (stat I7 n7 hne) (T.obj _ _ st7)
        refine thnF (pg.run _ s7 _ H7 x u _ I7' r7 (step x H7 y7)) fun _ s8 hh8 => ?_
        obtain ⟨σ8, H8, I8, hw8, q8⟩ := hh8
        refine thnF (pt.run _ s8 σ8 H8 _ I8 q8) fun b s9 hh9 => ?_
        obtain ⟨H9, I9, q9⟩ := hh9
        have again : ∀ {s' : Shared} {H' : Hp}, Inv (hotB X p s3 H3 scope ce fp) ([] ++ pinsAt fp s7.heap) σ8 H' s' → Nx H' → ∃ m, m < n ∧ ∃ i H', Inv (hotB X p s3 H3 scope ce fp) [] (L2.wipe σ (own.map (·.2))) H' s' ∧ tn i s'.heap ∧ (∀ b ∈ fp, H' b = none) ∧ W i m H' := fun {s' H'} I' nx => by
          obtain ⟨m', hm, w'⟩ := hNx H' nx
          have kept : ∀ b ∈ fp, ∀ o, s7.heap.get? b = some o → s'.heap.get? b = some o ∧ H' b = none := fun b hb o e => by
            have z := I'.pin (b, o) (List.mem_append_right _ (List.mem_append_right _ (mem_pinsAt hb e)))
            exact ⟨z.1, z.2.1⟩
          refine ⟨m', hm, i + 1, H', (I'.unpinned (pins := [])).weak (by rw [← hw8, L2.wipe_length]) (fun j v e => ?_), T.keep _ _ _ st7 fun b hb o e => (kept b hb o e).1, fun b hb => ?_, w'⟩
          · rw [← hw8] at e
            exact (wipe_some e).1
          · obtain ⟨o, e, _⟩ := T.obj _ _ st7 b hb
            exact (kept b hb o e).2
        cases b with
        | false =>
          simp only [Bool.false_eq_true, if_false] at q9 ⊢
          exact again I9 q9
        | true =>
          simp only [if_true] at q9 ⊢
          refine thnF (pe.run _ s9 σ8 H9 _ I9 q9) fun z s10 hh10 => ?_
          obtain ⟨yv, H10, I10, r10, acc, hD10, hz10, nx⟩ := hh10
          exact app_ok (X := hotB X p s3 H3 scope ce fp) I10 hD10 hz10 r10 fun s11 I11 => again I11 nx
    exact codeAny_compStart_list loop (T.self X.A 0 _ _ _ st4 loop)
  rw [hce] at go
  rw [hs3] at go
  exact go
/-- name = [..] over a range, in an except suite -/
def DIH (X : Cx) (tg iter : Expr) (q : QI) : Prop := ∀ W, L2N.Takes X W → L2H.PIH X tg iter (liftI X.K W q)
theorem dih_range1 {tg a : Expr} {qa : QA} {pc pos : Pos} (hg : Gl X "range") (hm : X.mg "range" = none) (ha : DA X [a] qa) (hs : starEach [a] X.env = [(false, eval a X.env)] := by rfl) : DIH X tg (.Call (.Name "range" pc) [a] [] pos) (iRange1 qa) := fun W tk => by
  refine ⟨fun pins s σ H R I h => (L2H.pi_range1H hg hm (ha W tk) hs).run pins s σ H R I ?_⟩
  obtain ⟨loc, S, P, E, rl, rep, hq, g, gx⟩ := h
  refine ⟨loc, S, _, E, rl, rep, hq, fun ds S1 vs H1 q1 k1 rep1 r1 => ?_, gx⟩
  dsimp only at q1
  split at q1
  · obtain ⟨v, e, r2⟩ := rvs_one r1
    exact ⟨_, by rw [e, rv_int r2], q1.1, q1.2.1, g _ _ _ _ q1.2.2 k1 rep1 rel_range⟩
  · exact q1.elim
theorem ds_setLcH {i : Nat} {y : Str} {py pos : Pos} {elt tg iter : Expr} {ifs : List Expr} {scope : Scope} {own : List (Str × Nat)} {spos : Pos} {it : QI} {g : QG} {tt : QT} {te : QE} (h1 : L2H.Hot1 X.A p) (hp : p ∈ X.pn) (hN : X.N.Nodup) (hy : X.N[i]? = some y) (hyl : X.env.scope.names.lookup y = some .local)
    (hsw : swapsWith (.ListComp elt [⟨tg, iter, ifs, 0⟩] scope pos) (some (.Name y py)) spos.line X.env = pure true) (hi : DIH X tg iter it) (ok : BlkOk X.N X.env.scope scope own)
    (hg : ∀ (s : Shared) (H : Hp) (C : Addr) (cl : List (Str × Addr)) (fp : List Addr), DGo (hotB X p s H scope (compEnvC scope cl C X.env) fp) tg (own.map (·.2)) g) (ht : ∀ (s : Shared) (H : Hp) (C : Addr) (cl : List (Str × Addr)) (fp : List Addr), DTs (hotB X p s H scope (compEnvC scope cl C X.env) fp) ifs tt)
    (he : ∀ (s : Shared) (H : Hp) (C : Addr) (cl : List (Str × Addr)) (fp : List Addr), DE (hotB X p s H scope (compEnvC scope cl C X.env) fp) elt te) (hs : ∀ x, foldedSetIterable iter X.env x = pure x := by intro _; rfl) :
    DS X (.Assign [.Name y py] (.ListComp elt [⟨tg, iter, ifs, 0⟩] scope pos) spos) (sSet i (qLc it g tt te (own.map (·.2)))) := fun W tk => by
  refine ⟨fun pins s σ H D I h => ?_⟩
  obtain ⟨loc, S, P, rl, rep, hq, go⟩ := h
  rw [exec_Assign_Name_used _ _ _ _ hsw]
  refine wpAny_bind (wpAny_standAt (wpAny_bind ?_))
  show wpAny _ X.A (do let _ ← comprehension (.ListComp elt [⟨tg, iter, ifs, 0⟩] scope pos) scope X.env (firstIterPos [⟨tg, iter, ifs, 0⟩] pos) (newList []) false (eval iter X.env) (some (assign (.Name y py) X.env))) _ _ s
  have hl : lift X.K W (qLc it g tt te (own.map (·.2))) σ H fun x H1 => gName i x σ H1 D.nx :=
    ⟨loc, S, _, _, rl, rep, hq, fun d S1 v H1 q1 k1 rep1 r1 => go.nx _ _ _ _ q1 k1 ((rl.keep k1).set r1 i) rep1, go.gx rl⟩
  refine wpAny_bind (thn (lcH (g := liftGo X.K (own.map fun (x : Str × Nat) => x.2) g) (tt := liftT X.K (fun _ _ _ _ => False) tt) (te := lift X.K (fun _ _ _ _ => False) te) (Qf := fun _ s' => SP X pins D .next s') h1 hp hN I (hi W tk) ok hg (fun s H C cl fp => ht s H C cl fp _ takes0) (fun s H C cl fp => he s H C cl fp _ takes0) hs (lc_imp hl) fun L C s' m H' I' q hn f => ?_) fun _ s' hq => wpAny_pure (wpAny_pure hq))
  show wpAny _ _ (assign (.Name y py) X.env (.ref L)) _ _ _
  refine wpAny_assign_Name (store_ok2 (v := V.ref L) I' hN hy (.inl hyl) rfl (fun s2 I2 hsb => ?_) (.inr hyl))
  obtain ⟨a, sb, ha⟩ := hsb
  obtain ⟨f0, f1, f2, f3, f4, f5⟩ := f
  have haC : C ≠ a := by
    rcases ha with z | z
    · rw [z]
      exact f1
    · exact fun e => f4 y a z e.symm
  exact ⟨m, hn.sameBut sb haC, fun h3 sb3 => ⟨_, H', I2.turned (t' := s2.toks) (fun b o hb e => (sb3.2 b hb).trans e) f0 f1 f3 f4 f5, q⟩⟩

/-! ## try: .. except x as n: .. -/
theorem RL.setNone {K : PySem.W.Frag} {H : Hp} {loc : Loc} {σ : L2.St} (r : RL K H loc σ) (i : Nat) : RL K H (loc.set i none) (σ.set i none) := by
  refine ⟨by simp [r.len], fun j x h => ?_⟩
  by_cases e : i = j
  · subst e
    by_cases hl : i < loc.length
    · rw [List.getElem?_set_self hl] at h
      cases h
    · rw [List.getElem?_eq_none (by simpa using hl)] at h
      cases h
  · rw [List.getElem?_set_ne e] at h
    obtain ⟨w, a, b⟩ := r.at_ j x h
    exact ⟨w, by rw [List.getElem?_set_ne e]; exact a, b⟩
def goneN (i : Nat) (P : QN) : QN where
  nx := fun l s => P.nx (l.set i none) s
  rt := P.rt
  bk := fun l s => P.bk (l.set i none) s
  ct := fun l s => P.ct (l.set i none) s
  ex := fun _ _ _ => False
def sTry (Cs : List Addr) (i : Nat) (tb : QS) (ts : Addr → Addr → QS) : QS := fun P loc S => tb { P with ex := fun x loc' S' => x.fld = none ∧ x.cls ∈ Cs ∧ ∀ a, S' a = none → ts x.cls a (goneN i P) (loc'.set i (some (.ref a))) S' } loc S
theorem ds_try {x n : Str} {CS : Addr} {Cs : List Addr} {i : Nat} {body suite : List Stmt} {b₀ : Stmt} {np pos pos' : Pos} {tb : QS} {ts : Addr → Addr → QS} (hs : X.stack = X.env :: X.outer) (hf : X.env.frame = some X.env.locals) (hN : X.N.Nodup) (hi : X.N[i]? = some n) (hln : X.env.kindOf n = some .local) (hc : Names X x (.ref CS))
    (hx : ∀ C ∈ Cs, PySem.W.exmOne X.K (.ref C) (.ref CS) = some true) (hb : ∀ pn xe, PassesOwn (model X.prog X.w) X.A X.env xe → DB (X.tr pn xe) body tb)
    (hsu : ∀ (a : Addr) (oe : Obj) (C : Addr) (pn : List (Addr × Obj)), C ∈ Cs → L2N.Zn (.ref C) none oe → (∃ vs, oe.data = .fields vs) → DB (X.suite a ((a, oe) :: pn)) (b₀ :: suite) (ts C a)) :
    DS X (.Try body [.ExceptHandler (some (.Name x np)) (some n) (b₀ :: suite) pos'] [] [] pos) (sTry Cs i tb ts) := fun W tk => by
  refine PS.imp (L2N.ps_try_as (tb := fun W => liftS X.K W tb) (ts := fun a c d => fun D σ H => ∃ C, C ∈ Cs ∧ c = .ref C ∧ d = none ∧ liftS X.K (fun _ _ _ _ => False) (ts C a) D σ H) hs hf hN hi hln hc tk (fun W pn xe tk' po => hb pn xe po W tk') fun a oe c d pn hz hd => ?_) fun D σ H h => ?_
  · refine ⟨fun pins s σ H D I h => ?_⟩
    obtain ⟨C, hC, rfl, rfl, h⟩ := h
    exact (hsu a oe C pn hC hz hd _ takes0).run pins s σ H D I h
  · obtain ⟨loc, S, P, rl, rep, hq, g⟩ := h
    refine ⟨loc, S, _, rl, rep, hq, g.nx, g.rt, g.bk, g.ct, fun y loc' S' σ' H' c d z k rl' rep' rx => ?_⟩
    obtain ⟨hfd, hC, h⟩ := z
    obtain ⟨e1, e2⟩ := rx
    rw [hfd] at e2
    subst e1
    have e2 : d = none := e2
    subst e2
    refine ⟨true, hx _ hC, fun _ a na => ⟨y.cls, hC, rfl, rfl, loc'.set i (some (.ref a)), S', goneN i P, rl'.set rv_ofR i, rep', h a (rep'.free na), ?_⟩, fun z => nomatch z⟩
    have g' := g.keep k
    exact ⟨fun l s σ2 H2 p k2 rl2 rep2 => g'.nx _ _ _ _ p k2 (rl2.setNone i) rep2, g'.rt, fun l s σ2 H2 p k2 rl2 rep2 => g'.bk _ _ _ _ p k2 (rl2.setNone i) rep2, fun l s σ2 H2 p k2 rl2 rep2 => g'.ct _ _ _ _ p k2 (rl2.setNone i) rep2, fun _ _ _ _ _ _ _ z => z.elim⟩
theorem hot_suite {a : Addr} {oe : Obj} {C : Addr} {pn : List (Addr × Obj)} (hz : L2N.Zn (.ref C) none oe) (hd : ∃ vs, oe.data = .fields vs) : L2H.Hot1 (X.suite a ((a, oe) :: pn)).A (a, oe) := by
  obtain ⟨vs, hv⟩ := hd
  exact ⟨rfl, vs, hv, hz.2.2 vs hv⟩
/-! ## isinstance(e, C) of the exception in hand; a class by its name -/
theorem de_globR {x : Str} {a : Addr} {pos : Pos} (hg : Gl X x) (hm : X.mg x = some (.ref a)) (hd : (x == ("__debug__" : Str)) = false := by decide) : DE X (.Name x pos) (qC (.ref a)) :=
  de_const (pe_glob (v := .ref a) hg hm rfl hd) fun _ => rv_ofR
def cIsE (K : PySem.W.Frag) (a C : Addr) : QC := fun ds S P => ∃ c b, ds = [.ref a, .ref c] ∧ PySem.W.kitOne K (.ref C) (.ref c) = some b ∧ P (.bl b) S
theorem cd_isE {a C : Addr} {oe : Obj} {pn : List (Addr × Obj)} (T : ExcC X.K C) (hz : L2N.Zn (.ref C) none oe) (hd : ∃ vs, oe.data = .fields vs) : CDok (X.suite a ((a, oe) :: pn)) (.builtin "isinstance") (cIsE X.K a C) := by
  refine ⟨_, call_isE T hz.zc hd, fun ds S P H vs Q q rep r go => ?_⟩
  obtain ⟨c, b, rfl, e, hp⟩ := q
  obtain ⟨v, w, rfl, r1, r2⟩ := rvs_two r
  exact ⟨.ref c, .ref c, b, by rw [rv_ref r1, rv_ref r2], fun u hu => hu, e, go.now hp rep rv_ofB⟩
end
end PL

namespace PL
open PySem PySem.Spec PyProof.Rows L2 -- the layers
/-! ## the end of a law's row -/
section
variable {P : Program} {w : World} {K : PySem.W.Frag} {mg mb : Str → Option Value} {fa a : Addr} {cs : List (Addr × Addr)} {s₁ : Shared} {vs : List Value} {ns : List Int}
abbrev tabObj : Obj := { cls := .none, data := .fields #[] }
abbrev scrObj (vs : List Value) : Obj := { cls := .type "list", data := .seq vs.toArray }
/-- what is tracked at the law's entry: the tables; the script, where the written part does not hold it -/
def entryH (K : PySem.W.Frag) (cs : List (Addr × Addr)) (a : Addr) (vs : List Value) (ns : List Int) : Hp := fun b =>
  if b ∈ cs.map (·.2) then some (.tbl #[]) else if b = a ∧ K.lookup a = none then some (.frz (scrObj vs) (.lst (ns.map V.int))) else none
def entryS (cs : List (Addr × Addr)) (nm : Addr → Str) : Sto := fun b => if b ∈ cs.map (·.2) then some (.tab (nm b)) else none
def entryT (cs : List (Addr × Addr)) (nm : Addr → Str) : List (Addr × Str) := cs.map fun p => (p.2, nm p.2)
theorem entry_tabOk {nm : Addr → Str} : TabOk (entryT cs nm) (entryS cs nm) := by
  refine ⟨fun p hp => ?_, fun b q h => ?_⟩
  · obtain ⟨c, hc, rfl⟩ := List.mem_map.mp hp
    exact if_pos (List.mem_map.mpr ⟨c, hc, rfl⟩)
  · unfold entryS at h
    by_cases hb : b ∈ cs.map (·.2)
    · rw [if_pos hb] at h
      cases h
      obtain ⟨c, hc, rfl⟩ := List.mem_map.mp hb
      exact List.mem_map.mpr ⟨c, hc, rfl⟩
    · rw [if_neg hb] at h
      cases h
theorem rvs_intsOf {H : Hp} : ∀ ns : List Int, RVs K H (ns.map D.int) (ns.map V.int)
  | [] => RVs.nil_iff.mpr rfl
  | n :: ns => by
    show RVs K H (D.int n :: ns.map D.int) (V.int n :: ns.map V.int)
    unfold RVs
    exact ⟨_, _, rfl, rv_ofI, rvs_intsOf ns⟩
theorem entry_cases {b : Addr} {u : HO} (h : entryH K cs a vs ns b = some u) : (b ∈ cs.map (·.2) ∧ u = .tbl #[]) ∨ (b = a ∧ K.lookup a = none ∧ u = .frz (scrObj vs) (.lst (ns.map V.int))) := by
  unfold entryH at h
  split at h
  · rename_i hb
    exact .inl ⟨hb, (Option.some.inj h).symm⟩
  · split at h
    · rename_i hb
      exact .inr ⟨hb.1, hb.2, (Option.some.inj h).symm⟩
    · cases h
theorem end_call {k : Nat} {fd : FuncData} {x : Str} {sp : QF} {nm : Addr → Str}
    (KX : K.In s₁.heap) (hns : s₁.heap.Ns mainGlobals mg) (hb : s₁.heap.Ns builtinsNs mb) (hbb : ∀ x : Str, x ≠ "__name__" → mb x = bootBuiltins x) (hlim : s₁.heap.NoLimit) (hg : s₁.gens = #[])
    (hT : ∀ p ∈ cs, s₁.heap.get? p.2 = some tabObj) (nT : ∀ p ∈ cs, K.lookup p.2 = none) (hC : ∀ p ∈ cs, PySem.W.codeHdIn K p.1 p.2 = true)
    (hbm : ∃ (bm : Addr) (ob : Obj), mg "__builtins__" = some (.ref bm) ∧ bm ≠ builtinsNs ∧ s₁.heap.get? bm = some ob ∧ ob.cls = .type "module" ∧ ob.dict = some builtinsNs ∧ ob.data = .plain)
    (ha : s₁.heap.get? a = some (scrObj vs)) (hi : IntsAre vs ns) (hl : ns.length ≤ sizeLine) (hr : Room k callerA)
    (F : ∀ base : Heap, K.In base → base.Ns mainGlobals mg → (∀ p ∈ cs, LamX.TabB base mg p.1 p.2) → FnG P w K mg base k fa fd [x] sp) (hbind : ∀ (s : Shared) (u : Value), BindsTo s fd ⟨[u], []⟩ [(x, u)])
    (hsp : sp [.rol (ns.map D.int)] (entryS cs nm) (fun d _ => d = .bl true) fun _ _ => False) :
    codeAny (model P w) callerA (.call (.ref fa) ⟨[.ref a], []⟩) (fun r s' => r = .ok (.ret (.bool true)) ∧ OldK s₁.heap s'.heap ∧ s'.os = s₁.os ∧ AllBare s'.gens) s₁ := by
  have rv := vals_ints hi
  have lenV := hi.length
  have tabAt : ∀ b, b ∈ cs.map (·.2) → s₁.heap.get? b = some tabObj ∧ K.lookup b = none := fun b z => by
    obtain ⟨p, hp, rfl⟩ := List.mem_map.mp z
    exact ⟨hT p hp, nT p hp⟩
  have aNo : a ∉ cs.map (·.2) := fun z => by
    have e := (tabAt a z).1
    rw [ha] at e
    have e2 : Data.seq vs.toArray _ = Data.fields #[] := congrArg Obj.data (Option.some.inj e)
    cases e2
  generalize hHdef : entryH K cs a vs ns = H
  have hCases : ∀ {b u}, H b = some u → (b ∈ cs.map (·.2) ∧ u = .tbl #[]) ∨ (b = a ∧ K.lookup a = none ∧ u = .frz (scrObj vs) (.lst (ns.map V.int))) := fun {b u} h => entry_cases (by rw [hHdef]; exact h)
  have hTab : ∀ b, b ∈ cs.map (·.2) → H b = some (.tbl #[]) := fun b z => by
    rw [← hHdef]
    exact if_pos z
  have hScr : K.lookup a = none → H a = some (.frz (scrObj vs) (.lst (ns.map V.int))) := fun z => by
    rw [← hHdef]
    exact (if_neg aNo).trans (if_pos ⟨rfl, z⟩)
  -- what is tracked is a table or the script
  have free : ∀ {b : Addr} {o : Obj}, s₁.heap.get? b = some o → (∀ xs n, o.data ≠ .seq xs n) → o.data ≠ .fields #[] → H b = none := fun {b o} e h1 h2 => by
    cases q : H b with
    | none => rfl
    | some u =>
      rcases hCases q with ⟨z, _⟩ | ⟨z, _, _⟩
      · rw [(tabAt b z).1] at e
        cases e
        exact (h2 rfl).elim
      · rw [z, ha] at e
        cases e
        exact (h1 _ _ rfl).elim
  have inB : ∀ {b : Addr} {o : Obj}, s₁.heap.get? b = some o → (∀ xs n, o.data ≠ .seq xs n) → o.data ≠ .fields #[] → (hidT s₁.heap H).get? b = some o := fun e h1 h2 => hidT_get e (free e h1 h2)
  have nsB : ∀ {b : Addr} {m : Str → Option Value}, s₁.heap.Ns b m → (hidT s₁.heap H).Ns b m := fun {b m} z => by
    obtain ⟨o, es, ep, e, d, r⟩ := z
    exact ⟨o, es, ep, inB e (fun xs n z => by rw [d] at z; cases z) (fun z => by rw [d] at z; cases z), d, r⟩
  have kB : K.In (hidT s₁.heap H) := fun b o e => hidT_get (KX b o e) (by
    cases q : H b with
    | none => rfl
    | some u =>
      rcases hCases q with ⟨z, _⟩ | ⟨z, z2, _⟩
      · rw [(tabAt b z).2] at e
        cases e
      · rw [z, z2] at e
        cases e)
  have modB : L2.Mod K mg (hidT s₁.heap H) := ⟨kB, nsB hns, ⟨mb, nsB hb, hbb⟩, by
    obtain ⟨mc, h1, h2⟩ := hlim
    exact ⟨mc, nsB h1, h2⟩⟩
  have okH : HOk P w H s₁.heap := fun b u e => by
    rcases hCases e with ⟨z, rfl⟩ | ⟨rfl, _, rfl⟩
    · exact (tabAt b z).1
    · exact ⟨ha, by rw [List.length_map]; exact hl, vs, _, rv, ha⟩
  have tbB : ∀ p ∈ cs, LamX.TabB (hidT s₁.heap H) mg p.1 p.2 := fun p hp => by
    refine ⟨PySem.W.codeHd_of_K kB (hC p hp), ?_, fun z => ?_⟩
    · obtain ⟨bm, ob, b1, b2, b3, b4, b5, b6⟩ := hbm
      refine ⟨bm, ob, b1, b2, fun q => ?_, fun q => ?_, inB b3 (fun xs n z => by rw [b6] at z; cases z) (fun z => by rw [b6] at z; cases z), b4, b5, b6⟩
      · obtain ⟨o, es, ep, e, hd, _⟩ := hns
        rw [q, e] at b3
        cases b3
        rw [hd] at b6
        cases b6
      · rw [q, hT p hp] at b3
        cases b3
        cases b6
    · obtain ⟨o, es, ep, e, hd, _⟩ := hns
      rw [z, hT p hp] at e
      cases e
      cases hd
  have e0 : Env0 P w K mg (hidT s₁.heap H) callerA [] s₁ H := ⟨rfl, modB, fun b o e => of_hidT e, Nat.le_of_eq (hidT_size _ _), trivial, fun b hb => absurd (show b ∈ ([] : List Addr) from hb) (by simp), okH, .of_eq hg⟩
  have rol : Rol K H a (ns.map V.int) := by
    cases q : K.lookup a with
    | none => exact .inl ⟨_, hScr q⟩
    | some o =>
      have e := KX a o q
      rw [ha] at e
      cases e
      exact .inr ⟨_, vs.toArray, _, q, rfl, rfl, rfl, by rw [List.size_toArray, lenV]; exact hl, by simpa using rv⟩
  have rep : Rep K (entryS cs nm) H := fun b o e => by
    unfold entryS at e
    split at e
    · rename_i z
      cases e
      exact LamX.TabS.nil (hTab b z)
    · cases e
  have arg : RVs K H [D.rol (ns.map D.int)] [V.ref a] := RVs.one (by unfold RV; exact ⟨a, _, rfl, rol, rvs_intsOf ns⟩)
  refine codeAny_mono ((F _ kB (nsB hns) tbB).run callerA [] s₁ H ⟨[.ref a], []⟩ [.ref a] [.ref a] (fun v _ => v = .bl true) (fun _ _ _ => False) hr rfl e0 (hbind s₁ (.ref a)) (.cons rfl .nil)
    ⟨_, _, _, _, arg, rep, hsp, fun d S' v H' p _ _ r => by subst p; exact rv_bl r, fun _ _ _ _ _ z => z.elim⟩) fun r s' h => ?_
  match r, h with
  | .error e, h =>
    obtain ⟨_, _, _, _, _, _, _, _, _, _, _, _, z⟩ := h
    exact z.elim
  | .ok .next, h => exact False.elim h
  | .ok .brk, h => exact False.elim h
  | .ok .cont, h => exact False.elim h
  | .ok (.ret u), h =>
    obtain ⟨v, H', os, bare, un, ok', r', q⟩ := h
    have q' : v = .bl true := q
    subst q'
    obtain rfl : u = Value.bool true := r'
    have same : ∀ b o, b ∉ cs.map (·.2) → s₁.heap.get? b = some o → s'.heap.get? b = some o := fun b o nb e => by
      cases q : H b with
      | none => exact un.keep b o e q (by intro z; exact absurd (show b ∈ ([] : List Addr) from z) (by simp)) (by simp)
      | some u =>
        rcases hCases q with ⟨z, _⟩ | ⟨z1, _, z2⟩
        · exact absurd z nb
        · subst z2
          have e1 := (okH b _ q).1
          have e2 := (ok' b _ (un.frzs b _ _ q)).1
          rw [e] at e1
          cases e1
          exact e2
    have grown : ∀ b, b ∈ cs.map (·.2) → ∃ more : Array Value, s'.heap.get? b = some { cls := .none, data := .fields more } := fun b z => by
      obtain ⟨more, e⟩ := un.tbls b #[] (hTab b z)
      exact ⟨_, ok' b _ e⟩
    refine ⟨rfl, ⟨fun b o e => ?_, fun b o e => ?_⟩, os, bare⟩
    · by_cases z : b ∈ cs.map (·.2)
      · obtain ⟨more, e2⟩ := grown b z
        obtain ⟨p, hp, rfl⟩ := List.mem_map.mp z
        rw [hT p hp] at e
        cases e
        exact .inr (.inl ⟨((PySem.W.codeHd_of_K KX (hC p hp)).tab (hT p hp)).isCodeTable, rfl, #[], more, rfl, by rw [Array.empty_append]; exact e2⟩)
      · exact .inl (same b o z e)
    · by_cases z : b ∈ cs.map (·.2)
      · obtain ⟨more, e2⟩ := grown b z
        exact ⟨_, e2⟩
      · exact ⟨o, same b o z e⟩
end
/-- what is known of the law's promise at the head's heap h -/
def LawAt (l : PySem.W.OpenLaw) (w : World) (K : PySem.W.Frag) (k n : Nat) (x : Str) (mg : Str → Option Value) (fa : Addr) (h : Heap) : Prop :=
  ∃ (fd : FuncData) (cs : List (Addr × Addr)) (nm : Addr → Str) (sp : QF), (∀ p ∈ cs, h.get? p.2 = some tabObj) ∧ (∀ p ∈ cs, K.lookup p.2 = none) ∧ (∀ p ∈ cs, PySem.W.codeHdIn K p.1 p.2 = true) ∧ (∀ (s : Shared) (u : Value), BindsTo s fd ⟨[u], []⟩ [(x, u)]) ∧
    (∀ ns : List Int, ns.length ≤ n → (∀ z ∈ ns, Builtin.Int.intBits z ≤ 1048576) → sp [.rol (ns.map D.int)] (entryS cs nm) (fun d _ => d = .bl true) fun _ _ => False) ∧
    ∀ base : Heap, K.In base → base.Ns mainGlobals mg → (∀ p ∈ cs, LamX.TabB base mg p.1 p.2) → FnG l.prog w K mg base k fa fd [x] sp
theorem walk_law {l : PySem.W.OpenLaw} {n k : Nat} {q : Program} {loose : List Str} {XP : (Str → Option Value) → Heap → Prop} {YP : World → Heap → Prop} {d : DefRec} {x : Str}
    (hn : l.most = some n) (hn2 : n ≤ sizeLine) (hdf : d.params.defaults = []) (hr : Room k callerA)
    (F : ∀ (w : World) (mg : Str → Option Value) (fa : Addr) (h : Heap), YP w h → h.Ns mainGlobals mg → mg d.name = some (.ref fa) → ∃ K : PySem.W.Frag, K.In h ∧ LawAt l w K k n x mg fa h) :
    PySem.W.WalkO q loose XP YP l.row.toRowW d [] (fun f vs => PySem.call f vs) := by
  refine Att.attach_callB hn hdf fun w s₀ s₁ mg mb fa o pm cd doc a vs ns G Y ho hd hcd hmg hobj hints hlen hbits hg => ?_
  obtain ⟨K, KX, fd, cs, nm, sp, hT, nT, C, hb, hsp, hF⟩ := F w mg fa _ Y G.T.g hmg
  exact end_call KX G.T.g G.T.b G.T.builtins G.T.nolimit hg hT nT C G.T.bmain hobj hints (Nat.le_trans hlen hn2) hr hF hb (hsp ns hlen hbits)
end PL

namespace PL
open PySem PySem.Spec PyProof.Rows L2 -- the layers
/-! ## names of the errors; defs by name; what the printed derivations use -/
structure Ad where
  SlipError : Addr
  NotAllowed : Addr
  TooLarge : Addr
  Missing : Addr
  BadPaper : Addr
  BadForm : Addr
  Broken : Addr
def Ad.six (ad : Ad) : List Addr := [ad.NotAllowed, ad.TooLarge, ad.Missing, ad.BadPaper, ad.BadForm, ad.Broken]
def Ad.row (ad : Ad) (k : Nat) : Addr := ad.six.getD k 0
def GF (P : Program) (w : World) (K : PySem.W.Frag) (mg : Str → Option Value) (base : Heap) (x : Str) (ps : List Str) (k : Nat) (sp : QF) : Prop :=
  ∃ (f : Addr) (fd : FuncData), mg x = some (.ref f) ∧ PySem.W.keepIn K (.ref f) = true ∧ Binds K fd ps [] ∧ FnP P w K mg base k f fd ps sp
def GG (P : Program) (w : World) (K : PySem.W.Frag) (mg : Str → Option Value) (base : Heap) (x : Str) (ps : List Str) (k : Nat) (sp : QF) : Prop :=
  ∃ (f : Addr) (fd : FuncData), mg x = some (.ref f) ∧ PySem.W.keepIn K (.ref f) = true ∧ Binds K fd ps [] ∧ FnG P w K mg base k f fd ps sp
def ToldT (K : PySem.W.Frag) (mg : Str → Option Value) (st : Stmt) (ps : List Str) : Prop :=
  ∃ (g : Addr) (fd : FuncData), mg "_law_told" = some (.ref g) ∧ FunD K "_law_told" "_law_told" (defArgs st) (defBody st) (defScope st) [] [] g fd ∧ Binds K fd ps []
theorem u65 {k : Nat} {A : Around} (h : Room k A) : A.units + 65 < cLine := by have := h.un; omega
section
variable {X : Cx} {k : Nat} {x : Str} {ps : List Str} {sp : QF} {e : Expr} {es : List Expr} {qa : QA} {p pos : Pos}
theorem de_callF (G : GF X.prog X.w X.K X.mg X.base x ps k sp) (hr : Room k X.A) (hg : Gl X x) (ha : DA X (e :: es) qa) (hdb : (x == ("__debug__" : Str)) = false := by decide)
    (he : starEach (e :: es) X.env = (false, eval e X.env) :: starEach es X.env := by rfl) (hpl : (backTo pos (starEach es X.env)).any (·.1) = false := by rfl) : DE X (.Call (.Name x p) (e :: es) [] pos) (qCall sp qa) := by
  obtain ⟨f, fd, hm, hk, hb, F⟩ := G
  exact de_call F hr hg hm hk hb ha hdb he hpl
theorem de_callGG (G : GG X.prog X.w X.K X.mg X.base x ps k sp) (hr : Room k X.A) (hG : X.A.guards = some []) (hg : Gl X x) (ha : DA X (e :: es) qa) (hdb : (x == ("__debug__" : Str)) = false := by decide)
    (he : starEach (e :: es) X.env = (false, eval e X.env) :: starEach es X.env := by rfl) (hpl : (backTo pos (starEach es X.env)).any (·.1) = false := by rfl) : DE X (.Call (.Name x p) (e :: es) [] pos) (qCall sp qa) := by
  obtain ⟨f, fd, hm, hk, hb, F⟩ := G
  exact de_callG F hr hG hg hm hk hb ha hdb he hpl
end
theorem bb_len : bootBuiltins ("len" : Str) = some (.builtin "len") := by decide +kernel
theorem bb_abs : bootBuiltins ("abs" : Str) = some (.builtin "abs") := by decide +kernel
theorem bb_repr : bootBuiltins ("repr" : Str) = some (.builtin "repr") := by decide +kernel
theorem bb_max : bootBuiltins ("max" : Str) = some (.builtin "max") := by decide +kernel
theorem bb_min : bootBuiltins ("min" : Str) = some (.builtin "min") := by decide +kernel
theorem bb_all : bootBuiltins ("all" : Str) = some (.builtin "all") := by decide +kernel
theorem bb_any : bootBuiltins ("any" : Str) = some (.builtin "any") := by decide +kernel
theorem bb_sum : bootBuiltins ("sum" : Str) = some (.builtin "sum") := by decide +kernel
theorem bb_isinstance : bootBuiltins ("isinstance" : Str) = some (.builtin "isinstance") := by decide +kernel
theorem bb_int : bootBuiltins ("int" : Str) = some (.type "int") := by decide +kernel
theorem bb_tuple : bootBuiltins ("tuple" : Str) = some (.type "tuple") := by decide +kernel
theorem bb_list : bootBuiltins ("list" : Str) = some (.type "list") := by decide +kernel
section
variable {X : Cx}
def cIsK (ad : Ad) (a C : Addr) : QC := fun ds S P => ∃ c, c ∈ ad.six ∧ ds = [.ref a, .ref c] ∧ P (.bl (decide (C = c))) S
theorem cd_isK {ad : Ad} {a C : Addr} {oe : Obj} {pn : List (Addr × Obj)} (T : ExcC X.K C) (hk : ∀ c ∈ ad.six, PySem.W.kitOne X.K (.ref C) (.ref c) = some (decide (C = c))) (hz : L2N.Zn (.ref C) none oe) (hd : ∃ vs, oe.data = .fields vs) : CDok (X.suite a ((a, oe) :: pn)) (.builtin "isinstance") (cIsK ad a C) := by
  obtain ⟨r, o, hr⟩ := cd_isE (X := X) (a := a) (pn := pn) T hz hd
  refine ⟨r, o, fun ds S P H vs Q q rep rv go => hr ds S P H vs Q ?_ rep rv go⟩
  obtain ⟨c, hc, e, hp⟩ := q
  exact ⟨c, _, e, hk c hc, hp⟩
/-- a, b = a tuple or a list -/
def gU (n : Nat) (t : QGs) : QG := fun d loc S P E => ∃ xs, (d = .tup xs ∨ LsAt S d xs) ∧ xs.length = n ∧ t xs loc S P E
theorem dg_unp {es : List Expr} {k : Nat} {t : QGs} {n : Nat} {pos : Pos} (hc : X.calm = true) (h : DGs X es t)
    (hn : (assignEach es X.env).length = n := by rfl) (hst : (assignEach es X.env).findIdx? (·.1) = none := by rfl) : DG X (.Tuple es k pos) (gU n t) := fun W tk => by
  refine ⟨fun pins s σ H v u Q I r h' => ?_⟩
  obtain ⟨d, loc, S, P, E, rv, rl, rep, ⟨xs, hd, hl, hq⟩, g, gx⟩ := h'
  rcases hd with rfl | hd
  · exact (dg_tup hc h hn hst W tk).run pins s σ H v u Q I r ⟨_, loc, S, P, E, rv, rl, rep, ⟨hl, hq⟩, g, gx⟩
  · exact (dg_lst hc h hn hst W tk).run pins s σ H v u Q I r ⟨_, loc, S, P, E, rv, rl, rep, ⟨xs, hd, hl, hq⟩, g, gx⟩
abbrev oIn : QO := oInL id
abbrev oNotIn : QO := oInL not
theorem od_in (hu : X.A.units + 65 < cLine) : ODok X (compareOp .In) oIn := od_inL hu
theorem od_notIn (hu : X.A.units + 65 < cLine) : ODok X (compareOp .NotIn) oNotIn := od_notInL hu
/-- _law_told(lambda: ..) -/
theorem de_told {T : List (Addr × Str)} {qB : QE → QS} {c P : Addr} {k : Nat} {st : Stmt} {a : Str} {Ng : List Str} {params : Arguments} {body : Expr} {scope : Scope} {q : QE} {p lpos pos : Pos} (TL : ToldT X.K X.mg st [a]) (hg : Gl X "_law_told") (Sg : FnScope Ng [a] (defScope st)) (hNg : Ng[0]? = some a) (hva : Vis (defScope st) a)
    (hB : ∀ (g : Addr) (cdv : Value) (s : Shared) (H : Hp) (qc : QE), Room (k + 1) (X.A.deeper (envOfC "_law_told" (defScope st) s.heap.objs.size g cdv)) → (∀ (pn : List (Addr × Obj)) (xe : Value → Shared → Prop) (p1 p2 : Pos), DE ((gotCx X Ng "_law_told" (defScope st) g cdv X.A X.stack s H fun _ _ _ => False).tr pn xe) (.Call (.Name a p1) [] [] p2) qc) →
      DB (gotCx X Ng "_law_told" (defScope st) g cdv X.A X.stack s H fun _ _ _ => False) (defBody st) (qB qc))
    (TB : LamX.TabB X.base X.mg c P) (hcode : X.env.code = .ref c) (hmT : (P, X.env.qual ++ "<lambda>") ∈ T) (hu : ∀ p ∈ T, p.1 = P → p.2 = X.env.qual ++ "<lambda>") (hr : Room (k + 2) X.A) (L : LamX.LamS X.env.scope scope) (hdef : defaultsOf params X.env = ([], []))
    (hbind : ∀ (q : Str) (cl : List (Str × Addr)) (pm cv ctv : Value), bindArgs (PySem.W.kla_fn "<lambda>" q params body scope cl pm cv ctv) ⟨[], []⟩ = pure [])
    (hbody : ∀ (A : Around) (outer : List Env) (s : Shared) (H : Hp) (E : XK) (f c' : Addr), Room k (A.deeper (LamX.lamEnv X scope s.heap.objs.size f c')) → DE (lamN X A outer s H E scope f c') body q)
    (hd : (a == ("__debug__" : Str)) = false := by decide) (hcd : (a == ("__classdict__" : Str)) = false := by decide) :
    DE X (.Call (.Name "_law_told" p) [.Lambda params body scope lpos] [] pos) (qLam T Ng (X.env.qual ++ "<lambda>") qB q) := by
  obtain ⟨g, fd, hm, F, hb⟩ := TL
  obtain ⟨oc, od, dV, kV, doc, pm, an, cdv, ct, osl, rfl, lk, hcg, _, _⟩ := F.ex
  exact de_lam hg hm F.kp lk hcg hb Sg hNg hva (hB g cdv) TB hcode hmT hu hr L hdef hbind hbody (by decide) hd hcd
end
section
variable {P : Program} {w : World} {K : PySem.W.Frag} {mg : Str → Option Value} {base : Heap} {k : Nat} {f : Addr} {fd : FuncData} {ps : List Str} {sp : QF}
/-- the rule for a def whose code object is known -/
theorem FunD.pureC {x qual : Str} {params : Arguments} {body : List Stmt} {scope : Scope} {kws : List (Str × V)} {N : List Str} {q : QS} {c : Addr} (F : FunD K x qual params body scope [] kws f fd) (hc : fd.code = .ref c) (S : FnScope N ps scope)
    (hbody : ∀ (cdv : Value) (A : Around) (outer : List Env) (s : Shared) (H : Hp) (E : XK), cdv = .ref c → Room k (A.deeper (envOfC qual scope s.heap.objs.size f cdv)) → (A.deeper (envOfC qual scope s.heap.objs.size f cdv)).guards = some [] → DB (cxOf (L2N.CX P w) P w K mg base N qual scope f cdv A outer s H E) body q)
    (len : ∀ ds S Q E, sp ds S Q E → ds.length = ps.length) (spec : ∀ ds S Q E, sp ds S Q E → q (endsF Q E) (startD N ds) S) : FnG P w K mg base (k + 1) f fd ps sp := by
  refine ⟨len, fun A outer s H args us vs Q E hr hG e0 hb r h => ?_⟩
  obtain ⟨oc, od, dV, kV, doc, pm, an, cdv, ct, osl, rfl, lk, hcd, _, _⟩ := F.ex
  obtain ⟨ds, St, Pd, PE, rv, rep, h, g, gx⟩ := h
  refine LamX.run_ofS lk hcd S hr e0 hb r (by rw [← rv.length, len _ _ _ _ h]) fun hr' => ?_
  refine ⟨_, hbody cdv A outer s H E hc hr' (by exact hG) (fun c d _ H' => E c d H') (L2N.takes_of rfl rfl rfl rfl), ?_⟩
  exact ⟨startD N ds, St, endsF Pd PE, startD_len rv, rep, spec _ _ _ _ h, endsF_go g gx⟩
end
end PL

namespace PL
open PySem PySem.Spec PyProof.Rows L2 -- the layers
/-! ## what the readings say of values that are known -/
section
variable {S : Sto} {P : PD} {i j : Int} {x y : Str} {b c : Bool} {xs ys : List D} {a a' : Addr} {d e : D}
theorem oAdd_ii : oAdd (.int i) (.int j) S P = P (.int (i + j)) S := rfl
theorem oI_ii {C : Int → Int → Prop} {f : Int → Int → D} : oI C f (.int i) (.int j) S P = (C i j ∧ P (f i j) S) := rfl
theorem oEqW_ii {k : Bool → Bool} : oEqW k (.int i) (.int j) S P = P (.bl (k (decide (i = j)))) S := rfl
theorem oEqW_ss {k : Bool → Bool} : oEqW k (.str x) (.str y) S P = P (.bl (k (decide (x = y)))) S := rfl
theorem oEqW_bb {k : Bool → Bool} : oEqW k (.bl b) (.bl c) S P = P (.bl (k (decide (b = c)))) S := rfl
theorem oOrd_ii {f : Int → Int → Bool} {g : List Nat → List Nat → Bool} : oOrd f g (.int i) (.int j) S P = P (.bl (f i j)) S := rfl
theorem oOrd_ss {f : Int → Int → Bool} {g : List Nat → List Nat → Bool} : oOrd f g (.str x) (.str y) S P = P (.bl (g x.cps.toList y.cps.toList)) S := rfl
theorem oIx_t : oIx (.tup xs) (.int i) S P = ∃ d, atI xs i = some d ∧ P d S := rfl
theorem oIx_r : oIx (.rol xs) (.int i) S P = ∃ d, atI xs i = some d ∧ P d S := rfl
theorem oIx_p : oIx (.ptup xs) (.int i) S P = ∃ d, atI xs i = some d ∧ P d S := rfl
theorem oIx_l : oIx (.ref a) (.int i) S P = ∃ xs, S a = some (.lst xs) ∧ ∃ d, atI xs i = some d ∧ P d S := by
  refine propext ⟨fun ⟨xs, d, h1, h2, h3⟩ => ⟨xs, h1, d, h2, h3⟩, fun ⟨xs, h1, d, h2, h3⟩ => ⟨xs, d, h1, h2, h3⟩⟩
theorem oIx_s : oIx (.str x) (.int i) S P = (x.length ≤ sizeLine ∧ ∃ c, atI x.cps.toList i = some c ∧ P (.str ⟨#[c]⟩) S) := rfl
theorem bd_bl {Q : Bool → Prop} : bd (.bl b) Q = Q b := rfl
theorem tru_non {Q : Bool → Sto → Prop} : tru .non S Q = Q false S := rfl
theorem tru_bl {Q : Bool → Sto → Prop} : tru (.bl b) S Q = Q b S := rfl
theorem tru_int {Q : Bool → Sto → Prop} : tru (.int i) S Q = Q (i != 0) S := rfl
theorem tru_str {Q : Bool → Sto → Prop} : tru (.str x) S Q = (x.length ≤ sizeLine ∧ Q ((x.length : Int) != 0) S) := rfl
theorem tru_tup {Q : Bool → Sto → Prop} : tru (.tup xs) S Q = Q (!xs.isEmpty) S := rfl
theorem tru_rol {Q : Bool → Sto → Prop} : tru (.rol xs) S Q = Q (!xs.isEmpty) S := rfl
theorem tru_ref {Q : Bool → Sto → Prop} : tru (.ref a) S Q = ∃ xs, S a = some (.lst xs) ∧ Q (!xs.isEmpty) S := rfl
theorem cInt_i {f : Int → D} : cInt f [.int i] S P = P (f i) S := rfl
theorem cInt2_ii {f : Int → Int → D} : cInt2 f [.int i, .int j] S P = P (f i j) S := rfl
theorem cToInt_i : cToInt [.int i] S P = P (.int i) S := rfl
theorem cToInt_b : cToInt [.bl b] S P = P (.int (if b then 1 else 0)) S := rfl
theorem cLen_s : cLen [.str x] S P = (x.length ≤ sizeLine ∧ P (.int x.length) S) := rfl
theorem cLen_t : cLen [.tup xs] S P = P (.int xs.length) S := rfl
theorem cLen_r : cLen [.rol xs] S P = P (.int xs.length) S := rfl
theorem cLen_l : cLen [.ref a] S P = ∃ xs, S a = some (.lst xs) ∧ P (.int xs.length) S := rfl
theorem cTuple_t : cTuple [.tup xs] S P = P (.tup xs) S := rfl
theorem cTuple_r : cTuple [.rol xs] S P = P (.tup xs) S := rfl
theorem cTuple_l : cTuple [.ref a] S P = ∃ xs, S a = some (.lst xs) ∧ P (.tup xs) S := rfl
theorem cList_t : cList [.tup xs] S P = ∀ p, S p = none → P (.ref p) (ups S p (.lst xs)) := rfl
theorem cList_r : cList [.rol xs] S P = ∀ p, S p = none → P (.ref p) (ups S p (.lst xs)) := rfl
theorem cList_l : cList [.ref a] S P = ∃ xs, S a = some (.lst xs) ∧ ∀ p, S p = none → P (.ref p) (ups S p (.lst xs)) := rfl
theorem oSl_t {lo hi : Option Int} : oSl (.tup xs) lo hi S P = P (.tup (cutL xs lo hi)) S := rfl
theorem oSl_r {lo hi : Option Int} : oSl (.rol xs) lo hi S P = ∀ p, S p = none → P (.ref p) (ups S p (.lst (cutL xs lo hi))) := rfl
theorem oSl_l {lo hi : Option Int} : oSl (.ref a) lo hi S P = ∃ xs, S a = some (.lst xs) ∧ ∀ p, S p = none → P (.ref p) (ups S p (.lst (cutL xs lo hi))) := rfl
theorem oSl_s {lo hi : Option Int} : oSl (.str x) lo hi S P = (x.length ≤ sizeLine ∧ P (.str (cutS x lo hi)) S) := rfl
theorem mAppend_1 : mAppend a xs [d] S P = (xs.length < sizeLine ∧ P .non (ups S a (.lst (xs ++ [d])))) := rfl
theorem lst_inj : (some (O.lst xs) = some (O.lst ys)) = (xs = ys) := by simp
theorem ixN_lt {n j : Nat} (h : j < n) : ixN n (j : Int) = some j := by
  unfold ixN
  rw [if_pos (by omega), if_pos (by omega)]
  simp
theorem atI_lt {α : Type} {xs : List α} {j : Nat} : atI xs (j : Int) = xs[j]? := by
  by_cases h : j < xs.length
  · unfold atI
    rw [ixN_lt h]
    rfl
  · unfold atI ixN
    rw [if_pos (by omega), if_neg (by omega), List.getElem?_eq_none (by omega)]
    rfl
theorem atI_0 {x : D} {r : List D} : atI (x :: r) 0 = some x := atI_lt (j := 0)
theorem atI_1 {x y : D} {r : List D} : atI (x :: y :: r) 1 = some y := atI_lt (j := 1)
theorem atI_2 {x y z : D} {r : List D} : atI (x :: y :: z :: r) 2 = some z := atI_lt (j := 2)
theorem atI_3 {x y z u : D} {r : List D} : atI (x :: y :: z :: u :: r) 3 = some u := atI_lt (j := 3)
theorem ixN_1 {n : Nat} : ixN (n + 2) 1 = some 1 := ixN_lt (j := 1) (by omega)
theorem ixN_0 {n : Nat} : ixN (n + 1) 0 = some 0 := ixN_lt (j := 0) (by omega)
theorem ixN_21 : ixN 2 1 = some 1 := rfl
end
theorem ifT {c : Bool} {p q : Prop} (h : c = true) (x : p) : if c = true then p else q := by rw [if_pos h]; exact x
theorem ifF {c : Bool} {p q : Prop} (h : c = false) (x : q) : if c = true then p else q := by
  subst h
  exact x
theorem ex_some {α : Type} {x : α} {Q : α → Prop} : (∃ d, some x = some d ∧ Q d) = Q x := by simp
theorem ex_lst {xs : List D} {Q : List D → Prop} : (∃ ys, some (O.lst xs) = some (O.lst ys) ∧ Q ys) = Q xs := by simp
theorem ex_lst2 {α : Type} {xs : List D} {Q : List D → α → Prop} : (∃ ys j, some (O.lst xs) = some (O.lst ys) ∧ Q ys j) = ∃ j, Q xs j := by simp
/-! ## bounds -/
theorem CMul.ofL {i j : Int} (h : -1000000000000000000 < i ∧ i < 1000000000000000000) : IntMulOk i j := CMul.ok (.inl (by omega))
theorem CMul.ofR {i j : Int} (h : -1000000000000000000 < j ∧ j < 1000000000000000000) : IntMulOk i j := CMul.ok (.inr (by omega))
theorem log_of {n k : Nat} (h : n < 2 ^ k) (hk : 0 < k) : n.log2 < k := by
  by_cases e : n = 0
  · subst e
    exact hk
  · exact (Nat.log2_lt e).mpr h
theorem CDivA.small {i j : Int} (h : j ≠ 0) (k : -1000000000000000000 < j ∧ j < 1000000000000000000) : CDivA i j :=
  ⟨h, Nat.lt_of_lt_of_le (log_of (k := 60) (by omega) (by decide)) (by decide)⟩
/-! ## what is shown -/
mutual
/-- data without dicts, of numbers that can be written and characters that there are -/
def fine : PyData → Bool
  | .none => true
  | .bool _ => true
  | .int i => decide (i.natAbs.log2 < 1920)
  | .str x => x.cps.toList.all fun c => decide (c < 16 ^ 8)
  | .list xs => fines xs
  | .tuple xs => fines xs
  | .dict _ => false
def fines : List PyData → Bool
  | [] => true
  | x :: xs => fine x && fines xs
end
mutual
theorem fine_ok : ∀ p : PyData, fine p = true → p.showable = true ∧ p.hasDict = false
  | .none, _ => by simp [PyData.showable, PyData.hasDict]
  | .bool b, _ => by simp [PyData.showable, PyData.hasDict]
  | .int i, h => by
    unfold fine at h
    exact ⟨by unfold PyData.showable; exact h, by unfold PyData.hasDict; rfl⟩
  | .str x, h => ⟨by unfold PyData.showable; rfl, by unfold PyData.hasDict; rfl⟩
  | .list xs, h => by
    unfold fine at h
    unfold PyData.showable PyData.hasDict
    exact fines_ok xs h
  | .tuple xs, h => by
    unfold fine at h
    unfold PyData.showable PyData.hasDict
    exact fines_ok xs h
  | .dict _, h => by
    unfold fine at h
    cases h
theorem fines_ok : ∀ xs : List PyData, fines xs = true → PyData.showableAll xs = true ∧ PyData.hasDictAll xs = false
  | [], _ => by simp [PyData.showableAll, PyData.hasDictAll]
  | x :: xs, h => by
    unfold fines at h
    obtain ⟨h1, h2⟩ := Bool.and_eq_true_iff.mp h
    obtain ⟨a1, a2⟩ := fine_ok x h1
    obtain ⟨b1, b2⟩ := fines_ok xs h2
    unfold PyData.showableAll PyData.hasDictAll
    rw [a1, a2, b1, b2]
    exact ⟨rfl, rfl⟩
end
mutual
/-- no fewer characters than are shown -/
def sz : PyData → Nat
  | .none => 4
  | .bool _ => 5
  | .int i => i.natAbs.log2 + 2
  | .str x => 10 * x.length + 2
  | .list xs => szs xs + 3
  | .tuple xs => szs xs + 3
  | .dict _ => 0
def szs : List PyData → Nat
  | [] => 0
  | x :: xs => sz x + 2 + szs xs
end
mutual
theorem shown_sz : ∀ p : PyData, fine p = true → p.shown.length ≤ sz p
  | .none, _ => by
    unfold sz
    have e : (PyData.shown .none).length = 4 := rfl
    omega
  | .bool b, _ => by
    unfold sz
    have e : (PyData.shown (.bool b)).length ≤ 5 := by cases b <;> decide
    omega
  | .int i, h => by
    unfold sz
    rw [PyData.shown_int, PySem.ofString_length]
    have := int_text_length_le (a := i) (k := i.natAbs.log2 + 1) (by omega) (by omega)
    omega
  | .str x, h => by
    unfold sz
    unfold fine at h
    rw [PyData.shown_str]
    have := StrLaws.reprText_len x (by simpa only [List.all_eq_true, decide_eq_true_eq] using h)
    have e : x.length = x.cps.size := rfl
    omega
  | .list xs, h => by
    unfold fine at h
    unfold sz
    have h1 := shownAll_sz xs h
    have h2 := listText_len_le (PyData.shownAll xs)
    have h3 := PyData.shownAll_length xs
    simp only [PyData.shown]
    omega
  | .tuple xs, h => by
    unfold fine at h
    unfold sz
    have h1 := shownAll_sz xs h
    have h2 := tupleText_len_le (PyData.shownAll xs)
    have h3 := PyData.shownAll_length xs
    simp only [PyData.shown]
    omega
  | .dict _, h => by
    unfold fine at h
    cases h
theorem shownAll_sz : ∀ xs : List PyData, fines xs = true → ((PyData.shownAll xs).map (·.length)).sum + 2 * xs.length ≤ szs xs
  | [], _ => by simp [PyData.shownAll, szs]
  | x :: xs, h => by
    unfold fines at h
    obtain ⟨h1, h2⟩ := Bool.and_eq_true_iff.mp h
    have a1 := shown_sz x h1
    have a2 := shownAll_sz xs h2
    unfold szs
    rw [PyData.shownAll_cons, List.map_cons, List.sum_cons, List.length_cons]
    omega
end
theorem good_of {p : PyData} (h : fine p = true) (hw : sz p ≤ 16000000) (hd : p.depth ≤ 60) : good p := by
  obtain ⟨h1, h2⟩ := fine_ok p h
  refine ⟨h1, h2, ?_, hd⟩
  have := shown_sz p h
  have e : sizeLine = 16777216 := by decide
  omega
end PL

namespace PL
open PySem PySem.Spec PyProof.Rows L2 -- the layers
/-! ## what the head tells: the errors' classes -/
def adK (K : PySem.W.Frag) : Ad := ⟨He.ga K "SlipError", He.ga K "NotAllowed", He.ga K "TooLarge", He.ga K "Missing", He.ga K "BadPaper", He.ga K "BadForm", He.ga K "Broken"⟩
def excB (K : PySem.W.Frag) (D : Addr) : Bool :=
  decide (PySem.W.findIn K (.ref D) "__getattribute__" = some (some (.builtin "BaseException.__getattribute__"))) && (decide (PySem.W.findIn K (.ref D) "__getattr__" = some none) && (decide (PySem.W.subIn K (.ref D) (.type "BaseException") = some true) && (PySem.W.hasDictIn K D &&
    (decide (PySem.W.findIn K (.ref D) "__class__" = some (some (.builtin "object.__class__"))) && (decide (PySem.W.specialIn K (.builtin "object.__class__") "__get__" = some (some (.builtin "getset_descriptor.__get__"))) &&
      (decide (PySem.W.takesIn K (.builtin "object.__class__") = some true) && decide (PySem.W.mroIn K D (.type "object") = some true)))))))
theorem excB_ok {K : PySem.W.Frag} {D : Addr} (h : excB K D = true) : ExcC K D := by
  unfold excB at h
  simp only [Bool.and_eq_true, decide_eq_true_eq] at h
  obtain ⟨h1, h2, h3, h4, h5, h6, h7, h8⟩ := h
  exact ⟨h1, h2, h3, h4, h5, h6, h7, h8⟩
/-- the six classes: apart, each of its own kind alone, below SlipError -/
def sixB (K : PySem.W.Frag) : Bool :=
  (adK K).six.all fun C => excB K C && (decide (PySem.W.exmOne K (.ref C) (.ref (adK K).SlipError) = some true) && (adK K).six.all fun c => decide (PySem.W.kitOne K (.ref C) (.ref c) = some (decide (C = c))))
def nodupB : List Addr → Bool
  | [] => true
  | a :: r => (r.all fun b => decide (a ≠ b)) && nodupB r
theorem nodupB_ok : ∀ {l : List Addr}, nodupB l = true → l.Nodup
  | [], _ => List.nodup_nil
  | a :: r, h => by
    obtain ⟨h1, h2⟩ := Bool.and_eq_true_iff.mp h
    refine List.nodup_cons.mpr ⟨fun hm => ?_, nodupB_ok h2⟩
    exact of_decide_eq_true (List.all_eq_true.mp h1 a hm) rfl
def exB (K : PySem.W.Frag) : Bool := nodupB (adK K).six && sixB K
structure SixOk (K : PySem.W.Frag) : Prop where
  nd : (adK K).six.Nodup
  exc : ∀ C ∈ (adK K).six, ExcC K C
  exm : ∀ C ∈ (adK K).six, PySem.W.exmOne K (.ref C) (.ref (adK K).SlipError) = some true
  kit : ∀ C ∈ (adK K).six, ∀ c ∈ (adK K).six, PySem.W.kitOne K (.ref C) (.ref c) = some (decide (C = c))
theorem exB_ok {K : PySem.W.Frag} (h : exB K = true) : SixOk K := by
  obtain ⟨h1, h2⟩ := Bool.and_eq_true_iff.mp h
  have key : ∀ C ∈ (adK K).six, excB K C = true ∧ PySem.W.exmOne K (.ref C) (.ref (adK K).SlipError) = some true ∧ ∀ c ∈ (adK K).six, PySem.W.kitOne K (.ref C) (.ref c) = some (decide (C = c)) := fun C hC => by
    have z := List.all_eq_true.mp h2 C hC
    simp only [Bool.and_eq_true, decide_eq_true_eq, List.all_eq_true] at z
    exact z
  exact ⟨nodupB_ok h1, fun C hC => excB_ok (key C hC).1, fun C hC => (key C hC).2.1, fun C hC => (key C hC).2.2⟩
theorem excT_of {K : PySem.W.Frag} {h : Heap} {mg : Str → Option Value} {x : Str} (X : K.In h) (G : h.Ns mainGlobals mg) (g : (He.Fa.glo x).ok K = true) (c : (He.Fa.exc x).ok K = true) : ExcT K mg x (He.ga K x) := by
  obtain ⟨h1, h2, h3, h4⟩ := He.exc_ok c
  exact ⟨He.glo_ok X G g, h1, h2, h3, h4⟩
/-- the code object of a def that the head tells -/
theorem code_at {K : PySem.W.Frag} {p : Str × Option Str} {x qual : Str} {params : Arguments} {body : List Stmt} {scope : Scope} {dvs : List V} {kws : List (Str × V)} {fd : FuncData} (F : FunD K x qual params body scope dvs kws (He.fAd K p) fd) : fd.code = .ref (He.cT K p).1 := by
  obtain ⟨oc, od, dV, kV, doc, pm, an, cdv, ct, osl, rfl, lk, hcd, _, _⟩ := F.ex
  obtain ⟨c, rfl⟩ := He.codeIn_ref hcd
  have e := He.codeOf_eq lk (c := c) rfl
  show Value.ref c = .ref (He.codeOf K p)
  rw [e]
end PL

namespace PL
open PySem PySem.Spec PyProof.Rows L2 -- the layers
/-! ## x in a sequence of flat data, in a text; x is None -/
def fl : D → Bool
  | .non => true
  | .bl _ => true
  | .int _ => true
  | .str _ => true
  | _ => false
def vD : D → V
  | .non => .non
  | .bl b => .bl b
  | .int i => .int i
  | .str x => .str x
  | .ref a => .ref a
  | _ => .non
def eqF (a b : D) : Bool := L2.eqV (vD a) (vD b)
theorem rv_fl {K : PySem.W.Frag} {H : Hp} {d : D} {v : V} (h : fl d = true) (r : RV K H d v) : v = vD d ∧ L2.flatV (vD d) = true := by
  cases d <;> first | (unfold RV at r; exact ⟨r, rfl⟩) | cases h
theorem rvs_fl {K : PySem.W.Frag} {H : Hp} : ∀ {ds : List D} {vs : List V}, ds.all fl = true → RVs K H ds vs → vs = ds.map vD ∧ (ds.map vD).all L2.flatV = true
  | [], vs, _, r => ⟨RVs.nil_iff.mp r, rfl⟩
  | d :: ds, vs, h, r => by
    unfold RVs at r
    obtain ⟨v, w, e, h1, h2⟩ := r
    have h' : (fl d && ds.all fl) = true := h
    obtain ⟨a1, a2⟩ := Bool.and_eq_true_iff.mp h'
    obtain ⟨e1, f1⟩ := rv_fl a1 h1
    obtain ⟨e2, f2⟩ := rvs_fl a2 h2
    subst e1 e2
    exact ⟨e, by show (L2.flatV (vD d) && (ds.map vD).all L2.flatV) = true; rw [f1, f2]; rfl⟩
def oInF (k : Bool → Bool) : QO := fun x y S P => ∃ ds, (y = .tup ds ∨ LsAt S y ds) ∧ fl x = true ∧ ds.all fl = true ∧ P (.bl (k (ds.any fun y => eqF y x))) S
section
variable {X : Cx}
theorem inF_at {x y : D} {S : Sto} {P : PD} {k : Bool → Bool} {K : PySem.W.Frag} {H : Hp} {vx vy : V} {Q : VK} (q : oInF k x y S P) (rep : Rep K S H) (rx : RV K H x vx) (ry : RV K H y vy) (go : GoD K H P Q) :
    ∃ p xs, vy = .ref p ∧ (SqL K H p xs ∨ SqT K H p xs) ∧ L2.flatV vx = true ∧ xs.all L2.flatV = true ∧ Q (.bl (k (L2.inV vx xs))) H := by
  obtain ⟨ds, hy, fx, fs, hp⟩ := q
  obtain ⟨e1, f1⟩ := rv_fl fx rx
  subst e1
  have fin : ∀ xs, RVs K H ds xs → xs.all L2.flatV = true ∧ Q (.bl (k (L2.inV (vD x) xs))) H := fun xs r => by
    obtain ⟨e2, f2⟩ := rvs_fl fs r
    subst e2
    refine ⟨f2, ?_⟩
    have e3 : L2.inV (vD x) (ds.map vD) = ds.any fun y => eqF y x := by
      unfold L2.inV eqF
      rw [List.any_map]
      rfl
    rw [e3]
    exact go.now hp rep rv_ofB
  rcases hy with rfl | hy
  · obtain ⟨a, vs, e, s, r⟩ := rv_tup ry
    exact ⟨a, vs, e, .inr s, f1, (fin vs r).1, (fin vs r).2⟩
  · obtain ⟨a, vs, e, s, r⟩ := hy.sq rep ry
    exact ⟨a, vs, e, .inl s, f1, (fin vs r).1, (fin vs r).2⟩
theorem od_inF : ODok X (compareOp .In) (oInF id) := ⟨_, op_in_seq, fun x y S P H vx vy Q q rep rx ry go => inF_at q rep rx ry go⟩
theorem od_notInF : ODok X (compareOp .NotIn) (oInF not) := ⟨_, op_notIn_seq, fun x y S P H vx vy Q q rep rx ry go => inF_at q rep rx ry go⟩
def oInS (k : Bool → Bool) : QO := fun x y S P => ∃ (c : Nat) (z : Str), x = .str ⟨#[c]⟩ ∧ y = .str z ∧ P (.bl (k (decide (c ∈ z.cps.toList)))) S
theorem od_inS : ODok X (compareOp .In) (oInS id) := ⟨_, op_in_sign, fun x y S P H vx vy Q q rep rx ry go => by
  obtain ⟨c, z, rfl, rfl, p⟩ := q
  exact ⟨c, z, rv_str rx, rv_str ry, go.now p rep rv_ofB⟩⟩
theorem od_notInS : ODok X (compareOp .NotIn) (oInS not) := ⟨_, op_notIn_sign, fun x y S P H vx vy Q q rep rx ry go => by
  obtain ⟨c, z, rfl, rfl, p⟩ := q
  exact ⟨c, z, rv_str rx, rv_str ry, go.now p rep rv_ofB⟩⟩
/-- x in y of all sorts -/
def oInX (k : Bool → Bool) : QO := fun x y S P => (oInL k x y S P ∨ oInF k x y S P) ∨ oInS k x y S P
theorem od_inX (hu : X.A.units + 65 < cLine) : ODok X (compareOp .In) (oInX id) := ((od_inL hu).or od_inF).or od_inS
theorem od_notInX (hu : X.A.units + 65 < cLine) : ODok X (compareOp .NotIn) (oInX not) := ((od_notInL hu).or od_notInF).or od_notInS
def isNon : D → Bool
  | .non => true
  | _ => false
theorem rv_isNon {K : PySem.W.Frag} {H : Hp} {d : D} {v : V} (r : RV K H d v) : decide (v = .non) = isNon d := by
  cases d <;> unfold RV at r <;> first
    | (subst r; rfl)
    | (obtain ⟨a, vs, e, _⟩ := r; subst e; rfl)
def oIs (k : Bool → Bool) : QO := fun x y S P => y = .non ∧ P (.bl (k (isNon x))) S
theorem od_is : ODok X (compareOp .Is) (oIs id) := ⟨_, op_isN, fun x y S P H vx vy Q q rep rx ry go => by
  obtain ⟨rfl, p⟩ := q
  exact ⟨rv_non ry, by rw [rv_isNon rx]; exact go.now p rep rv_ofB⟩⟩
theorem od_isNot : ODok X (compareOp .IsNot) (oIs not) := ⟨_, op_notN, fun x y S P H vx vy Q q rep rx ry go => by
  obtain ⟨rfl, p⟩ := q
  exact ⟨rv_non ry, by rw [rv_isNon rx]; exact go.now p rep rv_ofB⟩⟩
/-! ## many times a sequence -/
def strRep (k : Int) (x : Str) : Str := ⟨((List.replicate k.toNat x.cps.toList).flatten).toArray⟩
def oMulS : QO := fun x y S P => ∃ z k, x = .str z ∧ y = .int k ∧ -1000000 ≤ k ∧ k ≤ 1000000 ∧ z.length * k.toNat ≤ 1000000 ∧ P (.str (strRep k z)) S
theorem foldl_flat (m : Nat) (a : Array Nat) : (List.replicate m a).foldl (· ++ ·) #[] = ((List.replicate m a.toList).flatten).toArray := by
  have key : ∀ (m : Nat) (acc : Array Nat), (List.replicate m a).foldl (· ++ ·) acc = (acc.toList ++ (List.replicate m a.toList).flatten).toArray := by
    intro m
    induction m with
    | zero => intro acc; simp
    | succ n ih =>
      intro acc
      rw [List.replicate_succ, List.foldl_cons, ih, List.replicate_succ, List.flatten_cons]
      simp
  simpa using key m #[]
theorem op_mulS : OpR X (binaryOp .Mult) (fun x y H Q => ∃ z k, x = .str z ∧ y = .int k ∧ -1000000 ≤ k ∧ k ≤ 1000000 ∧ z.length * k.toNat ≤ 1000000 ∧ Q (.str (strRep k z)) H) := by
  intro pins s σ H x y v u Q I rx ry h
  obtain ⟨z, k, rfl, rfl, h1, h2, h3, q⟩ := h
  obtain ⟨t, rfl⟩ := rx
  obtain ⟨t', rfl⟩ := ry
  refine PySem.P.mul_str (by rw [decide_eq_false (by omega), decide_eq_false (by omega)]; rfl) (fun a b => ?_) (fun a b => ?_) ?_
  · have hk : 1 ≤ k := by omega
    have h5 : (z.length : Int) ≤ 1000000 := by
      have h6 : z.length * 1 ≤ z.length * k.toNat := Nat.mul_le_mul_left _ (by omega)
      omega
    have h7 : (1000000 : Int) ≤ (2 ^ 63 - 1) / k := by
      refine Int.le_ediv_of_mul_le (by omega) ?_
      have : (1000000 : Int) * k ≤ 1000000 * 1000000 := Int.mul_le_mul_of_nonneg_left h2 (by omega)
      omega
    omega
  · unfold Builtin.Str.tooLong
    have e : sizeLine = 16777216 := by decide
    exact decide_eq_false (by omega)
  · by_cases hk : k < 1
    · rw [if_pos hk]
      have e : strRep k z = Str.empty := by
        unfold strRep
        rw [show k.toNat = 0 by omega]
        rfl
      exact ⟨by decide, .str _, H, I.tok _, ⟨_, rfl⟩, by rw [← e]; exact q⟩
    · rw [if_neg hk]
      by_cases hb : (k == 1 || z.length == 0) = true
      · rw [if_pos hb]
        have e : strRep k z = z := by
          unfold strRep
          rcases Bool.or_eq_true_iff.mp hb with e | e
          · rw [eq_of_beq e]
            simp
          · have e0 : z.cps.toList = [] := by
              have : z.cps.size = 0 := eq_of_beq e
              simpa using this
            obtain ⟨cps⟩ := z
            simp only at e0
            rw [e0]
            simp at e0
            subst e0
            simp
        exact ⟨.str _, H, I, ⟨_, rfl⟩, by rw [← e]; exact q⟩
      · rw [if_neg hb]
        have e : (⟨(List.replicate k.toNat z.cps).foldl (· ++ ·) #[]⟩ : Str) = strRep k z := by
          unfold strRep
          rw [foldl_flat]
        rw [e]
        refine ⟨?_, .str _, H, I.tok _, ⟨_, rfl⟩, q⟩
        have e2 : sizeLine = 16777216 := by decide
        have e3 : (strRep k z).length = k.toNat * z.length := by
          unfold strRep
          show (List.flatten (List.replicate k.toNat z.cps.toList)).toArray.size = _
          rw [List.size_toArray, PyProof.Rows.lm_len_rep_flat]
          simp [Str.length]
        rw [e3, e2, Nat.mul_comm]
        omega
theorem od_mulS : ODok X (binaryOp .Mult) oMulS := ⟨_, op_mulS, fun x y S P H vx vy Q q rep rx ry go => by
  obtain ⟨z, k, rfl, rfl, h1, h2, h3, p⟩ := q
  exact ⟨z, k, rv_str rx, rv_int ry, h1, h2, h3, go.now p rep rv_ofS⟩⟩
theorem RVs.rep {K : PySem.W.Frag} {H : Hp} {ds : List D} {vs : List V} (r : RVs K H ds vs) : ∀ n : Nat, RVs K H (List.replicate n ds).flatten (List.replicate n vs).flatten
  | 0 => RVs.nil_iff.mpr rfl
  | n + 1 => by
    rw [List.replicate_succ, List.replicate_succ, List.flatten_cons, List.flatten_cons]
    exact r.append (RVs.rep r n)
def oMulT : QO := fun x y S P => ∃ ds k, x = .tup ds ∧ y = .int k ∧ ds ≠ [] ∧ 2 ≤ k ∧ k ≤ 1000 ∧ ds.length ≤ 1000 ∧ P (.tup (List.replicate k.toNat ds).flatten) S
theorem od_mulT : ODok X (binaryOp .Mult) oMulT := ⟨_, op_repT, fun x y S P H vx vy Q q rep rx ry go => by
  obtain ⟨ds, k, rfl, rfl, h0, h1, h2, h3, p⟩ := q
  obtain ⟨a, vs, e, s, r⟩ := rv_tup rx
  refine ⟨a, k, vs, e, rv_int ry, s, fun z => h0 ?_, h1, h2, by rw [← r.length]; exact h3, fun l n => go _ _ _ _ p (Keep.new n) (rep.same (same_new n)) (rv_newT n (r.rep _))⟩
  have := r.length
  rw [z] at this
  exact List.eq_nil_of_length_eq_zero this⟩
def oMulX : QO := fun x y S P => (oMul x y S P ∨ oMulS x y S P) ∨ oMulT x y S P
theorem od_mulX : ODok X (binaryOp .Mult) oMulX := (od_mul.or od_mulS).or od_mulT
end
end PL

namespace PL
open PySem PySem.Spec PyProof.Rows L2 -- the layers
theorem vals_of_get : ∀ {xs : List V} {us : List Value}, xs.length = us.length → (∀ (i : Nat) (v : V) (u : Value), xs[i]? = some v → us[i]? = some u → RelV v u) → Vals xs us
  | [], [], _, _ => .nil
  | [], _ :: _, e, _ => by cases e
  | _ :: _, [], e, _ => by cases e
  | x :: xs, u :: us, e, h => .cons (h 0 x u rfl rfl) (vals_of_get (by simpa using e) fun i v w a b => h (i + 1) v w a b)
section
variable {X : Cx}
/-! ## repr of lists, tuples; list(text); sorted -/
def cRepr2 : QC := fun ds S P => ∃ d p, ds = [d] ∧ ((∃ a, d = .ref a) ∨ (∃ xs, d = .tup xs) ∨ ∃ xs, d = .rol xs) ∧ Dat S d p ∧ good p ∧ P (.str p.shown) S
theorem cd_repr2 (hG : X.A.guards = some []) (hu : X.A.units + 64 < cLine) : CDok X (.builtin "repr") cRepr2 := by
  refine ⟨fun vs H Q => ∃ a p, vs = [.ref a] ∧ Dp X.K H (.ref a) p ∧ good p ∧ Q (.str p.shown) H, fun pins s σ H xs us Q I r h => ?_, fun ds S P H vs Q q rep r go => ?_⟩
  · obtain ⟨a, p, rfl, hd, ⟨g1, g2, g3, g4⟩, hq⟩ := h
    obtain ⟨u, rfl, ru⟩ := vals1 r
    cases ru
    obtain ⟨as, hr⟩ := Dp.reads I p _ _ hd rfl
    refine repr_of_reads' hr g1 (fun z => by rw [g2] at z; cases z) hG (by omega) (fun _ _ z => z) (fun h' u tk hk => ?_) g3
    exact ⟨.str p.shown, H, I.kept hk, ⟨_, rfl⟩, hq⟩
  · obtain ⟨d, p, rfl, hd0, hd, hg, hp⟩ := q
    obtain ⟨v, rfl, rv⟩ := rvs_one r
    obtain ⟨a, ea⟩ : ∃ a, v = V.ref a := by
      rcases hd0 with ⟨a, rfl⟩ | ⟨xs, rfl⟩ | ⟨xs, rfl⟩
      · exact ⟨a, rv_ref rv⟩
      · obtain ⟨a, vs, e, _⟩ := rv_tup rv
        exact ⟨a, e⟩
      · unfold RV at rv
        obtain ⟨a, vs, e, _⟩ := rv
        exact ⟨a, e⟩
    subst ea
    exact ⟨a, p, rfl, Dat.dp rep _ _ _ hd rv, hg, go.now hp rep rv_ofS⟩
theorem call_listS : CallR X (.type "list") (fun xs H Q => X.calm = true ∧ ∃ z : Str, xs = [.str z] ∧ z.length ≤ sizeLine ∧ ∀ l, H l = none → Q (.ref l) (upd H l (.lst (z.cps.toList.map fun c => V.str ⟨#[c]⟩)))) := by
  intro pins s σ H xs us Q I r h
  obtain ⟨hc, z, rfl, hz, q⟩ := h
  obtain ⟨u, rfl, rx⟩ := vals1 r
  obtain ⟨t, rfl⟩ := rx
  refine call_list_str (hn := hz) (I.ok.hd hc) z t fun h' tk acc' c' hk hS hacc => ?_
  have hv : Vals (z.cps.toList.map fun c => V.str ⟨#[c]⟩) acc'.toList := by
    refine vals_of_get (by rw [List.length_map]; simp [hacc.1]) fun i v u e1 e2 => ?_
    rw [List.getElem?_map] at e1
    obtain ⟨c, e3, rfl⟩ := Option.map_eq_some_iff.mp e1
    have e2' : acc'[i]? = some u := by simpa using e2
    obtain ⟨c2, u2, e4, rfl⟩ := hacc.2 i u e2'
    have e5 : z.cps[i]? = some c := by simpa using e3
    rw [e5] at e4
    cases e4
    exact ⟨u2, rfl⟩
  refine ⟨.ref s.heap.objs.size, _, I.laid (t' := tk) (o := .lst (z.cps.toList.map fun c => V.str ⟨#[c]⟩)) (fun b o q => hk b o q) (Nat.le_refl _) ?_, rfl, q _ (I.hok.fresh (Nat.le_refl _))⟩
  exact ⟨by rw [List.length_map]; exact hz, acc'.toList, c', hv, by simpa using hS⟩
theorem rvs_chars {K : PySem.W.Frag} {H : Hp} {z : Str} : RVs K H (chars z) (z.cps.toList.map fun c => V.str ⟨#[c]⟩) := by
  unfold chars
  generalize z.cps.toList = l
  induction l with
  | nil => exact RVs.nil_iff.mpr rfl
  | cons c r ih =>
    show RVs K H (D.str ⟨#[c]⟩ :: r.map fun c => D.str ⟨#[c]⟩) (V.str ⟨#[c]⟩ :: r.map fun c => V.str ⟨#[c]⟩)
    unfold RVs
    exact ⟨_, _, rfl, rv_ofS, ih⟩
def cListX : QC := fun ds S P => cList ds S P ∨ ∃ z : Str, ds = [.str z] ∧ z.length ≤ sizeLine ∧ ∀ p, S p = none → P (.ref p) (ups S p (.lst (chars z)))
theorem CDok.or {f : Value} {q q' : QC} (h : CDok X f q) (h' : CDok X f q') : CDok X f (fun ds S P => q ds S P ∨ q' ds S P) := by
  obtain ⟨r, o, i⟩ := h
  obtain ⟨r', o', i'⟩ := h'
  refine ⟨fun vs H Q => r vs H Q ∨ r' vs H Q, fun pins s σ H xs us Q I rv z => ?_, fun ds S P H vs Q z rep rv go => ?_⟩
  · rcases z with z | z
    · exact o pins s σ H xs us Q I rv z
    · exact o' pins s σ H xs us Q I rv z
  · rcases z with z | z
    · exact .inl (i ds S P H vs Q z rep rv go)
    · exact .inr (i' ds S P H vs Q z rep rv go)
theorem cd_listX (hc : X.calm = true) : CDok X (.type "list") cListX := cd_list.or ⟨_, call_listS, fun ds S P H vs Q q rep r go => by
  obtain ⟨z, rfl, hz, hp⟩ := q
  obtain ⟨v, rfl, rv⟩ := rvs_one r
  exact ⟨hc, z, by rw [rv_str rv], hz, fun l n => go _ _ _ _ (hp l (rep.free n)) (Keep.new n) (rep.newL n rvs_chars) rv_ofR⟩⟩
theorem rvs_ofInts {K : PySem.W.Frag} {H : Hp} (ns : List Int) : RVs K H (ns.map D.int) (ns.map V.int) := rvs_intsOf ns
theorem rvs_ofStrs {K : PySem.W.Frag} {H : Hp} : ∀ ns : List Str, RVs K H (ns.map D.str) (ns.map V.str)
  | [] => RVs.nil_iff.mpr rfl
  | n :: ns => by
    show RVs K H (D.str n :: ns.map D.str) (V.str n :: ns.map V.str)
    unfold RVs
    exact ⟨_, _, rfl, rv_ofS, rvs_ofStrs ns⟩
def cSorted : QC := fun ds S P => (∃ d ns, ds = [d] ∧ LsAt S d (ns.map D.int) ∧ ∀ (ns' : List Int) p, ns'.Perm ns → ns'.Pairwise (· ≤ ·) → S p = none → P (.ref p) (ups S p (.lst (ns'.map D.int)))) ∨
  ∃ d ns, ds = [d] ∧ LsAt S d (ns.map D.str) ∧ ns.length < 64 ∧ ∀ (ns' : List Str) p, ns'.Perm ns → sortedS ns' = true → S p = none → P (.ref p) (ups S p (.lst (ns'.map D.str)))
theorem cd_sorted : CDok X (.builtin "sorted") cSorted := by
  refine CDok.or ⟨_, cr_sortedI, fun ds S P H vs Q q rep r go => ?_⟩ ⟨_, cr_sortedS, fun ds S P H vs Q q rep r go => ?_⟩
  · obtain ⟨d, ns, rfl, hl, hp⟩ := q
    obtain ⟨v, rfl, rv⟩ := rvs_one r
    obtain ⟨a, ws, e, s, r2⟩ := hl.sq rep rv
    subst e
    rw [rvs_ints r2] at s
    exact ⟨a, ns, rfl, s, fun ns' p h1 h2 n => go _ _ _ _ (hp ns' p h1 h2 (rep.free n)) (Keep.new n) (rep.newL n (rvs_ofInts _)) rv_ofR⟩
  · obtain ⟨d, ns, rfl, hl, h64, hp⟩ := q
    obtain ⟨v, rfl, rv⟩ := rvs_one r
    obtain ⟨a, ws, e, s, r2⟩ := hl.sq rep rv
    subst e
    rw [rvs_strs r2] at s
    exact ⟨a, ns, rfl, s, h64, fun ns' p h1 h2 n => go _ _ _ _ (hp ns' p h1 h2 (rep.free n)) (Keep.new n) (rep.newL n (rvs_ofStrs _)) rv_ofR⟩
/-! ## methods of lists -/
def mPopAt : QM := fun a xs ds S P => ∃ i j y, ds = [.int i] ∧ -1000000000 ≤ i ∧ i ≤ 1000000000 ∧ ixN xs.length i = some j ∧ xs[j]? = some y ∧ P y (ups S a (.lst (xs.eraseIdx j)))
theorem RVs.erase {K : PySem.W.Frag} {H : Hp} : ∀ {ds : List D} {vs : List V} (n : Nat), RVs K H ds vs → RVs K H (ds.eraseIdx n) (vs.eraseIdx n)
  | [], vs, n, h => by
    rw [RVs.nil_iff.mp h]
    exact RVs.nil_iff.mpr rfl
  | d :: ds, vs, 0, h => by
    unfold RVs at h
    obtain ⟨v, r, e, _, h2⟩ := h
    subst e
    exact h2
  | d :: ds, vs, n + 1, h => by
    unfold RVs at h
    obtain ⟨v, r, e, h1, h2⟩ := h
    subst e
    show RVs K H (d :: ds.eraseIdx n) (v :: r.eraseIdx n)
    unfold RVs
    exact ⟨v, _, rfl, h1, RVs.erase n h2⟩
theorem md_popAt : MDok X "list.pop" mPopAt := by
  refine ⟨_, mt_popAt, fun a xs ds S P H us vs Q q rep e f rx rd go => ?_⟩
  obtain ⟨i, j, y, rfl, h1, h2, hj, hy, hp⟩ := q
  obtain ⟨v, rfl, rv⟩ := rvs_one rd
  obtain ⟨vy, ey, ry⟩ := RVs.get rx hy
  refine ⟨a, us, i, j, vy, rfl, by rw [rv_int rv], f, by omega, by omega, by rw [← rx.length]; exact (ixN_seq hj).1, ey, ?_⟩
  exact go _ _ _ _ hp (keepL f) (rep.setL f (RVs.erase j rx)) (RV.keep (keepL f) _ _ ry)
def mExtend : QM := fun a xs ds S P => ∃ b zs, ds = [.ref b] ∧ S b = some (.lst zs) ∧ xs.length + zs.length ≤ sizeLine ∧ P .non (ups S a (.lst (xs ++ zs)))
theorem md_extend : MDok X "list.extend" mExtend := by
  refine ⟨_, mt_extend, fun a xs ds S P H us vs Q q rep e f rx rd go => ?_⟩
  obtain ⟨b, zs, rfl, hb, hz, hp⟩ := q
  obtain ⟨v, rfl, rv⟩ := rvs_one rd
  obtain ⟨ws, f2, r2⟩ := rep _ _ hb
  refine ⟨a, b, us, ws, rfl, by rw [rv_ref rv], f, f2, by rw [← rx.length, ← r2.length]; exact hz, ?_⟩
  exact go _ _ _ _ hp (keepL f) (rep.setL f (rx.append r2)) rv_ofN
def mPop0 : QM := fun a xs ds S P => ds = [] ∧ ∃ y, xs[xs.length - 1]? = some y ∧ P y (ups S a (.lst xs.dropLast))
theorem RVs.dropLast {K : PySem.W.Frag} {H : Hp} {ds : List D} {vs : List V} (r : RVs K H ds vs) : RVs K H ds.dropLast vs.dropLast := by
  rw [List.dropLast_eq_take, List.dropLast_eq_take, r.length]
  exact RVs.take _ r
theorem md_pop0 : MDok X "list.pop" mPop0 := by
  refine ⟨_, mt_pop, fun a xs ds S P H us vs Q q rep e f rx rd go => ?_⟩
  obtain ⟨rfl, y, hy, hp⟩ := q
  obtain ⟨vy, ey, ry⟩ := RVs.get rx hy
  refine ⟨a, us, vy, rfl, RVs.nil_iff.mp rd, f, by rw [← rx.length]; exact ey, ?_⟩
  exact go _ _ _ _ hp (keepL f) (rep.setL f rx.dropLast) (RV.keep (keepL f) _ _ ry)
variable {e : Expr} {es : List Expr} {qa : QA}
theorem de_popAt {o : Expr} {q : QE} {apos cpos : Pos} (ho : DE X o q) (ha : DA X (e :: es) qa)
    (hbase : attributeBase o "pop" X.env (eval o X.env) = eval o X.env := by rfl)
    (hfew : ((backTo cpos (starEach (e :: es) X.env)).all (fun x => !x.1) && (backToKw cpos (keywordEach [] X.env)).all (fun x => x.1.isSome)
      && decide ((e :: es).length + ([] : List Keyword).length + (if ([] : List Keyword).isEmpty then 0 else 1) < 30)) = true := by rfl)
    (hline : (apos.endLine == cpos.line) = true := by rfl) (hs : starEach (e :: es) X.env = (false, eval e X.env) :: starEach es X.env := by rfl) (hplain : (backTo cpos (starEach es X.env)).any (·.1) = false := by rfl) :
    DE X (.Call (.Attribute o "pop" apos) (e :: es) [] cpos) (qMeth mPopAt q qa) := de_meth PySem.F.slot_list_pop PySem.F.type_list_pop md_popAt ho ha hbase hfew hline hs hplain
theorem de_pop0 {o : Expr} {q : QE} {apos cpos : Pos} (ho : DE X o q) (hbase : attributeBase o "pop" X.env (eval o X.env) = eval o X.env := by rfl) (hline : (apos.endLine == cpos.line) = true := by rfl) :
    DE X (.Call (.Attribute o "pop" apos) [] [] cpos) (qMeth0 mPop0 q) := de_meth0 PySem.F.slot_list_pop PySem.F.type_list_pop md_pop0 ho hbase hline
theorem de_extend {o : Expr} {q : QE} {apos cpos : Pos} (ho : DE X o q) (ha : DA X (e :: es) qa)
    (hbase : attributeBase o "extend" X.env (eval o X.env) = eval o X.env := by rfl)
    (hfew : ((backTo cpos (starEach (e :: es) X.env)).all (fun x => !x.1) && (backToKw cpos (keywordEach [] X.env)).all (fun x => x.1.isSome)
      && decide ((e :: es).length + ([] : List Keyword).length + (if ([] : List Keyword).isEmpty then 0 else 1) < 30)) = true := by rfl)
    (hline : (apos.endLine == cpos.line) = true := by rfl) (hs : starEach (e :: es) X.env = (false, eval e X.env) :: starEach es X.env := by rfl) (hplain : (backTo cpos (starEach es X.env)).any (·.1) = false := by rfl) :
    DE X (.Call (.Attribute o "extend" apos) (e :: es) [] cpos) (qMeth mExtend q qa) := de_meth PySem.F.slot_list_extend PySem.F.type_list_extend md_extend ho ha hbase hfew hline hs hplain
/-! ## methods of texts -/
abbrev QMS := Str → List D → Sto → PD → Prop
def qMethS (f : QMS) (q : QE) (qa : QA) : QE := fun loc S P E => q loc S (fun d S1 => match d with
  | .str z => qa loc S1 (fun ds S2 => f z ds S2 P) E
  | _ => False) E
def qMethS0 (f : QMS) (q : QE) : QE := fun loc S P E => q loc S (fun d S1 => match d with
  | .str z => f z [] S1 P
  | _ => False) E
def MSok (X : Cx) (id : String) (f : QMS) : Prop := ∃ r, MtR X id r ∧ ∀ z ds S P H vs Q, f z ds S P → Rep X.K S H → RVs X.K H ds vs → GoD X.K H P Q → r (.str z) vs H Q
theorem de_methS {o : Expr} {q : QE} {f : QMS} {id : String} {name : Str} {apos cpos : Pos} (slot : Slot "str" name id) (hty : typeOf (.builtin id) = pure (.type "method_descriptor")) (hm : MSok X id f) (ho : DE X o q) (ha : DA X (e :: es) qa)
    (hbase : attributeBase o name X.env (eval o X.env) = eval o X.env := by rfl)
    (hfew : ((backTo cpos (starEach (e :: es) X.env)).all (fun x => !x.1) && (backToKw cpos (keywordEach [] X.env)).all (fun x => x.1.isSome)
      && decide ((e :: es).length + ([] : List Keyword).length + (if ([] : List Keyword).isEmpty then 0 else 1) < 30)) = true := by rfl)
    (hline : (apos.endLine == cpos.line) = true := by rfl) (hs : starEach (e :: es) X.env = (false, eval e X.env) :: starEach es X.env := by rfl) (hplain : (backTo cpos (starEach es X.env)).any (·.1) = false := by rfl) :
    DE X (.Call (.Attribute o name apos) (e :: es) [] cpos) (qMethS f q qa) := fun W tk => by
  obtain ⟨r, hr, hi⟩ := hm
  refine PE.imp (pe_bm PySem.F.plainAttrs_str slot hty hr (ho W tk) (ha W tk) hbase hfew hline hs hplain) fun σ H Q h => ?_
  obtain ⟨loc, S, P, E, rl, rep, hq, g, gx⟩ := h
  refine ⟨loc, S, _, E, rl, rep, hq, fun d S1 v H1 q1 k1 rep1 r1 => ?_, gx⟩
  cases d with
  | str z =>
    rw [rv_str r1]
    refine ⟨rfl, loc, S1, _, E, rl.keep k1, rep1, q1, fun ds S2 vs H2 q2 k2 rep2 r2 => ?_, gx.keep k1⟩
    exact hi z ds S2 P H2 vs Q q2 rep2 r2 (g.keep (k1.trans k2))
  | _ => exact (show False from q1).elim
theorem de_methS0 {o : Expr} {q : QE} {f : QMS} {id : String} {name : Str} {apos cpos : Pos} (slot : Slot "str" name id) (hty : typeOf (.builtin id) = pure (.type "method_descriptor")) (hm : MSok X id f) (ho : DE X o q)
    (hbase : attributeBase o name X.env (eval o X.env) = eval o X.env := by rfl) (hline : (apos.endLine == cpos.line) = true := by rfl) : DE X (.Call (.Attribute o name apos) [] [] cpos) (qMethS0 f q) := fun W tk => by
  obtain ⟨r, hr, hi⟩ := hm
  refine PE.imp (pe_bm0 PySem.F.plainAttrs_str slot hty hr (ho W tk) hbase hline) fun σ H Q h => ?_
  obtain ⟨loc, S, P, E, rl, rep, hq, g, gx⟩ := h
  refine ⟨loc, S, _, E, rl, rep, hq, fun d S1 v H1 q1 k1 rep1 r1 => ?_, gx⟩
  cases d with
  | str z =>
    rw [rv_str r1]
    exact ⟨rfl, hi z [] S1 P H1 [] Q q1 rep1 (RVs.nil_iff.mpr rfl) (g.keep k1)⟩
  | _ => exact (show False from q1).elim
def mJoin : QMS := fun z ds S P => ∃ d ys, ds = [d] ∧ (LsAt S d (ys.map D.str) ∨ d = .tup (ys.map D.str)) ∧ (ys.map (·.length)).sum + ys.length * z.length ≤ 16777216 ∧ P (.str (Txt.join z ys)) S
theorem ms_join : MSok X "str.join" mJoin := by
  refine ⟨_, mt_join, fun z ds S P H vs Q q rep r go => ?_⟩
  obtain ⟨d, ys, rfl, hd, hz, hp⟩ := q
  obtain ⟨v, rfl, rv⟩ := rvs_one r
  rcases hd with hl | rfl
  · obtain ⟨a, ws, e, s, r2⟩ := hl.sq rep rv
    subst e
    rw [rvs_strs r2] at s
    exact ⟨z, a, ys, rfl, rfl, .inl s, hz, go.now hp rep rv_ofS⟩
  · obtain ⟨a, ws, e, s, r2⟩ := rv_tup rv
    subst e
    rw [rvs_strs r2] at s
    exact ⟨z, a, ys, rfl, rfl, .inr s, hz, go.now hp rep rv_ofS⟩
def mUpper : QMS := fun z ds S P => ds = [] ∧ z.length ≤ 5592405 ∧ P (.str (Txt.upper z)) S
theorem ms_upper : MSok X "str.upper" mUpper := by
  refine ⟨_, mt_upper, fun z ds S P H vs Q q rep r go => ?_⟩
  obtain ⟨rfl, hz, hp⟩ := q
  exact ⟨z, rfl, RVs.nil_iff.mp r, hz, go.now hp rep rv_ofS⟩
/-- the place of a sign that is there -/
theorem occ_sign {x : Str} {c : Nat} (h : c ∈ x.cps.toList) : ∃ i rest, Builtin.Str.occurrences x ⟨#[c]⟩ 0 x.length 1 = i :: rest ∧ x.cps.toList[i]? = some c := by
  have h1 := PySem.StrLaws.found_one x c
  rw [decide_eq_true h] at h1
  cases e : Builtin.Str.occurrences x ⟨#[c]⟩ 0 x.length 1 with
  | nil => rw [e] at h1; cases h1
  | cons i rest =>
    obtain ⟨h2, h3⟩ := PySem.StrLaws.occ_spec x ⟨#[c]⟩ 0 x.length 1 i (by rw [e]; exact List.mem_cons_self ..)
    exact ⟨i, rest, rfl, (PySem.StrLaws.subAt_one x c i).mp ⟨h2, h3⟩⟩
def mIndexS : QMS := fun z ds S P => ∃ c, ds = [.str ⟨#[c]⟩] ∧ c ∈ z.cps.toList ∧ ∀ i : Nat, z.cps.toList[i]? = some c → P (.int i) S
theorem ms_index : MSok X "str.index" mIndexS := by
  refine ⟨_, mt_sindex, fun z ds S P H vs Q q rep r go => ?_⟩
  obtain ⟨c, rfl, hc, hp⟩ := q
  obtain ⟨v, rfl, rv⟩ := rvs_one r
  obtain ⟨i, rest, e1, e2⟩ := occ_sign hc
  exact ⟨z, ⟨#[c]⟩, i, rest, rfl, by rw [rv_str rv], e1, go.now (hp i e2) rep rv_ofI⟩
end
end PL

namespace PL
open PySem PySem.Spec PyProof.Rows L2 PySem.W PySem.Calls
section
variable {X : Cx}
/-! ## a text from behind -/
theorem rev_pick (z : Str) (k : Tok) : (slicePicked z none none (some (-1, k))).filterMap (z.cps[·]?) = z.cps.toList.reverse := by
  show ((sliceRange ((z.length : Int) - 1) (-1) (-1)).filterMap (z.cps[·]?)) = _
  rw [PySem.W.krv_sliceRange, PySem.W.krv_range, List.filterMap_reverse]
  exact congrArg List.reverse (PySem.W.krv_all z.cps)
def tRevS (te : TE) : TE := fun σ H Q => te σ H fun x H1 => ∃ z, x = .str z ∧ z.length ≤ sizeLine ∧ Q (.str ⟨z.cps.toList.reverse.toArray⟩) H1
theorem pe_revS {e : Expr} {te : TE} {k : Nat} {p1 p2 p3 pos : Pos} (he : PE X e te) : PE X (.Subscript e (.Slice none none (some (.UnaryOp .USub (.Constant (.int 1) k p1) p2)) p3) pos) (tRevS te) := by
  refine ⟨fun pins s σ H Q I h => ?_⟩
  refine Subscript_ (thn (he.run pins s σ H _ I h) fun v s1 ⟨x, H1, I1, r1, q1⟩ => ?_)
  obtain ⟨z, ex, hz, q⟩ := q1
  subst ex
  obtain ⟨tz, rfl⟩ := r1
  have part : PO X (some (.UnaryOp .USub (.Constant (.int 1) k p1) p2)) (tPart (tUn (rU fun i => .int (-i)) (tC (.int 1)))) := po_some (pe_un un_neg pe_int)
  refine wpAny_Slice (thn (po_none.run pins s1 σ H1 (fun o H2 => o = none ∧ H2 = H1) I1 ⟨rfl, rfl⟩) fun vl s2 ⟨l, H2, I2, pl, el, e2⟩ => ?_)
  subst el e2
  refine thn (po_none.run pins s2 σ H2 (fun o H3 => o = none ∧ H3 = H2) I2 ⟨rfl, rfl⟩) fun vu s3 ⟨u, H3, I3, pu, eu, e3⟩ => ?_
  subst eu e3
  refine thn (part.run pins s3 σ H3 (fun o H4 => o = some (-1) ∧ H4 = H3) I3 ⟨1, rfl, -1, rfl, rfl, rfl⟩) fun vs s4 ⟨o, H4, I4, ps, eo, e4⟩ => ?_
  subst eo e4
  have I5 : Inv X pins σ H4 { s4 with heap := s4.heap.push { cls := .type "slice", data := .fields #[vl, vu, vs] } } := I4.kept (t' := s4.toks) fun b ob w => Heap.get?_push_of_some _ w
  obtain ⟨l', rfl, hl⟩ := IsPart.raw pl
  obtain ⟨u', rfl, hu⟩ := IsPart.raw pu
  obtain ⟨st, rfl, hst⟩ := IsPart.raw ps
  obtain ⟨⟨m, tk⟩, rfl, rfl⟩ := Option.map_eq_some_iff.mp hst
  obtain rfl := Option.map_eq_none_iff.mp hl
  obtain rfl := Option.map_eq_none_iff.mp hu
  refine tail_any (ops := [.str z tz, .ref s4.heap.objs.size]) (typeIs_str _ _ _) F.slot_str_getitem.lookup ?_ (by with_unfolding_all rfl)
  refine wpAny_getItem_str_slice (l := none) (u := none) (st := some (-1, tk)) ⟨_, Heap.get?_push_size _ rfl, rfl, rfl⟩ rfl ?_
  have e1 : sliceMade z tz none none (some (-1, tk)) = Made.str ⟨z.cps.toList.reverse.toArray⟩ := by
    unfold sliceMade
    rw [rev_pick]
    rfl
  rw [e1]
  refine ⟨?_, .str _, H4, I5.tok _, ⟨_, rfl⟩, q⟩
  show (z.cps.toList.reverse.toArray).size ≤ sizeLine
  have hz' : z.cps.size ≤ sizeLine := hz
  simpa using hz'
def qRevS (q : QE) : QE := fun loc S P E => q loc S (fun d S1 => match d with
  | .str z => z.length ≤ sizeLine ∧ P (.str ⟨z.cps.toList.reverse.toArray⟩) S1
  | _ => False) E
theorem de_revS {e : Expr} {q : QE} {k : Nat} {p1 p2 p3 pos : Pos} (he : DE X e q) : DE X (.Subscript e (.Slice none none (some (.UnaryOp .USub (.Constant (.int 1) k p1) p2)) p3) pos) (qRevS q) := fun W tk => by
  refine PE.imp (pe_revS (he W tk)) fun σ H Q h => ?_
  obtain ⟨loc, S, P, E, rl, rep, hq, g, gx⟩ := h
  refine ⟨loc, S, _, E, rl, rep, hq, fun d S1 v H1 q1 k1 rep1 r1 => ?_, gx⟩
  cases d with
  | str z => exact ⟨z, rv_str r1, q1.1, g _ _ _ _ q1.2 k1 rep1 rv_ofS⟩
  | _ => exact (show False from q1).elim
end
end PL

namespace PL
open PySem PySem.Spec PyProof.Rows L2 -- the layers
/-! ## zip of two: texts, tuples, lists that stay -/
inductive ZK where
  | txt (z : Str) (t : Tok)
  | tup (a : Addr) (vs : List V)
  | lst (a : Addr) (vs : List V)
namespace ZK
def v : ZK → Value
  | .txt z t => .str z t
  | .tup a _ => .ref a
  | .lst a _ => .ref a
def items : ZK → List V
  | .txt z _ => z.cps.toList.map fun c => V.str ⟨#[c]⟩
  | .tup _ vs => vs
  | .lst _ vs => vs
def ok (K : PySem.W.Frag) (H : Hp) : ZK → Prop
  | .txt _ _ => True
  | .tup a vs => SqT K H a vs
  | .lst a vs => SqL K H a vs
def bs : ZK → List Addr
  | .txt _ _ => []
  | .tup a _ => [a]
  | .lst a _ => [a]
def st (it : Addr) (i : Nat) (h : Heap) : ZK → Prop
  | .txt z t => h.IsStrIter it (strIterType z) z t i
  | .tup a _ => h.IsTupleIter it a i
  | .lst a _ => h.IsListIter it a i
def base (its : List Value) (h : Heap) : ZK → Prop
  | .txt _ _ => True
  | .tup a _ => h.IsTuple a its.toArray
  | .lst a _ => h.IsList a its.toArray
def ob : ZK → Obj
  | .txt z t => { cls := .type (strIterType z), data := .fields #[.str z t, .int 0 0] }
  | .tup a _ => { cls := .type "tuple_iterator", data := .fields #[.ref a, .int 0 0] }
  | .lst a _ => { cls := .type "list_iterator", data := .fields #[.ref a, .int 0 0] }
theorem begins (k : ZK) (its : List Value) : Begins k.v k.ob (fun h => k.base its h) := by
  cases k with
  | txt z t => exact begins_text z t
  | tup a vs => exact begins_tuple a its.toArray
  | lst a vs => exact begins_list a its.toArray
theorem st0 (k : ZK) {it : Addr} {h : Heap} (e : h.get? it = some k.ob) : k.st it 0 h := by
  cases k with
  | txt z t => exact ⟨_, e, rfl, rfl⟩
  | tup a vs => exact ⟨_, e, rfl, rfl⟩
  | lst a vs => exact ⟨_, e, rfl, rfl⟩
theorem st_at (k : ZK) {it : Addr} {i : Nat} {h h' : Heap} (s : k.st it i h) (f : ∀ o, h.get? it = some o → h'.get? it = some o) : k.st it i h' := by
  cases k with
  | txt z t =>
    obtain ⟨o, e, r⟩ := s
    exact ⟨o, f o e, r⟩
  | tup a vs =>
    obtain ⟨o, e, r⟩ := s
    exact ⟨o, f o e, r⟩
  | lst a vs =>
    obtain ⟨o, e, r⟩ := s
    exact ⟨o, f o e, r⟩
theorem st_ob (k : ZK) {it : Addr} {i : Nat} {h : Heap} (s : k.st it i h) : ∃ o, h.get? it = some o ∧ ∀ v, o.data ≠ .cell v := by
  cases k with
  | txt z t =>
    obtain ⟨o, e, _, d⟩ := s
    exact ⟨o, e, fun v q => by rw [d] at q; cases q⟩
  | tup a vs =>
    obtain ⟨o, e, _, d⟩ := s
    exact ⟨o, e, fun v q => by rw [d] at q; cases q⟩
  | lst a vs =>
    obtain ⟨o, e, _, d⟩ := s
    exact ⟨o, e, fun v q => by rw [d] at q; cases q⟩
theorem now {X : Cx} {pins : List (Addr × Obj)} {σ : L2.St} {H : Hp} {s : Shared} (k : ZK) (I : L2.Inv X pins σ H s) (ok : k.ok X.K H) : ∃ its, Vals k.items its ∧ k.base its s.heap ∧ ∀ a ∈ k.bs, a < s.heap.objs.size := by
  cases k with
  | txt z t =>
    refine ⟨z.cps.toList.map fun c => .str ⟨#[c]⟩ 0, vals_of_get (by simp [items]) fun i v u e1 e2 => ?_, trivial, fun a h => by cases h⟩
    have e1' : (z.cps.toList.map fun c => V.str ⟨#[c]⟩)[i]? = some v := e1
    rw [List.getElem?_map] at e1' e2
    obtain ⟨c, e3, rfl⟩ := Option.map_eq_some_iff.mp e1'
    rw [e3] at e2
    cases e2
    exact ⟨0, rfl⟩
  | tup a vs =>
    obtain ⟨its, r, p, _⟩ := I.tuple (show SqT X.K H a vs from ok)
    obtain ⟨o, e, _⟩ := id p
    exact ⟨its, r, p, fun b h => by rw [List.mem_singleton.mp h]; exact Heap.lt_size e⟩
  | lst a vs =>
    obtain ⟨its, r, p, _⟩ := I.list (show SqL X.K H a vs from ok)
    exact ⟨its, r, p.isList, fun b h => by rw [List.mem_singleton.mp h]; exact p.lt⟩
theorem draws {prog : Program} {w : World} {A : Around} (hh : A.handled = none) (k : ZK) (its : List Value) (r : Vals k.items its) (it : Addr) (hn : it ∉ k.bs) :
    ∃ P : Nat → Value → Prop, Draws prog w A it (it :: k.bs) k.items.length P (fun i h => k.st it i h ∧ k.base its h) ∧ ∀ i u, P i u → ∃ x, k.items[i]? = some x ∧ RelV x u := by
  cases k with
  | txt z t =>
    have D := Draws.text (prog := prog) (w := w) hh it z t
    refine ⟨_, ⟨fun i h s => D.live i h s.1, fun i h h' s f => ⟨D.frame i h h' s.1 f, trivial⟩, fun i s Q E hi hs q => D.item i s Q E (by simpa [items] using hi) hs.1 fun x h' tk p s' sb => q x h' tk p ⟨s', trivial⟩ sb, fun s Q E hs q => D.done s Q E (by have e : (ZK.txt z t).items.length = z.cps.size := (by simp [items]); have q1 := hs.1; rw [e] at q1; exact q1) q⟩, fun i u p => ?_⟩
    obtain ⟨c, t2, e, rfl⟩ := p
    refine ⟨V.str ⟨#[c]⟩, ?_, t2, rfl⟩
    show (z.cps.toList.map fun c => V.str ⟨#[c]⟩)[i]? = _
    rw [List.getElem?_map, Array.getElem?_toList, e]
    rfl
  | tup a vs =>
    have hl : its.toArray.size = vs.length := by rw [List.size_toArray]; exact r.length.symm
    have D := Draws.tuple (prog := prog) (w := w) hh it a (fun e => hn (by rw [e]; exact List.mem_singleton.mpr rfl)) its.toArray
    rw [hl] at D
    refine ⟨_, D, fun i u p => ?_⟩
    have p' : its[i]? = some u := by simpa using p
    have hi : i < vs.length := by
      have := (List.getElem?_eq_some_iff.mp p').1
      rw [← r.length] at this
      exact this
    obtain ⟨u', e, rl⟩ := r.get (List.getElem?_eq_getElem (l := vs) hi)
    rw [p'] at e
    cases e
    exact ⟨vs[i], List.getElem?_eq_getElem hi, rl⟩
  | lst a vs =>
    have hl : its.toArray.size = vs.length := by rw [List.size_toArray]; exact r.length.symm
    have D := Draws.list (prog := prog) (w := w) hh it a (fun e => hn (by rw [e]; exact List.mem_singleton.mpr rfl)) its.toArray
    rw [hl] at D
    refine ⟨_, D, fun i u p => ?_⟩
    have p' : its[i]? = some u := by simpa using p
    have hi : i < vs.length := by
      have := (List.getElem?_eq_some_iff.mp p').1
      rw [← r.length] at this
      exact this
    obtain ⟨u', e, rl⟩ := r.get (List.getElem?_eq_getElem (l := vs) hi)
    rw [p'] at e
    cases e
    exact ⟨vs[i], List.getElem?_eq_getElem hi, rl⟩
end ZK
/-- the pairs of both -/
def ItZ (K : PySem.W.Frag) (k k' : ZK) : It :=
  ⟨fun i H => k.ok K H ∧ k'.ok K H ∧ i < k.items.length ∧ i < k'.items.length,
    fun i H v H' => ∃ T x y, v = .ref T ∧ H T = none ∧ H' = upd H T (.tup [x, y]) ∧ k.items[i]? = some x ∧ k'.items[i]? = some y,
    fun i H => k.ok K H ∧ k'.ok K H ∧ i ≤ k.items.length ∧ i ≤ k'.items.length ∧ (i = k.items.length ∨ i = k'.items.length)⟩
theorem ane {a b : Nat} (h : a ≠ b) : @Ne Addr a b := h
theorem znot {n m : Nat} {b : Nat} {l : List Addr} (h : ∀ a ∈ l, a < n) (h1 : b ≠ m) (h2 : n ≤ b) : (b : Addr) ∉ ((m : Addr) :: l) := fun z => by
  rcases List.mem_cons.mp z with e | e
  · exact h1 e
  · exact Nat.lt_irrefl _ (Nat.lt_of_lt_of_le (h _ e) h2)
theorem zsep {n : Nat} {k k' : ZK} (h : ∀ a ∈ k.bs, a < n) (h' : ∀ a ∈ k'.bs, a < n) : ZipSep2 (n + 4) (n + 2) (n + 3) n (n + 1) (n :: k.bs) ((n + 1) :: k'.bs) where
  TIz := ane (by omega)
  TOz := ane (by omega)
  TITO := ane (by omega)
  TIi1 := ane (by omega)
  mem1 := List.mem_cons_self ..
  zf1 := znot h (by omega) (by omega)
  Tf1 := znot h (by omega) (by omega)
  TIi2 := ane (by omega)
  mem2 := List.mem_cons_self ..
  zf2 := znot h' (by omega) (by omega)
  Tf2 := znot h' (by omega) (by omega)
  sep1_2 := znot h' (by omega) (by omega)
  sep2_1 := znot h (by omega) (by omega)
theorem mem5 {n c : Nat} (h : c ∈ [n + 4, n + 2, n + 3, n, n + 1]) : c = n + 4 ∨ c = n + 2 ∨ c = n + 3 ∨ c = n ∨ c = n + 1 := by simpa using h
def zcells (n : Nat) (k k' : ZK) (i : Nat) (h : Heap) : Prop := IsZip h (n + 4) (n + 2) (n + 3) .none ∧ IsTupOf2 h (n + 2) (.ref n) (.ref (n + 1)) ∧ (∃ x y, IsTupOf2 h (n + 3) x y) ∧ k.st n i h ∧ k'.st (n + 1) i h
theorem turnZ {P : Program} {w : World} {K : PySem.W.Frag} {elts : List Expr} {kk : Nat} {tpos : Pos} {n : Nat} {k k' : ZK} (hb : ∀ a ∈ k.bs, a < n) (hb' : ∀ a ∈ k'.bs, a < n) :
    Turn P w K (.Tuple elts kk tpos) (ItZ K k k') [n + 4, n + 2, n + 3, n, n + 1] (n + 4) (zcells n k k') where
  mem := List.mem_cons_self ..
  obj := fun i h ⟨hz, hTI, ⟨x, y, hTO⟩, s1, s2⟩ c hc => by
    rcases mem5 hc with rfl | rfl | rfl | rfl | rfl
    · exact ⟨_, hz, fun v q => nomatch q⟩
    · exact ⟨_, hTI, fun v q => nomatch q⟩
    · exact ⟨_, hTO, fun v q => nomatch q⟩
    · exact k.st_ob s1
    · exact k'.st_ob s2
  keep := fun i h h' ⟨hz, hTI, ⟨x, y, hTO⟩, s1, s2⟩ f => by
    refine ⟨f _ (by simp) _ hz, f _ (by simp) _ hTI, ⟨x, y, f _ (by simp) _ hTO⟩, k.st_at s1 fun o e => f _ (by simp) o e, k'.st_at s2 fun o e => f _ (by simp) o e⟩
  item := by
    intro X hP hw hK hc i pins s σ H E I hf ⟨hz, hTI, ⟨x0, y0, hTO⟩, s1, s2⟩ ⟨ok1, ok2, hi1, hi2⟩
    subst hP hw hK
    have hh : X.A.in1.handled = none := I.ok.hd hc
    obtain ⟨its1, r1, b1, _⟩ := k.now I ok1
    obtain ⟨its2, r2, b2, _⟩ := k'.now I ok2
    obtain ⟨P1, D1, f1⟩ := ZK.draws (prog := X.prog) (w := X.w) hh k its1 r1 n (fun z => Nat.lt_irrefl _ (hb _ z))
    obtain ⟨P2, D2, f2⟩ := ZK.draws (prog := X.prog) (w := X.w) hh k' its2 r2 (n + 1) (fun z => Nat.lt_irrefl _ (Nat.lt_of_le_of_lt (Nat.le_succ _) (hb' _ z)))
    have low : ∀ {c o}, s.heap.get? c = some o → c < s.heap.objs.size := fun e => Heap.lt_size e
    refine wpAny_pyNext_zipD2_item (zsep hb hb') D1 D2 hz hTI hTO ⟨s1, b1⟩ ⟨s2, b2⟩ hi1 hi2 fun u u' h' tk p1 p2 c1 c2 d1 d2 c5 c6 kp => ?_
    obtain ⟨x, ex, rx⟩ := f1 i u p1
    obtain ⟨y, ey, ry⟩ := f2 i u' p2
    refine ⟨_, rfl, wpAny_letOwnedTupleGo_zip (s := { s with heap := h', toks := tk }) c1 fun h2 c1' sb => ?_⟩
    have apart : ∀ c, c ∉ [n + 4, n + 2, n + 3, n, n + 1] → ∀ o, s.heap.get? c = some o → h2.get? c = some o := fun c hcn o e => by
      simp only [List.mem_cons, List.not_mem_nil, or_false, not_or] at hcn
      exact (sb.2 c hcn.1).trans (kp c o hcn.1 hcn.2.2.1 hcn.2.2.2.1 hcn.2.2.2.2 e)
    have hT : h2.get? s.heap.objs.size = some { cls := .type "tuple", data := .seq #[u, u'] } := (sb.2 _ (Nat.ne_of_gt (low hz))).trans c5
    have made : ObjOk X.prog X.w (upd H s.heap.objs.size (.tup [x, y])) h2 s.heap.objs.size (.tup [x, y]) := ⟨by show 2 ≤ sizeLine; decide, [u, u'], .cons rx (.cons ry .nil), ⟨_, hT, rfl, _, rfl⟩⟩
    have I1 := I.turnedNew (t' := tk) (ch := [n + 4, n + 2, n + 3, n, n + 1]) (fun c o hcn e => apart c hcn o e) hf (Nat.le_refl _) made
    refine ⟨.ref s.heap.objs.size, _, I1, rfl, ⟨_, x, y, rfl, I.hok.fresh (Nat.le_refl _), rfl, ex, ey⟩, ⟨c1', ?_, ⟨u, u', ?_⟩, ?_, ?_⟩, fun c hcm => ?_⟩
    · exact (sb.2 _ (ane (by omega))).trans (kp _ _ (ane (by omega)) (ane (by omega)) (ane (by omega)) (ane (by omega)) hTI)
    · exact (sb.2 _ (ane (by omega))).trans c2
    · exact k.st_at d1.1 fun o e => (sb.2 _ (ane (by omega))).trans e
    · exact k'.st_at d2.1 fun o e => (sb.2 _ (ane (by omega))).trans e
    · have hlt : c < s.heap.objs.size := by
        rcases mem5 hcm with rfl | rfl | rfl | rfl | rfl
        · exact low hz
        · exact low hTI
        · exact low hTO
        · obtain ⟨o, e, _⟩ := k.st_ob s1
          exact low e
        · obtain ⟨o, e, _⟩ := k'.st_ob s2
          exact low e
      rw [upd_ne (Nat.ne_of_lt hlt)]
      exact (hf c hcm).1
  done := by
    intro X hP hw hK hc i pins s σ H E I hf ⟨hz, hTI, ⟨x0, y0, hTO⟩, s1, s2⟩ ⟨ok1, ok2, hi1, hi2, hend⟩
    subst hP hw hK
    have hh : X.A.in1.handled = none := I.ok.hd hc
    obtain ⟨its1, r1, b1, _⟩ := k.now I ok1
    obtain ⟨its2, r2, b2, _⟩ := k'.now I ok2
    obtain ⟨P1, D1, f1⟩ := ZK.draws (prog := X.prog) (w := X.w) hh k its1 r1 n (fun z => Nat.lt_irrefl _ (hb _ z))
    obtain ⟨P2, D2, f2⟩ := ZK.draws (prog := X.prog) (w := X.w) hh k' its2 r2 (n + 1) (fun z => Nat.lt_irrefl _ (Nat.lt_of_le_of_lt (Nat.le_succ _) (hb' _ z)))
    refine wpAny_pyNext_zipD2_end (zsep hb hb') D1 D2 hz hTI hTO ⟨s1, b1⟩ ⟨s2, b2⟩ hi1 hi2 hend fun h' tk kp => ⟨rfl, I.turnedL (t' := tk) (ch := [n + 4, n + 2, n + 3, n, n + 1]) (fun c o hcn e => ?_) hf⟩
    simp only [List.mem_cons, List.not_mem_nil, or_false, not_or] at hcn
    exact kp c o hcn.1 hcn.2.2.1 hcn.2.2.2.1 hcn.2.2.2.2 e
  self := fun A i s Q E st q => wpAny_pyIter_zip st.1 q
def tZip (K : PySem.W.Frag) (ta : TA) : TI := fun σ H R => ta σ H fun vs H1 => ∃ x y, vs = [x, y] ∧ ∀ u u', RelV x u → RelV y u' → ∃ k k' : ZK, k.v = u ∧ k'.v = u' ∧ k.ok K H1 ∧ k'.ok K H1 ∧ R (ItZ K k k') H1
section
variable {X : Cx}
theorem pi_zipZ {e e2 : Expr} {ta : TA} {p pos tpos : Pos} {elts : List Expr} {kk : Nat} (hg : Gl X "zip") (hm : X.mg "zip" = none) (ha : PA X [e, e2] ta)
    (hs : starEach [e, e2] X.env = (false, eval e X.env) :: starEach [e2] X.env := by rfl) (hpl : (backTo pos (starEach [e2] X.env)).any (·.1) = false := by rfl) : PI X (.Tuple elts kk tpos) (.Call (.Name "zip" p) [e, e2] [] pos) (tZip X.K ta) := by
  refine ⟨fun pins s σ H R I h => ?_⟩
  refine Call_ (ld_blt I hg hm PyProof.Rows.boot_zip (PyProof.Rows.callWith_type1 (thn (ha.run pos pins s σ H _ I h) fun us s1 hh => ?_) hs hpl))
  obtain ⟨vs, H1, I1, r1, x, y, rfl, q⟩ := hh
  cases r1 with
  | cons r rr =>
    cases rr with
    | cons r' rr =>
      cases rr
      obtain ⟨k, k', rfl, rfl, ok, ok', q⟩ := q _ _ r r'
      obtain ⟨its1, r1, b1, l1⟩ := k.now I1 ok
      obtain ⟨its2, r2, b2, l2⟩ := k'.now I1 ok'
      refine zip_begins2 (k.begins its1) (k'.begins its2) b1 b2 fun h' hz hTI hTO h1 h2 hsz hk => wpAny_pyIter_zip hz ?_
      have I2 : L2.Inv X pins σ H1 { s1 with heap := h' } := I1.kept (t' := s1.toks) hk
      refine ⟨s1.heap.objs.size + 4, _, _, _, H1, rfl, I2, turnZ l1 l2, ⟨hz, hTI, ⟨_, _, hTO⟩, k.st0 h1, k'.st0 h2⟩, fun c hcm => ?_, q⟩
      have hle : s1.heap.objs.size ≤ c := by
        rcases mem5 hcm with rfl | rfl | rfl | rfl | rfl <;> first | exact Nat.le_add_right _ _ | exact Nat.le_refl _
      exact I1.fpOk hle (I1.hok.fresh hle)
/-- what may be zipped: its items -/
def zSeq (S : Sto) (d : D) (xs : List D) : Prop := d = .tup xs ∨ d = .rol xs ∨ (∃ z, d = .str z ∧ xs = chars z) ∨ ∃ a, d = .ref a ∧ S a = some (.lst xs) ∧ xs.all fl = true
theorem zSeq.kind {K : PySem.W.Frag} {S : Sto} {H : Hp} {d : D} {xs : List D} {v : V} {u : Value} (h : zSeq S d xs) (rep : Rep K S H) (r : RV K H d v) (ru : RelV v u) :
    ∃ k : ZK, k.v = u ∧ k.ok K H ∧ RVs K H xs k.items ∧ ∀ S' H', zSeq S' d xs → Keep K H H' → Rep K S' H' → k.ok K H' := by
  rcases h with rfl | rfl | ⟨z, rfl, rfl⟩ | ⟨a, rfl, e, f⟩
  · obtain ⟨a, vs, rfl, s, r⟩ := rv_tup r
    cases ru
    exact ⟨.tup a vs, rfl, s, r, fun S' H' _ kp _ => kp.tup _ _ s⟩
  · unfold RV at r
    obtain ⟨a, vs, rfl, s, r⟩ := r
    cases ru
    exact ⟨.lst a vs, rfl, s.sq, r, fun S' H' _ kp _ => (kp.rol s).sq⟩
  · rw [rv_str r] at ru
    obtain ⟨t, rfl⟩ := ru
    exact ⟨.txt z t, rfl, trivial, rvs_chars, fun _ _ _ _ _ => trivial⟩
  · rw [rv_ref r] at ru
    cases ru
    obtain ⟨vs, e1, r1⟩ := rep _ _ e
    refine ⟨.lst a vs, rfl, SqL.of e1, r1, fun S' H' h' kp rep' => ?_⟩
    rcases h' with h' | h' | ⟨z, h', _⟩ | ⟨a', h', e', f'⟩
    · cases h'
    · cases h'
    · cases h'
    · cases h'
      obtain ⟨vs', e2, r2⟩ := rep' _ _ e'
      have q1 := (rvs_fl f r1).1
      have q2 := (rvs_fl f r2).1
      rw [q2, ← q1] at e2
      exact SqL.of e2
def pairsD (xs ys : List D) : List D := (xs.zip ys).map fun p => D.tup [p.1, p.2]
def iZipQ (qa : QA) : QI := fun loc S P E => qa loc S (fun ds S1 => ∃ x y xs ys, ds = [x, y] ∧ zSeq S1 x xs ∧ zSeq S1 y ys ∧ P (.on (fun S' => zSeq S' x xs ∧ zSeq S' y ys) (pairsD xs ys)) S1) E
theorem di_zip {e e2 : Expr} {qa : QA} {p pos tpos : Pos} {elts : List Expr} {kk : Nat} (hg : Gl X "zip") (hm : X.mg "zip" = none) (ha : DA X [e, e2] qa)
    (hs : starEach [e, e2] X.env = (false, eval e X.env) :: starEach [e2] X.env := by rfl) (hpl : (backTo pos (starEach [e2] X.env)).any (·.1) = false := by rfl) : DI X (.Tuple elts kk tpos) (.Call (.Name "zip" p) [e, e2] [] pos) (iZipQ qa) := fun W tk => by
  refine PI.imp (pi_zipZ hg hm (ha W tk) hs hpl) fun σ H R h => ?_
  obtain ⟨loc, S, P, E, rl, rep, hq, g, gx⟩ := h
  refine ⟨loc, S, _, E, rl, rep, hq, fun ds S1 vs H1 q1 k1 rep1 r1 => ?_, gx⟩
  obtain ⟨x, y, xs, ys, rfl, hx, hy, hp⟩ := q1
  obtain ⟨vx, vy, rfl, rx, ry⟩ := rvs_two r1
  refine ⟨vx, vy, rfl, fun u u' ru ru' => ?_⟩
  obtain ⟨k, e1, o1, i1, f1⟩ := hx.kind rep1 rx ru
  obtain ⟨k', e2, o2, i2, f2⟩ := hy.kind rep1 ry ru'
  refine ⟨k, k', e1, e2, o1, o2, g _ _ _ _ hp k1 rep1 ?_⟩
  have l1 := i1.length
  have l2 := i2.length
  have lp : (pairsD xs ys).length = min k.items.length k'.items.length := by unfold pairsD; rw [List.length_map, List.length_zip, l1, l2]
  have get : ∀ {i : Nat} {d : D}, (pairsD xs ys)[i]? = some d → ∃ a b, xs[i]? = some a ∧ ys[i]? = some b ∧ d = D.tup [a, b] := fun {i d} e => by
    unfold pairsD at e
    rw [List.getElem?_map] at e
    obtain ⟨q, e3, rfl⟩ := Option.map_eq_some_iff.mp e
    obtain ⟨h1, h2⟩ := List.getElem?_zip_eq_some.mp e3
    exact ⟨q.1, q.2, h1, h2, rfl⟩
  refine ⟨fun i d S' H' hi ok kp rep' => ?_, fun i S' H' hi ok kp rep' => ?_, fun i d S' H' v H2 hi ok kp rep' yl => ?_⟩
  · obtain ⟨a, b, ea, eb, _⟩ := get hi
    have h1 := (List.getElem?_eq_some_iff.mp ea).1
    have h2 := (List.getElem?_eq_some_iff.mp eb).1
    exact ⟨f1 _ _ ok.1 kp rep', f2 _ _ ok.2 kp rep', by omega, by omega⟩
  · have hi' : (pairsD xs ys).length = i := hi
    exact ⟨f1 _ _ ok.1 kp rep', f2 _ _ ok.2 kp rep', by omega, by omega, by omega⟩
  · obtain ⟨a, b, ea, eb, rfl⟩ := get hi
    obtain ⟨T, v1, v2, rfl, nT, rfl, e3, e4⟩ := yl
    obtain ⟨w1, g1, rw1⟩ := RVs.get i1 ea
    obtain ⟨w2, g2, rw2⟩ := RVs.get i2 eb
    obtain rfl := Option.some.inj (e3.symm.trans g1)
    obtain rfl := Option.some.inj (e4.symm.trans g2)
    have kk := Keep.new (K := X.K) (o := HO.tup [v1, v2]) nT
    refine ⟨kk, rep'.same (same_new nT), ?_⟩
    have r2 : RVs X.K H' [a, b] [v1, v2] := by
      unfold RVs
      exact ⟨_, _, rfl, RV.keep kp _ _ rw1, RVs.one (RV.keep kp _ _ rw2)⟩
    exact rv_newT nT r2
end
end PL

namespace PL
open PySem PySem.Spec PyProof.Rows L2 PySem.W
/-! ## a lambda with one parameter that has a number as default -/
abbrev fnD (qual : Str) (params : Arguments) (body : Expr) (scope : Scope) (cl : List (Str × Addr)) (pm cdv ct : Value) (dV : Value) : FuncData := { kla_fn "<lambda>" qual params body scope cl pm cdv ct with defaults := dV }
abbrev obD (qual : Str) (params : Arguments) (body : Expr) (scope : Scope) (cl : List (Str × Addr)) (pm cdv ct : Value) (dV : Value) : Obj := { cls := .type "function", data := .func (fnD qual params body scope cl pm cdv ct dV) }
section
variable {M : Model} {A : Around} {E : Value → Shared → Prop} {s : Shared} {qual : Str} {params : Arguments} {body : Expr} {scope : Scope} {env : Env} {c P : Addr} {ps : Array Value} {pos : Pos} {mg : Str → Option Value} {clos : List (Str × Addr)} {Q : Value → Shared → Prop} {dV : Value}
theorem mkTail_new (hcl : closureFor scope env = pure clos) (hge0 : env.globals = mainGlobals) (hg : s.heap.Ns mainGlobals mg) (hcode : env.code = .ref c) (C : CodeHd s.heap c P) (hP : s.heap.get? P = some (PySem.W.tabObj ps)) (ht : TriplesOk ps.toList) (hnf : codeAmong pos ps.toList = none) (hgP : mainGlobals ≠ P) (hb : s.heap.BuiltinsAt mg P)
    (h : ∀ c' ctv h' tk, Heap.ExtBut P s.heap h' → s.heap.objs.size ≤ c' → c' < h'.objs.size → h'.CodeRec (.ref c') qual → h'.get? P = some (PySem.W.tabObj (ps ++ #[rawInt pos.line, rawInt pos.col, .ref c'])) → Q (.ref h'.objs.size) { s with heap := h'.push (obD qual params body scope clos ((mg "__name__").getD .none) (.ref c') ctv dV), toks := tk }) :
    wpAny M A (makeTail "<lambda>" qual params (.expr body) scope env dV .none none pos pos.line) Q E s := by
  obtain ⟨bm, ob, hbm, hne0, _, hneP, hbo, hcls, hdict, hdata⟩ := hb
  unfold makeTail
  rw [hcl, hge0]
  refine wpAny_bind (wpAny_pure ?_)
  cases clos with
  | nil =>
    simp only [List.isEmpty_nil, if_true]
    refine wpAny_bind (wpAny_pure (wpAny_bind (wpAny_functionCodeX hcode (C.code hP ht) (C.tab hP) hnf fun c' h' tk hx hge hlt _ hrec htb _ => ?_)))
    have g1 := hg.extBut hx hgP
    exact wpAny_bind (wpAny_builtinsFor g1 hbm hne0 (hx _ _ hneP hbo) hcls hdict hdata (wpAny_bind (wpAny_nsGet g1 (wpAny_bind (wpAny_pure (wpAny_newObj_type (h c' .none h' tk hx hge hlt hrec htb.2) (by size_fits)))))))
  | cons q r =>
    simp only [List.isEmpty_cons, Bool.false_eq_true, if_false]
    refine wpAny_bind (wpAny_newTextTuple (wpAny_bind (wpAny_functionCodeX hcode ((C.keeps fun b o e => Heap.get?_push_of_some _ e).code (Heap.get?_push_of_some _ hP) ht) ((C.keeps fun b o e => Heap.get?_push_of_some _ e).tab (Heap.get?_push_of_some _ hP)) hnf fun c' h' tk hx hge hlt _ hrec htb _ => ?_)))
    have g1 := (hg.push _).extBut hx hgP
    have hx' : Heap.ExtBut P s.heap h' := fun b o hb' e => hx b o hb' (Heap.get?_push_of_some _ e)
    have ge' : s.heap.objs.size ≤ c' := Nat.le_trans (by rw [Heap.size_push]; exact Nat.le_succ _) hge
    exact wpAny_bind (wpAny_builtinsFor g1 hbm hne0 (hx' _ _ hneP hbo) hcls hdict hdata (wpAny_bind (wpAny_nsGet g1 (wpAny_bind (wpAny_pure (wpAny_newObj_type (h c' _ h' tk hx' ge' hlt hrec htb.2) (by size_fits)))))))
theorem mkTail_hit {cv : Value} (hcl : closureFor scope env = pure clos) (hge0 : env.globals = mainGlobals) (hg : s.heap.Ns mainGlobals mg) (hcode : env.code = .ref c) (C : CodeHd s.heap c P) (hP : s.heap.get? P = some (PySem.W.tabObj ps)) (ht : TriplesOk ps.toList) (hf : codeAmong pos ps.toList = some cv) (hb : s.heap.BuiltinsAt mg P)
    (h : ∀ (ctv : Value) (h' : Heap) (tk : Tok), (∀ b o, s.heap.get? b = some o → h'.get? b = some o) → s.heap.objs.size ≤ h'.objs.size → Q (.ref h'.objs.size) { s with heap := h'.push (obD qual params body scope clos ((mg "__name__").getD .none) cv ctv dV), toks := tk }) :
    wpAny M A (makeTail "<lambda>" qual params (.expr body) scope env dV .none none pos pos.line) Q E s := by
  obtain ⟨bm, ob, hbm, hne0, _, hneP, hbo, hcls, hdict, hdata⟩ := hb
  unfold makeTail
  rw [hcl, hge0]
  refine wpAny_bind (wpAny_pure ?_)
  cases clos with
  | nil =>
    simp only [List.isEmpty_nil, if_true]
    exact wpAny_bind (wpAny_pure (wpAny_bind (wpAny_functionCode_hit hcode (C.code hP ht) hf (wpAny_bind (wpAny_builtinsFor hg hbm hne0 hbo hcls hdict hdata (wpAny_bind (wpAny_nsGet hg (wpAny_bind (wpAny_pure (wpAny_newObj_type (h .none s.heap s.toks (fun _ _ e => e) (Nat.le_refl _)) (by size_fits)))))))))))
  | cons q r =>
    simp only [List.isEmpty_cons, Bool.false_eq_true, if_false]
    have hsz : ∀ oT : Obj, s.heap.objs.size ≤ (s.heap.push oT).objs.size := fun oT => by rw [Heap.size_push]; exact Nat.le_succ _
    exact wpAny_bind (wpAny_newTextTuple (wpAny_bind (wpAny_functionCode_hit hcode ((C.keeps fun b o e => Heap.get?_push_of_some _ e).code (Heap.get?_push_of_some _ hP) ht) hf (wpAny_bind (wpAny_builtinsFor (hg.push _) hbm hne0 (Heap.get?_push_of_some _ hbo) hcls hdict hdata (wpAny_bind (wpAny_nsGet (hg.push _) (wpAny_bind (wpAny_pure (wpAny_newObj_type (h _ _ s.toks (fun b o e => Heap.get?_push_of_some _ e) (hsz _)) (by size_fits)))))))))))
theorem mkFn_eq {d : Value} : makeFunction "<lambda>" qual params (.expr body) scope env [d] [] [] pos pos.line = (newTextTuple [d] >>= fun dV => makeTail "<lambda>" qual params (.expr body) scope env dV .none none pos pos.line) := by
  rw [makeFunction_eq]
  simp only [List.zip_nil_right, List.filterMap_nil, List.isEmpty_nil, List.isEmpty_cons, Bool.false_eq_true, if_true, if_false, pure_bind]
theorem eval_lamD {i : Int} {j : Nat} {p1 : Pos} (hd : params.defaults = [.Constant (.int i) j p1]) (hk : params.kw_defaults = []) (h : ∀ t tk, wpAny M A (makeFunction "<lambda>" (env.qual ++ "<lambda>") params (.expr body) scope env [.int i t] [] [] pos pos.line) Q E { s with toks := tk }) :
    wpAny M A (eval (.Lambda params body scope pos) env) Q E s := by
  rw [arm_eval_Lambda]
  have e : defaultsOf params env = ([eval (.Constant (.int i) j p1) env], []) := by
    obtain ⟨a, b, c, d, k, f, g⟩ := params
    simp only at hd hk
    subst hd hk
    rfl
  rw [e]
  show wpAny M A (do let dv ← evalAll [eval (.Constant (.int i) j p1) env]; let kdv ← holding dv (evalAllOpt []); makeFunction "<lambda>" (env.qual ++ "<lambda>") params (.expr body) scope env dv kdv [] pos pos.line) Q E s
  exact wpAny_bind (wpAny_evalAll_cons (wpAny_Constant_int (wpAny_evalAll_nil (wpAny_bind (wpAny_holding (wpAny_pure (h s.toks (s.toks + 1))))))))
end
/-- the lambda's names: its parameter x, captured ones, globals -/
structure LamSD (x : Str) (N : List Str) (sc scope : Scope) : Prop where
  kind : scope.kind = .function
  co : scope.isCoroutine = false
  gen : scope.isGenerator = false
  par : scope.names.lookup x = some .local
  out : x ∉ N
  own : ∀ y ∈ scope.names, y.2 ≠ .cell ∧ (y.2 = .local → y.1 = x)
  free : ∀ y ∈ scope.names, y.2 = .free → sc.names.lookup y.1 = some .cell ∨ sc.names.lookup y.1 = some .free
def lamSDB (x : Str) (N : List Str) (sc scope : Scope) : Bool :=
  decide (scope.kind = .function) && (!scope.isCoroutine && (!scope.isGenerator && (decide (scope.names.lookup x = some .local) && (decide (x ∉ N) && scope.names.all fun y => !decide (y.2 = .cell) && (!decide (y.2 = .local) || decide (y.1 = x)) && (!decide (y.2 = .free) || decide (sc.names.lookup y.1 = some .cell) || decide (sc.names.lookup y.1 = some .free))))))
theorem lamSD_by {x : Str} {N : List Str} {sc scope : Scope} (h : lamSDB x N sc scope = true) : LamSD x N sc scope := by
  unfold lamSDB at h
  simp only [Bool.and_eq_true, Bool.or_eq_true, Bool.not_eq_true', decide_eq_true_eq, decide_eq_false_iff_not, List.all_eq_true] at h
  obtain ⟨h1, h2, h3, h4, h5, h6⟩ := h
  refine ⟨h1, h2, h3, h4, h5, fun y hy => ⟨(h6 y hy).1.1, fun e => ?_⟩, fun y hy e => ?_⟩
  · rcases (h6 y hy).1.2 with z | z
    · exact absurd e z
    · exact z
  · rcases (h6 y hy).2 with (z | z) | z
    · exact absurd e z
    · exact .inl z
    · exact .inr z
theorem cod_sub {X : Cx} {pins : List (Addr × Obj)} {σ : L2.St} {H1 : Hp} {s' : Shared} {T : List (Addr × Str)} {S : Sto} {c' : Addr} {nm : Str} (tok : TabOk T S) (rep0 : Rep X.K S H1) (hco : H1 c' = some (LamX.CodeO c' nm)) (I1 : L2.Inv X pins σ H1 s') : Sub S (ups S c' (.cod nm)) ∧ TabOk T (ups S c' (.cod nm)) := by
  have sub1 : Sub S (ups S c' (.cod nm)) := fun b o e => by
    by_cases hb : b = c'
    · subst hb
      have z := rep0 _ _ e
      cases o with
      | lst ds =>
        obtain ⟨vs, z, _⟩ := z
        rw [hco] at z
        unfold LamX.CodeO at z
        cases z
      | tab nm =>
        obtain ⟨vs, z, _⟩ := z
        rw [hco] at z
        unfold LamX.CodeO at z
        cases z
      | cod n2 =>
        have z : H1 b = some (LamX.CodeO b n2) := z
        have o1 := I1.hok b _ hco
        have o2 := I1.hok b _ z
        obtain ⟨⟨oc1, vs1, t1, a1, a2, a3⟩, _, _⟩ := o1
        obtain ⟨⟨oc2, vs2, t2, b1, b2, b3⟩, _, _⟩ := o2
        rw [a1] at b1
        cases b1
        rw [a2] at b2
        cases b2
        rw [a3] at b3
        have e3 : n2 = nm := by
          injection Option.some.inj b3 with e5 _
          exact e5.symm
        rw [e3, ups_same]
    · rw [ups_ne hb]
      exact e
  refine ⟨sub1, fun q hq => sub1 _ _ (tok.1 q hq), fun b o e => ?_⟩
  by_cases hb : b = c'
  · subst hb
    rw [ups_same] at e
    cases e
  · rw [ups_ne hb] at e
    exact tok.2 b o e
section
variable {X : Cx} {pins : List (Addr × Obj)} {σ : L2.St} {H HZ : Hp} {s s1 : Shared} {x : Str} {scope : Scope}
theorem LamSD.has (L : LamSD x X.N X.env.scope scope) (ok : X.Ok) : ∀ y ∈ scope.names, y.2 = .free → ∃ c, X.env.cells.lookup y.1 = some c := fun y hy e => by
  rcases L.free y hy e with k | k
  · exact ok.has _ (.inl k)
  · exact ok.has _ (.inr k)
theorem lam_startD {A : Around} {outer : List Env} {E : XK} {f c' : Addr} {h₁ : Heap} {tk : Nat} {v : Value} (I : L2.Inv X pins σ H s) (L : LamSD x X.N X.env.scope scope) (e0 : Env0 X.prog X.w X.K X.mg X.base A outer s1 HZ) (hd : A.handled = none)
    (un : Un (frs X.stack) [] H HZ s.heap s1.heap) (hns : h₁.Ns s1.heap.objs.size fun y => ([(x, v)] : List (Str × Value)).reverse.lookup y) (kp : ∀ b o, s1.heap.get? b = some o → h₁.get? b = some o) :
    L2.Inv (LamX.lamCx X A outer s1 HZ E scope f c') [] σ HZ { s1 with heap := h₁, toks := tk } := by
  have hfree := L.has I.ok
  have cm : ∀ {y c}, (cloFrom X.env.cells scope.names []).lookup y = some c → X.env.cells.lookup y = some c := fun {y c} e => by
    rcases cloFrom_mem (PySem.mem_of_lookup e) with hm | ⟨h1, h2⟩
    · cases hm
    · obtain ⟨c1, hc⟩ := hfree _ h1 rfl
      have hc' : X.env.cells.lookup y = some c1 := hc
      have e2 : c = c1 := by rw [h2, hc']; rfl
      rw [e2]
      exact hc'
  have look : ∀ {y}, scope.names.lookup y = some .free → ∃ c, (cloFrom X.env.cells scope.names []).lookup y = some c := fun {y} hl =>
    mem_lookup (cloFrom_has (cells := X.env.cells) (acc := []) (show (y, NameKind.free) ∈ scope.names from PySem.mem_of_lookup hl))
  have cellK : ∀ {c : Addr} {u : Option Value}, H c = none → s.heap.IsCell c u → h₁.IsCell c u := fun {c u} n ⟨o, ho, hdt⟩ => by
    obtain ⟨sl, q⟩ := un.any ho n (by simp)
    exact ⟨_, kp _ _ q, hdt⟩
  have noA : ∀ b : Addr, b ∉ (LamX.lamCx X A outer s1 HZ E scope f c').ex := fun b z => absurd (show b ∈ ([] : List Addr) from z) (by simp)
  have hasC : ∀ y, (scope.names.lookup y = some .cell ∨ scope.names.lookup y = some .free) → ∃ c, (cloFrom X.env.cells scope.names []).lookup y = some c := fun y hy => by
    rcases hy with hy | hy
    · exact absurd rfl (L.own _ (PySem.mem_of_lookup hy)).1
    · exact look hy
  refine ⟨⟨e0.mod, L.kind, rfl, rfl, Nat.le_refl _, fun y z c e1 e2 => I.ok.inj y z c (cm e1) (cm e2), hasC, fun y c z _ => (Bool.false_ne_true z).elim, fun _ => hd, Around.frames_deeper e0.frames, .inr ⟨rfl, rfl⟩, fun b z => absurd z (noA b), e0.bs, e0.bsz, fun b _ _ => noA b, fun b z => absurd z (noA b), e0.funs, e0.frf⟩,
    rfl, e0.bare, Un.kept kp, ⟨_, hns, fun i y u e1 e2 e3 => ?_⟩, fun y c e => ?_, e0.hok.fresh (Nat.le_refl _), fun y c e => ?_, fun q hq => absurd (show q ∈ ([] : List (Addr × Obj)) ++ [] from hq) (by simp), e0.hok.kept kp, I.len⟩
  · have e3' : Vis scope y := e3
    rcases e3' with k | k | k
    · have ex := (L.own _ (PySem.mem_of_lookup k)).2 rfl
      have ex' : y = x := ex
      exact absurd (List.mem_of_getElem? e1) (by rw [ex']; exact L.out)
    · exact absurd rfl (L.own _ (PySem.mem_of_lookup k)).1
    · obtain ⟨m, hn, hl⟩ := I.loc
      have hvis : Vis X.env.scope y := (L.free _ (PySem.mem_of_lookup k) rfl).elim (fun k => .inr (.inl k)) (fun k => .inr (.inr k))
      obtain ⟨w', r, q⟩ := hl i y u e1 e2 hvis
      obtain ⟨c2, h2⟩ := look k
      have c1 := cm h2
      refine ⟨w', r, .inr ⟨.inr k, c2, h2, ?_⟩⟩
      rcases q with ⟨k', _⟩ | ⟨_, c3, e', z⟩
      · have k1 : X.env.scope.names.lookup y = some .local := k'
        rcases L.free _ (PySem.mem_of_lookup k) rfl with k2 | k2 <;> rw [show X.env.scope.names.lookup y = _ from k2] at k1 <;> cases k1
      · rw [c1] at e'
        cases e'
        exact cellK (I.freeC y _ c1) z
  · obtain ⟨w', z⟩ := I.cell y c (cm e)
    exact ⟨w', cellK (I.freeC y c (cm e)) z⟩
  · obtain ⟨w, o, ho, hdt⟩ := I.cell y c (cm e)
    exact un.free c o ho (I.freeC y c (cm e)) (by simp)
theorem lam_makeD {T : List (Addr × Str)} {c P : Addr} {params : Arguments} {body : Expr} {pos : Pos} {E : Value → Shared → Prop} {Q : Value → Shared → Prop} {i : Int} {j : Nat} {p1 : Pos} (I : L2.Inv X pins σ H s) (TB : LamX.TabB X.base X.mg c P) (hcode : X.env.code = .ref c)
    (hm : (P, X.env.qual ++ "<lambda>") ∈ T) (hu : ∀ p ∈ T, p.1 = P → p.2 = X.env.qual ++ "<lambda>") (hT : LamX.Tabs T H) (hd : params.defaults = [.Constant (.int i) j p1]) (hk : params.kw_defaults = []) (hfree : ∀ y ∈ scope.names, y.2 = .free → ∃ c, X.env.cells.lookup y.1 = some c)
    (h : ∀ (f c' dt : Addr) (t : Tok) (pm ctv : Value) (H1 : Hp) (s' : Shared), L2.Inv X pins σ H1 s' → LamX.ExtN H H1 → LamX.Tabs T H1 → s'.heap.get? f = some (obD (X.env.qual ++ "<lambda>") params body scope (cloFrom X.env.cells scope.names []) pm (.ref c') ctv (.ref dt)) →
      s'.heap.get? dt = some { cls := .type "tuple", data := .seq #[.int i t] } → H1 f = none → H1 dt = none → f ∉ frs X.stack → dt ∉ frs X.stack → H1 c' = some (LamX.CodeO c' (X.env.qual ++ "<lambda>")) → Q (.ref f) s') :
    wpAny (model X.prog X.w) X.A (eval (.Lambda params body scope pos) X.env) Q E s := by
  refine eval_lamD hd hk fun t tk0 => ?_
  rw [mkFn_eq]
  refine wpAny_bind (wpAny_newTextTuple ?_)
  obtain ⟨s0, hs0⟩ : ∃ s0 : Shared, s0 = { s with toks := tk0, heap := s.heap.push { cls := .type "tuple", data := .seq ([Value.int i t] : List Value).toArray } } := ⟨_, rfl⟩
  have I0 : L2.Inv X pins σ H s0 := by
    rw [hs0]
    exact I.kept (t' := tk0) fun b o e => Heap.get?_push_of_some _ e
  have ht0 : s0.heap.get? s.heap.objs.size = some { cls := .type "tuple", data := .seq #[.int i t] } := by
    rw [hs0]
    exact Heap.get?_push_size _ rfl
  show wpAny _ _ _ _ _ { s with toks := tk0, heap := s.heap.push { cls := .type "tuple", data := .seq ([Value.int i t] : List Value).toArray } }
  rw [← hs0]
  have nofr : ∀ f, s.heap.objs.size ≤ f → f ∉ frs X.stack := fun f hf z => by
    rcases List.mem_cons.mp (I.stkSub _ z) with e | e
    · have h1 := I.lt
      rw [← e] at h1
      exact Nat.lt_irrefl _ (Nat.lt_of_lt_of_le h1 hf)
    · exact I.nofs hf e
  have le0 : s.heap.objs.size ≤ s0.heap.objs.size := by
    rw [hs0]
    show _ ≤ (s.heap.push _).objs.size
    rw [Heap.size_push]
    exact Nat.le_succ _
  have nT : H s.heap.objs.size = none := I.hok.fresh (Nat.le_refl _)
  clear hs0
  obtain ⟨ps, hP, hps, ha⟩ := hT _ hm
  have bP : s0.heap.BuiltinsAt X.mg P := TB.bm.keeps I0.bk
  have hP' : s0.heap.get? P = some (PySem.W.tabObj ps) := I0.hok P _ hP
  have nTP : s.heap.objs.size ≠ P := fun z => by
    rw [z, hP] at nT
    cases nT
  cases hc : codeAmong pos ps.toList with
  | none =>
    refine mkTail_new (mg := X.mg) (c := c) (P := P) (ps := ps) (closure_ok hfree) I0.ok.glob (I0.mod.glob.keeps I0.bk) hcode (TB.code.keeps I0.bk) hP' hps hc TB.gP bP fun c' ctv h' tk hx hge hlt hrec htb => ?_
    obtain ⟨c2, oc, vs, t2, e2, hoc, hdt, hv⟩ := hrec
    cases e2
    have hsz : s0.heap.objs.size ≤ h'.objs.size := Nat.le_trans hge (Nat.le_of_lt hlt)
    have nC : H c' = none := I0.hok.fresh hge
    have I1 := LamX.inv_table (t' := tk) (more := #[rawInt pos.line, rawInt pos.col, .ref c']) (h' := h'.push (obD (X.env.qual ++ "<lambda>") params body scope (cloFrom X.env.cells scope.names []) ((X.mg "__name__").getD .none) (.ref c') ctv (.ref s.heap.objs.size))) I0 hP
      (fun b o hb e => Heap.get?_push_of_some _ (hx b o hb e)) (Heap.get?_push_of_some _ htb) hge ⟨oc, vs, t2, Heap.get?_push_of_some _ hoc, hdt, hv⟩
    have eL : (ps ++ #[rawInt pos.line, rawInt pos.col, .ref c']).toList = ps.toList ++ [rawInt pos.line, rawInt pos.col, .ref c'] := by simp
    have hE : LamX.ExtN H (upd (upd H P (.tbl (ps ++ #[rawInt pos.line, rawInt pos.col, .ref c']))) c' (LamX.CodeO c' (X.env.qual ++ "<lambda>"))) := fun b o e n => by
      rw [upd_ne (ne_of_none e nC), upd_ne (fun z => n ps (Option.some.inj (e.symm.trans (by rw [z]; exact hP))))]
      exact e
    have n1 : h'.objs.size ≠ c' := Nat.ne_of_gt hlt
    have n2 : h'.objs.size ≠ P := Nat.ne_of_gt (Nat.lt_of_lt_of_le (Heap.lt_size hP') hsz)
    have n3 : s.heap.objs.size ≠ c' := Nat.ne_of_lt (Nat.lt_of_lt_of_le (Heap.lt_size ht0) hge)
    refine h h'.objs.size c' s.heap.objs.size t ((X.mg "__name__").getD .none) ctv _ _ I1 hE (fun p hp => ?_) (Heap.get?_push_size _ rfl) (Heap.get?_push_of_some _ (hx _ _ nTP ht0)) ?_ ?_ (nofr _ (Nat.le_trans le0 hsz)) (nofr _ (Nat.le_refl _)) upd_same
    · by_cases hb : p.1 = P
      · rw [hu p hp hb, hb]
        refine ⟨_, by rw [upd_ne (ne_of_none hP nC), upd_same], by rw [eL]; exact PySem.TriplesOk_snoc _ _ _ _ hps, fun p' cv hcv => ?_⟩
        rw [eL] at hcv
        rcases LamX.among_app _ hps hcv with z | z
        · obtain ⟨c0, e1, e2⟩ := ha p' cv z
          exact ⟨c0, e1, hE _ _ e2 LamX.codeO_ne⟩
        · exact ⟨c', z, upd_same⟩
      · obtain ⟨ps', a1, a2, a3⟩ := hT p hp
        refine ⟨ps', by rw [upd_ne (ne_of_none a1 nC), upd_ne hb]; exact a1, a2, fun p' cv hcv => ?_⟩
        obtain ⟨c0, e1, e2⟩ := a3 p' cv hcv
        exact ⟨c0, e1, hE _ _ e2 LamX.codeO_ne⟩
    · rw [upd_ne n1, upd_ne n2]
      exact I0.hok.fresh hsz
    · rw [upd_ne n3, upd_ne nTP]
      exact nT
  | some cv =>
    obtain ⟨c', e, hco⟩ := ha pos cv hc
    subst e
    refine mkTail_hit (mg := X.mg) (c := c) (P := P) (ps := ps) (closure_ok hfree) I0.ok.glob (I0.mod.glob.keeps I0.bk) hcode (TB.code.keeps I0.bk) hP' hps hc bP fun ctv h' tk hx hsz => ?_
    have I1 : L2.Inv X pins σ H { s0 with heap := h'.push (obD (X.env.qual ++ "<lambda>") params body scope (cloFrom X.env.cells scope.names []) ((X.mg "__name__").getD .none) (.ref c') ctv (.ref s.heap.objs.size)), toks := tk } := I0.kept fun b o e => Heap.get?_push_of_some _ (hx b o e)
    exact h h'.objs.size c' s.heap.objs.size t ((X.mg "__name__").getD .none) ctv H _ I1 (LamX.ExtN.refl H) hT (Heap.get?_push_size _ rfl) (Heap.get?_push_of_some _ (hx _ _ ht0)) (I0.hok.fresh hsz) nT (nofr _ (Nat.le_trans le0 hsz)) (nofr _ (Nat.le_refl _)) hco
theorem de_actD {Eg : XK} {Ng : List Str} {qg : Str} {sg : Scope} {g f c' dt : Addr} {t : Tok} {i : Int} {cdg pm ctv : Value} {params : Arguments} {body : Expr} {k : Nat} {a : Str} {pn : List (Addr × Obj)} {xe : Value → Shared → Prop} {q : QE} {loc : PL.Loc} {p1 p2 : Pos}
    (I : L2.Inv X pins σ H s) (L : LamSD x X.N X.env.scope scope) (hf : s.heap.get? f = some (obD (X.env.qual ++ "<lambda>") params body scope (cloFrom X.env.cells scope.names []) pm (.ref c') ctv (.ref dt))) (hdt : s.heap.get? dt = some { cls := .type "tuple", data := .seq #[.int i t] })
    (hfn : H f = none) (hdn : H dt = none) (hfr : f ∉ frs X.stack) (hdr : dt ∉ frs X.stack) (rl : RL X.K H loc σ)
    (hbind : ∀ T : Addr, ∃ kk, bindArgs (fnD (X.env.qual ++ "<lambda>") params body scope (cloFrom X.env.cells scope.names []) pm (.ref c') ctv (.ref T)) ⟨[], []⟩ = seqItems? (.ref T) >>= kk ∧ ∀ v, kk (some #[v]) = pure [(x, v)])
    (hr : Room (k + 1) (X.A.deeper (envOfC qg sg s.heap.objs.size g cdg)))
    (hbody : ∀ (A : Around) (outer : List Env) (s : Shared) (H : Hp) (E : XK), Room k (A.deeper (LamX.lamEnv X scope s.heap.objs.size f c')) → DE (lamN X A outer s H E scope f c') body q)
    (hN : Ng[0]? = some a) (hv : Vis sg a) (hd : (a == ("__debug__" : Str)) = false := by decide) (hcd : (a == ("__classdict__" : Str)) = false := by decide) :
    DE ((gotCx X Ng qg sg g cdg X.A X.stack s H Eg).tr pn xe) (.Call (.Name a p1) [] [] p2) (qAct f c' (X.env.qual ++ "<lambda>") loc q) := fun W tk => by
  refine ⟨fun pinsZ sZ σZ HZ Q IZ h => ?_⟩
  obtain ⟨locZ, SZ, P, E, rlZ, repZ, ⟨h0, hcod, hq⟩, go, gx⟩ := h
  obtain ⟨vf, e0, rvf⟩ := rlZ.at_ 0 _ h0
  rw [rv_ref rvf] at e0
  refine wpAny_Call_Name_kw (thn ((pe_var (pos := p1) (i := 0) hN hv hd hcd).run pinsZ sZ σZ HZ (fun v H1 => v = .ref f ∧ H1 = HZ) IZ ⟨.ref f, e0, rfl, rfl⟩) fun u s1 hu => ?_)
  obtain ⟨v, H1, I1, r1, ev, eH⟩ := hu
  subst ev
  rw [eH] at I1
  obtain rfl : u = Value.ref f := r1
  have un : Un (frs X.stack) [] H HZ s.heap s1.heap := I1.base
  have kZ : Keep X.K H HZ := Un.keepP un
  have of1 := un.keep f _ hf hfn hfr (by simp)
  have of2 := un.keep dt _ hdt hdn hdr (by simp)
  refine PySem.W.callWith_F0 ⟨_, _, _, _, of1⟩ ?_
  have hco : HZ c' = some (LamX.CodeO c' (X.env.qual ++ "<lambda>")) := repZ c' _ hcod
  obtain ⟨⟨oc, vs, t2, hoc, hdc, hvc⟩, _, _⟩ := I1.hok c' _ hco
  have rc : codeAny (model X.prog X.w) (X.A.deeper (envOfC qg sg s.heap.objs.size g cdg)) (.call (.ref f) ⟨[], []⟩) (CR (L2N.CX X.prog X.w) (envOfC qg sg s.heap.objs.size g cdg :: X.stack) X.prog X.w HZ s1 Q (WE W σZ)) s1 := by
    refine PySem.W.kla_callFunE hr.depth of1 rfl L.co L.gen rfl ⟨c', oc, vs, t2, rfl, hoc, hdc, hvc⟩ ?_
    obtain ⟨kk, e1, e2⟩ := hbind dt
    rw [e1]
    refine wpAny_bind (wpAny_seqItems of2 rfl ?_)
    rw [e2]
    refine wpAny_pure (wpAny_newFunctionEnv (fun y hy => (L.own y hy).1) (fun y hy => ?_) (fun h₁ hns hsb => ⟨I1.nolimit.fresh _ hsb, ?_⟩) L.kind)
    · obtain rfl : y = (x, Value.int i t) := List.mem_singleton.mp hy
      exact L.par
    · show codeAny _ _ (.expr body (LamX.lamEnv X scope s1.heap.objs.size f c')) _ _
      have kp : ∀ b o, s1.heap.get? b = some o → h₁.get? b = some o := fun b o e => hsb.extBut b o (Nat.ne_of_lt (Heap.lt_size e)) (Heap.get?_push_of_some _ e)
      have J0 := lam_startD (A := X.A.deeper (envOfC qg sg s.heap.objs.size g cdg)) (outer := envOfC qg sg s.heap.objs.size g cdg :: X.stack) (f := f) (c' := c') (tk := s1.toks + ([(x, Value.int i t)] : List (Str × Value)).length) (E := WE W σZ) I L I1.env0 hr.hd un hns kp
      have J : L2.Inv (lamN X (X.A.deeper (envOfC qg sg s.heap.objs.size g cdg)) (envOfC qg sg s.heap.objs.size g cdg :: X.stack) s1 HZ (WE W σZ) scope f c') [] σ HZ { s1 with heap := h₁, toks := s1.toks + ([(x, Value.int i t)] : List (Str × Value)).length } := J0.wish _
      have pb := hbody (X.A.deeper (envOfC qg sg s.heap.objs.size g cdg)) (envOfC qg sg s.heap.objs.size g cdg :: X.stack) s1 HZ (WE W σZ) (hr.deeper _) (fun c d _ H' => WE W σZ c d H') (L2N.takes_of rfl rfl rfl rfl)
      refine PySem.W.kla_codeExpr (wpAny_mono (pb.run [] _ σ HZ Q J ⟨loc, SZ, P, E, rl.keep kZ, repZ, hq, go, fun x S' H' c d ex k rep rx => gx x S' H' c d ex k rep rx⟩) (fun v s' hq => ?_) fun e s' hq => hq)
      obtain ⟨w', H', J', rv, q⟩ := hq
      exact ⟨w', H', J'.os, J'.bare, J'.base, J'.hok, rv, q⟩
  refine wpAny_call (codeAny_mono rc fun r s' hq => ?_)
  match r, hq with
  | .error e, hq => exact L2N.passAt tk σZ pinsZ HZ s1 e s' I1 hq
  | .ok (.ret u), hq => exact I1.after hq
  | .ok .next, hq => exact False.elim hq
  | .ok .brk, hq => exact False.elim hq
  | .ok .cont, hq => exact False.elim hq
/-- x(lambda y=1: ..) -/
theorem de_lamD {T : List (Addr × Str)} {qB : QE → QS} {xg a : Str} {g c P : Addr} {k : Nat} {pg : Arguments} {bg : List Stmt} {sg : Scope} {dV kV doc pm cdv ct oc : Value} {an od : Option Addr} {osl : Array (Option Value)} {Ng : List Str} {i : Int} {j : Nat} {pc : Pos}
    {params : Arguments} {body : Expr} {q : QE} {p lpos pos : Pos} (hg : Gl X xg) (hm : X.mg xg = some (.ref g)) (hk : PySem.W.keepIn X.K (.ref g) = true)
    (lk : X.K.lookup g = some ⟨oc, od, .func (PySem.W.fnOf xg xg pg bg sg dV kV doc pm an cdv ct), osl⟩) (hcg : PySem.W.codeIn X.K cdv xg = true) (hb : L2.Binds X.K (PySem.W.fnOf xg xg pg bg sg dV kV doc pm an cdv ct) [a] []) (Sg : FnScope Ng [a] sg) (hNg : Ng[0]? = some a) (hva : Vis sg a)
    (hB : ∀ (s : Shared) (H : Hp) (qc : QE), Room (k + 1) (X.A.deeper (envOfC xg sg s.heap.objs.size g cdv)) → (∀ (pn : List (Addr × Obj)) (xe : Value → Shared → Prop) (p1 p2 : Pos), DE ((gotCx X Ng xg sg g cdv X.A X.stack s H fun _ _ _ => False).tr pn xe) (.Call (.Name a p1) [] [] p2) qc) →
      DB (gotCx X Ng xg sg g cdv X.A X.stack s H fun _ _ _ => False) bg (qB qc))
    (TB : LamX.TabB X.base X.mg c P) (hcode : X.env.code = .ref c) (hmT : (P, X.env.qual ++ "<lambda>") ∈ T) (hu : ∀ p ∈ T, p.1 = P → p.2 = X.env.qual ++ "<lambda>") (hr : Room (k + 2) X.A) (L : LamSD x X.N X.env.scope scope) (hdef : params.defaults = [.Constant (.int i) j pc]) (hkw : params.kw_defaults = [])
    (hbind : ∀ (q : Str) (cl : List (Str × Addr)) (pm cv ctv : Value) (T : Addr), ∃ kk, bindArgs (fnD q params body scope cl pm cv ctv (.ref T)) ⟨[], []⟩ = seqItems? (.ref T) >>= kk ∧ ∀ v, kk (some #[v]) = pure [(x, v)])
    (hbody : ∀ (A : Around) (outer : List Env) (s : Shared) (H : Hp) (E : XK) (f c' : Addr), Room k (A.deeper (LamX.lamEnv X scope s.heap.objs.size f c')) → DE (lamN X A outer s H E scope f c') body q)
    (hdb : (xg == ("__debug__" : Str)) = false := by decide) (hd : (a == ("__debug__" : Str)) = false := by decide) (hcd : (a == ("__classdict__" : Str)) = false := by decide) :
    DE X (.Call (.Name xg p) [.Lambda params body scope lpos] [] pos) (qLam T Ng (X.env.qual ++ "<lambda>") qB q) := fun W _ => by
  refine ⟨fun pins s σ H Q I h => ?_⟩
  obtain ⟨loc, S, Pd, E, rl, rep, ⟨tok, hq⟩, go, _⟩ := h
  refine wpAny_Call_Name_kw (ld_glob I hg hm ?_ hdb)
  refine PySem.W.callWith_K (h₀ := X.base) I.ok.mod.kin hk ?_ (by rfl) (by rfl)
  show wpAny _ _ (spliced ((false, eval (.Lambda params body scope lpos) X.env) :: backTo pos (starEach [] X.env))) _ _ s
  refine Calls.spliced_cons (lam_makeD I TB hcode hmT hu (rep.tabs tok) hdef hkw (L.has I.ok) fun f c' dt t pm' ctv H1 s' I1 eN T1 hf hdt hfn hdn hfr hdr hco => ?_)
  refine Calls.spliced_nil ⟨I1.kIn, ?_⟩
  have k1 : Keep X.K H H1 := ExtN.keep eN
  have rep0 : Rep X.K S H1 := rep.extN tok eN T1
  have rep1 : Rep X.K (ups S c' (.cod (X.env.qual ++ "<lambda>"))) H1 := fun b o e => by
    by_cases hb : b = c'
    · subst hb
      rw [ups_same] at e
      cases e
      exact hco
    · rw [ups_ne hb] at e
      exact rep0 b o e
  obtain ⟨sub1, tok1⟩ := cod_sub tok rep0 hco I1
  have rf : RVs X.K H1 [D.ref f] [V.ref f] := RVs.one rv_ofR
  have rc : codeAny (model X.prog X.w) X.A (.call (.ref g) ⟨[.ref f], []⟩) (CR (L2N.CX X.prog X.w) X.stack X.prog X.w H1 s' Q fun _ _ _ => False) s' := by
    refine LamX.run_ofS (N := Ng) (ps := [a]) (us := [.ref f]) (vs := [.ref f]) lk hcg Sg hr I1.env0 (hb s' [.ref f] I1.kIn rfl) (.cons rfl .nil) rfl fun hr' => ?_
    have db := hB s' H1 (qAct f c' (X.env.qual ++ "<lambda>") loc q) hr' fun pn xe p1 p2 => de_actD I1 L hf hdt hfn hdn hfr hdr (rl.keep k1) (fun T => hbind _ _ _ _ _ T) hr' (fun A outer s H E hr2 => hbody A outer s H E f c' hr2) hNg hva hd hcd
    refine ⟨_, db (fun c d _ H' => False) (L2N.takes_of rfl rfl rfl rfl), ?_⟩
    exact ⟨startD Ng [.ref f], _, endsF Pd fun _ _ => False, startD_len rf, rep1, hq f c' _ sub1 ups_same tok1, endsF_go (E := fun _ _ _ => False) (go.keep k1) fun _ _ _ _ _ z => z.elim⟩
  refine wpAny_call (codeAny_mono rc fun r s2 hq => ?_)
  match r, hq with
  | .error e, hq =>
    obtain ⟨_, _, _, _, _, _, _, _, _, _, _, _, z⟩ := hq
    exact z.elim
  | .ok (.ret u), hq => exact I1.after hq
  | .ok .next, hq => exact False.elim hq
  | .ok .brk, hq => exact False.elim hq
  | .ok .cont, hq => exact False.elim hq
/-- _law_told(lambda y=1: ..) -/
theorem de_toldD {T : List (Addr × Str)} {qB : QE → QS} {c P : Addr} {k : Nat} {st : Stmt} {a : Str} {Ng : List Str} {params : Arguments} {body : Expr} {q : QE} {p lpos pos pc : Pos} {i : Int} {j : Nat} (TL : ToldT X.K X.mg st [a]) (hg : Gl X "_law_told") (Sg : FnScope Ng [a] (defScope st)) (hNg : Ng[0]? = some a) (hva : Vis (defScope st) a)
    (hB : ∀ (g : Addr) (cdv : Value) (s : Shared) (H : Hp) (qc : QE), Room (k + 1) (X.A.deeper (envOfC "_law_told" (defScope st) s.heap.objs.size g cdv)) → (∀ (pn : List (Addr × Obj)) (xe : Value → Shared → Prop) (p1 p2 : Pos), DE ((gotCx X Ng "_law_told" (defScope st) g cdv X.A X.stack s H fun _ _ _ => False).tr pn xe) (.Call (.Name a p1) [] [] p2) qc) →
      DB (gotCx X Ng "_law_told" (defScope st) g cdv X.A X.stack s H fun _ _ _ => False) (defBody st) (qB qc))
    (TB : LamX.TabB X.base X.mg c P) (hcode : X.env.code = .ref c) (hmT : (P, X.env.qual ++ "<lambda>") ∈ T) (hu : ∀ p ∈ T, p.1 = P → p.2 = X.env.qual ++ "<lambda>") (hr : Room (k + 2) X.A) (L : LamSD x X.N X.env.scope scope) (hdef : params.defaults = [.Constant (.int i) j pc]) (hkw : params.kw_defaults = [])
    (hbind : ∀ (q : Str) (cl : List (Str × Addr)) (pm cv ctv : Value) (T : Addr), ∃ kk, bindArgs (fnD q params body scope cl pm cv ctv (.ref T)) ⟨[], []⟩ = seqItems? (.ref T) >>= kk ∧ ∀ v, kk (some #[v]) = pure [(x, v)])
    (hbody : ∀ (A : Around) (outer : List Env) (s : Shared) (H : Hp) (E : XK) (f c' : Addr), Room k (A.deeper (LamX.lamEnv X scope s.heap.objs.size f c')) → DE (lamN X A outer s H E scope f c') body q)
    (hd : (a == ("__debug__" : Str)) = false := by decide) (hcd : (a == ("__classdict__" : Str)) = false := by decide) : DE X (.Call (.Name "_law_told" p) [.Lambda params body scope lpos] [] pos) (qLam T Ng (X.env.qual ++ "<lambda>") qB q) := by
  obtain ⟨g, fd, hm, F, hb⟩ := TL
  obtain ⟨oc, od, dV, kV, doc, pm, an, cdv, ct, osl, rfl, lk, hcg, _, _⟩ := F.ex
  exact de_lamD hg hm F.kp lk hcg hb Sg hNg hva (hB g cdv) TB hcode hmT hu hr L hdef hkw hbind hbody (by decide) hd hcd
end
end PL

namespace PL
open PySem PySem.Spec PyProof.Rows
/-! ## set(x), x a text, a tuple, a list -/
def stepDed {K : Type} [DecidableEq K] (acc : List K) (k : K) : List K := if k ∈ acc then acc else acc ++ [k]
/-- each key once, in the order in which they come -/
def ded {K : Type} [DecidableEq K] (ks : List K) : List K := ks.foldl stepDed []
theorem ded_snoc {K : Type} [DecidableEq K] (ks : List K) (k : K) : ded (ks ++ [k]) = stepDed (ded ks) k := by unfold ded; rw [List.foldl_append]; rfl
theorem ded_len {K : Type} [DecidableEq K] : ∀ n (ks : List K), ks.length = n → (ded ks).length ≤ n
  | 0, ks, h => by
    obtain rfl := List.eq_nil_of_length_eq_zero h
    exact Nat.le_refl _
  | n + 1, ks, h => by
    have hne : ks ≠ [] := fun e => by rw [e] at h; cases h
    rw [← List.dropLast_concat_getLast hne, ded_snoc]
    have ih := ded_len n ks.dropLast (by rw [List.length_dropLast, h]; rfl)
    unfold stepDed
    split
    · omega
    · rw [List.length_append, List.length_singleton]; omega
section
variable {prog : Program} {w : World} {A : Around} {R : Result → Shared → Prop} {I : Addr} {fp wr : List Addr} {G : Array GenState → Array GenState → Prop} {n : Nat} {P : Nat → Value → Prop} {St : Nat → Shared → Prop} {K : Type} [DecidableEq K]
theorem setLoop (knd : KeyKind prog w K) (W : WalksS prog w A.in1 I fp wr G n P St) (S : Addr) (hSf : S ∉ fp) (ks : List K) (hl : ks.length = n) (hroom : n + 1 < scanBound)
    (hval : ∀ i v, P i v → ∃ k, ks[i]? = some k ∧ knd.is k v = true ∧ v.scannable = true) :
    ∀ (m i : Nat) (s : Shared), n - i = m → i ≤ n → St i s → s.heap.SetOf knd S (fun k => decide (k ∈ ded (ks.take i))) (ded (ks.take i)).length →
      (∀ s', Moved (S :: wr) G s s' → s'.heap.SetOf knd S (fun k => decide (k ∈ ded ks)) (ded ks).length → R (.ok (.ret .none)) s') → codeAny (model prog w) A (.builtin "set.update.loop" ⟨[.ref S, .ref I], []⟩) R s := by
  have notW : S ∉ wr := fun h => hSf (W.sub _ h)
  have wider : ∀ b ∈ wr, b ∈ S :: wr := fun b hb => List.mem_cons_of_mem _ hb
  have carry : ∀ {s s' : Shared} {T : K → Bool} {c : Nat}, s.heap.SetOf knd S T c → Moved wr G s s' → s'.heap.SetOf knd S T c := fun {s s' T c} ⟨o, es, ep, t, ho, rest⟩ hm => ⟨o, es, ep, t, hm.heap S _ notW ho, rest⟩
  intro m
  induction m with
  | zero =>
    intro i s hk hi hst hS hR
    obtain rfl : i = n := by omega
    rw [← hl, List.take_length] at hS
    refine codeAny_builtin PyProof.Rows.F.entry_set_update_loop ?_
    rw [Around.under_plainId PyProof.Rows.F.plain_set_update_loop _]
    show wpAny _ A.in1 (pyNext (.ref I) >>= _) _ _ s
    exact wpAny_bind (W.done s _ _ hst fun s' hm => wpAny_pure (hR s' (hm.mono wider) (carry hS hm)))
  | succ m ih =>
    intro i s hk hi hst hS hR
    have hlt : i < n := by omega
    refine codeAny_builtin PyProof.Rows.F.entry_set_update_loop ?_
    rw [Around.under_plainId PyProof.Rows.F.plain_set_update_loop _]
    show wpAny _ A.in1 (pyNext (.ref I) >>= _) _ _ s
    refine wpAny_bind (W.item i s _ _ hlt hst fun v s' hP hst' hm => ?_)
    obtain ⟨k, ek, hkv, hsc⟩ := hval i v hP
    show wpAny _ A.in1 (holding [v] (setAdd S v) >>= _) _ _ s'
    refine wpAny_bind (wpAny_holding ?_)
    unfold setAdd
    have hS1 := carry hS hm
    have few : (ded (ks.take i)).length ≤ i := ded_len i _ (by rw [List.length_take]; omega)
    refine wpAny_holding (wpAny_bind (knd.pyHash hkv (wpAny_setAddHashed_of (knd := knd) (s := { s' with toks := s'.toks + 1 }) hkv hsc hS1 (by omega) fun h' hsb hS2 => ?_)))
    have et : ks.take (i + 1) = ks.take i ++ [k] := by
      rw [List.take_succ, ek]
      rfl
    have next : h'.SetOf knd S (fun k' => decide (k' ∈ ded (ks.take (i + 1)))) (ded (ks.take (i + 1))).length := by
      rw [et, ded_snoc]
      unfold stepDed
      by_cases hin : k ∈ ded (ks.take i)
      · rw [if_pos hin]
        refine PyProof.Rows.SetOf_congr hS2 (fun k' => ?_) (by rw [if_pos (decide_eq_true hin)])
        by_cases e : k' = k
        · rw [e, decide_eq_true hin]; rfl
        · rw [decide_eq_false (p := k' = k) e, Bool.or_false]
      · rw [if_neg hin]
        refine PyProof.Rows.SetOf_congr hS2 (fun k' => ?_) (by rw [if_neg (by simpa using hin), List.length_append]; rfl)
        rw [← Bool.decide_or]
        exact decide_eq_decide.mpr (by simp [List.mem_append])
    refine wpAny_pure ⟨plainId_quiet PyProof.Rows.F.plain_set_update_loop _, ih (i + 1) _ (by omega) hlt (W.frame _ s' _ _ hst' (Nat.le_succ _) fun b hb o e => ?_) next fun s'' hm'' hS'' => ?_⟩
    · rw [hsb.2 b (fun z : b = S => hSf (by rw [← z]; exact hb))]
      exact e
    · refine hR s'' (Moved.trans W.gtrans ((hm.mono wider).then_heap (Nat.le_succ _) fun b o hb e => ?_) hm'') hS''
      rw [hsb.2 b (fun z : b = S => hb (by rw [z]; exact List.mem_cons_self))]
      exact e
end
/-- what a set may be made of -/
structure Feeds {K : Type} [DecidableEq K] (prog : Program) (w : World) (knd : KeyKind prog w K) (s : Shared) (v : Value) (ks : List K) (T : String) (o : Obj) (Hb : Heap → Prop) (fp0 : List Addr) : Prop where
  ty : ∀ s' : Shared, (∀ b o, s.heap.get? b = some o → s'.heap.get? b = some o) → s'.TypeIs v T
  noSet : isSubtype (.type T) (.type "set") = pure false
  noFroz : isSubtype (.type T) (.type "frozenset") = pure false
  noDict : (Value.type T == Value.type "dict") = false
  it : Begins v o Hb
  here : Hb s.heap
  low : ∀ b ∈ fp0, b < s.heap.objs.size
  few : ks.length + 1 < scanBound
  walk : ∀ (A : Around) (it : Addr), A.handled = none → it ∉ fp0 → ∃ (P : Nat → Value → Prop) (St : Nat → Heap → Prop), Walks prog w A it (it :: fp0) [it] ks.length P St ∧ (∀ h, h.get? it = some o → Hb h → St 0 h) ∧ ∀ i v, P i v → ∃ k, ks[i]? = some k ∧ knd.is k v = true ∧ v.scannable = true
section
variable {prog : Program} {w : World} {A : Around} {E : Value → Shared → Prop} {s : Shared} {K : Type} [DecidableEq K]
theorem call_set_any {knd : KeyKind prog w K} {v : Value} {ks : List K} {T : String} {o : Obj} {Hb : Heap → Prop} {fp0 : List Addr} {Q : Value → Shared → Prop} (F : Feeds prog w knd s v ks T o Hb fp0) (hh : A.handled = none)
    (h : ∀ (h' : Heap) (tk : Nat), h'.SetOf knd s.heap.objs.size (fun k => decide (k ∈ ded ks)) (ded ks).length → (∀ b o, b < s.heap.objs.size → s.heap.get? b = some o → h'.get? b = some o) → Q (.ref s.heap.objs.size) { s with heap := h', toks := tk }) :
    wpAny (model prog w) A (call (.type "set") [v]) Q E s := by
  obtain ⟨c0, tl0, mro0⟩ := PySem.F.called_set.mro
  have made0 := PySem.F.called_set.made
  have sub0 := PySem.F.called_set.sub
  refine wpAny_call (codeAny_of_tree ?_)
  show wpAny _ _ (callAny (.type "set") _) _ _ _
  refine wpAny_pure ⟨Code.quiet_builtin _ (by decide +kernel), codeAny_builtin PySem.F.entry_type_call ?_⟩
  rw [Around.under_plain (weight_type_call_type "set" [v] []) rfl]
  have nt0 := PySem.F.called_set.notType
  have cc0 := PySem.F.called_set.canCreate
  have ct0 := PySem.F.typeCall_set_1 v
  repeat (any_goals (first | assumption | wp_step))
  refine codeAny_mono (code_set_new_1 v (E := E) (Q₁ := fun ob s₁ => ∃ led : Bool, ob = .ref s.heap.objs.size ∧ s₁ = { s with heap := s.heap.push { cls := .type "set", dict := none, data := .set #[] 0 (.fresh 0 0 led) } }) fun led => ⟨led, rfl, rfl⟩) fun r s₁ hr => ?_
  cases r with
  | error e => exact hr
  | ok fl =>
    cases fl with
    | ret ob =>
      obtain ⟨led, rfl, rfl⟩ := hr
      obtain ⟨h1, eh1⟩ : ∃ h1, h1 = s.heap.push { cls := .type "set", dict := none, data := .set #[] 0 (.fresh 0 0 led) } := ⟨_, rfl⟩
      have z1 : h1.objs.size = s.heap.objs.size + 1 := by rw [eh1, Heap.size_push]
      have up1 : ∀ b o, s.heap.get? b = some o → h1.get? b = some o := fun b o e => by
        rw [eh1]
        exact Heap.get?_push_of_some _ e
      have new1 : h1.get? s.heap.objs.size = some { cls := .type "set", dict := none, data := .set #[] 0 (.fresh 0 0 led) } := by
        rw [eh1]
        exact Heap.get?_push_size _ rfl
      rw [← eh1]
      clear eh1
      have isSet : Shared.TypeIs { s with heap := h1 } (.ref s.heap.objs.size) "set" := ⟨_, new1, rfl⟩
      have il0 := PySem.F.called_set.init.lookup
      have ib0 := PySem.F.called_set.init.bind (.ref s.heap.objs.size)
      repeat (any_goals (first | assumption | wp_step))
      refine codeAny_mono (codeAny_call_builtin (R := wants (fun r s₂ => r = .none ∧ ∃ h' tk, s₂ = { s with heap := h', toks := tk } ∧ h'.SetOf knd s.heap.objs.size (fun k => decide (k ∈ ded ks)) (ded ks).length ∧ ∀ b o, b < s.heap.objs.size → s.heap.get? b = some o → h'.get? b = some o) E)
        PySem.F.called_set.init.plain PySem.F.entry_set_init (check_set_init_1 isSet ?_)) fun r₂ s₂ hr₂ => ?_
      · have tv : Shared.TypeIs { s with heap := h1 } v T := F.ty _ up1
        have q1 : ∀ {A' : Around} {E' : Value → Shared → Prop} {Q' : Bool → Shared → Prop}, Q' false { s with heap := h1 } → wpAny (model prog w) A' (isInstance v (.type "set")) Q' E' { s with heap := h1 } := fun q => wpAny_isInstance tv F.noSet q
        have q2 : ∀ {A' : Around} {E' : Value → Shared → Prop} {Q' : Bool → Shared → Prop}, Q' false { s with heap := h1 } → wpAny (model prog w) A' (isInstance v (.type "frozenset")) Q' E' { s with heap := h1 } := fun q => wpAny_isInstance tv F.noFroz q
        have q3 : ∀ {A' : Around} {E' : Value → Shared → Prop} {Q' : Value → Shared → Prop}, Q' (.type T) { s with heap := h1 } → wpAny (model prog w) A' (typeOf v) Q' E' { s with heap := h1 } := fun q => wpAny_typeOf tv q
        have nd := F.noDict
        unfold Builtin.«set.__init__» noKeywords Builtin.Frozenset.updateFrom
        generalize hPI : pyIter = PI
        wp_walk using q1, q2, q3
        subst hPI
        refine F.it.iter prog w _ _ { s with heap := h1 } _ (F.it.keeps _ _ F.here up1) ?_
        refine wpAny_bind (wpAny_runValue ?_)
        have hh3 : A.in1.in1.in1.handled = none := by simp [hh]
        have lowI : ∀ b ∈ fp0, b < h1.objs.size := fun b hb => by
          rw [z1]
          exact Nat.lt_succ_of_lt (F.low b hb)
        obtain ⟨Pw, Sw, W, start, hval⟩ := F.walk A.in1.in1.in1 h1.objs.size hh3 (fun z => Nat.lt_irrefl _ (lowI _ z))
        have apart : s.heap.objs.size ∉ h1.objs.size :: fp0 := fun z => by
          rcases List.mem_cons.mp z with e | e
          · rw [z1] at e
            exact Nat.ne_of_lt (Nat.lt_succ_self _) e
          · exact Nat.lt_irrefl _ (F.low _ e)
        refine setLoop knd W.toS s.heap.objs.size apart ks rfl F.few hval (ks.length - 0) 0 _ rfl (Nat.zero_le _) (start _ (Heap.get?_push_size _ F.it.free) (F.it.keeps _ _ (F.it.keeps _ _ F.here up1) fun b o e => Heap.get?_push_of_some _ e)) ?_ ?_
        · have hg : (h1.push o).get? s.heap.objs.size = some { cls := .type "set", dict := none, data := .set #[] 0 (.fresh 0 0 led) } := Heap.get?_push_of_some _ new1
          exact PyProof.Rows.SetOf_congr ((PyProof.Rows.setObjOf_fresh (knd := knd) led).setOf hg (by unfold scanBound; decide)) (fun k => by simp [ded]) rfl
        · intro s' hm hS'
          obtain ⟨h', g', d', tk', os'⟩ := s'
          obtain rfl : g' = s.gens := hm.gens
          obtain rfl : d' = s.drawn := hm.drawn
          obtain rfl : os' = s.os := hm.os
          show wpAny _ _ _ _ _ _
          refine wpAny_pure ?_
          show wpAny _ _ (ret Value.none) _ _ _
          refine wpAny_pure ⟨rfl, h', tk', rfl, hS', fun b o hb e => hm.heap b o (fun z => ?_) (Heap.get?_push_of_some _ (up1 _ _ e))⟩
          rcases List.mem_cons.mp z with e1 | e1
          · exact Nat.ne_of_lt hb e1
          · have e2 := List.mem_singleton.mp e1
            rw [z1] at e2
            exact Nat.ne_of_lt (Nat.lt_succ_of_lt hb) e2
      · cases r₂ with
        | error e => exact hr₂
        | ok fl₂ =>
          cases fl₂ with
          | ret r =>
            obtain ⟨rfl, h', tk, rfl, hS', hk'⟩ := hr₂
            repeat (any_goals (first | assumption | wp_step))
            exact h _ _ hS' hk'
          | _ => exact hr₂.elim
    | _ => exact hr.elim
end
end PL

namespace PL
open PySem PySem.Spec PyProof.Rows L2 -- the layers
section
variable {prog : Program} {w : World} {s : Shared} {K : Type} [DecidableEq K] {knd : KeyKind prog w K} {ks : List K}
theorem sub_tuple_set0 : isSubtype (.type "tuple") (.type "set") = pure false := by rw [isSubtype_type]; kernel_rfl
theorem sub_tuple_froz0 : isSubtype (.type "tuple") (.type "frozenset") = pure false := by rw [isSubtype_type]; kernel_rfl
theorem sub_str_set0 : isSubtype (.type "str") (.type "set") = pure false := by rw [isSubtype_type]; kernel_rfl
theorem sub_str_froz0 : isSubtype (.type "str") (.type "frozenset") = pure false := by rw [isSubtype_type]; kernel_rfl
def KeysAre (knd : KeyKind prog w K) (its : List Value) (ks : List K) : Prop := its.length = ks.length ∧ ∀ (i : Nat) (v : Value), its[i]? = some v → ∃ k, ks[i]? = some k ∧ knd.is k v = true ∧ v.scannable = true
theorem feeds_list {l : Addr} {its : List Value} (hl : s.heap.IsList l its.toArray) (h : KeysAre knd its ks) (hb : ks.length + 1 < scanBound) : Feeds prog w knd s (.ref l) ks "list" { cls := .type "list_iterator", data := .fields #[.ref l, .int 0 0] } (fun h => h.IsList l its.toArray) [l] where
  ty := fun s' k => by
    obtain ⟨o, e, c, _⟩ := hl
    exact ⟨o, k _ _ e, c⟩
  noSet := PySem.F.sub_list_set
  noFroz := PySem.F.sub_list_frozenset
  noDict := by decide
  it := begins_list l its.toArray
  here := hl
  low := fun b hb => by
    obtain ⟨o, e, _⟩ := hl
    rw [List.mem_singleton.mp hb]
    exact Heap.lt_size e
  few := hb
  walk := fun A it hh hn => by
    have hs : its.toArray.size = ks.length := by rw [List.size_toArray]; exact h.1
    have W := Walks.list (prog := prog) (w := w) hh it l (fun e => hn (by rw [e]; exact List.mem_singleton.mpr rfl)) its.toArray
    rw [hs] at W
    exact ⟨_, _, W, fun h' e b => ⟨⟨_, e, rfl, rfl⟩, b⟩, fun i v p => h.2 i v (by simpa using p)⟩
theorem feeds_tuple {l : Addr} {its : List Value} (hl : s.heap.IsTuple l its.toArray) (h : KeysAre knd its ks) (hb : ks.length + 1 < scanBound) : Feeds prog w knd s (.ref l) ks "tuple" { cls := .type "tuple_iterator", data := .fields #[.ref l, .int 0 0] } (fun h => h.IsTuple l its.toArray) [l] where
  ty := fun s' k => by
    obtain ⟨o, e, c, _⟩ := hl
    exact ⟨o, k _ _ e, c⟩
  noSet := sub_tuple_set0
  noFroz := sub_tuple_froz0
  noDict := by decide
  it := begins_tuple l its.toArray
  here := hl
  low := fun b hb => by
    obtain ⟨o, e, _⟩ := hl
    rw [List.mem_singleton.mp hb]
    exact Heap.lt_size e
  few := hb
  walk := fun A it hh hn => by
    have hs : its.toArray.size = ks.length := by rw [List.size_toArray]; exact h.1
    have W := Walks.tuple (prog := prog) (w := w) hh it l (fun e => hn (by rw [e]; exact List.mem_singleton.mpr rfl)) its.toArray
    rw [hs] at W
    exact ⟨_, _, W, fun h' e b => ⟨⟨_, e, rfl, rfl⟩, b⟩, fun i v p => h.2 i v (by simpa using p)⟩
theorem keys_ints {its : List Value} {ns : List Int} (r : Vals (ns.map V.int) its) : KeysAre (intKind prog w) its ns := by
  refine ⟨by rw [← r.length, List.length_map], fun i v e => ?_⟩
  have hi : i < ns.length := by
    have := (List.getElem?_eq_some_iff.mp e).1
    rw [← r.length, List.length_map] at this
    exact this
  obtain ⟨u, e2, t, e3⟩ := r.get (i := i) (x := V.int ns[i]) (by simp [hi])
  rw [e] at e2
  cases e2
  subst e3
  exact ⟨ns[i], List.getElem?_eq_getElem hi, intKind_is prog w _ _, rfl⟩
theorem keys_strs {its : List Value} {ns : List Str} (r : Vals (ns.map V.str) its) : KeysAre (strKind prog w) its ns := by
  refine ⟨by rw [← r.length, List.length_map], fun i v e => ?_⟩
  have hi : i < ns.length := by
    have := (List.getElem?_eq_some_iff.mp e).1
    rw [← r.length, List.length_map] at this
    exact this
  obtain ⟨u, e2, t, e3⟩ := r.get (i := i) (x := V.str ns[i]) (by simp [hi])
  rw [e] at e2
  cases e2
  subst e3
  exact ⟨ns[i], List.getElem?_eq_getElem hi, strKind_is prog w _ _, rfl⟩
end
section
variable {X : Cx}
def tLenSet (K : PySem.W.Frag) (ta : TE) : TE := fun σ H Q => ta σ H fun x H1 => ∃ (l : Addr) (n : Nat), x = .ref l ∧ Q (.int n) H1 ∧
  ((∃ ns : List Int, n = (ded ns).length ∧ ns.length ≤ 4000 ∧ (SqL K H1 l (ns.map V.int) ∨ SqT K H1 l (ns.map V.int))) ∨ ∃ ns : List Str, n = (ded ns).length ∧ ns.length ≤ 4000 ∧ (SqL K H1 l (ns.map V.str) ∨ SqT K H1 l (ns.map V.str)))
theorem pe_lenSet {a : Expr} {ta : TE} {p p2 q pos : Pos} (hg : Gl X "len") (hm : X.mg "len" = none) (hg2 : Gl X "set") (hm2 : X.mg "set" = none) (ha : PE X a ta) (hc : X.calm = true := by rfl)
    (na : starEach [a] X.env = (false, eval a X.env) :: starEach [] X.env := by rfl) : PE X (.Call (.Name "len" p) [.Call (.Name "set" p2) [a] [] q] [] pos) (tLenSet X.K ta) := by
  refine ⟨fun pins s σ H Q I h => ?_⟩
  refine Call_ (ld_blt I hg hm boot_len (PyProof.Rows.callWith_builtin1 (PyProof.Rows.args_cons ?_ rfl) rfl rfl))
  refine Call_ (ld_blt I hg2 hm2 boot_set (PyProof.Rows.callWith_type1 (PyProof.Rows.args_cons (thn (ha.run pins s σ H _ I h) fun v s1 hh => PyProof.Rows.args_nil ?_) na) na rfl))
  obtain ⟨x, H1, I1, r1, l, n, rfl, q1, src⟩ := hh
  cases r1
  have hh := I1.ok.hd hc
  rcases src with ⟨ns, rfl, hl, hq | hq⟩ | ⟨ns, rfl, hl, hq | hq⟩
  · obtain ⟨its, r, pl, hz⟩ := I1.list hq
    refine call_set_any (feeds_list (knd := intKind X.prog X.w) pl.isList (keys_ints r) (by unfold scanBound; omega)) hh fun h' tk hS hk => PyProof.Rows.args_nil ?_
    obtain ⟨o, es, ep, t, ho, hex, hd, _, _, _, hf, hn⟩ := hS
    have I2 : L2.Inv X pins σ H1 { s1 with heap := h', toks := tk } := I1.kept fun b o e => hk b o (Heap.lt_size e) e
    have few := ded_len _ ns rfl
    exact call_len_set ho hex hd hf (by rw [hn]; omega) ⟨.int _, H1, I2.tok _, ⟨_, by rw [hn]⟩, q1⟩
  · obtain ⟨its, r, pl, hz⟩ := I1.tuple hq
    refine call_set_any (feeds_tuple (knd := intKind X.prog X.w) pl (keys_ints r) (by unfold scanBound; omega)) hh fun h' tk hS hk => PyProof.Rows.args_nil ?_
    obtain ⟨o, es, ep, t, ho, hex, hd, _, _, _, hf, hn⟩ := hS
    have I2 : L2.Inv X pins σ H1 { s1 with heap := h', toks := tk } := I1.kept fun b o e => hk b o (Heap.lt_size e) e
    have few := ded_len _ ns rfl
    exact call_len_set ho hex hd hf (by rw [hn]; omega) ⟨.int _, H1, I2.tok _, ⟨_, by rw [hn]⟩, q1⟩
  · obtain ⟨its, r, pl, hz⟩ := I1.list hq
    refine call_set_any (feeds_list (knd := strKind X.prog X.w) pl.isList (keys_strs r) (by unfold scanBound; omega)) hh fun h' tk hS hk => PyProof.Rows.args_nil ?_
    obtain ⟨o, es, ep, t, ho, hex, hd, _, _, _, hf, hn⟩ := hS
    have I2 : L2.Inv X pins σ H1 { s1 with heap := h', toks := tk } := I1.kept fun b o e => hk b o (Heap.lt_size e) e
    have few := ded_len _ ns rfl
    exact call_len_set ho hex hd hf (by rw [hn]; omega) ⟨.int _, H1, I2.tok _, ⟨_, by rw [hn]⟩, q1⟩
  · obtain ⟨its, r, pl, hz⟩ := I1.tuple hq
    refine call_set_any (feeds_tuple (knd := strKind X.prog X.w) pl (keys_strs r) (by unfold scanBound; omega)) hh fun h' tk hS hk => PyProof.Rows.args_nil ?_
    obtain ⟨o, es, ep, t, ho, hex, hd, _, _, _, hf, hn⟩ := hS
    have I2 : L2.Inv X pins σ H1 { s1 with heap := h', toks := tk } := I1.kept fun b o e => hk b o (Heap.lt_size e) e
    have few := ded_len _ ns rfl
    exact call_len_set ho hex hd hf (by rw [hn]; omega) ⟨.int _, H1, I2.tok _, ⟨_, by rw [hn]⟩, q1⟩
/-- len(set(x)), x of ints, of texts -/
def qLenSet (q : QE) : QE := fun loc S P E => q loc S (fun d S1 => (∃ ns : List Int, (LsAt S1 d (ns.map D.int) ∨ d = .tup (ns.map D.int)) ∧ ns.length ≤ 4000 ∧ P (.int (ded ns).length) S1) ∨ ∃ ns : List Str, (LsAt S1 d (ns.map D.str) ∨ d = .tup (ns.map D.str)) ∧ ns.length ≤ 4000 ∧ P (.int (ded ns).length) S1) E
theorem de_lenSet {a : Expr} {qa : QE} {p p2 q pos : Pos} (hg : Gl X "len") (hm : X.mg "len" = none) (hg2 : Gl X "set") (hm2 : X.mg "set" = none) (ha : DE X a qa) (hc : X.calm = true := by rfl)
    (na : starEach [a] X.env = (false, eval a X.env) :: starEach [] X.env := by rfl) : DE X (.Call (.Name "len" p) [.Call (.Name "set" p2) [a] [] q] [] pos) (qLenSet qa) := fun W tk => by
  refine PE.imp (pe_lenSet hg hm hg2 hm2 (ha W tk) hc na) fun σ H Q h => ?_
  obtain ⟨loc, S, P, E, rl, rep, hq, g, gx⟩ := h
  refine ⟨loc, S, _, E, rl, rep, hq, fun d S1 v H1 q1 k1 rep1 r1 => ?_, gx⟩
  rcases q1 with ⟨ns, hd, hl, hp⟩ | ⟨ns, hd, hl, hp⟩
  · rcases hd with hd | rfl
    · obtain ⟨l, vs, e, s, r⟩ := hd.sq rep1 r1
      rw [rvs_ints r] at s
      exact ⟨l, _, e, g _ _ _ _ hp k1 rep1 rv_ofI, .inl ⟨ns, rfl, hl, .inl s⟩⟩
    · obtain ⟨l, vs, e, s, r⟩ := rv_tup r1
      rw [rvs_ints r] at s
      exact ⟨l, _, e, g _ _ _ _ hp k1 rep1 rv_ofI, .inl ⟨ns, rfl, hl, .inr s⟩⟩
  · rcases hd with hd | rfl
    · obtain ⟨l, vs, e, s, r⟩ := hd.sq rep1 r1
      rw [rvs_strs r] at s
      exact ⟨l, _, e, g _ _ _ _ hp k1 rep1 rv_ofI, .inr ⟨ns, rfl, hl, .inl s⟩⟩
    · obtain ⟨l, vs, e, s, r⟩ := rv_tup r1
      rw [rvs_strs r] at s
      exact ⟨l, _, e, g _ _ _ _ hp k1 rep1 rv_ofI, .inr ⟨ns, rfl, hl, .inr s⟩⟩
end
end PL

namespace PL
open PySem PySem.Spec PyProof.Rows L2 -- the layers
section
variable {X : Cx}
/-! ## tuple(x) as a tuple whose object is known; its index -/
theorem call_tupleP : CallR X (.type "tuple") (fun xs H Q => ∃ p ys, xs = [.ref p] ∧ SqL X.K H p ys ∧ ∀ l o, H l = none → o.cls = .type "tuple" → o.dict = none → Q (.ref l) (upd H l (.frz o (.tup ys)))) := by
  intro pins s σ H xs us Q I r h
  obtain ⟨p, ys, rfl, hq, q⟩ := h
  obtain ⟨u, rfl, rx⟩ := vals1 r
  cases rx
  obtain ⟨its, r', pl, hz⟩ := I.list hq
  have hlen := r'.length
  refine call_tuple_list pl.isList (fun h' kp => ?_) (by simp only [List.size_toArray] <;> omega)
  have I1 : L2.Inv X pins σ H { s with heap := h' } := I.kept (t' := s.toks) kp
  have I2 := I1.laid (t' := s.toks) (a := h'.objs.size) (o := .frz { cls := .type "tuple", data := .seq its.toArray } (.tup ys)) (h' := h'.push { cls := .type "tuple", data := .seq its.toArray }) (fun b o e => Heap.get?_push_of_some _ e) (Nat.le_refl _) ⟨Heap.get?_push_size _ rfl, hz, its, r', IsTup.new _ _⟩
  exact ⟨.ref h'.objs.size, _, I2, rfl, q _ _ (I1.hok.fresh (Nat.le_refl _)) rfl rfl⟩
def cTupleP : QC := fun ds S P => ∃ d xs, ds = [d] ∧ LsAt S d xs ∧ P (.ptup xs) S
theorem cd_tupleP : CDok X (.type "tuple") cTupleP := ⟨_, call_tupleP, fun ds S P H vs Q q rep r go => by
  obtain ⟨d, xs, rfl, hd, hp⟩ := q
  obtain ⟨v, rfl, rv⟩ := rvs_one r
  obtain ⟨a, ws, e, s, r2⟩ := hd.sq rep rv
  subst e
  refine ⟨a, ws, rfl, s, fun l o n h1 h2 => go _ _ _ _ hp (Keep.new n) (rep.same (same_new n)) ?_⟩
  unfold RV
  exact ⟨l, ws, rfl, ⟨o, upd_same, h1, h2⟩, RVs.keep (Keep.new n) _ _ r2⟩⟩
theorem mt_tupI : MtR X "tuple.index" (fun x xs H Q => ∃ p, ∃ ys : List Int, ∃ z j, x = .ref p ∧ xs = [.int z] ∧ SqT X.K H p (ys.map V.int) ∧ ys[j]? = some z ∧ (∀ m, m < j → ys[m]? ≠ some z) ∧ Q (.int (j : Nat)) H) := by
  intro pins s σ H x xs v us Q I rx rs h
  obtain ⟨p, ys, z, j, rfl, rfl, hq, hy, hno, q⟩ := h
  cases rx
  obtain ⟨u, rfl, t, rfl⟩ := vals1 rs
  obtain ⟨its, r, pl, hz⟩ := I.tuple hq
  obtain ⟨⟨cls, dd, dt, sl⟩, ho, hc, n, hd⟩ := pl
  simp only at hc hd
  subst hc hd
  have hl : its.toArray.size = ys.length := by rw [List.size_toArray, ← r.length, List.length_map]
  have hj : j < its.toArray.size := by rw [hl]; exact (List.getElem?_eq_some_iff.mp hy).1
  have item : ∀ (m : Nat) (hm : m < its.toArray.size), ∃ y t', ys[m]? = some y ∧ its.toArray[m] = Value.int y t' := fun m hm => by
    have hm' : m < ys.length := by rw [← hl]; exact hm
    obtain ⟨w, hw, t', hw'⟩ := r.get (i := m) (x := .int ys[m]) (by simp [hm'])
    refine ⟨ys[m], t', List.getElem?_eq_getElem hm', ?_⟩
    have e := (List.getElem?_eq_some_iff.mp hw).2
    rw [← hw', ← e]
    simp
  have flat : (ys.map V.int).all L2.flatV = true := by simp [L2.flatV]
  refine call_meets PySem.F.slot_tuple_index ⟨_, ho, rfl⟩ PySem.F.entry_tuple_index (PySem.F.args_tuple_index_2 _ _) (TI.tuple_indexAt p its.toArray n dd sl (.int z t) (eqU (.int z)) j hj ?_ ?_)
    ⟨ho, fun w hw => mem_eqAt (x := .int z) ⟨t, rfl⟩ rfl r flat w (by simpa using hw), ⟨.int (j : Nat), H, I.tok _, ⟨_, rfl⟩, q⟩⟩
  · obtain ⟨y, t', h1, h2⟩ := item j hj
    obtain rfl := Option.some.inj (hy.symm.trans h1)
    rw [h2]
    exact beq_self_eq_true z
  · intro m hm hmj
    obtain ⟨y, t', h1, h2⟩ := item m hm
    rw [h2]
    show (y == z) = false
    exact beq_eq_false_iff_ne.mpr fun e => hno m hmj (by rw [h1, e])
variable {o e : Expr} {name : Str} {apos cpos : Pos} {id : String} {r : V → List V → Hp → VK → Prop} {to : TE} {t : TA}
theorem pe_bmP (slot : Slot "tuple" name id) (hty : typeOf (.builtin id) = pure (.type "method_descriptor")) (hm : MtR X id r) (ho : PE X o to) (ha : PA X [e] t)
    (hbase : attributeBase o name X.env (eval o X.env) = eval o X.env := by rfl)
    (hfew : ((backTo cpos (starEach [e] X.env)).all (fun x => !x.1) && (backToKw cpos (keywordEach [] X.env)).all (fun x => x.1.isSome)
      && decide ([e].length + ([] : List Keyword).length + (if ([] : List Keyword).isEmpty then 0 else 1) < 30)) = true := by rfl)
    (hline : (apos.endLine == cpos.line) = true := by rfl) (hs : starEach [e] X.env = (false, eval e X.env) :: starEach [] X.env := by rfl) (hplain : (backTo cpos (starEach [] X.env)).any (·.1) = false := by rfl) :
    PE X (.Call (.Attribute o name apos) [e] [] cpos) (fun σ H Q => to σ H fun x H1 => (∃ p vs, x = .ref p ∧ PTup H1 p vs) ∧ t σ H1 fun xs H2 => r x xs H2 Q) := by
  refine ⟨fun pins s σ H Q I h => ?_⟩
  refine wpAny_Call_method_late hbase hfew hline rfl (thn (ho.run pins s σ H _ I h) fun v s1 hh => ?_)
  obtain ⟨x, H1, I1, r1, ⟨p, vs, rfl, ob, hf, hc, hd⟩, q1⟩ := hh
  cases r1
  have he := (I1.hok p _ hf).1
  refine ⟨"tuple", id, PySem.F.plainAttrs_tuple, slot, hty, ⟨ob, he, hc⟩, fun a e => ?_, ?_⟩
  · cases e
    exact ⟨ob, he, hd⟩
  · have hA := ha.run cpos pins s1 σ H1 _ I1 q1
    rw [hs] at hA ⊢
    refine Calls.callWith_builtin (by show (false || (backTo cpos (starEach [] X.env)).any (·.1)) = false; rw [hplain]; rfl) (Calls.evalArgs_plain (thn hA fun us s2 hu => ?_))
    obtain ⟨vs2, H2, I2, r2, q2⟩ := hu
    exact hm pins s2 σ H2 (.ref p) vs2 (.ref p) us Q I2 rfl r2 q2
def qTupIx (q : QE) (qa : QA) : QE := fun loc S P E => q loc S (fun d S1 => ∃ ys : List Int, d = .ptup (ys.map D.int) ∧ qa loc S1 (fun ds S2 => ∃ z j, ds = [.int z] ∧ ys[j]? = some z ∧ (∀ m, m < j → ys[m]? ≠ some z) ∧ P (.int (j : Nat)) S2) E) E
theorem de_tupIx {q : QE} {qa : QA} (ho : DE X o q) (ha : DA X [e] qa)
    (hbase : attributeBase o "index" X.env (eval o X.env) = eval o X.env := by rfl)
    (hfew : ((backTo cpos (starEach [e] X.env)).all (fun x => !x.1) && (backToKw cpos (keywordEach [] X.env)).all (fun x => x.1.isSome)
      && decide ([e].length + ([] : List Keyword).length + (if ([] : List Keyword).isEmpty then 0 else 1) < 30)) = true := by rfl)
    (hline : (apos.endLine == cpos.line) = true := by rfl) (hs : starEach [e] X.env = (false, eval e X.env) :: starEach [] X.env := by rfl) (hplain : (backTo cpos (starEach [] X.env)).any (·.1) = false := by rfl) :
    DE X (.Call (.Attribute o "index" apos) [e] [] cpos) (qTupIx q qa) := fun W tk => by
  refine PE.imp (pe_bmP PySem.F.slot_tuple_index PySem.F.type_tuple_index mt_tupI (ho W tk) (ha W tk) hbase hfew hline hs hplain) fun σ H Q h => ?_
  obtain ⟨loc, S, P, E, rl, rep, hq, g, gx⟩ := h
  refine ⟨loc, S, _, E, rl, rep, hq, fun d S1 v H1 q1 k1 rep1 r1 => ?_, gx⟩
  obtain ⟨ys, rfl, q1⟩ := q1
  unfold RV at r1
  obtain ⟨a, vs, rfl, pt, r2⟩ := r1
  rw [rvs_ints r2] at pt
  refine ⟨⟨a, _, rfl, pt⟩, loc, S1, _, E, rl.keep k1, rep1, q1, fun ds S2 ws H2 q2 k2 rep2 r3 => ?_, gx.keep k1⟩
  obtain ⟨z, j, rfl, h1, h2, hp⟩ := q2
  obtain ⟨w, rfl, rw1⟩ := rvs_one r3
  obtain ⟨ob, hf, _⟩ := pt
  exact ⟨a, ys, z, j, rfl, by rw [rv_int rw1], .inl (.inr ⟨ob, k2.frz _ _ _ hf⟩), h1, h2, g _ _ _ _ hp (k1.trans k2) rep2 rv_ofI⟩
end
end PL

namespace PL
open PySem PySem.Spec PyProof.Rows L2 -- the layers
section
variable {X : Cx} {W : WX}
/-! ## [elt for x in .. for y in ..] -/
abbrev noP : PX := fun _ _ => False
def qLc2 (it : QI) (g : QG) (tt : QT) (it1 : QI) (g1 : QG) (tt1 : QT) (te : QE) (own own1 : List Nat) : QE := fun loc S P E => it loc S (fun src S1 => ∀ p, S1 p = none → ∃ V : Nat → List D → Sto → Prop, V 0 [] (ups S1 p (.lst [])) ∧
  (∀ i d acc S, src.items[i]? = some d → V i acc S → src.ok S ∧ g d (wipeD loc own) S (fun loc2 S2 => tt loc2 S2 (fun b S3 => if b = true then
    it1 loc2 S3 (fun src1 S4 => ∃ V1 : Nat → List D → Sto → Prop, V1 0 acc S4 ∧
      (∀ j d acc S, src1.items[j]? = some d → V1 j acc S → src1.ok S ∧ g1 d (wipeD loc2 own1) S (fun loc5 S5 => tt1 loc5 S5 (fun b S6 => if b = true then
        te loc5 S6 (fun y S7 => S7 p = some (.lst acc) ∧ acc.length < sizeLine ∧ V1 (j + 1) (acc ++ [y]) (ups S7 p (.lst (acc ++ [y])))) noP else V1 (j + 1) acc S6) noP) noP) ∧
      ∀ acc S, V1 src1.items.length acc S → src1.ok S ∧ V (i + 1) acc S) noP
    else V (i + 1) acc S3) noP) noP) ∧
  ∀ acc S, V src.items.length acc S → src.ok S ∧ P (.ref p) S) E
theorem lc2_imp {it it1 : QI} {g g1 : QG} {tt tt1 : QT} {te : QE} {own own1 : List Nat} {σ : L2.St} {H : Hp} {Q : VK} (h : lift X.K W (qLc2 it g tt it1 g1 tt1 te own own1) σ H Q) :
    tLc2 (liftI X.K W it) (liftGo X.K own g) (liftT X.K (fun _ _ _ _ => False) tt) (liftI X.K (fun _ _ _ _ => False) it1) (liftGo X.K own1 g1) (liftT X.K (fun _ _ _ _ => False) tt1) (lift X.K (fun _ _ _ _ => False) te) own own1 σ H Q := by
  obtain ⟨loc, S, P, E, rl, rep, hq, go, gx⟩ := h
  refine ⟨loc, S, _, E, rl, rep, hq, fun src S1 H1 J q1 k1 rep1 rel p np => ?_, gx⟩
  obtain ⟨V, v0, turn, done⟩ := q1 p (rep1.free np)
  refine ⟨fun i m H' => m = src.items.length - i ∧ i ≤ src.items.length ∧ ∃ acc S', Keep X.K H1 H' ∧ Rep X.K S' H' ∧ V i acc S', ⟨src.items.length, by simp, Nat.zero_le _, [], _, Keep.new np, rep1.newL np (RVs.nil_iff.mpr rfl), v0⟩, ?_⟩
  rintro i m H2 ⟨rfl, hle, acc, S2, k2, rep2, v2⟩
  by_cases hlt : i < src.items.length
  · have hd : src.items[i]? = some src.items[i] := List.getElem?_eq_getElem hlt
    obtain ⟨ok, t⟩ := turn i _ acc S2 hd v2
    refine .inr ⟨rel.go i _ S2 H2 hd ok k2 rep2, fun H' => ∃ acc S', Keep X.K H1 H' ∧ Rep X.K S' H' ∧ V (i + 1) acc S', fun H' z => ⟨src.items.length - (i + 1), by omega, rfl, hlt, z⟩, fun x H3 y => ?_⟩
    obtain ⟨k3, rep3, rv3⟩ := rel.yld i _ S2 H2 x H3 hd ok k2 rep2 y
    refine ⟨src.items[i], wipeD loc own, S2, _, rv3, (rl.keep (k1.trans (k2.trans k3))).wipe own, rep3, t, fun loc4 S4 σ4 H4 q4 k4 rl4 rep4 hw => ?_⟩
    refine ⟨by rw [hw, wipe_wipe], loc4, S4, _, _, rl4, rep4, q4, fun b S5 H5 q5 k5 rep5 => ?_, noX⟩
    have kk : Keep X.K H1 H5 := k2.trans (k3.trans (k4.trans k5))
    cases b with
    | false =>
      refine iteF ?_
      exact ⟨acc, S5, kk, rep5, q5⟩
    | true =>
      refine iteT ?_
      have rl5 := rl4.keep k5
      refine ⟨loc4, S5, _, _, rl5, rep5, q5, fun src1 S6 H6 J1 q6 k6 rep6 rel1 => ?_, noX⟩
      obtain ⟨V1, w0, turn1, done1⟩ := q6
      refine ⟨fun j n H' => n = src1.items.length - j ∧ j ≤ src1.items.length ∧ ∃ acc S', Keep X.K H6 H' ∧ Rep X.K S' H' ∧ V1 j acc S', ⟨src1.items.length, by simp, Nat.zero_le _, acc, _, Keep.refl, rep6, w0⟩, ?_⟩
      rintro j n H7 ⟨rfl, hle1, acc1, S7, k7, rep7, v7⟩
      by_cases hlt1 : j < src1.items.length
      · have hd1 : src1.items[j]? = some src1.items[j] := List.getElem?_eq_getElem hlt1
        obtain ⟨ok1, t1⟩ := turn1 j _ acc1 S7 hd1 v7
        refine .inr ⟨rel1.go j _ S7 H7 hd1 ok1 k7 rep7, fun H' => ∃ acc S', Keep X.K H6 H' ∧ Rep X.K S' H' ∧ V1 (j + 1) acc S', fun H' z => ⟨src1.items.length - (j + 1), by omega, rfl, hlt1, z⟩, fun x1 H8 y1 => ?_⟩
        obtain ⟨k8, rep8, rv8⟩ := rel1.yld j _ S7 H7 x1 H8 hd1 ok1 k7 rep7 y1
        refine ⟨src1.items[j], wipeD loc4 own1, S7, _, rv8, (rl5.keep (k6.trans (k7.trans k8))).wipe own1, rep8, t1, fun loc9 S9 σ9 H9 q9 k9 rl9 rep9 hw9 => ?_⟩
        refine ⟨by rw [hw9, wipe_wipe], loc9, S9, _, _, rl9, rep9, q9, fun b1 S10 H10 q10 k10 rep10 => ?_, noX⟩
        cases b1 with
        | true =>
          refine iteT ⟨loc9, S10, _, _, rl9.keep k10, rep10, q10, fun yd S11 yv H11 q11 k11 rep11 ry => ?_, noX⟩
          obtain ⟨e11, hz, v11⟩ := q11
          obtain ⟨us, f11, ru⟩ := rep11 _ _ e11
          refine ⟨us, f11, by rw [← ru.length]; exact hz, acc1 ++ [yd], _, ?_, rep11.setL f11 (ru.append (RVs.one ry)), v11⟩
          exact k7.trans (k8.trans (k9.trans (k10.trans (k11.trans (keepL f11)))))
        | false =>
          refine iteF ?_
          exact ⟨acc1, S10, k7.trans (k8.trans (k9.trans k10)), rep10, q10⟩
      · have e : j = src1.items.length := by omega
        subst e
        obtain ⟨ok1, n1⟩ := done1 acc1 S7 v7
        exact .inl ⟨rel1.stop _ S7 H7 rfl ok1 k7 rep7, acc1, S7, kk.trans (k6.trans k7), rep7, n1⟩
  · have e : i = src.items.length := by omega
    subst e
    obtain ⟨ok, n⟩ := done acc S2 v2
    exact .inl ⟨rel.stop _ S2 H2 rfl ok k2 rep2, go _ _ _ _ n (k1.trans k2) rep2 rv_ofR⟩
theorem de_lc2 {elt tg iter tg1 iter1 : Expr} {ifs ifs1 : List Expr} {scope : Scope} {own : List (Str × Nat)} {own1 : List Nat} {pos : Pos} {it it1 : QI} {g g1 : QG} {tt tt1 : QT} {te : QE} (hc : X.calm = true) (hN : X.N.Nodup) (hi : DI X tg iter it) (ok : BlkOk X.N X.env.scope scope own) (hv : ∀ i ∈ own1, i ∈ own.map (·.2))
    (hg : ∀ (s : Shared) (H : Hp) (C : Addr) (cl : List (Str × Addr)) (fp : List Addr), DGo (X.blk s H scope (compEnvC scope cl C X.env) fp) tg (own.map (·.2)) g) (ht : ∀ (s : Shared) (H : Hp) (C : Addr) (cl : List (Str × Addr)) (fp : List Addr), DTs (X.blk s H scope (compEnvC scope cl C X.env) fp) ifs tt)
    (hi1 : ∀ (s : Shared) (H : Hp) (C : Addr) (cl : List (Str × Addr)) (fp : List Addr), DI (X.blk s H scope (compEnvC scope cl C X.env) fp) tg1 iter1 it1)
    (hg1 : ∀ (s : Shared) (H : Hp) (C : Addr) (cl : List (Str × Addr)) (fp : List Addr), DGo (X.blk s H scope (compEnvC scope cl C X.env) fp) tg1 own1 g1) (ht1 : ∀ (s : Shared) (H : Hp) (C : Addr) (cl : List (Str × Addr)) (fp : List Addr), DTs (X.blk s H scope (compEnvC scope cl C X.env) fp) ifs1 tt1)
    (he : ∀ (s : Shared) (H : Hp) (C : Addr) (cl : List (Str × Addr)) (fp : List Addr), DE (X.blk s H scope (compEnvC scope cl C X.env) fp) elt te) (hs : ∀ x, foldedSetIterable iter X.env x = pure x := by intro _; rfl) (hs1 : ∀ env x, foldedSetIterable iter1 env x = pure x := by intro _ _; rfl) :
    DE X (.ListComp elt [⟨tg, iter, ifs, 0⟩, ⟨tg1, iter1, ifs1, 0⟩] scope pos) (qLc2 it g tt it1 g1 tt1 te (own.map (·.2)) own1) := fun W tk =>
  PE.imp (pe_lc2 (vs1 := own1) (g := liftGo X.K (own.map fun (x : Str × Nat) => x.2) g) (tt := liftT X.K (fun _ _ _ _ => False) tt) (wi1 := liftI X.K (fun _ _ _ _ => False) it1) (g1 := liftGo X.K own1 g1) (tt1 := liftT X.K (fun _ _ _ _ => False) tt1) (te := lift X.K (fun _ _ _ _ => False) te) hc hN (hi W tk) ok hv hg (fun s H C cl fp => ht s H C cl fp _ takes0)
    (fun s H C cl fp => hi1 s H C cl fp _ takes0) hg1 (fun s H C cl fp => ht1 s H C cl fp _ takes0) (fun s H C cl fp => he s H C cl fp _ takes0) hs hs1) fun σ H Q h => lc2_imp h
/-! ## a global tuple; few times a tuple -/
theorem de_globT {x : Str} {a : Addr} {ds : List D} {vs : List V} {pos : Pos} (hg : Gl X x) (hm : X.mg x = some (.ref a)) (hs : ∀ H, SqT X.K H a vs) (hr : ∀ H, RVs X.K H ds vs) (hd : (x == ("__debug__" : Str)) = false := by decide) : DE X (.Name x pos) (qC (.tup ds)) :=
  de_const (pe_glob (v := .ref a) hg hm rfl hd) fun H => by
    unfold RV
    exact ⟨a, vs, rfl, hs H, hr H⟩
end
end PL

namespace PL
open PySem PySem.Spec PyProof.Rows L2 -- the layers
/-! ## once, no times a tuple -/
theorem tuple_mul1 (l : Addr) (items : Array Value) (n : Nat) (dd : Option Addr) (sl : Array (Option Value)) (u : Tok) :
    Meets (Builtin.«tuple.__mul__» ⟨[.ref l, .int 1 u], []⟩) (fun _ R s => s.heap.get? l = some { cls := .type "tuple", dict := dd, data := .seq items n, slots := sl } ∧ R (.ok (.ret (Value.ref l))) s) :=
  .of_wp fun prog w A R s h => by
    obtain ⟨hp, g, d, tk, os⟩ := s
    obtain ⟨hl, h⟩ := h
    have f1 := AutoSeq1.idx_int
    have c1 : (items.isEmpty || (1 : Int) == 1) = true := by simp
    wp_walk using wpAny_loadPart' hl
    exact ⟨_, rfl, h⟩
theorem tuple_mul0 (l : Addr) (items : Array Value) (n : Nat) (dd : Option Addr) (sl : Array (Option Value)) (u : Tok) (c1 : (items.isEmpty || (0 : Int) == 1) = false) :
    Meets (Builtin.«tuple.__mul__» ⟨[.ref l, .int 0 u], []⟩) (fun _ R s => s.heap.get? l = some { cls := .type "tuple", dict := dd, data := .seq items n, slots := sl } ∧ R (.ok (.ret (Value.ref s.heap.objs.size))) { s with heap := s.heap.push { cls := Value.type "tuple", data := Data.seq #[] }, toks := s.toks }) :=
  .of_wp fun prog w A R s h => by
    obtain ⟨hp, g, d, tk, os⟩ := s
    obtain ⟨hl, h⟩ := h
    have f1 := AutoSeq1.idx_int
    wp_walk using wpAny_loadPart' hl
    refine wpAny_ite_false (decide_eq_false (by rw [c1]; exact Bool.false_ne_true)) ?_
    wp_walk using wpAny_loadPart' hl
    exact ⟨_, rfl, h⟩
section
variable {X : Cx}
def rMul01 (K : PySem.W.Frag) : R2 := fun x y H Q => ∃ l k xs, x = .ref l ∧ y = .int k ∧ SqT K H l xs ∧ xs ≠ [] ∧ ((k = 1 ∧ Q (.ref l) H) ∨ (k = 0 ∧ ∀ p, H p = none → Q (.ref p) (upd H p (.tup []))))
theorem op_mul01 : OpR X (binaryOp .Mult) (rMul01 X.K) := by
  intro pins s σ H x y v u Q I rx ry h
  obtain ⟨l, k, xs, rfl, rfl, hT, hne, q⟩ := h
  cases rx
  obtain ⟨t, rfl⟩ := ry
  obtain ⟨its, r, ⟨⟨cls, dd, data, sl⟩, ho, hc, n, hd⟩, hs⟩ := I.tuple hT
  simp only at hc hd
  subst hc hd
  have hle : its.length = xs.length := r.length.symm
  have hn : its ≠ [] := fun e => hne (by
    rw [e] at hle
    exact List.eq_nil_of_length_eq_zero hle.symm)
  have hi : its.toArray.isEmpty = false := by
    cases its with
    | nil => exact absurd rfl hn
    | cons a b => rfl
  rcases q with ⟨rfl, q⟩ | ⟨rfl, q⟩
  · refine wpAny_binaryOp_repeat_ref (T := "tuple") (U := "int") (by decide) ⟨_, ho, rfl⟩ (fun s' => typeIs_int s' 1 t) noFill_tuple_mul F.fills_int_mul F.slot_int_rmul repeat_tuple F.slot_int_index.lookup
      (call_meets F.slot_int_rmul (typeIs_int s 1 t) F.entry_int_rmul (F.args_int_rmul_2 _ _) (int_rmul_tuple 1 t l its.toArray n dd sl)
        ⟨ho, rfl, ⟨_, ho, rfl⟩, call_meets F.slot_tuple_mul ⟨_, ho, rfl⟩ F.entry_tuple_mul (F.args_tuple_mul_2 _ _) (tuple_mul1 l its.toArray n dd sl t) ⟨ho, ?_⟩⟩)
    exact ⟨.ref l, H, I, rfl, q⟩
  · refine wpAny_binaryOp_repeat_ref (T := "tuple") (U := "int") (by decide) ⟨_, ho, rfl⟩ (fun s' => typeIs_int s' 0 t) noFill_tuple_mul F.fills_int_mul F.slot_int_rmul repeat_tuple F.slot_int_index.lookup
      (call_meets F.slot_int_rmul (typeIs_int s 0 t) F.entry_int_rmul (F.args_int_rmul_2 _ _) (int_rmul_tuple 0 t l its.toArray n dd sl)
        ⟨ho, rfl, ⟨_, ho, rfl⟩, call_meets F.slot_tuple_mul ⟨_, ho, rfl⟩ F.entry_tuple_mul (F.args_tuple_mul_2 _ _) (tuple_mul0 l its.toArray n dd sl t (by rw [hi]; rfl)) ⟨ho, ?_⟩⟩)
    refine ⟨.ref s.heap.objs.size, _, I.laid (t' := s.toks) (o := .tup []) (fun b ob q => Heap.get?_push_of_some _ q) (Nat.le_refl _) ?_, rfl, q _ (I.hok.fresh (Nat.le_refl _))⟩
    exact ⟨by decide, [], .nil, IsTup.new _ _⟩
def oMul01 : QO := fun x y S P => ∃ ds k, x = .tup ds ∧ y = .int k ∧ ds ≠ [] ∧ ((k = 1 ∧ P (.tup ds) S) ∨ (k = 0 ∧ P (.tup []) S))
theorem od_mul01 : ODok X (binaryOp .Mult) oMul01 := ⟨_, op_mul01, fun x y S P H vx vy Q q rep rx ry go => by
  obtain ⟨ds, k, rfl, rfl, h0, q⟩ := q
  obtain ⟨a, vs, e, s, r⟩ := rv_tup rx
  refine ⟨a, k, vs, e, rv_int ry, s, fun z => h0 ?_, ?_⟩
  · have := r.length
    rw [z] at this
    exact List.eq_nil_of_length_eq_zero this
  · rcases q with ⟨rfl, p⟩ | ⟨rfl, p⟩
    · refine .inl ⟨rfl, go.now p rep ?_⟩
      unfold RV
      exact ⟨a, vs, rfl, s, r⟩
    · exact .inr ⟨rfl, fun l n => go _ _ _ _ p (Keep.new n) (rep.same (same_new n)) (rv_newT n (RVs.nil_iff.mpr rfl))⟩⟩
def oMulY : QO := fun x y S P => oMulX x y S P ∨ oMul01 x y S P
theorem od_mulY : ODok X (binaryOp .Mult) oMulY := od_mulX.or od_mul01
theorem oMulY_ii {i j : Int} {S : Sto} {P : PD} (h : oMul (.int i) (.int j) S P) : oMulY (.int i) (.int j) S P := .inl (.inl (.inl h))
end
end PL

namespace PL
open PySem PySem.Spec PyProof.Rows L2 -- the layers
section
variable {prog : Program} {w : World} {K : Type} [DecidableEq K]
/-- a set of keys of any kind whose table can be walked -/
def SetG (knd : KeyKind prog w K) (h : Heap) (a : Addr) (S : K → Bool) (n : Nat) : Prop :=
  ∃ o es ep t, h.get? a = some o ∧ o.ExactSet ∧ o.data = .set es ep t ∧ ElemsOf knd es.toList ∧ (∀ k, S k = true ↔ ∃ e ∈ es.toList, knd.is k e.2 = true) ∧ es.size < scanBound ∧ t.fits es.size = true ∧ es.size = n ∧
    Ris t.place.toList ∧ (w.params.followText "set-order" = true ∨ t.led = true)
variable {knd : KeyKind prog w K} {A : Around} {E : Value → Shared → Prop} {s : Shared} {a : Addr} {S : K → Bool} {n : Nat}
theorem SetG.at {h h' : Heap} (R : SetG knd h a S n) (k : ∀ o, h.get? a = some o → h'.get? a = some o) : SetG knd h' a S n := by
  obtain ⟨o, es, ep, t, ho, r⟩ := R
  exact ⟨o, es, ep, t, k o ho, r⟩
theorem SetG.congr {h : Heap} {S' : K → Bool} {n' : Nat} (R : SetG knd h a S n) (e : ∀ k, S k = S' k) (en : n = n') : SetG knd h a S' n' := by
  obtain ⟨o, es, ep, t, ho, h1, h2, h3, h4, r⟩ := R
  subst en
  exact ⟨o, es, ep, t, ho, h1, h2, h3, fun k => by rw [← e k]; exact h4 k, r⟩
theorem setG_tail {g : Bool → Sem Unit} (hg : ∀ (b : Bool) (s₁ : Shared) (Q' : Unit → Shared → Prop), Q' () s₁ → wpAny (model prog w) A (g b) Q' E s₁)
    {o : Obj} {es : Array (Int × Value)} {ep : Nat} {t : SetTable} (ho : s.heap.get? a = some o) (hex : o.ExactSet) (hd : o.data = .set es ep t)
    {es1 : Array (Int × Value)} {t2 : SetTable} {S' : K → Bool} (el : ElemsOf knd es1.toList) (mem : ∀ k, S' k = true ↔ ∃ e ∈ es1.toList, knd.is k e.2 = true)
    (hb1 : es1.size < scanBound) (hf2 : t2.fits es1.size = true) (hr : Ris t2.place.toList) (hl : w.params.followText "set-order" = true ∨ t2.led = true) {wasDummy : Bool} {R : Option Bool → Shared → Prop}
    (hR : ∀ h', Heap.SameBut a s.heap h' → SetG knd h' a S' es1.size → R (some true) { s with heap := h' }) :
    wpAny (model prog w) A (do
        storeSet a es1 t2
        if (!wasDummy && t2.tooFull) = true then do
            g (relayAll t2 es1 (SetTable.grown es1.size)).2.2
            storeSet a (relayAll t2 es1 (SetTable.grown es1.size)).1 (relayAll t2 es1 (SetTable.grown es1.size)).2.1
            pure (some true)
          else pure (some true)) R E s := by
  have ho1 := store_at (es' := es1) (t' := t2) ho hd
  have sb1 := Heap.SameBut.update s.heap a (Obj.putSet es1 t2)
  refine wpAny_bind (wpAny_storeSet_of ho hd ?_ (fits_of_scanBound hb1))
  split
  · have p1 := relayAll_perm t2 es1 (SetTable.grown es1.size)
    have p2 := relayAll_fits t2 es1 (SetTable.grown es1.size)
    have p3 := relayAll_ris t2 es1 (SetTable.grown es1.size)
    have p4 := relayAll_led t2 es1 (SetTable.grown es1.size)
    generalize relayAll t2 es1 (SetTable.grown es1.size) = Z at p1 p2 p3 p4 ⊢
    obtain ⟨es2, t3, gave⟩ := Z
    dsimp only at p1 p2 p3 p4 ⊢
    have sz : es2.size = es1.size := by rw [← Array.length_toList, p1.length_eq, Array.length_toList]
    refine wpAny_bind (hg _ _ _ (wpAny_bind (wpAny_storeSet_of ho1 rfl ?_ (fits_of_scanBound (by rw [sz]; exact hb1)))))
    have ho2 := store_at (es' := es2) (t' := t3) ho1 rfl
    refine wpAny_pure (hR _ (sb1.trans (Heap.SameBut.update _ a _)) ⟨_, es2, _, t3, ho2, hex, rfl, el.perm p1, fun k => (mem k).trans ⟨fun ⟨e, he, q⟩ => ⟨e, p1.mem_iff.mpr he, q⟩, fun ⟨e, he, q⟩ => ⟨e, p1.mem_iff.mp he, q⟩⟩, by rw [sz]; exact hb1, p2, sz, p3, ?_⟩)
    rcases hl with z | z
    · exact .inl z
    · exact .inr (by rw [p4]; exact z)
  · exact wpAny_pure (hR _ sb1 ⟨_, es1, _, t2, ho1, hex, rfl, el, mem, hb1, hf2, rfl, hr, hl⟩)
theorem setG_add {k : K} {x : Value} {Q : Bool → Shared → Prop} (hkey : knd.is k x = true) (hsc : x.scannable = true) (R : SetG knd s.heap a S n) (room : n + 1 < scanBound)
    (hQ : ∀ h', Heap.SameBut a s.heap h' → SetG knd h' a (fun j => S j || decide (j = k)) (if S k = true then n else n + 1) → Q (!S k) { s with heap := h' }) :
    wpAny (model prog w) A (setAddHashed a x (knd.hash k)) Q E s := by
  obtain ⟨o, es, ep, t, ho, hex, hd, hel, hm, hb, hf, hn, hr, hl⟩ := R
  unfold setAddHashed setAddHashedIn
  refine wpAny_holding (wpAny_bind (wpAny_setState_of ho hd hf ?_))
  dsimp only
  rw [byScan_of hsc hb hel]
  simp only [↓reduceIte]
  unfold setAddByScan
  refine wpAny_bind (wpAny_bind (wpAny_rule (wpAny_bind (wpAny_setScan_of hkey ho hd hf hel ?_))))
  cases hfi : List.findIdx? (fun e => knd.is k e.2) es.toList with
  | some j =>
    dsimp only
    obtain ⟨hj, pj, _⟩ := List.findIdx?_eq_some_iff_getElem.mp hfi
    have hSk : S k = true := (hm k).mpr ⟨es.toList[j], List.getElem_mem hj, pj⟩
    refine wpAny_pure (wpAny_pure ?_)
    have q := hQ s.heap (Heap.SameBut.refl a s.heap) ⟨o, es, ep, t, ho, hex, hd, hel, fun i => by
      rw [Bool.or_eq_true, decide_eq_true_eq, ← hm i]
      exact ⟨fun z => z.elim id (fun e => e ▸ hSk), .inl⟩, hb, hf, by rw [if_pos hSk]; exact hn, hr, hl⟩
    rw [hSk] at q
    exact q
  | none =>
    dsimp only
    have hSk : S k = false := by
      cases q : S k with
      | false => rfl
      | true =>
        obtain ⟨e, he, p⟩ := (hm k).mp q
        have c := List.findIdx?_eq_none_iff.mp hfi e he
        rw [p] at c
        cases c
    have hgw : ∀ (b : Bool) {s₁ : Shared} {Q' : Unit → Shared → Prop}, Q' () s₁ → wpAny (model prog w) A (match b with | true => rule "set.scan.the-table-gave-way" | false => pure ()) Q' E s₁ :=
      fun b s₁ Q' q => by cases b <;> first | exact wpAny_pure q | exact wpAny_rule q
    have p1 := layNew_perm t es (knd.hash k) x
    have p2 := layNew_fits t es (knd.hash k) x
    have p3 := layNew_ris t es (knd.hash k) x hr
    have p4 := layNew_led t es (knd.hash k) x
    generalize layNew t es (knd.hash k) x = Z at p1 p2 p3 p4 ⊢
    obtain ⟨es1, t1, wasDummy, gave⟩ := Z
    dsimp only at p1 p2 p3 p4 ⊢
    rw [Array.toList_push] at p1
    have el1 : ElemsOf knd es1.toList := (hel.push hkey hsc).perm p1
    have mem1 := mem_push_iff hkey hm p1
    have sz1 : es1.size = n + 1 := by rw [← Array.length_toList, p1.length_eq, List.length_append, Array.length_toList, hn]; rfl
    have hled : w.params.followText "set-order" = true ∨ t1.led = true := hl.imp id fun z => by rw [p4]; exact z
    have fin : ∀ h', Heap.SameBut a s.heap h' → SetG knd h' a (fun j => S j || decide (j = k)) es1.size → Q true { s with heap := h' } := fun h' sb r => by
      have q := hQ h' sb
      rw [hSk] at q
      rw [sz1] at r
      exact q r
    refine wpAny_bind (hgw _ ?_)
    split
    · refine wpAny_bind ?_
      rw [hashByValue_scannable 8 hsc]
      refine wpAny_pure ?_
      refine setG_tail ?_ ho hex hd el1 mem1 (by rw [sz1]; exact room) ?_ ?_ ?_ fun h' sb r => by dsimp only; exact wpAny_pure (fin h' sb r)
      · intro b s₁ Q' q; cases b <;> first | exact wpAny_pure q | exact wpAny_rule q
      · first | (split <;> first | exact p2 | exact SetTable.fits_plain_off p2) | exact p2
      · first | (split <;> exact p3) | exact p3
      · first | (split <;> exact hled) | exact hled
    · refine wpAny_bind (wpAny_pure ?_)
      simp only [↓reduceIte]
      refine setG_tail ?_ ho hex hd el1 mem1 (by rw [sz1]; exact room) p2 p3 hled fun h' sb r => by dsimp only; exact wpAny_pure (fin h' sb r)
      intro b s₁ Q' q; cases b <;> first | exact wpAny_pure q | exact wpAny_rule q
theorem setG_fresh {h : Heap} (knd : KeyKind prog w K) : SetG knd (h.push { cls := .type "set", dict := none, data := .set #[] 0 (.fresh 0 0 (!w.params.followText "set-order")) }) h.objs.size (fun _ => false) 0 :=
  ⟨_, #[], 0, _, Heap.get?_push_size _ rfl, ⟨rfl, rfl, rfl⟩, rfl, (fun e he => by simp at he), (fun k => by simp), (by decide), (by rfl), rfl, List.Pairwise.nil, by
    show _ ∨ (!w.params.followText "set-order") = true
    cases w.params.followText "set-order"
    · exact .inr rfl
    · exact .inl rfl⟩
end
end PL

namespace PL
open PySem PySem.Spec PyProof.Rows L2 -- the layers
section
variable {prog : Program} {w : World} {A : Around} {E : Value → Shared → Prop} {s : Shared}
theorem code_set_led1 (a : Value) {Q₁ : Value → Shared → Prop} (h : Q₁ (.ref s.heap.objs.size) { s with heap := s.heap.push { cls := .type "set", dict := none, data := .set #[] 0 (.fresh 0 0 (!w.params.followText "set-order")) } }) :
    codeAny (model prog w) A (.call (.builtin "set.__new__") ⟨[.type "set", a], []⟩) (wants Q₁ E) s := by
  refine codeAny_of_tree ?_
  show wpAny _ A.in1 (do checkBuiltinCall "set.__new__" ⟨[.type "set", a], []⟩; again (.builtin "set.__new__" ⟨[.type "set", a], []⟩)) _ _ s
  refine wpAny_bind (wpAny_of_eq (PySem.F.newCall_set_1 a) (wpAny_pure ⟨plainId_quiet PySem.F.plain_set_new _, codeAny_builtin PySem.F.entry_set_new ?_⟩))
  rw [Around.under_plainId PySem.F.plain_set_new _]
  unfold Builtin.«set.__new__» Builtin.Frozenset.newClass
  have hsub := sub_set_self
  obtain ⟨hp, g, d, tk, os⟩ := s
  dsimp only
  wp_walk
  refine wpAny_askSetting (wpAny_pure ?_)
  dsimp only
  simp only [newObj]
  exact wpAny_bind (wpAny_alloc (wpAny_pure (wpAny_pure h)))
end
section
variable {prog : Program} {w : World} {A : Around} {R : Result → Shared → Prop} {I : Addr} {fp wr : List Addr} {G : Array GenState → Array GenState → Prop} {n : Nat} {P : Nat → Value → Prop} {St : Nat → Shared → Prop} {K : Type} [DecidableEq K]
theorem setLoopG (knd : KeyKind prog w K) (W : WalksS prog w A.in1 I fp wr G n P St) (S : Addr) (hSf : S ∉ fp) (ks : List K) (hl : ks.length = n) (hroom : n + 1 < scanBound)
    (hval : ∀ i v, P i v → ∃ k, ks[i]? = some k ∧ knd.is k v = true ∧ v.scannable = true) :
    ∀ (m i : Nat) (s : Shared), n - i = m → i ≤ n → St i s → SetG knd s.heap S (fun k => decide (k ∈ ded (ks.take i))) (ded (ks.take i)).length →
      (∀ s', Moved (S :: wr) G s s' → SetG knd s'.heap S (fun k => decide (k ∈ ded ks)) (ded ks).length → R (.ok (.ret .none)) s') → codeAny (model prog w) A (.builtin "set.update.loop" ⟨[.ref S, .ref I], []⟩) R s := by
  have notW : S ∉ wr := fun h => hSf (W.sub _ h)
  have wider : ∀ b ∈ wr, b ∈ S :: wr := fun b hb => List.mem_cons_of_mem _ hb
  have carry : ∀ {s s' : Shared} {T : K → Bool} {c : Nat}, SetG knd s.heap S T c → Moved wr G s s' → SetG knd s'.heap S T c := fun {s s' T c} ⟨o, es, ep, t, ho, rest⟩ hm => ⟨o, es, ep, t, hm.heap S _ notW ho, rest⟩
  intro m
  induction m with
  | zero =>
    intro i s hk hi hst hS hR
    obtain rfl : i = n := by omega
    rw [← hl, List.take_length] at hS
    refine codeAny_builtin PyProof.Rows.F.entry_set_update_loop ?_
    rw [Around.under_plainId PyProof.Rows.F.plain_set_update_loop _]
    show wpAny _ A.in1 (pyNext (.ref I) >>= _) _ _ s
    exact wpAny_bind (W.done s _ _ hst fun s' hm => wpAny_pure (hR s' (hm.mono wider) (carry hS hm)))
  | succ m ih =>
    intro i s hk hi hst hS hR
    have hlt : i < n := by omega
    refine codeAny_builtin PyProof.Rows.F.entry_set_update_loop ?_
    rw [Around.under_plainId PyProof.Rows.F.plain_set_update_loop _]
    show wpAny _ A.in1 (pyNext (.ref I) >>= _) _ _ s
    refine wpAny_bind (W.item i s _ _ hlt hst fun v s' hP hst' hm => ?_)
    obtain ⟨k, ek, hkv, hsc⟩ := hval i v hP
    show wpAny _ A.in1 (holding [v] (setAdd S v) >>= _) _ _ s'
    refine wpAny_bind (wpAny_holding ?_)
    unfold setAdd
    have hS1 := carry hS hm
    have few : (ded (ks.take i)).length ≤ i := ded_len i _ (by rw [List.length_take]; omega)
    refine wpAny_holding (wpAny_bind (knd.pyHash hkv (setG_add (knd := knd) (s := { s' with toks := s'.toks + 1 }) hkv hsc hS1 (by omega) fun h' hsb hS2 => ?_)))
    have et : ks.take (i + 1) = ks.take i ++ [k] := by
      rw [List.take_succ, ek]
      rfl
    have next : SetG knd h' S (fun k' => decide (k' ∈ ded (ks.take (i + 1)))) (ded (ks.take (i + 1))).length := by
      rw [et, ded_snoc]
      unfold stepDed
      by_cases hin : k ∈ ded (ks.take i)
      · rw [if_pos hin]
        refine hS2.congr (fun k' => ?_) (by rw [if_pos (decide_eq_true hin)])
        by_cases e : k' = k
        · rw [e, decide_eq_true hin]; rfl
        · rw [decide_eq_false (p := k' = k) e, Bool.or_false]
      · rw [if_neg hin]
        refine hS2.congr (fun k' => ?_) (by rw [if_neg (by simpa using hin), List.length_append]; rfl)
        rw [← Bool.decide_or]
        exact decide_eq_decide.mpr (by simp [List.mem_append])
    refine wpAny_pure ⟨plainId_quiet PyProof.Rows.F.plain_set_update_loop _, ih (i + 1) _ (by omega) hlt (W.frame _ s' _ _ hst' (Nat.le_succ _) fun b hb o e => ?_) next fun s'' hm'' hS'' => ?_⟩
    · rw [hsb.2 b (fun z : b = S => hSf (by rw [← z]; exact hb))]
      exact e
    · refine hR s'' (Moved.trans W.gtrans ((hm.mono wider).then_heap (Nat.le_succ _) fun b o hb e => ?_) hm'') hS''
      rw [hsb.2 b (fun z : b = S => hb (by rw [z]; exact List.mem_cons_self))]
      exact e
end
section
variable {prog : Program} {w : World} {A : Around} {E : Value → Shared → Prop} {s : Shared} {K : Type} [DecidableEq K]
theorem call_setG {knd : KeyKind prog w K} {v : Value} {ks : List K} {T : String} {o : Obj} {Hb : Heap → Prop} {fp0 : List Addr} {Q : Value → Shared → Prop} (F : Feeds prog w knd s v ks T o Hb fp0) (hh : A.handled = none)
    (h : ∀ (h' : Heap) (tk : Nat), SetG knd h' s.heap.objs.size (fun k => decide (k ∈ ded ks)) (ded ks).length → (∀ b o, b < s.heap.objs.size → s.heap.get? b = some o → h'.get? b = some o) → Q (.ref s.heap.objs.size) { s with heap := h', toks := tk }) :
    wpAny (model prog w) A (call (.type "set") [v]) Q E s := by
  obtain ⟨c0, tl0, mro0⟩ := PySem.F.called_set.mro
  have made0 := PySem.F.called_set.made
  have sub0 := PySem.F.called_set.sub
  refine wpAny_call (codeAny_of_tree ?_)
  show wpAny _ _ (callAny (.type "set") _) _ _ _
  refine wpAny_pure ⟨Code.quiet_builtin _ (by decide +kernel), codeAny_builtin PySem.F.entry_type_call ?_⟩
  rw [Around.under_plain (weight_type_call_type "set" [v] []) rfl]
  have nt0 := PySem.F.called_set.notType
  have cc0 := PySem.F.called_set.canCreate
  have ct0 := PySem.F.typeCall_set_1 v
  repeat (any_goals (first | assumption | wp_step))
  refine codeAny_mono (code_set_led1 v (E := E) (Q₁ := fun ob s₁ => ob = .ref s.heap.objs.size ∧ s₁ = { s with heap := s.heap.push { cls := .type "set", dict := none, data := .set #[] 0 (.fresh 0 0 (!w.params.followText "set-order")) } }) ⟨rfl, rfl⟩) fun r s₁ hr => ?_
  cases r with
  | error e => exact hr
  | ok fl =>
    cases fl with
    | ret ob =>
      obtain ⟨rfl, rfl⟩ := hr
      obtain ⟨h1, eh1⟩ : ∃ h1, h1 = s.heap.push { cls := .type "set", dict := none, data := .set #[] 0 (.fresh 0 0 (!w.params.followText "set-order")) } := ⟨_, rfl⟩
      have z1 : h1.objs.size = s.heap.objs.size + 1 := by rw [eh1, Heap.size_push]
      have up1 : ∀ b o, s.heap.get? b = some o → h1.get? b = some o := fun b o e => by
        rw [eh1]
        exact Heap.get?_push_of_some _ e
      have new1 : h1.get? s.heap.objs.size = some { cls := .type "set", dict := none, data := .set #[] 0 (.fresh 0 0 (!w.params.followText "set-order")) } := by
        rw [eh1]
        exact Heap.get?_push_size _ rfl
      rw [← eh1]
      clear eh1
      have isSet : Shared.TypeIs { s with heap := h1 } (.ref s.heap.objs.size) "set" := ⟨_, new1, rfl⟩
      have il0 := PySem.F.called_set.init.lookup
      have ib0 := PySem.F.called_set.init.bind (.ref s.heap.objs.size)
      repeat (any_goals (first | assumption | wp_step))
      refine codeAny_mono (codeAny_call_builtin (R := wants (fun r s₂ => r = .none ∧ ∃ h' tk, s₂ = { s with heap := h', toks := tk } ∧ SetG knd h' s.heap.objs.size (fun k => decide (k ∈ ded ks)) (ded ks).length ∧ ∀ b o, b < s.heap.objs.size → s.heap.get? b = some o → h'.get? b = some o) E)
        PySem.F.called_set.init.plain PySem.F.entry_set_init (check_set_init_1 isSet ?_)) fun r₂ s₂ hr₂ => ?_
      · have tv : Shared.TypeIs { s with heap := h1 } v T := F.ty _ up1
        have q1 : ∀ {A' : Around} {E' : Value → Shared → Prop} {Q' : Bool → Shared → Prop}, Q' false { s with heap := h1 } → wpAny (model prog w) A' (isInstance v (.type "set")) Q' E' { s with heap := h1 } := fun q => wpAny_isInstance tv F.noSet q
        have q2 : ∀ {A' : Around} {E' : Value → Shared → Prop} {Q' : Bool → Shared → Prop}, Q' false { s with heap := h1 } → wpAny (model prog w) A' (isInstance v (.type "frozenset")) Q' E' { s with heap := h1 } := fun q => wpAny_isInstance tv F.noFroz q
        have q3 : ∀ {A' : Around} {E' : Value → Shared → Prop} {Q' : Value → Shared → Prop}, Q' (.type T) { s with heap := h1 } → wpAny (model prog w) A' (typeOf v) Q' E' { s with heap := h1 } := fun q => wpAny_typeOf tv q
        have nd := F.noDict
        unfold Builtin.«set.__init__» noKeywords Builtin.Frozenset.updateFrom
        generalize hPI : pyIter = PI
        wp_walk using q1, q2, q3
        subst hPI
        refine F.it.iter prog w _ _ { s with heap := h1 } _ (F.it.keeps _ _ F.here up1) ?_
        refine wpAny_bind (wpAny_runValue ?_)
        have hh3 : A.in1.in1.in1.handled = none := by simp [hh]
        have lowI : ∀ b ∈ fp0, b < h1.objs.size := fun b hb => by
          rw [z1]
          exact Nat.lt_succ_of_lt (F.low b hb)
        obtain ⟨Pw, Sw, W, start, hval⟩ := F.walk A.in1.in1.in1 h1.objs.size hh3 (fun z => Nat.lt_irrefl _ (lowI _ z))
        have apart : s.heap.objs.size ∉ h1.objs.size :: fp0 := fun z => by
          rcases List.mem_cons.mp z with e | e
          · rw [z1] at e
            exact Nat.ne_of_lt (Nat.lt_succ_self _) e
          · exact Nat.lt_irrefl _ (F.low _ e)
        refine setLoopG knd W.toS s.heap.objs.size apart ks rfl F.few hval (ks.length - 0) 0 _ rfl (Nat.zero_le _) (start _ (Heap.get?_push_size _ F.it.free) (F.it.keeps _ _ (F.it.keeps _ _ F.here up1) fun b o e => Heap.get?_push_of_some _ e)) ?_ ?_
        · have hg : (h1.push o).get? s.heap.objs.size = some { cls := .type "set", dict := none, data := .set #[] 0 (.fresh 0 0 (!w.params.followText "set-order")) } := Heap.get?_push_of_some _ new1
          have hz := (setG_fresh (h := s.heap) knd).at (h' := h1.push o) fun u e => by
            rw [Heap.get?_push_size _ rfl] at e
            rw [hg, e]
          exact hz.congr (fun k => by simp [ded]) rfl
        · intro s' hm hS'
          obtain ⟨h', g', d', tk', os'⟩ := s'
          obtain rfl : g' = s.gens := hm.gens
          obtain rfl : d' = s.drawn := hm.drawn
          obtain rfl : os' = s.os := hm.os
          show wpAny _ _ _ _ _ _
          refine wpAny_pure ?_
          show wpAny _ _ (ret Value.none) _ _ _
          refine wpAny_pure ⟨rfl, h', tk', rfl, hS', fun b o hb e => hm.heap b o (fun z => ?_) (Heap.get?_push_of_some _ (up1 _ _ e))⟩
          rcases List.mem_cons.mp z with e1 | e1
          · exact Nat.ne_of_lt hb e1
          · have e2 := List.mem_singleton.mp e1
            rw [z1] at e2
            exact Nat.ne_of_lt (Nat.lt_succ_of_lt hb) e2
      · cases r₂ with
        | error e => exact hr₂
        | ok fl₂ =>
          cases fl₂ with
          | ret r =>
            obtain ⟨rfl, h', tk, rfl, hS', hk'⟩ := hr₂
            repeat (any_goals (first | assumption | wp_step))
            exact h _ _ hS' hk'
          | _ => exact hr₂.elim
    | _ => exact hr.elim
end
end PL

namespace PL
open PySem PySem.Spec PyProof.Rows L2 -- the layers
theorem perm_of {α : Type} [DecidableEq α] : ∀ (ks l : List α), ks.Nodup → l.length = ks.length → (∀ k ∈ ks, k ∈ l) → l.Perm ks
  | [], l, _, h, _ => by rw [List.eq_nil_of_length_eq_zero h]
  | k :: ks, l, nd, h, m => by
    obtain ⟨n1, n2⟩ := List.nodup_cons.mp nd
    have hk := m k (List.mem_cons_self ..)
    have p := List.perm_cons_erase hk
    have hl := p.length_eq
    rw [List.length_cons] at hl h
    refine p.trans ((perm_of ks (l.erase k) n2 (by omega) fun j hj => ?_).cons k)
    exact (List.mem_erase_of_ne fun z => n1 (by rw [← z]; exact hj)).mpr (m j (List.mem_cons_of_mem _ hj))
theorem stepDed_nodup {K : Type} [DecidableEq K] {acc : List K} {k : K} (h : acc.Nodup) : (stepDed acc k).Nodup := by
  unfold stepDed
  split
  · exact h
  · rename_i hk
    exact List.nodup_append.mpr ⟨h, by simp, fun a ha b hb z => hk (by rw [List.mem_singleton.mp hb] at z; rw [← z]; exact ha)⟩
theorem foldDed_nodup {K : Type} [DecidableEq K] : ∀ (ks acc : List K), acc.Nodup → (ks.foldl stepDed acc).Nodup
  | [], _, h => h
  | k :: ks, acc, h => foldDed_nodup ks _ (stepDed_nodup h)
theorem ded_nodup {K : Type} [DecidableEq K] (ks : List K) : (ded ks).Nodup := foldDed_nodup ks [] List.nodup_nil
def kS : Value → Str
  | .str k _ => k
  | _ => Str.empty
def kI : Value → Int
  | .int k _ => k
  | _ => 0
theorem strs_all : ∀ l : List Value, (∀ v ∈ l, ∃ k t, v = Value.str k t) → StrsAre l (l.map kS)
  | [], _ => .nil
  | v :: l, h => by
    obtain ⟨k, t, rfl⟩ := h v (List.mem_cons_self ..)
    exact .cons k t (strs_all l fun u hu => h u (List.mem_cons_of_mem _ hu))
theorem ints_all : ∀ l : List Value, (∀ v ∈ l, ∃ k t, v = Value.int k t) → IntsAre l (l.map kI)
  | [], _ => .nil
  | v :: l, h => by
    obtain ⟨k, t, rfl⟩ := h v (List.mem_cons_self ..)
    exact .cons k t (ints_all l fun u hu => h u (List.mem_cons_of_mem _ hu))
section
variable {prog : Program} {w : World} {A : Around} {E : Value → Shared → Prop} {s : Shared} {a : Addr}
theorem sortedG_str {ks : List Str} {Q : Value → Shared → Prop} (R : SetG (PySem.strKind prog w) s.heap a (fun k => decide (k ∈ ks)) ks.length) (nd : ks.Nodup) (hh : A.handled = none)
    (hQ : ∀ s' p (out : Array Value) (c : Nat) (ns : List Str), (∀ b o, s.heap.get? b = some o → s'.heap.get? b = some o) → s'.gens = s.gens → s'.os = s.os → s.heap.objs.size ≤ p →
      s'.heap.get? p = some (seqObj "list" out c) → StrsAre out.toList ns → ns.Perm ks → sortedS ns = true → Q (.ref p) s') :
    wpAny (model prog w) A (call (.builtin "sorted") [.ref a]) Q E s := by
  obtain ⟨o, es, ep, t, ho, hex, hd, el, hm, hb, hf, hn, hr, hl⟩ := R
  have shape : ∀ e ∈ es.toList, ∃ k t, e.2 = Value.str k t := fun e he => by
    obtain ⟨⟨k, hk, _⟩, _⟩ := el e he
    obtain ⟨t, ht⟩ := Value.isStrOf_shape hk
    exact ⟨k, t, ht⟩
  have base : (es.toList.map fun e => kS e.2).Perm ks := perm_of ks _ nd (by rw [List.length_map, Array.length_toList]; exact hn) fun k hk => by
    obtain ⟨e, he, q⟩ := (hm k).mp (decide_eq_true hk)
    obtain ⟨t, ht⟩ := Value.isStrOf_shape q
    exact List.mem_map.mpr ⟨e, he, by rw [ht]; rfl⟩
  refine Calls.call_function_entry kind_sorted plain_sorted entry_sorted (args_sorted1 _) ?_
  unfold Builtin.«sorted»
  refine wpAny_bind (m := checkCount "sorted" 1 1 _) (wpAny_pure ?_)
  refine wpAny_bind (collect_set (A := A.in1) hh ⟨o, ho, hex.1, hd⟩ hf hb hr hl fun s1 vs k1 hz g1 o1 pm => ?_)
  have hvl : vs.length = es.size := by rw [pm.length_eq, List.length_map, Array.length_toList]
  have hS : StrsAre vs (vs.map kS) := strs_all vs fun v hv => by
    obtain ⟨e, he, q⟩ := List.mem_map.mp (pm.mem_iff.mp hv)
    obtain ⟨k, t, h1⟩ := shape e he
    exact ⟨k, t, by rw [← q]; exact h1⟩
  have pk : (vs.map kS).Perm ks := by
    have q := pm.map kS
    rw [List.map_map] at q
    exact q.trans base
  have hz2 : vs.length ≤ sizeLine := by rw [hvl]; exact fits_of_scanBound hb
  refine wpAny_bind (wpAny_newList ?_ hz2)
  have hoL : (s1.heap.push (seqObj "list" vs.toArray 0)).get? s1.heap.objs.size = some (seqObj "list" vs.toArray 0) := Heap.get?_push_size _ rfl
  refine wpAny_bind (wpAny_holding (wpAny_call_entry slot_list_sort ⟨_, hoL, rfl⟩ entry_list_sort (list_sort_treeKAny strKind_oneLt hoL hS.keysOf (fun v₁ v₂ rest e => keyKind_strs (by rw [← e]; exact hS)) hz2 fun st' hp hs => ⟨_, rfl, ?_⟩) (args_list_sort _)))
  obtain ⟨ns', h1, h2, h3⟩ := sorted_out_str hS hp hs
  obtain ⟨c, hc⟩ := sortedHeap_at (vs := vs) (out := (arrOf st').map (·.2)) hoL
  refine wpAny_pure ⟨_, rfl, hQ _ s1.heap.objs.size _ c ns' (fun b u e => ?_) g1 o1 hz hc h1 (h2.trans pk) h3⟩
  have q := k1 b u e
  have hlt := Heap.lt_size q
  show (sortedHeap (s1.heap.push (seqObj "list" vs.toArray 0)) s1.heap.objs.size vs _).get? b = some u
  rw [sortedHeap_old (Nat.ne_of_lt hlt) (by rw [size_push']; exact Nat.lt_succ_of_lt hlt)]
  exact Heap.get?_push_of_some _ q
theorem sortedG_int {ks : List Int} {Q : Value → Shared → Prop} (R : SetG (PySem.intKind prog w) s.heap a (fun k => decide (k ∈ ks)) ks.length) (nd : ks.Nodup) (hh : A.handled = none)
    (hQ : ∀ s' p (out : Array Value) (c : Nat) (ns : List Int), (∀ b o, s.heap.get? b = some o → s'.heap.get? b = some o) → s'.gens = s.gens → s'.os = s.os → s.heap.objs.size ≤ p →
      s'.heap.get? p = some (seqObj "list" out c) → IntsAre out.toList ns → ns.Perm ks → ns.Pairwise (· ≤ ·) → Q (.ref p) s') :
    wpAny (model prog w) A (call (.builtin "sorted") [.ref a]) Q E s := by
  obtain ⟨o, es, ep, t, ho, hex, hd, el, hm, hb, hf, hn, hr, hl⟩ := R
  have shape : ∀ e ∈ es.toList, ∃ k t, e.2 = Value.int k t := fun e he => by
    obtain ⟨⟨k, hk, _⟩, _⟩ := el e he
    obtain ⟨t, ht⟩ := Value.isInt_shape hk
    exact ⟨k, t, ht⟩
  have base : (es.toList.map fun e => kI e.2).Perm ks := perm_of ks _ nd (by rw [List.length_map, Array.length_toList]; exact hn) fun k hk => by
    obtain ⟨e, he, q⟩ := (hm k).mp (decide_eq_true hk)
    obtain ⟨t, ht⟩ := Value.isInt_shape q
    exact List.mem_map.mpr ⟨e, he, by rw [ht]; rfl⟩
  refine Calls.call_function_entry kind_sorted plain_sorted entry_sorted (args_sorted1 _) ?_
  unfold Builtin.«sorted»
  refine wpAny_bind (m := checkCount "sorted" 1 1 _) (wpAny_pure ?_)
  refine wpAny_bind (collect_set (A := A.in1) hh ⟨o, ho, hex.1, hd⟩ hf hb hr hl fun s1 vs k1 hz g1 o1 pm => ?_)
  have hvl : vs.length = es.size := by rw [pm.length_eq, List.length_map, Array.length_toList]
  have hI : IntsAre vs (vs.map kI) := ints_all vs fun v hv => by
    obtain ⟨e, he, q⟩ := List.mem_map.mp (pm.mem_iff.mp hv)
    obtain ⟨k, t, h1⟩ := shape e he
    exact ⟨k, t, by rw [← q]; exact h1⟩
  have pk : (vs.map kI).Perm ks := by
    have q := pm.map kI
    rw [List.map_map] at q
    exact q.trans base
  have hz2 : vs.length ≤ sizeLine := by rw [hvl]; exact fits_of_scanBound hb
  refine wpAny_bind (wpAny_newList ?_ hz2)
  have hoL : (s1.heap.push (seqObj "list" vs.toArray 0)).get? s1.heap.objs.size = some (seqObj "list" vs.toArray 0) := Heap.get?_push_size _ rfl
  refine wpAny_bind (wpAny_holding (wpAny_call_entry slot_list_sort ⟨_, hoL, rfl⟩ entry_list_sort (list_sort_treeAny hoL hI hz2 fun out ns' a1 a2 a3 => ⟨_, rfl, ?_⟩) (args_list_sort _)))
  obtain ⟨c, hc⟩ := sortedHeap_at (vs := vs) (out := out) hoL
  refine wpAny_pure ⟨_, rfl, hQ _ s1.heap.objs.size _ c ns' (fun b u e => ?_) g1 o1 hz hc a1 (a2.trans pk) a3⟩
  have q := k1 b u e
  have hlt := Heap.lt_size q
  show (sortedHeap (s1.heap.push (seqObj "list" vs.toArray 0)) s1.heap.objs.size vs _).get? b = some u
  rw [sortedHeap_old (Nat.ne_of_lt hlt) (by rw [size_push']; exact Nat.lt_succ_of_lt hlt)]
  exact Heap.get?_push_of_some _ q
def signs (z : Str) : List Str := z.cps.toList.map fun c => ⟨#[c]⟩
theorem sub_tx_set : isSubtype (.type "str") (.type "set") = pure false := by rw [isSubtype_type]; kernel_rfl
theorem feeds_text {x : Str} {t : Tok} (hb : (signs x).length + 1 < scanBound) : Feeds prog w (PySem.strKind prog w) s (.str x t) (signs x) "str" { cls := .type (strIterType x), data := .fields #[.str x t, .int 0 0] } (fun _ => True) [] where
  ty := fun s' _ => typeIs_str s' x t
  noSet := sub_str_set0
  noFroz := sub_str_froz0
  noDict := by decide
  it := begins_text x t
  here := trivial
  low := fun b hb => by cases hb
  few := hb
  walk := fun A it hh _ => by
    have hsz : x.cps.size = (signs x).length := by simp [signs]
    have val : ∀ i v, SignAt x i v → ∃ k, (signs x)[i]? = some k ∧ (PySem.strKind prog w).is k v = true ∧ v.scannable = true := by
      rintro i v ⟨c, u, hc, rfl⟩
      refine ⟨⟨#[c]⟩, ?_, strKind_is prog w _ _, rfl⟩
      unfold signs
      rw [List.getElem?_map, Array.getElem?_toList, hc]
      rfl
    unfold strIterType
    by_cases hx : x.cps.all (· < 128) = true
    · rw [if_pos hx, ← hsz]
      exact ⟨_, _, Walks.strAscii hh it x t, fun h e _ => ⟨_, e, rfl, rfl⟩, val⟩
    · rw [if_neg hx, ← hsz]
      exact ⟨_, _, Walks.strWide hh it x t, fun h e _ => ⟨_, e, rfl, rfl⟩, val⟩
end
end PL

namespace PL
open PySem PySem.Spec PyProof.Rows L2 -- the layers
section
variable {X : Cx}
/-! ## sorted(set(x)) -/
def tSortSet (K : PySem.W.Frag) (ta : TE) : TE := fun σ H Q => ta σ H fun x H1 =>
  (∃ (l : Addr) (ns : List Int), x = .ref l ∧ ns.length ≤ 4000 ∧ (SqL K H1 l (ns.map V.int) ∨ SqT K H1 l (ns.map V.int)) ∧ ∀ (os : List Int) (p : Addr), os.Perm (ded ns) → os.Pairwise (· ≤ ·) → H1 p = none → Q (.ref p) (upd H1 p (.lst (os.map V.int)))) ∨
  (∃ (l : Addr) (ns : List Str), x = .ref l ∧ ns.length ≤ 4000 ∧ (SqL K H1 l (ns.map V.str) ∨ SqT K H1 l (ns.map V.str)) ∧ ∀ (os : List Str) (p : Addr), os.Perm (ded ns) → sortedS os = true → H1 p = none → Q (.ref p) (upd H1 p (.lst (os.map V.str)))) ∨
  ∃ z : Str, x = .str z ∧ (signs z).length ≤ 4000 ∧ ∀ (os : List Str) (p : Addr), os.Perm (ded (signs z)) → sortedS os = true → H1 p = none → Q (.ref p) (upd H1 p (.lst (os.map V.str)))
theorem inv_new {pins : List (Addr × Obj)} {σ : L2.St} {H : Hp} {s s' : Shared} {p : Addr} {vs : List V} {out : Array Value} {c : Nat} (I : L2.Inv X pins σ H s) (k : ∀ b o, s.heap.get? b = some o → s'.heap.get? b = some o) (g : s'.gens = s.gens) (o : s'.os = s.os) (hp : s.heap.objs.size ≤ p)
    (hg : s'.heap.get? p = some (seqObj "list" out c)) (hv : Vals vs out.toList) (hl : vs.length ≤ sizeLine) : L2.Inv X pins σ (upd H p (.lst vs)) s' := by
  have hn : H p = none := I.hok.fresh hp
  have J : L2.Inv X pins σ (upd H p (.lst vs)) { s with heap := s'.heap, gens := s'.gens, drawn := s'.drawn, toks := s'.toks } :=
    I.call (ch := []) (Un.laid k hp hn) (I.hok.laid k hp ⟨hl, out.toList, c, hv, hg⟩) (by rw [g]; exact I.bare) (fun _ z => nomatch z)
  have e : s' = { s with heap := s'.heap, gens := s'.gens, drawn := s'.drawn, toks := s'.toks } := by
    cases s'
    cases s
    cases o
    rfl
  rw [e]
  exact J
theorem pe_sortSet {a : Expr} {ta : TE} {p p2 q pos : Pos} (hg : Gl X "sorted") (hm : X.mg "sorted" = none) (hg2 : Gl X "set") (hm2 : X.mg "set" = none) (ha : PE X a ta) (hc : X.calm = true := by rfl)
    (na : starEach [a] X.env = (false, eval a X.env) :: starEach [] X.env := by rfl) : PE X (.Call (.Name "sorted" p) [.Call (.Name "set" p2) [a] [] q] [] pos) (tSortSet X.K ta) := by
  refine ⟨fun pins s σ H Q I h => ?_⟩
  refine Call_ (ld_blt I hg hm boot_sorted (PyProof.Rows.callWith_builtin1 (PyProof.Rows.args_cons ?_ rfl) rfl rfl))
  refine Call_ (ld_blt I hg2 hm2 boot_set (PyProof.Rows.callWith_type1 (PyProof.Rows.args_cons (thn (ha.run pins s σ H _ I h) fun v s1 hh => PyProof.Rows.args_nil ?_) na) na rfl))
  obtain ⟨x, H1, I1, r1, src⟩ := hh
  have hh := I1.ok.hd hc
  have bound : ∀ {n : Nat}, n ≤ 4000 → n + 1 < scanBound := fun h => by unfold scanBound; omega
  have sz : ∀ {n : Nat}, n ≤ 4000 → n ≤ sizeLine := fun h => by rw [sizeLine_eq]; omega
  rcases src with ⟨l, ns, rfl, hl, hq, q1⟩ | ⟨l, ns, rfl, hl, hq, q1⟩ | ⟨z, rfl, hl, q1⟩
  · cases r1
    rcases hq with hq | hq
    · obtain ⟨its, r, pl, hz⟩ := I1.list hq
      refine call_setG (feeds_list (knd := PySem.intKind X.prog X.w) pl.isList (keys_ints r) (bound hl)) hh fun h' tk hS hk => PyProof.Rows.args_nil ?_
      have I2 : L2.Inv X pins σ H1 { s1 with heap := h', toks := tk } := I1.kept fun b o e => hk b o (Heap.lt_size e) e
      refine sortedG_int (s := { s1 with heap := h', toks := tk }) hS (ded_nodup ns) hh fun s' p out c os k g o hp hg hi hpm hs => ?_
      exact ⟨.ref p, _, inv_new I2 k g o hp hg (vals_of_ints hi) (by rw [List.length_map, hpm.length_eq]; exact sz (Nat.le_trans (ded_len _ ns rfl) hl)), rfl, q1 os p hpm hs (I2.hok.fresh hp)⟩
    · obtain ⟨its, r, pl, hz⟩ := I1.tuple hq
      refine call_setG (feeds_tuple (knd := PySem.intKind X.prog X.w) pl (keys_ints r) (bound hl)) hh fun h' tk hS hk => PyProof.Rows.args_nil ?_
      have I2 : L2.Inv X pins σ H1 { s1 with heap := h', toks := tk } := I1.kept fun b o e => hk b o (Heap.lt_size e) e
      refine sortedG_int (s := { s1 with heap := h', toks := tk }) hS (ded_nodup ns) hh fun s' p out c os k g o hp hg hi hpm hs => ?_
      exact ⟨.ref p, _, inv_new I2 k g o hp hg (vals_of_ints hi) (by rw [List.length_map, hpm.length_eq]; exact sz (Nat.le_trans (ded_len _ ns rfl) hl)), rfl, q1 os p hpm hs (I2.hok.fresh hp)⟩
  · cases r1
    rcases hq with hq | hq
    · obtain ⟨its, r, pl, hz⟩ := I1.list hq
      refine call_setG (feeds_list (knd := PySem.strKind X.prog X.w) pl.isList (keys_strs r) (bound hl)) hh fun h' tk hS hk => PyProof.Rows.args_nil ?_
      have I2 : L2.Inv X pins σ H1 { s1 with heap := h', toks := tk } := I1.kept fun b o e => hk b o (Heap.lt_size e) e
      refine sortedG_str (s := { s1 with heap := h', toks := tk }) hS (ded_nodup ns) hh fun s' p out c os k g o hp hg hi hpm hs => ?_
      exact ⟨.ref p, _, inv_new I2 k g o hp hg (vals_of_strs hi) (by rw [List.length_map, hpm.length_eq]; exact sz (Nat.le_trans (ded_len _ ns rfl) hl)), rfl, q1 os p hpm hs (I2.hok.fresh hp)⟩
    · obtain ⟨its, r, pl, hz⟩ := I1.tuple hq
      refine call_setG (feeds_tuple (knd := PySem.strKind X.prog X.w) pl (keys_strs r) (bound hl)) hh fun h' tk hS hk => PyProof.Rows.args_nil ?_
      have I2 : L2.Inv X pins σ H1 { s1 with heap := h', toks := tk } := I1.kept fun b o e => hk b o (Heap.lt_size e) e
      refine sortedG_str (s := { s1 with heap := h', toks := tk }) hS (ded_nodup ns) hh fun s' p out c os k g o hp hg hi hpm hs => ?_
      exact ⟨.ref p, _, inv_new I2 k g o hp hg (vals_of_strs hi) (by rw [List.length_map, hpm.length_eq]; exact sz (Nat.le_trans (ded_len _ ns rfl) hl)), rfl, q1 os p hpm hs (I2.hok.fresh hp)⟩
  · obtain ⟨t, rfl⟩ := r1
    refine call_setG (feeds_text (x := z) (t := t) (bound hl)) hh fun h' tk hS hk => PyProof.Rows.args_nil ?_
    have I2 : L2.Inv X pins σ H1 { s1 with heap := h', toks := tk } := I1.kept fun b o e => hk b o (Heap.lt_size e) e
    refine sortedG_str (s := { s1 with heap := h', toks := tk }) hS (ded_nodup (signs z)) hh fun s' p out c os k g o hp hg hi hpm hs => ?_
    exact ⟨.ref p, _, inv_new I2 k g o hp hg (vals_of_strs hi) (by rw [List.length_map, hpm.length_eq]; exact sz (Nat.le_trans (ded_len _ (signs z) rfl) hl)), rfl, q1 os p hpm hs (I2.hok.fresh hp)⟩
def qSortSet (q : QE) : QE := fun loc S P E => q loc S (fun d S1 =>
  (∃ ns : List Int, (LsAt S1 d (ns.map D.int) ∨ d = .tup (ns.map D.int)) ∧ ns.length ≤ 4000 ∧ ∀ (os : List Int) (p : Addr), os.Perm (ded ns) → os.Pairwise (· ≤ ·) → S1 p = none → P (.ref p) (ups S1 p (.lst (os.map D.int)))) ∨
  (∃ ns : List Str, (LsAt S1 d (ns.map D.str) ∨ d = .tup (ns.map D.str)) ∧ ns.length ≤ 4000 ∧ ∀ (os : List Str) (p : Addr), os.Perm (ded ns) → sortedS os = true → S1 p = none → P (.ref p) (ups S1 p (.lst (os.map D.str)))) ∨
  ∃ z : Str, d = .str z ∧ (signs z).length ≤ 4000 ∧ ∀ (os : List Str) (p : Addr), os.Perm (ded (signs z)) → sortedS os = true → S1 p = none → P (.ref p) (ups S1 p (.lst (os.map D.str)))) E
theorem de_sortSet {a : Expr} {qa : QE} {p p2 q pos : Pos} (hg : Gl X "sorted") (hm : X.mg "sorted" = none) (hg2 : Gl X "set") (hm2 : X.mg "set" = none) (ha : DE X a qa) (hc : X.calm = true := by rfl)
    (na : starEach [a] X.env = (false, eval a X.env) :: starEach [] X.env := by rfl) : DE X (.Call (.Name "sorted" p) [.Call (.Name "set" p2) [a] [] q] [] pos) (qSortSet qa) := fun W tk => by
  refine PE.imp (pe_sortSet hg hm hg2 hm2 (ha W tk) hc na) fun σ H Q h => ?_
  obtain ⟨loc, S, P, E, rl, rep, hq, g, gx⟩ := h
  refine ⟨loc, S, _, E, rl, rep, hq, fun d S1 v H1 q1 k1 rep1 r1 => ?_, gx⟩
  rcases q1 with ⟨ns, hd, hl, hp⟩ | ⟨ns, hd, hl, hp⟩ | ⟨z, rfl, hl, hp⟩
  · have fin : ∀ (os : List Int) (p : Addr), os.Perm (ded ns) → os.Pairwise (· ≤ ·) → H1 p = none → Q (.ref p) (upd H1 p (.lst (os.map V.int))) := fun os p h1 h2 n =>
      g _ _ _ _ (hp os p h1 h2 (rep1.free n)) (k1.trans (Keep.new n)) (rep1.newL n (rvs_ofInts _)) rv_ofR
    rcases hd with hd | rfl
    · obtain ⟨l, vs, e, s, r⟩ := hd.sq rep1 r1
      rw [rvs_ints r] at s
      exact .inl ⟨l, ns, e, hl, .inl s, fin⟩
    · obtain ⟨l, vs, e, s, r⟩ := rv_tup r1
      rw [rvs_ints r] at s
      exact .inl ⟨l, ns, e, hl, .inr s, fin⟩
  · have fin : ∀ (os : List Str) (p : Addr), os.Perm (ded ns) → sortedS os = true → H1 p = none → Q (.ref p) (upd H1 p (.lst (os.map V.str))) := fun os p h1 h2 n =>
      g _ _ _ _ (hp os p h1 h2 (rep1.free n)) (k1.trans (Keep.new n)) (rep1.newL n (rvs_ofStrs _)) rv_ofR
    rcases hd with hd | rfl
    · obtain ⟨l, vs, e, s, r⟩ := hd.sq rep1 r1
      rw [rvs_strs r] at s
      exact .inr (.inl ⟨l, ns, e, hl, .inl s, fin⟩)
    · obtain ⟨l, vs, e, s, r⟩ := rv_tup r1
      rw [rvs_strs r] at s
      exact .inr (.inl ⟨l, ns, e, hl, .inr s, fin⟩)
  · exact .inr (.inr ⟨z, rv_str r1, hl, fun os p h1 h2 n => g _ _ _ _ (hp os p h1 h2 (rep1.free n)) (k1.trans (Keep.new n)) (rep1.newL n (rvs_ofStrs _)) rv_ofR⟩)
end
end PL

namespace PL
open PySem PySem.Spec PyProof.Rows L2 -- the layers
theorem bb_sorted : bootBuiltins ("sorted" : Str) = some (.builtin "sorted") := by decide +kernel
section
variable {X : Cx}
theorem RVs.repL {K : PySem.W.Frag} {H : Hp} {ds : List D} {vs : List V} (r : RVs K H ds vs) (n : Nat) : RVs K H (List.replicate n ds).flatten (List.replicate n vs).flatten := r.rep n
/-- a list, many times -/
def oMulL : QO := fun x y S P => ∃ a k xs, x = .ref a ∧ y = .int k ∧ S a = some (.lst xs) ∧ 0 ≤ k ∧ k ≤ 1000 ∧ xs.length ≤ 1000 ∧ ∀ p, S p = none → P (.ref p) (ups S p (.lst (List.replicate k.toNat xs).flatten))
theorem od_mulL : ODok X (binaryOp .Mult) oMulL := ⟨_, op_rep, fun x y S P H vx vy Q q rep rx ry go => by
  obtain ⟨a, k, xs, rfl, rfl, e, h1, h2, h3, p⟩ := q
  obtain ⟨vs, f, r⟩ := rep _ _ e
  refine ⟨a, k, vs, rv_ref rx, rv_int ry, f, by omega, by omega, ?_, fun l n => go _ _ _ _ (p l (rep.free n)) (Keep.new n) (rep.newL n (r.rep _)) rv_ofR⟩
  rw [← r.length]
  have e2 : sizeLine = 16777216 := by decide
  have := Nat.mul_le_mul h3 (show k.toNat ≤ 1000 by omega)
  omega⟩
end
end PL

namespace PL
open PySem PySem.Spec PyProof.Rows L2 -- the layers
/-! ## enumerate(x), x a list, a tuple, a text -/
theorem meets_enum1 {v : Value} {o : Obj} {B0 : Heap → Prop} (B : Begins v o B0) :
    Meets (Builtin.«enumerate.__new__» ⟨[.type "enumerate", v], []⟩) (fun _ R s => B0 s.heap ∧
      R (.ok (.ret (.ref (s.heap.push o).objs.size))) { s with heap := (s.heap.push o).push { cls := .type "enumerate", data := .fields #[.none, .bool false, .ref s.heap.objs.size, rawInt 0, .none, .none] } }) :=
  .of_wp fun prog w A R s z => by
    have hsub := sub_enumerate
    obtain ⟨hp, g, d, tk, os⟩ := s
    have q1 : ∀ {A1 : Around} {E1 : Value → Shared → Prop} {Q1 : Value → Shared → Prop}, Q1 (.ref hp.objs.size) ⟨hp.push o, g, d, tk, os⟩ → wpAny (model prog w) A1 (pyIter v) Q1 E1 ⟨hp, g, d, tk, os⟩ := fun q => B.iter prog w _ _ ⟨hp, g, d, tk, os⟩ _ z.1 q
    have z2 := z.2
    wp_walk using q1
    refine wpAny_stack_any fun st => wpAny_pure ?_
    split
    · rename_i c _ _ _ _ _
      cases (c == Value.type "enumerate")
      all_goals
        wp_walk using q1
        exact ⟨_, rfl, z2⟩
    · wp_walk using q1
      exact ⟨_, rfl, z2⟩
theorem enum_begins1 {prog : Program} {w : World} {A : Around} {E : Value → Shared → Prop} {s : Shared} {v : Value} {o : Obj} {B0 : Heap → Prop} {Q : Value → Shared → Prop} (B : Begins v o B0) (h1 : B0 s.heap)
    (h : ∀ g, IsEnum g (s.heap.objs.size + 1) s.heap.objs.size 0 .none → g.get? s.heap.objs.size = some o → (∀ b u, s.heap.get? b = some u → g.get? b = some u) → Q (.ref (s.heap.objs.size + 1)) { s with heap := g }) :
    wpAny (model prog w) A (call (.type "enumerate") [v]) Q E s := by
  refine callType_new F.called_enumerate (by decide) (F.typeCall_enumerate_1 _) (F.newCall_enumerate_1 _) (fun obj => F.args_object_init_2 obj _) F.entry_enumerate_new (meets_enum1 B) ⟨h1, ?_⟩
  have sz : (s.heap.push o).objs.size = s.heap.objs.size + 1 := Heap.size_push ..
  show _ ∧ _
  rw [sz]
  have at1 : IsEnum ((s.heap.push o).push { cls := .type "enumerate", data := .fields #[.none, .bool false, .ref s.heap.objs.size, rawInt 0, .none, .none] }) (s.heap.objs.size + 1) s.heap.objs.size 0 .none := by
    have e := Heap.get?_push_size (s.heap.push o) (o := { cls := .type "enumerate", data := .fields #[.none, .bool false, .ref s.heap.objs.size, rawInt 0, .none, .none] }) rfl
    rw [sz] at e
    exact e
  exact ⟨⟨_, at1, rfl⟩, h _ at1 (Heap.get?_push_of_some _ (Heap.get?_push_size _ B.free)) fun b u x => Heap.get?_push_of_some _ (Heap.get?_push_of_some _ x)⟩
/-- the pairs of place and item -/
def ItE (K : PySem.W.Frag) (k : ZK) : It :=
  ⟨fun i H => k.ok K H ∧ i < k.items.length, fun i H v H' => ∃ T x, v = .ref T ∧ H T = none ∧ H' = upd H T (.tup [.int (i : Nat), x]) ∧ k.items[i]? = some x, fun i H => k.ok K H ∧ i = k.items.length⟩
def ecells (n : Nat) (k : ZK) (i : Nat) (h : Heap) : Prop := (∃ old, IsEnum h (n + 1) n ((i : Nat) : Int) old) ∧ k.st n i h
theorem turnE {P : Program} {w : World} {K : PySem.W.Frag} {elts : List Expr} {kk : Nat} {tpos : Pos} {n : Nat} {k : ZK} (hb : ∀ a ∈ k.bs, a < n) :
    Turn P w K (.Tuple elts kk tpos) (ItE K k) [n + 1, n] (n + 1) (ecells n k) where
  mem := List.mem_cons_self ..
  obj := fun i h ⟨⟨old, he⟩, s1⟩ c hc => by
    have z : c = n + 1 ∨ c = n := by simpa using hc
    rcases z with rfl | rfl
    · exact ⟨_, he, fun v q => nomatch q⟩
    · exact k.st_ob s1
  keep := fun i h h' ⟨⟨old, he⟩, s1⟩ f => ⟨⟨old, f _ (by simp) _ he⟩, k.st_at s1 fun o e => f _ (by simp) o e⟩
  item := by
    intro X hP hw hK hc i pins s σ H E I hf ⟨⟨old, he⟩, s1⟩ ⟨ok1, hi1⟩
    subst hP hw hK
    have hh : X.A.in1.handled = none := I.ok.hd hc
    obtain ⟨its1, r1, b1, _⟩ := k.now I ok1
    obtain ⟨P1, D1, f1⟩ := ZK.draws (prog := X.prog) (w := X.w) hh k its1 r1 n (fun z => Nat.lt_irrefl _ (hb _ z))
    have low : ∀ {c o}, s.heap.get? c = some o → c < s.heap.objs.size := fun e => Heap.lt_size e
    refine wpAny_pyNext_enum_itemD D1 he ⟨s1, b1⟩ hi1 (Nat.succ_ne_self n) (znot hb (by omega) (by omega)) fun u h' tk p1 c1 d1 c5 c6 kp => ?_
    obtain ⟨x, ex, rx⟩ := f1 i u p1
    refine ⟨_, rfl, wpAny_letOwnedTupleGo_enum (s := { s with heap := h', toks := tk + 1 }) c1 fun h2 c1' sb => ?_⟩
    have apart : ∀ c, c ∉ [n + 1, n] → ∀ o, s.heap.get? c = some o → h2.get? c = some o := fun c hcn o e => by
      simp only [List.mem_cons, List.not_mem_nil, or_false, not_or] at hcn
      exact (sb.2 c hcn.1).trans (kp c o hcn.1 hcn.2 e)
    have hT : h2.get? s.heap.objs.size = some { cls := .type "tuple", data := .seq #[.int (i : Nat) tk, u] } := (sb.2 _ (Nat.ne_of_gt (low he))).trans c5
    have made : ObjOk X.prog X.w (upd H s.heap.objs.size (.tup [.int (i : Nat), x])) h2 s.heap.objs.size (.tup [.int (i : Nat), x]) := ⟨by show 2 ≤ sizeLine; decide, [.int (i : Nat) tk, u], .cons ⟨_, rfl⟩ (.cons rx .nil), ⟨_, hT, rfl, _, rfl⟩⟩
    have I1 := I.turnedNew (t' := tk + 1) (ch := [n + 1, n]) (fun c o hcn e => apart c hcn o e) hf (Nat.le_refl _) made
    refine ⟨.ref s.heap.objs.size, _, I1, rfl, ⟨_, x, rfl, I.hok.fresh (Nat.le_refl _), rfl, ex⟩, ⟨⟨u, ?_⟩, ?_⟩, fun c hcm => ?_⟩
    · rw [show ((i + 1 : Nat) : Int) = (i : Int) + 1 by omega]
      exact c1'
    · exact k.st_at d1.1 fun o e => (sb.2 _ (ane (by omega))).trans e
    · have hlt : c < s.heap.objs.size := by
        have z : c = n + 1 ∨ c = n := by simpa using hcm
        rcases z with rfl | rfl
        · exact low he
        · obtain ⟨o, e, _⟩ := k.st_ob s1
          exact low e
      rw [upd_ne (Nat.ne_of_lt hlt)]
      exact (hf c hcm).1
  done := by
    intro X hP hw hK hc i pins s σ H E I hf ⟨⟨old, he⟩, s1⟩ ⟨ok1, hi1⟩
    subst hP hw hK hi1
    have hh : X.A.in1.handled = none := I.ok.hd hc
    obtain ⟨its1, r1, b1, _⟩ := k.now I ok1
    obtain ⟨P1, D1, f1⟩ := ZK.draws (prog := X.prog) (w := X.w) hh k its1 r1 n (fun z => Nat.lt_irrefl _ (hb _ z))
    refine wpAny_pyNext_enum_endD D1 he ⟨s1, b1⟩ fun h' eb => ⟨rfl, I.turnedL (t' := s.toks) (ch := [n + 1, n]) (fun c o hcn e => ?_) hf⟩
    simp only [List.mem_cons, List.not_mem_nil, or_false, not_or] at hcn
    exact eb c o hcn.2 e
  self := fun A i s Q E st q => wpAny_pyIter_enum st.1.choose_spec q
def tEnum (K : PySem.W.Frag) (ta : TA) : TI := fun σ H R => ta σ H fun vs H1 => ∃ x, vs = [x] ∧ ∀ u, RelV x u → ∃ k : ZK, k.v = u ∧ k.ok K H1 ∧ R (ItE K k) H1
section
variable {X : Cx}
theorem pi_enumZ {e : Expr} {ta : TA} {p pos tpos : Pos} {elts : List Expr} {kk : Nat} (hg : Gl X "enumerate") (hm : X.mg "enumerate" = none) (ha : PA X [e] ta)
    (hs : starEach [e] X.env = [(false, eval e X.env)] := by rfl) : PI X (.Tuple elts kk tpos) (.Call (.Name "enumerate" p) [e] [] pos) (tEnum X.K ta) := by
  refine ⟨fun pins s σ H R I h => ?_⟩
  refine Call_ (ld_blt I hg hm boot_enumerate (PyProof.Rows.callWith_type1 (thn (ha.run pos pins s σ H _ I h) fun us s1 hh => ?_) hs rfl))
  obtain ⟨vs, H1, I1, r1, x, rfl, q⟩ := hh
  cases r1 with
  | cons r rr =>
    cases rr
    obtain ⟨k, rfl, ok, q⟩ := q _ r
    obtain ⟨its1, r1, b1, l1⟩ := k.now I1 ok
    refine enum_begins1 (k.begins its1) b1 fun h' he h1 hk => wpAny_pyIter_enum he ?_
    have I2 : L2.Inv X pins σ H1 { s1 with heap := h' } := I1.kept (t' := s1.toks) hk
    refine ⟨s1.heap.objs.size + 1, _, _, _, H1, rfl, I2, turnE l1, ⟨⟨_, he⟩, k.st0 h1⟩, fun c hcm => ?_, q⟩
    have hle : s1.heap.objs.size ≤ c := by
      have z : c = s1.heap.objs.size + 1 ∨ c = s1.heap.objs.size := by simpa using hcm
      rcases z with rfl | rfl
      · exact Nat.le_add_right _ _
      · exact Nat.le_refl _
    exact I1.fpOk hle (I1.hok.fresh hle)
def enumD (xs : List D) : List D := xs.zipIdx.map fun p => D.tup [.int (p.2 : Nat), p.1]
def iEnumQ (qa : QA) : QI := fun loc S P E => qa loc S (fun ds S1 => ∃ x xs, ds = [x] ∧ zSeq S1 x xs ∧ P (.on (fun S' => zSeq S' x xs) (enumD xs)) S1) E
theorem di_enum {e : Expr} {qa : QA} {p pos tpos : Pos} {elts : List Expr} {kk : Nat} (hg : Gl X "enumerate") (hm : X.mg "enumerate" = none) (ha : DA X [e] qa)
    (hs : starEach [e] X.env = [(false, eval e X.env)] := by rfl) : DI X (.Tuple elts kk tpos) (.Call (.Name "enumerate" p) [e] [] pos) (iEnumQ qa) := fun W tk => by
  refine PI.imp (pi_enumZ hg hm (ha W tk) hs) fun σ H R h => ?_
  obtain ⟨loc, S, P, E, rl, rep, hq, g, gx⟩ := h
  refine ⟨loc, S, _, E, rl, rep, hq, fun ds S1 vs H1 q1 k1 rep1 r1 => ?_, gx⟩
  obtain ⟨x, xs, rfl, hx, hp⟩ := q1
  obtain ⟨vx, rfl, rx⟩ := rvs_one r1
  refine ⟨vx, rfl, fun u ru => ?_⟩
  obtain ⟨k, e1, o1, i1, f1⟩ := hx.kind rep1 rx ru
  refine ⟨k, e1, o1, g _ _ _ _ hp k1 rep1 ?_⟩
  have l1 := i1.length
  have lp : (enumD xs).length = k.items.length := by unfold enumD; rw [List.length_map, List.length_zipIdx, l1]
  have get : ∀ {i : Nat} {d : D}, (enumD xs)[i]? = some d → ∃ a, xs[i]? = some a ∧ d = D.tup [.int (i : Nat), a] := fun {i d} e => by
    unfold enumD at e
    rw [List.getElem?_map, List.getElem?_zipIdx] at e
    cases hx : xs[i]? with
    | none => rw [hx] at e; cases e
    | some a =>
      rw [hx] at e
      exact ⟨a, rfl, by simpa using (Option.some.inj e).symm⟩
  refine ⟨fun i d S' H' hi ok kp rep' => ?_, fun i S' H' hi ok kp rep' => ?_, fun i d S' H' v H2 hi ok kp rep' yl => ?_⟩
  · obtain ⟨a, ea, _⟩ := get hi
    have h1 := (List.getElem?_eq_some_iff.mp ea).1
    exact ⟨f1 _ _ ok kp rep', by omega⟩
  · have hi' : (enumD xs).length = i := hi
    exact ⟨f1 _ _ ok kp rep', by omega⟩
  · obtain ⟨a, ea, rfl⟩ := get hi
    obtain ⟨T, v1, rfl, nT, rfl, e3⟩ := yl
    obtain ⟨w1, g1, rw1⟩ := RVs.get i1 ea
    obtain rfl := Option.some.inj (e3.symm.trans g1)
    refine ⟨Keep.new (K := X.K) (o := HO.tup [V.int (i : Nat), v1]) nT, rep'.same (same_new nT), ?_⟩
    have r2 : RVs X.K H' [D.int (i : Nat), a] [V.int (i : Nat), v1] := by
      unfold RVs
      exact ⟨_, _, rfl, rv_ofI, RVs.one (RV.keep kp _ _ rw1)⟩
    exact rv_newT nT r2
end
end PL

namespace PL
open PySem PySem.Spec PyProof.Rows L2 -- the layers
section
variable {X : Cx} {pos : Pos}
/-! ## range(a, b, c) -/
def rangeC (lo c : Int) (n : Nat) : List D := (List.range n).map fun (i : Nat) => D.int (lo + (i : Int) * c)
theorem rel_rangeC {K : PySem.W.Frag} {H : Hp} {lo c : Int} {n : Nat} : ItRel K H (.vals (rangeC lo c n)) (Itc lo c n) where
  go := fun i d S' H' hi ok k rep => by
    have h := (List.getElem?_eq_some_iff.mp hi).1
    have h2 : i < n := by simpa [Src.items, rangeC] using h
    exact h2
  stop := fun i S' H' hi' ok k rep => have hi := Nat.le_of_eq hi'; by
    have h2 : n ≤ i := by simpa [Src.items, rangeC] using hi
    exact h2
  yld := fun i d S' H' x H2 hi ok k rep y => by
    obtain ⟨e1, e2⟩ := y
    subst e1 e2
    have h := (List.getElem?_eq_some_iff.mp hi).1
    have h1 : i < n := by simpa [Src.items, rangeC] using h
    have h2 : ((List.range n).map fun (i : Nat) => D.int (lo + (i : Int) * c))[i]? = some d := hi
    rw [List.getElem?_map, List.getElem?_range h1] at h2
    cases h2
    exact ⟨Keep.refl, rep, rv_ofI⟩
def iRange3 (qa : QA) : QI := fun loc S P E => qa loc S (fun ds S1 => ∃ i j c n, ds = [.int i, .int j, .int c] ∧ RgC i j c n ∧ P (.vals (rangeC i c n)) S1) E
theorem rvs_three {K : PySem.W.Frag} {H : Hp} {d d' d'' : D} {vs : List V} (r : RVs K H [d, d', d''] vs) : ∃ v w u, vs = [v, w, u] ∧ RV K H d v ∧ RV K H d' w ∧ RV K H d'' u := by
  unfold RVs at r
  obtain ⟨v, w, e, h1, h2⟩ := r
  obtain ⟨u, z, e2, h3⟩ := rvs_two h2
  subst e2
  exact ⟨v, u, z, e, h1, h3⟩
theorem di_range3 {tg a b c : Expr} {qa : QA} {p : Pos} (hg : Gl X "range") (hm : X.mg "range" = none) (ha : DA X [a, b, c] qa) (hs : starEach [a, b, c] X.env = (false, eval a X.env) :: starEach [b, c] X.env := by rfl) (hpl : (backTo pos (starEach [b, c] X.env)).any (·.1) = false := by rfl) :
    DI X tg (.Call (.Name "range" p) [a, b, c] [] pos) (iRange3 qa) := fun W tk => by
  refine PI.imp (pi_range3 hg hm (ha W tk) hs hpl) fun σ H R h => ?_
  obtain ⟨loc, S, P, E, rl, rep, hq, g, gx⟩ := h
  refine ⟨loc, S, _, E, rl, rep, hq, fun ds S1 vs H1 q1 k1 rep1 r1 => ?_, gx⟩
  obtain ⟨i, j, c, n, rfl, hc, hp⟩ := q1
  obtain ⟨v, w, u, e, r2, r3, r4⟩ := rvs_three r1
  exact ⟨i, j, c, n, by rw [e, rv_int r2, rv_int r3, rv_int r4], hc, g _ _ _ _ hp k1 rep1 rel_rangeC⟩
/-! ## x op= e -/
def oIp (f : Int → Int → Int) : QO := oI (fun _ _ => True) fun i j => .int (f i j)
def sAug (i : Nat) (f : QO) (q : QE) : QS := fun P loc S => match loc[i]? with
  | some (some x) => q loc S (fun y S1 => f x y S1 fun d S2 => P.nx (loc.set i (some d)) S2) fun x S1 => P.ex x loc S1
  | _ => False
def IPok (X : Cx) (op : Operator) (q : QO) : Prop := ∃ r : TIp, PIp X op r ∧ ∀ x y S P H vx vy Q, q x y S P → Rep X.K S H → RV X.K H x vx → RV X.K H y vy → GoD X.K H P Q → r vx vy H Q
theorem ip_dadd : IPok X .Add (oIp fun i j => i + j) := ⟨_, ip_add, fun x y S P H vx vy Q q rep rx ry go => by
  obtain ⟨i, j, rfl, rfl, _, p⟩ := oI_inv q
  exact ⟨i, j, rv_int rx, rv_int ry, go.now p rep rv_ofI⟩⟩
theorem ip_dsub : IPok X .Sub (oIp fun i j => i - j) := ⟨_, ip_sub, fun x y S P H vx vy Q q rep rx ry go => by
  obtain ⟨i, j, rfl, rfl, _, p⟩ := oI_inv q
  exact ⟨i, j, rv_int rx, rv_int ry, go.now p rep rv_ofI⟩⟩
theorem ds_aug {i : Nat} {x : Str} {e : Expr} {q : QE} {f : QO} {op : Operator} {pos' : Pos} (hN : X.N.Nodup) (hi : X.N[i]? = some x) (hx : L2.Loc X.env.scope x) (he : DE X e q) (ho : IPok X op f) (hf : X.fn x = true ∨ X.env.scope.names.lookup x = some .local := by first | exact .inl rfl | exact .inr rfl | assumption) :
    DS X (.AugAssign (.Name x pos') op e pos) (sAug i f q) := fun W tk => by
  obtain ⟨r, o, hr⟩ := ho
  refine PS.imp (ps_aug hN hi hx (he W tk) o hf) fun D σ H h => ?_
  obtain ⟨loc, S, P, rl, rep, hq, g⟩ := h
  unfold sAug at hq
  split at hq
  · rename_i d e1
    obtain ⟨v, e2, rv⟩ := rl.at_ i d e1
    refine ⟨v, e2, loc, S, _, _, rl, rep, hq, fun y S1 vy H1 q1 k1 rep1 r1 => ?_, g.gx rl⟩
    refine hr _ _ _ _ _ _ _ _ q1 rep1 (RV.keep k1 _ _ rv) r1 fun z S2 vz H2 q2 k2 rep2 r2 => ?_
    exact g.nx _ _ _ _ q2 (k1.trans k2) ((rl.keep (k1.trans k2)).set r2 i) rep2
  · exact hq.elim
/-! ## list(range(..)), tuple(range(..)) -/
theorem rvs_rg {K : PySem.W.Frag} {H : Hp} {i j : Int} : RVs K H (rangeD i (j - i).toNat) (rgV i j) := by
  unfold rangeD rgV
  generalize List.range (j - i).toNat = l
  induction l with
  | nil => exact RVs.nil_iff.mpr rfl
  | cons a r ih =>
    show RVs K H (_ :: _) (_ :: _)
    unfold RVs
    exact ⟨_, _, rfl, rv_ofI, ih⟩
def rgFit (i j : Int) : Prop := 0 ≤ i ∧ i ≤ 16000000 ∧ 0 ≤ j ∧ j ≤ 16000000
theorem rgFit.ok {i j : Int} (h : rgFit i j) : RgOk i j := RgOk.of_le h.1 (by have := h.2.2.2; omega) (by have := h.2.1; omega) h.2.2.1
abbrev QR := Loc → Sto → (Int → Int → Sto → Prop) → PX → Prop
def liftR (K : PySem.W.Frag) (W : WX) (q : QR) : L2.St → Hp → (Int → Int → Hp → Prop) → Prop := fun σ H Q => ∃ loc S P E, RL K H loc σ ∧ Rep K S H ∧ q loc S P E ∧ (∀ i j S' H', P i j S' → Keep K H H' → Rep K S' H' → Q i j H') ∧ GoX K H σ E W
def DR (X : Cx) (e : Expr) (q : QR) : Prop := ∀ W, L2N.Takes X W → PRg X e (liftR X.K W q)
def qRg1 (q : QE) : QR := fun loc S P E => q loc S (fun d S1 => ∃ j, d = .int j ∧ P 0 j S1) E
def qRg2 (qa qb : QE) : QR := fun loc S P E => qa loc S (fun x S1 => qb loc S1 (fun y S2 => ∃ i j, x = .int i ∧ y = .int j ∧ P i j S2) E) E
theorem dr_1 {a : Expr} {q : QE} {p : Pos} (hg : Gl X "range") (hm : X.mg "range" = none) (ha : DE X a q) (na : starEach [a] X.env = (false, eval a X.env) :: starEach [] X.env := by rfl) : DR X (.Call (.Name "range" p) [a] [] pos) (qRg1 q) := fun W tk => by
  intro pins s σ H Q I h
  obtain ⟨loc, S, P, E, rl, rep, hq, g, gx⟩ := h
  refine prg_1 hg hm (ha W tk) na pins s σ H Q I ⟨loc, S, _, E, rl, rep, hq, fun d S1 v H1 q1 k1 rep1 r1 => ?_, gx⟩
  obtain ⟨j, rfl, p1⟩ := q1
  exact ⟨j, rv_int r1, g _ _ _ _ p1 k1 rep1⟩
theorem dr_2 {a b : Expr} {qa qb : QE} {p : Pos} (hg : Gl X "range") (hm : X.mg "range" = none) (ha : DE X a qa) (hb : DE X b qb) (na : starEach [a, b] X.env = (false, eval a X.env) :: starEach [b] X.env := by rfl)
    (nb : starEach [b] X.env = (false, eval b X.env) :: starEach [] X.env := by rfl) (hp : (backTo pos (starEach [b] X.env)).any (·.1) = false := by rfl) : DR X (.Call (.Name "range" p) [a, b] [] pos) (qRg2 qa qb) := fun W tk => by
  intro pins s σ H Q I h
  obtain ⟨loc, S, P, E, rl, rep, hq, g, gx⟩ := h
  refine prg_2 hg hm (ha W tk) (hb W tk) na nb hp pins s σ H Q I ⟨loc, S, _, E, rl, rep, hq, fun d S1 v H1 q1 k1 rep1 r1 => ?_, gx⟩
  refine ⟨loc, S1, _, E, rl.keep k1, rep1, q1, fun y S2 vy H2 q2 k2 rep2 r2 => ?_, gx.keep k1⟩
  obtain ⟨i, j, rfl, rfl, p1⟩ := q2
  exact ⟨i, j, rv_int r1, rv_int r2, g _ _ _ _ p1 (k1.trans k2) rep2⟩
def qListRg (q : QR) : QE := fun loc S P E => q loc S (fun i j S1 => rgFit i j ∧ ∀ p, S1 p = none → P (.ref p) (ups S1 p (.lst (rangeD i (j - i).toNat)))) E
def qTupRg (q : QR) : QE := fun loc S P E => q loc S (fun i j S1 => rgFit i j ∧ P (.tup (rangeD i (j - i).toNat)) S1) E
theorem de_listRg {e : Expr} {q : QR} {p : Pos} (hc : X.calm = true) (hg : Gl X "list") (hm : X.mg "list" = none) (he : DR X e q) (na : starEach [e] X.env = (false, eval e X.env) :: starEach [] X.env := by rfl) : DE X (.Call (.Name "list" p) [e] [] pos) (qListRg q) := fun W tk => by
  refine PE.imp (pe_listRg hc hg hm (he W tk) na) fun σ H Q h => ?_
  obtain ⟨loc, S, P, E, rl, rep, hq, g, gx⟩ := h
  refine ⟨loc, S, _, E, rl, rep, hq, fun i j S1 H1 q1 k1 rep1 => ⟨q1.1.ok, fun p hp => ?_⟩, gx⟩
  have r := rvs_rg (K := X.K) (H := H1) (i := i) (j := j)
  exact g _ _ _ _ (q1.2 p (rep1.free hp)) (k1.trans (Keep.new hp)) (rep1.newL hp r) rv_ofR
theorem de_tupRg {e : Expr} {q : QR} {p : Pos} (hc : X.calm = true) (hg : Gl X "tuple") (hm : X.mg "tuple" = none) (he : DR X e q) (na : starEach [e] X.env = (false, eval e X.env) :: starEach [] X.env := by rfl) : DE X (.Call (.Name "tuple" p) [e] [] pos) (qTupRg q) := fun W tk => by
  refine PE.imp (pe_tupRg hc hg hm (he W tk) na) fun σ H Q h => ?_
  obtain ⟨loc, S, P, E, rl, rep, hq, g, gx⟩ := h
  refine ⟨loc, S, _, E, rl, rep, hq, fun i j S1 H1 q1 k1 rep1 => ⟨q1.1.ok, fun p hp => ?_⟩, gx⟩
  have r := rvs_rg (K := X.K) (H := H1) (i := i) (j := j)
  exact g _ _ _ _ q1.2 (k1.trans (Keep.new hp)) (rep1.same (same_new hp)) (rv_newT hp r)
end
end PL

namespace PL
open PySem PySem.Spec PyProof.Rows L2 -- the layers
section
variable {X : Cx}
/-! ## try: .. except C: .. (no name; other exceptions pass) -/
def coldN (P : QN) : QN := { P with ex := fun _ _ _ => False }
def sTryN (Cs : List Addr) (C : Addr) (tb : QS) (ts : QS) : QS := fun P loc S => tb { P with ex := fun x loc' S' => x.cls ∈ Cs ∧ (x.cls = C → ts (coldN P) loc' S') ∧ (x.cls ≠ C → P.ex x loc' S') } loc S
theorem ds_tryN {x : Str} {CC : Addr} {Cs : List Addr} {body suite : List Stmt} {b₀ : Stmt} {np pos pos' : Pos} {tb : QS} {ts : QS} (hs : X.stack = X.env :: X.outer) (hf : X.env.frame = some X.env.locals) (hc : Names X x (.ref CC))
    (hx : ∀ C ∈ Cs, PySem.W.exmOne X.K (.ref C) (.ref CC) = some (decide (C = CC))) (hb : ∀ pn xe, PassesOwn (model X.prog X.w) X.A X.env xe → DB (X.tr pn xe) body tb)
    (hsu : ∀ (a : Addr) (oe : Obj) (pn : List (Addr × Obj)), DB (X.suite a ((a, oe) :: pn)) (b₀ :: suite) ts) :
    DS X (.Try body [.ExceptHandler (some (.Name x np)) none (b₀ :: suite) pos'] [] [] pos) (sTryN Cs CC tb ts) := fun W tk => by
  refine PS.imp (L2N.ps_try_many (tb := fun W => liftS X.K W tb) (l := [(.ref CC, fun _ _ _ => liftS X.K (fun _ _ _ _ => False) ts)]) hs hf tk (fun W pn xe tk' po => hb pn xe po W tk') (.cons hc (fun a oe cls d pn hz hd => hsu a oe pn _ takes0) .nil)) fun D σ H h => ?_
  obtain ⟨loc, S, P, rl, rep, hq, g⟩ := h
  refine ⟨loc, S, _, rl, rep, hq, g.nx, g.rt, g.bk, g.ct, fun y loc' S' σ' H' c d z k rl' rep' rx => ?_⟩
  obtain ⟨hC, h1, h2⟩ := z
  obtain ⟨e1, e2⟩ := rx
  subst e1
  refine ⟨decide (y.cls = CC), hx _ hC, fun ht a na => ⟨loc', S', coldN P, rl', rep', h1 (of_decide_eq_true ht), ?_⟩, fun hf => g.ex y loc' S' σ' H' _ d (h2 (of_decide_eq_false hf)) k rl' rep' ⟨rfl, e2⟩⟩
  have g' := g.keep k
  exact ⟨g'.nx, g'.rt, g'.bk, g'.ct, fun _ _ _ _ _ _ _ z => z.elim⟩
end
/-! a step's unfolding as an equation with a proof: the kernel must not compare it with what comes behind by unfolding that -/
theorem sNext_eq {P : QN} {loc : Loc} {S : Sto} : sNext P loc S = P.nx loc S := propext ⟨fun h => h, fun h => h⟩
theorem sBreak_eq {P : QN} {loc : Loc} {S : Sto} : sBreak P loc S = P.bk loc S := propext ⟨fun h => h, fun h => h⟩
theorem sCont_eq {P : QN} {loc : Loc} {S : Sto} : sCont P loc S = P.ct loc S := propext ⟨fun h => h, fun h => h⟩
/-- each of the six is caught by its own name alone -/
def ownB (K : PySem.W.Frag) : Bool := (adK K).six.all fun C => (adK K).six.all fun c => decide (PySem.W.exmOne K (.ref C) (.ref c) = some (decide (C = c)))
theorem ownB_ok {K : PySem.W.Frag} (h : ownB K = true) : ∀ C ∈ (adK K).six, ∀ c ∈ (adK K).six, PySem.W.exmOne K (.ref C) (.ref c) = some (decide (C = c)) := fun C hC c hc =>
  of_decide_eq_true (List.all_eq_true.mp (List.all_eq_true.mp h C hC) c hc)
end PL

namespace PL
open PySem PySem.Spec PyProof.Rows L2 -- the layers
/-! what all laws share: promises, readings, their proofs -/
noncomputable def dB (p : Prop) : Bool := @decide p (Classical.propDecidable p)
theorem dB_of {p : Prop} {b : Bool} (h : b = true ↔ p) : b = dB p := by
  unfold dB
  by_cases hp : p
  · rw [h.mpr hp]
    exact (@decide_eq_true p (Classical.propDecidable p) hp).symm
  · have : b = false := by
      cases b
      · rfl
      · exact absurd (h.mp rfl) hp
    rw [this]
    exact (@decide_eq_false p (Classical.propDecidable p) hp).symm
theorem dB_iff {p : Prop} : dB p = true ↔ p := by
  unfold dB
  exact @decide_eq_true_iff p (Classical.propDecidable p)
def sp__law_same (ad : Ad) : QF := fun ds S P E => ∃ a b p, ds = [a, b] ∧ Dat S a p ∧ Dat S b p ∧ good (.list [p]) ∧ P (.bl true) S
/-- the stream's numbers -/
structure Nums (xs : List Int) : Prop where
  ne : xs ≠ []
  len : xs.length ≤ 4000
  rng : ∀ x ∈ xs, 0 ≤ x ∧ x < 1009
/-- the law's state -/
structure Strm (S : Sto) (s n : Addr) (xs : List Int) (k : Int) : Prop where
  st : S s = some (.lst [.ref n, .int k])
  nm : S n = some (.lst (xs.map D.int))
  ne : s ≠ n
  ok : Nums xs
  k0 : 0 ≤ k
def stepS (S : Sto) (s n : Addr) (k : Int) : Sto := ups S s (.lst [.ref n, .int k])
def sp__law_stream (ad : Ad) : QF := fun ds S P E => ∃ ns : List Int, ds = [.rol (ns.map D.int)] ∧ ns.length ≤ 63 ∧ ∀ (n : Addr) (xs : List Int) (S' : Sto), S n = none → Sub S S' → (∀ b o, S' b = some o → b = n ∨ S b = some o ∨ ∃ ds, o = .lst ds) → S' n = some (.lst (xs.map D.int)) → Nums xs → P (.ref n) S'
def sp__law_next (ad : Ad) : QF := fun ds S P E => ∃ s n xs k many, ds = [.ref s, .int many] ∧ Strm S s n xs k ∧ 0 < many ∧ k < 1000000000 ∧ ∀ r : Int, 0 ≤ r → r < many → P (.int r) (stepS S s n (k + 1))
def sp__law_great (ad : Ad) : QF := fun ds S P E => ∃ s n xs k many, ds = [.ref s, .int many] ∧ Strm S s n xs k ∧ 0 < many ∧ k < 900000000 ∧ ∀ r : Int, 0 ≤ r → r < many → P (.int r) (stepS S s n (k + 2))

/-! ## r _law_same -/
abbrev N__law_same : List Str := ["told", "due"]
def r__law_same (ad : Ad) : QS := (sRet (qBin oEq (qCB cRepr (qCons (qLst (qCons (qVar 0) qNil)) qNil)) (qCB cRepr (qCons (qLst (qCons (qVar 1) qNil)) qNil))))
/-! end -/

/-! ## r _law_stream -/
abbrev N__law_stream : List Str := ["script", "numbers", "cell", "rest", "k", "stirred"]
def r__law_stream_b1 (ad : Ad) : QS := (sSeq (sDrop (qMeth mAppend (qVar 1) (qCons (qBin oMod (qCB cToInt (qCons (qVar 3) qNil)) (qC (.int 1009))) qNil)))
    (sSeq (sSet 3 (qBin oDiv (qVar 3) (qC (.int 1009))))
    (sIf (qTB (qBin oEq (qVar 3) (qC (.int 0)))) sBreak sNext)))
def r__law_stream_b2 (ad : Ad) : QS := (sSeq (sSet 5 (qBin oMod (qCB cToInt (qCons (qBin oAdd (qBin oAdd (qBin oMul (qVar 5) (qC (.int 48271))) (qBin oMul (qC (.int 7)) (qVar 4))) (qC (.int 11))) qNil)) (qC (.int 2147483647))))
    (sDrop (qMeth mAppend (qVar 1) (qCons (qBin oMod (qBin oMod (qCB cToInt (qCons (qBin oAdd (qBin oMul (qVar 5) (qC (.int 69621))) (qVar 4)) qNil)) (qC (.int 2147483629))) (qC (.int 1009))) qNil))))
def r__law_stream_b3 (ad : Ad) : QS := (sSeq (sSet 3 (qCB (cInt fun i => .int (if i < 0 then -i else i)) (qCons (qCB cToInt (qCons (qVar 2) qNil)) qNil)))
    (sIf (qTB (qBin oGe (qVar 3) (qBin oPow (qC (.int 10)) (qC (.int 18))))) (sFor (iRange1 (qCons (qC (.int 60)) qNil)) (gN 4) (r__law_stream_b1 ad)) (sSeq (sSet 5 (qBin oMod (qCB cToInt (qCons (qVar 3) qNil)) (qC (.int 2147483647))))
    (sFor (iRange1 (qCons (qC (.int 10)) qNil)) (gN 4) (r__law_stream_b2 ad)))))
def r__law_stream (ad : Ad) : QS := (sSeq (sSet 1 (qLst qNil))
    (sSeq (sFor (iSeq (qSl (qVar 0) qNo (qPart (qC (.int 63))))) (gN 2) (r__law_stream_b3 ad))
    (sSeq (sIf (qTB (qBin oEq (qCB cLen (qCons (qVar 1) qNil)) (qC (.int 0)))) (sDrop (qMeth mAppend (qVar 1) (qCons (qC (.int 0)) qNil))) sNext)
    (sRet (qVar 1)))))
/-! end -/

/-! ## r _law_next -/
abbrev N__law_next : List Str := ["state", "many", "turn"]
def r__law_next (ad : Ad) : QS := (sSeq (sAsg (qBin oAdd (qBin oIx (qVar 0) (qC (.int 1))) (qC (.int 1))) (gS (qVar 0) (qC (.int 1))))
    (sSeq (sSet 2 (qBin oDiv (qBin oIx (qVar 0) (qC (.int 1))) (qCB cLen (qCons (qBin oIx (qVar 0) (qC (.int 0))) qNil))))
    (sRet (qBin oMod (qCB cToInt (qCons (qBin oAdd (qBin oAdd (qBin oIx (qBin oIx (qVar 0) (qC (.int 0))) (qBin oMod (qBin oIx (qVar 0) (qC (.int 1))) (qCB cLen (qCons (qBin oIx (qVar 0) (qC (.int 0))) qNil)))) (qBin oMul (qVar 2) (qC (.int 389)))) (qBin oMul (qBin oMul (qBin oIx (qVar 0) (qC (.int 1))) (qVar 2)) (qC (.int 17)))) qNil)) (qVar 1)))))
/-! end -/

/-! ## r _law_great -/
abbrev N__law_great : List Str := ["state", "many"]
def r__law_great (ad : Ad) : QS := (sRet (qBin oMod (qCB cToInt (qCons (qBin oAdd (qBin oMul (qCall (sp__law_next ad) (qCons (qVar 0) (qCons (qC (.int 1009)) qNil))) (qC (.int 1009))) (qCall (sp__law_next ad) (qCons (qVar 0) (qCons (qC (.int 1009)) qNil)))) qNil)) (qVar 1)))
/-! end -/

/-! ## r _law_told -/
abbrev N__law_told : List Str := ["call", "e", "kinds", "names", "k"]
def r__law_told_s (ad : Ad) (C a : Addr) : QS := (sSeq (sSet 2 (qLst (qCons (qCB (cIsK ad a C) (qCons (qVar 1) (qCons (qC (.ref ad.NotAllowed)) qNil))) (qCons (qCB (cIsK ad a C) (qCons (qVar 1) (qCons (qC (.ref ad.TooLarge)) qNil))) (qCons (qCB (cIsK ad a C) (qCons (qVar 1) (qCons (qC (.ref ad.Missing)) qNil))) (qCons (qCB (cIsK ad a C) (qCons (qVar 1) (qCons (qC (.ref ad.BadPaper)) qNil))) (qCons (qCB (cIsK ad a C) (qCons (qVar 1) (qCons (qC (.ref ad.BadForm)) qNil))) (qCons (qCB (cIsK ad a C) (qCons (qVar 1) (qCons (qC (.ref ad.Broken)) qNil))) qNil))))))))
    (sSeq (sSet 3 (qLc (iRange1 (qCons (qC (.int 6)) qNil)) (gN 4) (qTru (qBin oIx (qVar 2) (qVar 4))) (qBin oIx (qLst (qCons (qC (.str "refused")) (qCons (qC (.str "large")) (qCons (qC (.str "missing")) (qCons (qC (.str "paper")) (qCons (qC (.str "form")) (qCons (qC (.str "broken")) qNil))))))) (qVar 4)) [4]))
    (sRet (qTup (qCons (qBin oIx (qLst (qCons (qC (.str "odd")) (qCons (qBin oIx (qBin oAdd (qVar 3) (qLst (qCons (qC (.str "")) qNil))) (qC (.int 0))) qNil))) (qCB cToInt (qCons (qBin oEq (qCB cLen (qCons (qVar 3) qNil)) (qC (.int 1))) qNil))) qNil)))))
def r__law_told (ad : Ad) (qc : QE) : QS := (sTry ad.six 1 (sRet (qTup (qCons (qC (.str "told")) (qCons qc qNil)))) (r__law_told_s ad))
/-! end -/

variable {ad : Ad}
theorem fmod_pos {a b : Int} (h : 0 < b) : 0 ≤ a.fmod b ∧ a.fmod b < b := ⟨Int.fmod_nonneg_of_pos a h, Int.fmod_lt_of_pos a h⟩
theorem sz1 : (1 : Nat) ≤ sizeLine := by decide
theorem sz2 : (2 : Nat) ≤ sizeLine := by decide
theorem szB {n : Nat} (h : n < 16000000) : n < sizeLine := by
  have e : sizeLine = 16777216 := by decide
  omega
theorem szL {n : Nat} (h : n < 16000000) : n ≤ sizeLine := Nat.le_of_lt (szB h)
def src_ok (src : Src) (S1 : Sto) : Prop := ∀ S, Sub S1 S → src.ok S
theorem ok_vals {xs : List D} {S : Sto} : src_ok (.vals xs) S := fun _ _ => trivial
theorem ok_live {a : Addr} {xs : List D} {S : Sto} (h : S a = some (.lst xs)) : src_ok (.live a xs) S := fun _ s => s _ _ h
theorem filterMap_snoc {α : Type} {f : Nat → Option α} {i : Nat} : (List.range (i + 1)).filterMap f = (List.range i).filterMap f ++ (f i).toList := by
  rw [List.range_succ, List.filterMap_append]
  cases h : f i <;> simp [h]
theorem len_fm {α : Type} (f : Nat → Option α) (i : Nat) : ((List.range i).filterMap f).length ≤ i := by
  have := List.length_filterMap_le f (List.range i)
  simpa using this
/-- a comprehension that writes nothing -/
theorem lc_go {it : QI} {g : QG} {tt : QT} {te : QE} {own : List Nat} {loc : PL.Loc} {S S1 : Sto} {P : PD} {E : PX} (src : Src) (f : Nat → Option D) (hit : ∀ Q : Src → Sto → Prop, Q src S1 → it loc S Q E) (hok : src_ok src S1) (hl : src.items.length ≤ 100000)
    (hb : ∀ i d S' (C : Option D → Sto → Prop), src.items[i]? = some d → Sub S1 S' → (∀ y S2, f i = y → Sub S' S2 → C y S2) → g d (wipeD loc own) S' (fun loc2 S2 => tt loc2 S2 (fun b S3 => if b = true then te loc2 S3 (fun y S4 => C (some y) S4) fun _ _ => False else C none S3) fun _ _ => False) fun _ _ => False)
    (hP : ∀ p S', S1 p = none → Sub S1 S' → S' p = some (.lst ((List.range src.items.length).filterMap f)) → P (.ref p) S') : qLc it g tt te own loc S P E := by
  unfold qLc
  refine hit _ fun p hp => ⟨fun i acc S' => acc = (List.range i).filterMap f ∧ Sub S1 S' ∧ S' p = some (.lst acc), ⟨rfl, (Sub.refl S1).new hp, ups_same⟩, ?_, ?_⟩
  · rintro i d acc S' hi ⟨rfl, sub, hacc⟩
    refine ⟨hok _ sub, ?_⟩
    have hi2 : i < src.items.length := (List.getElem?_eq_some_iff.mp hi).1
    refine hb i d S' (fun y S4 => match y with
      | some y => S4 p = some (.lst ((List.range i).filterMap f)) ∧ ((List.range i).filterMap f).length < sizeLine ∧ ((List.range i).filterMap f ++ [y] = (List.range (i + 1)).filterMap f ∧ Sub S1 (ups S4 p (.lst ((List.range i).filterMap f ++ [y]))) ∧ ups S4 p (.lst ((List.range i).filterMap f ++ [y])) p = some (.lst ((List.range i).filterMap f ++ [y])))
      | none => (List.range i).filterMap f = (List.range (i + 1)).filterMap f ∧ Sub S1 S4 ∧ S4 p = some (.lst ((List.range i).filterMap f))) hi sub fun y S4 hy s4 => ?_
    have hs := filterMap_snoc (f := f) (i := i)
    cases y with
    | some y =>
      rw [hy] at hs
      exact ⟨s4 _ _ hacc, szB (Nat.lt_of_le_of_lt (len_fm f i) (by omega)), by rw [hs]; rfl, (sub.trans s4).at hp, ups_same⟩
    | none =>
      rw [hy] at hs
      exact ⟨by rw [hs]; simp, sub.trans s4, s4 _ _ hacc⟩
  · rintro acc S' ⟨rfl, sub, hacc⟩
    exact ⟨hok _ sub, hP p S' hp sub hacc⟩
theorem fm_map {α β : Type} (xs : List α) (h : α → β) : (List.range xs.length).filterMap (fun i => xs[i]?.map h) = xs.map h := by
  have key : ∀ n, n ≤ xs.length → (List.range n).filterMap (fun i => xs[i]?.map h) = (xs.take n).map h := by
    intro n
    induction n with
    | zero => intro _; simp
    | succ n ih =>
      intro hn
      have e : xs[n]? = some xs[n] := List.getElem?_eq_getElem (by omega)
      rw [filterMap_snoc, ih (by omega), List.take_succ, List.map_append, e]
      rfl
  rw [key _ (Nat.le_refl _), List.take_length]
/-- a list of all items' values -/
theorem lc_map {it : QI} {g : QG} {te : QE} {own : List Nat} {loc : PL.Loc} {S S1 : Sto} {P : PD} {E : PX} (src : Src) (h : D → D) (hit : ∀ Q : Src → Sto → Prop, Q src S1 → it loc S Q E) (hok : src_ok src S1) (hl : src.items.length ≤ 100000)
    (hb : ∀ d S' (C : D → Sto → Prop), d ∈ src.items → Sub S1 S' → (∀ S2, Sub S' S2 → C (h d) S2) → g d (wipeD loc own) S' (fun loc2 S2 => te loc2 S2 (fun y S4 => C y S4) fun _ _ => False) fun _ _ => False)
    (hP : ∀ p S', S1 p = none → Sub S1 S' → S' p = some (.lst (src.items.map h)) → P (.ref p) S') : qLc it g qYes te own loc S P E := by
  refine lc_go src (fun i => src.items[i]?.map h) hit hok hl (fun i d S' C hi sub hC => ?_) fun p S' hp sub e => hP p S' hp sub (by rw [e, fm_map])
  unfold qYes
  simp only [if_true]
  exact hb d S' (fun y S4 => C (some y) S4) (List.mem_of_getElem? hi) sub fun S2 s2 => hC _ S2 (by rw [hi]; rfl) s2
theorem fm_filt {α β : Type} (xs : List α) (p : α → Bool) (h : α → β) : (List.range xs.length).filterMap (fun i => xs[i]?.bind fun x => if p x = true then some (h x) else none) = (xs.filter p).map h := by
  have key : ∀ n, n ≤ xs.length → (List.range n).filterMap (fun i => xs[i]?.bind fun x => if p x = true then some (h x) else none) = ((xs.take n).filter p).map h := by
    intro n
    induction n with
    | zero => intro _; simp
    | succ n ih =>
      intro hn
      have e : xs[n]? = some xs[n] := List.getElem?_eq_getElem (by omega)
      rw [filterMap_snoc, ih (by omega), List.take_succ, List.filter_append, List.map_append, e]
      by_cases hp : p xs[n] = true <;> simp [hp]
  rw [key _ (Nat.le_refl _), List.take_length]
/-- a list of some items' values -/
theorem lc_filt {it : QI} {g : QG} {tt : QT} {te : QE} {own : List Nat} {loc : PL.Loc} {S S1 : Sto} {P : PD} {E : PX} (src : Src) (q : D → Bool) (h : D → D) (hit : ∀ Q : Src → Sto → Prop, Q src S1 → it loc S Q E) (hok : src_ok src S1) (hl : src.items.length ≤ 100000)
    (hb : ∀ d S' (C : Option D → Sto → Prop), d ∈ src.items → Sub S1 S' → (∀ S2, Sub S' S2 → C (if q d = true then some (h d) else none) S2) → g d (wipeD loc own) S' (fun loc2 S2 => tt loc2 S2 (fun b S3 => if b = true then te loc2 S3 (fun y S4 => C (some y) S4) fun _ _ => False else C none S3) fun _ _ => False) fun _ _ => False)
    (hP : ∀ p S', S1 p = none → Sub S1 S' → S' p = some (.lst ((src.items.filter q).map h)) → P (.ref p) S') : qLc it g tt te own loc S P E := by
  refine lc_go src (fun i => src.items[i]?.bind fun x => if q x = true then some (h x) else none) hit hok hl (fun i d S' C hi sub hC => ?_) fun p S' hp sub e => hP p S' hp sub (by rw [e, fm_filt])
  exact hb d S' C (List.mem_of_getElem? hi) sub fun S2 s2 => hC _ S2 (by rw [hi]; rfl) s2
/-- two clauses -/
theorem lc2_map {it it1 : QI} {g g1 : QG} {te : QE} {own own1 : List Nat} {loc : PL.Loc} {S S1 : Sto} {P : PD} {E : PX} (xs : List D) (inn : D → List D) (h : D → D) (L2 : D → PL.Loc) (hit : ∀ Q : Src → Sto → Prop, Q (.vals xs) S1 → it loc S Q E) (hl : ∀ n, ((xs.take n).flatMap inn).length ≤ 100000)
    (hb : ∀ d S' (R : PL.Loc → Src → Sto → Prop), d ∈ xs → Sub S1 S' → R (L2 d) (.vals (inn d)) S' → g d (wipeD loc own) S' (fun loc2 S2 => it1 loc2 S2 (fun src1 S4 => R loc2 src1 S4) fun _ _ => False) fun _ _ => False)
    (hb1 : ∀ d x S' (C : D → Sto → Prop), d ∈ xs → x ∈ inn d → Sub S1 S' → (∀ S2, Sub S' S2 → C (h x) S2) → g1 x (wipeD (L2 d) own1) S' (fun loc5 S5 => te loc5 S5 (fun y S6 => C y S6) fun _ _ => False) fun _ _ => False)
    (hP : ∀ p S', S1 p = none → Sub S1 S' → S' p = some (.lst ((xs.flatMap inn).map h)) → P (.ref p) S') : qLc2 it g qYes it1 g1 qYes te own own1 loc S P E := by
  unfold qLc2
  refine hit _ fun p hp => ⟨fun i acc S' => acc = ((xs.take i).flatMap inn).map h ∧ Sub S1 S' ∧ S' p = some (.lst acc), ⟨by simp, (Sub.refl S1).new hp, ups_same⟩, ?_, ?_⟩
  · rintro i d acc S' hi ⟨rfl, sub, hacc⟩
    refine ⟨trivial, ?_⟩
    have hi0 : xs[i]? = some d := hi
    have hd : d ∈ xs := List.mem_of_getElem? hi0
    have et : (xs.take (i + 1)).flatMap inn = (xs.take i).flatMap inn ++ inn d := by
      rw [List.take_succ, hi0, List.flatMap_append]
      simp
    have hl1 := hl (i + 1)
    rw [et] at hl1
    simp only [qYes, if_true]
    refine hb d S' _ hd sub ?_
    refine ⟨fun j acc S'' => acc = ((xs.take i).flatMap inn).map h ++ ((inn d).take j).map h ∧ Sub S1 S'' ∧ S'' p = some (.lst acc), ⟨by simp, sub, hacc⟩, ?_, ?_⟩
    · rintro j x acc S2 hj ⟨rfl, sub2, hacc2⟩
      refine ⟨trivial, ?_⟩
      have hj0 : (inn d)[j]? = some x := hj
      refine hb1 d x S2 (fun y S7 => _) hd (List.mem_of_getElem? hj0) sub2 fun S7 s7 => ⟨s7 _ _ hacc2, ?_, ?_, (sub2.trans s7).at hp, ups_same⟩
      · refine szB ?_
        rw [List.length_append, List.length_map, List.length_map]
        rw [List.length_append] at hl1
        have := List.length_take_le j (inn d)
        have h2 : ((inn d).take j).length ≤ (inn d).length := by rw [List.length_take]; omega
        omega
      · rw [List.take_succ, hj0, List.map_append, List.append_assoc]
        rfl
    · rintro acc S2 ⟨rfl, sub2, hacc2⟩
      refine ⟨trivial, ?_, sub2, hacc2⟩
      show _ ++ ((inn d).take (inn d).length).map h = _
      rw [et, List.take_length, List.map_append]
  · rintro acc S' ⟨rfl, sub, hacc⟩
    refine ⟨trivial, hP p S' hp sub ?_⟩
    rw [hacc]
    show some (O.lst (((xs.take xs.length).flatMap inn).map h)) = _
    rw [List.take_length]
theorem stepS_stepS {S : Sto} {s n : Addr} {j k : Int} : stepS (stepS S s n j) s n k = stepS S s n k := ups_ups
theorem stepS_sub {S S' : Sto} {s n : Addr} {k : Int} (h : Sub S S') : Sub (stepS S s n k) (stepS S' s n k) := fun a o e => by
  unfold stepS at *
  by_cases z : a = s
  · subst z
    rw [ups_same] at e ⊢
    exact e
  · rw [ups_ne z] at e ⊢
    exact h a o e
theorem Strm.next {S : Sto} {s n : Addr} {xs : List Int} {k j : Int} (h : Strm S s n xs k) (hj : 0 ≤ j) : Strm (stepS S s n j) s n xs j :=
  ⟨ups_same, by unfold stepS; rw [ups_ne (Ne.symm h.ne)]; exact h.nm, h.ne, h.ok, hj⟩
theorem Strm.sub {S S' : Sto} {s n : Addr} {xs : List Int} {k : Int} (h : Strm S s n xs k) (b : Sub S S') : Strm S' s n xs k := ⟨b _ _ h.st, b _ _ h.nm, h.ne, h.ok, h.k0⟩
theorem Nums.get {xs : List Int} (h : Nums xs) {i : Int} (h0 : 0 ≤ i) (h1 : i < xs.length) : ∃ z, atI (xs.map D.int) i = some (.int z) ∧ 0 ≤ z ∧ z < 1009 := by
  obtain ⟨j, rfl⟩ := Int.eq_ofNat_of_zero_le h0
  have hj : j < xs.length := by omega
  refine ⟨xs[j], ?_, (h.rng _ (List.getElem_mem hj)).1, (h.rng _ (List.getElem_mem hj)).2⟩
  unfold atI ixN
  rw [if_pos (by omega), if_pos (by rw [List.length_map]; omega)]
  simp [hj]
theorem p__law_next : ∀ ds S Q E, sp__law_next ad ds S Q E → r__law_next ad (endsF Q E) (startD N__law_next ds) S := by
  rintro ds S Q E ⟨s, n, xs, k, many, rfl, h, hm, hk, q⟩
  have hl : 0 < xs.length := by
    have := h.ok.ne
    cases xs with
    | nil => exact absurd rfl this
    | cons => simp
  have hl2 := h.ok.len
  have hk0 := h.k0
  have f := fmod_pos (a := k + 1) (b := (xs.length : Int)) (by omega)
  obtain ⟨z, e, z0, z1⟩ := h.ok.get f.1 f.2
  have f2 : 0 ≤ (k + 1).fdiv xs.length ∧ (k + 1).fdiv xs.length ≤ k + 1 := by
    refine ⟨Int.fdiv_nonneg (by omega) (by omega), ?_⟩
    rw [Int.fdiv_eq_ediv_of_nonneg _ (by omega)]
    exact Int.ediv_le_self _ (by omega)
  simp only [r__law_next, sSeq, sNext_eq, sBreak_eq, sCont_eq, sDrop, sRet, sRetN, sIf, sSet, sPar, sAsg, sRaise, gN, gE, gC, gU, gS, qVar, qC, qBin, qTB, qChain, qNot, qAnd, qOr, bd_bl, qNotT, qAndT, qOrT, qTru, tru_non, tru_bl, tru_int, tru_str, tru_tup, tru_rol, tru_ref, qIf, qNil, qCons, qTup, qLst, qCB, cInt_i, cInt2_ii, cToInt_i, cToInt_b, cLen_s, cLen_t, cLen_r, cLen_l, cTuple_t, cTuple_r, cTuple_l, cList_t, cList_r, cList_l, qNeg, oI_ii, oAdd_ii, oSub, oMul, oDiv, oMod, oPow, oEq, oNe, oEqW_ii, oEqW_ss, oEqW_bb, oLt, oLe, oGt, oGe, oOrd_ii, oOrd_ss, oIx_t, oIx_r, oIx_l, oIx_s, qNo, qPart, qSl, oSl_t, oSl_r, oSl_l, oSl_s, qMeth, mAppend_1, iSeq, iRange1, iRange2, qCall, endsF, startD, List.map_cons, List.map_nil, List.length_cons, List.length_nil, List.length_map, List.cons_append, List.nil_append, List.replicate, List.getElem?_cons_zero, List.getElem?_cons_succ, List.set_cons_zero, List.set_cons_succ, Nat.reduceAdd, Nat.reduceSub, if_true, if_false, id, ups_same, ex_lst, ex_lst2, ex_some, atI_0, atI_1, atI_2, atI_3, ixN_0, ixN_1, ixN_21, oIx_p, h.st, ups_ne (Ne.symm h.ne), h.nm, e]
  refine ⟨CDivA.small (by omega) (by omega), by omega, CMul.ofL (by omega), CMul.ofL (by omega), CMul.ofR (by omega), by omega, stepS S s n (k + 1), Sub.refl _, ?_⟩
  exact q _ (fmod_pos hm).1 (fmod_pos hm).2
theorem p__law_great : ∀ ds S Q E, sp__law_great ad ds S Q E → r__law_great ad (endsF Q E) (startD N__law_great ds) S := by
  rintro ds S Q E ⟨s, n, xs, k, many, rfl, h, hm, hk, q⟩
  have hk0 := h.k0
  simp only [r__law_great, sp__law_next, sSeq, sNext_eq, sBreak_eq, sCont_eq, sDrop, sRet, sRetN, sIf, sSet, sPar, sAsg, sRaise, gN, gE, gC, gU, gS, qVar, qC, qBin, qTB, qChain, qNot, qAnd, qOr, bd_bl, qNotT, qAndT, qOrT, qTru, tru_non, tru_bl, tru_int, tru_str, tru_tup, tru_rol, tru_ref, qIf, qNil, qCons, qTup, qLst, qCB, cInt_i, cInt2_ii, cToInt_i, cToInt_b, cLen_s, cLen_t, cLen_r, cLen_l, cTuple_t, cTuple_r, cTuple_l, cList_t, cList_r, cList_l, qNeg, oI_ii, oAdd_ii, oSub, oMul, oDiv, oMod, oPow, oEq, oNe, oEqW_ii, oEqW_ss, oEqW_bb, oLt, oLe, oGt, oGe, oOrd_ii, oOrd_ss, oIx_t, oIx_r, oIx_l, oIx_s, qNo, qPart, qSl, oSl_t, oSl_r, oSl_l, oSl_s, qMeth, mAppend_1, iSeq, iRange1, iRange2, qCall, endsF, startD, List.map_cons, List.map_nil, List.length_cons, List.length_nil, List.length_map, List.cons_append, List.nil_append, List.replicate, List.getElem?_cons_zero, List.getElem?_cons_succ, List.set_cons_zero, List.set_cons_succ, Nat.reduceAdd, Nat.reduceSub, if_true, if_false, id, ups_same, ex_lst, ex_lst2, ex_some, atI_0, atI_1, atI_2, atI_3, ixN_0, ixN_1, ixN_21, oIx_p]
  refine ⟨s, n, xs, k, 1009, rfl, h, by omega, by omega, fun r h0 h1 => ⟨CMul.ofL (by omega), s, n, xs, k + 1, 1009, rfl, h.next (by omega), by omega, by omega, fun r' h0' h1' => ⟨by omega, _, Sub.refl _, ?_⟩⟩⟩
  rw [stepS_stepS, show k + 1 + 1 = k + 2 by omega]
  exact q _ (fmod_pos hm).1 (fmod_pos hm).2
theorem Strm.fresh {S : Sto} {s n p : Addr} {xs : List Int} {k : Int} (h : Strm S s n xs k) (hp : S p = none) {o : O} : Strm (ups S p o) s n xs k := h.sub ((Sub.refl S).new hp)
/-- of four numbers one -/
theorem at4 {a b c d : D} {r : Int} (h0 : 0 ≤ r) (h1 : r < 4) : ∃ x, atI [a, b, c, d] r = some x ∧ (x = a ∨ x = b ∨ x = c ∨ x = d) := by
  obtain ⟨j, rfl⟩ := Int.eq_ofNat_of_zero_le h0
  match j, h1 with
  | 0, _ => exact ⟨a, rfl, .inl rfl⟩
  | 1, _ => exact ⟨b, rfl, .inr (.inl rfl)⟩
  | 2, _ => exact ⟨c, rfl, .inr (.inr (.inl rfl))⟩
  | 3, _ => exact ⟨d, rfl, .inr (.inr (.inr rfl))⟩
  | n + 4, h => exact absurd h (by omega)
theorem at2 {a b : D} {r : Int} (h0 : 0 ≤ r) (h1 : r < 2) : ∃ x, atI [a, b] r = some x ∧ (x = a ∨ x = b) := by
  obtain ⟨j, rfl⟩ := Int.eq_ofNat_of_zero_le h0
  match j, h1 with
  | 0, _ => exact ⟨a, rfl, .inl rfl⟩
  | 1, _ => exact ⟨b, rfl, .inr rfl⟩
  | n + 2, h => exact absurd h (by omega)
theorem stepS_ne {S : Sto} {s n p : Addr} {k : Int} (h : p ≠ s) : stepS S s n k p = S p := ups_ne h
theorem Strm.ne_s {S : Sto} {s n p : Addr} {xs : List Int} {k : Int} (h : Strm S s n xs k) (hp : S p = none) : p ≠ s := Ne.symm (sto_ne h.st hp)
def Rg (zs : List Int) : Prop := ∀ x ∈ zs, 0 ≤ x ∧ x < 1009
theorem Rg.snoc {zs : List Int} (h : Rg zs) {z : Int} (hz : 0 ≤ z ∧ z < 1009) : Rg (zs ++ [z]) := fun x hx => by
  rcases List.mem_append.mp hx with h' | h'
  · exact h x h'
  · obtain rfl : x = z := by simpa using h'
    exact hz
theorem rangeD_get {lo : Int} {n i : Nat} {d : D} (h : (rangeD lo n)[i]? = some d) : i < n ∧ d = .int (lo + i) := by
  unfold rangeD at h
  rw [List.getElem?_map] at h
  by_cases hi : i < n
  · rw [List.getElem?_range hi] at h
    exact ⟨hi, (Option.some.inj h).symm⟩
  · rw [List.getElem?_eq_none (by simpa using hi)] at h
    cases h
theorem rangeD_len {lo : Int} {n : Nat} : (rangeD lo n).length = n := by simp [rangeD]
theorem map_snoc {zs : List Int} {z : Int} : zs.map D.int ++ [D.int z] = (zs ++ [z]).map D.int := by simp
theorem szBig {n : Nat} (h : n < 16000000) : n < sizeLine := by
  have e : sizeLine = 16777216 := by decide
  omega
theorem loop1 {P : QN} {T : Sto} {p : Addr} {x0 x2 x4 x5 : Option D} {zs : List Int} {rest : Int} (hz : Rg zs) (hl : zs.length ≤ 10000)
    (hn : ∀ (zs' : List Int) (y3 y4 : Option D), Rg zs' → zs'.length ≤ zs.length + 60 → P.nx [x0, some (.ref p), x2, y3, y4, x5] (ups T p (.lst (zs'.map D.int)))) :
    sFor (iRange1 (qCons (qC (.int 60)) qNil)) (gN 4) (r__law_stream_b1 ad) P [x0, some (.ref p), x2, some (.int rest), x4, x5] (ups T p (.lst (zs.map D.int))) := by
  unfold sFor
  simp only [sSeq, sNext_eq, sBreak_eq, sCont_eq, sDrop, sRet, sRetN, sIf, sSet, sPar, sAsg, sRaise, gN, gE, gC, gU, gS, qVar, qC, qBin, qTB, qChain, qNot, qAnd, qOr, bd_bl, qNotT, qAndT, qOrT, qTru, tru_non, tru_bl, tru_int, tru_str, tru_tup, tru_rol, tru_ref, qIf, qNil, qCons, qTup, qLst, qCB, cInt_i, cInt2_ii, cToInt_i, cToInt_b, cLen_s, cLen_t, cLen_r, cLen_l, cTuple_t, cTuple_r, cTuple_l, cList_t, cList_r, cList_l, qNeg, oI_ii, oAdd_ii, oSub, oMul, oDiv, oMod, oPow, oEq, oNe, oEqW_ii, oEqW_ss, oEqW_bb, oLt, oLe, oGt, oGe, oOrd_ii, oOrd_ss, oIx_t, oIx_r, oIx_l, oIx_s, qNo, qPart, qSl, oSl_t, oSl_r, oSl_l, oSl_s, qMeth, mAppend_1, iSeq, iRange1, iRange2, qCall, endsF, startD, List.map_cons, List.map_nil, List.length_cons, List.length_nil, List.length_map, List.cons_append, List.nil_append, List.replicate, List.getElem?_cons_zero, List.getElem?_cons_succ, List.set_cons_zero, List.set_cons_succ, Nat.reduceAdd, Nat.reduceSub, if_true, if_false, id, ups_same, ex_lst, ex_lst2, ex_some, atI_0, atI_1, atI_2, atI_3, ixN_0, ixN_1, ixN_21, oIx_p]
  refine ⟨by decide, by decide, fun i loc S => ∃ (zs' : List Int) (r : Int) (y4 : Option D), loc = [x0, some (.ref p), x2, some (.int r), y4, x5] ∧ S = ups T p (.lst (zs'.map D.int)) ∧ Rg zs' ∧ zs'.length ≤ zs.length + i, ⟨zs, rest, x4, rfl, rfl, hz, by omega⟩, ?_, ?_⟩
  · rintro i d loc S hi ⟨zs', r, y4, rfl, rfl, hz', hl'⟩
    obtain ⟨hi1, rfl⟩ := rangeD_get hi
    have hi2 : i < 60 := hi1
    simp only [r__law_stream_b1, sSeq, sNext_eq, sBreak_eq, sCont_eq, sDrop, sRet, sRetN, sIf, sSet, sPar, sAsg, sRaise, gN, gE, gC, gU, gS, qVar, qC, qBin, qTB, qChain, qNot, qAnd, qOr, bd_bl, qNotT, qAndT, qOrT, qTru, tru_non, tru_bl, tru_int, tru_str, tru_tup, tru_rol, tru_ref, qIf, qNil, qCons, qTup, qLst, qCB, cInt_i, cInt2_ii, cToInt_i, cToInt_b, cLen_s, cLen_t, cLen_r, cLen_l, cTuple_t, cTuple_r, cTuple_l, cList_t, cList_r, cList_l, qNeg, oI_ii, oAdd_ii, oSub, oMul, oDiv, oMod, oPow, oEq, oNe, oEqW_ii, oEqW_ss, oEqW_bb, oLt, oLe, oGt, oGe, oOrd_ii, oOrd_ss, oIx_t, oIx_r, oIx_l, oIx_s, qNo, qPart, qSl, oSl_t, oSl_r, oSl_l, oSl_s, qMeth, mAppend_1, iSeq, iRange1, iRange2, qCall, endsF, startD, List.map_cons, List.map_nil, List.length_cons, List.length_nil, List.length_map, List.cons_append, List.nil_append, List.replicate, List.getElem?_cons_zero, List.getElem?_cons_succ, List.set_cons_zero, List.set_cons_succ, Nat.reduceAdd, Nat.reduceSub, if_true, if_false, id, ups_same, ex_lst, ex_lst2, ex_some, atI_0, atI_1, atI_2, atI_3, ixN_0, ixN_1, ixN_21, oIx_p, map_snoc, ups_ups]
    have h9 := fmod_pos (a := r) (b := 1009) (by decide)
    refine ⟨trivial, ⟨_, rfl⟩, by decide, szBig (by omega), CDivA.small (by decide) (by decide), ?_⟩
    split
    · exact hn _ _ _ (hz'.snoc h9) (by simp; omega)
    · exact ⟨_, _, _, rfl, rfl, hz'.snoc h9, by simp; omega⟩
  · rintro loc S ⟨zs', r, y4, rfl, rfl, hz', hl'⟩
    refine ⟨trivial, hn _ _ _ hz' ?_⟩
    have : (Src.vals (rangeD 0 (60 : Int).toNat)).items.length = 60 := rangeD_len
    omega
theorem loop2 {P : QN} {T : Sto} {p : Addr} {x0 x2 x3 x4 : Option D} {zs : List Int} {st : Int} (hz : Rg zs) (hl : zs.length ≤ 10000) (hs : 0 ≤ st ∧ st < 2147483647)
    (hn : ∀ (zs' : List Int) (y4 y5 : Option D), Rg zs' → zs'.length ≤ zs.length + 60 → P.nx [x0, some (.ref p), x2, x3, y4, y5] (ups T p (.lst (zs'.map D.int)))) :
    sFor (iRange1 (qCons (qC (.int 10)) qNil)) (gN 4) (r__law_stream_b2 ad) P [x0, some (.ref p), x2, x3, x4, some (.int st)] (ups T p (.lst (zs.map D.int))) := by
  unfold sFor
  simp only [sSeq, sNext_eq, sBreak_eq, sCont_eq, sDrop, sRet, sRetN, sIf, sSet, sPar, sAsg, sRaise, gN, gE, gC, gU, gS, qVar, qC, qBin, qTB, qChain, qNot, qAnd, qOr, bd_bl, qNotT, qAndT, qOrT, qTru, tru_non, tru_bl, tru_int, tru_str, tru_tup, tru_rol, tru_ref, qIf, qNil, qCons, qTup, qLst, qCB, cInt_i, cInt2_ii, cToInt_i, cToInt_b, cLen_s, cLen_t, cLen_r, cLen_l, cTuple_t, cTuple_r, cTuple_l, cList_t, cList_r, cList_l, qNeg, oI_ii, oAdd_ii, oSub, oMul, oDiv, oMod, oPow, oEq, oNe, oEqW_ii, oEqW_ss, oEqW_bb, oLt, oLe, oGt, oGe, oOrd_ii, oOrd_ss, oIx_t, oIx_r, oIx_l, oIx_s, qNo, qPart, qSl, oSl_t, oSl_r, oSl_l, oSl_s, qMeth, mAppend_1, iSeq, iRange1, iRange2, qCall, endsF, startD, List.map_cons, List.map_nil, List.length_cons, List.length_nil, List.length_map, List.cons_append, List.nil_append, List.replicate, List.getElem?_cons_zero, List.getElem?_cons_succ, List.set_cons_zero, List.set_cons_succ, Nat.reduceAdd, Nat.reduceSub, if_true, if_false, id, ups_same, ex_lst, ex_lst2, ex_some, atI_0, atI_1, atI_2, atI_3, ixN_0, ixN_1, ixN_21, oIx_p]
  refine ⟨by decide, by decide, fun i loc S => ∃ (zs' : List Int) (r : Int) (y4 : Option D), loc = [x0, some (.ref p), x2, x3, y4, some (.int r)] ∧ S = ups T p (.lst (zs'.map D.int)) ∧ Rg zs' ∧ zs'.length ≤ zs.length + i ∧ 0 ≤ r ∧ r < 2147483647, ⟨zs, st, x4, rfl, rfl, hz, by omega, hs⟩, ?_, ?_⟩
  · rintro i d loc S hi ⟨zs', r, y4, rfl, rfl, hz', hl', hr⟩
    obtain ⟨hi1, rfl⟩ := rangeD_get hi
    have hi2 : i < 10 := hi1
    simp only [r__law_stream_b2, sSeq, sNext_eq, sBreak_eq, sCont_eq, sDrop, sRet, sRetN, sIf, sSet, sPar, sAsg, sRaise, gN, gE, gC, gU, gS, qVar, qC, qBin, qTB, qChain, qNot, qAnd, qOr, bd_bl, qNotT, qAndT, qOrT, qTru, tru_non, tru_bl, tru_int, tru_str, tru_tup, tru_rol, tru_ref, qIf, qNil, qCons, qTup, qLst, qCB, cInt_i, cInt2_ii, cToInt_i, cToInt_b, cLen_s, cLen_t, cLen_r, cLen_l, cTuple_t, cTuple_r, cTuple_l, cList_t, cList_r, cList_l, qNeg, oI_ii, oAdd_ii, oSub, oMul, oDiv, oMod, oPow, oEq, oNe, oEqW_ii, oEqW_ss, oEqW_bb, oLt, oLe, oGt, oGe, oOrd_ii, oOrd_ss, oIx_t, oIx_r, oIx_l, oIx_s, qNo, qPart, qSl, oSl_t, oSl_r, oSl_l, oSl_s, qMeth, mAppend_1, iSeq, iRange1, iRange2, qCall, endsF, startD, List.map_cons, List.map_nil, List.length_cons, List.length_nil, List.length_map, List.cons_append, List.nil_append, List.replicate, List.getElem?_cons_zero, List.getElem?_cons_succ, List.set_cons_zero, List.set_cons_succ, Nat.reduceAdd, Nat.reduceSub, if_true, if_false, id, ups_same, ex_lst, ex_lst2, ex_some, atI_0, atI_1, atI_2, atI_3, ixN_0, ixN_1, ixN_21, oIx_p, map_snoc, ups_ups]
    have h8 := fmod_pos (a := r * 48271 + 7 * (0 + (i : Int)) + 11) (b := 2147483647) (by decide)
    have h9 := fun z : Int => fmod_pos (a := z) (b := 1009) (by decide)
    refine ⟨trivial, CMul.ofL (by omega), CMul.ofL (by omega), by decide, ⟨_, rfl⟩, CMul.ofL (by omega), by decide, by decide, szBig (by omega), ?_⟩
    exact ⟨_, _, _, rfl, rfl, hz'.snoc (h9 _), by simp; omega, h8⟩
  · rintro loc S ⟨zs', r, y4, rfl, rfl, hz', hl', hr⟩
    refine ⟨trivial, hn _ _ _ hz' ?_⟩
    have : (Src.vals (rangeD 0 (10 : Int).toNat)).items.length = 10 := rangeD_len
    omega
theorem ups_id {S : Sto} {a : Addr} {o : O} (h : S a = some o) : ups S a o = S := by
  funext b
  unfold ups
  split
  · rename_i e
    rw [e, h]
  · rfl
theorem cut_get {ns : List Int} {lo hi : Option Int} {i : Nat} {d : D} (h : (cutL (ns.map D.int) lo hi)[i]? = some d) : ∃ n, d = .int n := by
  have h1 := List.mem_of_getElem? h
  unfold cutL at h1
  obtain ⟨n, _, e⟩ := List.mem_map.mp (List.mem_of_mem_drop (List.mem_of_mem_take h1))
  exact ⟨n, e.symm⟩
theorem cut_len {α : Type} {xs : List α} {lo hi : Option Int} : (cutL xs lo hi).length ≤ xs.length := by
  unfold cutL
  have h1 := List.length_take_le (HT.sIx xs.length xs.length hi - HT.sIx xs.length 0 lo) (xs.drop (HT.sIx xs.length 0 lo))
  have h2 : (xs.drop (HT.sIx xs.length 0 lo)).length ≤ xs.length := by simp
  have h3 : ((xs.drop (HT.sIx xs.length 0 lo)).take (HT.sIx xs.length xs.length hi - HT.sIx xs.length 0 lo)).length ≤ (xs.drop (HT.sIx xs.length 0 lo)).length := by simp; omega
  omega
theorem p__law_stream : ∀ ds S Q E, sp__law_stream ad ds S Q E → r__law_stream ad (endsF Q E) (startD N__law_stream ds) S := by
  rintro ds S Q E ⟨ns, rfl, hl, q⟩
  simp only [r__law_stream, sSeq, sNext_eq, sBreak_eq, sCont_eq, sDrop, sRet, sRetN, sIf, sSet, sPar, sAsg, sRaise, gN, gE, gC, gU, gS, qVar, qC, qBin, qTB, qChain, qNot, qAnd, qOr, bd_bl, qNotT, qAndT, qOrT, qTru, tru_non, tru_bl, tru_int, tru_str, tru_tup, tru_rol, tru_ref, qIf, qNil, qCons, qTup, qLst, qCB, cInt_i, cInt2_ii, cToInt_i, cToInt_b, cLen_s, cLen_t, cLen_r, cLen_l, cTuple_t, cTuple_r, cTuple_l, cList_t, cList_r, cList_l, qNeg, oI_ii, oAdd_ii, oSub, oMul, oDiv, oMod, oPow, oEq, oNe, oEqW_ii, oEqW_ss, oEqW_bb, oLt, oLe, oGt, oGe, oOrd_ii, oOrd_ss, oIx_t, oIx_r, oIx_l, oIx_s, qNo, qPart, qSl, oSl_t, oSl_r, oSl_l, oSl_s, qMeth, mAppend_1, iSeq, iRange1, iRange2, qCall, endsF, startD, List.map_cons, List.map_nil, List.length_cons, List.length_nil, List.length_map, List.cons_append, List.nil_append, List.replicate, List.getElem?_cons_zero, List.getElem?_cons_succ, List.set_cons_zero, List.set_cons_succ, Nat.reduceAdd, Nat.reduceSub, if_true, if_false, id, ups_same, ex_lst, ex_lst2, ex_some, atI_0, atI_1, atI_2, atI_3, ixN_0, ixN_1, ixN_21, oIx_p]
  refine ⟨by decide, fun p hp => ?_⟩
  unfold sFor
  simp only [sSeq, sNext_eq, sBreak_eq, sCont_eq, sDrop, sRet, sRetN, sIf, sSet, sPar, sAsg, sRaise, gN, gE, gC, gU, gS, qVar, qC, qBin, qTB, qChain, qNot, qAnd, qOr, bd_bl, qNotT, qAndT, qOrT, qTru, tru_non, tru_bl, tru_int, tru_str, tru_tup, tru_rol, tru_ref, qIf, qNil, qCons, qTup, qLst, qCB, cInt_i, cInt2_ii, cToInt_i, cToInt_b, cLen_s, cLen_t, cLen_r, cLen_l, cTuple_t, cTuple_r, cTuple_l, cList_t, cList_r, cList_l, qNeg, oI_ii, oAdd_ii, oSub, oMul, oDiv, oMod, oPow, oEq, oNe, oEqW_ii, oEqW_ss, oEqW_bb, oLt, oLe, oGt, oGe, oOrd_ii, oOrd_ss, oIx_t, oIx_r, oIx_l, oIx_s, qNo, qPart, qSl, oSl_t, oSl_r, oSl_l, oSl_s, qMeth, mAppend_1, iSeq, iRange1, iRange2, qCall, endsF, startD, List.map_cons, List.map_nil, List.length_cons, List.length_nil, List.length_map, List.cons_append, List.nil_append, List.replicate, List.getElem?_cons_zero, List.getElem?_cons_succ, List.set_cons_zero, List.set_cons_succ, Nat.reduceAdd, Nat.reduceSub, if_true, if_false, id, ups_same, ex_lst, ex_lst2, ex_some, atI_0, atI_1, atI_2, atI_3, ixN_0, ixN_1, ixN_21, oIx_p]
  intro t ht
  have tp : t ≠ p := Ne.symm (sto_ne ups_same ht)
  have lenL : (cutL (ns.map D.int) none (some 63)).length ≤ 63 := Nat.le_trans cut_len (by simpa using hl)
  have e0 : ups (ups (ups S p (.lst [])) t (.lst (cutL (ns.map D.int) none (some 63)))) p (.lst (([] : List Int).map D.int)) = ups (ups S p (.lst [])) t (.lst (cutL (ns.map D.int) none (some 63))) := ups_id (by rw [ups_ne (Ne.symm tp)]; exact ups_same)
  refine ⟨fun i loc S' => ∃ (zs : List Int) (a b c d : Option D), loc = [some (.rol (ns.map D.int)), some (.ref p), a, b, c, d] ∧ S' = ups (ups (ups S p (.lst [])) t (.lst (cutL (ns.map D.int) none (some 63)))) p (.lst (zs.map D.int)) ∧ Rg zs ∧ zs.length ≤ 60 * i, ?_, ?_, ?_⟩
  · exact ⟨[], none, none, none, none, rfl, e0.symm, (fun _ z => by cases z), by simp⟩
  · rintro i d loc S' hi ⟨zs, a, b, c, d', rfl, rfl, hz, hzl⟩
    obtain ⟨cell, rfl⟩ := cut_get hi
    have hil : i < 63 := Nat.lt_of_lt_of_le (List.getElem?_eq_some_iff.mp hi).1 lenL
    refine ⟨by show ups _ _ _ t = _; rw [ups_ne tp]; exact ups_same, ?_⟩
    simp only [r__law_stream_b3, sSeq, sNext_eq, sBreak_eq, sCont_eq, sDrop, sRet, sRetN, sIf, sSet, sPar, sAsg, sRaise, gN, gE, gC, gU, gS, qVar, qC, qBin, qTB, qChain, qNot, qAnd, qOr, bd_bl, qNotT, qAndT, qOrT, qTru, tru_non, tru_bl, tru_int, tru_str, tru_tup, tru_rol, tru_ref, qIf, qNil, qCons, qTup, qLst, qCB, cInt_i, cInt2_ii, cToInt_i, cToInt_b, cLen_s, cLen_t, cLen_r, cLen_l, cTuple_t, cTuple_r, cTuple_l, cList_t, cList_r, cList_l, qNeg, oI_ii, oAdd_ii, oSub, oMul, oDiv, oMod, oPow, oEq, oNe, oEqW_ii, oEqW_ss, oEqW_bb, oLt, oLe, oGt, oGe, oOrd_ii, oOrd_ss, oIx_t, oIx_r, oIx_l, oIx_s, qNo, qPart, qSl, oSl_t, oSl_r, oSl_l, oSl_s, qMeth, mAppend_1, iSeq, iRange1, iRange2, qCall, endsF, startD, List.map_cons, List.map_nil, List.length_cons, List.length_nil, List.length_map, List.cons_append, List.nil_append, List.replicate, List.getElem?_cons_zero, List.getElem?_cons_succ, List.set_cons_zero, List.set_cons_succ, Nat.reduceAdd, Nat.reduceSub, if_true, if_false, id, ups_same, ex_lst, ex_lst2, ex_some, atI_0, atI_1, atI_2, atI_3, ixN_0, ixN_1, ixN_21, oIx_p]
    generalize (if cell < 0 then -cell else cell) = r
    refine ⟨by unfold CPow; omega, ?_⟩
    by_cases h : (10 : Int) ^ (18 : Int).toNat ≤ r
    · refine ifT (decide_eq_true h) (loop1 hz (by omega) ?_)
      intro zs' y3 y4 hz' hl'
      exact ⟨zs', _, _, _, _, rfl, rfl, hz', by omega⟩
    · refine ifF (decide_eq_false h) ⟨by decide, loop2 hz (by omega) (fmod_pos (by decide)) ?_⟩
      intro zs' y4 y5 hz' hl'
      exact ⟨zs', _, _, _, _, rfl, rfl, hz', by omega⟩
  · rintro loc S' ⟨zs, a, b, c, d', rfl, rfl, hz, hzl⟩
    have hl3 : zs.length ≤ 60 * 63 := Nat.le_trans hzl (Nat.mul_le_mul_left _ lenL)
    refine ⟨by show ups _ _ _ t = _; rw [ups_ne tp]; exact ups_same, ?_⟩
    have sub : ∀ zs : List Int, Sub S (ups (ups (ups S p (.lst [])) t (.lst (cutL (ns.map D.int) none (some 63)))) p (.lst (zs.map D.int))) := fun zs => (((Sub.refl S).new hp).new ht).at hp
    have oth : ∀ (zs : List Int) (b : Addr) (o : O), ups (ups (ups S p (.lst [])) t (.lst (cutL (ns.map D.int) none (some 63)))) p (.lst (zs.map D.int)) b = some o → b = p ∨ S b = some o ∨ ∃ ds, o = .lst ds := fun zs b o e => by
      by_cases h1 : b = p
      · exact .inl h1
      · rw [ups_ne h1] at e
        by_cases h2 : b = t
        · subst h2
          rw [ups_same] at e
          exact .inr (.inr ⟨_, (Option.some.inj e).symm⟩)
        · rw [ups_ne h2, ups_ne h1] at e
          exact .inr (.inl e)
    simp only [sSeq, sNext_eq, sBreak_eq, sCont_eq, sDrop, sRet, sRetN, sIf, sSet, sPar, sAsg, sRaise, gN, gE, gC, gU, gS, qVar, qC, qBin, qTB, qChain, qNot, qAnd, qOr, bd_bl, qNotT, qAndT, qOrT, qTru, tru_non, tru_bl, tru_int, tru_str, tru_tup, tru_rol, tru_ref, qIf, qNil, qCons, qTup, qLst, qCB, cInt_i, cInt2_ii, cToInt_i, cToInt_b, cLen_s, cLen_t, cLen_r, cLen_l, cTuple_t, cTuple_r, cTuple_l, cList_t, cList_r, cList_l, qNeg, oI_ii, oAdd_ii, oSub, oMul, oDiv, oMod, oPow, oEq, oNe, oEqW_ii, oEqW_ss, oEqW_bb, oLt, oLe, oGt, oGe, oOrd_ii, oOrd_ss, oIx_t, oIx_r, oIx_l, oIx_s, qNo, qPart, qSl, oSl_t, oSl_r, oSl_l, oSl_s, qMeth, mAppend_1, iSeq, iRange1, iRange2, qCall, endsF, startD, List.map_cons, List.map_nil, List.length_cons, List.length_nil, List.length_map, List.cons_append, List.nil_append, List.replicate, List.getElem?_cons_zero, List.getElem?_cons_succ, List.set_cons_zero, List.set_cons_succ, Nat.reduceAdd, Nat.reduceSub, if_true, if_false, id, ups_same, ex_lst, ex_lst2, ex_some, atI_0, atI_1, atI_2, atI_3, ixN_0, ixN_1, ixN_21, oIx_p]
    split
    · rename_i h0
      have hz0 : zs = [] := by
        cases zs with
        | nil => rfl
        | cons x r => simp at h0; omega
      subst hz0
      refine ⟨⟨_, rfl⟩, by decide, _, Sub.refl _, ?_⟩
      rw [ups_ups]
      exact q p [0] _ hp (sub [0]) (oth [0]) ups_same ⟨by simp, by simp, fun x hx => by
        obtain rfl : x = 0 := by simpa using hx
        omega⟩
    · rename_i h0
      refine ⟨_, Sub.refl _, q p zs _ hp (sub zs) (oth zs) ups_same ⟨fun z => ?_, by omega, hz⟩⟩
      subst z
      exact h0 rfl
def nmk (k : Nat) : Str := (["refused", "large", "missing", "paper", "form", "broken"] : List Str).getD k ""
theorem kinds_of (nd : ad.six.Nodup) {k : Nat} (hk : k < 6) : [D.bl (decide (ad.row k = ad.NotAllowed)), D.bl (decide (ad.row k = ad.TooLarge)), D.bl (decide (ad.row k = ad.Missing)), D.bl (decide (ad.row k = ad.BadPaper)), D.bl (decide (ad.row k = ad.BadForm)), D.bl (decide (ad.row k = ad.Broken))] = (List.range 6).map fun j => D.bl (decide (k = j)) := by
  have key : ∀ j, j < 6 → decide (ad.row k = ad.row j) = decide (k = j) := fun j hj => by
    have e : ∀ i, i < 6 → ∃ h : i < ad.six.length, ad.row i = ad.six[i] := fun i hi => ⟨hi, by
      have hi' : i < ad.six.length := hi
      unfold Ad.row
      rw [List.getD_eq_getElem?_getD, List.getElem?_eq_getElem hi']
      rfl⟩
    obtain ⟨h1, e1⟩ := e k hk
    obtain ⟨h2, e2⟩ := e j hj
    rw [e1, e2]
    have nd2 := List.pairwise_iff_getElem.mp nd
    refine decide_eq_decide.mpr ⟨fun z => ?_, fun z => by subst z; rfl⟩
    rcases Nat.lt_trichotomy k j with h | h | h
    · exact absurd z (nd2 k j h1 h2 h)
    · exact h
    · exact absurd z.symm (nd2 j k h2 h1 h)
  have h0 := key 0 (by decide)
  have h1 := key 1 (by decide)
  have h2 := key 2 (by decide)
  have h3 := key 3 (by decide)
  have h4 := key 4 (by decide)
  have h5 := key 5 (by decide)
  have e0 : ad.row 0 = ad.NotAllowed := rfl
  have e1 : ad.row 1 = ad.TooLarge := rfl
  have e2 : ad.row 2 = ad.Missing := rfl
  have e3 : ad.row 3 = ad.BadPaper := rfl
  have e4 : ad.row 4 = ad.BadForm := rfl
  have e5 : ad.row 5 = ad.Broken := rfl
  rw [e0] at h0
  rw [e1] at h1
  rw [e2] at h2
  rw [e3] at h3
  rw [e4] at h4
  rw [e5] at h5
  rw [h0, h1, h2, h3, h4, h5]
  rfl
theorem told_s (nd : ad.six.Nodup) {k : Nat} (hk : k < 6) {P : QN} {a : Addr} {S : Sto} {x0 x2 x3 x4 : Option D} (h : ∀ S', Sub S S' → P.rt (.tup [.str (nmk k)]) S') :
    r__law_told_s ad (ad.row k) a P [x0, some (.ref a), x2, x3, x4] S := by
  have m0 : ad.NotAllowed ∈ ad.six := by simp [Ad.six]
  have m1 : ad.TooLarge ∈ ad.six := by simp [Ad.six]
  have m2 : ad.Missing ∈ ad.six := by simp [Ad.six]
  have m3 : ad.BadPaper ∈ ad.six := by simp [Ad.six]
  have m4 : ad.BadForm ∈ ad.six := by simp [Ad.six]
  have m5 : ad.Broken ∈ ad.six := by simp [Ad.six]
  simp only [r__law_told_s, cIsK, sSeq, sNext_eq, sBreak_eq, sCont_eq, sDrop, sRet, sRetN, sIf, sSet, sPar, sAsg, sRaise, gN, gE, gC, gU, gS, qVar, qC, qBin, qTB, qChain, qNot, qAnd, qOr, bd_bl, qNotT, qAndT, qOrT, qTru, tru_non, tru_bl, tru_int, tru_str, tru_tup, tru_rol, tru_ref, qIf, qNil, qCons, qTup, qLst, qCB, cInt_i, cInt2_ii, cToInt_i, cToInt_b, cLen_s, cLen_t, cLen_r, cLen_l, cTuple_t, cTuple_r, cTuple_l, cList_t, cList_r, cList_l, qNeg, oI_ii, oAdd_ii, oSub, oMul, oDiv, oMod, oPow, oEq, oNe, oEqW_ii, oEqW_ss, oEqW_bb, oLt, oLe, oGt, oGe, oOrd_ii, oOrd_ss, oIx_t, oIx_r, oIx_l, oIx_s, qNo, qPart, qSl, oSl_t, oSl_r, oSl_l, oSl_s, qMeth, mAppend_1, iSeq, iRange1, iRange2, qCall, endsF, startD, List.map_cons, List.map_nil, List.length_cons, List.length_nil, List.length_map, List.cons_append, List.nil_append, List.replicate, List.getElem?_cons_zero, List.getElem?_cons_succ, List.set_cons_zero, List.set_cons_succ, Nat.reduceAdd, Nat.reduceSub, if_true, if_false, id, ups_same, ex_lst, ex_lst2, ex_some, atI_0, atI_1, atI_2, atI_3, ixN_0, ixN_1, ixN_21, oIx_p]
  refine ⟨_, m0, rfl, _, m1, rfl, _, m2, rfl, _, m3, rfl, _, m4, rfl, _, m5, rfl, by decide, fun q hq => ?_⟩
  rw [kinds_of nd hk]
  unfold qLc
  simp only [sSeq, sNext_eq, sBreak_eq, sCont_eq, sDrop, sRet, sRetN, sIf, sSet, sPar, sAsg, sRaise, gN, gE, gC, gU, gS, qVar, qC, qBin, qTB, qChain, qNot, qAnd, qOr, bd_bl, qNotT, qAndT, qOrT, qTru, tru_non, tru_bl, tru_int, tru_str, tru_tup, tru_rol, tru_ref, qIf, qNil, qCons, qTup, qLst, qCB, cInt_i, cInt2_ii, cToInt_i, cToInt_b, cLen_s, cLen_t, cLen_r, cLen_l, cTuple_t, cTuple_r, cTuple_l, cList_t, cList_r, cList_l, qNeg, oI_ii, oAdd_ii, oSub, oMul, oDiv, oMod, oPow, oEq, oNe, oEqW_ii, oEqW_ss, oEqW_bb, oLt, oLe, oGt, oGe, oOrd_ii, oOrd_ss, oIx_t, oIx_r, oIx_l, oIx_s, qNo, qPart, qSl, oSl_t, oSl_r, oSl_l, oSl_s, qMeth, mAppend_1, iSeq, iRange1, iRange2, qCall, endsF, startD, List.map_cons, List.map_nil, List.length_cons, List.length_nil, List.length_map, List.cons_append, List.nil_append, List.replicate, List.getElem?_cons_zero, List.getElem?_cons_succ, List.set_cons_zero, List.set_cons_succ, Nat.reduceAdd, Nat.reduceSub, if_true, if_false, id, ups_same, ex_lst, ex_lst2, ex_some, atI_0, atI_1, atI_2, atI_3, ixN_0, ixN_1, ixN_21, oIx_p, wipeD]
  refine ⟨by decide, by decide, fun p hp => ?_⟩
  have hpq : p ≠ q := Ne.symm (sto_ne ups_same hp)
  refine ⟨fun i acc S' => acc = (if k < i then [D.str (nmk k)] else []) ∧ Sub (ups S q (.lst ((List.range 6).map fun j => D.bl (decide (k = j))))) S' ∧ S' p = some (.lst acc), ⟨rfl, (Sub.refl _).new hp, ups_same⟩, ?_, ?_⟩
  · rintro i d acc S' hi ⟨rfl, sub, hacc⟩
    obtain ⟨hi1, rfl⟩ := rangeD_get hi
    have hi6 : i < 6 := hi1
    have e1 : S' q = some (.lst ((List.range 6).map fun j => D.bl (decide (k = j)))) := sub q _ ups_same
    have e2 : ((List.range 6).map fun j => D.bl (decide (k = j)))[i]? = some (D.bl (decide (k = i))) := by rw [List.getElem?_map, List.getElem?_range hi6]; rfl
    have e3 : [D.str "refused", D.str "large", D.str "missing", D.str "paper", D.str "form", D.str "broken"][i]? = some (D.str (nmk i)) := by
      match i, hi6 with
      | 0, _ => rfl
      | 1, _ => rfl
      | 2, _ => rfl
      | 3, _ => rfl
      | 4, _ => rfl
      | 5, _ => rfl
    simp only [sSeq, sNext_eq, sBreak_eq, sCont_eq, sDrop, sRet, sRetN, sIf, sSet, sPar, sAsg, sRaise, gN, gE, gC, gU, gS, qVar, qC, qBin, qTB, qChain, qNot, qAnd, qOr, bd_bl, qNotT, qAndT, qOrT, qTru, tru_non, tru_bl, tru_int, tru_str, tru_tup, tru_rol, tru_ref, qIf, qNil, qCons, qTup, qLst, qCB, cInt_i, cInt2_ii, cToInt_i, cToInt_b, cLen_s, cLen_t, cLen_r, cLen_l, cTuple_t, cTuple_r, cTuple_l, cList_t, cList_r, cList_l, qNeg, oI_ii, oAdd_ii, oSub, oMul, oDiv, oMod, oPow, oEq, oNe, oEqW_ii, oEqW_ss, oEqW_bb, oLt, oLe, oGt, oGe, oOrd_ii, oOrd_ss, oIx_t, oIx_r, oIx_l, oIx_s, qNo, qPart, qSl, oSl_t, oSl_r, oSl_l, oSl_s, qMeth, mAppend_1, iSeq, iRange1, iRange2, qCall, endsF, startD, List.map_cons, List.map_nil, List.length_cons, List.length_nil, List.length_map, List.cons_append, List.nil_append, List.replicate, List.getElem?_cons_zero, List.getElem?_cons_succ, List.set_cons_zero, List.set_cons_succ, Nat.reduceAdd, Nat.reduceSub, if_true, if_false, id, ups_same, ex_lst, ex_lst2, ex_some, atI_0, atI_1, atI_2, atI_3, ixN_0, ixN_1, ixN_21, oIx_p, Int.zero_add, e1, atI_lt, e2, e3]
    refine ⟨trivial, ?_⟩
    by_cases hki : k = i
    · refine ifT (decide_eq_true hki) ⟨by decide, fun p1 hp1 => ?_⟩
      have hpp : p ≠ p1 := sto_ne hacc hp1
      subst hki
      rw [if_neg (by omega), if_pos (by omega)]
      rw [if_neg (by omega)] at hacc
      exact ⟨by rw [ups_ne hpp]; exact hacc, szBig (by simp), rfl, (sub.new hp1).at hp, trivial⟩
    · refine ifF (decide_eq_false hki) ?_
      have e4 : (if k < i + 1 then [D.str (nmk k)] else []) = if k < i then [D.str (nmk k)] else [] := by
        by_cases h : k < i
        · rw [if_pos h, if_pos (by omega)]
        · rw [if_neg h, if_neg (by omega)]
      rw [e4]
      exact ⟨rfl, sub, hacc⟩
  · rintro acc S' ⟨hac, sub, hacc⟩
    have : (Src.vals (rangeD 0 (6 : Int).toNat)).items.length = 6 := rangeD_len
    rw [this, if_pos hk] at hac
    subst hac
    refine ⟨trivial, by decide, fun p1 hp1 => ?_⟩
    have hpp : p ≠ p1 := sto_ne hacc hp1
    have oAdd_ll : ∀ (i j : Addr) (S : Sto) (P : PD), oAdd (.ref i) (.ref j) S P = ∃ xs ys, S i = some (.lst xs) ∧ S j = some (.lst ys) ∧ xs.length + ys.length ≤ sizeLine ∧ ∀ p, S p = none → P (.ref p) (ups S p (.lst (xs ++ ys))) := fun _ _ _ _ => rfl
    rw [oAdd_ll]
    refine ⟨[D.str (nmk k)], _, by rw [ups_ne hpp]; exact hacc, ups_same, sz2, fun p2 hp2 => ?_⟩
    have hs1 : Sub S' (ups (ups S' p1 (.lst [D.str ""])) p2 (.lst ([D.str (nmk k)] ++ [D.str ""]))) := ((Sub.refl _).new hp1).new hp2
    simp only [sSeq, sNext_eq, sBreak_eq, sCont_eq, sDrop, sRet, sRetN, sIf, sSet, sPar, sAsg, sRaise, gN, gE, gC, gU, gS, qVar, qC, qBin, qTB, qChain, qNot, qAnd, qOr, bd_bl, qNotT, qAndT, qOrT, qTru, tru_non, tru_bl, tru_int, tru_str, tru_tup, tru_rol, tru_ref, qIf, qNil, qCons, qTup, qLst, qCB, cInt_i, cInt2_ii, cToInt_i, cToInt_b, cLen_s, cLen_t, cLen_r, cLen_l, cTuple_t, cTuple_r, cTuple_l, cList_t, cList_r, cList_l, qNeg, oI_ii, oAdd_ii, oSub, oMul, oDiv, oMod, oPow, oEq, oNe, oEqW_ii, oEqW_ss, oEqW_bb, oLt, oLe, oGt, oGe, oOrd_ii, oOrd_ss, oIx_t, oIx_r, oIx_l, oIx_s, qNo, qPart, qSl, oSl_t, oSl_r, oSl_l, oSl_s, qMeth, mAppend_1, iSeq, iRange1, iRange2, qCall, endsF, startD, List.map_cons, List.map_nil, List.length_cons, List.length_nil, List.length_map, List.cons_append, List.nil_append, List.replicate, List.getElem?_cons_zero, List.getElem?_cons_succ, List.set_cons_zero, List.set_cons_succ, Nat.reduceAdd, Nat.reduceSub, if_true, if_false, id, ups_same, ex_lst, ex_lst2, ex_some, atI_0, atI_1, atI_2, atI_3, ixN_0, ixN_1, ixN_21, oIx_p]
    refine ⟨by decide, fun p3 hp3 => ?_⟩
    have e5 : ups (ups (ups S' p1 (.lst [D.str ""])) p2 (.lst ([D.str (nmk k)] ++ [D.str ""]))) p3 (.lst [D.str "odd", D.str (nmk k)]) p = some (.lst [D.str (nmk k)]) := by
      rw [ups_ne (sto_ne (hs1 _ _ hacc) hp3)]
      exact hs1 _ _ hacc
    simp only [List.cons_append, List.nil_append] at e5
    simp only [sSeq, sNext_eq, sBreak_eq, sCont_eq, sDrop, sRet, sRetN, sIf, sSet, sPar, sAsg, sRaise, gN, gE, gC, gU, gS, qVar, qC, qBin, qTB, qChain, qNot, qAnd, qOr, bd_bl, qNotT, qAndT, qOrT, qTru, tru_non, tru_bl, tru_int, tru_str, tru_tup, tru_rol, tru_ref, qIf, qNil, qCons, qTup, qLst, qCB, cInt_i, cInt2_ii, cToInt_i, cToInt_b, cLen_s, cLen_t, cLen_r, cLen_l, cTuple_t, cTuple_r, cTuple_l, cList_t, cList_r, cList_l, qNeg, oI_ii, oAdd_ii, oSub, oMul, oDiv, oMod, oPow, oEq, oNe, oEqW_ii, oEqW_ss, oEqW_bb, oLt, oLe, oGt, oGe, oOrd_ii, oOrd_ss, oIx_t, oIx_r, oIx_l, oIx_s, qNo, qPart, qSl, oSl_t, oSl_r, oSl_l, oSl_s, qMeth, mAppend_1, iSeq, iRange1, iRange2, qCall, endsF, startD, List.map_cons, List.map_nil, List.length_cons, List.length_nil, List.length_map, List.cons_append, List.nil_append, List.replicate, List.getElem?_cons_zero, List.getElem?_cons_succ, List.set_cons_zero, List.set_cons_succ, Nat.reduceAdd, Nat.reduceSub, if_true, if_false, id, ups_same, ex_lst, ex_lst2, ex_some, atI_0, atI_1, atI_2, atI_3, ixN_0, ixN_1, ixN_21, oIx_p, e5]
    refine ⟨_, rfl, by decide, h _ ?_⟩
    exact ((Sub.refl S).new hq).trans (sub.trans (hs1.new hp3))
theorem TabOk.of {tb : List (Addr × Str)} {S S' : Sto} (t : TabOk tb S) (h : Sub S S') (h2 : ∀ b o, S' b = some o → S b = some o ∨ ∃ ds, o = .lst ds) : TabOk tb S' :=
  ⟨fun p hp => h _ _ (t.1 p hp), fun a q e => by
    rcases h2 _ _ e with z | ⟨ds, z⟩
    · exact t.2 a q z
    · cases z⟩
/-- what _law_told(lambda: ..) is -/
theorem told_ok (nd : ad.six.Nodup) {tb : List (Addr × Str)} {nm : Str} {loc : PL.Loc} {S : Sto} {P : PD} {E : PX} {q : QE} (tok : TabOk tb S)
    (h : ∀ (S1 : Sto) (P1 : PD) (E1 : PX), Sub S S1 → TabOk tb S1 → (∀ d S2, Sub S S2 → P (.tup [.str "told", d]) S → P1 d S2) → (∀ k S2, k < 6 → Sub S S2 → P (.tup [.str (nmk k)]) S → E1 { cls := ad.row k } S2) → q loc S1 P1 E1) :
    qLam tb N__law_told nm (r__law_told ad) q loc S P E := by
  refine ⟨tok, fun f c' S1 sub hc tok1 => ?_⟩
  unfold r__law_told sTry
  simp only [sSeq, sNext_eq, sBreak_eq, sCont_eq, sDrop, sRet, sRetN, sIf, sSet, sPar, sAsg, sRaise, gN, gE, gC, gU, gS, qVar, qC, qBin, qTB, qChain, qNot, qAnd, qOr, bd_bl, qNotT, qAndT, qOrT, qTru, tru_non, tru_bl, tru_int, tru_str, tru_tup, tru_rol, tru_ref, qIf, qNil, qCons, qTup, qLst, qCB, cInt_i, cInt2_ii, cToInt_i, cToInt_b, cLen_s, cLen_t, cLen_r, cLen_l, cTuple_t, cTuple_r, cTuple_l, cList_t, cList_r, cList_l, qNeg, oI_ii, oAdd_ii, oSub, oMul, oDiv, oMod, oPow, oEq, oNe, oEqW_ii, oEqW_ss, oEqW_bb, oLt, oLe, oGt, oGe, oOrd_ii, oOrd_ss, oIx_t, oIx_r, oIx_l, oIx_s, qNo, qPart, qSl, oSl_t, oSl_r, oSl_l, oSl_s, qMeth, mAppend_1, iSeq, iRange1, iRange2, qCall, endsF, startD, List.map_cons, List.map_nil, List.length_cons, List.length_nil, List.length_map, List.cons_append, List.nil_append, List.replicate, List.getElem?_cons_zero, List.getElem?_cons_succ, List.set_cons_zero, List.set_cons_succ, Nat.reduceAdd, Nat.reduceSub, if_true, if_false, id, ups_same, ex_lst, ex_lst2, ex_some, atI_0, atI_1, atI_2, atI_3, ixN_0, ixN_1, ixN_21, oIx_p, qAct]
  refine ⟨trivial, hc, h S1 _ _ sub tok1 (fun d S2 s2 hp => ⟨sz2, S, s2, hp⟩) fun k S2 hk s2 hp => ⟨rfl, ?_, fun a ha => ?_⟩⟩
  · unfold Ad.row
    rw [List.getD_eq_getElem?_getD, List.getElem?_eq_getElem (show k < ad.six.length from hk)]
    exact List.getElem_mem _
  · exact told_s nd hk fun S' s' => ⟨S, s2.trans s', hp⟩
/-! ## comprehensions over typed items -/
theorem get_emb {α : Type} {xs : List α} {emb : α → D} {i : Nat} {d : D} (h : (xs.map emb)[i]? = some d) : ∃ a, xs[i]? = some a ∧ d = emb a := by
  rw [List.getElem?_map] at h
  obtain ⟨a, h1, h2⟩ := Option.map_eq_some_iff.mp h
  exact ⟨a, h1, h2.symm⟩
theorem lc_filtT {α : Type} {it : QI} {g : QG} {tt : QT} {te : QE} {own : List Nat} {loc : PL.Loc} {S S1 : Sto} {P : PD} {E : PX} (src : Src) (xs : List α) (emb : α → D) (q : α → Bool) (h : α → D) (hit : ∀ Q : Src → Sto → Prop, Q src S1 → it loc S Q E) (hok : src_ok src S1) (hx : src.items = xs.map emb) (hl : xs.length ≤ 100000)
    (hb : ∀ a S' (C : Option D → Sto → Prop), a ∈ xs → Sub S1 S' → (∀ S2, Sub S' S2 → C (if q a = true then some (h a) else none) S2) → g (emb a) (wipeD loc own) S' (fun loc2 S2 => tt loc2 S2 (fun b S3 => if b = true then te loc2 S3 (fun y S4 => C (some y) S4) fun _ _ => False else C none S3) fun _ _ => False) fun _ _ => False)
    (hP : ∀ p S', S1 p = none → Sub S1 S' → S' p = some (.lst ((xs.filter q).map h)) → P (.ref p) S') : qLc it g tt te own loc S P E := by
  have e : src.items.length = xs.length := by rw [hx, List.length_map]
  refine lc_go src (fun i => xs[i]?.bind fun x => if q x = true then some (h x) else none) hit hok (by rw [e]; exact hl) (fun i d S' C hi sub hC => ?_) fun p S' hp sub e' => hP p S' hp sub (by rw [e', e, fm_filt])
  rw [hx] at hi
  obtain ⟨a, ha, rfl⟩ := get_emb hi
  exact hb a S' C (List.mem_of_getElem? ha) sub fun S2 s2 => hC _ S2 (by rw [ha]; rfl) s2
theorem lc_mapT {α : Type} {it : QI} {g : QG} {te : QE} {own : List Nat} {loc : PL.Loc} {S S1 : Sto} {P : PD} {E : PX} (src : Src) (xs : List α) (emb : α → D) (h : α → D) (hit : ∀ Q : Src → Sto → Prop, Q src S1 → it loc S Q E) (hok : src_ok src S1) (hx : src.items = xs.map emb) (hl : xs.length ≤ 100000)
    (hb : ∀ a S' (C : D → Sto → Prop), a ∈ xs → Sub S1 S' → (∀ S2, Sub S' S2 → C (h a) S2) → g (emb a) (wipeD loc own) S' (fun loc2 S2 => te loc2 S2 (fun y S4 => C y S4) fun _ _ => False) fun _ _ => False)
    (hP : ∀ p S', S1 p = none → Sub S1 S' → S' p = some (.lst (xs.map h)) → P (.ref p) S') : qLc it g qYes te own loc S P E := by
  have e : src.items.length = xs.length := by rw [hx, List.length_map]
  refine lc_go src (fun i => xs[i]?.map h) hit hok (by rw [e]; exact hl) (fun i d S' C hi sub hC => ?_) fun p S' hp sub e' => hP p S' hp sub (by rw [e', e, fm_map])
  rw [hx] at hi
  obtain ⟨a, ha, rfl⟩ := get_emb hi
  unfold qYes
  simp only [if_true]
  exact hb a S' (fun y S4 => C (some y) S4) (List.mem_of_getElem? ha) sub fun S2 s2 => hC _ S2 (by rw [ha]; rfl) s2
/-- bools, their list -/
theorem lc_boolsT {α : Type} {it : QI} {g : QG} {te : QE} {own : List Nat} {loc : PL.Loc} {S S1 : Sto} {P : PD} {E : PX} (src : Src) (xs : List α) (emb : α → D) (h : α → Bool) (hit : ∀ Q : Src → Sto → Prop, Q src S1 → it loc S Q E) (hok : src_ok src S1) (hx : src.items = xs.map emb) (hl : xs.length ≤ 100000)
    (hb : ∀ a S' (C : D → Sto → Prop), a ∈ xs → Sub S1 S' → (∀ S2, Sub S' S2 → C (.bl (h a)) S2) → g (emb a) (wipeD loc own) S' (fun loc2 S2 => te loc2 S2 (fun y S4 => C y S4) fun _ _ => False) fun _ _ => False)
    (hP : ∀ p S', S1 p = none → Sub S1 S' → LsAt S' (.ref p) ((xs.map h).map D.bl) → P (.ref p) S') : qLc it g qYes te own loc S P E := by
  refine lc_mapT src xs emb (fun a => .bl (h a)) hit hok hx hl hb fun p S' hp sub e => hP p S' hp sub (.inr ⟨p, rfl, ?_⟩)
  rw [e, List.map_map]
  rfl
theorem lc2_mapT {α β : Type} {it it1 : QI} {g g1 : QG} {te : QE} {own own1 : List Nat} {loc : PL.Loc} {S S1 : Sto} {P : PD} {E : PX} (xs : List α) (emb : α → D) (inn : α → List β) (emb1 : β → D) (h : β → Bool) (L2 : α → PL.Loc) (hit : ∀ Q : Src → Sto → Prop, Q (.vals (xs.map emb)) S1 → it loc S Q E) (hl : ∀ n, ((xs.take n).flatMap inn).length ≤ 100000)
    (hb : ∀ a S' (R : PL.Loc → Src → Sto → Prop), a ∈ xs → Sub S1 S' → R (L2 a) (.vals ((inn a).map emb1)) S' → g (emb a) (wipeD loc own) S' (fun loc2 S2 => it1 loc2 S2 (fun src1 S4 => R loc2 src1 S4) fun _ _ => False) fun _ _ => False)
    (hb1 : ∀ a x S' (C : D → Sto → Prop), a ∈ xs → x ∈ inn a → Sub S1 S' → (∀ S2, Sub S' S2 → C (.bl (h x)) S2) → g1 (emb1 x) (wipeD (L2 a) own1) S' (fun loc5 S5 => te loc5 S5 (fun y S6 => C y S6) fun _ _ => False) fun _ _ => False)
    (hP : ∀ p S', S1 p = none → Sub S1 S' → LsAt S' (.ref p) (((xs.flatMap inn).map h).map D.bl) → P (.ref p) S') : qLc2 it g qYes it1 g1 qYes te own own1 loc S P E := by
  unfold qLc2
  refine hit _ fun p hp => ⟨fun i acc S' => acc = ((xs.take i).flatMap inn).map (fun x => D.bl (h x)) ∧ Sub S1 S' ∧ S' p = some (.lst acc), ⟨by simp, (Sub.refl S1).new hp, ups_same⟩, ?_, ?_⟩
  · rintro i d acc S' hi ⟨rfl, sub, hacc⟩
    refine ⟨trivial, ?_⟩
    obtain ⟨a, hi0, rfl⟩ := get_emb (show (xs.map emb)[i]? = some d from hi)
    have hd : a ∈ xs := List.mem_of_getElem? hi0
    have et : (xs.take (i + 1)).flatMap inn = (xs.take i).flatMap inn ++ inn a := by
      rw [List.take_succ, hi0, List.flatMap_append]
      simp
    have hl1 := hl (i + 1)
    rw [et] at hl1
    simp only [qYes, if_true]
    refine hb a S' _ hd sub ?_
    refine ⟨fun j acc S'' => acc = ((xs.take i).flatMap inn).map (fun x => D.bl (h x)) ++ ((inn a).take j).map (fun x => D.bl (h x)) ∧ Sub S1 S'' ∧ S'' p = some (.lst acc), ⟨by simp, sub, hacc⟩, ?_, ?_⟩
    · rintro j d1 acc S2 hj ⟨rfl, sub2, hacc2⟩
      refine ⟨trivial, ?_⟩
      obtain ⟨x, hj0, rfl⟩ := get_emb (show ((inn a).map emb1)[j]? = some d1 from hj)
      refine hb1 a x S2 (fun y S7 => _) hd (List.mem_of_getElem? hj0) sub2 fun S7 s7 => ⟨s7 _ _ hacc2, ?_, ?_, (sub2.trans s7).at hp, ups_same⟩
      · refine szB ?_
        rw [List.length_append, List.length_map, List.length_map]
        rw [List.length_append] at hl1
        have h2 : ((inn a).take j).length ≤ (inn a).length := by rw [List.length_take]; omega
        omega
      · rw [List.take_succ, hj0, List.map_append, List.append_assoc]
        rfl
    · rintro acc S2 ⟨rfl, sub2, hacc2⟩
      refine ⟨trivial, ?_, sub2, hacc2⟩
      show _ ++ ((inn a).take ((inn a).map emb1).length).map _ = _
      rw [et, List.length_map, List.take_length, List.map_append]
  · rintro acc S' ⟨rfl, sub, hacc⟩
    refine ⟨trivial, hP p S' hp sub (.inr ⟨p, rfl, ?_⟩)⟩
    rw [hacc]
    show some (O.lst (((xs.take (xs.map emb).length).flatMap inn).map _)) = _
    rw [List.length_map, List.take_length, List.map_map]
    rfl
theorem rangeD_0 {n : Nat} : (Src.vals (rangeD 0 (n : Int).toNat)).items = (List.range n).map fun (i : Nat) => D.int i := by
  show rangeD 0 (n : Int).toNat = _
  unfold rangeD
  simp
/-! ## sets by their number -/
theorem step_len {K : Type} [DecidableEq K] : ∀ (ks acc : List K), (ks.foldl stepDed acc).length ≤ acc.length + ks.length
  | [], acc => by simp
  | k :: ks, acc => by
    rw [List.foldl_cons]
    have := step_len ks (stepDed acc k)
    have h2 : (stepDed acc k).length ≤ acc.length + 1 := by
      unfold stepDed
      split <;> simp
    rw [List.length_cons]
    omega
theorem step_nodup {K : Type} [DecidableEq K] : ∀ (ks acc : List K), acc.Nodup → ((ks.foldl stepDed acc).length = acc.length + ks.length ↔ (acc ++ ks).Nodup)
  | [], acc, h => by simp [h]
  | k :: ks, acc, h => by
    rw [List.foldl_cons]
    by_cases hk : k ∈ acc
    · have e : stepDed acc k = acc := by unfold stepDed; rw [if_pos hk]
      rw [e]
      have := step_len ks acc
      refine ⟨fun z => ?_, fun z => ?_⟩
      · rw [List.length_cons] at z
        omega
      · exact absurd rfl ((List.nodup_append.mp z).2.2 k hk k (List.mem_cons_self ..))
    · have e : stepDed acc k = acc ++ [k] := by unfold stepDed; rw [if_neg hk]
      rw [e]
      have n2 : (acc ++ [k]).Nodup := List.nodup_append.mpr ⟨h, by simp, fun a ha b hb z => by
        rw [List.mem_singleton.mp hb] at z
        exact hk (z ▸ ha)⟩
      have ih := step_nodup ks (acc ++ [k]) n2
      rw [List.append_assoc, List.length_append] at ih
      show _ ↔ (acc ++ ([k] ++ ks)).Nodup
      rw [← ih, List.length_cons, List.length_singleton]
      omega
theorem ded_lt {K : Type} [DecidableEq K] (ks : List K) : ((ded ks).length : Int) < ks.length ↔ ¬ ks.Nodup := by
  have h1 := step_len ks []
  have h2 := step_nodup ks [] List.nodup_nil
  rw [List.nil_append] at h2
  rw [← h2]
  unfold ded
  simp only [List.length_nil] at *
  omega
/-- a walk over numbers that looks for one with X, writes nothing -/
theorem search {P : QN} {S : Sto} {it : QI} {g : QG} {tb : QS} {loc : PL.Loc} (lo n : Nat) (hit : ∀ Q : Src → Sto → Prop, Q (.vals (rangeD (lo : Int) n)) S → it loc S Q fun x S1 => P.ex x loc S1) (L : PL.Loc → Prop) (hL : L loc) (X : Nat → Prop)
    (hb : ∀ (i : Nat) (loc' : PL.Loc) (S' : Sto) (P' : QN), i < n → L loc' → Sub S S' → (∀ j, j < i → ¬ X (lo + j)) → P'.rt = P.rt → (∀ loc2 S2, L loc2 → Sub S S2 → ¬ X (lo + i) → P'.nx loc2 S2) → g (.int ((lo + i : Nat) : Int)) loc' S' (fun l2 S2 => tb P' l2 S2) fun x S' => P.ex x loc' S')
    (hn : ∀ loc' S', L loc' → Sub S S' → (∀ j, j < n → ¬ X (lo + j)) → P.nx loc' S') : sFor it g tb P loc S := by
  unfold sFor
  refine hit _ ⟨fun i loc' S' => L loc' ∧ Sub S S' ∧ ∀ j, j < i → ¬ X (lo + j), ⟨hL, Sub.refl S, fun j h => absurd h (by omega)⟩, ?_, ?_⟩
  · rintro i d loc' S' hi ⟨h1, h2, h3⟩
    obtain ⟨hi1, rfl⟩ := rangeD_get (show (rangeD (lo : Int) n)[i]? = some d from hi)
    refine ⟨trivial, ?_⟩
    rw [show (lo : Int) + (i : Int) = ((lo + i : Nat) : Int) by omega]
    refine hb i loc' S' _ hi1 h1 h2 h3 rfl fun loc2 S2 a b e => ⟨a, b, fun j hj => ?_⟩
    by_cases hji : j = i
    · rw [hji]
      exact e
    · exact h3 j (by omega)
  · rintro loc' S' ⟨h1, h2, h3⟩
    have e : (Src.vals (rangeD (lo : Int) n)).items.length = n := rangeD_len
    rw [e] at h3
    exact ⟨trivial, hn loc' S' h1 h2 h3⟩
theorem lc_intro {it : QI} {g : QG} {tt : QT} {te : QE} {own : List Nat} {loc : PL.Loc} {S : Sto} {P : PD} {E : PX} (h : it loc S (fun src S1 => ∀ p, S1 p = none → ∃ V : Nat → List D → Sto → Prop, V 0 [] (ups S1 p (.lst [])) ∧
  (∀ i d acc S, src.items[i]? = some d → V i acc S → src.ok S ∧ g d (wipeD loc own) S (fun loc' S' => tt loc' S' (fun b S2 => if b = true then
    te loc' S2 (fun y S3 => S3 p = some (.lst acc) ∧ acc.length < sizeLine ∧ V (i + 1) (acc ++ [y]) (ups S3 p (.lst (acc ++ [y])))) fun _ _ => False else V (i + 1) acc S2) fun _ _ => False) fun _ _ => False) ∧
  ∀ acc S, V src.items.length acc S → src.ok S ∧ P (.ref p) S) E) : qLc it g tt te own loc S P E := h
/-- the stream at its place j, all else that stood before still stands -/
structure St (S0 S : Sto) (s n : Addr) (xs : List Int) (j : Int) : Prop where
  st : Strm S s n xs j
  at_ : Sub (stepS S0 s n j) S
  s0 : ∃ o, S0 s = some o
  n0 : ∃ o, S0 n = some o
section
variable {S0 S S' : Sto} {s n p : Addr} {xs : List Int} {j : Int} {o : O}
theorem St.start (h : Strm S s n xs j) : St S S s n xs j := ⟨h, by unfold stepS; rw [ups_id h.st]; exact Sub.refl S, ⟨_, h.st⟩, ⟨_, h.nm⟩⟩
theorem St.step (h : St S0 S s n xs j) {i : Int} (hi : 0 ≤ i) : St S0 (stepS S s n i) s n xs i := ⟨h.st.next hi, by
  have := stepS_sub (s := s) (n := n) (k := i) h.at_
  rw [stepS_stepS] at this
  exact this, h.s0, h.n0⟩
theorem St.sub (h : St S0 S s n xs j) (b : Sub S S') : St S0 S' s n xs j := ⟨h.st.sub b, h.at_.trans b, h.s0, h.n0⟩
theorem St.new (h : St S0 S s n xs j) (hp : S p = none) : St S0 (ups S p o) s n xs j := h.sub ((Sub.refl S).new hp)
theorem St.ns (h : St S0 S s n xs j) (hp : S0 p = none) : p ≠ s := by
  obtain ⟨o, e⟩ := h.s0
  exact Ne.symm (sto_ne e hp)
theorem St.nn (h : St S0 S s n xs j) (hp : S0 p = none) : p ≠ n := by
  obtain ⟨o, e⟩ := h.n0
  exact Ne.symm (sto_ne e hp)
theorem St.set (h : St S0 S s n xs j) (hp : S0 p = none) : St S0 (ups S p o) s n xs j := by
  have h1 := h.ns hp
  have h2 := h.nn hp
  refine ⟨⟨by rw [ups_ne (Ne.symm h1)]; exact h.st.st, by rw [ups_ne (Ne.symm h2)]; exact h.st.nm, h.st.ne, h.st.ok, h.st.k0⟩, h.at_.at ?_, h.s0, h.n0⟩
  rw [stepS_ne h1]
  exact hp
end
theorem erase_map {α β : Type} {f : α → β} : ∀ (l : List α) (i : Nat), (l.map f).eraseIdx i = (l.eraseIdx i).map f
  | [], _ => rfl
  | _ :: _, 0 => rfl
  | x :: l, i + 1 => by
    show f x :: (l.map f).eraseIdx i = f x :: (l.eraseIdx i).map f
    rw [erase_map l i]
theorem get_erase_perm {α : Type} : ∀ (l : List α) (i : Nat) (x : α), l[i]? = some x → (x :: l.eraseIdx i).Perm l
  | [], _, _, h => by cases h
  | y :: l, 0, x, h => by
    obtain rfl := Option.some.inj h
    exact List.Perm.refl _
  | y :: l, i + 1, x, h => by
    have ih := get_erase_perm l i x h
    show (x :: y :: l.eraseIdx i).Perm (y :: l)
    exact (List.Perm.swap y x _).trans (ih.cons y)
theorem for_intro {it : QI} {g : QG} {tb : QS} {P : QN} {loc : PL.Loc} {S : Sto} (h : it loc S (fun src S1 => ∃ V : Nat → PL.Loc → Sto → Prop, V 0 loc S1 ∧
  (∀ i d loc S, src.items[i]? = some d → V i loc S → src.ok S ∧ g d loc S (fun loc' S' => tb { P with nx := V (i + 1), ct := V (i + 1), bk := P.nx } loc' S') fun x S' => P.ex x loc S') ∧
  ∀ loc S, V src.items.length loc S → src.ok S ∧ P.nx loc S) fun x S1 => P.ex x loc S1) : sFor it g tb P loc S := h
theorem at3 {a b c : D} {r : Int} (h0 : 0 ≤ r) (h1 : r < 3) : ∃ x, atI [a, b, c] r = some x ∧ (x = a ∨ x = b ∨ x = c) := by
  obtain ⟨j, rfl⟩ := Int.eq_ofNat_of_zero_le h0
  match j, h1 with
  | 0, _ => exact ⟨a, rfl, .inl rfl⟩
  | 1, _ => exact ⟨b, rfl, .inr (.inl rfl)⟩
  | 2, _ => exact ⟨c, rfl, .inr (.inr rfl)⟩
  | n + 3, h => exact absurd h (by omega)
/-- a comparison that holds -/
theorem check_ok {tb : List (Addr × Str)} {P : QN} {loc : PL.Loc} {S : Sto} {told due : QE} {a b : D} {p : PyData} (ht : ∀ (Q : PD) (E : PX), Q a S → told loc S Q E) (hd : ∀ (Q : PD) (E : PX), (∀ S', Sub S S' → TabOk tb S' → Q b S') → due loc S Q E)
    (da : Dat S a p) (db : Dat S b p) (hg : good (.list [p])) (hn : ∀ S', Sub S S' → TabOk tb S' → P.nx loc S') :
    sIf (qNotT (qTru (qCall (sp__law_same ad) (qCons told (qCons due qNil))))) (sRet (qC (.bl false))) sNext P loc S := by
  simp only [sp__law_same, sSeq, sNext_eq, sBreak_eq, sCont_eq, sDrop, sRet, sRetN, sIf, sSet, sPar, sAsg, sRaise, gN, gE, gC, gU, gS, qVar, qC, qBin, qTB, qChain, qNot, qAnd, qOr, bd_bl, qNotT, qAndT, qOrT, qTru, tru_non, tru_bl, tru_int, tru_str, tru_tup, tru_rol, tru_ref, qIf, qNil, qCons, qTup, qLst, qCB, cInt_i, cInt2_ii, cToInt_i, cToInt_b, cLen_s, cLen_t, cLen_r, cLen_l, cTuple_t, cTuple_r, cTuple_l, cList_t, cList_r, cList_l, qNeg, oI_ii, oAdd_ii, oSub, oMul, oDiv, oMod, oPow, oEq, oNe, oEqW_ii, oEqW_ss, oEqW_bb, oLt, oLe, oGt, oGe, oOrd_ii, oOrd_ss, oIx_t, oIx_r, oIx_l, oIx_s, qNo, qPart, qSl, oSl_t, oSl_r, oSl_l, oSl_s, qMeth, mAppend_1, iSeq, iRange1, iRange2, qCall, endsF, startD, List.map_cons, List.map_nil, List.length_cons, List.length_nil, List.length_map, List.cons_append, List.nil_append, List.replicate, List.getElem?_cons_zero, List.getElem?_cons_succ, List.set_cons_zero, List.set_cons_succ, Nat.reduceAdd, Nat.reduceSub, if_true, if_false, id, ups_same, ex_lst, ex_lst2, ex_some, atI_0, atI_1, atI_2, atI_3, ixN_0, ixN_1, ixN_21, oIx_p]
  refine ht _ _ (hd _ _ fun S' s' t' => ⟨a, b, p, rfl, Dat.sub s' _ _ da, Dat.sub s' _ _ db, hg, ?_⟩)
  exact hn S' s' t'
structure Inv (tb : List (Addr × Str)) (s n : Addr) (xs : List Int) (k : Int) (S : Sto) : Prop where
  st : Strm S s n xs k
  tok : TabOk tb S
theorem Inv.sub {tb : List (Addr × Str)} {s n : Addr} {xs : List Int} {k : Int} {S S' : Sto} (h : Inv tb s n xs k S) (b : Sub S S') (t : TabOk tb S') : Inv tb s n xs k S' := ⟨h.st.sub b, t⟩
theorem Inv.fresh {tb : List (Addr × Str)} {s n p : Addr} {xs : List Int} {k : Int} {S : Sto} {ds : List D} (h : Inv tb s n xs k S) (hp : S p = none) : Inv tb s n xs k (ups S p (.lst ds)) := ⟨h.st.fresh hp, h.tok.new hp⟩
theorem Inv.step {tb : List (Addr × Str)} {s n : Addr} {xs : List Int} {k j : Int} {S : Sto} (h : Inv tb s n xs k S) (hj : 0 ≤ j) : Inv tb s n xs j (stepS S s n j) := ⟨h.st.next hj, h.tok.set h.st.st⟩
def blP (b : Bool) : PyData := .tuple [.str "told", .bool b]
theorem dat_bl (S : Sto) (b : Bool) : Dat S (.tup [.str "told", .bl b]) (blP b) := Dat.pure (.tup [.str "told", .bl b]) rfl
theorem good_bl (b : Bool) : good (.list [blP b]) := by
  refine good_of ?_ ?_ ?_
  · have e : (("told" : Str).cps.toList.all fun c => decide (c < 16 ^ 8)) = true := by decide +kernel
    simp only [blP, fine, fines, e, Bool.and_true]
  · have e : ("told" : Str).length = 4 := by decide +kernel
    simp only [blP, sz, szs, e]
    omega
  · show 2 ≤ 60
    decide
def oneP (x : Str) : PyData := .tuple [.str x]
theorem dat_one (S : Sto) (x : Str) : Dat S (.tup [.str x]) (oneP x) := Dat.pure (.tup [.str x]) rfl
theorem good_one {x : Str} (hx : (x.cps.toList.all fun c => decide (c < 16 ^ 8)) = true) (hl : x.length ≤ 100) : good (.list [oneP x]) := by
  refine good_of ?_ ?_ ?_
  · simp only [oneP, fine, fines, hx, Bool.and_true]
  · simp only [oneP, sz, szs]
    omega
  · show 2 ≤ 60
    decide
theorem ne_ref {S : Sto} {P : PD} (h : P (.bl false) S) : oEqW not (.tup [.str "refused"]) (.tup [.str "refused"]) S P := by
  refine ⟨oneP "refused", oneP "refused", dat_one S _, dat_one S _, by decide +kernel, by decide +kernel, ?_⟩
  have e : PyData.eqv (oneP "refused") (oneP "refused") = true := by decide +kernel
  rw [e]
  exact h
section
variable {tb : List (Addr × Str)} {s n : Addr} {xs : List Int} {k : Int} {S : Sto}
theorem Inv.setL {p : Addr} {us ds : List D} (I : Inv tb s n xs k S) (h1 : p ≠ s) (h2 : p ≠ n) (e : S p = some (.lst us)) : Inv tb s n xs k (ups S p (.lst ds)) :=
  ⟨⟨by rw [ups_ne (Ne.symm h1)]; exact I.st.st, by rw [ups_ne (Ne.symm h2)]; exact I.st.nm, I.st.ne, I.st.ok, I.st.k0⟩, I.tok.set e⟩
end
theorem p__law_same : ∀ ds S Q E, sp__law_same ad ds S Q E → r__law_same ad (endsF Q E) (startD N__law_same ds) S := by
  rintro ds S Q E ⟨a, b, p, rfl, ha, hb, hg, q⟩
  simp only [r__law_same, cRepr, sSeq, sNext_eq, sBreak_eq, sCont_eq, sDrop, sRet, sRetN, sIf, sSet, sPar, sAsg, sRaise, gN, gE, gC, gU, gS, qVar, qC, qBin, qTB, qChain, qNot, qAnd, qOr, bd_bl, qNotT, qAndT, qOrT, qTru, tru_non, tru_bl, tru_int, tru_str, tru_tup, tru_rol, tru_ref, qIf, qNil, qCons, qTup, qLst, qCB, cInt_i, cInt2_ii, cToInt_i, cToInt_b, cLen_s, cLen_t, cLen_r, cLen_l, cTuple_t, cTuple_r, cTuple_l, cList_t, cList_r, cList_l, qNeg, oI_ii, oAdd_ii, oSub, oMul, oDiv, oMod, oPow, oEq, oNe, oEqW_ii, oEqW_ss, oEqW_bb, oLt, oLe, oGt, oGe, oOrd_ii, oOrd_ss, oIx_t, oIx_r, oIx_l, oIx_s, qNo, qPart, qSl, oSl_t, oSl_r, oSl_l, oSl_s, qMeth, mAppend_1, iSeq, iRange1, iRange2, qCall, endsF, startD, List.map_cons, List.map_nil, List.length_cons, List.length_nil, List.length_map, List.cons_append, List.nil_append, List.replicate, List.getElem?_cons_zero, List.getElem?_cons_succ, List.set_cons_zero, List.set_cons_succ, Nat.reduceAdd, Nat.reduceSub, if_true, if_false, id, ups_same, ex_lst, ex_lst2, ex_some, atI_0, atI_1, atI_2, atI_3, ixN_0, ixN_1, ixN_21, oIx_p]
  refine ⟨sz1, fun x hx => ⟨_, .list [p], rfl, ⟨x, rfl⟩, ?_, hg, ?_⟩⟩
  · exact .lst ups_same (.cons (Dat.sub (fun c o h => (Sub.refl S).new hx c o h) _ _ ha) .nil)
  · refine ⟨sz1, fun y hy => ⟨_, .list [p], rfl, ⟨y, rfl⟩, ?_, hg, ?_⟩⟩
    · exact .lst ups_same (.cons (Dat.sub (((Sub.refl S).new hx).new hy) _ _ hb) .nil)
    · refine ⟨S, ((Sub.refl S).new hx).new hy, ?_⟩
      rw [decide_eq_true rfl]
      exact q
end PL

namespace PL
open PySem PySem.Spec PyProof.Rows L2 -- the layers
/-! texts as lists of characters; checkers; what the program has about them -/
def tx (l : List Nat) : Str := ⟨l.toArray⟩
def allS : List Nat := [48, 49, 50, 51, 52, 53, 54, 55, 56, 57, 97, 98, 99, 100, 101, 102, 103, 104, 105, 106, 107, 108, 109, 110, 111, 112, 113, 114, 115, 116, 117, 118, 119, 120, 121, 122]
structure Sg (l : List Nat) : Prop where
  lo : 2 ≤ l.length
  hi : l.length ≤ 12
  all : ∀ c ∈ l, c ∈ allS
  asc : l.Pairwise (· < ·)
abbrev Tb := List (List Int)
def rD (r : List Int) : D := .tup (r.map D.int)
def tD (t : Tb) : D := .tup (t.map rD)
def chD (l : List Nat) (t : Tb) (e : List Int) : D := .tup [.str (tx l), tD t, .tup (e.map D.int)]
structure Ch (l : List Nat) (t : Tb) (e : List Int) : Prop where
  sg : Sg l
  pos : 1 ≤ t.length
  le : t.length ≤ 60
  len : e.length = t.length
  row : ∀ r ∈ t, r.length = l.length
  rng : ∀ r ∈ t, ∀ x ∈ r, 0 ≤ x ∧ x < (t.length : Int)
  bit : ∀ x ∈ e, x = 0 ∨ x = 1
structure Sz (l : List Nat) (t : Tb) (e : List Int) : Prop where
  sg : l.length ≤ 100
  mv : t.length ≤ 100
  row : ∀ r ∈ t, r.length ≤ 100
  en : e.length ≤ 100
def Nm (l x : List Nat) : Prop := x.length ≤ 200 ∧ ∀ c ∈ x, c ∈ l
def c (t : Tb) (i j : Nat) : Int := (t.getD i []).getD j 0
def idx (l : List Nat) (a : Nat) : Nat := l.findIdx fun x => x == a
def run (l : List Nat) (t : Tb) (s : Nat) (x : List Nat) : Nat := x.foldl (fun s a => (c t s (idx l a)).toNat) s
def Va (l : List Nat) (t : Tb) (e : List Int) (x : List Nat) : Prop := e.getD (run l t 0 x) 0 = 1
/-! ## promises -/
def sp_is_signs (ad : Ad) : QF := fun ds S P E => ∃ l : List Nat, ds = [.str (tx l)] ∧ l.length ≤ 1000 ∧ P (.bl (dB (Sg l))) S
def sp_is_number (ad : Ad) : QF := fun ds S P E => ∃ l x : List Nat, ds = [.str (tx l), .str (tx x)] ∧ l.length ≤ 1000 ∧ x.length ≤ 1000 ∧ P (.bl (dB (Nm l x))) S
def sp_check_checker (ad : Ad) : QF := fun ds S P E => ∃ l t e, ds = [chD l t e] ∧ Sz l t e ∧ (Ch l t e → P .non S) ∧ (¬ Ch l t e → E { cls := ad.NotAllowed } S)
def sp_check_number (ad : Ad) : QF := fun ds S P E => ∃ l t e x, ds = [chD l t e, .str (tx x)] ∧ Sz l t e ∧ x.length ≤ 1000 ∧ (Ch l t e → Nm l x → P .non S) ∧ (¬ (Ch l t e ∧ Nm l x) → E { cls := ad.NotAllowed } S)
def sp_led (ad : Ad) : QF := fun ds S P E => ∃ l t e x, ∃ s : Nat, ds = [chD l t e, .int s, .str (tx x)] ∧ Ch l t e ∧ x.length ≤ 1000 ∧ (∀ a ∈ x, a ∈ l) ∧ s < t.length ∧ P (.int (run l t s x : Nat)) S
def sp__law_led (ad : Ad) : QF := sp_led ad
def sp_is_valid (ad : Ad) : QF := fun ds S P E => ∃ l t e x, ds = [chD l t e, .str (tx x)] ∧ Sz l t e ∧ x.length ≤ 1000 ∧ (Ch l t e → Nm l x → P (.bl (dB (Va l t e x))) S) ∧ (¬ (Ch l t e ∧ Nm l x) → E { cls := ad.NotAllowed } S)
def sp__law_valid (ad : Ad) : QF := fun ds S P E => ∃ l t e x, ds = [chD l t e, .str (tx x)] ∧ Ch l t e ∧ x.length ≤ 1000 ∧ (∀ a ∈ x, a ∈ l) ∧ P (.bl (dB (Va l t e x))) S
def sp__law_text (ad : Ad) : QF := fun ds S P E => ∃ s n xs k l, ∃ m : Nat, ds = [.ref s, .str (tx l), .int m] ∧ Strm S s n xs k ∧ k < 500000000 ∧ 1 ≤ l.length ∧ l.length ≤ 1000 ∧ m ≤ 500 ∧ ∀ (x : List Nat) (j : Int), x.length = m → (∀ a ∈ x, a ∈ l) → k ≤ j → j ≤ k + m → P (.str (tx x)) (stepS S s n j)

/-! ## r is_signs -/
abbrev N_is_signs : List Str := ["signs", "one", "other", "sign"]
def r_is_signs (ad : Ad) : QS := (sSeq (sIf (qOrT (qNotT (qTB (qChain oLe oLe (qC (.int 2)) (qCB cLen (qCons (qVar 0) qNil)) (qC (.int 12))))) (qNotT (qTru (qCB (cBools fun bs => bs.all id) (qCons (qLc (iSeq (qVar 0)) (gN 3) qYes (qBin (oInX id) (qVar 3) (qC (.str "0123456789abcdefghijklmnopqrstuvwxyz"))) [3]) qNil))))) (sRet (qC (.bl false))) sNext)
    (sRet (qCB (cBools fun bs => bs.all id) (qCons (qLc (iZipQ (qCons (qVar 0) (qCons (qSl (qVar 0) (qPart (qC (.int 1))) qNo) qNil))) (gT 2 (gC (gN 1) (gC (gN 2) gE))) qYes (qBin oLt (qVar 1) (qVar 2)) [1, 2]) qNil))))
/-! end -/

/-! ## r is_number -/
abbrev N_is_number : List Str := ["signs", "text", "sign"]
def r_is_number (ad : Ad) : QS := (sRet (qAnd (qBin oLe (qCB cLen (qCons (qVar 1) qNil)) (qC (.int 200))) (qCB (cBools fun bs => bs.all id) (qCons (qLc (iSeq (qVar 1)) (gN 2) qYes (qBin (oInX id) (qVar 2) (qVar 0)) [2]) qNil))))
/-! end -/

/-! ## r check_checker -/
abbrev N_check_checker : List Str := ["checker", "row", "signs", "moves", "ends", "end", "after"]
def r_check_checker_b1 (ad : Ad) : QS := (sIf (qOrT (qTB (qBin oNe (qCB cLen (qCons (qVar 1) qNil)) (qCB cLen (qCons (qVar 2) qNil)))) (qNotT (qTru (qCB (cBools fun bs => bs.all id) (qCons (qLc (iSeq (qVar 1)) (gN 6) qYes (qChain oLe oLt (qC (.int 0)) (qVar 6) (qCB cLen (qCons (qVar 3) qNil))) [6]) qNil))))) (sRaise ad.NotAllowed) sNext)
def r_check_checker (ad : Ad) : QS := (sSeq (sAsg (qVar 0) (gU 3 (gC (gN 2) (gC (gN 3) (gC (gN 4) gE)))))
    (sSeq (sIf (qOrT (qNotT (qTru (qCall (sp_is_signs ad) (qCons (qVar 2) qNil)))) (qOrT (qNotT (qTB (qChain oLe oLe (qC (.int 1)) (qCB cLen (qCons (qVar 3) qNil)) (qC (.int 60))))) (qTB (qBin oNe (qCB cLen (qCons (qVar 4) qNil)) (qCB cLen (qCons (qVar 3) qNil)))))) (sRaise ad.NotAllowed) sNext)
    (sSeq (sFor (iSeq (qVar 3)) (gN 1) (r_check_checker_b1 ad))
    (sIf (qNotT (qTru (qCB (cBools fun bs => bs.all id) (qCons (qLc (iSeq (qVar 4)) (gN 5) qYes (qBin (oInX id) (qVar 5) (qTup (qCons (qC (.int 0)) (qCons (qC (.int 1)) qNil)))) [5]) qNil)))) (sRaise ad.NotAllowed) sNext))))
/-! end -/

/-! ## r check_number -/
abbrev N_check_number : List Str := ["checker", "text"]
def r_check_number (ad : Ad) : QS := (sSeq (sDrop (qCall (sp_check_checker ad) (qCons (qVar 0) qNil)))
    (sIf (qNotT (qTru (qCall (sp_is_number ad) (qCons (qBin oIx (qVar 0) (qC (.int 0))) (qCons (qVar 1) qNil))))) (sRaise ad.NotAllowed) sNext))
/-! end -/

/-! ## r led -/
abbrev N_led : List Str := ["checker", "state", "text", "sign"]
def r_led_b1 (ad : Ad) : QS := (sSet 1 (qBin oIx (qBin oIx (qBin oIx (qVar 0) (qC (.int 1))) (qVar 1)) (qMethS mIndexS (qBin oIx (qVar 0) (qC (.int 0))) (qCons (qVar 3) qNil))))
def r_led (ad : Ad) : QS := (sSeq (sFor (iSeq (qVar 2)) (gN 3) (r_led_b1 ad))
    (sRet (qVar 1)))
/-! end -/

/-! ## r is_valid -/
abbrev N_is_valid : List Str := ["checker", "text"]
def r_is_valid (ad : Ad) : QS := (sSeq (sDrop (qCall (sp_check_number ad) (qCons (qVar 0) (qCons (qVar 1) qNil))))
    (sRet (qBin oEq (qBin oIx (qBin oIx (qVar 0) (qC (.int 2))) (qCall (sp_led ad) (qCons (qVar 0) (qCons (qC (.int 0)) (qCons (qVar 1) qNil))))) (qC (.int 1)))))
/-! end -/

/-! ## r _law_led -/
abbrev N__law_led : List Str := ["checker", "at", "text", "sign"]
def r__law_led_b1 (ad : Ad) : QS := (sSet 1 (qBin oIx (qBin oIx (qBin oIx (qVar 0) (qC (.int 1))) (qVar 1)) (qMethS mIndexS (qBin oIx (qVar 0) (qC (.int 0))) (qCons (qVar 3) qNil))))
def r__law_led (ad : Ad) : QS := (sSeq (sFor (iSeq (qVar 2)) (gN 3) (r__law_led_b1 ad))
    (sRet (qVar 1)))
/-! end -/

/-! ## r _law_valid -/
abbrev N__law_valid : List Str := ["checker", "text"]
def r__law_valid (ad : Ad) : QS := (sRet (qBin oEq (qBin oIx (qBin oIx (qVar 0) (qC (.int 2))) (qCall (sp__law_led ad) (qCons (qVar 0) (qCons (qC (.int 0)) (qCons (qVar 1) qNil))))) (qC (.int 1))))
/-! end -/

/-! ## r _law_text -/
abbrev N__law_text : List Str := ["state", "signs", "many", "k"]
def r__law_text (ad : Ad) : QS := (sRet (qMethS mJoin (qC (.str "")) (qCons (qLc (iRange1 (qCons (qVar 2) qNil)) (gN 3) qYes (qBin oIx (qVar 1) (qCall (sp__law_next ad) (qCons (qVar 0) (qCons (qCB cLen (qCons (qVar 1) qNil)) qNil)))) [3]) qNil)))
/-! end -/

variable {ad : Ad}
section
def cD (a : Nat) : D := .str ⟨#[a]⟩
theorem tx_len {l : List Nat} : (tx l).length = l.length := by simp [tx, Str.length]
theorem tx_list {l : List Nat} : (tx l).cps.toList = l := by simp [tx]
theorem chars_tx {l : List Nat} : chars (tx l) = l.map cD := by
  unfold chars
  rw [tx_list]
  rfl
theorem allS_eq : ("0123456789abcdefghijklmnopqrstuvwxyz" : Str).cps.toList = allS := by decide +kernel
theorem cut1 {l : List Nat} : cutS (tx l) (some 1) none = tx (l.drop 1) := by
  unfold cutS
  rw [tx_list, tx_len]
  have e : HT.sIx l.length 0 (some 1) = min 1 l.length := HT.sIx_nat l.length 0 1
  rw [e, HT.sIx_none]
  unfold tx
  congr 2
  cases l with
  | nil => rfl
  | cons a r => simp
theorem asc_zip : ∀ l : List Nat, l.Pairwise (· < ·) ↔ ∀ p ∈ l.zip (l.drop 1), p.1 < p.2
  | [] => by simp
  | [a] => by simp
  | a :: b :: r => by
    have ih := asc_zip (b :: r)
    rw [List.pairwise_cons]
    constructor
    · rintro ⟨h1, h2⟩ p hp
      rcases List.mem_cons.mp hp with rfl | hp
      · exact h1 b (List.mem_cons_self ..)
      · exact ih.mp h2 p hp
    · intro h
      have h2 := ih.mpr fun p hp => h p (List.mem_cons_of_mem _ hp)
      have h1 : a < b := h (a, b) (List.mem_cons_self ..)
      refine ⟨fun x hx => ?_, h2⟩
      rcases List.mem_cons.mp hx with rfl | hx
      · exact h1
      · exact Nat.lt_trans h1 ((List.pairwise_cons.mp h2).1 x hx)
theorem lt1 {a b : Nat} : decide ([a] < [b]) = decide (a < b) := by
  refine decide_eq_decide.mpr ⟨fun h => ?_, fun h => List.cons_lt_cons_iff.mpr (.inl h)⟩
  rcases List.cons_lt_cons_iff.mp h with h | ⟨_, h⟩
  · exact h
  · exact absurd h (List.not_lt_nil _)
theorem sg_iff {l : List Nat} : Sg l ↔ 2 ≤ l.length ∧ l.length ≤ 12 ∧ (l.map fun a => decide (a ∈ allS)).all id = true ∧ ((l.zip (l.drop 1)).map fun p => decide (p.1 < p.2)).all id = true := by
  have k1 : (l.map fun a => decide (a ∈ allS)).all id = true ↔ ∀ a ∈ l, a ∈ allS := by
    rw [List.all_map, List.all_eq_true]
    exact ⟨fun h a ha => of_decide_eq_true (h a ha), fun h a ha => decide_eq_true (h a ha)⟩
  have k2 : ((l.zip (l.drop 1)).map fun p => decide (p.1 < p.2)).all id = true ↔ ∀ p ∈ l.zip (l.drop 1), p.1 < p.2 := by
    rw [List.all_map, List.all_eq_true]
    exact ⟨fun h a ha => of_decide_eq_true (h a ha), fun h a ha => decide_eq_true (h a ha)⟩
  rw [k1, k2, ← asc_zip]
  exact ⟨fun h => ⟨h.lo, h.hi, h.all, h.asc⟩, fun h => ⟨h.1, h.2.1, h.2.2.1, h.2.2.2⟩⟩
theorem dB_f {p : Prop} (h : ¬ p) : dB p = false := (dB_of ⟨fun z => (by cases z), fun z => absurd z h⟩).symm
theorem dB_t {p : Prop} (h : p) : dB p = true := dB_iff.mpr h
theorem p_is_signs : ∀ ds S Q E, sp_is_signs ad ds S Q E → r_is_signs ad (endsF Q E) (startD N_is_signs ds) S := by
  rintro ds S Q E ⟨l, rfl, hl, q⟩
  have no : ∀ {S'}, Sub S S' → ¬ Sg l → ∃ S2, Sub S2 S' ∧ Q (.bl false) S2 := fun s h => ⟨S, s, by rw [dB_f h] at q; exact q⟩
  simp only [r_is_signs, sSeq, sNext_eq, sBreak_eq, sCont_eq, sDrop, sRet, sRetN, sIf, sSet, sPar, sAsg, sRaise, gN, gE, gC, gU, gS, qVar, qC, qBin, qTB, qChain, qNot, qAnd, qOr, bd_bl, qNotT, qAndT, qOrT, qTru, tru_non, tru_bl, tru_int, tru_str, tru_tup, tru_rol, tru_ref, qIf, qNil, qCons, qTup, qLst, qCB, cInt_i, cInt2_ii, cToInt_i, cToInt_b, cLen_s, cLen_t, cLen_r, cLen_l, cTuple_t, cTuple_r, cTuple_l, cList_t, cList_r, cList_l, qNeg, oI_ii, oAdd_ii, oSub, oMul, oDiv, oMod, oPow, oEq, oNe, oEqW_ii, oEqW_ss, oEqW_bb, oLt, oLe, oGt, oGe, oOrd_ii, oOrd_ss, oIx_t, oIx_r, oIx_l, oIx_s, qNo, qPart, qSl, oSl_t, oSl_r, oSl_l, oSl_s, qMeth, mAppend_1, iSeq, iRange1, iRange2, qCall, endsF, startD, List.map_cons, List.map_nil, List.length_cons, List.length_nil, List.length_map, List.cons_append, List.nil_append, List.replicate, List.getElem?_cons_zero, List.getElem?_cons_succ, List.set_cons_zero, List.set_cons_succ, Nat.reduceAdd, Nat.reduceSub, if_true, if_false, id, ups_same, ex_lst, ex_lst2, ex_some, atI_0, atI_1, atI_2, atI_3, ixN_0, ixN_1, ixN_21, oIx_p, tx_len]
  refine ⟨szL (by omega), ?_⟩
  by_cases c1 : (2 : Int) ≤ l.length
  · rw [decide_eq_true c1]
    dsimp only
    by_cases c2 : (l.length : Int) ≤ 12
    · rw [decide_eq_true c2]
      refine ifF rfl ?_
      refine lc_boolsT (.vals (l.map cD)) l cD (fun a => decide (a ∈ allS)) (fun Q q => by simp only [sSeq, sNext_eq, sBreak_eq, sCont_eq, sDrop, sRet, sRetN, sIf, sSet, sPar, sAsg, sRaise, gN, gE, gC, gU, gS, qVar, qC, qBin, qTB, qChain, qNot, qAnd, qOr, bd_bl, qNotT, qAndT, qOrT, qTru, tru_non, tru_bl, tru_int, tru_str, tru_tup, tru_rol, tru_ref, qIf, qNil, qCons, qTup, qLst, qCB, cInt_i, cInt2_ii, cToInt_i, cToInt_b, cLen_s, cLen_t, cLen_r, cLen_l, cTuple_t, cTuple_r, cTuple_l, cList_t, cList_r, cList_l, qNeg, oI_ii, oAdd_ii, oSub, oMul, oDiv, oMod, oPow, oEq, oNe, oEqW_ii, oEqW_ss, oEqW_bb, oLt, oLe, oGt, oGe, oOrd_ii, oOrd_ss, oIx_t, oIx_r, oIx_l, oIx_s, qNo, qPart, qSl, oSl_t, oSl_r, oSl_l, oSl_s, qMeth, mAppend_1, iSeq, iRange1, iRange2, qCall, endsF, startD, List.map_cons, List.map_nil, List.length_cons, List.length_nil, List.length_map, List.cons_append, List.nil_append, List.replicate, List.getElem?_cons_zero, List.getElem?_cons_succ, List.set_cons_zero, List.set_cons_succ, Nat.reduceAdd, Nat.reduceSub, if_true, if_false, id, ups_same, ex_lst, ex_lst2, ex_some, atI_0, atI_1, atI_2, atI_3, ixN_0, ixN_1, ixN_21, oIx_p, chars_tx]; exact q) ok_vals rfl (by omega) ?_ ?_
      · intro a S' C ha sub hC
        simp only [wipeD, cD, oInX, oInS, sSeq, sNext_eq, sBreak_eq, sCont_eq, sDrop, sRet, sRetN, sIf, sSet, sPar, sAsg, sRaise, gN, gE, gC, gU, gS, qVar, qC, qBin, qTB, qChain, qNot, qAnd, qOr, bd_bl, qNotT, qAndT, qOrT, qTru, tru_non, tru_bl, tru_int, tru_str, tru_tup, tru_rol, tru_ref, qIf, qNil, qCons, qTup, qLst, qCB, cInt_i, cInt2_ii, cToInt_i, cToInt_b, cLen_s, cLen_t, cLen_r, cLen_l, cTuple_t, cTuple_r, cTuple_l, cList_t, cList_r, cList_l, qNeg, oI_ii, oAdd_ii, oSub, oMul, oDiv, oMod, oPow, oEq, oNe, oEqW_ii, oEqW_ss, oEqW_bb, oLt, oLe, oGt, oGe, oOrd_ii, oOrd_ss, oIx_t, oIx_r, oIx_l, oIx_s, qNo, qPart, qSl, oSl_t, oSl_r, oSl_l, oSl_s, qMeth, mAppend_1, iSeq, iRange1, iRange2, qCall, endsF, startD, List.map_cons, List.map_nil, List.length_cons, List.length_nil, List.length_map, List.cons_append, List.nil_append, List.replicate, List.getElem?_cons_zero, List.getElem?_cons_succ, List.set_cons_zero, List.set_cons_succ, Nat.reduceAdd, Nat.reduceSub, if_true, if_false, id, ups_same, ex_lst, ex_lst2, ex_some, atI_0, atI_1, atI_2, atI_3, ixN_0, ixN_1, ixN_21, oIx_p]
        refine .inr ⟨a, _, rfl, rfl, ?_⟩
        rw [allS_eq]
        exact hC S' (Sub.refl _)
      · intro p S' hp sub hL
        refine ⟨_, _, rfl, hL, ?_⟩
        simp only [tru_bl]
        cases c3 : (l.map fun a => decide (a ∈ allS)).all id with
        | false =>
          refine ifT rfl (no sub fun h => ?_)
          rw [(sg_iff.mp h).2.2.1] at c3
          cases c3
        | true =>
          refine ifF rfl ?_
          refine lc_boolsT (S1 := S') (.on (fun S' => zSeq S' (.str (tx l)) (l.map cD) ∧ zSeq S' (.str (tx (l.drop 1))) ((l.drop 1).map cD)) (pairsD (l.map cD) ((l.drop 1).map cD))) (l.zip (l.drop 1)) (fun p => .tup [cD p.1, cD p.2]) (fun p => decide (p.1 < p.2)) (fun Q q => ?_) (fun S _ => ⟨.inr (.inr (.inl ⟨_, rfl, chars_tx.symm⟩)), .inr (.inr (.inl ⟨_, rfl, chars_tx.symm⟩))⟩) ?_ (by rw [List.length_zip]; omega) ?_ ?_
          · simp only [iZipQ, sSeq, sNext_eq, sBreak_eq, sCont_eq, sDrop, sRet, sRetN, sIf, sSet, sPar, sAsg, sRaise, gN, gE, gC, gU, gS, qVar, qC, qBin, qTB, qChain, qNot, qAnd, qOr, bd_bl, qNotT, qAndT, qOrT, qTru, tru_non, tru_bl, tru_int, tru_str, tru_tup, tru_rol, tru_ref, qIf, qNil, qCons, qTup, qLst, qCB, cInt_i, cInt2_ii, cToInt_i, cToInt_b, cLen_s, cLen_t, cLen_r, cLen_l, cTuple_t, cTuple_r, cTuple_l, cList_t, cList_r, cList_l, qNeg, oI_ii, oAdd_ii, oSub, oMul, oDiv, oMod, oPow, oEq, oNe, oEqW_ii, oEqW_ss, oEqW_bb, oLt, oLe, oGt, oGe, oOrd_ii, oOrd_ss, oIx_t, oIx_r, oIx_l, oIx_s, qNo, qPart, qSl, oSl_t, oSl_r, oSl_l, oSl_s, qMeth, mAppend_1, iSeq, iRange1, iRange2, qCall, endsF, startD, List.map_cons, List.map_nil, List.length_cons, List.length_nil, List.length_map, List.cons_append, List.nil_append, List.replicate, List.getElem?_cons_zero, List.getElem?_cons_succ, List.set_cons_zero, List.set_cons_succ, Nat.reduceAdd, Nat.reduceSub, if_true, if_false, id, ups_same, ex_lst, ex_lst2, ex_some, atI_0, atI_1, atI_2, atI_3, ixN_0, ixN_1, ixN_21, oIx_p, tx_len]
            refine ⟨szL (by omega), _, _, l.map cD, (l.drop 1).map cD, rfl, .inr (.inr (.inl ⟨_, rfl, chars_tx.symm⟩)), .inr (.inr (.inl ⟨tx (l.drop 1), by rw [cut1], chars_tx.symm⟩)), ?_⟩
            rw [cut1]
            exact q
          · show pairsD _ _ = _
            unfold pairsD
            rw [List.zip_map, List.map_map]
            rfl
          · intro a S2 C ha sub2 hC
            simp only [wipeD, gT, cD, sSeq, sNext_eq, sBreak_eq, sCont_eq, sDrop, sRet, sRetN, sIf, sSet, sPar, sAsg, sRaise, gN, gE, gC, gU, gS, qVar, qC, qBin, qTB, qChain, qNot, qAnd, qOr, bd_bl, qNotT, qAndT, qOrT, qTru, tru_non, tru_bl, tru_int, tru_str, tru_tup, tru_rol, tru_ref, qIf, qNil, qCons, qTup, qLst, qCB, cInt_i, cInt2_ii, cToInt_i, cToInt_b, cLen_s, cLen_t, cLen_r, cLen_l, cTuple_t, cTuple_r, cTuple_l, cList_t, cList_r, cList_l, qNeg, oI_ii, oAdd_ii, oSub, oMul, oDiv, oMod, oPow, oEq, oNe, oEqW_ii, oEqW_ss, oEqW_bb, oLt, oLe, oGt, oGe, oOrd_ii, oOrd_ss, oIx_t, oIx_r, oIx_l, oIx_s, qNo, qPart, qSl, oSl_t, oSl_r, oSl_l, oSl_s, qMeth, mAppend_1, iSeq, iRange1, iRange2, qCall, endsF, startD, List.map_cons, List.map_nil, List.length_cons, List.length_nil, List.length_map, List.cons_append, List.nil_append, List.replicate, List.getElem?_cons_zero, List.getElem?_cons_succ, List.set_cons_zero, List.set_cons_succ, Nat.reduceAdd, Nat.reduceSub, if_true, if_false, id, ups_same, ex_lst, ex_lst2, ex_some, atI_0, atI_1, atI_2, atI_3, ixN_0, ixN_1, ixN_21, oIx_p]
            refine ⟨trivial, trivial, ?_⟩
            rw [lt1]
            exact hC S2 (Sub.refl _)
          · intro p2 S2 hp2 sub2 hL2
            refine ⟨_, _, rfl, hL2, S, sub.trans sub2, ?_⟩
            have e : ((l.zip (l.drop 1)).map fun p => decide (p.1 < p.2)).all id = dB (Sg l) := dB_of (by
              rw [sg_iff]
              exact ⟨fun h => ⟨by omega, by omega, c3, h⟩, fun h => h.2.2.2⟩)
            show Q (.bl (List.all _ id)) S
            rw [e]
            exact q
    · rw [decide_eq_false c2]
      exact ifT rfl (no (Sub.refl S) fun h => by have := h.hi; omega)
  · rw [decide_eq_false c1]
    dsimp only
    exact ifT rfl (no (Sub.refl S) fun h => by have := h.lo; omega)
theorem p_is_number : ∀ ds S Q E, sp_is_number ad ds S Q E → r_is_number ad (endsF Q E) (startD N_is_number ds) S := by
  rintro ds S Q E ⟨l, x, rfl, hl, hx, q⟩
  simp only [r_is_number, sSeq, sNext_eq, sBreak_eq, sCont_eq, sDrop, sRet, sRetN, sIf, sSet, sPar, sAsg, sRaise, gN, gE, gC, gU, gS, qVar, qC, qBin, qTB, qChain, qNot, qAnd, qOr, bd_bl, qNotT, qAndT, qOrT, qTru, tru_non, tru_bl, tru_int, tru_str, tru_tup, tru_rol, tru_ref, qIf, qNil, qCons, qTup, qLst, qCB, cInt_i, cInt2_ii, cToInt_i, cToInt_b, cLen_s, cLen_t, cLen_r, cLen_l, cTuple_t, cTuple_r, cTuple_l, cList_t, cList_r, cList_l, qNeg, oI_ii, oAdd_ii, oSub, oMul, oDiv, oMod, oPow, oEq, oNe, oEqW_ii, oEqW_ss, oEqW_bb, oLt, oLe, oGt, oGe, oOrd_ii, oOrd_ss, oIx_t, oIx_r, oIx_l, oIx_s, qNo, qPart, qSl, oSl_t, oSl_r, oSl_l, oSl_s, qMeth, mAppend_1, iSeq, iRange1, iRange2, qCall, endsF, startD, List.map_cons, List.map_nil, List.length_cons, List.length_nil, List.length_map, List.cons_append, List.nil_append, List.replicate, List.getElem?_cons_zero, List.getElem?_cons_succ, List.set_cons_zero, List.set_cons_succ, Nat.reduceAdd, Nat.reduceSub, if_true, if_false, id, ups_same, ex_lst, ex_lst2, ex_some, atI_0, atI_1, atI_2, atI_3, ixN_0, ixN_1, ixN_21, oIx_p, tx_len]
  refine ⟨szL (by omega), ?_⟩
  by_cases c1 : (x.length : Int) ≤ 200
  · refine ifT (decide_eq_true c1) ?_
    refine lc_boolsT (.vals (x.map cD)) x cD (fun a => decide (a ∈ l)) (fun Q q => by simp only [sSeq, sNext_eq, sBreak_eq, sCont_eq, sDrop, sRet, sRetN, sIf, sSet, sPar, sAsg, sRaise, gN, gE, gC, gU, gS, qVar, qC, qBin, qTB, qChain, qNot, qAnd, qOr, bd_bl, qNotT, qAndT, qOrT, qTru, tru_non, tru_bl, tru_int, tru_str, tru_tup, tru_rol, tru_ref, qIf, qNil, qCons, qTup, qLst, qCB, cInt_i, cInt2_ii, cToInt_i, cToInt_b, cLen_s, cLen_t, cLen_r, cLen_l, cTuple_t, cTuple_r, cTuple_l, cList_t, cList_r, cList_l, qNeg, oI_ii, oAdd_ii, oSub, oMul, oDiv, oMod, oPow, oEq, oNe, oEqW_ii, oEqW_ss, oEqW_bb, oLt, oLe, oGt, oGe, oOrd_ii, oOrd_ss, oIx_t, oIx_r, oIx_l, oIx_s, qNo, qPart, qSl, oSl_t, oSl_r, oSl_l, oSl_s, qMeth, mAppend_1, iSeq, iRange1, iRange2, qCall, endsF, startD, List.map_cons, List.map_nil, List.length_cons, List.length_nil, List.length_map, List.cons_append, List.nil_append, List.replicate, List.getElem?_cons_zero, List.getElem?_cons_succ, List.set_cons_zero, List.set_cons_succ, Nat.reduceAdd, Nat.reduceSub, if_true, if_false, id, ups_same, ex_lst, ex_lst2, ex_some, atI_0, atI_1, atI_2, atI_3, ixN_0, ixN_1, ixN_21, oIx_p, chars_tx]; exact q) ok_vals rfl (by omega) ?_ ?_
    · intro a S' C ha sub hC
      simp only [wipeD, cD, oInX, oInS, sSeq, sNext_eq, sBreak_eq, sCont_eq, sDrop, sRet, sRetN, sIf, sSet, sPar, sAsg, sRaise, gN, gE, gC, gU, gS, qVar, qC, qBin, qTB, qChain, qNot, qAnd, qOr, bd_bl, qNotT, qAndT, qOrT, qTru, tru_non, tru_bl, tru_int, tru_str, tru_tup, tru_rol, tru_ref, qIf, qNil, qCons, qTup, qLst, qCB, cInt_i, cInt2_ii, cToInt_i, cToInt_b, cLen_s, cLen_t, cLen_r, cLen_l, cTuple_t, cTuple_r, cTuple_l, cList_t, cList_r, cList_l, qNeg, oI_ii, oAdd_ii, oSub, oMul, oDiv, oMod, oPow, oEq, oNe, oEqW_ii, oEqW_ss, oEqW_bb, oLt, oLe, oGt, oGe, oOrd_ii, oOrd_ss, oIx_t, oIx_r, oIx_l, oIx_s, qNo, qPart, qSl, oSl_t, oSl_r, oSl_l, oSl_s, qMeth, mAppend_1, iSeq, iRange1, iRange2, qCall, endsF, startD, List.map_cons, List.map_nil, List.length_cons, List.length_nil, List.length_map, List.cons_append, List.nil_append, List.replicate, List.getElem?_cons_zero, List.getElem?_cons_succ, List.set_cons_zero, List.set_cons_succ, Nat.reduceAdd, Nat.reduceSub, if_true, if_false, id, ups_same, ex_lst, ex_lst2, ex_some, atI_0, atI_1, atI_2, atI_3, ixN_0, ixN_1, ixN_21, oIx_p]
      refine .inr ⟨a, _, rfl, rfl, ?_⟩
      rw [tx_list]
      exact hC S' (Sub.refl _)
    · intro p S' hp sub hL
      refine ⟨_, _, rfl, hL, S, sub, ?_⟩
      have e : (x.map fun a => decide (a ∈ l)).all id = dB (Nm l x) := dB_of (by
        rw [List.all_map, List.all_eq_true]
        exact ⟨fun h => ⟨by omega, fun a ha => of_decide_eq_true (h a ha)⟩, fun h a ha => decide_eq_true (h.2 a ha)⟩)
      show Q (.bl (List.all _ id)) S
      rw [e]
      exact q
  · refine ifF (decide_eq_false c1) ⟨S, Sub.refl S, ?_⟩
    rw [dB_f (fun h : Nm l x => by have := h.1; omega)] at q
    exact q
end
section
def rowOk (l : List Nat) (t : Tb) (r : List Int) : Prop := r.length = l.length ∧ ∀ x ∈ r, 0 ≤ x ∧ x < (t.length : Int)
theorem ch_iff {l : List Nat} {t : Tb} {e : List Int} : Ch l t e ↔ Sg l ∧ 1 ≤ t.length ∧ t.length ≤ 60 ∧ e.length = t.length ∧ (∀ r ∈ t, rowOk l t r) ∧ ∀ x ∈ e, x = 0 ∨ x = 1 :=
  ⟨fun h => ⟨h.sg, h.pos, h.le, h.len, fun r hr => ⟨h.row r hr, h.rng r hr⟩, h.bit⟩, fun h => ⟨h.1, h.2.1, h.2.2.1, h.2.2.2.1, fun r hr => (h.2.2.2.2.1 r hr).1, fun r hr => (h.2.2.2.2.1 r hr).2, h.2.2.2.2.2⟩⟩
theorem p_check_checker : ∀ ds S Q E, sp_check_checker ad ds S Q E → r_check_checker ad (endsF Q E) (startD N_check_checker ds) S := by
  rintro ds S Q E ⟨l, t, e, rfl, hz, h1, h2⟩
  obtain ⟨z1, z2, z3, z4⟩ := hz
  have no : ∀ {S'}, Sub S S' → ¬ Ch l t e → ∃ S2, Sub S2 S' ∧ E { cls := ad.NotAllowed } S2 := fun s h => ⟨S, s, h2 h⟩
  simp only [r_check_checker, sp_is_signs, chD, tD, sSeq, sNext_eq, sBreak_eq, sCont_eq, sDrop, sRet, sRetN, sIf, sSet, sPar, sAsg, sRaise, gN, gE, gC, gU, gS, qVar, qC, qBin, qTB, qChain, qNot, qAnd, qOr, bd_bl, qNotT, qAndT, qOrT, qTru, tru_non, tru_bl, tru_int, tru_str, tru_tup, tru_rol, tru_ref, qIf, qNil, qCons, qTup, qLst, qCB, cInt_i, cInt2_ii, cToInt_i, cToInt_b, cLen_s, cLen_t, cLen_r, cLen_l, cTuple_t, cTuple_r, cTuple_l, cList_t, cList_r, cList_l, qNeg, oI_ii, oAdd_ii, oSub, oMul, oDiv, oMod, oPow, oEq, oNe, oEqW_ii, oEqW_ss, oEqW_bb, oLt, oLe, oGt, oGe, oOrd_ii, oOrd_ss, oIx_t, oIx_r, oIx_l, oIx_s, qNo, qPart, qSl, oSl_t, oSl_r, oSl_l, oSl_s, qMeth, mAppend_1, iSeq, iRange1, iRange2, qCall, endsF, startD, List.map_cons, List.map_nil, List.length_cons, List.length_nil, List.length_map, List.cons_append, List.nil_append, List.replicate, List.getElem?_cons_zero, List.getElem?_cons_succ, List.set_cons_zero, List.set_cons_succ, Nat.reduceAdd, Nat.reduceSub, if_true, if_false, id, ups_same, ex_lst, ex_lst2, ex_some, atI_0, atI_1, atI_2, atI_3, ixN_0, ixN_1, ixN_21, oIx_p]
  refine ⟨_, .inl rfl, rfl, rfl, l, rfl, by omega, ?_⟩
  simp only [sSeq, sNext_eq, sBreak_eq, sCont_eq, sDrop, sRet, sRetN, sIf, sSet, sPar, sAsg, sRaise, gN, gE, gC, gU, gS, qVar, qC, qBin, qTB, qChain, qNot, qAnd, qOr, bd_bl, qNotT, qAndT, qOrT, qTru, tru_non, tru_bl, tru_int, tru_str, tru_tup, tru_rol, tru_ref, qIf, qNil, qCons, qTup, qLst, qCB, cInt_i, cInt2_ii, cToInt_i, cToInt_b, cLen_s, cLen_t, cLen_r, cLen_l, cTuple_t, cTuple_r, cTuple_l, cList_t, cList_r, cList_l, qNeg, oI_ii, oAdd_ii, oSub, oMul, oDiv, oMod, oPow, oEq, oNe, oEqW_ii, oEqW_ss, oEqW_bb, oLt, oLe, oGt, oGe, oOrd_ii, oOrd_ss, oIx_t, oIx_r, oIx_l, oIx_s, qNo, qPart, qSl, oSl_t, oSl_r, oSl_l, oSl_s, qMeth, mAppend_1, iSeq, iRange1, iRange2, qCall, endsF, startD, List.map_cons, List.map_nil, List.length_cons, List.length_nil, List.length_map, List.cons_append, List.nil_append, List.replicate, List.getElem?_cons_zero, List.getElem?_cons_succ, List.set_cons_zero, List.set_cons_succ, Nat.reduceAdd, Nat.reduceSub, if_true, if_false, id, ups_same, ex_lst, ex_lst2, ex_some, atI_0, atI_1, atI_2, atI_3, ixN_0, ixN_1, ixN_21, oIx_p]
  cases c0 : dB (Sg l) with
  | false => exact ifT rfl (no (Sub.refl S) fun h => by rw [dB_t h.sg] at c0; cases c0)
  | true =>
    refine ifF rfl ?_
    by_cases c1 : (1 : Int) ≤ t.length
    · rw [decide_eq_true c1]
      dsimp only
      by_cases c2 : (t.length : Int) ≤ 60
      · rw [decide_eq_true c2]
        refine ifF rfl ?_
        by_cases c3 : (e.length : Int) = t.length
        · refine ifF (by simp [c3]) (for_intro ?_)
          simp only [sSeq, sNext_eq, sBreak_eq, sCont_eq, sDrop, sRet, sRetN, sIf, sSet, sPar, sAsg, sRaise, gN, gE, gC, gU, gS, qVar, qC, qBin, qTB, qChain, qNot, qAnd, qOr, bd_bl, qNotT, qAndT, qOrT, qTru, tru_non, tru_bl, tru_int, tru_str, tru_tup, tru_rol, tru_ref, qIf, qNil, qCons, qTup, qLst, qCB, cInt_i, cInt2_ii, cToInt_i, cToInt_b, cLen_s, cLen_t, cLen_r, cLen_l, cTuple_t, cTuple_r, cTuple_l, cList_t, cList_r, cList_l, qNeg, oI_ii, oAdd_ii, oSub, oMul, oDiv, oMod, oPow, oEq, oNe, oEqW_ii, oEqW_ss, oEqW_bb, oLt, oLe, oGt, oGe, oOrd_ii, oOrd_ss, oIx_t, oIx_r, oIx_l, oIx_s, qNo, qPart, qSl, oSl_t, oSl_r, oSl_l, oSl_s, qMeth, mAppend_1, iSeq, iRange1, iRange2, qCall, endsF, startD, List.map_cons, List.map_nil, List.length_cons, List.length_nil, List.length_map, List.cons_append, List.nil_append, List.replicate, List.getElem?_cons_zero, List.getElem?_cons_succ, List.set_cons_zero, List.set_cons_succ, Nat.reduceAdd, Nat.reduceSub, if_true, if_false, id, ups_same, ex_lst, ex_lst2, ex_some, atI_0, atI_1, atI_2, atI_3, ixN_0, ixN_1, ixN_21, oIx_p]
          refine ⟨fun i loc S' => (∃ z1 z6, loc = [some (.tup [.str (tx l), .tup (t.map rD), .tup (e.map D.int)]), z1, some (.str (tx l)), some (.tup (t.map rD)), some (.tup (e.map D.int)), none, z6]) ∧ Sub S S' ∧ ∀ r ∈ t.take i, rowOk l t r, ⟨⟨_, _, rfl⟩, Sub.refl S, by simp⟩, ?_, ?_⟩
          · rintro i d loc S' hi ⟨⟨z1', z6, rfl⟩, sub, ok⟩
            obtain ⟨r, hi0, rfl⟩ := get_emb (show (t.map rD)[i]? = some d from hi)
            have hr := List.mem_of_getElem? hi0
            have hrl := z3 r hr
            refine ⟨trivial, ?_⟩
            simp only [r_check_checker_b1, rD, sSeq, sNext_eq, sBreak_eq, sCont_eq, sDrop, sRet, sRetN, sIf, sSet, sPar, sAsg, sRaise, gN, gE, gC, gU, gS, qVar, qC, qBin, qTB, qChain, qNot, qAnd, qOr, bd_bl, qNotT, qAndT, qOrT, qTru, tru_non, tru_bl, tru_int, tru_str, tru_tup, tru_rol, tru_ref, qIf, qNil, qCons, qTup, qLst, qCB, cInt_i, cInt2_ii, cToInt_i, cToInt_b, cLen_s, cLen_t, cLen_r, cLen_l, cTuple_t, cTuple_r, cTuple_l, cList_t, cList_r, cList_l, qNeg, oI_ii, oAdd_ii, oSub, oMul, oDiv, oMod, oPow, oEq, oNe, oEqW_ii, oEqW_ss, oEqW_bb, oLt, oLe, oGt, oGe, oOrd_ii, oOrd_ss, oIx_t, oIx_r, oIx_l, oIx_s, qNo, qPart, qSl, oSl_t, oSl_r, oSl_l, oSl_s, qMeth, mAppend_1, iSeq, iRange1, iRange2, qCall, endsF, startD, List.map_cons, List.map_nil, List.length_cons, List.length_nil, List.length_map, List.cons_append, List.nil_append, List.replicate, List.getElem?_cons_zero, List.getElem?_cons_succ, List.set_cons_zero, List.set_cons_succ, Nat.reduceAdd, Nat.reduceSub, if_true, if_false, id, ups_same, ex_lst, ex_lst2, ex_some, atI_0, atI_1, atI_2, atI_3, ixN_0, ixN_1, ixN_21, oIx_p, tx_len]
            by_cases d1 : (r.length : Int) = l.length
            · refine ⟨szL (by omega), ifF (by simp [d1]) ?_⟩
              refine lc_boolsT (.vals (r.map D.int)) r D.int (fun x => decide (0 ≤ x) && decide (x < (t.length : Int))) (fun Q q => by simp only [sSeq, sNext_eq, sBreak_eq, sCont_eq, sDrop, sRet, sRetN, sIf, sSet, sPar, sAsg, sRaise, gN, gE, gC, gU, gS, qVar, qC, qBin, qTB, qChain, qNot, qAnd, qOr, bd_bl, qNotT, qAndT, qOrT, qTru, tru_non, tru_bl, tru_int, tru_str, tru_tup, tru_rol, tru_ref, qIf, qNil, qCons, qTup, qLst, qCB, cInt_i, cInt2_ii, cToInt_i, cToInt_b, cLen_s, cLen_t, cLen_r, cLen_l, cTuple_t, cTuple_r, cTuple_l, cList_t, cList_r, cList_l, qNeg, oI_ii, oAdd_ii, oSub, oMul, oDiv, oMod, oPow, oEq, oNe, oEqW_ii, oEqW_ss, oEqW_bb, oLt, oLe, oGt, oGe, oOrd_ii, oOrd_ss, oIx_t, oIx_r, oIx_l, oIx_s, qNo, qPart, qSl, oSl_t, oSl_r, oSl_l, oSl_s, qMeth, mAppend_1, iSeq, iRange1, iRange2, qCall, endsF, startD, List.map_cons, List.map_nil, List.length_cons, List.length_nil, List.length_map, List.cons_append, List.nil_append, List.replicate, List.getElem?_cons_zero, List.getElem?_cons_succ, List.set_cons_zero, List.set_cons_succ, Nat.reduceAdd, Nat.reduceSub, if_true, if_false, id, ups_same, ex_lst, ex_lst2, ex_some, atI_0, atI_1, atI_2, atI_3, ixN_0, ixN_1, ixN_21, oIx_p]; exact q) ok_vals rfl (by omega) ?_ ?_
              · intro x S2 C hx sub2 hC
                simp only [wipeD, sSeq, sNext_eq, sBreak_eq, sCont_eq, sDrop, sRet, sRetN, sIf, sSet, sPar, sAsg, sRaise, gN, gE, gC, gU, gS, qVar, qC, qBin, qTB, qChain, qNot, qAnd, qOr, bd_bl, qNotT, qAndT, qOrT, qTru, tru_non, tru_bl, tru_int, tru_str, tru_tup, tru_rol, tru_ref, qIf, qNil, qCons, qTup, qLst, qCB, cInt_i, cInt2_ii, cToInt_i, cToInt_b, cLen_s, cLen_t, cLen_r, cLen_l, cTuple_t, cTuple_r, cTuple_l, cList_t, cList_r, cList_l, qNeg, oI_ii, oAdd_ii, oSub, oMul, oDiv, oMod, oPow, oEq, oNe, oEqW_ii, oEqW_ss, oEqW_bb, oLt, oLe, oGt, oGe, oOrd_ii, oOrd_ss, oIx_t, oIx_r, oIx_l, oIx_s, qNo, qPart, qSl, oSl_t, oSl_r, oSl_l, oSl_s, qMeth, mAppend_1, iSeq, iRange1, iRange2, qCall, endsF, startD, List.map_cons, List.map_nil, List.length_cons, List.length_nil, List.length_map, List.cons_append, List.nil_append, List.replicate, List.getElem?_cons_zero, List.getElem?_cons_succ, List.set_cons_zero, List.set_cons_succ, Nat.reduceAdd, Nat.reduceSub, if_true, if_false, id, ups_same, ex_lst, ex_lst2, ex_some, atI_0, atI_1, atI_2, atI_3, ixN_0, ixN_1, ixN_21, oIx_p]
                have := hC S2 (Sub.refl _)
                by_cases g : 0 ≤ x
                · rw [decide_eq_true g] at this ⊢
                  exact this
                · rw [decide_eq_false g] at this ⊢
                  exact this
              · intro p S2 hp sub2 hL
                refine ⟨_, _, rfl, hL, ?_⟩
                simp only [tru_bl]
                cases c4 : (r.map fun x => decide (0 ≤ x) && decide (x < (t.length : Int))).all id with
                | false =>
                  refine ifT rfl (no (sub.trans sub2) fun h => ?_)
                  rw [List.all_map, List.all_eq_true.mpr fun x hx => ?_] at c4
                  · cases c4
                  · have := h.rng r hr x hx
                    simp only [Function.comp, id, Bool.and_eq_true, decide_eq_true_eq]
                    exact this
                | true =>
                  refine ifF rfl ⟨⟨_, _, rfl⟩, sub.trans sub2, fun r' hr' => ?_⟩
                  rw [List.take_succ, hi0] at hr'
                  rcases List.mem_append.mp hr' with h | h
                  · exact ok r' h
                  · obtain rfl : r' = r := by simpa using h
                    refine ⟨by omega, fun x hx => ?_⟩
                    rw [List.all_map] at c4
                    have := List.all_eq_true.mp c4 x hx
                    simp only [Function.comp, id, Bool.and_eq_true, decide_eq_true_eq] at this
                    exact this
            · refine ⟨szL (by omega), ifT (by simp [d1]) (no sub fun h => ?_)⟩
              have := h.row r hr
              omega
          · rintro loc S' ⟨⟨z1', z6, rfl⟩, sub, ok⟩
            have e9 : (Src.vals (t.map rD)).items.length = t.length := by simp [Src.items]
            rw [e9, List.take_length] at ok
            refine ⟨trivial, ?_⟩
            try simp only [sSeq, sNext_eq, sBreak_eq, sCont_eq, sDrop, sRet, sRetN, sIf, sSet, sPar, sAsg, sRaise, gN, gE, gC, gU, gS, qVar, qC, qBin, qTB, qChain, qNot, qAnd, qOr, bd_bl, qNotT, qAndT, qOrT, qTru, tru_non, tru_bl, tru_int, tru_str, tru_tup, tru_rol, tru_ref, qIf, qNil, qCons, qTup, qLst, qCB, cInt_i, cInt2_ii, cToInt_i, cToInt_b, cLen_s, cLen_t, cLen_r, cLen_l, cTuple_t, cTuple_r, cTuple_l, cList_t, cList_r, cList_l, qNeg, oI_ii, oAdd_ii, oSub, oMul, oDiv, oMod, oPow, oEq, oNe, oEqW_ii, oEqW_ss, oEqW_bb, oLt, oLe, oGt, oGe, oOrd_ii, oOrd_ss, oIx_t, oIx_r, oIx_l, oIx_s, qNo, qPart, qSl, oSl_t, oSl_r, oSl_l, oSl_s, qMeth, mAppend_1, iSeq, iRange1, iRange2, qCall, endsF, startD, List.map_cons, List.map_nil, List.length_cons, List.length_nil, List.length_map, List.cons_append, List.nil_append, List.replicate, List.getElem?_cons_zero, List.getElem?_cons_succ, List.set_cons_zero, List.set_cons_succ, Nat.reduceAdd, Nat.reduceSub, if_true, if_false, id, ups_same, ex_lst, ex_lst2, ex_some, atI_0, atI_1, atI_2, atI_3, ixN_0, ixN_1, ixN_21, oIx_p]
            refine lc_boolsT (.vals (e.map D.int)) e D.int (fun x => decide (x = 0) || decide (x = 1)) (fun Q q => by simp only [sSeq, sNext_eq, sBreak_eq, sCont_eq, sDrop, sRet, sRetN, sIf, sSet, sPar, sAsg, sRaise, gN, gE, gC, gU, gS, qVar, qC, qBin, qTB, qChain, qNot, qAnd, qOr, bd_bl, qNotT, qAndT, qOrT, qTru, tru_non, tru_bl, tru_int, tru_str, tru_tup, tru_rol, tru_ref, qIf, qNil, qCons, qTup, qLst, qCB, cInt_i, cInt2_ii, cToInt_i, cToInt_b, cLen_s, cLen_t, cLen_r, cLen_l, cTuple_t, cTuple_r, cTuple_l, cList_t, cList_r, cList_l, qNeg, oI_ii, oAdd_ii, oSub, oMul, oDiv, oMod, oPow, oEq, oNe, oEqW_ii, oEqW_ss, oEqW_bb, oLt, oLe, oGt, oGe, oOrd_ii, oOrd_ss, oIx_t, oIx_r, oIx_l, oIx_s, qNo, qPart, qSl, oSl_t, oSl_r, oSl_l, oSl_s, qMeth, mAppend_1, iSeq, iRange1, iRange2, qCall, endsF, startD, List.map_cons, List.map_nil, List.length_cons, List.length_nil, List.length_map, List.cons_append, List.nil_append, List.replicate, List.getElem?_cons_zero, List.getElem?_cons_succ, List.set_cons_zero, List.set_cons_succ, Nat.reduceAdd, Nat.reduceSub, if_true, if_false, id, ups_same, ex_lst, ex_lst2, ex_some, atI_0, atI_1, atI_2, atI_3, ixN_0, ixN_1, ixN_21, oIx_p]; exact q) ok_vals rfl (by omega) ?_ ?_
            · intro x S2 C hx sub2 hC
              simp only [wipeD, oInX, oInF, sSeq, sNext_eq, sBreak_eq, sCont_eq, sDrop, sRet, sRetN, sIf, sSet, sPar, sAsg, sRaise, gN, gE, gC, gU, gS, qVar, qC, qBin, qTB, qChain, qNot, qAnd, qOr, bd_bl, qNotT, qAndT, qOrT, qTru, tru_non, tru_bl, tru_int, tru_str, tru_tup, tru_rol, tru_ref, qIf, qNil, qCons, qTup, qLst, qCB, cInt_i, cInt2_ii, cToInt_i, cToInt_b, cLen_s, cLen_t, cLen_r, cLen_l, cTuple_t, cTuple_r, cTuple_l, cList_t, cList_r, cList_l, qNeg, oI_ii, oAdd_ii, oSub, oMul, oDiv, oMod, oPow, oEq, oNe, oEqW_ii, oEqW_ss, oEqW_bb, oLt, oLe, oGt, oGe, oOrd_ii, oOrd_ss, oIx_t, oIx_r, oIx_l, oIx_s, qNo, qPart, qSl, oSl_t, oSl_r, oSl_l, oSl_s, qMeth, mAppend_1, iSeq, iRange1, iRange2, qCall, endsF, startD, List.map_cons, List.map_nil, List.length_cons, List.length_nil, List.length_map, List.cons_append, List.nil_append, List.replicate, List.getElem?_cons_zero, List.getElem?_cons_succ, List.set_cons_zero, List.set_cons_succ, Nat.reduceAdd, Nat.reduceSub, if_true, if_false, id, ups_same, ex_lst, ex_lst2, ex_some, atI_0, atI_1, atI_2, atI_3, ixN_0, ixN_1, ixN_21, oIx_p]
              refine ⟨sz2, .inl (.inr ⟨_, .inl rfl, rfl, rfl, ?_⟩)⟩
              have e1 : ∀ x y : Int, eqF (.int x) (.int y) = decide (x = y) := fun x y => by
                unfold eqF vD L2.eqV
                by_cases h : x = y <;> simp [h]
              have e2 : (List.any [D.int 0, D.int 1] fun y => eqF y (D.int x)) = (decide (x = 0) || decide (x = 1)) := by
                simp only [List.any_cons, List.any_nil, e1, Bool.or_false]
                rw [decide_eq_decide.mpr (eq_comm (a := (0 : Int)) (b := x)), decide_eq_decide.mpr (eq_comm (a := (1 : Int)) (b := x))]
              rw [e2]
              exact hC S2 (Sub.refl _)
            · intro p S2 hp sub2 hL
              refine ⟨_, _, rfl, hL, ?_⟩
              simp only [tru_bl]
              cases c4 : (e.map fun x => decide (x = 0) || decide (x = 1)).all id with
              | false =>
                refine ifT rfl (no (sub.trans sub2) fun h => ?_)
                rw [List.all_map, List.all_eq_true.mpr fun x hx => ?_] at c4
                · cases c4
                · have := h.bit x hx
                  simp only [Function.comp, id, Bool.or_eq_true, decide_eq_true_eq]
                  exact this
              | true =>
                refine ifF rfl ⟨S, sub.trans sub2, h1 (ch_iff.mpr ⟨dB_iff.mp c0, by omega, by omega, by omega, ok, fun x hx => ?_⟩)⟩
                rw [List.all_map] at c4
                have := List.all_eq_true.mp c4 x hx
                simp only [Function.comp, id, Bool.or_eq_true, decide_eq_true_eq] at this
                exact this
        · exact ifT (by simp [c3]) (no (Sub.refl S) fun h => by have := h.len; omega)
      · rw [decide_eq_false c2]
        exact ifT rfl (no (Sub.refl S) fun h => by have := h.le; omega)
    · rw [decide_eq_false c1]
      dsimp only
      exact ifT rfl (no (Sub.refl S) fun h => by have := h.pos; omega)
theorem p_check_number : ∀ ds S Q E, sp_check_number ad ds S Q E → r_check_number ad (endsF Q E) (startD N_check_number ds) S := by
  rintro ds S Q E ⟨l, t, e, x, rfl, hz, hx, h1, h2⟩
  have hz1 := hz.sg
  simp only [r_check_number, sSeq, sNext_eq, sBreak_eq, sCont_eq, sDrop, sRet, sRetN, sIf, sSet, sPar, sAsg, sRaise, gN, gE, gC, gU, gS, qVar, qC, qBin, qTB, qChain, qNot, qAnd, qOr, bd_bl, qNotT, qAndT, qOrT, qTru, tru_non, tru_bl, tru_int, tru_str, tru_tup, tru_rol, tru_ref, qIf, qNil, qCons, qTup, qLst, qCB, cInt_i, cInt2_ii, cToInt_i, cToInt_b, cLen_s, cLen_t, cLen_r, cLen_l, cTuple_t, cTuple_r, cTuple_l, cList_t, cList_r, cList_l, qNeg, oI_ii, oAdd_ii, oSub, oMul, oDiv, oMod, oPow, oEq, oNe, oEqW_ii, oEqW_ss, oEqW_bb, oLt, oLe, oGt, oGe, oOrd_ii, oOrd_ss, oIx_t, oIx_r, oIx_l, oIx_s, qNo, qPart, qSl, oSl_t, oSl_r, oSl_l, oSl_s, qMeth, mAppend_1, iSeq, iRange1, iRange2, qCall, endsF, startD, List.map_cons, List.map_nil, List.length_cons, List.length_nil, List.length_map, List.cons_append, List.nil_append, List.replicate, List.getElem?_cons_zero, List.getElem?_cons_succ, List.set_cons_zero, List.set_cons_succ, Nat.reduceAdd, Nat.reduceSub, if_true, if_false, id, ups_same, ex_lst, ex_lst2, ex_some, atI_0, atI_1, atI_2, atI_3, ixN_0, ixN_1, ixN_21, oIx_p]
  rw [sp_check_checker]
  refine ⟨l, t, e, rfl, hz, fun hc => ?_, fun hc => ⟨S, Sub.refl S, h2 fun z => hc z.1⟩⟩
  unfold chD
  try simp only [sSeq, sNext_eq, sBreak_eq, sCont_eq, sDrop, sRet, sRetN, sIf, sSet, sPar, sAsg, sRaise, gN, gE, gC, gU, gS, qVar, qC, qBin, qTB, qChain, qNot, qAnd, qOr, bd_bl, qNotT, qAndT, qOrT, qTru, tru_non, tru_bl, tru_int, tru_str, tru_tup, tru_rol, tru_ref, qIf, qNil, qCons, qTup, qLst, qCB, cInt_i, cInt2_ii, cToInt_i, cToInt_b, cLen_s, cLen_t, cLen_r, cLen_l, cTuple_t, cTuple_r, cTuple_l, cList_t, cList_r, cList_l, qNeg, oI_ii, oAdd_ii, oSub, oMul, oDiv, oMod, oPow, oEq, oNe, oEqW_ii, oEqW_ss, oEqW_bb, oLt, oLe, oGt, oGe, oOrd_ii, oOrd_ss, oIx_t, oIx_r, oIx_l, oIx_s, qNo, qPart, qSl, oSl_t, oSl_r, oSl_l, oSl_s, qMeth, mAppend_1, iSeq, iRange1, iRange2, qCall, endsF, startD, List.map_cons, List.map_nil, List.length_cons, List.length_nil, List.length_map, List.cons_append, List.nil_append, List.replicate, List.getElem?_cons_zero, List.getElem?_cons_succ, List.set_cons_zero, List.set_cons_succ, Nat.reduceAdd, Nat.reduceSub, if_true, if_false, id, ups_same, ex_lst, ex_lst2, ex_some, atI_0, atI_1, atI_2, atI_3, ixN_0, ixN_1, ixN_21, oIx_p]
  rw [sp_is_number]
  refine ⟨l, x, rfl, by omega, hx, ?_⟩
  try simp only [sSeq, sNext_eq, sBreak_eq, sCont_eq, sDrop, sRet, sRetN, sIf, sSet, sPar, sAsg, sRaise, gN, gE, gC, gU, gS, qVar, qC, qBin, qTB, qChain, qNot, qAnd, qOr, bd_bl, qNotT, qAndT, qOrT, qTru, tru_non, tru_bl, tru_int, tru_str, tru_tup, tru_rol, tru_ref, qIf, qNil, qCons, qTup, qLst, qCB, cInt_i, cInt2_ii, cToInt_i, cToInt_b, cLen_s, cLen_t, cLen_r, cLen_l, cTuple_t, cTuple_r, cTuple_l, cList_t, cList_r, cList_l, qNeg, oI_ii, oAdd_ii, oSub, oMul, oDiv, oMod, oPow, oEq, oNe, oEqW_ii, oEqW_ss, oEqW_bb, oLt, oLe, oGt, oGe, oOrd_ii, oOrd_ss, oIx_t, oIx_r, oIx_l, oIx_s, qNo, qPart, qSl, oSl_t, oSl_r, oSl_l, oSl_s, qMeth, mAppend_1, iSeq, iRange1, iRange2, qCall, endsF, startD, List.map_cons, List.map_nil, List.length_cons, List.length_nil, List.length_map, List.cons_append, List.nil_append, List.replicate, List.getElem?_cons_zero, List.getElem?_cons_succ, List.set_cons_zero, List.set_cons_succ, Nat.reduceAdd, Nat.reduceSub, if_true, if_false, id, ups_same, ex_lst, ex_lst2, ex_some, atI_0, atI_1, atI_2, atI_3, ixN_0, ixN_1, ixN_21, oIx_p]
  by_cases h : Nm l x
  · rw [dB_t h]
    exact ifF rfl ⟨S, Sub.refl S, h1 hc h⟩
  · rw [dB_f h]
    exact ifT rfl ⟨S, Sub.refl S, h2 fun z => h z.2⟩
end
section
variable {l : List Nat} {t : Tb} {e : List Int}
theorem getD_mem {α : Type} {xs : List α} {i : Nat} {d : α} (h : i < xs.length) : xs.getD i d ∈ xs := by
  rw [List.getD_eq_getElem?_getD, List.getElem?_eq_getElem h]
  exact List.getElem_mem h
theorem atr {i : Nat} (hi : i < t.length) : atI (t.map rD) (i : Int) = some (rD (t.getD i [])) := by
  rw [atI_lt, List.getElem?_map, List.getD_eq_getElem?_getD, List.getElem?_eq_getElem hi]
  rfl
theorem Ch.atc (h : Ch l t e) {i j : Nat} (hi : i < t.length) (hj : j < l.length) : atI ((t.getD i []).map D.int) (j : Int) = some (.int (c t i j)) := by
  have := h.row _ (getD_mem (d := []) hi)
  rw [atI_lt, List.getElem?_map, List.getElem?_eq_getElem (by omega)]
  unfold c
  rw [List.getD_eq_getElem?_getD (l := t.getD i []), List.getElem?_eq_getElem (by omega)]
  rfl
theorem Ch.crng (h : Ch l t e) {i j : Nat} (hi : i < t.length) (hj : j < l.length) : 0 ≤ c t i j ∧ c t i j < t.length := by
  have := h.row _ (getD_mem (d := []) hi)
  exact h.rng _ (getD_mem hi) _ (getD_mem (by omega))
theorem idx_lt {a : Nat} (h : a ∈ l) : idx l a < l.length := List.findIdx_lt_length_of_exists ⟨a, h, by simp⟩
theorem idx_get {a : Nat} (h : a ∈ l) : l[idx l a]? = some a := by
  have h1 := idx_lt h
  rw [List.getElem?_eq_getElem h1]
  have := List.findIdx_getElem (w := h1)
  exact congrArg some (eq_of_beq this)
theorem idx_uniq {a i : Nat} (hs : l.Pairwise (· < ·)) (h : l[i]? = some a) : i = idx l a := by
  have hm := List.mem_of_getElem? h
  have h2 := idx_get hm
  have h3 := idx_lt hm
  obtain ⟨hi, e1⟩ := List.getElem?_eq_some_iff.mp h
  obtain ⟨hj, e2⟩ := List.getElem?_eq_some_iff.mp h2
  have P := List.pairwise_iff_getElem.mp hs
  rcases Nat.lt_trichotomy i (idx l a) with z | z | z
  · have := P i (idx l a) hi hj z
    omega
  · exact z
  · have := P (idx l a) i hj hi z
    omega
theorem run_lt (h : Ch l t e) : ∀ (x : List Nat) (s : Nat), (∀ a ∈ x, a ∈ l) → s < t.length → run l t s x < t.length
  | [], _, _, hs => hs
  | a :: x, s, hx, hs => by
    have ha := hx a (List.mem_cons_self ..)
    have := h.crng hs (idx_lt ha)
    exact run_lt h x _ (fun b hb => hx b (List.mem_cons_of_mem _ hb)) (show (c t s (idx l a)).toNat < t.length by omega)
theorem run_snoc {s a : Nat} {x : List Nat} : run l t s (x ++ [a]) = (c t (run l t s x) (idx l a)).toNat := by
  unfold run
  rw [List.foldl_append]
  rfl
theorem led_ok {P : QN} {S : Sto} {x : List Nat} {s : Nat} {z3 : Option D} (h : Ch l t e) (hx : ∀ a ∈ x, a ∈ l) (hl : x.length ≤ 1000) (hs : s < t.length) {tb : QS}
    (htb : ∀ (P : QN) (S : Sto) (u a : Nat), u < t.length → a ∈ l → (P.nx [some (chD l t e), some (.int ((c t u (idx l a)).toNat : Nat)), some (.str (tx x)), some (cD a)] S) → tb P [some (chD l t e), some (.int u), some (.str (tx x)), some (cD a)] S)
    (hn : ∀ z, P.nx [some (chD l t e), some (.int (run l t s x : Nat)), some (.str (tx x)), z] S) : sFor (iSeq (qVar 2)) (gN 3) tb P [some (chD l t e), some (.int s), some (.str (tx x)), z3] S := by
  refine for_intro ?_
  simp only [sSeq, sNext_eq, sBreak_eq, sCont_eq, sDrop, sRet, sRetN, sIf, sSet, sPar, sAsg, sRaise, gN, gE, gC, gU, gS, qVar, qC, qBin, qTB, qChain, qNot, qAnd, qOr, bd_bl, qNotT, qAndT, qOrT, qTru, tru_non, tru_bl, tru_int, tru_str, tru_tup, tru_rol, tru_ref, qIf, qNil, qCons, qTup, qLst, qCB, cInt_i, cInt2_ii, cToInt_i, cToInt_b, cLen_s, cLen_t, cLen_r, cLen_l, cTuple_t, cTuple_r, cTuple_l, cList_t, cList_r, cList_l, qNeg, oI_ii, oAdd_ii, oSub, oMul, oDiv, oMod, oPow, oEq, oNe, oEqW_ii, oEqW_ss, oEqW_bb, oLt, oLe, oGt, oGe, oOrd_ii, oOrd_ss, oIx_t, oIx_r, oIx_l, oIx_s, qNo, qPart, qSl, oSl_t, oSl_r, oSl_l, oSl_s, qMeth, mAppend_1, iSeq, iRange1, iRange2, qCall, endsF, startD, List.map_cons, List.map_nil, List.length_cons, List.length_nil, List.length_map, List.cons_append, List.nil_append, List.replicate, List.getElem?_cons_zero, List.getElem?_cons_succ, List.set_cons_zero, List.set_cons_succ, Nat.reduceAdd, Nat.reduceSub, if_true, if_false, id, ups_same, ex_lst, ex_lst2, ex_some, atI_0, atI_1, atI_2, atI_3, ixN_0, ixN_1, ixN_21, oIx_p]
  refine ⟨fun i loc S' => S' = S ∧ ∃ z, loc = [some (chD l t e), some (.int (run l t s (x.take i) : Nat)), some (.str (tx x)), z], ⟨rfl, _, rfl⟩, ?_, ?_⟩
  · rintro i d loc S' hi ⟨rfl, z, rfl⟩
    refine ⟨trivial, ?_⟩
    have hi1 : (chars (tx x))[i]? = some d := hi
    rw [chars_tx] at hi1
    obtain ⟨a, ha, rfl⟩ := get_emb hi1
    try simp only [sSeq, sNext_eq, sBreak_eq, sCont_eq, sDrop, sRet, sRetN, sIf, sSet, sPar, sAsg, sRaise, gN, gE, gC, gU, gS, qVar, qC, qBin, qTB, qChain, qNot, qAnd, qOr, bd_bl, qNotT, qAndT, qOrT, qTru, tru_non, tru_bl, tru_int, tru_str, tru_tup, tru_rol, tru_ref, qIf, qNil, qCons, qTup, qLst, qCB, cInt_i, cInt2_ii, cToInt_i, cToInt_b, cLen_s, cLen_t, cLen_r, cLen_l, cTuple_t, cTuple_r, cTuple_l, cList_t, cList_r, cList_l, qNeg, oI_ii, oAdd_ii, oSub, oMul, oDiv, oMod, oPow, oEq, oNe, oEqW_ii, oEqW_ss, oEqW_bb, oLt, oLe, oGt, oGe, oOrd_ii, oOrd_ss, oIx_t, oIx_r, oIx_l, oIx_s, qNo, qPart, qSl, oSl_t, oSl_r, oSl_l, oSl_s, qMeth, mAppend_1, iSeq, iRange1, iRange2, qCall, endsF, startD, List.map_cons, List.map_nil, List.length_cons, List.length_nil, List.length_map, List.cons_append, List.nil_append, List.replicate, List.getElem?_cons_zero, List.getElem?_cons_succ, List.set_cons_zero, List.set_cons_succ, Nat.reduceAdd, Nat.reduceSub, if_true, if_false, id, ups_same, ex_lst, ex_lst2, ex_some, atI_0, atI_1, atI_2, atI_3, ixN_0, ixN_1, ixN_21, oIx_p]
    refine htb _ _ _ a (run_lt h _ s (fun b hb => hx b (List.mem_of_mem_take hb)) hs) (hx a (List.mem_of_getElem? ha)) ⟨rfl, some (cD a), ?_⟩
    rw [List.take_succ, ha]
    show _ = [_, some (D.int ((run l t s (x.take i ++ [a]) : Nat) : Int)), _, _]
    rw [run_snoc]
  · rintro loc S' ⟨rfl, z, rfl⟩
    have e9 : (Src.vals (chars (tx x))).items.length = x.length := by
      show (chars (tx x)).length = _
      rw [chars_tx, List.length_map]
    rw [e9, List.take_length]
    exact ⟨trivial, hn z⟩
theorem led_body {P : QN} {S : Sto} {x : List Nat} (h : Ch l t e) (u a : Nat) (hu : u < t.length) (ha : a ∈ l) (hn : P.nx [some (chD l t e), some (.int ((c t u (idx l a)).toNat : Nat)), some (.str (tx x)), some (cD a)] S) :
    r_led_b1 ad P [some (chD l t e), some (.int u), some (.str (tx x)), some (cD a)] S := by
  have hr := h.crng hu (idx_lt ha)
  simp only [r_led_b1, chD, tD, cD, qMethS, mIndexS, sSeq, sNext_eq, sBreak_eq, sCont_eq, sDrop, sRet, sRetN, sIf, sSet, sPar, sAsg, sRaise, gN, gE, gC, gU, gS, qVar, qC, qBin, qTB, qChain, qNot, qAnd, qOr, bd_bl, qNotT, qAndT, qOrT, qTru, tru_non, tru_bl, tru_int, tru_str, tru_tup, tru_rol, tru_ref, qIf, qNil, qCons, qTup, qLst, qCB, cInt_i, cInt2_ii, cToInt_i, cToInt_b, cLen_s, cLen_t, cLen_r, cLen_l, cTuple_t, cTuple_r, cTuple_l, cList_t, cList_r, cList_l, qNeg, oI_ii, oAdd_ii, oSub, oMul, oDiv, oMod, oPow, oEq, oNe, oEqW_ii, oEqW_ss, oEqW_bb, oLt, oLe, oGt, oGe, oOrd_ii, oOrd_ss, oIx_t, oIx_r, oIx_l, oIx_s, qNo, qPart, qSl, oSl_t, oSl_r, oSl_l, oSl_s, qMeth, mAppend_1, iSeq, iRange1, iRange2, qCall, endsF, startD, List.map_cons, List.map_nil, List.length_cons, List.length_nil, List.length_map, List.cons_append, List.nil_append, List.replicate, List.getElem?_cons_zero, List.getElem?_cons_succ, List.set_cons_zero, List.set_cons_succ, Nat.reduceAdd, Nat.reduceSub, if_true, if_false, id, ups_same, ex_lst, ex_lst2, ex_some, atI_0, atI_1, atI_2, atI_3, ixN_0, ixN_1, ixN_21, oIx_p, atr hu, tx_list]
  refine ⟨a, rfl, ha, fun i hi => ?_⟩
  rw [idx_uniq h.sg.asc hi]
  simp only [rD, sSeq, sNext_eq, sBreak_eq, sCont_eq, sDrop, sRet, sRetN, sIf, sSet, sPar, sAsg, sRaise, gN, gE, gC, gU, gS, qVar, qC, qBin, qTB, qChain, qNot, qAnd, qOr, bd_bl, qNotT, qAndT, qOrT, qTru, tru_non, tru_bl, tru_int, tru_str, tru_tup, tru_rol, tru_ref, qIf, qNil, qCons, qTup, qLst, qCB, cInt_i, cInt2_ii, cToInt_i, cToInt_b, cLen_s, cLen_t, cLen_r, cLen_l, cTuple_t, cTuple_r, cTuple_l, cList_t, cList_r, cList_l, qNeg, oI_ii, oAdd_ii, oSub, oMul, oDiv, oMod, oPow, oEq, oNe, oEqW_ii, oEqW_ss, oEqW_bb, oLt, oLe, oGt, oGe, oOrd_ii, oOrd_ss, oIx_t, oIx_r, oIx_l, oIx_s, qNo, qPart, qSl, oSl_t, oSl_r, oSl_l, oSl_s, qMeth, mAppend_1, iSeq, iRange1, iRange2, qCall, endsF, startD, List.map_cons, List.map_nil, List.length_cons, List.length_nil, List.length_map, List.cons_append, List.nil_append, List.replicate, List.getElem?_cons_zero, List.getElem?_cons_succ, List.set_cons_zero, List.set_cons_succ, Nat.reduceAdd, Nat.reduceSub, if_true, if_false, id, ups_same, ex_lst, ex_lst2, ex_some, atI_0, atI_1, atI_2, atI_3, ixN_0, ixN_1, ixN_21, oIx_p, h.atc hu (idx_lt ha)]
  rw [show c t u (idx l a) = ((c t u (idx l a)).toNat : Nat) by omega]
  exact hn
theorem p_led : ∀ ds S Q E, sp_led ad ds S Q E → r_led ad (endsF Q E) (startD N_led ds) S := by
  rintro ds S Q E ⟨l, t, e, x, s, rfl, h, hl, hx, hs, q⟩
  simp only [r_led, sSeq, sNext_eq, sBreak_eq, sCont_eq, sDrop, sRet, sRetN, sIf, sSet, sPar, sAsg, sRaise, gN, gE, gC, gU, gS, qVar, qC, qBin, qTB, qChain, qNot, qAnd, qOr, bd_bl, qNotT, qAndT, qOrT, qTru, tru_non, tru_bl, tru_int, tru_str, tru_tup, tru_rol, tru_ref, qIf, qNil, qCons, qTup, qLst, qCB, cInt_i, cInt2_ii, cToInt_i, cToInt_b, cLen_s, cLen_t, cLen_r, cLen_l, cTuple_t, cTuple_r, cTuple_l, cList_t, cList_r, cList_l, qNeg, oI_ii, oAdd_ii, oSub, oMul, oDiv, oMod, oPow, oEq, oNe, oEqW_ii, oEqW_ss, oEqW_bb, oLt, oLe, oGt, oGe, oOrd_ii, oOrd_ss, oIx_t, oIx_r, oIx_l, oIx_s, qNo, qPart, qSl, oSl_t, oSl_r, oSl_l, oSl_s, qMeth, mAppend_1, iSeq, iRange1, iRange2, qCall, endsF, startD, List.map_cons, List.map_nil, List.length_cons, List.length_nil, List.length_map, List.cons_append, List.nil_append, List.replicate, List.getElem?_cons_zero, List.getElem?_cons_succ, List.set_cons_zero, List.set_cons_succ, Nat.reduceAdd, Nat.reduceSub, if_true, if_false, id, ups_same, ex_lst, ex_lst2, ex_some, atI_0, atI_1, atI_2, atI_3, ixN_0, ixN_1, ixN_21, oIx_p]
  refine led_ok h hx hl hs (fun P S u a hu ha hn => led_body h u a hu ha hn) fun z => ?_
  exact ⟨S, Sub.refl S, q⟩
theorem p__law_led : ∀ ds S Q E, sp__law_led ad ds S Q E → r__law_led ad (endsF Q E) (startD N__law_led ds) S := by
  rintro ds S Q E ⟨l, t, e, x, s, rfl, h, hl, hx, hs, q⟩
  simp only [r__law_led, sSeq, sNext_eq, sBreak_eq, sCont_eq, sDrop, sRet, sRetN, sIf, sSet, sPar, sAsg, sRaise, gN, gE, gC, gU, gS, qVar, qC, qBin, qTB, qChain, qNot, qAnd, qOr, bd_bl, qNotT, qAndT, qOrT, qTru, tru_non, tru_bl, tru_int, tru_str, tru_tup, tru_rol, tru_ref, qIf, qNil, qCons, qTup, qLst, qCB, cInt_i, cInt2_ii, cToInt_i, cToInt_b, cLen_s, cLen_t, cLen_r, cLen_l, cTuple_t, cTuple_r, cTuple_l, cList_t, cList_r, cList_l, qNeg, oI_ii, oAdd_ii, oSub, oMul, oDiv, oMod, oPow, oEq, oNe, oEqW_ii, oEqW_ss, oEqW_bb, oLt, oLe, oGt, oGe, oOrd_ii, oOrd_ss, oIx_t, oIx_r, oIx_l, oIx_s, qNo, qPart, qSl, oSl_t, oSl_r, oSl_l, oSl_s, qMeth, mAppend_1, iSeq, iRange1, iRange2, qCall, endsF, startD, List.map_cons, List.map_nil, List.length_cons, List.length_nil, List.length_map, List.cons_append, List.nil_append, List.replicate, List.getElem?_cons_zero, List.getElem?_cons_succ, List.set_cons_zero, List.set_cons_succ, Nat.reduceAdd, Nat.reduceSub, if_true, if_false, id, ups_same, ex_lst, ex_lst2, ex_some, atI_0, atI_1, atI_2, atI_3, ixN_0, ixN_1, ixN_21, oIx_p]
  refine led_ok h hx hl hs (fun P S u a hu ha hn => led_body (ad := ad) h u a hu ha hn) fun z => ?_
  exact ⟨S, Sub.refl S, q⟩
theorem val_ok {S : Sto} {x : List Nat} {P : PD} (h : Ch l t e) (hx : ∀ a ∈ x, a ∈ l) (hp : P (.bl (dB (Va l t e x))) S) : oIx (.tup (e.map D.int)) (.int (run l t 0 x : Nat)) S fun d S1 => oEqW id d (.int 1) S1 P := by
  have hr := run_lt h x 0 hx h.pos
  have hl := h.len
  rw [oIx_t, atI_lt, List.getElem?_map, List.getElem?_eq_getElem (by omega)]
  refine ⟨_, rfl, ?_⟩
  rw [oEqW_ii]
  have e1 : e.getD (run l t 0 x) 0 = e[run l t 0 x] := by
    rw [List.getD_eq_getElem?_getD, List.getElem?_eq_getElem (by omega)]
    rfl
  have : dB (Va l t e x) = decide (e[run l t 0 x] = 1) := (dB_of (by
    unfold Va
    rw [e1, decide_eq_true_eq])).symm
  rw [this] at hp
  exact hp
theorem p_is_valid : ∀ ds S Q E, sp_is_valid ad ds S Q E → r_is_valid ad (endsF Q E) (startD N_is_valid ds) S := by
  rintro ds S Q E ⟨l, t, e, x, rfl, hz, hx, h1, h2⟩
  simp only [r_is_valid, sSeq, sNext_eq, sBreak_eq, sCont_eq, sDrop, sRet, sRetN, sIf, sSet, sPar, sAsg, sRaise, gN, gE, gC, gU, gS, qVar, qC, qBin, qTB, qChain, qNot, qAnd, qOr, bd_bl, qNotT, qAndT, qOrT, qTru, tru_non, tru_bl, tru_int, tru_str, tru_tup, tru_rol, tru_ref, qIf, qNil, qCons, qTup, qLst, qCB, cInt_i, cInt2_ii, cToInt_i, cToInt_b, cLen_s, cLen_t, cLen_r, cLen_l, cTuple_t, cTuple_r, cTuple_l, cList_t, cList_r, cList_l, qNeg, oI_ii, oAdd_ii, oSub, oMul, oDiv, oMod, oPow, oEq, oNe, oEqW_ii, oEqW_ss, oEqW_bb, oLt, oLe, oGt, oGe, oOrd_ii, oOrd_ss, oIx_t, oIx_r, oIx_l, oIx_s, qNo, qPart, qSl, oSl_t, oSl_r, oSl_l, oSl_s, qMeth, mAppend_1, iSeq, iRange1, iRange2, qCall, endsF, startD, List.map_cons, List.map_nil, List.length_cons, List.length_nil, List.length_map, List.cons_append, List.nil_append, List.replicate, List.getElem?_cons_zero, List.getElem?_cons_succ, List.set_cons_zero, List.set_cons_succ, Nat.reduceAdd, Nat.reduceSub, if_true, if_false, id, ups_same, ex_lst, ex_lst2, ex_some, atI_0, atI_1, atI_2, atI_3, ixN_0, ixN_1, ixN_21, oIx_p]
  rw [sp_check_number]
  refine ⟨l, t, e, x, rfl, hz, hx, fun hc hm => ?_, fun hc => ⟨S, Sub.refl S, h2 hc⟩⟩
  try simp only [sSeq, sNext_eq, sBreak_eq, sCont_eq, sDrop, sRet, sRetN, sIf, sSet, sPar, sAsg, sRaise, gN, gE, gC, gU, gS, qVar, qC, qBin, qTB, qChain, qNot, qAnd, qOr, bd_bl, qNotT, qAndT, qOrT, qTru, tru_non, tru_bl, tru_int, tru_str, tru_tup, tru_rol, tru_ref, qIf, qNil, qCons, qTup, qLst, qCB, cInt_i, cInt2_ii, cToInt_i, cToInt_b, cLen_s, cLen_t, cLen_r, cLen_l, cTuple_t, cTuple_r, cTuple_l, cList_t, cList_r, cList_l, qNeg, oI_ii, oAdd_ii, oSub, oMul, oDiv, oMod, oPow, oEq, oNe, oEqW_ii, oEqW_ss, oEqW_bb, oLt, oLe, oGt, oGe, oOrd_ii, oOrd_ss, oIx_t, oIx_r, oIx_l, oIx_s, qNo, qPart, qSl, oSl_t, oSl_r, oSl_l, oSl_s, qMeth, mAppend_1, iSeq, iRange1, iRange2, qCall, endsF, startD, List.map_cons, List.map_nil, List.length_cons, List.length_nil, List.length_map, List.cons_append, List.nil_append, List.replicate, List.getElem?_cons_zero, List.getElem?_cons_succ, List.set_cons_zero, List.set_cons_succ, Nat.reduceAdd, Nat.reduceSub, if_true, if_false, id, ups_same, ex_lst, ex_lst2, ex_some, atI_0, atI_1, atI_2, atI_3, ixN_0, ixN_1, ixN_21, oIx_p]
  unfold chD
  try simp only [sSeq, sNext_eq, sBreak_eq, sCont_eq, sDrop, sRet, sRetN, sIf, sSet, sPar, sAsg, sRaise, gN, gE, gC, gU, gS, qVar, qC, qBin, qTB, qChain, qNot, qAnd, qOr, bd_bl, qNotT, qAndT, qOrT, qTru, tru_non, tru_bl, tru_int, tru_str, tru_tup, tru_rol, tru_ref, qIf, qNil, qCons, qTup, qLst, qCB, cInt_i, cInt2_ii, cToInt_i, cToInt_b, cLen_s, cLen_t, cLen_r, cLen_l, cTuple_t, cTuple_r, cTuple_l, cList_t, cList_r, cList_l, qNeg, oI_ii, oAdd_ii, oSub, oMul, oDiv, oMod, oPow, oEq, oNe, oEqW_ii, oEqW_ss, oEqW_bb, oLt, oLe, oGt, oGe, oOrd_ii, oOrd_ss, oIx_t, oIx_r, oIx_l, oIx_s, qNo, qPart, qSl, oSl_t, oSl_r, oSl_l, oSl_s, qMeth, mAppend_1, iSeq, iRange1, iRange2, qCall, endsF, startD, List.map_cons, List.map_nil, List.length_cons, List.length_nil, List.length_map, List.cons_append, List.nil_append, List.replicate, List.getElem?_cons_zero, List.getElem?_cons_succ, List.set_cons_zero, List.set_cons_succ, Nat.reduceAdd, Nat.reduceSub, if_true, if_false, id, ups_same, ex_lst, ex_lst2, ex_some, atI_0, atI_1, atI_2, atI_3, ixN_0, ixN_1, ixN_21, oIx_p]
  rw [sp_led]
  refine ⟨l, t, e, x, 0, rfl, hc, hx, hm.2, hc.pos, ?_⟩
  exact val_ok hc hm.2 ⟨S, Sub.refl S, h1 hc hm⟩
theorem p__law_valid : ∀ ds S Q E, sp__law_valid ad ds S Q E → r__law_valid ad (endsF Q E) (startD N__law_valid ds) S := by
  rintro ds S Q E ⟨l, t, e, x, rfl, hc, hx, hm, q⟩
  simp only [r__law_valid, sSeq, sNext_eq, sBreak_eq, sCont_eq, sDrop, sRet, sRetN, sIf, sSet, sPar, sAsg, sRaise, gN, gE, gC, gU, gS, qVar, qC, qBin, qTB, qChain, qNot, qAnd, qOr, bd_bl, qNotT, qAndT, qOrT, qTru, tru_non, tru_bl, tru_int, tru_str, tru_tup, tru_rol, tru_ref, qIf, qNil, qCons, qTup, qLst, qCB, cInt_i, cInt2_ii, cToInt_i, cToInt_b, cLen_s, cLen_t, cLen_r, cLen_l, cTuple_t, cTuple_r, cTuple_l, cList_t, cList_r, cList_l, qNeg, oI_ii, oAdd_ii, oSub, oMul, oDiv, oMod, oPow, oEq, oNe, oEqW_ii, oEqW_ss, oEqW_bb, oLt, oLe, oGt, oGe, oOrd_ii, oOrd_ss, oIx_t, oIx_r, oIx_l, oIx_s, qNo, qPart, qSl, oSl_t, oSl_r, oSl_l, oSl_s, qMeth, mAppend_1, iSeq, iRange1, iRange2, qCall, endsF, startD, List.map_cons, List.map_nil, List.length_cons, List.length_nil, List.length_map, List.cons_append, List.nil_append, List.replicate, List.getElem?_cons_zero, List.getElem?_cons_succ, List.set_cons_zero, List.set_cons_succ, Nat.reduceAdd, Nat.reduceSub, if_true, if_false, id, ups_same, ex_lst, ex_lst2, ex_some, atI_0, atI_1, atI_2, atI_3, ixN_0, ixN_1, ixN_21, oIx_p]
  unfold chD
  try simp only [sSeq, sNext_eq, sBreak_eq, sCont_eq, sDrop, sRet, sRetN, sIf, sSet, sPar, sAsg, sRaise, gN, gE, gC, gU, gS, qVar, qC, qBin, qTB, qChain, qNot, qAnd, qOr, bd_bl, qNotT, qAndT, qOrT, qTru, tru_non, tru_bl, tru_int, tru_str, tru_tup, tru_rol, tru_ref, qIf, qNil, qCons, qTup, qLst, qCB, cInt_i, cInt2_ii, cToInt_i, cToInt_b, cLen_s, cLen_t, cLen_r, cLen_l, cTuple_t, cTuple_r, cTuple_l, cList_t, cList_r, cList_l, qNeg, oI_ii, oAdd_ii, oSub, oMul, oDiv, oMod, oPow, oEq, oNe, oEqW_ii, oEqW_ss, oEqW_bb, oLt, oLe, oGt, oGe, oOrd_ii, oOrd_ss, oIx_t, oIx_r, oIx_l, oIx_s, qNo, qPart, qSl, oSl_t, oSl_r, oSl_l, oSl_s, qMeth, mAppend_1, iSeq, iRange1, iRange2, qCall, endsF, startD, List.map_cons, List.map_nil, List.length_cons, List.length_nil, List.length_map, List.cons_append, List.nil_append, List.replicate, List.getElem?_cons_zero, List.getElem?_cons_succ, List.set_cons_zero, List.set_cons_succ, Nat.reduceAdd, Nat.reduceSub, if_true, if_false, id, ups_same, ex_lst, ex_lst2, ex_some, atI_0, atI_1, atI_2, atI_3, ixN_0, ixN_1, ixN_21, oIx_p]
  rw [sp__law_led, sp_led]
  refine ⟨l, t, e, x, 0, rfl, hc, hx, hm, hc.pos, ?_⟩
  exact val_ok hc hm ⟨S, Sub.refl S, q⟩
end
section
def one (a : Nat) : Str := ⟨#[a]⟩
theorem signs_tx {l : List Nat} : PL.signs (tx l) = l.map one := by
  unfold PL.signs
  rw [tx_list]
  rfl
theorem cD_map {l : List Nat} : l.map cD = (l.map one).map D.str := by
  rw [List.map_map]
  rfl
theorem one_inj {a b : Nat} (h : one a = one b) : a = b := by
  unfold one at h
  simpa using h
theorem nodup_one {l : List Nat} : (l.map one).Nodup ↔ l.Nodup := by
  constructor
  · intro h
    exact (List.pairwise_map.mp h).imp fun hab z => hab (by rw [z])
  · intro h
    exact List.pairwise_map.mpr (h.imp fun hab z => hab (one_inj z))
theorem fold_self {K : Type} [DecidableEq K] : ∀ (ks acc : List K), (acc ++ ks).Nodup → ks.foldl stepDed acc = acc ++ ks
  | [], acc, _ => by simp
  | k :: ks, acc, h => by
    have hk : k ∉ acc := fun z => (List.nodup_append.mp h).2.2 k z k (List.mem_cons_self ..) rfl
    rw [List.foldl_cons]
    have e : stepDed acc k = acc ++ [k] := by unfold stepDed; rw [if_neg hk]
    have e2 : acc ++ k :: ks = (acc ++ [k]) ++ ks := by simp
    rw [e, e2, fold_self ks (acc ++ [k]) (by rw [← e2]; exact h)]
theorem ded_self {K : Type} [DecidableEq K] {ks : List K} (h : ks.Nodup) : ded ks = ks := fold_self ks [] h
theorem uniq : ∀ l l2 : List Nat, l.Pairwise (· < ·) → l2.Pairwise (· ≤ ·) → l2.Perm l → l2 = l
  | [], l2, _, _, h => List.Perm.eq_nil h
  | a :: r, [], _, _, h => by
    have := h.length_eq
    simp at this
  | a :: r, b :: r2, h1, h2, h => by
    obtain ⟨p1, p2⟩ := List.pairwise_cons.mp h1
    obtain ⟨q1, q2⟩ := List.pairwise_cons.mp h2
    have hb : b ∈ a :: r := h.mem_iff.mp (List.mem_cons_self ..)
    have ha : a ∈ b :: r2 := h.mem_iff.mpr (List.mem_cons_self ..)
    have e : a = b := by
      rcases List.mem_cons.mp hb with z | z
      · exact z.symm
      · rcases List.mem_cons.mp ha with y | y
        · exact y
        · have := p1 b z
          have := q1 a y
          omega
    subst e
    rw [uniq r r2 p2 q2 (List.Perm.cons_inv h)]
theorem rising_one : ∀ (l : List Nat) (p : Nat), risingS (one p) (l.map one) = true ↔ (p :: l).Pairwise (· ≤ ·)
  | [], p => by simp [risingS]
  | x :: l, p => by
    have ih := rising_one l x
    have e : ltCps (one x).cps.toList (one p).cps.toList = decide (x < p) := by
      unfold one
      simp [ltCps]
    show (!ltCps (one x).cps.toList (one p).cps.toList && risingS (one x) (l.map one)) = true ↔ _
    rw [e, Bool.and_eq_true, ih, List.pairwise_cons (a := p)]
    constructor
    · rintro ⟨h1, h2⟩
      have h1 : p ≤ x := by simpa using h1
      refine ⟨fun y hy => ?_, h2⟩
      rcases List.mem_cons.mp hy with rfl | hy
      · exact h1
      · exact Nat.le_trans h1 ((List.pairwise_cons.mp h2).1 y hy)
    · rintro ⟨h1, h2⟩
      exact ⟨by simpa using h1 x (List.mem_cons_self ..), h2⟩
theorem sorted_one {l : List Nat} : sortedS (l.map one) = true ↔ l.Pairwise (· ≤ ·) := by
  cases l with
  | nil => simp [sortedS]
  | cons a r => exact rising_one r a
theorem one_of {os : List Str} {l : List Nat} (h : ∀ x ∈ os, ∃ a, x = one a) : ∃ l2 : List Nat, os = l2.map one := by
  induction os with
  | nil => exact ⟨[], rfl⟩
  | cons x r ih =>
    obtain ⟨a, rfl⟩ := h x (List.mem_cons_self ..)
    obtain ⟨l2, e⟩ := ih fun y hy => h y (List.mem_cons_of_mem _ hy)
    exact ⟨a :: l2, by rw [e]; rfl⟩
theorem perm_one {l l2 : List Nat} (h : (l2.map one).Perm (l.map one)) : l2.Perm l := by
  have := h.map fun x => x.cps.toList.headD 0
  rw [List.map_map, List.map_map] at this
  have e : ∀ l : List Nat, l.map ((fun x : Str => x.cps.toList.headD 0) ∘ one) = l := fun l => by
    refine Eq.trans (List.map_congr_left fun a _ => ?_) (List.map_id l)
    rfl
  rw [e, e] at this
  exact this
theorem asc_iff {l : List Nat} {os : List Str} (hp : os.Perm (ded (l.map one))) (hs : sortedS os = true) : l.map one = os ↔ l.Pairwise (· < ·) := by
  constructor
  · rintro rfl
    have nd : (l.map one).Nodup := Classical.byContradiction fun z => by
      have := (ded_lt (l.map one)).mpr z
      have := hp.length_eq
      omega
    have nd := nodup_one.mp nd
    have le := sorted_one.mp hs
    exact (le.and nd).imp fun h => Nat.lt_of_le_of_ne h.1 h.2
  · intro h
    have nd : (l.map one).Nodup := nodup_one.mpr (h.imp fun hab => Nat.ne_of_lt hab)
    rw [ded_self nd] at hp
    obtain ⟨l2, rfl⟩ := one_of (l := l) fun x hx => by
      obtain ⟨a, _, e⟩ := List.mem_map.mp (hp.mem_iff.mp hx)
      exact ⟨a, e.symm⟩
    rw [uniq l l2 h (sorted_one.mp hs) (perm_one hp)]
theorem fold_mem {K : Type} [DecidableEq K] : ∀ (ks acc : List K) (x : K), x ∈ ks.foldl stepDed acc → x ∈ acc ∨ x ∈ ks
  | [], acc, x, h => .inl h
  | k :: ks, acc, x, h => by
    rcases fold_mem ks (stepDed acc k) x h with z | z
    · unfold stepDed at z
      split at z
      · exact .inl z
      · rcases List.mem_append.mp z with y | y
        · exact .inl y
        · rw [List.mem_singleton.mp y]
          exact .inr (List.mem_cons_self ..)
    · exact .inr (List.mem_cons_of_mem _ z)
theorem ded_mem {K : Type} [DecidableEq K] (ks : List K) (x : K) (h : x ∈ ded ks) : x ∈ ks := (fold_mem ks [] x h).resolve_left (by simp)
theorem asc_zip_b {l : List Nat} : ((l.zip (l.drop 1)).map fun p => decide (p.1 < p.2)).all id = true ↔ l.Pairwise (· < ·) := by
  rw [asc_zip, List.all_map, List.all_eq_true]
  exact ⟨fun h a ha => of_decide_eq_true (h a ha), fun h a ha => decide_eq_true (h a ha)⟩
theorem eqv_strs : ∀ as bs : List Str, PyData.eqvAll (as.map .str) (bs.map .str) = decide (as = bs)
  | [], [] => rfl
  | [], b :: bs => rfl
  | a :: as, [] => rfl
  | a :: as, b :: bs => by
    show (PyData.eqv (.str a) (.str b) && PyData.eqvAll (as.map .str) (bs.map .str)) = _
    rw [eqv_strs as bs]
    unfold PyData.eqv
    by_cases h1 : a = b <;> by_cases h2 : as = bs <;> simp [h1, h2]
theorem dats_strs {S : Sto} : ∀ v : List Str, Dats S (v.map D.str) (v.map PyData.str)
  | [] => .nil
  | x :: v => .cons (.str x) (dats_strs v)
theorem lay_one : ∀ a, a < 128 → PyData.canLay0 (.str (one a)) = true := by decide +kernel
theorem lay_all {os : List Str} (h : ∀ x ∈ os, ∃ a, a < 128 ∧ x = one a) : PyData.canLayAll0 (os.map .str) = true ∧ PyData.depthAll (os.map .str) = 0 := by
  induction os with
  | nil => exact ⟨rfl, rfl⟩
  | cons x r ih =>
    obtain ⟨a, ha, rfl⟩ := h x (List.mem_cons_self ..)
    obtain ⟨i1, i2⟩ := ih fun y hy => h y (List.mem_cons_of_mem _ hy)
    refine ⟨?_, ?_⟩
    · show (PyData.canLay0 (.str (one a)) && PyData.canLayAll0 (r.map .str)) = true
      rw [lay_one a ha, i1]
      rfl
    · show max 0 (PyData.depthAll (r.map .str)) = 0
      rw [i2]
      rfl
theorem shaped_all {os : List Str} (h : ∀ x ∈ os, ∃ a, a < 128 ∧ x = one a) : SeqAt.shaped (.list (os.map .str)) = true := by
  obtain ⟨h1, h2⟩ := lay_all h
  unfold SeqAt.shaped
  have e1 : PyData.canLay0 (.list (os.map .str)) = true := h1
  have e2 : PyData.depth (.list (os.map .str)) = 1 := by
    show PyData.depthAll (os.map .str) + 1 = 1
    rw [h2]
  rw [e1, e2]
  rfl
end
section
theorem join_one (l : List Nat) : Txt.join "" (l.map one) = tx l := by
  have h := TL.tl_join ("" : Str) (l.map one)
  have e : ∀ S : List (List Nat), TL.joinL [] S = S.flatten := fun S => by
    induction S with
    | nil => rfl
    | cons p r ih =>
      cases r with
      | nil => simp [TL.joinL]
      | cons q r => 
        show p ++ ([] ++ TL.joinL [] (q :: r)) = _
        rw [ih]
        simp
  have e0 : TL.tl ("" : Str) = [] := by decide +kernel
  rw [e0, e, List.map_map] at h
  have e2 : ∀ l : List Nat, (l.map fun a => [a]).flatten = l := fun l => by
    induction l with
    | nil => rfl
    | cons a r ih =>
      show a :: (r.map fun a => [a]).flatten = _
      rw [ih]
  have e3 : l.map (TL.tl ∘ one) = l.map fun a => [a] := rfl
  rw [e3, e2] at h
  rw [TL.join_eq]
  exact TL.ext_tl (h.trans (by unfold tx; rfl))
theorem len_one (l : List Nat) : ((l.map one).map (·.length)).sum = l.length := by
  induction l with
  | nil => rfl
  | cons a r ih =>
    show 1 + ((r.map one).map (·.length)).sum = _
    rw [ih, List.length_cons]
    omega
theorem p__law_text : ∀ ds S Q E, sp__law_text ad ds S Q E → r__law_text ad (endsF Q E) (startD N__law_text ds) S := by
  rintro ds S Q E ⟨s, n, xs, k, l, m, rfl, h, hk, hl1, hl2, hm, q⟩
  have hk0 := h.k0
  have I0 := St.start h
  simp only [r__law_text, qMethS, mJoin, sSeq, sNext_eq, sBreak_eq, sCont_eq, sDrop, sRet, sRetN, sIf, sSet, sPar, sAsg, sRaise, gN, gE, gC, gU, gS, qVar, qC, qBin, qTB, qChain, qNot, qAnd, qOr, bd_bl, qNotT, qAndT, qOrT, qTru, tru_non, tru_bl, tru_int, tru_str, tru_tup, tru_rol, tru_ref, qIf, qNil, qCons, qTup, qLst, qCB, cInt_i, cInt2_ii, cToInt_i, cToInt_b, cLen_s, cLen_t, cLen_r, cLen_l, cTuple_t, cTuple_r, cTuple_l, cList_t, cList_r, cList_l, qNeg, oI_ii, oAdd_ii, oSub, oMul, oDiv, oMod, oPow, oEq, oNe, oEqW_ii, oEqW_ss, oEqW_bb, oLt, oLe, oGt, oGe, oOrd_ii, oOrd_ss, oIx_t, oIx_r, oIx_l, oIx_s, qNo, qPart, qSl, oSl_t, oSl_r, oSl_l, oSl_s, qMeth, mAppend_1, iSeq, iRange1, iRange2, qCall, endsF, startD, List.map_cons, List.map_nil, List.length_cons, List.length_nil, List.length_map, List.cons_append, List.nil_append, List.replicate, List.getElem?_cons_zero, List.getElem?_cons_succ, List.set_cons_zero, List.set_cons_succ, Nat.reduceAdd, Nat.reduceSub, if_true, if_false, id, ups_same, ex_lst, ex_lst2, ex_some, atI_0, atI_1, atI_2, atI_3, ixN_0, ixN_1, ixN_21, oIx_p]
  refine lc_intro ?_
  simp only [sSeq, sNext_eq, sBreak_eq, sCont_eq, sDrop, sRet, sRetN, sIf, sSet, sPar, sAsg, sRaise, gN, gE, gC, gU, gS, qVar, qC, qBin, qTB, qChain, qNot, qAnd, qOr, bd_bl, qNotT, qAndT, qOrT, qTru, tru_non, tru_bl, tru_int, tru_str, tru_tup, tru_rol, tru_ref, qIf, qNil, qCons, qTup, qLst, qCB, cInt_i, cInt2_ii, cToInt_i, cToInt_b, cLen_s, cLen_t, cLen_r, cLen_l, cTuple_t, cTuple_r, cTuple_l, cList_t, cList_r, cList_l, qNeg, oI_ii, oAdd_ii, oSub, oMul, oDiv, oMod, oPow, oEq, oNe, oEqW_ii, oEqW_ss, oEqW_bb, oLt, oLe, oGt, oGe, oOrd_ii, oOrd_ss, oIx_t, oIx_r, oIx_l, oIx_s, qNo, qPart, qSl, oSl_t, oSl_r, oSl_l, oSl_s, qMeth, mAppend_1, iSeq, iRange1, iRange2, qCall, endsF, startD, List.map_cons, List.map_nil, List.length_cons, List.length_nil, List.length_map, List.cons_append, List.nil_append, List.replicate, List.getElem?_cons_zero, List.getElem?_cons_succ, List.set_cons_zero, List.set_cons_succ, Nat.reduceAdd, Nat.reduceSub, if_true, if_false, id, ups_same, ex_lst, ex_lst2, ex_some, atI_0, atI_1, atI_2, atI_3, ixN_0, ixN_1, ixN_21, oIx_p]
  refine ⟨by omega, by omega, fun p hp => ?_⟩
  have hps := h.ne_s hp
  refine ⟨fun i acc S' => ∃ x : List Nat, acc = x.map cD ∧ x.length = i ∧ (∀ a ∈ x, a ∈ l) ∧ S' p = some (.lst acc) ∧ St S S' s n xs (k + i), ⟨[], rfl, rfl, by simp, ups_same, by simpa using I0.new hp⟩, ?_, ?_⟩
  · rintro i d acc S' hi ⟨x, rfl, hx, hxl, e, I⟩
    obtain ⟨hi1, rfl⟩ := rangeD_get hi
    refine ⟨trivial, ?_⟩
    simp only [wipeD, qYes, sSeq, sNext_eq, sBreak_eq, sCont_eq, sDrop, sRet, sRetN, sIf, sSet, sPar, sAsg, sRaise, gN, gE, gC, gU, gS, qVar, qC, qBin, qTB, qChain, qNot, qAnd, qOr, bd_bl, qNotT, qAndT, qOrT, qTru, tru_non, tru_bl, tru_int, tru_str, tru_tup, tru_rol, tru_ref, qIf, qNil, qCons, qTup, qLst, qCB, cInt_i, cInt2_ii, cToInt_i, cToInt_b, cLen_s, cLen_t, cLen_r, cLen_l, cTuple_t, cTuple_r, cTuple_l, cList_t, cList_r, cList_l, qNeg, oI_ii, oAdd_ii, oSub, oMul, oDiv, oMod, oPow, oEq, oNe, oEqW_ii, oEqW_ss, oEqW_bb, oLt, oLe, oGt, oGe, oOrd_ii, oOrd_ss, oIx_t, oIx_r, oIx_l, oIx_s, qNo, qPart, qSl, oSl_t, oSl_r, oSl_l, oSl_s, qMeth, mAppend_1, iSeq, iRange1, iRange2, qCall, endsF, startD, List.map_cons, List.map_nil, List.length_cons, List.length_nil, List.length_map, List.cons_append, List.nil_append, List.replicate, List.getElem?_cons_zero, List.getElem?_cons_succ, List.set_cons_zero, List.set_cons_succ, Nat.reduceAdd, Nat.reduceSub, if_true, if_false, id, ups_same, ex_lst, ex_lst2, ex_some, atI_0, atI_1, atI_2, atI_3, ixN_0, ixN_1, ixN_21, oIx_p, tx_len]
    refine ⟨szL (by omega), ?_⟩
    rw [sp__law_next]
    refine ⟨s, n, xs, _, _, rfl, I.st, by omega, by omega, fun r r0 r1 => ?_⟩
    obtain ⟨r, rfl⟩ := Int.eq_ofNat_of_zero_le r0
    have hr : r < l.length := by omega
    rw [oIx_s, tx_len, tx_list, atI_lt, List.getElem?_eq_getElem hr]
    refine ⟨szL (by omega), l[r], rfl, ?_⟩
    have I2 := I.step (i := k + i + 1) (by omega)
    have e2 : stepS S' s n (k + i + 1) p = some (.lst (x.map cD)) := by rw [stepS_ne hps]; exact e
    refine ⟨e2, szB (by omega), x ++ [l[r]], by rw [List.map_append]; rfl, by rw [List.length_append, hx]; rfl, fun a ha => ?_, trivial, ?_⟩
    · rcases List.mem_append.mp ha with z | z
      · exact hxl a z
      · rw [List.mem_singleton.mp z]
        exact List.getElem_mem hr
    · have := I2.set hp (o := .lst (x.map cD ++ [.str ⟨#[l[r]]⟩]))
      rw [show k + (i : Int) + 1 = k + ((i + 1 : Nat) : Int) by omega] at this
      rw [show k + (i : Int) + 1 = k + ((i + 1 : Nat) : Int) by omega]
      exact this
  · rintro acc S' ⟨x, rfl, hx, hxl, e, I⟩
    have e9 : (Src.vals (rangeD 0 (m : Int).toNat)).items.length = m := by
      have := rangeD_len (lo := 0) (n := (m : Int).toNat)
      rw [Int.toNat_natCast] at this
      exact this
    rw [e9] at hx I
    refine ⟨trivial, _, x.map one, rfl, .inl (.inr ⟨p, rfl, by rw [e, cD_map]⟩), ?_, _, I.at_, ?_⟩
    · rw [len_one, List.length_map]
      have : ("" : Str).length = 0 := by decide +kernel
      rw [this]
      omega
    · rw [join_one]
      exact q x _ hx hxl (by omega) (by omega)
theorem all_nd : allS.Pairwise (· < ·) := by decide +kernel
theorem dig_eq : ("0123456789ab" : Str) = tx (allS.take 12) := by decide +kernel
theorem all_tx : ("0123456789abcdefghijklmnopqrstuvwxyz" : Str) = tx allS := by decide +kernel
theorem cutT {l : List Nat} {m : Nat} (h : m ≤ l.length) : cutS (tx l) none (some (m : Int)) = tx (l.take m) := by
  unfold cutS
  rw [tx_list, tx_len, HT.sIx_none, HT.sIx_nat, Nat.min_eq_left h]
  unfold tx
  simp
end
end PL

namespace PL
open PySem PySem.Spec PyProof.Rows L2 -- the layers
variable {ad : Ad}
/-! more of texts, tables, checkers -/
section
variable {t : Tb}
theorem cut_take {α : Type} {xs : List α} {a : Nat} (h : a ≤ xs.length) : cutL xs none (some (a : Int)) = xs.take a := by
  unfold cutL
  rw [HT.sIx_none, HT.sIx_nat, Nat.min_eq_left h]
  simp
theorem cut_drop {α : Type} {xs : List α} {a : Nat} (h : a ≤ xs.length) : cutL xs (some (a : Int)) none = xs.drop a := by
  unfold cutL
  rw [HT.sIx_none, HT.sIx_nat, Nat.min_eq_left h]
  exact List.take_of_length_le (by simp)
theorem oAdd_tt {xs ys : List D} {S : Sto} {P : PD} : oAdd (.tup xs) (.tup ys) S P = (xs.length + ys.length ≤ sizeLine ∧ P (.tup (xs ++ ys)) S) := rfl
/-- a table with its row a another one -/
def setR (t : Tb) (a : Nat) (r : List Int) : Tb := t.take a ++ [r] ++ t.drop (a + 1)
theorem setR_len {a : Nat} {r : List Int} (h : a < t.length) : (setR t a r).length = t.length := by
  unfold setR
  simp
  omega
theorem setR_mem {a : Nat} {r x : List Int} (h : x ∈ setR t a r) : x = r ∨ x ∈ t := by
  unfold setR at h
  rcases List.mem_append.mp h with h | h
  · rcases List.mem_append.mp h with h | h
    · exact .inr (List.mem_of_mem_take h)
    · exact .inl (List.mem_singleton.mp h)
  · exact .inr (List.mem_of_mem_drop h)
theorem setR_in {a : Nat} {r : List Int} : r ∈ setR t a r := by
  unfold setR
  simp
def setC (r : List Int) (b : Nat) (v : Int) : List Int := r.take b ++ [v] ++ r.drop (b + 1)
theorem setC_len {r : List Int} {b : Nat} {v : Int} (h : b < r.length) : (setC r b v).length = r.length := by
  unfold setC
  simp
  omega
theorem setC_mem {r : List Int} {b : Nat} {v x : Int} (h : x ∈ setC r b v) : x = v ∨ x ∈ r := by
  unfold setC at h
  rcases List.mem_append.mp h with h | h
  · rcases List.mem_append.mp h with h | h
    · exact .inr (List.mem_of_mem_take h)
    · exact .inl (List.mem_singleton.mp h)
  · exact .inr (List.mem_of_mem_drop h)
theorem tD_setR {a : Nat} {r : List Int} (h : a < t.length) : D.tup (cutL (t.map rD) none (some (a : Int)) ++ [rD r] ++ cutL (t.map rD) (some ((a : Int) + 1)) none) = tD (setR t a r) := by
  rw [cut_take (by rw [List.length_map]; omega), show (a : Int) + 1 = ((a + 1 : Nat) : Int) by omega, cut_drop (by rw [List.length_map]; omega)]
  unfold tD setR
  simp
theorem len_cut {xs : List D} {lo hi : Option Int} : (cutL xs lo hi).length ≤ xs.length := cut_len
theorem cut_last {α : Type} {xs : List α} (h : 1 ≤ xs.length) : cutL xs none (some (-1)) = xs.take (xs.length - 1) := by
  unfold cutL
  have e : HT.sIx xs.length xs.length (some (-1)) = xs.length - 1 := by
    show (if (-1 : Int) < 0 then ((-1 : Int) + (xs.length : Int)).toNat else min (-1 : Int).toNat xs.length) = _
    rw [if_pos (by omega)]
    omega
  rw [e, HT.sIx_none]
  simp
theorem mulN_go {d : D} {k : Int} {S : Sto} {P : PD} (h1 : 2 ≤ k) (h2 : k ≤ 1000) (h : P (.tup (List.replicate k.toNat d)) S) : oMulY (.tup [d]) (.int k) S P := .inl (.inr ⟨_, _, rfl, rfl, by simp, h1, h2, by simp, by
  have e : (List.replicate k.toNat [d]).flatten = List.replicate k.toNat d := by simp
  rw [e]
  exact h⟩)
theorem tx_app {a b : List Nat} : tx a ++ tx b = tx (a ++ b) := by
  refine TL.ext_tl ?_
  show (tx a ++ tx b).cps.toList = _
  have : (tx a ++ tx b).cps = (tx a).cps ++ (tx b).cps := rfl
  rw [this]
  unfold tx
  simp
theorem cutD {l : List Nat} {m : Nat} (h : m ≤ l.length) : cutS (tx l) (some (m : Int)) none = tx (l.drop m) := by
  unfold cutS
  rw [tx_list, tx_len, HT.sIx_none, HT.sIx_nat, Nat.min_eq_left h]
  unfold tx
  congr 2
  exact List.take_of_length_le (by simp)
theorem rep2 {a : List Nat} : strRep 2 (tx a) = tx (a ++ a) := by
  unfold strRep
  rw [tx_list]
  unfold tx
  congr 1
  show (List.replicate 2 a).flatten.toArray = _
  simp
theorem oAdd_ss {x y : Str} {S : Sto} {P : PD} : oAdd (.str x) (.str y) S P = (x.length + y.length ≤ sizeLine ∧ P (.str (x ++ y)) S) := rfl
def WB (d : D) : Prop := ∃ l t e, d = chD l t e ∧ Sz l t e ∧ ¬ Ch l t e
section
variable {l : List Nat} {e : List Int} (h : Ch l t e)
include h
theorem sz_of : Sz l t e := ⟨by have := h.sg.hi; omega, by have := h.le; omega, fun r hr => by rw [h.row r hr]; have := h.sg.hi; omega, by have := h.len; have := h.le; omega⟩
theorem wb_l {l' : List Nat} (hl : l'.length ≤ 100) (hb : ¬ Sg l') : WB (chD l' t e) := ⟨l', t, e, rfl, ⟨hl, (sz_of h).mv, (sz_of h).row, (sz_of h).en⟩, fun z => hb z.sg⟩
theorem wb_e {e' : List Int} (hl : e'.length ≤ 100) (hb : e'.length ≠ t.length ∨ ∃ x ∈ e', x ≠ 0 ∧ x ≠ 1) : WB (chD l t e') := ⟨l, t, e', rfl, ⟨(sz_of h).sg, (sz_of h).mv, (sz_of h).row, hl⟩, fun z => by
  rcases hb with y | ⟨x, hx, y⟩
  · exact y z.len
  · have := z.bit x hx
    omega⟩
theorem wb_t {a : Nat} (ha : a < t.length) {r : List Int} (h1 : r.length ≤ 100) (h2 : r.length ≠ l.length ∨ ∃ x ∈ r, x < 0 ∨ (t.length : Int) ≤ x) : WB (chD l (setR t a r) e) := ⟨l, setR t a r, e, rfl, ⟨(sz_of h).sg, by rw [setR_len ha]; exact (sz_of h).mv, fun x hx => by
    rcases setR_mem hx with rfl | z
    · exact h1
    · exact (sz_of h).row x z, (sz_of h).en⟩, fun z => by
  rcases h2 with y | ⟨x, hx, y⟩
  · exact y (z.row _ setR_in)
  · have := z.rng _ setR_in x hx
    rw [setR_len ha] at this
    omega⟩
theorem wb2 : WB (chD (l.take 1 ++ l.take 1 ++ l.drop 2) t e) := by
  refine wb_l h (by have := h.sg.hi; simp; omega) fun z => ?_
  have := z.asc
  match l, h.sg.lo with
  | x :: y :: r, _ =>
    have h2 := (List.pairwise_cons.mp this).1 x (by simp)
    omega
theorem wb3 : WB (chD (65 :: l.drop 1) t e) := by
  refine wb_l h (by have := h.sg.hi; simp; omega) fun z => ?_
  have := z.all 65 (List.mem_cons_self ..)
  revert this
  decide
theorem wb10 : WB (chD l (List.replicate 61 (List.replicate l.length 0)) (List.replicate 61 1)) := ⟨_, _, _, rfl, ⟨(sz_of h).sg, by simp, fun r hr => by rw [List.eq_of_mem_replicate hr, List.length_replicate]; exact (sz_of h).sg, by simp⟩, fun z => by have := z.le; simp at this⟩
theorem wb9 : WB (chD l [] []) := ⟨_, _, _, rfl, ⟨(sz_of h).sg, by simp, fun r hr => (by cases hr), by simp⟩, fun z => by have := z.pos; simp at this⟩
end
theorem wb0 : WB (chD [48] [[0]] [1]) := ⟨_, _, _, rfl, ⟨by simp, by simp, fun r hr => by rw [List.mem_singleton.mp hr]; simp, by simp⟩, fun z => by have := z.sg.lo; simp at this⟩
theorem wb4 : WB (chD [48, 49, 50, 51, 52, 53, 54, 55, 56, 57, 97, 98, 99] [List.replicate 13 0] [1]) := ⟨_, _, _, rfl, ⟨by simp, by simp, fun r hr => by rw [List.mem_singleton.mp hr]; simp, by simp⟩, fun z => by have := z.sg.hi; simp at this⟩
theorem St.fr {S0 S : Sto} {s n b : Addr} {xs : List Int} {j : Int} (I : St S0 S s n xs j) (hb : S b = none) : S0 b = none := by
  have hbs : b ≠ s := I.st.ne_s hb
  cases z : S0 b with
  | none => rfl
  | some o =>
    have := I.at_ b o (by rw [stepS_ne hbs]; exact z)
    rw [this] at hb
    cases hb
theorem at12 {r : Int} (h0 : 0 ≤ r) (h1 : r < 12) : ∃ c : Nat, atI [D.int 0, D.int 1, D.int 2, D.int 3, D.int 4, D.int 5, D.int 5, D.int 6, D.int 7, D.int 8, D.int 9, D.int 10] r = some (.int c) ∧ c < 11 := by
  obtain ⟨j, rfl⟩ := Int.eq_ofNat_of_zero_le h0
  match j, h1 with
  | 0, _ => exact ⟨0, rfl, by omega⟩
  | 1, _ => exact ⟨1, rfl, by omega⟩
  | 2, _ => exact ⟨2, rfl, by omega⟩
  | 3, _ => exact ⟨3, rfl, by omega⟩
  | 4, _ => exact ⟨4, rfl, by omega⟩
  | 5, _ => exact ⟨5, rfl, by omega⟩
  | 6, _ => exact ⟨5, rfl, by omega⟩
  | 7, _ => exact ⟨6, rfl, by omega⟩
  | 8, _ => exact ⟨7, rfl, by omega⟩
  | 9, _ => exact ⟨8, rfl, by omega⟩
  | 10, _ => exact ⟨9, rfl, by omega⟩
  | 11, _ => exact ⟨10, rfl, by omega⟩
  | n + 12, h => exact absurd h (by omega)
theorem mulS2_go {a : List Nat} {S : Sto} {P : PD} (hl : a.length ≤ 1000) (h : P (.str (tx (a ++ a))) S) : oMulX (.str (tx a)) (.int 2) S P := .inl (.inr ⟨tx a, 2, rfl, rfl, by omega, by omega, by rw [tx_len]; show a.length * 2 ≤ _; omega, by rw [rep2]; exact h⟩)
end
section
def nonP : PyData := .tuple [.str "told", .none]
theorem dat_no (S : Sto) : Dat S (.tup [.str "told", .non]) nonP := Dat.pure (.tup [.str "told", .non]) rfl
theorem good_no : good (.list [nonP]) := by
  refine good_of ?_ ?_ ?_
  · have e : (("told" : Str).cps.toList.all fun c => decide (c < 16 ^ 8)) = true := by decide +kernel
    simp only [nonP, fine, fines, e, Bool.and_true]
  · have e : ("told" : Str).length = 4 := by decide +kernel
    simp only [nonP, sz, szs, e]
    omega
  · show 2 ≤ 60
    decide
theorem row_data {r : List Int} (h : ∀ x ∈ r, -100 < x ∧ x < 100) : pureDs (r.map D.int) = true ∧ fines (pyDs (r.map D.int)) = true ∧ szs (pyDs (r.map D.int)) ≤ 12 * r.length ∧ PyData.depthAll (pyDs (r.map D.int)) = 0 := by
  induction r with
  | nil => exact ⟨rfl, rfl, Nat.le_refl _, rfl⟩
  | cons x r ih =>
    obtain ⟨h1, h2, h3, h4⟩ := ih fun y hy => h y (List.mem_cons_of_mem _ hy)
    have hx := h x (List.mem_cons_self ..)
    have hlog : x.natAbs.log2 < 7 := log_of (k := 7) (by omega) (by decide)
    refine ⟨?_, ?_, ?_, ?_⟩
    · show (pureD (.int x) && pureDs (r.map D.int)) = true
      rw [h1]
      rfl
    · show (fine (.int x) && fines (pyDs (r.map D.int))) = true
      rw [h2]
      simp only [fine, Bool.and_true, decide_eq_true_eq]
      omega
    · show sz (.int x) + 2 + szs (pyDs (r.map D.int)) ≤ _
      simp only [sz, List.length_cons]
      omega
    · show max 0 (PyData.depthAll (pyDs (r.map D.int))) = 0
      rw [h4]
      rfl
theorem tab_data {t : Tb} (h : ∀ r ∈ t, r.length ≤ 12 ∧ ∀ x ∈ r, -100 < x ∧ x < 100) : pureDs (t.map rD) = true ∧ fines (pyDs (t.map rD)) = true ∧ szs (pyDs (t.map rD)) ≤ 160 * t.length ∧ PyData.depthAll (pyDs (t.map rD)) ≤ 1 := by
  induction t with
  | nil => exact ⟨rfl, rfl, Nat.le_refl _, Nat.zero_le _⟩
  | cons r t ih =>
    obtain ⟨h1, h2, h3, h4⟩ := ih fun y hy => h y (List.mem_cons_of_mem _ hy)
    have hr := h r (List.mem_cons_self ..)
    obtain ⟨g1, g2, g3, g4⟩ := row_data hr.2
    have hrl := hr.1
    refine ⟨?_, ?_, ?_, ?_⟩
    · show (pureDs (r.map D.int) && pureDs (t.map rD)) = true
      rw [h1, g1]
      rfl
    · show (fines (pyDs (r.map D.int)) && fines (pyDs (t.map rD))) = true
      rw [h2, g2]
      rfl
    · show (szs (pyDs (r.map D.int)) + 3) + 2 + szs (pyDs (t.map rD)) ≤ _
      rw [List.length_cons]
      omega
    · show max (PyData.depthAll (pyDs (r.map D.int)) + 1) (PyData.depthAll (pyDs (t.map rD))) ≤ 1
      rw [g4]
      omega
theorem ch_data {l : List Nat} {t : Tb} {e : List Int} (hc : Ch l t e) (S : Sto) : Dat S (chD l t e) (pyD (chD l t e)) ∧ good (pyD (chD l t e)) := by
  have hle := hc.le
  have hhi := hc.sg.hi
  have hel := hc.len
  obtain ⟨h1, h2, h3, h4⟩ := tab_data (t := t) fun r hr => ⟨by rw [hc.row r hr]; exact hhi, fun x hx => by have := hc.rng r hr x hx; omega⟩
  obtain ⟨g1, g2, g3, g4⟩ := row_data (r := e) fun x hx => by have := hc.bit x hx; omega
  have hs : ((tx l).cps.toList.all fun c => decide (c < 16 ^ 8)) = true := by
    rw [tx_list, List.all_eq_true]
    intro a ha
    have key : ∀ a ∈ allS, a < 16 ^ 8 := by decide
    exact decide_eq_true (key a (hc.sg.all a ha))
  refine ⟨Dat.pure _ ?_, good_of ?_ ?_ ?_⟩
  · show (true && (pureDs (t.map rD) && (pureDs (e.map D.int) && true))) = true
    rw [h1, g1]
    rfl
  · show (((tx l).cps.toList.all fun c => decide (c < 16 ^ 8)) && (fines (pyDs (t.map rD)) && (fines (pyDs (e.map D.int)) && true))) = true
    rw [hs, h2, g2]
    rfl
  · show (10 * (tx l).length + 2) + 2 + ((szs (pyDs (t.map rD)) + 3) + 2 + ((szs (pyDs (e.map D.int)) + 3) + 2 + 0)) + 3 ≤ _
    rw [tx_len]
    omega
  · show max 0 (max (PyData.depthAll (pyDs (t.map rD)) + 1) (max (PyData.depthAll (pyDs (e.map D.int)) + 1) 0)) + 1 ≤ 60
    rw [g4]
    omega
theorem tx_self (z : Str) : tx z.cps.toList = z := TL.ext_tl (by show (tx z.cps.toList).cps.toList = _; rw [tx_list])
def up (a : Nat) : Nat := if 97 ≤ a then a - 32 else a
theorem up_ok : ∀ a ∈ allS, Unicode.upperOf a = [up a] ∧ up a < 128 := by decide +kernel
theorem lt128 : ∀ a ∈ allS, a < 128 := by decide +kernel
theorem upper2 {a b : Nat} (ha : a ∈ allS) (hb : b ∈ allS) : Txt.upper (tx [a, b]) = tx [up a, up b] := by
  unfold Txt.upper placed tx
  simp [(up_ok a ha).1, (up_ok b hb).1]
end
theorem at6 {a b c d e f : D} {r : Int} (h0 : 0 ≤ r) (h1 : r < 6) : ∃ x, atI [a, b, c, d, e, f] r = some x ∧ (x = a ∨ x = b ∨ x = c ∨ x = d ∨ x = e ∨ x = f) := by
  obtain ⟨j, rfl⟩ := Int.eq_ofNat_of_zero_le h0
  match j, h1 with
  | 0, _ => exact ⟨a, rfl, .inl rfl⟩
  | 1, _ => exact ⟨b, rfl, .inr (.inl rfl)⟩
  | 2, _ => exact ⟨c, rfl, .inr (.inr (.inl rfl))⟩
  | 3, _ => exact ⟨d, rfl, .inr (.inr (.inr (.inl rfl)))⟩
  | 4, _ => exact ⟨e, rfl, .inr (.inr (.inr (.inr (.inl rfl))))⟩
  | 5, _ => exact ⟨f, rfl, .inr (.inr (.inr (.inr (.inr rfl))))⟩
  | n + 6, h => exact absurd h (by omega)
section
variable {l : List Nat}
theorem rev_tx : (⟨(tx l).cps.toList.reverse.toArray⟩ : Str) = tx l.reverse := by rw [tx_list]; rfl
end
end PL

namespace PL
open PySem PySem.Spec PyProof.Rows L2 -- the layers
variable {ad : Ad}
/-! ## comprehensions that draw -/
section
variable {S0 S1 S2 : Sto} {s n : Addr} {vs : List Int} {j1 j2 : Int}
theorem St.trans (a : St S0 S1 s n vs j1) (b : St S1 S2 s n vs j2) : St S0 S2 s n vs j2 := ⟨b.st, by
  have z := (stepS_sub (s := s) (n := n) (k := j2) a.at_).trans b.at_
  rw [stepS_stepS] at z
  exact z, a.s0, a.n0⟩
/-- what is neither the stream nor new stands -/
theorem St.get (a : St S0 S1 s n vs j1) {p : Addr} {o : O} (hp : p ≠ s) (e : S0 p = some o) : S1 p = some o := a.at_ _ _ (by rw [stepS_ne hp]; exact e)
/-- a list that is not the stream's is written -/
theorem St.wr (a : St S0 S1 s n vs j1) {p : Addr} {o : O} (h1 : p ≠ s) (h2 : p ≠ n) (hp : S0 p = none) : St S0 (ups S1 p o) s n vs j1 := a.set hp
theorem St.free (a : St S0 S1 s n vs j1) {p : Addr} (hp : S1 p = none) : S0 p = none := by
  cases z : S0 p with
  | none => rfl
  | some o =>
    by_cases e : p = s
    · rw [e, a.st.st] at hp
      cases hp
    · rw [a.get e z] at hp
      cases hp
end
theorem lc_rnd {α β : Type} {it : QI} {g : QG} {te : QE} {own : List Nat} {loc : PL.Loc} {S S1 : Sto} {P : PD} {E : PX} {s n : Addr} {vs : List Int} {k : Int} (src : Src) (xs : List α) (emb : α → D) (m : Int) (h : β → D) (R : α → β → Prop)
    (hit : ∀ Q : Src → Sto → Prop, Q src S1 → it loc S Q E) (hx : src.items = xs.map emb) (hok : ∀ S' j, St S1 S' s n vs j → src.ok S') (hl : xs.length ≤ 100000) (hm : 0 ≤ m) (I : Strm S1 s n vs k)
    (hb : ∀ a S' (j : Int) (C : D → Sto → Prop), a ∈ xs → St S1 S' s n vs j → k ≤ j → j ≤ k + m * xs.length → (∀ b S2 j2, R a b → St S' S2 s n vs j2 → j ≤ j2 → j2 ≤ j + m → C (h b) S2) → g (emb a) (wipeD loc own) S' (fun loc2 S2 => te loc2 S2 C fun _ _ => False) fun _ _ => False)
    (hP : ∀ p S' (bs : List β) (j : Int), S1 p = none → St S1 S' s n vs j → k ≤ j → j ≤ k + m * xs.length → S' p = some (.lst (bs.map h)) → bs.length = xs.length → (∀ (i : Nat) (a : α) (b : β), xs[i]? = some a → bs[i]? = some b → R a b) → P (.ref p) S') : qLc it g qYes te own loc S P E := by
  refine hit _ fun p hp => ⟨fun i acc S' => ∃ (bs : List β) (j : Int), acc = bs.map h ∧ bs.length = i ∧ (∀ (i : Nat) (a : α) (b : β), xs[i]? = some a → bs[i]? = some b → R a b) ∧ S' p = some (.lst acc) ∧ St S1 S' s n vs j ∧ k ≤ j ∧ j ≤ k + m * (i : Int), ⟨[], k, rfl, rfl, fun i a b _ z => by simp at z, ups_same, (St.start I).new hp, Int.le_refl _, by simp⟩, ?_, ?_⟩
  · rintro i d acc S' hi ⟨bs, j, rfl, hlen, hR, e, J, j1, j2⟩
    rw [hx] at hi
    obtain ⟨a, ha, rfl⟩ := get_emb hi
    have hi2 : i < xs.length := (List.getElem?_eq_some_iff.mp ha).1
    have hmi : m * (i : Int) ≤ m * (xs.length : Int) := Int.mul_le_mul_of_nonneg_left (by omega) hm
    refine ⟨hok _ _ J, ?_⟩
    unfold qYes
    simp only [if_true]
    refine hb a S' j _ (List.mem_of_getElem? ha) J j1 (by omega) fun b S2 j' hr J2 i1 i2 => ?_
    have hps := J.ns hp
    refine ⟨J2.get hps e, szB (by rw [List.length_map]; omega), bs ++ [b], j', by rw [List.map_append]; rfl, by rw [List.length_append, hlen]; rfl, fun i' a' b' z1 z2 => ?_, ups_same, (J.trans J2).set hp, by omega, ?_⟩
    · by_cases hlt : i' < bs.length
      · rw [List.getElem?_append_left hlt] at z2
        exact hR i' a' b' z1 z2
      · rw [List.getElem?_append_right (by omega)] at z2
        have e0 : i' - bs.length = 0 := by
          have := (List.getElem?_eq_some_iff.mp z2).1
          simp at this
          omega
        rw [e0] at z2
        have e1 : i' = i := by omega
        rw [e1, ha] at z1
        cases z1
        cases z2
        exact hr
    · have : m * ((i + 1 : Nat) : Int) = m * (i : Int) + m := by rw [Int.natCast_add, Int.mul_add]; simp
      omega
  · rintro acc S' ⟨bs, j, rfl, hlen, hR, e, J, j1, j2⟩
    have e9 : src.items.length = xs.length := by rw [hx, List.length_map]
    rw [e9] at hlen j2
    exact ⟨hok _ _ J, hP p S' bs j hp J j1 j2 e hlen hR⟩
/-- the same with the tables kept -/
theorem lc_rndT {α β : Type} {tb : List (Addr × Str)} {it : QI} {g : QG} {te : QE} {own : List Nat} {loc : PL.Loc} {S S1 : Sto} {P : PD} {E : PX} {s n : Addr} {vs : List Int} {k : Int} (src : Src) (xs : List α) (emb : α → D) (m : Int) (h : β → D) (R : α → β → Prop)
    (hit : ∀ Q : Src → Sto → Prop, Q src S1 → it loc S Q E) (hx : src.items = xs.map emb) (hok : ∀ S' j, St S1 S' s n vs j → src.ok S') (hl : xs.length ≤ 100000) (hm : 0 ≤ m) (I : Strm S1 s n vs k) (tok : TabOk tb S1)
    (hb : ∀ a S' (j : Int) (C : D → Sto → Prop), a ∈ xs → St S1 S' s n vs j → TabOk tb S' → k ≤ j → j ≤ k + m * xs.length → (∀ b S2 j2, R a b → St S' S2 s n vs j2 → TabOk tb S2 → j ≤ j2 → j2 ≤ j + m → C (h b) S2) → g (emb a) (wipeD loc own) S' (fun loc2 S2 => te loc2 S2 C fun _ _ => False) fun _ _ => False)
    (hP : ∀ p S' (bs : List β) (j : Int), S1 p = none → St S1 S' s n vs j → TabOk tb S' → k ≤ j → j ≤ k + m * xs.length → S' p = some (.lst (bs.map h)) → bs.length = xs.length → (∀ (i : Nat) (a : α) (b : β), xs[i]? = some a → bs[i]? = some b → R a b) → P (.ref p) S') : qLc it g qYes te own loc S P E := by
  refine hit _ fun p hp => ⟨fun i acc S' => ∃ (bs : List β) (j : Int), acc = bs.map h ∧ bs.length = i ∧ (∀ (i : Nat) (a : α) (b : β), xs[i]? = some a → bs[i]? = some b → R a b) ∧ S' p = some (.lst acc) ∧ St S1 S' s n vs j ∧ TabOk tb S' ∧ k ≤ j ∧ j ≤ k + m * (i : Int), ⟨[], k, rfl, rfl, fun i a b _ z => by simp at z, ups_same, (St.start I).new hp, tok.new hp, Int.le_refl _, by simp⟩, ?_, ?_⟩
  · rintro i d acc S' hi ⟨bs, j, rfl, hlen, hR, e, J, tk, j1, j2⟩
    rw [hx] at hi
    obtain ⟨a, ha, rfl⟩ := get_emb hi
    have hi2 : i < xs.length := (List.getElem?_eq_some_iff.mp ha).1
    have hmi : m * (i : Int) ≤ m * (xs.length : Int) := Int.mul_le_mul_of_nonneg_left (by omega) hm
    refine ⟨hok _ _ J, ?_⟩
    unfold qYes
    simp only [if_true]
    refine hb a S' j _ (List.mem_of_getElem? ha) J tk j1 (by omega) fun b S2 j' hr J2 tk2 i1 i2 => ?_
    have hps := J.ns hp
    refine ⟨J2.get hps e, szB (by rw [List.length_map]; omega), bs ++ [b], j', by rw [List.map_append]; rfl, by rw [List.length_append, hlen]; rfl, fun i' a' b' z1 z2 => ?_, ups_same, (J.trans J2).set hp, tk2.set (J2.get hps e), by omega, ?_⟩
    · by_cases hlt : i' < bs.length
      · rw [List.getElem?_append_left hlt] at z2
        exact hR i' a' b' z1 z2
      · rw [List.getElem?_append_right (by omega)] at z2
        have e0 : i' - bs.length = 0 := by
          have := (List.getElem?_eq_some_iff.mp z2).1
          simp at this
          omega
        rw [e0] at z2
        have e1 : i' = i := by omega
        rw [e1, ha] at z1
        cases z1
        cases z2
        exact hr
    · have : m * ((i + 1 : Nat) : Int) = m * (i : Int) + m := by rw [Int.natCast_add, Int.mul_add]; simp
      omega
  · rintro acc S' ⟨bs, j, rfl, hlen, hR, e, J, tk, j1, j2⟩
    have e9 : src.items.length = xs.length := by rw [hx, List.length_map]
    rw [e9] at hlen j2
    exact ⟨hok _ _ J, hP p S' bs j hp J tk j1 j2 e hlen hR⟩
theorem Sub.put {S S' : Sto} {p : Addr} {o : O} (s : Sub S S') (e : S' p = some o) : Sub (ups S p o) S' := fun a u h => by
  by_cases z : a = p
  · subst z
    rw [ups_same] at h
    cases h
    exact e
  · rw [ups_ne z] at h
    exact s a u h
/-- a comprehension whose body leaves the store as it is -/
theorem lc_filtP {α : Type} {it : QI} {g : QG} {tt : QT} {te : QE} {own : List Nat} {loc : PL.Loc} {S S1 : Sto} {P : PD} {E : PX} (src : Src) (xs : List α) (emb : α → D) (q : α → Bool) (h : α → D) (hit : ∀ Q : Src → Sto → Prop, Q src S1 → it loc S Q E) (hok : src_ok src S1) (hx : src.items = xs.map emb) (hl : xs.length ≤ 100000)
    (hb : ∀ a S' (C : Option D → Sto → Prop), a ∈ xs → Sub S1 S' → C (if q a = true then some (h a) else none) S' → g (emb a) (wipeD loc own) S' (fun loc2 S2 => tt loc2 S2 (fun b S3 => if b = true then te loc2 S3 (fun y S4 => C (some y) S4) fun _ _ => False else C none S3) fun _ _ => False) fun _ _ => False)
    (hP : ∀ p, S1 p = none → P (.ref p) (ups S1 p (.lst ((xs.filter q).map h)))) : qLc it g tt te own loc S P E := by
  refine hit _ fun p hp => ⟨fun i acc S' => acc = ((xs.take i).filter q).map h ∧ S' = ups S1 p (.lst acc), ⟨by simp, by simp⟩, ?_, ?_⟩
  · rintro i d acc S' hi ⟨rfl, rfl⟩
    rw [hx] at hi
    obtain ⟨a, ha, rfl⟩ := get_emb hi
    have sub : Sub S1 (ups S1 p (.lst (((xs.take i).filter q).map h))) := (Sub.refl S1).new hp
    refine ⟨hok _ sub, ?_⟩
    have et : (xs.take (i + 1)).filter q = (xs.take i).filter q ++ (if q a = true then [a] else []) := by
      rw [List.take_succ, ha, List.filter_append]
      congr 1
      show List.filter q [a] = _
      rw [List.filter_cons]
      split <;> rfl
    have hlt : (((xs.take i).filter q).map h).length < sizeLine := szB (by
      rw [List.length_map]
      have := List.length_filter_le q (xs.take i)
      have h2 : (xs.take i).length ≤ xs.length := by rw [List.length_take]; omega
      omega)
    refine hb a _ (fun y S4 => match y with
      | some y => S4 p = some (.lst (((xs.take i).filter q).map h)) ∧ (((xs.take i).filter q).map h).length < sizeLine ∧ (((xs.take i).filter q).map h ++ [y] = ((xs.take (i + 1)).filter q).map h ∧ ups S4 p (.lst (((xs.take i).filter q).map h ++ [y])) = ups S1 p (.lst (((xs.take i).filter q).map h ++ [y])))
      | none => ((xs.take i).filter q).map h = ((xs.take (i + 1)).filter q).map h ∧ S4 = ups S1 p (.lst (((xs.take i).filter q).map h))) (List.mem_of_getElem? ha) sub ?_
    by_cases hq : q a = true
    · rw [if_pos hq]
      rw [if_pos hq] at et
      exact ⟨ups_same, hlt, by rw [et, List.map_append]; rfl, ups_ups⟩
    · rw [if_neg hq]
      rw [if_neg hq, List.append_nil] at et
      exact ⟨by rw [et], rfl⟩
  · rintro acc S' ⟨rfl, rfl⟩
    have e9 : src.items.length = xs.length := by rw [hx, List.length_map]
    rw [e9, List.take_length]
    exact ⟨hok _ ((Sub.refl S1).new hp), hP p hp⟩
theorem lc_mapP {α : Type} {it : QI} {g : QG} {te : QE} {own : List Nat} {loc : PL.Loc} {S S1 : Sto} {P : PD} {E : PX} (src : Src) (xs : List α) (emb : α → D) (h : α → D) (hit : ∀ Q : Src → Sto → Prop, Q src S1 → it loc S Q E) (hok : src_ok src S1) (hx : src.items = xs.map emb) (hl : xs.length ≤ 100000)
    (hb : ∀ a S' (C : D → Sto → Prop), a ∈ xs → Sub S1 S' → C (h a) S' → g (emb a) (wipeD loc own) S' (fun loc2 S2 => te loc2 S2 C fun _ _ => False) fun _ _ => False)
    (hP : ∀ p, S1 p = none → P (.ref p) (ups S1 p (.lst (xs.map h)))) : qLc it g qYes te own loc S P E := by
  refine lc_filtP src xs emb (fun _ => true) h hit hok hx hl (fun a S' C ha sub hC => ?_) fun p hp => ?_
  · unfold qYes
    simp only [if_true]
    exact hb a S' (fun y S4 => C (some y) S4) ha sub hC
  · have := hP p hp
    have e : xs.filter (fun _ => true) = xs := by simp
    rw [e]
    exact this
/-- what is walked, first -/
theorem lc_bind {it : QI} {g : QG} {tt : QT} {te : QE} {own : List Nat} {loc : PL.Loc} {S : Sto} {P : PD} {E : PX} (h : it loc S (fun src S1 => qLc (fun _ S Q _ => Q src S) g tt te own loc S1 P E) E) : qLc it g tt te own loc S P E := h
/-- the numbers of a range, as naturals -/
theorem range_items {m : Nat} : (Src.vals (rangeD 0 (m : Int).toNat)).items = (List.range m).map fun (i : Nat) => D.int i := by
  show rangeD 0 (m : Int).toNat = _
  unfold rangeD
  rw [Int.toNat_natCast]
  simp
theorem range_items2 {lo m : Nat} : (rangeD (lo : Int) m) = (List.range m).map fun (i : Nat) => D.int ((lo + i : Nat) : Int) := by
  unfold rangeD
  simp
theorem all_R {α β : Type} {xs : List α} {bs : List β} {R : α → β → Prop} (hl : bs.length = xs.length) (h : ∀ (i : Nat) (a : α) (b : β), xs[i]? = some a → bs[i]? = some b → R a b) : ∀ b ∈ bs, ∃ a ∈ xs, R a b := fun b hb => by
  obtain ⟨i, hi⟩ := List.getElem?_of_mem hb
  have hlt := (List.getElem?_eq_some_iff.mp hi).1
  have ha : xs[i]? = some (xs[i]'(by omega)) := List.getElem?_eq_getElem (by omega)
  exact ⟨_, List.mem_of_getElem? ha, h i _ b ha hi⟩
/-- the same, each item a new list -/
theorem lc_rndL {α β : Type} {it : QI} {g : QG} {te : QE} {own : List Nat} {loc : PL.Loc} {S S1 : Sto} {P : PD} {E : PX} {s n : Addr} {vs : List Int} {k : Int} (src : Src) (xs : List α) (emb : α → D) (m : Int) (h : β → D) (R : α → List β → Prop)
    (hit : ∀ Q : Src → Sto → Prop, Q src S1 → it loc S Q E) (hx : src.items = xs.map emb) (hok : ∀ S' j, St S1 S' s n vs j → src.ok S') (hl : xs.length ≤ 100000) (hm : 0 ≤ m) (I : Strm S1 s n vs k)
    (hb : ∀ a S' (j : Int) (C : D → Sto → Prop), a ∈ xs → St S1 S' s n vs j → k ≤ j → j ≤ k + m * xs.length → (∀ q b S2 j2, S' q = none → S2 q = some (.lst (b.map h)) → R a b → St S' S2 s n vs j2 → j ≤ j2 → j2 ≤ j + m → C (.ref q) S2) → g (emb a) (wipeD loc own) S' (fun loc2 S2 => te loc2 S2 C fun _ _ => False) fun _ _ => False)
    (hP : ∀ p S' (qs : List (Addr × List β)) (j : Int), S1 p = none → St S1 S' s n vs j → k ≤ j → j ≤ k + m * xs.length → S' p = some (.lst (qs.map fun q => D.ref q.1)) → qs.length = xs.length → (∀ q ∈ qs, S1 q.1 = none ∧ S' q.1 = some (.lst (q.2.map h)) ∧ ∃ a ∈ xs, R a q.2) → P (.ref p) S') : qLc it g qYes te own loc S P E := by
  refine hit _ fun p hp => ⟨fun i acc S' => ∃ (qs : List (Addr × List β)) (j : Int), acc = qs.map (fun q => D.ref q.1) ∧ qs.length = i ∧ (∀ q ∈ qs, q.1 ≠ p ∧ S1 q.1 = none ∧ S' q.1 = some (.lst (q.2.map h)) ∧ ∃ a ∈ xs, R a q.2) ∧ S' p = some (.lst acc) ∧ St S1 S' s n vs j ∧ k ≤ j ∧ j ≤ k + m * (i : Int), ⟨[], k, rfl, rfl, (fun q z => by cases z), ups_same, (St.start I).new hp, Int.le_refl _, by simp⟩, ?_, ?_⟩
  · rintro i d acc S' hi ⟨qs, j, rfl, hlen, hR, e, J, j1, j2⟩
    rw [hx] at hi
    obtain ⟨a, ha, rfl⟩ := get_emb hi
    have hi2 : i < xs.length := (List.getElem?_eq_some_iff.mp ha).1
    have hmi : m * (i : Int) ≤ m * (xs.length : Int) := Int.mul_le_mul_of_nonneg_left (by omega) hm
    refine ⟨hok _ _ J, ?_⟩
    unfold qYes
    simp only [if_true]
    refine hb a S' j _ (List.mem_of_getElem? ha) J j1 (by omega) fun q b S2 j' hq eq hr J2 i1 i2 => ?_
    have hps := J.ns hp
    have hqp : q ≠ p := Ne.symm (sto_ne e hq)
    refine ⟨J2.get hps e, szB (by rw [List.length_map]; omega), qs ++ [(q, b)], j', by rw [List.map_append]; rfl, by rw [List.length_append, hlen]; rfl, fun q' z => ?_, ups_same, (J.trans J2).set hp, by omega, ?_⟩
    · rcases List.mem_append.mp z with z | z
      · obtain ⟨g1, g2, g3, g4⟩ := hR q' z
        refine ⟨g1, g2, ?_, g4⟩
        rw [ups_ne g1]
        exact J2.get (J.ns g2) g3
      · rw [List.mem_singleton.mp z]
        exact ⟨hqp, J.free hq, by rw [ups_ne hqp]; exact eq, a, List.mem_of_getElem? ha, hr⟩
    · have : m * ((i + 1 : Nat) : Int) = m * (i : Int) + m := by rw [Int.natCast_add, Int.mul_add]; simp
      omega
  · rintro acc S' ⟨qs, j, rfl, hlen, hR, e, J, j1, j2⟩
    have e9 : src.items.length = xs.length := by rw [hx, List.length_map]
    rw [e9] at hlen j2
    exact ⟨hok _ _ J, hP p S' qs j hp J j1 j2 e hlen fun q z => (hR q z).2⟩
theorem next_go {s n : Addr} {xs : List Int} {k many : Int} {S : Sto} {P : PD} {E : PX} (h : Strm S s n xs k) (hm : 0 < many) (hk : k < 1000000000) (q : ∀ r : Int, 0 ≤ r → r < many → P (.int r) (stepS S s n (k + 1))) : sp__law_next ad [.ref s, .int many] S P E :=
  ⟨s, n, xs, k, many, rfl, h, hm, hk, q⟩
theorem great_go {s n : Addr} {xs : List Int} {k many : Int} {S : Sto} {P : PD} {E : PX} (h : Strm S s n xs k) (hm : 0 < many) (hk : k < 900000000) (q : ∀ r : Int, 0 ≤ r → r < many → P (.int r) (stepS S s n (k + 2))) : sp__law_great ad [.ref s, .int many] S P E :=
  ⟨s, n, xs, k, many, rfl, h, hm, hk, q⟩
end PL

namespace PL
open PySem PySem.Spec PyProof.Rows L2 -- the layers
/-! numbers counted by their lengths -/
def cn (t : Tb) (e : List Int) : Nat → Nat → Int
  | 0, s => e.getD s 0
  | n + 1, s => ((t.getD s []).map fun a => cn t e n a.toNat).sum
def cr (t : Tb) (e : List Int) (n : Nat) : List Int := (List.range t.length).map (cn t e n)
structure RowsAt (S : Sto) (p : Addr) (t : Tb) (e : List Int) (n : Nat) : Prop where
  ex : ∃ as : List Addr, as.length = n + 1 ∧ S p = some (.lst (as.map D.ref)) ∧ ∀ (j : Nat) (a : Addr), as[j]? = some a → S a = some (.lst ((cr t e j).map D.int))
/-- all texts of n signs, in order -/
def wd (l : List Nat) : Nat → List (List Nat)
  | 0 => [[]]
  | n + 1 => (wd l n).flatMap fun w => l.map fun a => w ++ [a]
def sp_check_length (ad : Ad) : QF := fun ds S P E => ∃ n : Int, ds = [.int n] ∧ (0 ≤ n → n ≤ 200 → P .non S) ∧ (¬ (0 ≤ n ∧ n ≤ 200) → E { cls := ad.NotAllowed } S)
def sp_rows_of (ad : Ad) : QF := fun ds S P E => ∃ l t e, ∃ n : Nat, ds = [chD l t e, .int n] ∧ Ch l t e ∧ n ≤ 1000 ∧ ∀ p S', Sub S S' → RowsAt S' p t e n → P (.ref p) S'
def sp_count_valid (ad : Ad) : QF := fun ds S P E => ∃ l t e, ∃ n : Int, ds = [chD l t e, .int n] ∧ Sz l t e ∧ (Ch l t e → 0 ≤ n → n ≤ 200 → P (.int (cn t e n.toNat 0)) S) ∧ (¬ (Ch l t e ∧ 0 ≤ n ∧ n ≤ 200) → E { cls := ad.NotAllowed } S)
def sp__law_signs (ad : Ad) : QF := fun ds S P E => ∃ s n xs k, ds = [.ref s] ∧ Strm S s n xs k ∧ k < 500000000 ∧ ∀ (l : List Nat) (j : Int), Sg l → k ≤ j → j ≤ k + 20 → P (.str (tx l)) (stepS S s n j)
def sp__law_checker (ad : Ad) : QF := fun ds S P E => ∃ s n xs k l, ∃ m : Nat, ds = [.ref s, .str (tx l), .int m] ∧ Strm S s n xs k ∧ k < 500000000 ∧ Sg l ∧ 1 ≤ m ∧ m ≤ 60 ∧ ∀ (t : Tb) (e : List Int) (j : Int), Ch l t e → k ≤ j → j ≤ k + 800 → P (chD l t e) (stepS S s n j)
def sp__law_sums (ad : Ad) : QF := fun ds S P E => ∃ s n xs k l, ∃ m : Nat, ds = [.ref s, .str (tx l), .int m] ∧ Strm S s n xs k ∧ k < 500000000 ∧ Sg l ∧ 1 ≤ m ∧ m ≤ 12 ∧ ∀ (t : Tb) (e : List Int) (j : Int), Ch l t e → k ≤ j → j ≤ k + 40 → P (chD l t e) (stepS S s n j)
def sp__law_any (ad : Ad) : QF := fun ds S P E => ∃ s n xs k, ds = [.ref s] ∧ Strm S s n xs k ∧ k < 400000000 ∧ ∀ (l : List Nat) (t : Tb) (e : List Int) (j : Int), Ch l t e → k ≤ j → j ≤ k + 900 → P (chD l t e) (stepS S s n j)
def sp__law_texts (ad : Ad) : QF := fun ds S P E => ∃ l, ∃ n : Nat, ds = [.str (tx l), .int n] ∧ 2 ≤ l.length ∧ l.length ≤ 12 ∧ n ≤ 10 ∧ (wd l n).length ≤ 2000 ∧ ∀ p S', Sub S S' → S' p = some (.lst ((wd l n).map fun w => D.str (tx w))) → P (.ref p) S'

/-! ## r check_length -/
abbrev N_check_length : List Str := ["length"]
def r_check_length (ad : Ad) : QS := (sIf (qNotT (qTB (qChain oLe oLe (qC (.int 0)) (qVar 0) (qC (.int 200))))) (sRaise ad.NotAllowed) sNext)
/-! end -/

/-! ## r rows_of -/
abbrev N_rows_of : List Str := ["checker", "length", "rows", "_", "row", "after"]
def r_rows_of_b1 (ad : Ad) : QS := (sDrop (qMeth mAppend (qVar 2) (qCons (qLc (iSeq (qBin oIx (qVar 0) (qC (.int 1)))) (gN 4) qYes (qCB cSum (qCons (qLc (iSeq (qVar 4)) (gN 5) qYes (qBin oIx (qBin oIx (qVar 2) (qNeg (qC (.int 1)))) (qVar 5)) [5]) qNil)) [4]) qNil)))
def r_rows_of (ad : Ad) : QS := (sSeq (sSet 2 (qLst (qCons (qCB cList (qCons (qBin oIx (qVar 0) (qC (.int 2))) qNil)) qNil)))
    (sSeq (sFor (iRange1 (qCons (qVar 1) qNil)) (gN 3) (r_rows_of_b1 ad))
    (sRet (qVar 2))))
/-! end -/

/-! ## r count_valid -/
abbrev N_count_valid : List Str := ["checker", "length"]
def r_count_valid (ad : Ad) : QS := (sSeq (sDrop (qCall (sp_check_checker ad) (qCons (qVar 0) qNil)))
    (sSeq (sDrop (qCall (sp_check_length ad) (qCons (qVar 1) qNil)))
    (sRet (qBin oIx (qBin oIx (qCall (sp_rows_of ad) (qCons (qVar 0) (qCons (qVar 1) qNil))) (qVar 1)) (qC (.int 0))))))
/-! end -/

/-! ## r _law_signs -/
abbrev N__law_signs : List Str := ["state", "many", "pool", "found", "k"]
def r__law_signs_b1 (ad : Ad) : QS := (sDrop (qMeth mAppend (qVar 3) (qCons (qMeth mPopAt (qVar 2) (qCons (qCall (sp__law_next ad) (qCons (qVar 0) (qCons (qCB cLen (qCons (qVar 2) qNil)) qNil))) qNil)) qNil)))
def r__law_signs (ad : Ad) : QS := (sSeq (sSet 1 (qBin oIx (qLst (qCons (qBin oAdd (qC (.int 2)) (qCall (sp__law_next ad) (qCons (qVar 0) (qCons (qC (.int 3)) qNil)))) (qCons (qBin oAdd (qC (.int 2)) (qCall (sp__law_next ad) (qCons (qVar 0) (qCons (qC (.int 11)) qNil)))) qNil))) (qCB cToInt (qCons (qBin oEq (qCall (sp__law_next ad) (qCons (qVar 0) (qCons (qC (.int 4)) qNil))) (qC (.int 0))) qNil))))
    (sSeq (sSet 2 (qCB cListX (qCons (qC (.str "0123456789abcdefghijklmnopqrstuvwxyz")) qNil)))
    (sSeq (sSet 3 (qLst qNil))
    (sSeq (sFor (iRange1 (qCons (qVar 1) qNil)) (gN 4) (r__law_signs_b1 ad))
    (sRet (qMethS mJoin (qC (.str "")) (qCons (qCB cSorted (qCons (qVar 3) qNil)) qNil)))))))
/-! end -/

/-! ## r _law_checker -/
abbrev N__law_checker : List Str := ["state", "signs", "many", "moves", "ends", "s", "sign"]
def r__law_checker (ad : Ad) : QS := (sSeq (sSet 3 (qCB cTuple (qCons (qLc (iRange1 (qCons (qVar 2) qNil)) (gN 5) qYes (qCB cTuple (qCons (qLc (iSeq (qVar 1)) (gN 6) qYes (qCall (sp__law_next ad) (qCons (qVar 0) (qCons (qVar 2) qNil))) [6]) qNil)) [5]) qNil)))
    (sSeq (sSet 4 (qCB cTuple (qCons (qLc (iRange1 (qCons (qVar 2) qNil)) (gN 5) qYes (qCB cToInt (qCons (qBin oEq (qCall (sp__law_next ad) (qCons (qVar 0) (qCons (qC (.int 3)) qNil))) (qC (.int 0))) qNil)) [5]) qNil)))
    (sRet (qTup (qCons (qVar 1) (qCons (qVar 3) (qCons (qVar 4) qNil)))))))
/-! end -/

/-! ## r _law_sums -/
abbrev N__law_sums : List Str := ["state", "signs", "most", "modulus", "period", "maps", "rest", "moves", "ends", "place", "total", "k", "sign", "part"]
def r__law_sums_t1 (ad : Ad) : QS := (sRet (qTup (qCons (qVar 1) (qCons (qCB cTuple (qCons (qVar 7) qNil)) (qCons (qCB cTuple (qCons (qVar 8) qNil)) qNil)))))
def r__law_sums_b1 (ad : Ad) : QS := (sSeq (sDrop (qMeth mAppend (qVar 7) (qCons (qCB cTuple (qCons (qLc (iSeq (qBin oIx (qVar 5) (qVar 9))) (gN 13) qYes (qBin oAdd (qBin oMul (qBin oMod (qBin oAdd (qVar 9) (qC (.int 1))) (qVar 4)) (qVar 3)) (qBin oMod (qBin oAdd (qVar 10) (qVar 13)) (qVar 3))) [13]) qNil)) qNil)))
    (sDrop (qMeth mAppend (qVar 8) (qCons (qCB cToInt (qCons (qBin oEq (qVar 10) (qVar 6)) qNil)) qNil))))
def r__law_sums_b2 (ad : Ad) : QS := (sFor (iRange1 (qCons (qVar 3) qNil)) (gN 10) (r__law_sums_b1 ad))
def r__law_sums_t2 (ad : Ad) : QS := (sSeq (sFor (iRange1 (qCons (qVar 4) qNil)) (gN 9) (r__law_sums_b2 ad))
    (r__law_sums_t1 ad))
def r__law_sums_t3 (ad : Ad) : QS := (sSeq (sSet 8 (qLst qNil))
    (r__law_sums_t2 ad))
def r__law_sums_t4 (ad : Ad) : QS := (sSeq (sSet 7 (qLst qNil))
    (r__law_sums_t3 ad))
def r__law_sums_t5 (ad : Ad) : QS := (sSeq (sSet 6 (qCall (sp__law_next ad) (qCons (qVar 0) (qCons (qVar 3) qNil))))
    (r__law_sums_t4 ad))
def r__law_sums_t6 (ad : Ad) : QS := (sSeq (sSet 5 (qLc (iRange1 (qCons (qVar 4) qNil)) (gN 11) qYes (qLc (iSeq (qVar 1)) (gN 12) qYes (qCall (sp__law_next ad) (qCons (qVar 0) (qCons (qVar 3) qNil))) [12]) [11]))
    (r__law_sums_t5 ad))
def r__law_sums_t7 (ad : Ad) : QS := (sSeq (sSet 4 (qBin oAdd (qC (.int 1)) (qCall (sp__law_next ad) (qCons (qVar 0) (qCons (qC (.int 2)) qNil)))))
    (r__law_sums_t6 ad))
def r__law_sums (ad : Ad) : QS := (sSeq (sSet 3 (qBin oAdd (qC (.int 2)) (qCall (sp__law_next ad) (qCons (qVar 0) (qCons (qVar 2) qNil)))))
    (r__law_sums_t7 ad))
/-! end -/

/-! ## r _law_any -/
abbrev N__law_any : List Str := ["state", "signs", "pick"]
def r__law_any_t1 (ad : Ad) : QS := (sRet (qCall (sp__law_checker ad) (qCons (qVar 0) (qCons (qVar 1) (qCons (qBin oIx (qLst (qCons (qBin oAdd (qC (.int 1)) (qCall (sp__law_next ad) (qCons (qVar 0) (qCons (qC (.int 3)) qNil)))) (qCons (qBin oAdd (qC (.int 1)) (qCall (sp__law_next ad) (qCons (qVar 0) (qCons (qC (.int 7)) qNil)))) (qCons (qBin oAdd (qC (.int 20)) (qCall (sp__law_next ad) (qCons (qVar 0) (qCons (qC (.int 41)) qNil)))) qNil)))) (qBin oIx (qLst (qCons (qC (.int 0)) (qCons (qC (.int 1)) (qCons (qC (.int 1)) (qCons (qC (.int 1)) (qCons (qC (.int 2)) qNil)))))) (qCall (sp__law_next ad) (qCons (qVar 0) (qCons (qC (.int 5)) qNil))))) qNil)))))
def r__law_any_t2 (ad : Ad) : QS := (sSeq (sIf (qTB (qBin oLt (qVar 2) (qC (.int 2)))) (sRet (qCall (sp__law_sums ad) (qCons (qVar 0) (qCons (qVar 1) (qCons (qBin oIx (qLst (qCons (qC (.int 4)) (qCons (qC (.int 12)) qNil))) (qCall (sp__law_next ad) (qCons (qVar 0) (qCons (qC (.int 2)) qNil)))) qNil))))) sNext)
    (r__law_any_t1 ad))
def r__law_any_t3 (ad : Ad) : QS := (sSeq (sSet 2 (qCall (sp__law_next ad) (qCons (qVar 0) (qCons (qC (.int 5)) qNil))))
    (r__law_any_t2 ad))
def r__law_any (ad : Ad) : QS := (sSeq (sSet 1 (qCall (sp__law_signs ad) (qCons (qVar 0) qNil)))
    (r__law_any_t3 ad))
/-! end -/

/-! ## r _law_texts -/
abbrev N__law_texts : List Str := ["signs", "length", "found", "k", "longer", "text", "sign"]
def r__law_texts_b1 (ad : Ad) : QS := (sSet 4 (qBin oAdd (qVar 4) (qLc (iSeq (qVar 0)) (gN 6) qYes (qBin oAdd (qVar 5) (qVar 6)) [6])))
def r__law_texts_b2 (ad : Ad) : QS := (sSeq (sSet 4 (qLst qNil))
    (sSeq (sFor (iSeq (qVar 2)) (gN 5) (r__law_texts_b1 ad))
    (sSet 2 (qVar 4))))
def r__law_texts (ad : Ad) : QS := (sSeq (sSet 2 (qLst (qCons (qC (.str "")) qNil)))
    (sSeq (sFor (iRange1 (qCons (qVar 1) qNil)) (gN 3) (r__law_texts_b2 ad))
    (sRet (qVar 2))))
/-! end -/

variable {ad : Ad}
theorem cr_len {t : Tb} {e : List Int} {n : Nat} : (cr t e n).length = t.length := by simp [cr]
theorem cr_get {t : Tb} {e : List Int} {n j : Nat} (h : j < t.length) : atI ((cr t e n).map D.int) (j : Int) = some (.int (cn t e n j)) := by
  rw [atI_lt]
  unfold cr
  simp [h]
theorem cr_succ {t : Tb} {e : List Int} {n : Nat} : t.map (fun r => (r.map fun a => cn t e n a.toNat).sum) = cr t e (n + 1) := by
  unfold cr
  refine List.ext_getElem (by simp) fun i h1 h2 => ?_
  have hi : i < t.length := by simpa using h1
  simp [cn, hi]
theorem cr_zero {t : Tb} {e : List Int} (h : e.length = t.length) : e = cr t e 0 := by
  unfold cr
  refine List.ext_getElem (by simp [h]) fun i h1 h2 => ?_
  simp [cn, h1]
theorem p_check_length : ∀ ds S Q E, sp_check_length ad ds S Q E → r_check_length ad (endsF Q E) (startD N_check_length ds) S := by
  rintro ds S Q E ⟨n, rfl, h1, h2⟩
  simp only [r_check_length, sSeq, sNext_eq, sBreak_eq, sCont_eq, sDrop, sRet, sRetN, sIf, sSet, sPar, sAsg, sRaise, gN, gE, gC, gU, gS, qVar, qC, qBin, qTB, qChain, qNot, qAnd, qOr, bd_bl, qNotT, qAndT, qOrT, qTru, tru_non, tru_bl, tru_int, tru_str, tru_tup, tru_rol, tru_ref, qIf, qNil, qCons, qTup, qLst, qCB, cInt_i, cInt2_ii, cToInt_i, cToInt_b, cLen_s, cLen_t, cLen_r, cLen_l, cTuple_t, cTuple_r, cTuple_l, cList_t, cList_r, cList_l, qNeg, oI_ii, oAdd_ii, oSub, oMul, oDiv, oMod, oPow, oEq, oNe, oEqW_ii, oEqW_ss, oEqW_bb, oLt, oLe, oGt, oGe, oOrd_ii, oOrd_ss, oIx_t, oIx_r, oIx_l, oIx_s, qNo, qPart, qSl, oSl_t, oSl_r, oSl_l, oSl_s, qMeth, mAppend_1, iSeq, iRange1, iRange2, qCall, endsF, startD, List.map_cons, List.map_nil, List.length_cons, List.length_nil, List.length_map, List.cons_append, List.nil_append, List.replicate, List.getElem?_cons_zero, List.getElem?_cons_succ, List.set_cons_zero, List.set_cons_succ, Nat.reduceAdd, Nat.reduceSub, if_true, if_false, id, ups_same, ex_lst, ex_lst2, ex_some, atI_0, atI_1, atI_2, atI_3, ixN_0, ixN_1, ixN_21, oIx_p]
  by_cases c1 : (0 : Int) ≤ n
  · rw [decide_eq_true c1]
    by_cases c2 : n ≤ 200
    · simp only [decide_eq_true c2, sSeq, sNext_eq, sBreak_eq, sCont_eq, sDrop, sRet, sRetN, sIf, sSet, sPar, sAsg, sRaise, gN, gE, gC, gU, gS, qVar, qC, qBin, qTB, qChain, qNot, qAnd, qOr, bd_bl, qNotT, qAndT, qOrT, qTru, tru_non, tru_bl, tru_int, tru_str, tru_tup, tru_rol, tru_ref, qIf, qNil, qCons, qTup, qLst, qCB, cInt_i, cInt2_ii, cToInt_i, cToInt_b, cLen_s, cLen_t, cLen_r, cLen_l, cTuple_t, cTuple_r, cTuple_l, cList_t, cList_r, cList_l, qNeg, oI_ii, oAdd_ii, oSub, oMul, oDiv, oMod, oPow, oEq, oNe, oEqW_ii, oEqW_ss, oEqW_bb, oLt, oLe, oGt, oGe, oOrd_ii, oOrd_ss, oIx_t, oIx_r, oIx_l, oIx_s, qNo, qPart, qSl, oSl_t, oSl_r, oSl_l, oSl_s, qMeth, mAppend_1, iSeq, iRange1, iRange2, qCall, endsF, startD, List.map_cons, List.map_nil, List.length_cons, List.length_nil, List.length_map, List.cons_append, List.nil_append, List.replicate, List.getElem?_cons_zero, List.getElem?_cons_succ, List.set_cons_zero, List.set_cons_succ, Nat.reduceAdd, Nat.reduceSub, if_true, if_false, id, ups_same, ex_lst, ex_lst2, ex_some, atI_0, atI_1, atI_2, atI_3, ixN_0, ixN_1, ixN_21, oIx_p, Bool.not_true, Bool.false_eq_true]
      exact ⟨S, Sub.refl S, h1 c1 c2⟩
    · simp only [decide_eq_false c2, sSeq, sNext_eq, sBreak_eq, sCont_eq, sDrop, sRet, sRetN, sIf, sSet, sPar, sAsg, sRaise, gN, gE, gC, gU, gS, qVar, qC, qBin, qTB, qChain, qNot, qAnd, qOr, bd_bl, qNotT, qAndT, qOrT, qTru, tru_non, tru_bl, tru_int, tru_str, tru_tup, tru_rol, tru_ref, qIf, qNil, qCons, qTup, qLst, qCB, cInt_i, cInt2_ii, cToInt_i, cToInt_b, cLen_s, cLen_t, cLen_r, cLen_l, cTuple_t, cTuple_r, cTuple_l, cList_t, cList_r, cList_l, qNeg, oI_ii, oAdd_ii, oSub, oMul, oDiv, oMod, oPow, oEq, oNe, oEqW_ii, oEqW_ss, oEqW_bb, oLt, oLe, oGt, oGe, oOrd_ii, oOrd_ss, oIx_t, oIx_r, oIx_l, oIx_s, qNo, qPart, qSl, oSl_t, oSl_r, oSl_l, oSl_s, qMeth, mAppend_1, iSeq, iRange1, iRange2, qCall, endsF, startD, List.map_cons, List.map_nil, List.length_cons, List.length_nil, List.length_map, List.cons_append, List.nil_append, List.replicate, List.getElem?_cons_zero, List.getElem?_cons_succ, List.set_cons_zero, List.set_cons_succ, Nat.reduceAdd, Nat.reduceSub, if_true, if_false, id, ups_same, ex_lst, ex_lst2, ex_some, atI_0, atI_1, atI_2, atI_3, ixN_0, ixN_1, ixN_21, oIx_p, Bool.not_false]
      exact ⟨S, Sub.refl S, h2 fun z => c2 z.2⟩
  · rw [decide_eq_false c1]
    simp only [sSeq, sNext_eq, sBreak_eq, sCont_eq, sDrop, sRet, sRetN, sIf, sSet, sPar, sAsg, sRaise, gN, gE, gC, gU, gS, qVar, qC, qBin, qTB, qChain, qNot, qAnd, qOr, bd_bl, qNotT, qAndT, qOrT, qTru, tru_non, tru_bl, tru_int, tru_str, tru_tup, tru_rol, tru_ref, qIf, qNil, qCons, qTup, qLst, qCB, cInt_i, cInt2_ii, cToInt_i, cToInt_b, cLen_s, cLen_t, cLen_r, cLen_l, cTuple_t, cTuple_r, cTuple_l, cList_t, cList_r, cList_l, qNeg, oI_ii, oAdd_ii, oSub, oMul, oDiv, oMod, oPow, oEq, oNe, oEqW_ii, oEqW_ss, oEqW_bb, oLt, oLe, oGt, oGe, oOrd_ii, oOrd_ss, oIx_t, oIx_r, oIx_l, oIx_s, qNo, qPart, qSl, oSl_t, oSl_r, oSl_l, oSl_s, qMeth, mAppend_1, iSeq, iRange1, iRange2, qCall, endsF, startD, List.map_cons, List.map_nil, List.length_cons, List.length_nil, List.length_map, List.cons_append, List.nil_append, List.replicate, List.getElem?_cons_zero, List.getElem?_cons_succ, List.set_cons_zero, List.set_cons_succ, Nat.reduceAdd, Nat.reduceSub, if_true, if_false, id, ups_same, ex_lst, ex_lst2, ex_some, atI_0, atI_1, atI_2, atI_3, ixN_0, ixN_1, ixN_21, oIx_p, Bool.not_false]
    exact ⟨S, Sub.refl S, h2 fun z => c1 z.1⟩
theorem p_rows_of : ∀ ds S Q E, sp_rows_of ad ds S Q E → r_rows_of ad (endsF Q E) (startD N_rows_of ds) S := by
  rintro ds S Q E ⟨l, t, e, n, rfl, hc, hn, q⟩
  have hle := hc.le
  have hpos := hc.pos
  simp only [r_rows_of, chD, sSeq, sNext_eq, sBreak_eq, sCont_eq, sDrop, sRet, sRetN, sIf, sSet, sPar, sAsg, sRaise, gN, gE, gC, gU, gS, qVar, qC, qBin, qTB, qChain, qNot, qAnd, qOr, bd_bl, qNotT, qAndT, qOrT, qTru, tru_non, tru_bl, tru_int, tru_str, tru_tup, tru_rol, tru_ref, qIf, qNil, qCons, qTup, qLst, qCB, cInt_i, cInt2_ii, cToInt_i, cToInt_b, cLen_s, cLen_t, cLen_r, cLen_l, cTuple_t, cTuple_r, cTuple_l, cList_t, cList_r, cList_l, qNeg, oI_ii, oAdd_ii, oSub, oMul, oDiv, oMod, oPow, oEq, oNe, oEqW_ii, oEqW_ss, oEqW_bb, oLt, oLe, oGt, oGe, oOrd_ii, oOrd_ss, oIx_t, oIx_r, oIx_l, oIx_s, qNo, qPart, qSl, oSl_t, oSl_r, oSl_l, oSl_s, qMeth, mAppend_1, iSeq, iRange1, iRange2, qCall, endsF, startD, List.map_cons, List.map_nil, List.length_cons, List.length_nil, List.length_map, List.cons_append, List.nil_append, List.replicate, List.getElem?_cons_zero, List.getElem?_cons_succ, List.set_cons_zero, List.set_cons_succ, Nat.reduceAdd, Nat.reduceSub, if_true, if_false, id, ups_same, ex_lst, ex_lst2, ex_some, atI_0, atI_1, atI_2, atI_3, ixN_0, ixN_1, ixN_21, oIx_p]
  intro p0 hp0
  refine ⟨sz1, fun p hp => ?_⟩
  refine for_intro ?_
  simp only [sSeq, sNext_eq, sBreak_eq, sCont_eq, sDrop, sRet, sRetN, sIf, sSet, sPar, sAsg, sRaise, gN, gE, gC, gU, gS, qVar, qC, qBin, qTB, qChain, qNot, qAnd, qOr, bd_bl, qNotT, qAndT, qOrT, qTru, tru_non, tru_bl, tru_int, tru_str, tru_tup, tru_rol, tru_ref, qIf, qNil, qCons, qTup, qLst, qCB, cInt_i, cInt2_ii, cToInt_i, cToInt_b, cLen_s, cLen_t, cLen_r, cLen_l, cTuple_t, cTuple_r, cTuple_l, cList_t, cList_r, cList_l, qNeg, oI_ii, oAdd_ii, oSub, oMul, oDiv, oMod, oPow, oEq, oNe, oEqW_ii, oEqW_ss, oEqW_bb, oLt, oLe, oGt, oGe, oOrd_ii, oOrd_ss, oIx_t, oIx_r, oIx_l, oIx_s, qNo, qPart, qSl, oSl_t, oSl_r, oSl_l, oSl_s, qMeth, mAppend_1, iSeq, iRange1, iRange2, qCall, endsF, startD, List.map_cons, List.map_nil, List.length_cons, List.length_nil, List.length_map, List.cons_append, List.nil_append, List.replicate, List.getElem?_cons_zero, List.getElem?_cons_succ, List.set_cons_zero, List.set_cons_succ, Nat.reduceAdd, Nat.reduceSub, if_true, if_false, id, ups_same, ex_lst, ex_lst2, ex_some, atI_0, atI_1, atI_2, atI_3, ixN_0, ixN_1, ixN_21, oIx_p]
  have hpp : p0 ≠ p := fun z => by
    rw [← z, ups_same] at hp
    cases hp
  have hS : S p = none := by
    rw [ups_ne (Ne.symm hpp)] at hp
    exact hp
  refine ⟨by omega, by omega, fun i loc S' => ∃ (z3 : Option D) (as : List Addr) (al : Addr), loc = [some (.tup [.str (tx l), tD t, .tup (e.map D.int)]), some (.int n), some (.ref p), z3, none, none] ∧ as.length = i ∧ S' p = some (.lst ((as ++ [al]).map D.ref)) ∧ (∀ (j : Nat) (a : Addr), (as ++ [al])[j]? = some a → a ≠ p ∧ S' a = some (.lst ((cr t e j).map D.int))) ∧ Sub S S', ⟨none, [], p0, rfl, rfl, ups_same, fun j a z => ?_, ?_⟩, ?_, ?_⟩
  · match j, z with
    | 0, z =>
      cases z
      refine ⟨hpp, ?_⟩
      rw [ups_ne hpp, ups_same, ← cr_zero hc.len]
    | j + 1, z => simp at z
  · exact ((Sub.refl S).new hp0).at hS
  · rintro i d loc S' hi ⟨z3, as, al, rfl, hlen, e1, hR, sub⟩
    obtain ⟨hi1, rfl⟩ := rangeD_get hi
    refine ⟨trivial, ?_⟩
    have eal := hR i al (by rw [List.getElem?_append_right (by omega), hlen]; simp)
    simp only [r_rows_of_b1, sSeq, sNext_eq, sBreak_eq, sCont_eq, sDrop, sRet, sRetN, sIf, sSet, sPar, sAsg, sRaise, gN, gE, gC, gU, gS, qVar, qC, qBin, qTB, qChain, qNot, qAnd, qOr, bd_bl, qNotT, qAndT, qOrT, qTru, tru_non, tru_bl, tru_int, tru_str, tru_tup, tru_rol, tru_ref, qIf, qNil, qCons, qTup, qLst, qCB, cInt_i, cInt2_ii, cToInt_i, cToInt_b, cLen_s, cLen_t, cLen_r, cLen_l, cTuple_t, cTuple_r, cTuple_l, cList_t, cList_r, cList_l, qNeg, oI_ii, oAdd_ii, oSub, oMul, oDiv, oMod, oPow, oEq, oNe, oEqW_ii, oEqW_ss, oEqW_bb, oLt, oLe, oGt, oGe, oOrd_ii, oOrd_ss, oIx_t, oIx_r, oIx_l, oIx_s, qNo, qPart, qSl, oSl_t, oSl_r, oSl_l, oSl_s, qMeth, mAppend_1, iSeq, iRange1, iRange2, qCall, endsF, startD, List.map_cons, List.map_nil, List.length_cons, List.length_nil, List.length_map, List.cons_append, List.nil_append, List.replicate, List.getElem?_cons_zero, List.getElem?_cons_succ, List.set_cons_zero, List.set_cons_succ, Nat.reduceAdd, Nat.reduceSub, if_true, if_false, id, ups_same, ex_lst, ex_lst2, ex_some, atI_0, atI_1, atI_2, atI_3, ixN_0, ixN_1, ixN_21, oIx_p]
    refine ⟨⟨_, e1⟩, ?_⟩
    refine lc_mapT (.vals (t.map rD)) t rD (fun r => .int (r.map fun a => cn t e i a.toNat).sum) (S1 := S') (fun Q hQ => by simp only [tD, sSeq, sNext_eq, sBreak_eq, sCont_eq, sDrop, sRet, sRetN, sIf, sSet, sPar, sAsg, sRaise, gN, gE, gC, gU, gS, qVar, qC, qBin, qTB, qChain, qNot, qAnd, qOr, bd_bl, qNotT, qAndT, qOrT, qTru, tru_non, tru_bl, tru_int, tru_str, tru_tup, tru_rol, tru_ref, qIf, qNil, qCons, qTup, qLst, qCB, cInt_i, cInt2_ii, cToInt_i, cToInt_b, cLen_s, cLen_t, cLen_r, cLen_l, cTuple_t, cTuple_r, cTuple_l, cList_t, cList_r, cList_l, qNeg, oI_ii, oAdd_ii, oSub, oMul, oDiv, oMod, oPow, oEq, oNe, oEqW_ii, oEqW_ss, oEqW_bb, oLt, oLe, oGt, oGe, oOrd_ii, oOrd_ss, oIx_t, oIx_r, oIx_l, oIx_s, qNo, qPart, qSl, oSl_t, oSl_r, oSl_l, oSl_s, qMeth, mAppend_1, iSeq, iRange1, iRange2, qCall, endsF, startD, List.map_cons, List.map_nil, List.length_cons, List.length_nil, List.length_map, List.cons_append, List.nil_append, List.replicate, List.getElem?_cons_zero, List.getElem?_cons_succ, List.set_cons_zero, List.set_cons_succ, Nat.reduceAdd, Nat.reduceSub, if_true, if_false, id, ups_same, ex_lst, ex_lst2, ex_some, atI_0, atI_1, atI_2, atI_3, ixN_0, ixN_1, ixN_21, oIx_p]; exact hQ) ok_vals rfl (by omega) (fun r S2 C hr s2 hC => ?_) fun p4 S4 hp4 s4 e4 => ?_
    · simp only [wipeD, sSeq, sNext_eq, sBreak_eq, sCont_eq, sDrop, sRet, sRetN, sIf, sSet, sPar, sAsg, sRaise, gN, gE, gC, gU, gS, qVar, qC, qBin, qTB, qChain, qNot, qAnd, qOr, bd_bl, qNotT, qAndT, qOrT, qTru, tru_non, tru_bl, tru_int, tru_str, tru_tup, tru_rol, tru_ref, qIf, qNil, qCons, qTup, qLst, qCB, cInt_i, cInt2_ii, cToInt_i, cToInt_b, cLen_s, cLen_t, cLen_r, cLen_l, cTuple_t, cTuple_r, cTuple_l, cList_t, cList_r, cList_l, qNeg, oI_ii, oAdd_ii, oSub, oMul, oDiv, oMod, oPow, oEq, oNe, oEqW_ii, oEqW_ss, oEqW_bb, oLt, oLe, oGt, oGe, oOrd_ii, oOrd_ss, oIx_t, oIx_r, oIx_l, oIx_s, qNo, qPart, qSl, oSl_t, oSl_r, oSl_l, oSl_s, qMeth, mAppend_1, iSeq, iRange1, iRange2, qCall, endsF, startD, List.map_cons, List.map_nil, List.length_cons, List.length_nil, List.length_map, List.cons_append, List.nil_append, List.replicate, List.getElem?_cons_zero, List.getElem?_cons_succ, List.set_cons_zero, List.set_cons_succ, Nat.reduceAdd, Nat.reduceSub, if_true, if_false, id, ups_same, ex_lst, ex_lst2, ex_some, atI_0, atI_1, atI_2, atI_3, ixN_0, ixN_1, ixN_21, oIx_p, cSum]
      refine lc_mapT (.vals (r.map D.int)) r D.int (fun a => .int (cn t e i a.toNat)) (S1 := S2) (fun Q hQ => by simp only [rD, sSeq, sNext_eq, sBreak_eq, sCont_eq, sDrop, sRet, sRetN, sIf, sSet, sPar, sAsg, sRaise, gN, gE, gC, gU, gS, qVar, qC, qBin, qTB, qChain, qNot, qAnd, qOr, bd_bl, qNotT, qAndT, qOrT, qTru, tru_non, tru_bl, tru_int, tru_str, tru_tup, tru_rol, tru_ref, qIf, qNil, qCons, qTup, qLst, qCB, cInt_i, cInt2_ii, cToInt_i, cToInt_b, cLen_s, cLen_t, cLen_r, cLen_l, cTuple_t, cTuple_r, cTuple_l, cList_t, cList_r, cList_l, qNeg, oI_ii, oAdd_ii, oSub, oMul, oDiv, oMod, oPow, oEq, oNe, oEqW_ii, oEqW_ss, oEqW_bb, oLt, oLe, oGt, oGe, oOrd_ii, oOrd_ss, oIx_t, oIx_r, oIx_l, oIx_s, qNo, qPart, qSl, oSl_t, oSl_r, oSl_l, oSl_s, qMeth, mAppend_1, iSeq, iRange1, iRange2, qCall, endsF, startD, List.map_cons, List.map_nil, List.length_cons, List.length_nil, List.length_map, List.cons_append, List.nil_append, List.replicate, List.getElem?_cons_zero, List.getElem?_cons_succ, List.set_cons_zero, List.set_cons_succ, Nat.reduceAdd, Nat.reduceSub, if_true, if_false, id, ups_same, ex_lst, ex_lst2, ex_some, atI_0, atI_1, atI_2, atI_3, ixN_0, ixN_1, ixN_21, oIx_p]; exact hQ) ok_vals rfl (by rw [hc.row r hr]; have := hc.sg.hi; omega) (fun a S3 C3 ha s3 hC3 => ?_) fun p5 S5 hp5 s5 e5 => ?_
      · simp only [wipeD, sSeq, sNext_eq, sBreak_eq, sCont_eq, sDrop, sRet, sRetN, sIf, sSet, sPar, sAsg, sRaise, gN, gE, gC, gU, gS, qVar, qC, qBin, qTB, qChain, qNot, qAnd, qOr, bd_bl, qNotT, qAndT, qOrT, qTru, tru_non, tru_bl, tru_int, tru_str, tru_tup, tru_rol, tru_ref, qIf, qNil, qCons, qTup, qLst, qCB, cInt_i, cInt2_ii, cToInt_i, cToInt_b, cLen_s, cLen_t, cLen_r, cLen_l, cTuple_t, cTuple_r, cTuple_l, cList_t, cList_r, cList_l, qNeg, oI_ii, oAdd_ii, oSub, oMul, oDiv, oMod, oPow, oEq, oNe, oEqW_ii, oEqW_ss, oEqW_bb, oLt, oLe, oGt, oGe, oOrd_ii, oOrd_ss, oIx_t, oIx_r, oIx_l, oIx_s, qNo, qPart, qSl, oSl_t, oSl_r, oSl_l, oSl_s, qMeth, mAppend_1, iSeq, iRange1, iRange2, qCall, endsF, startD, List.map_cons, List.map_nil, List.length_cons, List.length_nil, List.length_map, List.cons_append, List.nil_append, List.replicate, List.getElem?_cons_zero, List.getElem?_cons_succ, List.set_cons_zero, List.set_cons_succ, Nat.reduceAdd, Nat.reduceSub, if_true, if_false, id, ups_same, ex_lst, ex_lst2, ex_some, atI_0, atI_1, atI_2, atI_3, ixN_0, ixN_1, ixN_21, oIx_p]
        refine ⟨_, s3 _ _ (s2 _ _ e1), .ref al, ?_, ?_⟩
        · rw [List.map_append]
          exact atI_last _ _
        · obtain ⟨a0, a1⟩ := hc.rng r hr a ha
          obtain ⟨a, rfl⟩ := Int.eq_ofNat_of_zero_le a0
          rw [oIx_l]
          refine ⟨_, s3 _ _ (s2 _ _ eal.2), _, cr_get (by omega), ?_⟩
          exact hC3 S3 (Sub.refl _)
      · exact ⟨.ref p5, r.map fun a => cn t e i a.toNat, rfl, .inr ⟨p5, rfl, by rw [e5, List.map_map]; rfl⟩, hC S5 s5⟩
    · have hp4p : p4 ≠ p := Ne.symm (sto_ne e1 hp4)
      refine ⟨_, s4 _ _ e1, szB (by simp; omega), _, as ++ [al], p4, rfl, by simp [hlen], by simp, fun j a z => ?_, (sub.trans s4).at hS⟩
      by_cases hj : j < (as ++ [al]).length
      · rw [List.getElem?_append_left hj] at z
        obtain ⟨z1, z2⟩ := hR j a z
        exact ⟨z1, by rw [ups_ne z1]; exact s4 _ _ z2⟩
      · rw [List.getElem?_append_right (by omega)] at z
        have hj2 := (List.getElem?_eq_some_iff.mp z).1
        simp only [List.length_append, List.length_cons, List.length_nil] at hj hj2
        have ej : j = i + 1 := by omega
        have e0 : j - (as ++ [al]).length = 0 := by simp; omega
        rw [e0] at z
        cases z
        refine ⟨hp4p, ?_⟩
        rw [ups_ne hp4p, e4, ej, ← cr_succ, List.map_map]
        rfl
  · rintro loc S' ⟨z3, as, al, rfl, hlen, e1, hR, sub⟩
    refine ⟨trivial, ?_⟩
    simp only [sSeq, sNext_eq, sBreak_eq, sCont_eq, sDrop, sRet, sRetN, sIf, sSet, sPar, sAsg, sRaise, gN, gE, gC, gU, gS, qVar, qC, qBin, qTB, qChain, qNot, qAnd, qOr, bd_bl, qNotT, qAndT, qOrT, qTru, tru_non, tru_bl, tru_int, tru_str, tru_tup, tru_rol, tru_ref, qIf, qNil, qCons, qTup, qLst, qCB, cInt_i, cInt2_ii, cToInt_i, cToInt_b, cLen_s, cLen_t, cLen_r, cLen_l, cTuple_t, cTuple_r, cTuple_l, cList_t, cList_r, cList_l, qNeg, oI_ii, oAdd_ii, oSub, oMul, oDiv, oMod, oPow, oEq, oNe, oEqW_ii, oEqW_ss, oEqW_bb, oLt, oLe, oGt, oGe, oOrd_ii, oOrd_ss, oIx_t, oIx_r, oIx_l, oIx_s, qNo, qPart, qSl, oSl_t, oSl_r, oSl_l, oSl_s, qMeth, mAppend_1, iSeq, iRange1, iRange2, qCall, endsF, startD, List.map_cons, List.map_nil, List.length_cons, List.length_nil, List.length_map, List.cons_append, List.nil_append, List.replicate, List.getElem?_cons_zero, List.getElem?_cons_succ, List.set_cons_zero, List.set_cons_succ, Nat.reduceAdd, Nat.reduceSub, if_true, if_false, id, ups_same, ex_lst, ex_lst2, ex_some, atI_0, atI_1, atI_2, atI_3, ixN_0, ixN_1, ixN_21, oIx_p]
    rw [range_items, List.length_map, List.length_range] at hlen
    exact ⟨S', Sub.refl _, q p S' sub ⟨as ++ [al], by simp [hlen], e1, fun j a z => (hR j a z).2⟩⟩
theorem p_count_valid : ∀ ds S Q E, sp_count_valid ad ds S Q E → r_count_valid ad (endsF Q E) (startD N_count_valid ds) S := by
  rintro ds S Q E ⟨l, t, e, n, rfl, hz, h1, h2⟩
  simp only [r_count_valid, sSeq, sNext_eq, sBreak_eq, sCont_eq, sDrop, sRet, sRetN, sIf, sSet, sPar, sAsg, sRaise, gN, gE, gC, gU, gS, qVar, qC, qBin, qTB, qChain, qNot, qAnd, qOr, bd_bl, qNotT, qAndT, qOrT, qTru, tru_non, tru_bl, tru_int, tru_str, tru_tup, tru_rol, tru_ref, qIf, qNil, qCons, qTup, qLst, qCB, cInt_i, cInt2_ii, cToInt_i, cToInt_b, cLen_s, cLen_t, cLen_r, cLen_l, cTuple_t, cTuple_r, cTuple_l, cList_t, cList_r, cList_l, qNeg, oI_ii, oAdd_ii, oSub, oMul, oDiv, oMod, oPow, oEq, oNe, oEqW_ii, oEqW_ss, oEqW_bb, oLt, oLe, oGt, oGe, oOrd_ii, oOrd_ss, oIx_t, oIx_r, oIx_l, oIx_s, qNo, qPart, qSl, oSl_t, oSl_r, oSl_l, oSl_s, qMeth, mAppend_1, iSeq, iRange1, iRange2, qCall, endsF, startD, List.map_cons, List.map_nil, List.length_cons, List.length_nil, List.length_map, List.cons_append, List.nil_append, List.replicate, List.getElem?_cons_zero, List.getElem?_cons_succ, List.set_cons_zero, List.set_cons_succ, Nat.reduceAdd, Nat.reduceSub, if_true, if_false, id, ups_same, ex_lst, ex_lst2, ex_some, atI_0, atI_1, atI_2, atI_3, ixN_0, ixN_1, ixN_21, oIx_p]
  rw [sp_check_checker]
  refine ⟨l, t, e, rfl, hz, fun hc => ?_, fun hc => ⟨S, Sub.refl S, h2 fun z => hc z.1⟩⟩
  try simp only [sSeq, sNext_eq, sBreak_eq, sCont_eq, sDrop, sRet, sRetN, sIf, sSet, sPar, sAsg, sRaise, gN, gE, gC, gU, gS, qVar, qC, qBin, qTB, qChain, qNot, qAnd, qOr, bd_bl, qNotT, qAndT, qOrT, qTru, tru_non, tru_bl, tru_int, tru_str, tru_tup, tru_rol, tru_ref, qIf, qNil, qCons, qTup, qLst, qCB, cInt_i, cInt2_ii, cToInt_i, cToInt_b, cLen_s, cLen_t, cLen_r, cLen_l, cTuple_t, cTuple_r, cTuple_l, cList_t, cList_r, cList_l, qNeg, oI_ii, oAdd_ii, oSub, oMul, oDiv, oMod, oPow, oEq, oNe, oEqW_ii, oEqW_ss, oEqW_bb, oLt, oLe, oGt, oGe, oOrd_ii, oOrd_ss, oIx_t, oIx_r, oIx_l, oIx_s, qNo, qPart, qSl, oSl_t, oSl_r, oSl_l, oSl_s, qMeth, mAppend_1, iSeq, iRange1, iRange2, qCall, endsF, startD, List.map_cons, List.map_nil, List.length_cons, List.length_nil, List.length_map, List.cons_append, List.nil_append, List.replicate, List.getElem?_cons_zero, List.getElem?_cons_succ, List.set_cons_zero, List.set_cons_succ, Nat.reduceAdd, Nat.reduceSub, if_true, if_false, id, ups_same, ex_lst, ex_lst2, ex_some, atI_0, atI_1, atI_2, atI_3, ixN_0, ixN_1, ixN_21, oIx_p]
  rw [sp_check_length]
  refine ⟨n, rfl, fun g1 g2 => ?_, fun g => ⟨S, Sub.refl S, h2 fun z => g z.2⟩⟩
  obtain ⟨m, rfl⟩ := Int.eq_ofNat_of_zero_le g1
  try simp only [sSeq, sNext_eq, sBreak_eq, sCont_eq, sDrop, sRet, sRetN, sIf, sSet, sPar, sAsg, sRaise, gN, gE, gC, gU, gS, qVar, qC, qBin, qTB, qChain, qNot, qAnd, qOr, bd_bl, qNotT, qAndT, qOrT, qTru, tru_non, tru_bl, tru_int, tru_str, tru_tup, tru_rol, tru_ref, qIf, qNil, qCons, qTup, qLst, qCB, cInt_i, cInt2_ii, cToInt_i, cToInt_b, cLen_s, cLen_t, cLen_r, cLen_l, cTuple_t, cTuple_r, cTuple_l, cList_t, cList_r, cList_l, qNeg, oI_ii, oAdd_ii, oSub, oMul, oDiv, oMod, oPow, oEq, oNe, oEqW_ii, oEqW_ss, oEqW_bb, oLt, oLe, oGt, oGe, oOrd_ii, oOrd_ss, oIx_t, oIx_r, oIx_l, oIx_s, qNo, qPart, qSl, oSl_t, oSl_r, oSl_l, oSl_s, qMeth, mAppend_1, iSeq, iRange1, iRange2, qCall, endsF, startD, List.map_cons, List.map_nil, List.length_cons, List.length_nil, List.length_map, List.cons_append, List.nil_append, List.replicate, List.getElem?_cons_zero, List.getElem?_cons_succ, List.set_cons_zero, List.set_cons_succ, Nat.reduceAdd, Nat.reduceSub, if_true, if_false, id, ups_same, ex_lst, ex_lst2, ex_some, atI_0, atI_1, atI_2, atI_3, ixN_0, ixN_1, ixN_21, oIx_p]
  rw [sp_rows_of]
  refine ⟨l, t, e, m, rfl, hc, by omega, fun p S' sub ⟨as, ha, e1, hR⟩ => ?_⟩
  rw [oIx_l]
  have hm : m < as.length := by omega
  refine ⟨_, e1, .ref as[m], ?_, ?_⟩
  · rw [atI_lt, List.getElem?_map, List.getElem?_eq_getElem hm]
    rfl
  · rw [oIx_l]
    refine ⟨_, hR m _ (List.getElem?_eq_getElem hm), _, cr_get (j := 0) (by have := hc.pos; omega), S, sub, ?_⟩
    exact h1 hc g1 g2
/-! ## the law's own: signs, checkers -/
theorem allS_len : allS.length = 36 := rfl
theorem p__law_signs : ∀ ds S Q E, sp__law_signs ad ds S Q E → r__law_signs ad (endsF Q E) (startD N__law_signs ds) S := by
  rintro ds S Q E ⟨s, n, xs, k, rfl, h, hk, q⟩
  have hk0 := h.k0
  simp only [r__law_signs, cListX, qMethS, mJoin, cSorted, sSeq, sNext_eq, sBreak_eq, sCont_eq, sDrop, sRet, sRetN, sIf, sSet, sPar, sAsg, sRaise, gN, gE, gC, gU, gS, qVar, qC, qBin, qTB, qChain, qNot, qAnd, qOr, bd_bl, qNotT, qAndT, qOrT, qTru, tru_non, tru_bl, tru_int, tru_str, tru_tup, tru_rol, tru_ref, qIf, qNil, qCons, qTup, qLst, qCB, cInt_i, cInt2_ii, cToInt_i, cToInt_b, cLen_s, cLen_t, cLen_r, cLen_l, cTuple_t, cTuple_r, cTuple_l, cList_t, cList_r, cList_l, qNeg, oI_ii, oAdd_ii, oSub, oMul, oDiv, oMod, oPow, oEq, oNe, oEqW_ii, oEqW_ss, oEqW_bb, oLt, oLe, oGt, oGe, oOrd_ii, oOrd_ss, oIx_t, oIx_r, oIx_l, oIx_s, qNo, qPart, qSl, oSl_t, oSl_r, oSl_l, oSl_s, qMeth, mAppend_1, iSeq, iRange1, iRange2, qCall, endsF, startD, List.map_cons, List.map_nil, List.length_cons, List.length_nil, List.length_map, List.cons_append, List.nil_append, List.replicate, List.getElem?_cons_zero, List.getElem?_cons_succ, List.set_cons_zero, List.set_cons_succ, Nat.reduceAdd, Nat.reduceSub, if_true, if_false, id, ups_same, ex_lst, ex_lst2, ex_some, atI_0, atI_1, atI_2, atI_3, ixN_0, ixN_1, ixN_21, oIx_p]
  refine next_go h (by omega) (by omega) fun a a0 a1 => ?_
  try simp only [sSeq, sNext_eq, sBreak_eq, sCont_eq, sDrop, sRet, sRetN, sIf, sSet, sPar, sAsg, sRaise, gN, gE, gC, gU, gS, qVar, qC, qBin, qTB, qChain, qNot, qAnd, qOr, bd_bl, qNotT, qAndT, qOrT, qTru, tru_non, tru_bl, tru_int, tru_str, tru_tup, tru_rol, tru_ref, qIf, qNil, qCons, qTup, qLst, qCB, cInt_i, cInt2_ii, cToInt_i, cToInt_b, cLen_s, cLen_t, cLen_r, cLen_l, cTuple_t, cTuple_r, cTuple_l, cList_t, cList_r, cList_l, qNeg, oI_ii, oAdd_ii, oSub, oMul, oDiv, oMod, oPow, oEq, oNe, oEqW_ii, oEqW_ss, oEqW_bb, oLt, oLe, oGt, oGe, oOrd_ii, oOrd_ss, oIx_t, oIx_r, oIx_l, oIx_s, qNo, qPart, qSl, oSl_t, oSl_r, oSl_l, oSl_s, qMeth, mAppend_1, iSeq, iRange1, iRange2, qCall, endsF, startD, List.map_cons, List.map_nil, List.length_cons, List.length_nil, List.length_map, List.cons_append, List.nil_append, List.replicate, List.getElem?_cons_zero, List.getElem?_cons_succ, List.set_cons_zero, List.set_cons_succ, Nat.reduceAdd, Nat.reduceSub, if_true, if_false, id, ups_same, ex_lst, ex_lst2, ex_some, atI_0, atI_1, atI_2, atI_3, ixN_0, ixN_1, ixN_21, oIx_p]
  have I0 := (St.start h).step (i := k + 1) (by omega)
  refine next_go I0.st (by omega) (by omega) fun b b0 b1 => ?_
  try simp only [sSeq, sNext_eq, sBreak_eq, sCont_eq, sDrop, sRet, sRetN, sIf, sSet, sPar, sAsg, sRaise, gN, gE, gC, gU, gS, qVar, qC, qBin, qTB, qChain, qNot, qAnd, qOr, bd_bl, qNotT, qAndT, qOrT, qTru, tru_non, tru_bl, tru_int, tru_str, tru_tup, tru_rol, tru_ref, qIf, qNil, qCons, qTup, qLst, qCB, cInt_i, cInt2_ii, cToInt_i, cToInt_b, cLen_s, cLen_t, cLen_r, cLen_l, cTuple_t, cTuple_r, cTuple_l, cList_t, cList_r, cList_l, qNeg, oI_ii, oAdd_ii, oSub, oMul, oDiv, oMod, oPow, oEq, oNe, oEqW_ii, oEqW_ss, oEqW_bb, oLt, oLe, oGt, oGe, oOrd_ii, oOrd_ss, oIx_t, oIx_r, oIx_l, oIx_s, qNo, qPart, qSl, oSl_t, oSl_r, oSl_l, oSl_s, qMeth, mAppend_1, iSeq, iRange1, iRange2, qCall, endsF, startD, List.map_cons, List.map_nil, List.length_cons, List.length_nil, List.length_map, List.cons_append, List.nil_append, List.replicate, List.getElem?_cons_zero, List.getElem?_cons_succ, List.set_cons_zero, List.set_cons_succ, Nat.reduceAdd, Nat.reduceSub, if_true, if_false, id, ups_same, ex_lst, ex_lst2, ex_some, atI_0, atI_1, atI_2, atI_3, ixN_0, ixN_1, ixN_21, oIx_p]
  have I1 := I0.step (i := k + 1 + 1) (by omega)
  refine ⟨by decide, fun pa hpa => ?_⟩
  have I2 := I1.new hpa (o := .lst [.int (2 + a), .int (2 + b)])
  have hpas : pa ≠ s := I1.st.ne_s hpa
  refine next_go I2.st (by omega) (by omega) fun c c0 c1 => ?_
  try simp only [sSeq, sNext_eq, sBreak_eq, sCont_eq, sDrop, sRet, sRetN, sIf, sSet, sPar, sAsg, sRaise, gN, gE, gC, gU, gS, qVar, qC, qBin, qTB, qChain, qNot, qAnd, qOr, bd_bl, qNotT, qAndT, qOrT, qTru, tru_non, tru_bl, tru_int, tru_str, tru_tup, tru_rol, tru_ref, qIf, qNil, qCons, qTup, qLst, qCB, cInt_i, cInt2_ii, cToInt_i, cToInt_b, cLen_s, cLen_t, cLen_r, cLen_l, cTuple_t, cTuple_r, cTuple_l, cList_t, cList_r, cList_l, qNeg, oI_ii, oAdd_ii, oSub, oMul, oDiv, oMod, oPow, oEq, oNe, oEqW_ii, oEqW_ss, oEqW_bb, oLt, oLe, oGt, oGe, oOrd_ii, oOrd_ss, oIx_t, oIx_r, oIx_l, oIx_s, qNo, qPart, qSl, oSl_t, oSl_r, oSl_l, oSl_s, qMeth, mAppend_1, iSeq, iRange1, iRange2, qCall, endsF, startD, List.map_cons, List.map_nil, List.length_cons, List.length_nil, List.length_map, List.cons_append, List.nil_append, List.replicate, List.getElem?_cons_zero, List.getElem?_cons_succ, List.set_cons_zero, List.set_cons_succ, Nat.reduceAdd, Nat.reduceSub, if_true, if_false, id, ups_same, ex_lst, ex_lst2, ex_some, atI_0, atI_1, atI_2, atI_3, ixN_0, ixN_1, ixN_21, oIx_p]
  have I3 := I2.step (i := k + 1 + 1 + 1) (by omega)
  obtain ⟨m, em, m1, m2⟩ : ∃ m : Nat, atI [D.int (2 + a), .int (2 + b)] (if decide (c = 0) = true then 1 else 0) = some (.int m) ∧ 2 ≤ m ∧ m ≤ 12 := by
    obtain ⟨a, rfl⟩ := Int.eq_ofNat_of_zero_le a0
    obtain ⟨b, rfl⟩ := Int.eq_ofNat_of_zero_le b0
    by_cases hc : c = 0
    · rw [if_pos (decide_eq_true hc)]
      exact ⟨2 + b, by rw [atI_1]; simp, by omega, by omega⟩
    · rw [if_neg (by simpa using hc)]
      exact ⟨2 + a, by rw [atI_0]; simp, by omega, by omega⟩
  rw [stepS_ne hpas]
  refine ⟨_, ups_same, _, em, ?_⟩
  try simp only [sSeq, sNext_eq, sBreak_eq, sCont_eq, sDrop, sRet, sRetN, sIf, sSet, sPar, sAsg, sRaise, gN, gE, gC, gU, gS, qVar, qC, qBin, qTB, qChain, qNot, qAnd, qOr, bd_bl, qNotT, qAndT, qOrT, qTru, tru_non, tru_bl, tru_int, tru_str, tru_tup, tru_rol, tru_ref, qIf, qNil, qCons, qTup, qLst, qCB, cInt_i, cInt2_ii, cToInt_i, cToInt_b, cLen_s, cLen_t, cLen_r, cLen_l, cTuple_t, cTuple_r, cTuple_l, cList_t, cList_r, cList_l, qNeg, oI_ii, oAdd_ii, oSub, oMul, oDiv, oMod, oPow, oEq, oNe, oEqW_ii, oEqW_ss, oEqW_bb, oLt, oLe, oGt, oGe, oOrd_ii, oOrd_ss, oIx_t, oIx_r, oIx_l, oIx_s, qNo, qPart, qSl, oSl_t, oSl_r, oSl_l, oSl_s, qMeth, mAppend_1, iSeq, iRange1, iRange2, qCall, endsF, startD, List.map_cons, List.map_nil, List.length_cons, List.length_nil, List.length_map, List.cons_append, List.nil_append, List.replicate, List.getElem?_cons_zero, List.getElem?_cons_succ, List.set_cons_zero, List.set_cons_succ, Nat.reduceAdd, Nat.reduceSub, if_true, if_false, id, ups_same, ex_lst, ex_lst2, ex_some, atI_0, atI_1, atI_2, atI_3, ixN_0, ixN_1, ixN_21, oIx_p]
  refine .inr ⟨tx allS, by rw [← all_tx], by rw [tx_len]; decide, fun p0 hp0 => ?_⟩
  rw [chars_tx]
  have I4 := I3.new hp0 (o := .lst (allS.map cD))
  have hp0s : p0 ≠ s := I3.st.ne_s hp0
  have hp0S := I3.free hp0
  generalize stepS (ups (stepS (stepS S s n (k + 1)) s n (k + 1 + 1)) pa _) s n (k + 1 + 1 + 1) = S3 at I3 I4 hp0 ⊢
  refine ⟨by decide, fun p hp => ?_⟩
  have hpp : p0 ≠ p := sto_ne ups_same hp
  have hpS := I4.free hp
  have I5 := I4.new hp (o := .lst [])
  refine for_intro ?_
  simp only [sSeq, sNext_eq, sBreak_eq, sCont_eq, sDrop, sRet, sRetN, sIf, sSet, sPar, sAsg, sRaise, gN, gE, gC, gU, gS, qVar, qC, qBin, qTB, qChain, qNot, qAnd, qOr, bd_bl, qNotT, qAndT, qOrT, qTru, tru_non, tru_bl, tru_int, tru_str, tru_tup, tru_rol, tru_ref, qIf, qNil, qCons, qTup, qLst, qCB, cInt_i, cInt2_ii, cToInt_i, cToInt_b, cLen_s, cLen_t, cLen_r, cLen_l, cTuple_t, cTuple_r, cTuple_l, cList_t, cList_r, cList_l, qNeg, oI_ii, oAdd_ii, oSub, oMul, oDiv, oMod, oPow, oEq, oNe, oEqW_ii, oEqW_ss, oEqW_bb, oLt, oLe, oGt, oGe, oOrd_ii, oOrd_ss, oIx_t, oIx_r, oIx_l, oIx_s, qNo, qPart, qSl, oSl_t, oSl_r, oSl_l, oSl_s, qMeth, mAppend_1, iSeq, iRange1, iRange2, qCall, endsF, startD, List.map_cons, List.map_nil, List.length_cons, List.length_nil, List.length_map, List.cons_append, List.nil_append, List.replicate, List.getElem?_cons_zero, List.getElem?_cons_succ, List.set_cons_zero, List.set_cons_succ, Nat.reduceAdd, Nat.reduceSub, if_true, if_false, id, ups_same, ex_lst, ex_lst2, ex_some, atI_0, atI_1, atI_2, atI_3, ixN_0, ixN_1, ixN_21, oIx_p]
  refine ⟨by omega, by omega, fun i loc S' => ∃ (z4 : Option D) (ws rest : List Nat), loc = [some (.ref s), some (.int m), some (.ref p0), some (.ref p), z4] ∧ ws.length = i ∧ (ws ++ rest).Perm allS ∧ S' p0 = some (.lst (rest.map cD)) ∧ S' p = some (.lst (ws.map cD)) ∧ St S S' s n xs (k + 1 + 1 + 1 + i), ⟨none, [], allS, rfl, rfl, List.Perm.refl _, by rw [ups_ne hpp]; exact ups_same, ups_same, by simpa using I5⟩, ?_, ?_⟩
  · rintro i d loc S' hi ⟨z4, ws, rest, rfl, hw, hpm, e1, e2, I⟩
    obtain ⟨hi1, rfl⟩ := rangeD_get hi
    have hlen := hpm.length_eq
    rw [List.length_append, allS_len] at hlen
    refine ⟨trivial, ?_⟩
    simp only [r__law_signs_b1, sSeq, sNext_eq, sBreak_eq, sCont_eq, sDrop, sRet, sRetN, sIf, sSet, sPar, sAsg, sRaise, gN, gE, gC, gU, gS, qVar, qC, qBin, qTB, qChain, qNot, qAnd, qOr, bd_bl, qNotT, qAndT, qOrT, qTru, tru_non, tru_bl, tru_int, tru_str, tru_tup, tru_rol, tru_ref, qIf, qNil, qCons, qTup, qLst, qCB, cInt_i, cInt2_ii, cToInt_i, cToInt_b, cLen_s, cLen_t, cLen_r, cLen_l, cTuple_t, cTuple_r, cTuple_l, cList_t, cList_r, cList_l, qNeg, oI_ii, oAdd_ii, oSub, oMul, oDiv, oMod, oPow, oEq, oNe, oEqW_ii, oEqW_ss, oEqW_bb, oLt, oLe, oGt, oGe, oOrd_ii, oOrd_ss, oIx_t, oIx_r, oIx_l, oIx_s, qNo, qPart, qSl, oSl_t, oSl_r, oSl_l, oSl_s, qMeth, mAppend_1, iSeq, iRange1, iRange2, qCall, endsF, startD, List.map_cons, List.map_nil, List.length_cons, List.length_nil, List.length_map, List.cons_append, List.nil_append, List.replicate, List.getElem?_cons_zero, List.getElem?_cons_succ, List.set_cons_zero, List.set_cons_succ, Nat.reduceAdd, Nat.reduceSub, if_true, if_false, id, ups_same, ex_lst, ex_lst2, ex_some, atI_0, atI_1, atI_2, atI_3, ixN_0, ixN_1, ixN_21, oIx_p, e2, e1]
    refine ⟨⟨_, rfl⟩, ⟨_, rfl⟩, next_go I.st (by simp; omega) (by omega) fun r2 g0 g1 => ⟨rest.map cD, ?_⟩⟩
    obtain ⟨u, rfl⟩ := Int.eq_ofNat_of_zero_le g0
    have hu : u < rest.length := by
      try rw [List.length_map] at g1
      omega
    have I6 := I.step (i := k + 1 + 1 + 1 + i + 1) (by omega)
    rw [stepS_ne hp0s]
    refine ⟨e1, u, u, cD rest[u], rfl, by omega, by omega, ixN_lt (by rw [List.length_map]; exact hu), by rw [List.getElem?_map, List.getElem?_eq_getElem hu]; rfl, ?_⟩
    have hps := I.ns hpS
    have e3 : stepS S' s n (k + 1 + 1 + 1 + i + 1) p = some (.lst (ws.map cD)) := by
      rw [stepS_ne hps]
      exact e2
    refine ⟨_, by rw [ups_ne (Ne.symm hpp)]; exact e3, szB (by rw [List.length_map]; omega), _, ws ++ [rest[u]], rest.eraseIdx u, rfl, by rw [List.length_append, hw]; rfl, ?_, ?_, ?_, ?_⟩
    · have := get_erase_perm rest u _ (List.getElem?_eq_getElem hu)
      have h2 := (this.append_left ws).trans hpm
      rw [List.append_assoc]
      exact h2
    · rw [ups_ne hpp, ups_same, erase_map]
    · rw [List.map_append]
      rfl
    · have I7 := (I6.set hp0S (o := .lst ((rest.map cD).eraseIdx u))).set hpS (o := .lst (ws.map cD ++ [cD rest[u]]))
      rw [show k + 1 + 1 + 1 + ((i + 1 : Nat) : Int) = k + 1 + 1 + 1 + (i : Int) + 1 by omega]
      exact I7
  · rintro loc S' ⟨z4, ws, rest, rfl, hw, hpm, e1, e2, I⟩
    rw [range_items, List.length_map, List.length_range] at hw I
    refine ⟨trivial, ?_⟩
    simp only [sSeq, sNext_eq, sBreak_eq, sCont_eq, sDrop, sRet, sRetN, sIf, sSet, sPar, sAsg, sRaise, gN, gE, gC, gU, gS, qVar, qC, qBin, qTB, qChain, qNot, qAnd, qOr, bd_bl, qNotT, qAndT, qOrT, qTru, tru_non, tru_bl, tru_int, tru_str, tru_tup, tru_rol, tru_ref, qIf, qNil, qCons, qTup, qLst, qCB, cInt_i, cInt2_ii, cToInt_i, cToInt_b, cLen_s, cLen_t, cLen_r, cLen_l, cTuple_t, cTuple_r, cTuple_l, cList_t, cList_r, cList_l, qNeg, oI_ii, oAdd_ii, oSub, oMul, oDiv, oMod, oPow, oEq, oNe, oEqW_ii, oEqW_ss, oEqW_bb, oLt, oLe, oGt, oGe, oOrd_ii, oOrd_ss, oIx_t, oIx_r, oIx_l, oIx_s, qNo, qPart, qSl, oSl_t, oSl_r, oSl_l, oSl_s, qMeth, mAppend_1, iSeq, iRange1, iRange2, qCall, endsF, startD, List.map_cons, List.map_nil, List.length_cons, List.length_nil, List.length_map, List.cons_append, List.nil_append, List.replicate, List.getElem?_cons_zero, List.getElem?_cons_succ, List.set_cons_zero, List.set_cons_succ, Nat.reduceAdd, Nat.reduceSub, if_true, if_false, id, ups_same, ex_lst, ex_lst2, ex_some, atI_0, atI_1, atI_2, atI_3, ixN_0, ixN_1, ixN_21, oIx_p]
    refine .inr ⟨_, ws.map one, rfl, .inr ⟨p, rfl, by rw [e2, cD_map]⟩, by rw [List.length_map]; omega, fun os p2 ho hs hp2 => ?_⟩
    obtain ⟨l2, rfl⟩ := one_of (l := ws) fun x hx => by
      obtain ⟨a, _, e⟩ := List.mem_map.mp (ho.mem_iff.mp hx)
      exact ⟨a, e.symm⟩
    have hp3 := perm_one ho
    have nd : (ws ++ rest).Nodup := hpm.nodup_iff.mpr (all_nd.imp fun h => Nat.ne_of_lt h)
    have nd2 : l2.Nodup := hp3.nodup_iff.mpr (List.nodup_append.mp nd).1
    have asc : l2.Pairwise (· < ·) := ((sorted_one.mp hs).and nd2).imp fun h => Nat.lt_of_le_of_ne h.1 h.2
    have hl2 : l2.length = m := by rw [hp3.length_eq]; exact hw
    refine ⟨_, l2.map one, rfl, .inl (.inr ⟨p2, rfl, ups_same⟩), ?_, ?_⟩
    · rw [len_one, List.length_map]
      have : ("" : Str).length = 0 := by decide +kernel
      rw [this]
      omega
    · refine ⟨_, I.at_.new hp2, ?_⟩
      rw [join_one]
      exact q l2 _ ⟨by omega, by omega, fun a ha => hpm.mem_iff.mp (List.mem_append_left _ (hp3.mem_iff.mp ha)), asc⟩ (by omega) (by omega)
def In (m : Nat) (r : List Int) : Prop := ∀ x ∈ r, 0 ≤ x ∧ x < (m : Int)
theorem p__law_checker : ∀ ds S Q E, sp__law_checker ad ds S Q E → r__law_checker ad (endsF Q E) (startD N__law_checker ds) S := by
  rintro ds S Q E ⟨s, n, xs, k, l, m, rfl, h, hk, hg, hm1, hm2, q⟩
  have hk0 := h.k0
  have hlo := hg.lo
  have hhi := hg.hi
  simp only [r__law_checker, sSeq, sNext_eq, sBreak_eq, sCont_eq, sDrop, sRet, sRetN, sIf, sSet, sPar, sAsg, sRaise, gN, gE, gC, gU, gS, qVar, qC, qBin, qTB, qChain, qNot, qAnd, qOr, bd_bl, qNotT, qAndT, qOrT, qTru, tru_non, tru_bl, tru_int, tru_str, tru_tup, tru_rol, tru_ref, qIf, qNil, qCons, qTup, qLst, qCB, cInt_i, cInt2_ii, cToInt_i, cToInt_b, cLen_s, cLen_t, cLen_r, cLen_l, cTuple_t, cTuple_r, cTuple_l, cList_t, cList_r, cList_l, qNeg, oI_ii, oAdd_ii, oSub, oMul, oDiv, oMod, oPow, oEq, oNe, oEqW_ii, oEqW_ss, oEqW_bb, oLt, oLe, oGt, oGe, oOrd_ii, oOrd_ss, oIx_t, oIx_r, oIx_l, oIx_s, qNo, qPart, qSl, oSl_t, oSl_r, oSl_l, oSl_s, qMeth, mAppend_1, iSeq, iRange1, iRange2, qCall, endsF, startD, List.map_cons, List.map_nil, List.length_cons, List.length_nil, List.length_map, List.cons_append, List.nil_append, List.replicate, List.getElem?_cons_zero, List.getElem?_cons_succ, List.set_cons_zero, List.set_cons_succ, Nat.reduceAdd, Nat.reduceSub, if_true, if_false, id, ups_same, ex_lst, ex_lst2, ex_some, atI_0, atI_1, atI_2, atI_3, ixN_0, ixN_1, ixN_21, oIx_p]
  refine lc_rnd (.vals (rangeD 0 (m : Int).toNat)) (List.range m) (fun i : Nat => .int i) 12 rD (fun _ r => r.length = l.length ∧ In m r) (S1 := S) (fun Q hQ => by simp only [sSeq, sNext_eq, sBreak_eq, sCont_eq, sDrop, sRet, sRetN, sIf, sSet, sPar, sAsg, sRaise, gN, gE, gC, gU, gS, qVar, qC, qBin, qTB, qChain, qNot, qAnd, qOr, bd_bl, qNotT, qAndT, qOrT, qTru, tru_non, tru_bl, tru_int, tru_str, tru_tup, tru_rol, tru_ref, qIf, qNil, qCons, qTup, qLst, qCB, cInt_i, cInt2_ii, cToInt_i, cToInt_b, cLen_s, cLen_t, cLen_r, cLen_l, cTuple_t, cTuple_r, cTuple_l, cList_t, cList_r, cList_l, qNeg, oI_ii, oAdd_ii, oSub, oMul, oDiv, oMod, oPow, oEq, oNe, oEqW_ii, oEqW_ss, oEqW_bb, oLt, oLe, oGt, oGe, oOrd_ii, oOrd_ss, oIx_t, oIx_r, oIx_l, oIx_s, qNo, qPart, qSl, oSl_t, oSl_r, oSl_l, oSl_s, qMeth, mAppend_1, iSeq, iRange1, iRange2, qCall, endsF, startD, List.map_cons, List.map_nil, List.length_cons, List.length_nil, List.length_map, List.cons_append, List.nil_append, List.replicate, List.getElem?_cons_zero, List.getElem?_cons_succ, List.set_cons_zero, List.set_cons_succ, Nat.reduceAdd, Nat.reduceSub, if_true, if_false, id, ups_same, ex_lst, ex_lst2, ex_some, atI_0, atI_1, atI_2, atI_3, ixN_0, ixN_1, ixN_21, oIx_p]; exact ⟨by omega, by omega, hQ⟩) range_items (fun _ _ _ => trivial) (by simp; omega) (by omega) h (fun a S' j C ha J j1 j2 hC => ?_) fun p S1 t j hp J j1 j2 e hlen hR => ?_
  · rw [List.length_range] at j2
    simp only [wipeD, sSeq, sNext_eq, sBreak_eq, sCont_eq, sDrop, sRet, sRetN, sIf, sSet, sPar, sAsg, sRaise, gN, gE, gC, gU, gS, qVar, qC, qBin, qTB, qChain, qNot, qAnd, qOr, bd_bl, qNotT, qAndT, qOrT, qTru, tru_non, tru_bl, tru_int, tru_str, tru_tup, tru_rol, tru_ref, qIf, qNil, qCons, qTup, qLst, qCB, cInt_i, cInt2_ii, cToInt_i, cToInt_b, cLen_s, cLen_t, cLen_r, cLen_l, cTuple_t, cTuple_r, cTuple_l, cList_t, cList_r, cList_l, qNeg, oI_ii, oAdd_ii, oSub, oMul, oDiv, oMod, oPow, oEq, oNe, oEqW_ii, oEqW_ss, oEqW_bb, oLt, oLe, oGt, oGe, oOrd_ii, oOrd_ss, oIx_t, oIx_r, oIx_l, oIx_s, qNo, qPart, qSl, oSl_t, oSl_r, oSl_l, oSl_s, qMeth, mAppend_1, iSeq, iRange1, iRange2, qCall, endsF, startD, List.map_cons, List.map_nil, List.length_cons, List.length_nil, List.length_map, List.cons_append, List.nil_append, List.replicate, List.getElem?_cons_zero, List.getElem?_cons_succ, List.set_cons_zero, List.set_cons_succ, Nat.reduceAdd, Nat.reduceSub, if_true, if_false, id, ups_same, ex_lst, ex_lst2, ex_some, atI_0, atI_1, atI_2, atI_3, ixN_0, ixN_1, ixN_21, oIx_p]
    refine lc_rnd (.vals (chars (tx l))) l cD 1 D.int (fun _ v => 0 ≤ v ∧ v < (m : Int)) (S1 := S') (fun Q hQ => by simp only [sSeq, sNext_eq, sBreak_eq, sCont_eq, sDrop, sRet, sRetN, sIf, sSet, sPar, sAsg, sRaise, gN, gE, gC, gU, gS, qVar, qC, qBin, qTB, qChain, qNot, qAnd, qOr, bd_bl, qNotT, qAndT, qOrT, qTru, tru_non, tru_bl, tru_int, tru_str, tru_tup, tru_rol, tru_ref, qIf, qNil, qCons, qTup, qLst, qCB, cInt_i, cInt2_ii, cToInt_i, cToInt_b, cLen_s, cLen_t, cLen_r, cLen_l, cTuple_t, cTuple_r, cTuple_l, cList_t, cList_r, cList_l, qNeg, oI_ii, oAdd_ii, oSub, oMul, oDiv, oMod, oPow, oEq, oNe, oEqW_ii, oEqW_ss, oEqW_bb, oLt, oLe, oGt, oGe, oOrd_ii, oOrd_ss, oIx_t, oIx_r, oIx_l, oIx_s, qNo, qPart, qSl, oSl_t, oSl_r, oSl_l, oSl_s, qMeth, mAppend_1, iSeq, iRange1, iRange2, qCall, endsF, startD, List.map_cons, List.map_nil, List.length_cons, List.length_nil, List.length_map, List.cons_append, List.nil_append, List.replicate, List.getElem?_cons_zero, List.getElem?_cons_succ, List.set_cons_zero, List.set_cons_succ, Nat.reduceAdd, Nat.reduceSub, if_true, if_false, id, ups_same, ex_lst, ex_lst2, ex_some, atI_0, atI_1, atI_2, atI_3, ixN_0, ixN_1, ixN_21, oIx_p]; exact hQ) chars_tx (fun _ _ _ => trivial) (by omega) (by omega) J.st (fun b S2 i C2 hb J2 i1 i2 hC2 => ?_) fun p S2 bs i hp J2 i1 i2 e hlen hR => ?_
    · simp only [wipeD, sSeq, sNext_eq, sBreak_eq, sCont_eq, sDrop, sRet, sRetN, sIf, sSet, sPar, sAsg, sRaise, gN, gE, gC, gU, gS, qVar, qC, qBin, qTB, qChain, qNot, qAnd, qOr, bd_bl, qNotT, qAndT, qOrT, qTru, tru_non, tru_bl, tru_int, tru_str, tru_tup, tru_rol, tru_ref, qIf, qNil, qCons, qTup, qLst, qCB, cInt_i, cInt2_ii, cToInt_i, cToInt_b, cLen_s, cLen_t, cLen_r, cLen_l, cTuple_t, cTuple_r, cTuple_l, cList_t, cList_r, cList_l, qNeg, oI_ii, oAdd_ii, oSub, oMul, oDiv, oMod, oPow, oEq, oNe, oEqW_ii, oEqW_ss, oEqW_bb, oLt, oLe, oGt, oGe, oOrd_ii, oOrd_ss, oIx_t, oIx_r, oIx_l, oIx_s, qNo, qPart, qSl, oSl_t, oSl_r, oSl_l, oSl_s, qMeth, mAppend_1, iSeq, iRange1, iRange2, qCall, endsF, startD, List.map_cons, List.map_nil, List.length_cons, List.length_nil, List.length_map, List.cons_append, List.nil_append, List.replicate, List.getElem?_cons_zero, List.getElem?_cons_succ, List.set_cons_zero, List.set_cons_succ, Nat.reduceAdd, Nat.reduceSub, if_true, if_false, id, ups_same, ex_lst, ex_lst2, ex_some, atI_0, atI_1, atI_2, atI_3, ixN_0, ixN_1, ixN_21, oIx_p]
      exact next_go J2.st (by omega) (by omega) fun r r0 r1 => hC2 r _ (i + 1) ⟨r0, r1⟩ ((St.start J2.st).step (by omega)) (by omega) (by omega)
    · try simp only [sSeq, sNext_eq, sBreak_eq, sCont_eq, sDrop, sRet, sRetN, sIf, sSet, sPar, sAsg, sRaise, gN, gE, gC, gU, gS, qVar, qC, qBin, qTB, qChain, qNot, qAnd, qOr, bd_bl, qNotT, qAndT, qOrT, qTru, tru_non, tru_bl, tru_int, tru_str, tru_tup, tru_rol, tru_ref, qIf, qNil, qCons, qTup, qLst, qCB, cInt_i, cInt2_ii, cToInt_i, cToInt_b, cLen_s, cLen_t, cLen_r, cLen_l, cTuple_t, cTuple_r, cTuple_l, cList_t, cList_r, cList_l, qNeg, oI_ii, oAdd_ii, oSub, oMul, oDiv, oMod, oPow, oEq, oNe, oEqW_ii, oEqW_ss, oEqW_bb, oLt, oLe, oGt, oGe, oOrd_ii, oOrd_ss, oIx_t, oIx_r, oIx_l, oIx_s, qNo, qPart, qSl, oSl_t, oSl_r, oSl_l, oSl_s, qMeth, mAppend_1, iSeq, iRange1, iRange2, qCall, endsF, startD, List.map_cons, List.map_nil, List.length_cons, List.length_nil, List.length_map, List.cons_append, List.nil_append, List.replicate, List.getElem?_cons_zero, List.getElem?_cons_succ, List.set_cons_zero, List.set_cons_succ, Nat.reduceAdd, Nat.reduceSub, if_true, if_false, id, ups_same, ex_lst, ex_lst2, ex_some, atI_0, atI_1, atI_2, atI_3, ixN_0, ixN_1, ixN_21, oIx_p]
      refine ⟨_, e, hC bs S2 i ⟨hlen, fun x hx => ?_⟩ J2 i1 (by omega)⟩
      obtain ⟨_, _, z⟩ := all_R hlen hR x hx
      exact z
  · rw [List.length_range] at j2 hlen
    try simp only [sSeq, sNext_eq, sBreak_eq, sCont_eq, sDrop, sRet, sRetN, sIf, sSet, sPar, sAsg, sRaise, gN, gE, gC, gU, gS, qVar, qC, qBin, qTB, qChain, qNot, qAnd, qOr, bd_bl, qNotT, qAndT, qOrT, qTru, tru_non, tru_bl, tru_int, tru_str, tru_tup, tru_rol, tru_ref, qIf, qNil, qCons, qTup, qLst, qCB, cInt_i, cInt2_ii, cToInt_i, cToInt_b, cLen_s, cLen_t, cLen_r, cLen_l, cTuple_t, cTuple_r, cTuple_l, cList_t, cList_r, cList_l, qNeg, oI_ii, oAdd_ii, oSub, oMul, oDiv, oMod, oPow, oEq, oNe, oEqW_ii, oEqW_ss, oEqW_bb, oLt, oLe, oGt, oGe, oOrd_ii, oOrd_ss, oIx_t, oIx_r, oIx_l, oIx_s, qNo, qPart, qSl, oSl_t, oSl_r, oSl_l, oSl_s, qMeth, mAppend_1, iSeq, iRange1, iRange2, qCall, endsF, startD, List.map_cons, List.map_nil, List.length_cons, List.length_nil, List.length_map, List.cons_append, List.nil_append, List.replicate, List.getElem?_cons_zero, List.getElem?_cons_succ, List.set_cons_zero, List.set_cons_succ, Nat.reduceAdd, Nat.reduceSub, if_true, if_false, id, ups_same, ex_lst, ex_lst2, ex_some, atI_0, atI_1, atI_2, atI_3, ixN_0, ixN_1, ixN_21, oIx_p]
    refine ⟨_, e, ?_⟩
    refine lc_rnd (.vals (rangeD 0 (m : Int).toNat)) (List.range m) (fun i : Nat => .int i) 1 D.int (fun _ v => v = 0 ∨ v = 1) (S1 := S1) (fun Q hQ => by simp only [sSeq, sNext_eq, sBreak_eq, sCont_eq, sDrop, sRet, sRetN, sIf, sSet, sPar, sAsg, sRaise, gN, gE, gC, gU, gS, qVar, qC, qBin, qTB, qChain, qNot, qAnd, qOr, bd_bl, qNotT, qAndT, qOrT, qTru, tru_non, tru_bl, tru_int, tru_str, tru_tup, tru_rol, tru_ref, qIf, qNil, qCons, qTup, qLst, qCB, cInt_i, cInt2_ii, cToInt_i, cToInt_b, cLen_s, cLen_t, cLen_r, cLen_l, cTuple_t, cTuple_r, cTuple_l, cList_t, cList_r, cList_l, qNeg, oI_ii, oAdd_ii, oSub, oMul, oDiv, oMod, oPow, oEq, oNe, oEqW_ii, oEqW_ss, oEqW_bb, oLt, oLe, oGt, oGe, oOrd_ii, oOrd_ss, oIx_t, oIx_r, oIx_l, oIx_s, qNo, qPart, qSl, oSl_t, oSl_r, oSl_l, oSl_s, qMeth, mAppend_1, iSeq, iRange1, iRange2, qCall, endsF, startD, List.map_cons, List.map_nil, List.length_cons, List.length_nil, List.length_map, List.cons_append, List.nil_append, List.replicate, List.getElem?_cons_zero, List.getElem?_cons_succ, List.set_cons_zero, List.set_cons_succ, Nat.reduceAdd, Nat.reduceSub, if_true, if_false, id, ups_same, ex_lst, ex_lst2, ex_some, atI_0, atI_1, atI_2, atI_3, ixN_0, ixN_1, ixN_21, oIx_p]; exact ⟨by omega, by omega, hQ⟩) range_items (fun _ _ _ => trivial) (by simp; omega) (by omega) J.st (fun a S2 i C ha J2 i1 i2 hC => ?_) fun p2 S2 en i hp2 J2 i1 i2 e2 hlen2 hR2 => ?_
    · rw [List.length_range] at i2
      simp only [wipeD, sSeq, sNext_eq, sBreak_eq, sCont_eq, sDrop, sRet, sRetN, sIf, sSet, sPar, sAsg, sRaise, gN, gE, gC, gU, gS, qVar, qC, qBin, qTB, qChain, qNot, qAnd, qOr, bd_bl, qNotT, qAndT, qOrT, qTru, tru_non, tru_bl, tru_int, tru_str, tru_tup, tru_rol, tru_ref, qIf, qNil, qCons, qTup, qLst, qCB, cInt_i, cInt2_ii, cToInt_i, cToInt_b, cLen_s, cLen_t, cLen_r, cLen_l, cTuple_t, cTuple_r, cTuple_l, cList_t, cList_r, cList_l, qNeg, oI_ii, oAdd_ii, oSub, oMul, oDiv, oMod, oPow, oEq, oNe, oEqW_ii, oEqW_ss, oEqW_bb, oLt, oLe, oGt, oGe, oOrd_ii, oOrd_ss, oIx_t, oIx_r, oIx_l, oIx_s, qNo, qPart, qSl, oSl_t, oSl_r, oSl_l, oSl_s, qMeth, mAppend_1, iSeq, iRange1, iRange2, qCall, endsF, startD, List.map_cons, List.map_nil, List.length_cons, List.length_nil, List.length_map, List.cons_append, List.nil_append, List.replicate, List.getElem?_cons_zero, List.getElem?_cons_succ, List.set_cons_zero, List.set_cons_succ, Nat.reduceAdd, Nat.reduceSub, if_true, if_false, id, ups_same, ex_lst, ex_lst2, ex_some, atI_0, atI_1, atI_2, atI_3, ixN_0, ixN_1, ixN_21, oIx_p]
      refine next_go J2.st (by omega) (by omega) fun r r0 r1 => ?_
      try simp only [sSeq, sNext_eq, sBreak_eq, sCont_eq, sDrop, sRet, sRetN, sIf, sSet, sPar, sAsg, sRaise, gN, gE, gC, gU, gS, qVar, qC, qBin, qTB, qChain, qNot, qAnd, qOr, bd_bl, qNotT, qAndT, qOrT, qTru, tru_non, tru_bl, tru_int, tru_str, tru_tup, tru_rol, tru_ref, qIf, qNil, qCons, qTup, qLst, qCB, cInt_i, cInt2_ii, cToInt_i, cToInt_b, cLen_s, cLen_t, cLen_r, cLen_l, cTuple_t, cTuple_r, cTuple_l, cList_t, cList_r, cList_l, qNeg, oI_ii, oAdd_ii, oSub, oMul, oDiv, oMod, oPow, oEq, oNe, oEqW_ii, oEqW_ss, oEqW_bb, oLt, oLe, oGt, oGe, oOrd_ii, oOrd_ss, oIx_t, oIx_r, oIx_l, oIx_s, qNo, qPart, qSl, oSl_t, oSl_r, oSl_l, oSl_s, qMeth, mAppend_1, iSeq, iRange1, iRange2, qCall, endsF, startD, List.map_cons, List.map_nil, List.length_cons, List.length_nil, List.length_map, List.cons_append, List.nil_append, List.replicate, List.getElem?_cons_zero, List.getElem?_cons_succ, List.set_cons_zero, List.set_cons_succ, Nat.reduceAdd, Nat.reduceSub, if_true, if_false, id, ups_same, ex_lst, ex_lst2, ex_some, atI_0, atI_1, atI_2, atI_3, ixN_0, ixN_1, ixN_21, oIx_p]
      refine hC _ _ (i + 1) ?_ ((St.start J2.st).step (by omega)) (by omega) (by omega)
      split
      · exact .inr rfl
      · exact .inl rfl
    · rw [List.length_range] at i2 hlen2
      try simp only [sSeq, sNext_eq, sBreak_eq, sCont_eq, sDrop, sRet, sRetN, sIf, sSet, sPar, sAsg, sRaise, gN, gE, gC, gU, gS, qVar, qC, qBin, qTB, qChain, qNot, qAnd, qOr, bd_bl, qNotT, qAndT, qOrT, qTru, tru_non, tru_bl, tru_int, tru_str, tru_tup, tru_rol, tru_ref, qIf, qNil, qCons, qTup, qLst, qCB, cInt_i, cInt2_ii, cToInt_i, cToInt_b, cLen_s, cLen_t, cLen_r, cLen_l, cTuple_t, cTuple_r, cTuple_l, cList_t, cList_r, cList_l, qNeg, oI_ii, oAdd_ii, oSub, oMul, oDiv, oMod, oPow, oEq, oNe, oEqW_ii, oEqW_ss, oEqW_bb, oLt, oLe, oGt, oGe, oOrd_ii, oOrd_ss, oIx_t, oIx_r, oIx_l, oIx_s, qNo, qPart, qSl, oSl_t, oSl_r, oSl_l, oSl_s, qMeth, mAppend_1, iSeq, iRange1, iRange2, qCall, endsF, startD, List.map_cons, List.map_nil, List.length_cons, List.length_nil, List.length_map, List.cons_append, List.nil_append, List.replicate, List.getElem?_cons_zero, List.getElem?_cons_succ, List.set_cons_zero, List.set_cons_succ, Nat.reduceAdd, Nat.reduceSub, if_true, if_false, id, ups_same, ex_lst, ex_lst2, ex_some, atI_0, atI_1, atI_2, atI_3, ixN_0, ixN_1, ixN_21, oIx_p]
      have hRow : ∀ r ∈ t, r.length = l.length ∧ In m r := fun r hr => by
        obtain ⟨_, _, z⟩ := all_R (by rw [List.length_range]; exact hlen) hR r hr
        exact z
      refine ⟨_, e2, by decide, _, (J.trans J2).at_, q t en i ⟨hg, by omega, by omega, by omega, fun r hr => (hRow r hr).1, fun r hr => by rw [hlen]; exact (hRow r hr).2, fun x hx => ?_⟩ (by omega) (by omega)⟩
      obtain ⟨_, _, z⟩ := all_R (by rw [List.length_range]; exact hlen2) hR2 x hx
      exact z
end PL

namespace PL
open PySem PySem.Spec PyProof.Rows L2 -- the layers
variable {ad : Ad}
theorem In.snoc2 {m : Nat} {t : Tb} {w : Nat} {r : List Int} (h : ∀ x ∈ t, x.length = w ∧ In m x) (hr : r.length = w ∧ In m r) : ∀ x ∈ t ++ [r], x.length = w ∧ In m x := fun x hx => by
  rcases List.mem_append.mp hx with z | z
  · exact h x z
  · rw [List.mem_singleton.mp z]
    exact hr
section
variable {s n pm pe : Addr} {l : List Nat} {S : Sto} {P : QN} {M per : Nat} {rest : Int} {pms : Addr} {maps : List (Addr × List Int)} {y2 y9 y10 : Option D}
theorem cell_ok {u M per a b : Int} (hM : 2 ≤ M) (hp : per = 1 ∨ per = 2) (hu : 0 ≤ u ∧ u < per) : 0 ≤ u * M + (a + b).fmod M ∧ u * M + (a + b).fmod M < per * M := by
  obtain ⟨g1, g2⟩ := fmod_pos (a := a + b) (b := M) (by omega)
  have hu2 : u = 0 ∨ u = 1 := by omega
  rcases hp with rfl | rfl <;> rcases hu2 with rfl | rfl <;> constructor <;> omega
theorem sums_row {st : Sto} {pl base : Nat} {t : Tb} {e : List Int} (hM : 2 ≤ M) (hM2 : M ≤ 13) (hper : per = 1 ∨ per = 2) (hpl : pl < per) (hl : l.length ≤ 12) (hms : maps.length = per)
    (em : st pms = some (.lst (maps.map fun q => D.ref q.1))) (ems : ∀ q ∈ maps, st q.1 = some (.lst (q.2.map D.int)) ∧ q.2.length = l.length) (ne1 : pm ≠ pms ∧ ∀ q ∈ maps, pm ≠ q.1) (ne2 : pe ≠ pms ∧ ∀ q ∈ maps, pe ≠ q.1) (npe : pm ≠ pe)
    (et : st pm = some (.lst (t.map rD))) (ee : st pe = some (.lst (e.map D.int))) (ht : t.length = base) (he : e.length = base) (hbase : base ≤ 40) (hT : ∀ x ∈ t, x.length = l.length ∧ In (per * M) x) (hE : ∀ x ∈ e, x = 0 ∨ x = 1)
    (hn : ∀ (st' : Sto) z10 (t' : Tb) (e' : List Int), (∀ a o, a ≠ pm → a ≠ pe → st a = some o → st' a = some o) → st' pm = some (.lst (t'.map rD)) → st' pe = some (.lst (e'.map D.int)) → t'.length = base + M → e'.length = base + M → (∀ x ∈ t', x.length = l.length ∧ In (per * M) x) → (∀ x ∈ e', x = 0 ∨ x = 1) →
      P.nx [some (.ref s), some (.str (tx l)), y2, some (.int M), some (.int per), some (.ref pms), some (.int rest), some (.ref pm), some (.ref pe), some (.int pl), z10, none, none, none] st') :
    r__law_sums_b2 ad P [some (.ref s), some (.str (tx l)), y2, some (.int M), some (.int per), some (.ref pms), some (.int rest), some (.ref pm), some (.ref pe), some (.int pl), y10, none, none, none] st := by
  unfold r__law_sums_b2
  refine for_intro ?_
  simp only [sSeq, sNext_eq, sBreak_eq, sCont_eq, sDrop, sRet, sRetN, sIf, sSet, sPar, sAsg, sRaise, gN, gE, gC, gU, gS, qVar, qC, qBin, qTB, qChain, qNot, qAnd, qOr, bd_bl, qNotT, qAndT, qOrT, qTru, tru_non, tru_bl, tru_int, tru_str, tru_tup, tru_rol, tru_ref, qIf, qNil, qCons, qTup, qLst, qCB, cInt_i, cInt2_ii, cToInt_i, cToInt_b, cLen_s, cLen_t, cLen_r, cLen_l, cTuple_t, cTuple_r, cTuple_l, cList_t, cList_r, cList_l, qNeg, oI_ii, oAdd_ii, oSub, oMul, oDiv, oMod, oPow, oEq, oNe, oEqW_ii, oEqW_ss, oEqW_bb, oLt, oLe, oGt, oGe, oOrd_ii, oOrd_ss, oIx_t, oIx_r, oIx_l, oIx_s, qNo, qPart, qSl, oSl_t, oSl_r, oSl_l, oSl_s, qMeth, mAppend_1, iSeq, iRange1, iRange2, qCall, endsF, startD, List.map_cons, List.map_nil, List.length_cons, List.length_nil, List.length_map, List.cons_append, List.nil_append, List.replicate, List.getElem?_cons_zero, List.getElem?_cons_succ, List.set_cons_zero, List.set_cons_succ, Nat.reduceAdd, Nat.reduceSub, if_true, if_false, id, ups_same, ex_lst, ex_lst2, ex_some, atI_0, atI_1, atI_2, atI_3, ixN_0, ixN_1, ixN_21, oIx_p]
  refine ⟨by omega, by omega, fun i loc st' => ∃ (z10 : Option D) (t' : Tb) (e' : List Int), loc = [some (.ref s), some (.str (tx l)), y2, some (.int M), some (.int per), some (.ref pms), some (.int rest), some (.ref pm), some (.ref pe), some (.int pl), z10, none, none, none] ∧
    (∀ a o, a ≠ pm → a ≠ pe → st a = some o → st' a = some o) ∧ st' pm = some (.lst (t'.map rD)) ∧ st' pe = some (.lst (e'.map D.int)) ∧ t'.length = base + i ∧ e'.length = base + i ∧ (∀ x ∈ t', x.length = l.length ∧ In (per * M) x) ∧ (∀ x ∈ e', x = 0 ∨ x = 1), ⟨_, t, e, rfl, fun _ _ _ _ z => z, et, ee, ht, he, hT, hE⟩, ?_, ?_⟩
  · rintro i d loc st' hi ⟨z10, t', e', rfl, keep, et', ee', ht', he', hT', hE'⟩
    obtain ⟨hi1, rfl⟩ := rangeD_get hi
    refine ⟨trivial, ?_⟩
    have hpl2 : pl < maps.length := by omega
    have em' := keep _ _ (Ne.symm ne1.1) (Ne.symm ne2.1) em
    have hmem := List.getElem_mem hpl2
    have eq' := keep _ _ (Ne.symm (ne1.2 _ hmem)) (Ne.symm (ne2.2 _ hmem)) (ems _ hmem).1
    have hql := (ems _ hmem).2
    simp only [r__law_sums_b1, sSeq, sNext_eq, sBreak_eq, sCont_eq, sDrop, sRet, sRetN, sIf, sSet, sPar, sAsg, sRaise, gN, gE, gC, gU, gS, qVar, qC, qBin, qTB, qChain, qNot, qAnd, qOr, bd_bl, qNotT, qAndT, qOrT, qTru, tru_non, tru_bl, tru_int, tru_str, tru_tup, tru_rol, tru_ref, qIf, qNil, qCons, qTup, qLst, qCB, cInt_i, cInt2_ii, cToInt_i, cToInt_b, cLen_s, cLen_t, cLen_r, cLen_l, cTuple_t, cTuple_r, cTuple_l, cList_t, cList_r, cList_l, qNeg, oI_ii, oAdd_ii, oSub, oMul, oDiv, oMod, oPow, oEq, oNe, oEqW_ii, oEqW_ss, oEqW_bb, oLt, oLe, oGt, oGe, oOrd_ii, oOrd_ss, oIx_t, oIx_r, oIx_l, oIx_s, qNo, qPart, qSl, oSl_t, oSl_r, oSl_l, oSl_s, qMeth, mAppend_1, iSeq, iRange1, iRange2, qCall, endsF, startD, List.map_cons, List.map_nil, List.length_cons, List.length_nil, List.length_map, List.cons_append, List.nil_append, List.replicate, List.getElem?_cons_zero, List.getElem?_cons_succ, List.set_cons_zero, List.set_cons_succ, Nat.reduceAdd, Nat.reduceSub, if_true, if_false, id, ups_same, ex_lst, ex_lst2, ex_some, atI_0, atI_1, atI_2, atI_3, ixN_0, ixN_1, ixN_21, oIx_p]
    refine ⟨⟨_, et'⟩, ?_⟩
    refine lc_mapT (.live maps[pl].1 (maps[pl].2.map D.int)) maps[pl].2 D.int (fun v => .int (((pl : Int) + 1).fmod per * M + ((0 + (i : Int)) + v).fmod M)) (S1 := st') (fun Q hQ => ?_) (ok_live eq') rfl (by omega) (fun v S2 C hv s2 hC => ?_) fun p4 S4 hp4 s4 e4 => ?_
    · simp only [sSeq, sNext_eq, sBreak_eq, sCont_eq, sDrop, sRet, sRetN, sIf, sSet, sPar, sAsg, sRaise, gN, gE, gC, gU, gS, qVar, qC, qBin, qTB, qChain, qNot, qAnd, qOr, bd_bl, qNotT, qAndT, qOrT, qTru, tru_non, tru_bl, tru_int, tru_str, tru_tup, tru_rol, tru_ref, qIf, qNil, qCons, qTup, qLst, qCB, cInt_i, cInt2_ii, cToInt_i, cToInt_b, cLen_s, cLen_t, cLen_r, cLen_l, cTuple_t, cTuple_r, cTuple_l, cList_t, cList_r, cList_l, qNeg, oI_ii, oAdd_ii, oSub, oMul, oDiv, oMod, oPow, oEq, oNe, oEqW_ii, oEqW_ss, oEqW_bb, oLt, oLe, oGt, oGe, oOrd_ii, oOrd_ss, oIx_t, oIx_r, oIx_l, oIx_s, qNo, qPart, qSl, oSl_t, oSl_r, oSl_l, oSl_s, qMeth, mAppend_1, iSeq, iRange1, iRange2, qCall, endsF, startD, List.map_cons, List.map_nil, List.length_cons, List.length_nil, List.length_map, List.cons_append, List.nil_append, List.replicate, List.getElem?_cons_zero, List.getElem?_cons_succ, List.set_cons_zero, List.set_cons_succ, Nat.reduceAdd, Nat.reduceSub, if_true, if_false, id, ups_same, ex_lst, ex_lst2, ex_some, atI_0, atI_1, atI_2, atI_3, ixN_0, ixN_1, ixN_21, oIx_p]
      refine ⟨_, em', .ref maps[pl].1, ?_, _, eq', hQ⟩
      rw [atI_lt, List.getElem?_map, List.getElem?_eq_getElem hpl2]
      rfl
    · simp only [wipeD, sSeq, sNext_eq, sBreak_eq, sCont_eq, sDrop, sRet, sRetN, sIf, sSet, sPar, sAsg, sRaise, gN, gE, gC, gU, gS, qVar, qC, qBin, qTB, qChain, qNot, qAnd, qOr, bd_bl, qNotT, qAndT, qOrT, qTru, tru_non, tru_bl, tru_int, tru_str, tru_tup, tru_rol, tru_ref, qIf, qNil, qCons, qTup, qLst, qCB, cInt_i, cInt2_ii, cToInt_i, cToInt_b, cLen_s, cLen_t, cLen_r, cLen_l, cTuple_t, cTuple_r, cTuple_l, cList_t, cList_r, cList_l, qNeg, oI_ii, oAdd_ii, oSub, oMul, oDiv, oMod, oPow, oEq, oNe, oEqW_ii, oEqW_ss, oEqW_bb, oLt, oLe, oGt, oGe, oOrd_ii, oOrd_ss, oIx_t, oIx_r, oIx_l, oIx_s, qNo, qPart, qSl, oSl_t, oSl_r, oSl_l, oSl_s, qMeth, mAppend_1, iSeq, iRange1, iRange2, qCall, endsF, startD, List.map_cons, List.map_nil, List.length_cons, List.length_nil, List.length_map, List.cons_append, List.nil_append, List.replicate, List.getElem?_cons_zero, List.getElem?_cons_succ, List.set_cons_zero, List.set_cons_succ, Nat.reduceAdd, Nat.reduceSub, if_true, if_false, id, ups_same, ex_lst, ex_lst2, ex_some, atI_0, atI_1, atI_2, atI_3, ixN_0, ixN_1, ixN_21, oIx_p]
      have g := fmod_pos (a := (pl : Int) + 1) (b := (per : Int)) (by omega)
      refine ⟨by omega, CMul.ofL (by omega), by omega, ?_⟩
      exact hC S2 (Sub.refl _)
    · try simp only [sSeq, sNext_eq, sBreak_eq, sCont_eq, sDrop, sRet, sRetN, sIf, sSet, sPar, sAsg, sRaise, gN, gE, gC, gU, gS, qVar, qC, qBin, qTB, qChain, qNot, qAnd, qOr, bd_bl, qNotT, qAndT, qOrT, qTru, tru_non, tru_bl, tru_int, tru_str, tru_tup, tru_rol, tru_ref, qIf, qNil, qCons, qTup, qLst, qCB, cInt_i, cInt2_ii, cToInt_i, cToInt_b, cLen_s, cLen_t, cLen_r, cLen_l, cTuple_t, cTuple_r, cTuple_l, cList_t, cList_r, cList_l, qNeg, oI_ii, oAdd_ii, oSub, oMul, oDiv, oMod, oPow, oEq, oNe, oEqW_ii, oEqW_ss, oEqW_bb, oLt, oLe, oGt, oGe, oOrd_ii, oOrd_ss, oIx_t, oIx_r, oIx_l, oIx_s, qNo, qPart, qSl, oSl_t, oSl_r, oSl_l, oSl_s, qMeth, mAppend_1, iSeq, iRange1, iRange2, qCall, endsF, startD, List.map_cons, List.map_nil, List.length_cons, List.length_nil, List.length_map, List.cons_append, List.nil_append, List.replicate, List.getElem?_cons_zero, List.getElem?_cons_succ, List.set_cons_zero, List.set_cons_succ, Nat.reduceAdd, Nat.reduceSub, if_true, if_false, id, ups_same, ex_lst, ex_lst2, ex_some, atI_0, atI_1, atI_2, atI_3, ixN_0, ixN_1, ixN_21, oIx_p]
      have hpm4 : p4 ≠ pm := Ne.symm (sto_ne et' hp4)
      have ee4 := s4 _ _ ee'
      refine ⟨_, e4, _, s4 _ _ et', szB (by rw [List.length_map]; omega), ⟨_, by rw [ups_ne (Ne.symm npe)]; exact ee4⟩, _, by rw [ups_ne (Ne.symm npe)]; exact ee4, szB (by rw [List.length_map]; omega), _, t' ++ [maps[pl].2.map fun v => ((pl : Int) + 1).fmod per * M + ((0 + (i : Int)) + v).fmod M], e' ++ [if decide (0 + (i : Int) = rest) = true then 1 else 0], rfl, fun a o h1 h2 z => ?_, ?_, ?_, ?_, ?_, In.snoc2 hT' ⟨by rw [List.length_map]; exact hql, fun x hx => ?_⟩, fun x hx => ?_⟩
      · rw [ups_ne h2, ups_ne h1]
        exact s4 _ _ (keep a o h1 h2 z)
      · rw [ups_ne npe, ups_same, List.map_append]
        simp only [List.map_cons, List.map_nil, rD, List.map_map]
        rfl
      · rw [List.map_append]
        rfl
      · rw [List.length_append, ht']
        rfl
      · rw [List.length_append, he']
        rfl
      · obtain ⟨v, hv, rfl⟩ := List.mem_map.mp hx
        have g := fmod_pos (a := (pl : Int) + 1) (b := (per : Int)) (by omega)
        have c := cell_ok (u := ((pl : Int) + 1).fmod per) (M := M) (per := per) (a := 0 + (i : Int)) (b := v) (by omega) (by omega) g
        rw [Int.natCast_mul]
        exact c
      · rcases List.mem_append.mp hx with z | z
        · exact hE' x z
        · rw [List.mem_singleton.mp z]
          split
          · exact .inr rfl
          · exact .inl rfl
  · rintro loc st' ⟨z10, t', e', rfl, keep, et', ee', ht', he', hT', hE'⟩
    rw [range_items, List.length_map, List.length_range] at ht' he'
    exact ⟨trivial, hn st' _ t' e' keep et' ee' ht' he' hT' hE'⟩
end
theorem p__law_sums : ∀ ds S Q E, sp__law_sums ad ds S Q E → r__law_sums ad (endsF Q E) (startD N__law_sums ds) S := by
  rintro ds S Q E ⟨s, n, xs, k, l, m, rfl, h, hk, hg, hm1, hm2, q⟩
  have hk0 := h.k0
  have hlo := hg.lo
  have hhi := hg.hi
  simp only [r__law_sums, sSeq, sNext_eq, sBreak_eq, sCont_eq, sDrop, sRet, sRetN, sIf, sSet, sPar, sAsg, sRaise, gN, gE, gC, gU, gS, qVar, qC, qBin, qTB, qChain, qNot, qAnd, qOr, bd_bl, qNotT, qAndT, qOrT, qTru, tru_non, tru_bl, tru_int, tru_str, tru_tup, tru_rol, tru_ref, qIf, qNil, qCons, qTup, qLst, qCB, cInt_i, cInt2_ii, cToInt_i, cToInt_b, cLen_s, cLen_t, cLen_r, cLen_l, cTuple_t, cTuple_r, cTuple_l, cList_t, cList_r, cList_l, qNeg, oI_ii, oAdd_ii, oSub, oMul, oDiv, oMod, oPow, oEq, oNe, oEqW_ii, oEqW_ss, oEqW_bb, oLt, oLe, oGt, oGe, oOrd_ii, oOrd_ss, oIx_t, oIx_r, oIx_l, oIx_s, qNo, qPart, qSl, oSl_t, oSl_r, oSl_l, oSl_s, qMeth, mAppend_1, iSeq, iRange1, iRange2, qCall, endsF, startD, List.map_cons, List.map_nil, List.length_cons, List.length_nil, List.length_map, List.cons_append, List.nil_append, List.replicate, List.getElem?_cons_zero, List.getElem?_cons_succ, List.set_cons_zero, List.set_cons_succ, Nat.reduceAdd, Nat.reduceSub, if_true, if_false, id, ups_same, ex_lst, ex_lst2, ex_some, atI_0, atI_1, atI_2, atI_3, ixN_0, ixN_1, ixN_21, oIx_p]
  refine next_go h (by omega) (by omega) fun a a0 a1 => ?_
  have I0 := (St.start h).step (i := k + 1) (by omega)
  obtain ⟨a, rfl⟩ := Int.eq_ofNat_of_zero_le a0
  obtain ⟨M, hM⟩ : ∃ M : Nat, M = 2 + a := ⟨_, rfl⟩
  have eM : (2 : Int) + (a : Int) = (M : Int) := by omega
  simp only [r__law_sums_t7, eM, sSeq, sNext_eq, sBreak_eq, sCont_eq, sDrop, sRet, sRetN, sIf, sSet, sPar, sAsg, sRaise, gN, gE, gC, gU, gS, qVar, qC, qBin, qTB, qChain, qNot, qAnd, qOr, bd_bl, qNotT, qAndT, qOrT, qTru, tru_non, tru_bl, tru_int, tru_str, tru_tup, tru_rol, tru_ref, qIf, qNil, qCons, qTup, qLst, qCB, cInt_i, cInt2_ii, cToInt_i, cToInt_b, cLen_s, cLen_t, cLen_r, cLen_l, cTuple_t, cTuple_r, cTuple_l, cList_t, cList_r, cList_l, qNeg, oI_ii, oAdd_ii, oSub, oMul, oDiv, oMod, oPow, oEq, oNe, oEqW_ii, oEqW_ss, oEqW_bb, oLt, oLe, oGt, oGe, oOrd_ii, oOrd_ss, oIx_t, oIx_r, oIx_l, oIx_s, qNo, qPart, qSl, oSl_t, oSl_r, oSl_l, oSl_s, qMeth, mAppend_1, iSeq, iRange1, iRange2, qCall, endsF, startD, List.map_cons, List.map_nil, List.length_cons, List.length_nil, List.length_map, List.cons_append, List.nil_append, List.replicate, List.getElem?_cons_zero, List.getElem?_cons_succ, List.set_cons_zero, List.set_cons_succ, Nat.reduceAdd, Nat.reduceSub, if_true, if_false, id, ups_same, ex_lst, ex_lst2, ex_some, atI_0, atI_1, atI_2, atI_3, ixN_0, ixN_1, ixN_21, oIx_p]
  refine next_go I0.st (by omega) (by omega) fun b b0 b1 => ?_
  have I1 := I0.step (i := k + 1 + 1) (by omega)
  obtain ⟨b, rfl⟩ := Int.eq_ofNat_of_zero_le b0
  obtain ⟨per, hper⟩ : ∃ per : Nat, per = 1 + b := ⟨_, rfl⟩
  have ep : (1 : Int) + (b : Int) = (per : Int) := by omega
  simp only [r__law_sums_t6, ep, sSeq, sNext_eq, sBreak_eq, sCont_eq, sDrop, sRet, sRetN, sIf, sSet, sPar, sAsg, sRaise, gN, gE, gC, gU, gS, qVar, qC, qBin, qTB, qChain, qNot, qAnd, qOr, bd_bl, qNotT, qAndT, qOrT, qTru, tru_non, tru_bl, tru_int, tru_str, tru_tup, tru_rol, tru_ref, qIf, qNil, qCons, qTup, qLst, qCB, cInt_i, cInt2_ii, cToInt_i, cToInt_b, cLen_s, cLen_t, cLen_r, cLen_l, cTuple_t, cTuple_r, cTuple_l, cList_t, cList_r, cList_l, qNeg, oI_ii, oAdd_ii, oSub, oMul, oDiv, oMod, oPow, oEq, oNe, oEqW_ii, oEqW_ss, oEqW_bb, oLt, oLe, oGt, oGe, oOrd_ii, oOrd_ss, oIx_t, oIx_r, oIx_l, oIx_s, qNo, qPart, qSl, oSl_t, oSl_r, oSl_l, oSl_s, qMeth, mAppend_1, iSeq, iRange1, iRange2, qCall, endsF, startD, List.map_cons, List.map_nil, List.length_cons, List.length_nil, List.length_map, List.cons_append, List.nil_append, List.replicate, List.getElem?_cons_zero, List.getElem?_cons_succ, List.set_cons_zero, List.set_cons_succ, Nat.reduceAdd, Nat.reduceSub, if_true, if_false, id, ups_same, ex_lst, ex_lst2, ex_some, atI_0, atI_1, atI_2, atI_3, ixN_0, ixN_1, ixN_21, oIx_p]
  generalize stepS (stepS S s n (k + 1)) s n (k + 1 + 1) = S1 at I1 ⊢
  refine lc_rndL (.vals (rangeD 0 (per : Int).toNat)) (List.range per) (fun i : Nat => .int i) 12 D.int (fun _ r => r.length = l.length) (S1 := S1) (fun Q hQ => by simp only [sSeq, sNext_eq, sBreak_eq, sCont_eq, sDrop, sRet, sRetN, sIf, sSet, sPar, sAsg, sRaise, gN, gE, gC, gU, gS, qVar, qC, qBin, qTB, qChain, qNot, qAnd, qOr, bd_bl, qNotT, qAndT, qOrT, qTru, tru_non, tru_bl, tru_int, tru_str, tru_tup, tru_rol, tru_ref, qIf, qNil, qCons, qTup, qLst, qCB, cInt_i, cInt2_ii, cToInt_i, cToInt_b, cLen_s, cLen_t, cLen_r, cLen_l, cTuple_t, cTuple_r, cTuple_l, cList_t, cList_r, cList_l, qNeg, oI_ii, oAdd_ii, oSub, oMul, oDiv, oMod, oPow, oEq, oNe, oEqW_ii, oEqW_ss, oEqW_bb, oLt, oLe, oGt, oGe, oOrd_ii, oOrd_ss, oIx_t, oIx_r, oIx_l, oIx_s, qNo, qPart, qSl, oSl_t, oSl_r, oSl_l, oSl_s, qMeth, mAppend_1, iSeq, iRange1, iRange2, qCall, endsF, startD, List.map_cons, List.map_nil, List.length_cons, List.length_nil, List.length_map, List.cons_append, List.nil_append, List.replicate, List.getElem?_cons_zero, List.getElem?_cons_succ, List.set_cons_zero, List.set_cons_succ, Nat.reduceAdd, Nat.reduceSub, if_true, if_false, id, ups_same, ex_lst, ex_lst2, ex_some, atI_0, atI_1, atI_2, atI_3, ixN_0, ixN_1, ixN_21, oIx_p]; exact ⟨by omega, by omega, hQ⟩) range_items (fun _ _ _ => trivial) (by simp; omega) (by omega) I1.st (fun a S' j C ha J j1 j2 hC => ?_) fun pms S2 maps j hpms J j1 j2 ems hml hms => ?_
  · rw [List.length_range] at j2
    simp only [wipeD, sSeq, sNext_eq, sBreak_eq, sCont_eq, sDrop, sRet, sRetN, sIf, sSet, sPar, sAsg, sRaise, gN, gE, gC, gU, gS, qVar, qC, qBin, qTB, qChain, qNot, qAnd, qOr, bd_bl, qNotT, qAndT, qOrT, qTru, tru_non, tru_bl, tru_int, tru_str, tru_tup, tru_rol, tru_ref, qIf, qNil, qCons, qTup, qLst, qCB, cInt_i, cInt2_ii, cToInt_i, cToInt_b, cLen_s, cLen_t, cLen_r, cLen_l, cTuple_t, cTuple_r, cTuple_l, cList_t, cList_r, cList_l, qNeg, oI_ii, oAdd_ii, oSub, oMul, oDiv, oMod, oPow, oEq, oNe, oEqW_ii, oEqW_ss, oEqW_bb, oLt, oLe, oGt, oGe, oOrd_ii, oOrd_ss, oIx_t, oIx_r, oIx_l, oIx_s, qNo, qPart, qSl, oSl_t, oSl_r, oSl_l, oSl_s, qMeth, mAppend_1, iSeq, iRange1, iRange2, qCall, endsF, startD, List.map_cons, List.map_nil, List.length_cons, List.length_nil, List.length_map, List.cons_append, List.nil_append, List.replicate, List.getElem?_cons_zero, List.getElem?_cons_succ, List.set_cons_zero, List.set_cons_succ, Nat.reduceAdd, Nat.reduceSub, if_true, if_false, id, ups_same, ex_lst, ex_lst2, ex_some, atI_0, atI_1, atI_2, atI_3, ixN_0, ixN_1, ixN_21, oIx_p]
    refine lc_rnd (.vals (chars (tx l))) l cD 1 D.int (fun _ _ => True) (S1 := S') (fun Q hQ => by simp only [sSeq, sNext_eq, sBreak_eq, sCont_eq, sDrop, sRet, sRetN, sIf, sSet, sPar, sAsg, sRaise, gN, gE, gC, gU, gS, qVar, qC, qBin, qTB, qChain, qNot, qAnd, qOr, bd_bl, qNotT, qAndT, qOrT, qTru, tru_non, tru_bl, tru_int, tru_str, tru_tup, tru_rol, tru_ref, qIf, qNil, qCons, qTup, qLst, qCB, cInt_i, cInt2_ii, cToInt_i, cToInt_b, cLen_s, cLen_t, cLen_r, cLen_l, cTuple_t, cTuple_r, cTuple_l, cList_t, cList_r, cList_l, qNeg, oI_ii, oAdd_ii, oSub, oMul, oDiv, oMod, oPow, oEq, oNe, oEqW_ii, oEqW_ss, oEqW_bb, oLt, oLe, oGt, oGe, oOrd_ii, oOrd_ss, oIx_t, oIx_r, oIx_l, oIx_s, qNo, qPart, qSl, oSl_t, oSl_r, oSl_l, oSl_s, qMeth, mAppend_1, iSeq, iRange1, iRange2, qCall, endsF, startD, List.map_cons, List.map_nil, List.length_cons, List.length_nil, List.length_map, List.cons_append, List.nil_append, List.replicate, List.getElem?_cons_zero, List.getElem?_cons_succ, List.set_cons_zero, List.set_cons_succ, Nat.reduceAdd, Nat.reduceSub, if_true, if_false, id, ups_same, ex_lst, ex_lst2, ex_some, atI_0, atI_1, atI_2, atI_3, ixN_0, ixN_1, ixN_21, oIx_p]; exact hQ) chars_tx (fun _ _ _ => trivial) (by omega) (by omega) J.st (fun b S2 i C2 hb J2 i1 i2 hC2 => ?_) fun p S2 bs i hp J2 i1 i2 e hlen hR => ?_
    · simp only [wipeD, sSeq, sNext_eq, sBreak_eq, sCont_eq, sDrop, sRet, sRetN, sIf, sSet, sPar, sAsg, sRaise, gN, gE, gC, gU, gS, qVar, qC, qBin, qTB, qChain, qNot, qAnd, qOr, bd_bl, qNotT, qAndT, qOrT, qTru, tru_non, tru_bl, tru_int, tru_str, tru_tup, tru_rol, tru_ref, qIf, qNil, qCons, qTup, qLst, qCB, cInt_i, cInt2_ii, cToInt_i, cToInt_b, cLen_s, cLen_t, cLen_r, cLen_l, cTuple_t, cTuple_r, cTuple_l, cList_t, cList_r, cList_l, qNeg, oI_ii, oAdd_ii, oSub, oMul, oDiv, oMod, oPow, oEq, oNe, oEqW_ii, oEqW_ss, oEqW_bb, oLt, oLe, oGt, oGe, oOrd_ii, oOrd_ss, oIx_t, oIx_r, oIx_l, oIx_s, qNo, qPart, qSl, oSl_t, oSl_r, oSl_l, oSl_s, qMeth, mAppend_1, iSeq, iRange1, iRange2, qCall, endsF, startD, List.map_cons, List.map_nil, List.length_cons, List.length_nil, List.length_map, List.cons_append, List.nil_append, List.replicate, List.getElem?_cons_zero, List.getElem?_cons_succ, List.set_cons_zero, List.set_cons_succ, Nat.reduceAdd, Nat.reduceSub, if_true, if_false, id, ups_same, ex_lst, ex_lst2, ex_some, atI_0, atI_1, atI_2, atI_3, ixN_0, ixN_1, ixN_21, oIx_p]
      exact next_go J2.st (by omega) (by omega) fun r r0 r1 => hC2 r _ (i + 1) trivial ((St.start J2.st).step (by omega)) (by omega) (by omega)
    · exact hC p bs S2 i hp e hlen J2 i1 (by omega)
  · rw [List.length_range] at j2 hml
    try simp only [sSeq, sNext_eq, sBreak_eq, sCont_eq, sDrop, sRet, sRetN, sIf, sSet, sPar, sAsg, sRaise, gN, gE, gC, gU, gS, qVar, qC, qBin, qTB, qChain, qNot, qAnd, qOr, bd_bl, qNotT, qAndT, qOrT, qTru, tru_non, tru_bl, tru_int, tru_str, tru_tup, tru_rol, tru_ref, qIf, qNil, qCons, qTup, qLst, qCB, cInt_i, cInt2_ii, cToInt_i, cToInt_b, cLen_s, cLen_t, cLen_r, cLen_l, cTuple_t, cTuple_r, cTuple_l, cList_t, cList_r, cList_l, qNeg, oI_ii, oAdd_ii, oSub, oMul, oDiv, oMod, oPow, oEq, oNe, oEqW_ii, oEqW_ss, oEqW_bb, oLt, oLe, oGt, oGe, oOrd_ii, oOrd_ss, oIx_t, oIx_r, oIx_l, oIx_s, qNo, qPart, qSl, oSl_t, oSl_r, oSl_l, oSl_s, qMeth, mAppend_1, iSeq, iRange1, iRange2, qCall, endsF, startD, List.map_cons, List.map_nil, List.length_cons, List.length_nil, List.length_map, List.cons_append, List.nil_append, List.replicate, List.getElem?_cons_zero, List.getElem?_cons_succ, List.set_cons_zero, List.set_cons_succ, Nat.reduceAdd, Nat.reduceSub, if_true, if_false, id, ups_same, ex_lst, ex_lst2, ex_some, atI_0, atI_1, atI_2, atI_3, ixN_0, ixN_1, ixN_21, oIx_p]
    simp only [r__law_sums_t5, sSeq, sNext_eq, sBreak_eq, sCont_eq, sDrop, sRet, sRetN, sIf, sSet, sPar, sAsg, sRaise, gN, gE, gC, gU, gS, qVar, qC, qBin, qTB, qChain, qNot, qAnd, qOr, bd_bl, qNotT, qAndT, qOrT, qTru, tru_non, tru_bl, tru_int, tru_str, tru_tup, tru_rol, tru_ref, qIf, qNil, qCons, qTup, qLst, qCB, cInt_i, cInt2_ii, cToInt_i, cToInt_b, cLen_s, cLen_t, cLen_r, cLen_l, cTuple_t, cTuple_r, cTuple_l, cList_t, cList_r, cList_l, qNeg, oI_ii, oAdd_ii, oSub, oMul, oDiv, oMod, oPow, oEq, oNe, oEqW_ii, oEqW_ss, oEqW_bb, oLt, oLe, oGt, oGe, oOrd_ii, oOrd_ss, oIx_t, oIx_r, oIx_l, oIx_s, qNo, qPart, qSl, oSl_t, oSl_r, oSl_l, oSl_s, qMeth, mAppend_1, iSeq, iRange1, iRange2, qCall, endsF, startD, List.map_cons, List.map_nil, List.length_cons, List.length_nil, List.length_map, List.cons_append, List.nil_append, List.replicate, List.getElem?_cons_zero, List.getElem?_cons_succ, List.set_cons_zero, List.set_cons_succ, Nat.reduceAdd, Nat.reduceSub, if_true, if_false, id, ups_same, ex_lst, ex_lst2, ex_some, atI_0, atI_1, atI_2, atI_3, ixN_0, ixN_1, ixN_21, oIx_p]
    have K1 := I1.trans J
    refine next_go J.st (by omega) (by omega) fun rest r0 r1 => ?_
    have K2 := K1.step (i := j + 1) (by omega)
    have hpms2 : stepS S2 s n (j + 1) pms = some (.lst (maps.map fun q => D.ref q.1)) := by rw [stepS_ne (J.ns hpms)]; exact ems
    have hq2 : ∀ q ∈ maps, stepS S2 s n (j + 1) q.1 = some (.lst (q.2.map D.int)) ∧ q.2.length = l.length := fun q hq => by
      obtain ⟨g1, g2, _, _, g3⟩ := hms q hq
      exact ⟨by rw [stepS_ne (J.ns g1)]; exact g2, g3⟩
    generalize stepS S2 s n (j + 1) = S3 at K2 hpms2 hq2 ⊢
    simp only [r__law_sums_t4, sSeq, sNext_eq, sBreak_eq, sCont_eq, sDrop, sRet, sRetN, sIf, sSet, sPar, sAsg, sRaise, gN, gE, gC, gU, gS, qVar, qC, qBin, qTB, qChain, qNot, qAnd, qOr, bd_bl, qNotT, qAndT, qOrT, qTru, tru_non, tru_bl, tru_int, tru_str, tru_tup, tru_rol, tru_ref, qIf, qNil, qCons, qTup, qLst, qCB, cInt_i, cInt2_ii, cToInt_i, cToInt_b, cLen_s, cLen_t, cLen_r, cLen_l, cTuple_t, cTuple_r, cTuple_l, cList_t, cList_r, cList_l, qNeg, oI_ii, oAdd_ii, oSub, oMul, oDiv, oMod, oPow, oEq, oNe, oEqW_ii, oEqW_ss, oEqW_bb, oLt, oLe, oGt, oGe, oOrd_ii, oOrd_ss, oIx_t, oIx_r, oIx_l, oIx_s, qNo, qPart, qSl, oSl_t, oSl_r, oSl_l, oSl_s, qMeth, mAppend_1, iSeq, iRange1, iRange2, qCall, endsF, startD, List.map_cons, List.map_nil, List.length_cons, List.length_nil, List.length_map, List.cons_append, List.nil_append, List.replicate, List.getElem?_cons_zero, List.getElem?_cons_succ, List.set_cons_zero, List.set_cons_succ, Nat.reduceAdd, Nat.reduceSub, if_true, if_false, id, ups_same, ex_lst, ex_lst2, ex_some, atI_0, atI_1, atI_2, atI_3, ixN_0, ixN_1, ixN_21, oIx_p]
    refine ⟨by decide, fun pm hpm => ?_⟩
    have K3 := K2.new hpm (o := .lst [])
    simp only [r__law_sums_t3, sSeq, sNext_eq, sBreak_eq, sCont_eq, sDrop, sRet, sRetN, sIf, sSet, sPar, sAsg, sRaise, gN, gE, gC, gU, gS, qVar, qC, qBin, qTB, qChain, qNot, qAnd, qOr, bd_bl, qNotT, qAndT, qOrT, qTru, tru_non, tru_bl, tru_int, tru_str, tru_tup, tru_rol, tru_ref, qIf, qNil, qCons, qTup, qLst, qCB, cInt_i, cInt2_ii, cToInt_i, cToInt_b, cLen_s, cLen_t, cLen_r, cLen_l, cTuple_t, cTuple_r, cTuple_l, cList_t, cList_r, cList_l, qNeg, oI_ii, oAdd_ii, oSub, oMul, oDiv, oMod, oPow, oEq, oNe, oEqW_ii, oEqW_ss, oEqW_bb, oLt, oLe, oGt, oGe, oOrd_ii, oOrd_ss, oIx_t, oIx_r, oIx_l, oIx_s, qNo, qPart, qSl, oSl_t, oSl_r, oSl_l, oSl_s, qMeth, mAppend_1, iSeq, iRange1, iRange2, qCall, endsF, startD, List.map_cons, List.map_nil, List.length_cons, List.length_nil, List.length_map, List.cons_append, List.nil_append, List.replicate, List.getElem?_cons_zero, List.getElem?_cons_succ, List.set_cons_zero, List.set_cons_succ, Nat.reduceAdd, Nat.reduceSub, if_true, if_false, id, ups_same, ex_lst, ex_lst2, ex_some, atI_0, atI_1, atI_2, atI_3, ixN_0, ixN_1, ixN_21, oIx_p]
    refine ⟨by decide, fun pe hpe => ?_⟩
    have K4 := K3.new hpe (o := .lst [])
    have hme : pm ≠ pe := sto_ne ups_same hpe
    have hpe3 : S3 pe = none := by rw [ups_ne (Ne.symm hme)] at hpe; exact hpe
    have ne : ∀ {x : Addr} {o : O}, S3 x = some o → x ≠ pm ∧ x ≠ pe := fun e => ⟨sto_ne e hpm, sto_ne e hpe3⟩
    have up : ∀ {x : Addr} {o : O}, S3 x = some o → ups (ups S3 pm (.lst [])) pe (.lst []) x = some o := fun e => by
      rw [ups_ne (ne e).2, ups_ne (ne e).1]
      exact e
    unfold r__law_sums_t2 sSeq
    refine for_intro ?_
    simp only [sSeq, sNext_eq, sBreak_eq, sCont_eq, sDrop, sRet, sRetN, sIf, sSet, sPar, sAsg, sRaise, gN, gE, gC, gU, gS, qVar, qC, qBin, qTB, qChain, qNot, qAnd, qOr, bd_bl, qNotT, qAndT, qOrT, qTru, tru_non, tru_bl, tru_int, tru_str, tru_tup, tru_rol, tru_ref, qIf, qNil, qCons, qTup, qLst, qCB, cInt_i, cInt2_ii, cToInt_i, cToInt_b, cLen_s, cLen_t, cLen_r, cLen_l, cTuple_t, cTuple_r, cTuple_l, cList_t, cList_r, cList_l, qNeg, oI_ii, oAdd_ii, oSub, oMul, oDiv, oMod, oPow, oEq, oNe, oEqW_ii, oEqW_ss, oEqW_bb, oLt, oLe, oGt, oGe, oOrd_ii, oOrd_ss, oIx_t, oIx_r, oIx_l, oIx_s, qNo, qPart, qSl, oSl_t, oSl_r, oSl_l, oSl_s, qMeth, mAppend_1, iSeq, iRange1, iRange2, qCall, endsF, startD, List.map_cons, List.map_nil, List.length_cons, List.length_nil, List.length_map, List.cons_append, List.nil_append, List.replicate, List.getElem?_cons_zero, List.getElem?_cons_succ, List.set_cons_zero, List.set_cons_succ, Nat.reduceAdd, Nat.reduceSub, if_true, if_false, id, ups_same, ex_lst, ex_lst2, ex_some, atI_0, atI_1, atI_2, atI_3, ixN_0, ixN_1, ixN_21, oIx_p]
    refine ⟨by omega, by omega, fun i loc st' => ∃ (z9 z10 : Option D) (t' : Tb) (e' : List Int), loc = [some (.ref s), some (.str (tx l)), some (.int m), some (.int M), some (.int per), some (.ref pms), some (.int rest), some (.ref pm), some (.ref pe), z9, z10, none, none, none] ∧
      (∀ a o, a ≠ pm → a ≠ pe → ups (ups S3 pm (.lst [])) pe (.lst []) a = some o → st' a = some o) ∧ st' pm = some (.lst (t'.map rD)) ∧ st' pe = some (.lst (e'.map D.int)) ∧ t'.length = i * M ∧ e'.length = i * M ∧ (∀ x ∈ t', x.length = l.length ∧ In (per * M) x) ∧ (∀ x ∈ e', x = 0 ∨ x = 1), ⟨none, none, [], [], rfl, fun _ _ _ _ z => z, by rw [ups_ne hme]; exact ups_same, ups_same, by simp, by simp, fun x hx => (by cases hx), fun x hx => (by cases hx)⟩, ?_, ?_⟩
    · rintro i d loc st' hi ⟨z9, z10, t', e', rfl, keep, et, ee, ht, he, hT, hE⟩
      obtain ⟨hi1, rfl⟩ := rangeD_get hi
      refine ⟨trivial, ?_⟩
      have hi2 : i < per := by omega
      have hb : i * M ≤ 13 := by
        have : i ≤ 1 := by omega
        have := Nat.mul_le_mul this (show M ≤ 13 by omega)
        omega
      simp only [Int.zero_add, sSeq, sNext_eq, sBreak_eq, sCont_eq, sDrop, sRet, sRetN, sIf, sSet, sPar, sAsg, sRaise, gN, gE, gC, gU, gS, qVar, qC, qBin, qTB, qChain, qNot, qAnd, qOr, bd_bl, qNotT, qAndT, qOrT, qTru, tru_non, tru_bl, tru_int, tru_str, tru_tup, tru_rol, tru_ref, qIf, qNil, qCons, qTup, qLst, qCB, cInt_i, cInt2_ii, cToInt_i, cToInt_b, cLen_s, cLen_t, cLen_r, cLen_l, cTuple_t, cTuple_r, cTuple_l, cList_t, cList_r, cList_l, qNeg, oI_ii, oAdd_ii, oSub, oMul, oDiv, oMod, oPow, oEq, oNe, oEqW_ii, oEqW_ss, oEqW_bb, oLt, oLe, oGt, oGe, oOrd_ii, oOrd_ss, oIx_t, oIx_r, oIx_l, oIx_s, qNo, qPart, qSl, oSl_t, oSl_r, oSl_l, oSl_s, qMeth, mAppend_1, iSeq, iRange1, iRange2, qCall, endsF, startD, List.map_cons, List.map_nil, List.length_cons, List.length_nil, List.length_map, List.cons_append, List.nil_append, List.replicate, List.getElem?_cons_zero, List.getElem?_cons_succ, List.set_cons_zero, List.set_cons_succ, Nat.reduceAdd, Nat.reduceSub, if_true, if_false, id, ups_same, ex_lst, ex_lst2, ex_some, atI_0, atI_1, atI_2, atI_3, ixN_0, ixN_1, ixN_21, oIx_p]
      refine sums_row (base := i * M) (pl := i) (maps := maps) (t := t') (e := e') (by omega) (by omega) (by omega) hi2 hhi hml (keep _ _ (ne hpms2).1 (ne hpms2).2 (up hpms2)) (fun q hq => ⟨keep _ _ (ne (hq2 q hq).1).1 (ne (hq2 q hq).1).2 (up (hq2 q hq).1), (hq2 q hq).2⟩) ⟨Ne.symm (ne hpms2).1, fun q hq => Ne.symm (ne (hq2 q hq).1).1⟩ ⟨Ne.symm (ne hpms2).2, fun q hq => Ne.symm (ne (hq2 q hq).1).2⟩ hme et ee ht he (by omega) hT hE fun st2 z10 t2 e2 keep2 et2 ee2 ht2 he2 hT2 hE2 => ?_
      refine ⟨_, z10, t2, e2, rfl, fun a o h1 h2 z => keep2 a o h1 h2 (keep a o h1 h2 z), et2, ee2, ?_, ?_, hT2, hE2⟩
      · rw [ht2, Nat.succ_mul]
      · rw [he2, Nat.succ_mul]
    · rintro loc st' ⟨z9, z10, t', e', rfl, keep, et, ee, ht, he, hT, hE⟩
      rw [range_items, List.length_map, List.length_range] at ht he
      refine ⟨trivial, ?_⟩
      simp only [r__law_sums_t1, sSeq, sNext_eq, sBreak_eq, sCont_eq, sDrop, sRet, sRetN, sIf, sSet, sPar, sAsg, sRaise, gN, gE, gC, gU, gS, qVar, qC, qBin, qTB, qChain, qNot, qAnd, qOr, bd_bl, qNotT, qAndT, qOrT, qTru, tru_non, tru_bl, tru_int, tru_str, tru_tup, tru_rol, tru_ref, qIf, qNil, qCons, qTup, qLst, qCB, cInt_i, cInt2_ii, cToInt_i, cToInt_b, cLen_s, cLen_t, cLen_r, cLen_l, cTuple_t, cTuple_r, cTuple_l, cList_t, cList_r, cList_l, qNeg, oI_ii, oAdd_ii, oSub, oMul, oDiv, oMod, oPow, oEq, oNe, oEqW_ii, oEqW_ss, oEqW_bb, oLt, oLe, oGt, oGe, oOrd_ii, oOrd_ss, oIx_t, oIx_r, oIx_l, oIx_s, qNo, qPart, qSl, oSl_t, oSl_r, oSl_l, oSl_s, qMeth, mAppend_1, iSeq, iRange1, iRange2, qCall, endsF, startD, List.map_cons, List.map_nil, List.length_cons, List.length_nil, List.length_map, List.cons_append, List.nil_append, List.replicate, List.getElem?_cons_zero, List.getElem?_cons_succ, List.set_cons_zero, List.set_cons_succ, Nat.reduceAdd, Nat.reduceSub, if_true, if_false, id, ups_same, ex_lst, ex_lst2, ex_some, atI_0, atI_1, atI_2, atI_3, ixN_0, ixN_1, ixN_21, oIx_p]
      have hb : 2 ≤ per * M ∧ per * M ≤ 26 := by
        have hp : per = 1 ∨ per = 2 := by omega
        rcases hp with rfl | rfl <;> omega
      refine ⟨_, et, _, ee, by decide, stepS S s n (j + 1), fun a o z => ?_, q t' e' (j + 1) ⟨hg, by omega, by omega, by omega, fun r hr => (hT r hr).1, fun r hr => by rw [ht]; exact (hT r hr).2, hE⟩ (by omega) (by omega)⟩
      have z3 := K2.at_ a o z
      exact keep a o (ne z3).1 (ne z3).2 (up z3)
end PL

namespace PL
open PySem PySem.Spec PyProof.Rows L2 -- the layers
variable {ad : Ad}
theorem p__law_any : ∀ ds S Q E, sp__law_any ad ds S Q E → r__law_any ad (endsF Q E) (startD N__law_any ds) S := by
  rintro ds S Q E ⟨s, n, xs, k, rfl, h, hk, q⟩
  have hk0 := h.k0
  simp only [r__law_any, sSeq, sNext_eq, sBreak_eq, sCont_eq, sDrop, sRet, sRetN, sIf, sSet, sPar, sAsg, sRaise, gN, gE, gC, gU, gS, qVar, qC, qBin, qTB, qChain, qNot, qAnd, qOr, bd_bl, qNotT, qAndT, qOrT, qTru, tru_non, tru_bl, tru_int, tru_str, tru_tup, tru_rol, tru_ref, qIf, qNil, qCons, qTup, qLst, qCB, cInt_i, cInt2_ii, cToInt_i, cToInt_b, cLen_s, cLen_t, cLen_r, cLen_l, cTuple_t, cTuple_r, cTuple_l, cList_t, cList_r, cList_l, qNeg, oI_ii, oAdd_ii, oSub, oMul, oDiv, oMod, oPow, oEq, oNe, oEqW_ii, oEqW_ss, oEqW_bb, oLt, oLe, oGt, oGe, oOrd_ii, oOrd_ss, oIx_t, oIx_r, oIx_l, oIx_s, qNo, qPart, qSl, oSl_t, oSl_r, oSl_l, oSl_s, qMeth, mAppend_1, iSeq, iRange1, iRange2, qCall, endsF, startD, List.map_cons, List.map_nil, List.length_cons, List.length_nil, List.length_map, List.cons_append, List.nil_append, List.replicate, List.getElem?_cons_zero, List.getElem?_cons_succ, List.set_cons_zero, List.set_cons_succ, Nat.reduceAdd, Nat.reduceSub, if_true, if_false, id, ups_same, ex_lst, ex_lst2, ex_some, atI_0, atI_1, atI_2, atI_3, ixN_0, ixN_1, ixN_21, oIx_p]
  refine ⟨s, n, xs, k, rfl, h, by omega, fun l j hg j1 j2 => ?_⟩
  have I0 := (St.start h).step (i := j) (by omega)
  simp only [r__law_any_t3, sSeq, sNext_eq, sBreak_eq, sCont_eq, sDrop, sRet, sRetN, sIf, sSet, sPar, sAsg, sRaise, gN, gE, gC, gU, gS, qVar, qC, qBin, qTB, qChain, qNot, qAnd, qOr, bd_bl, qNotT, qAndT, qOrT, qTru, tru_non, tru_bl, tru_int, tru_str, tru_tup, tru_rol, tru_ref, qIf, qNil, qCons, qTup, qLst, qCB, cInt_i, cInt2_ii, cToInt_i, cToInt_b, cLen_s, cLen_t, cLen_r, cLen_l, cTuple_t, cTuple_r, cTuple_l, cList_t, cList_r, cList_l, qNeg, oI_ii, oAdd_ii, oSub, oMul, oDiv, oMod, oPow, oEq, oNe, oEqW_ii, oEqW_ss, oEqW_bb, oLt, oLe, oGt, oGe, oOrd_ii, oOrd_ss, oIx_t, oIx_r, oIx_l, oIx_s, qNo, qPart, qSl, oSl_t, oSl_r, oSl_l, oSl_s, qMeth, mAppend_1, iSeq, iRange1, iRange2, qCall, endsF, startD, List.map_cons, List.map_nil, List.length_cons, List.length_nil, List.length_map, List.cons_append, List.nil_append, List.replicate, List.getElem?_cons_zero, List.getElem?_cons_succ, List.set_cons_zero, List.set_cons_succ, Nat.reduceAdd, Nat.reduceSub, if_true, if_false, id, ups_same, ex_lst, ex_lst2, ex_some, atI_0, atI_1, atI_2, atI_3, ixN_0, ixN_1, ixN_21, oIx_p]
  refine next_go I0.st (by omega) (by omega) fun a a0 a1 => ?_
  have I1 := I0.step (i := j + 1) (by omega)
  simp only [r__law_any_t2, sSeq, sNext_eq, sBreak_eq, sCont_eq, sDrop, sRet, sRetN, sIf, sSet, sPar, sAsg, sRaise, gN, gE, gC, gU, gS, qVar, qC, qBin, qTB, qChain, qNot, qAnd, qOr, bd_bl, qNotT, qAndT, qOrT, qTru, tru_non, tru_bl, tru_int, tru_str, tru_tup, tru_rol, tru_ref, qIf, qNil, qCons, qTup, qLst, qCB, cInt_i, cInt2_ii, cToInt_i, cToInt_b, cLen_s, cLen_t, cLen_r, cLen_l, cTuple_t, cTuple_r, cTuple_l, cList_t, cList_r, cList_l, qNeg, oI_ii, oAdd_ii, oSub, oMul, oDiv, oMod, oPow, oEq, oNe, oEqW_ii, oEqW_ss, oEqW_bb, oLt, oLe, oGt, oGe, oOrd_ii, oOrd_ss, oIx_t, oIx_r, oIx_l, oIx_s, qNo, qPart, qSl, oSl_t, oSl_r, oSl_l, oSl_s, qMeth, mAppend_1, iSeq, iRange1, iRange2, qCall, endsF, startD, List.map_cons, List.map_nil, List.length_cons, List.length_nil, List.length_map, List.cons_append, List.nil_append, List.replicate, List.getElem?_cons_zero, List.getElem?_cons_succ, List.set_cons_zero, List.set_cons_succ, Nat.reduceAdd, Nat.reduceSub, if_true, if_false, id, ups_same, ex_lst, ex_lst2, ex_some, atI_0, atI_1, atI_2, atI_3, ixN_0, ixN_1, ixN_21, oIx_p]
  by_cases ha : a < 2
  · refine ifT (decide_eq_true ha) ⟨by decide, fun p hp => ?_⟩
    have I2 := I1.new hp (o := .lst [.int 4, .int 12])
    have hps := I1.st.ne_s hp
    refine next_go I2.st (by omega) (by omega) fun b b0 b1 => ?_
    have I3 := I2.step (i := j + 1 + 1) (by omega)
    obtain ⟨m, em, m1, m2⟩ : ∃ m : Nat, atI [D.int 4, .int 12] b = some (.int m) ∧ 1 ≤ m ∧ m ≤ 12 := by
      obtain ⟨x, ex, hx⟩ := at2 (a := .int 4) (b := .int 12) b0 b1
      rcases hx with rfl | rfl
      · exact ⟨4, ex, by omega, by omega⟩
      · exact ⟨12, ex, by omega, by omega⟩
    rw [oIx_l, stepS_ne hps]
    refine ⟨_, ups_same, _, em, s, n, xs, _, l, m, rfl, I3.st, by omega, hg, m1, m2, fun t e i hc i1 i2 => ?_⟩
    exact ⟨_, (I3.step (i := i) (by omega)).at_, q l t e i hc (by omega) (by omega)⟩
  · refine ifF (decide_eq_false ha) ?_
    simp only [r__law_any_t1, sSeq, sNext_eq, sBreak_eq, sCont_eq, sDrop, sRet, sRetN, sIf, sSet, sPar, sAsg, sRaise, gN, gE, gC, gU, gS, qVar, qC, qBin, qTB, qChain, qNot, qAnd, qOr, bd_bl, qNotT, qAndT, qOrT, qTru, tru_non, tru_bl, tru_int, tru_str, tru_tup, tru_rol, tru_ref, qIf, qNil, qCons, qTup, qLst, qCB, cInt_i, cInt2_ii, cToInt_i, cToInt_b, cLen_s, cLen_t, cLen_r, cLen_l, cTuple_t, cTuple_r, cTuple_l, cList_t, cList_r, cList_l, qNeg, oI_ii, oAdd_ii, oSub, oMul, oDiv, oMod, oPow, oEq, oNe, oEqW_ii, oEqW_ss, oEqW_bb, oLt, oLe, oGt, oGe, oOrd_ii, oOrd_ss, oIx_t, oIx_r, oIx_l, oIx_s, qNo, qPart, qSl, oSl_t, oSl_r, oSl_l, oSl_s, qMeth, mAppend_1, iSeq, iRange1, iRange2, qCall, endsF, startD, List.map_cons, List.map_nil, List.length_cons, List.length_nil, List.length_map, List.cons_append, List.nil_append, List.replicate, List.getElem?_cons_zero, List.getElem?_cons_succ, List.set_cons_zero, List.set_cons_succ, Nat.reduceAdd, Nat.reduceSub, if_true, if_false, id, ups_same, ex_lst, ex_lst2, ex_some, atI_0, atI_1, atI_2, atI_3, ixN_0, ixN_1, ixN_21, oIx_p]
    refine next_go I1.st (by omega) (by omega) fun b b0 b1 => ?_
    have I2 := I1.step (i := j + 1 + 1) (by omega)
    try simp only [sSeq, sNext_eq, sBreak_eq, sCont_eq, sDrop, sRet, sRetN, sIf, sSet, sPar, sAsg, sRaise, gN, gE, gC, gU, gS, qVar, qC, qBin, qTB, qChain, qNot, qAnd, qOr, bd_bl, qNotT, qAndT, qOrT, qTru, tru_non, tru_bl, tru_int, tru_str, tru_tup, tru_rol, tru_ref, qIf, qNil, qCons, qTup, qLst, qCB, cInt_i, cInt2_ii, cToInt_i, cToInt_b, cLen_s, cLen_t, cLen_r, cLen_l, cTuple_t, cTuple_r, cTuple_l, cList_t, cList_r, cList_l, qNeg, oI_ii, oAdd_ii, oSub, oMul, oDiv, oMod, oPow, oEq, oNe, oEqW_ii, oEqW_ss, oEqW_bb, oLt, oLe, oGt, oGe, oOrd_ii, oOrd_ss, oIx_t, oIx_r, oIx_l, oIx_s, qNo, qPart, qSl, oSl_t, oSl_r, oSl_l, oSl_s, qMeth, mAppend_1, iSeq, iRange1, iRange2, qCall, endsF, startD, List.map_cons, List.map_nil, List.length_cons, List.length_nil, List.length_map, List.cons_append, List.nil_append, List.replicate, List.getElem?_cons_zero, List.getElem?_cons_succ, List.set_cons_zero, List.set_cons_succ, Nat.reduceAdd, Nat.reduceSub, if_true, if_false, id, ups_same, ex_lst, ex_lst2, ex_some, atI_0, atI_1, atI_2, atI_3, ixN_0, ixN_1, ixN_21, oIx_p]
    refine next_go I2.st (by omega) (by omega) fun c c0 c1 => ?_
    have I3 := I2.step (i := j + 1 + 1 + 1) (by omega)
    try simp only [sSeq, sNext_eq, sBreak_eq, sCont_eq, sDrop, sRet, sRetN, sIf, sSet, sPar, sAsg, sRaise, gN, gE, gC, gU, gS, qVar, qC, qBin, qTB, qChain, qNot, qAnd, qOr, bd_bl, qNotT, qAndT, qOrT, qTru, tru_non, tru_bl, tru_int, tru_str, tru_tup, tru_rol, tru_ref, qIf, qNil, qCons, qTup, qLst, qCB, cInt_i, cInt2_ii, cToInt_i, cToInt_b, cLen_s, cLen_t, cLen_r, cLen_l, cTuple_t, cTuple_r, cTuple_l, cList_t, cList_r, cList_l, qNeg, oI_ii, oAdd_ii, oSub, oMul, oDiv, oMod, oPow, oEq, oNe, oEqW_ii, oEqW_ss, oEqW_bb, oLt, oLe, oGt, oGe, oOrd_ii, oOrd_ss, oIx_t, oIx_r, oIx_l, oIx_s, qNo, qPart, qSl, oSl_t, oSl_r, oSl_l, oSl_s, qMeth, mAppend_1, iSeq, iRange1, iRange2, qCall, endsF, startD, List.map_cons, List.map_nil, List.length_cons, List.length_nil, List.length_map, List.cons_append, List.nil_append, List.replicate, List.getElem?_cons_zero, List.getElem?_cons_succ, List.set_cons_zero, List.set_cons_succ, Nat.reduceAdd, Nat.reduceSub, if_true, if_false, id, ups_same, ex_lst, ex_lst2, ex_some, atI_0, atI_1, atI_2, atI_3, ixN_0, ixN_1, ixN_21, oIx_p]
    refine next_go I3.st (by omega) (by omega) fun d d0 d1 => ?_
    have I4 := I3.step (i := j + 1 + 1 + 1 + 1) (by omega)
    generalize stepS (stepS (stepS (stepS (stepS S s n j) s n (j + 1)) s n (j + 1 + 1)) s n (j + 1 + 1 + 1)) s n (j + 1 + 1 + 1 + 1) = S4 at I4 ⊢
    try simp only [sSeq, sNext_eq, sBreak_eq, sCont_eq, sDrop, sRet, sRetN, sIf, sSet, sPar, sAsg, sRaise, gN, gE, gC, gU, gS, qVar, qC, qBin, qTB, qChain, qNot, qAnd, qOr, bd_bl, qNotT, qAndT, qOrT, qTru, tru_non, tru_bl, tru_int, tru_str, tru_tup, tru_rol, tru_ref, qIf, qNil, qCons, qTup, qLst, qCB, cInt_i, cInt2_ii, cToInt_i, cToInt_b, cLen_s, cLen_t, cLen_r, cLen_l, cTuple_t, cTuple_r, cTuple_l, cList_t, cList_r, cList_l, qNeg, oI_ii, oAdd_ii, oSub, oMul, oDiv, oMod, oPow, oEq, oNe, oEqW_ii, oEqW_ss, oEqW_bb, oLt, oLe, oGt, oGe, oOrd_ii, oOrd_ss, oIx_t, oIx_r, oIx_l, oIx_s, qNo, qPart, qSl, oSl_t, oSl_r, oSl_l, oSl_s, qMeth, mAppend_1, iSeq, iRange1, iRange2, qCall, endsF, startD, List.map_cons, List.map_nil, List.length_cons, List.length_nil, List.length_map, List.cons_append, List.nil_append, List.replicate, List.getElem?_cons_zero, List.getElem?_cons_succ, List.set_cons_zero, List.set_cons_succ, Nat.reduceAdd, Nat.reduceSub, if_true, if_false, id, ups_same, ex_lst, ex_lst2, ex_some, atI_0, atI_1, atI_2, atI_3, ixN_0, ixN_1, ixN_21, oIx_p]
    refine ⟨by decide, fun p hp => ?_⟩
    have I5 := I4.new hp (o := .lst [.int (1 + b), .int (1 + c), .int (20 + d)])
    have hps := I4.st.ne_s hp
    refine ⟨by decide, fun p2 hp2 => ?_⟩
    have hpp : p ≠ p2 := sto_ne ups_same hp2
    have I6 := I5.new hp2 (o := .lst [.int 0, .int 1, .int 1, .int 1, .int 2])
    have hp2s := I5.st.ne_s hp2
    refine next_go I6.st (by omega) (by omega) fun f f0 f1 => ?_
    have I7 := I6.step (i := j + 1 + 1 + 1 + 1 + 1) (by omega)
    try simp only [sSeq, sNext_eq, sBreak_eq, sCont_eq, sDrop, sRet, sRetN, sIf, sSet, sPar, sAsg, sRaise, gN, gE, gC, gU, gS, qVar, qC, qBin, qTB, qChain, qNot, qAnd, qOr, bd_bl, qNotT, qAndT, qOrT, qTru, tru_non, tru_bl, tru_int, tru_str, tru_tup, tru_rol, tru_ref, qIf, qNil, qCons, qTup, qLst, qCB, cInt_i, cInt2_ii, cToInt_i, cToInt_b, cLen_s, cLen_t, cLen_r, cLen_l, cTuple_t, cTuple_r, cTuple_l, cList_t, cList_r, cList_l, qNeg, oI_ii, oAdd_ii, oSub, oMul, oDiv, oMod, oPow, oEq, oNe, oEqW_ii, oEqW_ss, oEqW_bb, oLt, oLe, oGt, oGe, oOrd_ii, oOrd_ss, oIx_t, oIx_r, oIx_l, oIx_s, qNo, qPart, qSl, oSl_t, oSl_r, oSl_l, oSl_s, qMeth, mAppend_1, iSeq, iRange1, iRange2, qCall, endsF, startD, List.map_cons, List.map_nil, List.length_cons, List.length_nil, List.length_map, List.cons_append, List.nil_append, List.replicate, List.getElem?_cons_zero, List.getElem?_cons_succ, List.set_cons_zero, List.set_cons_succ, Nat.reduceAdd, Nat.reduceSub, if_true, if_false, id, ups_same, ex_lst, ex_lst2, ex_some, atI_0, atI_1, atI_2, atI_3, ixN_0, ixN_1, ixN_21, oIx_p]
    obtain ⟨u, eu, u0, u1⟩ : ∃ u : Int, atI [D.int 0, .int 1, .int 1, .int 1, .int 2] f = some (.int u) ∧ 0 ≤ u ∧ u < 3 := by
      obtain ⟨i, rfl⟩ := Int.eq_ofNat_of_zero_le f0
      match i, f1 with
      | 0, _ => exact ⟨0, rfl, by omega, by omega⟩
      | 1, _ => exact ⟨1, rfl, by omega, by omega⟩
      | 2, _ => exact ⟨1, rfl, by omega, by omega⟩
      | 3, _ => exact ⟨1, rfl, by omega, by omega⟩
      | 4, _ => exact ⟨2, rfl, by omega, by omega⟩
      | m + 5, h => exact absurd h (by omega)
    obtain ⟨m, em, m1, m2⟩ : ∃ m : Nat, atI [D.int (1 + b), .int (1 + c), .int (20 + d)] u = some (.int m) ∧ 1 ≤ m ∧ m ≤ 60 := by
      obtain ⟨b, rfl⟩ := Int.eq_ofNat_of_zero_le b0
      obtain ⟨c, rfl⟩ := Int.eq_ofNat_of_zero_le c0
      obtain ⟨d, rfl⟩ := Int.eq_ofNat_of_zero_le d0
      obtain ⟨x, ex, hx⟩ := at3 (a := .int (1 + (b : Int))) (b := .int (1 + (c : Int))) (c := .int (20 + (d : Int))) u0 u1
      rcases hx with rfl | rfl | rfl
      · exact ⟨1 + b, by rw [ex]; simp, by omega, by omega⟩
      · exact ⟨1 + c, by rw [ex]; simp, by omega, by omega⟩
      · exact ⟨20 + d, by rw [ex]; simp, by omega, by omega⟩
    try rw [oIx_l]
    rw [stepS_ne hp2s]
    refine ⟨_, ups_same, _, eu, ?_⟩
    try rw [oIx_l]
    rw [stepS_ne hps, ups_ne hpp]
    refine ⟨_, ups_same, _, em, s, n, xs, _, l, m, rfl, I7.st, by omega, hg, m1, m2, fun t e i hc i1 i2 => ?_⟩
    exact ⟨_, (I7.step (i := i) (by omega)).at_, q l t e i hc (by omega) (by omega)⟩
end PL

namespace PL
open PySem PySem.Spec PyProof.Rows L2 -- the layers
/-! the valid numbers of a length, in order; their places -/
/-- the texts of n signs that lead from s to a good end, in order -/
def vl (l : List Nat) (t : Tb) (e : List Int) : Nat → Nat → List (List Nat)
  | 0, s => if e.getD s 0 = 1 then [[]] else []
  | n + 1, s => (List.range l.length).flatMap fun j => (vl l t e n (c t s j).toNat).map fun w => l.getD j 0 :: w
/-- from the sign a on -/
def vt (l : List Nat) (t : Tb) (e : List Int) (n s a : Nat) : List (List Nat) := ((List.range l.length).drop a).flatMap fun j => (vl l t e n (c t s j).toNat).map fun w => l.getD j 0 :: w
section
variable {l : List Nat} {t : Tb} {e : List Int}
theorem vt_zero {n s : Nat} : vt l t e n s 0 = vl l t e (n + 1) s := rfl
theorem drop_range {n a : Nat} (h : a < n) : (List.range n).drop a = a :: (List.range n).drop (a + 1) := by
  rw [List.drop_eq_getElem_cons (by simpa using h)]
  simp
theorem vt_step {n s a : Nat} (h : a < l.length) : vt l t e n s a = ((vl l t e n (c t s a).toNat).map fun w => l.getD a 0 :: w) ++ vt l t e n s (a + 1) := by
  unfold vt
  rw [drop_range h, List.flatMap_cons]
theorem vt_end {n s a : Nat} (h : l.length ≤ a) : vt l t e n s a = [] := by
  unfold vt
  rw [List.drop_eq_nil_of_le (by simpa using h)]
  rfl
theorem row_range {r : List Int} {f : Int → Int} : r.map f = (List.range r.length).map fun j => f (r.getD j 0) := by
  refine List.ext_getElem (by simp) fun i h1 h2 => ?_
  have hi : i < r.length := by simpa using h1
  simp [hi]
theorem sum_cast (xs : List Nat) : ((xs.sum : Nat) : Int) = (xs.map fun (x : Nat) => (x : Int)).sum := by
  induction xs with
  | nil => rfl
  | cons a r ih => rw [List.sum_cons, List.map_cons, List.sum_cons, Int.natCast_add, ih]
variable (hc : Ch l t e)
include hc
theorem row_len {s : Nat} (hs : s < t.length) : (t.getD s []).length = l.length := hc.row _ (getD_mem hs)
theorem step_lt {s j : Nat} (hs : s < t.length) (hj : j < l.length) : (c t s j).toNat < t.length := by
  have := hc.crng hs hj
  omega
theorem vl_len : ∀ (n s : Nat), s < t.length → ((vl l t e n s).length : Int) = cn t e n s
  | 0, s, hs => by
    unfold vl cn
    have hb := hc.bit (e.getD s 0) (getD_mem (by rw [hc.len]; exact hs))
    rcases hb with h | h
    · rw [h]; rfl
    · rw [h]; rfl
  | n + 1, s, hs => by
    unfold vl cn
    rw [row_range, row_len hc hs, List.length_flatMap, sum_cast, List.map_map]
    congr 1
    refine List.map_congr_left fun j hj => ?_
    have hj2 : j < l.length := by simpa using hj
    show ((((vl l t e n (c t s j).toNat).map fun w => l.getD j 0 :: w).length : Nat) : Int) = _
    rw [List.length_map, vl_len n _ (step_lt hc hs hj2)]
    rfl
theorem cn_nn (n s : Nat) (hs : s < t.length) : 0 ≤ cn t e n s := by
  rw [← vl_len hc n s hs]
  omega
theorem idx_l {j : Nat} (hj : j < l.length) : idx l (l.getD j 0) = j := by
  have e1 : l.getD j 0 = l[j] := by simp [hj]
  rw [e1]
  exact (idx_uniq hc.sg.asc (List.getElem?_eq_getElem hj)).symm
theorem mem_l {j : Nat} (hj : j < l.length) : l.getD j 0 ∈ l := getD_mem hj
theorem run_cons {s a : Nat} {x : List Nat} : run l t s (a :: x) = run l t (c t s (idx l a)).toNat x := rfl
theorem vl_mem : ∀ (n s : Nat) (x : List Nat), s < t.length → (x ∈ vl l t e n s ↔ x.length = n ∧ (∀ a ∈ x, a ∈ l) ∧ e.getD (run l t s x) 0 = 1)
  | 0, s, x, hs => by
    unfold vl
    constructor
    · intro h
      split at h
      · rename_i h1
        rw [List.mem_singleton.mp h]
        exact ⟨rfl, by simp, h1⟩
      · cases h
    · rintro ⟨h1, _, h3⟩
      have : x = [] := List.length_eq_zero_iff.mp h1
      subst this
      rw [if_pos (by exact h3)]
      exact List.mem_singleton.mpr rfl
  | n + 1, s, x, hs => by
    unfold vl
    rw [List.mem_flatMap]
    constructor
    · rintro ⟨j, hj, h⟩
      have hj2 : j < l.length := by simpa using hj
      obtain ⟨w, hw, rfl⟩ := List.mem_map.mp h
      obtain ⟨h1, h2, h3⟩ := (vl_mem n _ w (step_lt hc hs hj2)).mp hw
      refine ⟨by rw [List.length_cons, h1], fun a ha => ?_, ?_⟩
      · rcases List.mem_cons.mp ha with rfl | ha
        · exact mem_l hc hj2
        · exact h2 a ha
      · rw [run_cons hc, idx_l hc hj2]
        exact h3
    · rintro ⟨h1, h2, h3⟩
      match x, h1, h2, h3 with
      | a :: w, h1, h2, h3 =>
        have ha : a ∈ l := h2 a (List.mem_cons_self ..)
        have hj := idx_lt ha
        have ea : l.getD (idx l a) 0 = a := by
          have := idx_get ha
          rw [List.getD_eq_getElem?_getD, this]
          rfl
        refine ⟨idx l a, by simpa using hj, List.mem_map.mpr ⟨w, ?_, by rw [ea]⟩⟩
        exact (vl_mem n _ w (step_lt hc hs hj)).mpr ⟨by simpa using h1, fun b hb => h2 b (List.mem_cons_of_mem _ hb), h3⟩
theorem vl_asc : ∀ (n s : Nat), s < t.length → (vl l t e n s).Pairwise (· < ·)
  | 0, s, hs => by
    unfold vl
    split <;> simp
  | n + 1, s, hs => by
    unfold vl
    rw [List.pairwise_flatMap]
    refine ⟨fun j hj => ?_, ?_⟩
    · have hj2 : j < l.length := by simpa using hj
      rw [List.pairwise_map]
      exact (vl_asc n _ (step_lt hc hs hj2)).imp fun h => List.cons_lt_cons_iff.mpr (.inr ⟨rfl, h⟩)
    · have key : ∀ i j, i < j → j < l.length → l.getD i 0 < l.getD j 0 := fun i j hij hj => by
        have := List.pairwise_iff_getElem.mp hc.sg.asc i j (by omega) hj hij
        simpa [hj, show i < l.length by omega] using this
      refine List.pairwise_iff_getElem.mpr fun i j hi hj hij => ?_
      intro x hx y hy
      have hj2 : j < l.length := by simpa using hj
      obtain ⟨u, _, rfl⟩ := List.mem_map.mp hx
      obtain ⟨v, _, rfl⟩ := List.mem_map.mp hy
      refine List.cons_lt_cons_iff.mpr (.inl ?_)
      simp only [List.getElem_range]
      exact key i j hij hj2
theorem vl_inj {n s i j : Nat} {x : List Nat} (hs : s < t.length) (h1 : (vl l t e n s)[i]? = some x) (h2 : (vl l t e n s)[j]? = some x) : i = j := by
  obtain ⟨a1, b1⟩ := List.getElem?_eq_some_iff.mp h1
  obtain ⟨a2, b2⟩ := List.getElem?_eq_some_iff.mp h2
  have p := List.pairwise_iff_getElem.mp (vl_asc hc n s hs)
  by_cases h : i < j
  · have := p i j a1 a2 h
    rw [b1, b2] at this
    exact absurd this (List.lt_irrefl x)
  · by_cases h' : j < i
    · have := p j i a2 a1 h'
      rw [b1, b2] at this
      exact absurd this (List.lt_irrefl x)
    · omega
theorem vl_le {n s i j : Nat} {x y : List Nat} (hs : s < t.length) (hij : i ≤ j) (h1 : (vl l t e n s)[i]? = some x) (h2 : (vl l t e n s)[j]? = some y) : ¬ y < x := by
  obtain ⟨a1, b1⟩ := List.getElem?_eq_some_iff.mp h1
  obtain ⟨a2, b2⟩ := List.getElem?_eq_some_iff.mp h2
  have p := List.pairwise_iff_getElem.mp (vl_asc hc n s hs)
  by_cases h : i < j
  · have := p i j a1 a2 h
    rw [b1, b2] at this
    exact fun z => List.lt_irrefl x (List.lt_trans this z)
  · have : i = j := by omega
    subst this
    rw [b1] at b2
    rw [b2]
    exact List.lt_irrefl y
omit hc in
theorem cn_bound (hc : Ch l t e) : ∀ (n s : Nat), s < t.length → cn t e n s ≤ (12 : Int) ^ n
  | 0, s, hs => by
    unfold cn
    have hb := hc.bit (e.getD s 0) (getD_mem (by rw [hc.len]; exact hs))
    rcases hb with h | h <;> rw [h] <;> decide
  | n + 1, s, hs => by
    unfold cn
    have hl := row_len hc hs
    have hr : ∀ a ∈ t.getD s [], cn t e n a.toNat ≤ (12 : Int) ^ n := fun a ha => cn_bound hc n _ (by
      have := hc.rng _ (getD_mem hs) a ha
      omega)
    have key : ∀ r : List Int, (∀ a ∈ r, cn t e n a.toNat ≤ (12 : Int) ^ n) → (r.map fun a => cn t e n a.toNat).sum ≤ (r.length : Int) * (12 : Int) ^ n := by
      intro r
      induction r with
      | nil => intro _; simp
      | cons a r ih =>
        intro h
        have h1 := h a (List.mem_cons_self ..)
        have h2 := ih fun b hb => h b (List.mem_cons_of_mem _ hb)
        rw [List.map_cons, List.sum_cons, List.length_cons, Int.natCast_add, Int.add_mul]
        simp only [Int.natCast_one, Int.one_mul]
        omega
    have h1 := key _ hr
    rw [hl] at h1
    have hp : (0 : Int) ≤ 12 ^ n := Int.pow_nonneg (by decide)
    have h2 : (l.length : Int) * 12 ^ n ≤ 12 * 12 ^ n := Int.mul_le_mul_of_nonneg_right (by have := hc.sg.hi; omega) hp
    rw [Int.pow_succ, Int.mul_comm]
    omega
end
def plc (l : List Nat) (t : Tb) (e : List Int) : List Nat → Nat → Int
  | [], _ => 0
  | a :: y, s => ((List.range (idx l a)).map fun j => cn t e y.length (c t s j).toNat).sum + plc l t e y (c t s (idx l a)).toNat
section
variable {l : List Nat} {t : Tb} {e : List Int} (hc : Ch l t e)
include hc
theorem pre_len {n s a : Nat} (hs : s < t.length) (ha : a ≤ l.length) : ((((List.range a).flatMap fun j => (vl l t e n (c t s j).toNat).map fun w => l.getD j 0 :: w).length : Nat) : Int) = ((List.range a).map fun j => cn t e n (c t s j).toNat).sum := by
  rw [List.length_flatMap, sum_cast, List.map_map]
  congr 1
  refine List.map_congr_left fun j hj => ?_
  have hj2 : j < a := by simpa using hj
  show ((((vl l t e n (c t s j).toNat).map fun w => l.getD j 0 :: w).length : Nat) : Int) = _
  rw [List.length_map, vl_len hc n _ (step_lt hc hs (by omega))]
theorem vl_split {n s a : Nat} (ha : a ≤ l.length) : vl l t e (n + 1) s = ((List.range a).flatMap fun j => (vl l t e n (c t s j).toNat).map fun w => l.getD j 0 :: w) ++ vt l t e n s a := by
  rw [← vt_zero]
  unfold vt
  rw [List.drop_zero, ← List.flatMap_append]
  have : List.range a = (List.range l.length).take a := by rw [List.take_range, Nat.min_eq_left ha]
  rw [this, List.take_append_drop]
theorem plc_get : ∀ (x : List Nat) (s : Nat), s < t.length → (∀ a ∈ x, a ∈ l) → e.getD (run l t s x) 0 = 1 → 0 ≤ plc l t e x s ∧ (vl l t e x.length s)[(plc l t e x s).toNat]? = some x
  | [], s, hs, hx, he => by
    refine ⟨Int.le_refl _, ?_⟩
    show (vl l t e 0 s)[0]? = some []
    unfold vl
    rw [if_pos (by exact he)]
    rfl
  | a :: y, s, hs, hx, he => by
    have ha : a ∈ l := hx a (List.mem_cons_self ..)
    have hj := idx_lt ha
    have ea : l.getD (idx l a) 0 = a := by
      rw [List.getD_eq_getElem?_getD, idx_get ha]
      rfl
    obtain ⟨i1, i2⟩ := plc_get y _ (step_lt hc hs hj) (fun b hb => hx b (List.mem_cons_of_mem _ hb)) he
    have hp := pre_len hc (n := y.length) hs (a := idx l a) (by omega)
    have hsum : 0 ≤ ((List.range (idx l a)).map fun j => cn t e y.length (c t s j).toNat).sum := by rw [← hp]; omega
    unfold plc
    refine ⟨by omega, ?_⟩
    rw [List.length_cons, vl_split hc (a := idx l a) (by omega), List.getElem?_append_right (by omega), vt_step hj, List.getElem?_append_left, List.getElem?_map]
    · have e1 : (((List.range (idx l a)).map fun j => cn t e y.length (c t s j).toNat).sum + plc l t e y (c t s (idx l a)).toNat).toNat - ((List.range (idx l a)).flatMap fun j => (vl l t e y.length (c t s j).toNat).map fun w => l.getD j 0 :: w).length = (plc l t e y (c t s (idx l a)).toNat).toNat := by omega
      rw [e1, i2, ea]
      rfl
    · have h3 := (List.getElem?_eq_some_iff.mp i2).1
      rw [List.length_map]
      omega
/-- one sign found -/
theorem vt_get {n s a p : Nat} {x : List Nat} (hs : s < t.length) (ha : a < l.length) (h : (vt l t e n s a)[p]? = some x) :
    ((p : Int) < cn t e n (c t s a).toNat → ∃ w, x = l.getD a 0 :: w ∧ (vl l t e n (c t s a).toNat)[p]? = some w) ∧ (¬ (p : Int) < cn t e n (c t s a).toNat → (vt l t e n s (a + 1))[((p : Int) - cn t e n (c t s a).toNat).toNat]? = some x ∧ 0 ≤ (p : Int) - cn t e n (c t s a).toNat) := by
  rw [vt_step ha] at h
  have hl := vl_len hc n _ (step_lt hc hs ha)
  refine ⟨fun hp => ?_, fun hp => ?_⟩
  · rw [List.getElem?_append_left (by rw [List.length_map]; omega), List.getElem?_map] at h
    obtain ⟨w, h1, h2⟩ := Option.map_eq_some_iff.mp h
    exact ⟨w, h2.symm, h1⟩
  · rw [List.getElem?_append_right (by rw [List.length_map]; omega), List.length_map] at h
    refine ⟨?_, by omega⟩
    have e1 : ((p : Int) - cn t e n (c t s a).toNat).toNat = p - (vl l t e n (c t s a).toNat).length := by omega
    rw [e1]
    exact h
/-! all texts, made at their ends -/
omit hc in
def wp (l : List Nat) : Nat → List (List Nat)
  | 0 => [[]]
  | n + 1 => l.flatMap fun a => (wp l n).map fun w => a :: w
omit hc in
theorem wp_snoc : ∀ n, (wp l n).flatMap (fun w => l.map fun a => w ++ [a]) = wp l (n + 1)
  | 0 => by
    show ([[]] : List (List Nat)).flatMap (fun w => l.map fun a => w ++ [a]) = l.flatMap fun a => [[]].map fun w => a :: w
    simp [List.flatMap_singleton']
    induction l with
    | nil => rfl
    | cons a r ih => simp [ih]
  | n + 1 => by
    have ih := wp_snoc n
    show (l.flatMap fun a => (wp l n).map fun w => a :: w).flatMap (fun w => l.map fun a => w ++ [a]) = l.flatMap fun a => (wp l (n + 1)).map fun w => a :: w
    rw [List.flatMap_assoc]
    congr 1
    funext a
    rw [← ih, List.map_flatMap, List.flatMap_map]
    congr 1
    funext w
    simp
omit hc in
theorem wd_wp : ∀ n, wd l n = wp l n
  | 0 => rfl
  | n + 1 => by
    show (wd l n).flatMap (fun w => l.map fun a => w ++ [a]) = _
    rw [wd_wp n]
    exact wp_snoc n
omit hc in
theorem flat_congr {α β : Type} {f g : α → List β} : ∀ {xs : List α}, (∀ a ∈ xs, f a = g a) → xs.flatMap f = xs.flatMap g
  | [], _ => rfl
  | a :: r, h => by
    rw [List.flatMap_cons, List.flatMap_cons, h a (List.mem_cons_self ..), flat_congr fun b hb => h b (List.mem_cons_of_mem _ hb)]
omit hc in
theorem flat_range {α : Type} {f : Nat → List α} : l.flatMap f = (List.range l.length).flatMap fun j => f (l.getD j 0) := by
  have : l = (List.range l.length).map fun j => l.getD j 0 := by
    refine List.ext_getElem (by simp) fun i h1 h2 => ?_
    simp [h1]
  calc l.flatMap f = ((List.range l.length).map fun j => l.getD j 0).flatMap f := by rw [← this]
    _ = _ := by rw [List.flatMap_map]
theorem wp_vl : ∀ (n s : Nat), s < t.length → (wp l n).filter (fun x => decide (e.getD (run l t s x) 0 = 1)) = vl l t e n s
  | 0, s, hs => by
    show ([[]] : List (List Nat)).filter _ = _
    unfold vl
    by_cases h : e.getD s 0 = 1
    · rw [if_pos h]
      have : decide (e.getD (run l t s []) 0 = 1) = true := decide_eq_true h
      rw [List.filter_cons, if_pos this]
      rfl
    · rw [if_neg h]
      have : decide (e.getD (run l t s []) 0 = 1) = false := decide_eq_false h
      rw [List.filter_cons, if_neg (by rw [this]; decide)]
      rfl
  | n + 1, s, hs => by
    show (l.flatMap fun a => (wp l n).map fun w => a :: w).filter _ = _
    rw [List.filter_flatMap, flat_range]
    unfold vl
    refine flat_congr fun j hj => ?_
    have hj2 : j < l.length := by simpa using hj
    rw [List.filter_map, ← wp_vl n _ (step_lt hc hs hj2)]
    congr 1
    refine List.filter_congr fun w _ => ?_
    show decide (e.getD (run l t s (l.getD j 0 :: w)) 0 = 1) = _
    rw [run_cons hc, idx_l hc hj2]
end
end PL

namespace PL
/-! whole-number vectors: more of them than their length hang together; a row that goes on by its own sums and begins with as many noughts is nought -/
def sm : Nat → (Nat → Int) → Int
  | 0, _ => 0
  | n + 1, f => sm n f + f n
theorem sm_congr {n : Nat} {f g : Nat → Int} (h : ∀ i, i < n → f i = g i) : sm n f = sm n g := by
  induction n with
  | zero => rfl
  | succ n ih => rw [sm, sm, ih fun i hi => h i (by omega), h n (by omega)]
theorem sm_zero {n : Nat} {f : Nat → Int} (h : ∀ i, i < n → f i = 0) : sm n f = 0 := by
  induction n with
  | zero => rfl
  | succ n ih => rw [sm, ih fun i hi => h i (by omega), h n (by omega)]; rfl
theorem sm_add {n : Nat} {f g : Nat → Int} : sm n (fun i => f i + g i) = sm n f + sm n g := by
  induction n with
  | zero => rfl
  | succ n ih => rw [sm, sm, sm, ih]; omega
theorem sm_mul {n : Nat} {f : Nat → Int} {x : Int} : sm n (fun i => f i * x) = sm n f * x := by
  induction n with
  | zero => simp [sm]
  | succ n ih => rw [sm, sm, ih, Int.add_mul]
def sk (q i : Nat) : Nat := if i < q then i else i + 1
def unsk (q i : Nat) : Nat := if i < q then i else i - 1
theorem sm_skip {q : Nat} {f : Nat → Int} : ∀ n, q ≤ n → sm (n + 1) f = f q + sm n fun i => f (sk q i)
  | n, h => by
    by_cases e : q = n
    · subst e
      have : sm q (fun i => f (sk q i)) = sm q f := sm_congr fun i hi => by rw [show sk q i = i from if_pos hi]
      rw [this, sm]
      omega
    · match n, h, e with
      | 0, h, e => exact absurd (by omega) e
      | n + 1, h, e =>
        have ih := sm_skip (q := q) (f := f) n (by omega)
        rw [sm, ih]
        show _ = f q + (sm n (fun i => f (sk q i)) + f (sk q n))
        rw [show sk q n = n + 1 from if_neg (by omega)]
        omega
theorem dep : ∀ (N : Nat) (w : Nat → Nat → Int), ∃ c : Nat → Int, (∃ i, i ≤ N ∧ c i ≠ 0) ∧ ∀ j, j < N → sm (N + 1) (fun i => c i * w i j) = 0
  | 0, w => ⟨fun _ => 1, ⟨0, Nat.le_refl 0, by decide⟩, fun j h => absurd h (by omega)⟩
  | N + 1, w => by
    by_cases h : ∃ q, q ≤ N + 1 ∧ w q N ≠ 0
    · obtain ⟨q, hq, hw⟩ := h
      obtain ⟨c', ⟨i0, hi0, hc0⟩, hs⟩ := dep N fun i j => w q N * w (sk q i) j - w (sk q i) N * w q j
      have su : ∀ i, sk q i ≠ q ∧ unsk q (sk q i) = i := fun i => by
        unfold sk unsk
        by_cases hi : i < q
        · rw [if_pos hi, if_pos hi]
          exact ⟨by omega, rfl⟩
        · rw [if_neg hi, if_neg (by omega)]
          exact ⟨by omega, by omega⟩
      refine ⟨fun x => if x = q then -(sm (N + 1) fun i => c' i * w (sk q i) N) else w q N * c' (unsk q x), ⟨sk q i0, ?_, ?_⟩, fun j hj => ?_⟩
      · unfold sk
        split <;> omega
      · show (if sk q i0 = q then _ else _) ≠ 0
        rw [if_neg (su i0).1, (su i0).2]
        exact Int.mul_ne_zero hw hc0
      · rw [sm_skip (q := q) (N + 1) hq]
        show (if q = q then _ else _) * w q j + sm (N + 1) (fun i => (if sk q i = q then _ else w q N * c' (unsk q (sk q i))) * w (sk q i) j) = 0
        rw [if_pos rfl]
        have e1 : sm (N + 1) (fun i => (if sk q i = q then -(sm (N + 1) fun i => c' i * w (sk q i) N) else w q N * c' (unsk q (sk q i))) * w (sk q i) j) = sm (N + 1) fun i => c' i * (w q N * w (sk q i) j) := sm_congr fun i _ => by
          rw [if_neg (su i).1, (su i).2, Int.mul_comm (w q N) (c' i), Int.mul_assoc]
        rw [e1]
        have e2 : (sm (N + 1) fun i => c' i * w (sk q i) N) * w q j = sm (N + 1) fun i => c' i * (w (sk q i) N * w q j) := by
          rw [← sm_mul]
          exact sm_congr fun i _ => Int.mul_assoc ..
        have e3 : sm (N + 1) (fun i => c' i * (w q N * w (sk q i) j)) = sm (N + 1) (fun i => c' i * (w q N * w (sk q i) j - w (sk q i) N * w q j)) + sm (N + 1) (fun i => c' i * (w (sk q i) N * w q j)) := by
          rw [← sm_add]
          exact sm_congr fun i _ => by rw [← Int.mul_add]; congr 1; omega
        have e4 : sm (N + 1) (fun i => c' i * (w q N * w (sk q i) j - w (sk q i) N * w q j)) = 0 := by
          by_cases hjN : j = N
          · subst hjN
            exact sm_zero fun i _ => by rw [Int.mul_comm (w q j), Int.sub_self, Int.mul_zero]
          · exact hs j (by omega)
        rw [Int.neg_mul, e2, e3, e4]
        omega
    · obtain ⟨c', ⟨i0, hi0, hc0⟩, hs⟩ := dep N w
      refine ⟨fun x => if x ≤ N then c' x else 0, ⟨i0, by omega, by show (if i0 ≤ N then c' i0 else 0) ≠ 0; rw [if_pos hi0]; exact hc0⟩, fun j hj => ?_⟩
      by_cases hjN : j = N
      · subst hjN
        refine sm_zero fun i hi => ?_
        have : w i j = 0 := Classical.byContradiction fun z => h ⟨i, by omega, z⟩
        rw [this, Int.mul_zero]
      · rw [sm]
        have e1 : sm (N + 1) (fun i => (if i ≤ N then c' i else 0) * w i j) = sm (N + 1) fun i => c' i * w i j := sm_congr fun i hi => by rw [if_pos (by omega)]
        rw [e1, hs j (by omega)]
        show 0 + (if N + 1 ≤ N then c' (N + 1) else 0) * w (N + 1) j = 0
        rw [if_neg (by omega), Int.zero_mul]
        rfl
theorem top_of {c : Nat → Int} : ∀ N, (∃ i, i ≤ N ∧ c i ≠ 0) → ∃ m, m ≤ N ∧ c m ≠ 0 ∧ ∀ i, m < i → i ≤ N → c i = 0
  | 0, ⟨i, hi, h⟩ => ⟨i, hi, h, fun j h1 h2 => absurd h1 (by omega)⟩
  | N + 1, ⟨i, hi, h⟩ => by
    by_cases hN : c (N + 1) = 0
    · have hi2 : i ≤ N := by
        by_cases e : i = N + 1
        · subst e
          exact absurd hN h
        · omega
      obtain ⟨m, h1, h2, h3⟩ := top_of N ⟨i, hi2, h⟩
      refine ⟨m, by omega, h2, fun j g1 g2 => ?_⟩
      by_cases e : j = N + 1
      · rw [e]; exact hN
      · exact h3 j g1 (by omega)
    · exact ⟨N + 1, Nat.le_refl _, hN, fun j h1 h2 => absurd h1 (by omega)⟩
theorem sm_row {n : Nat} {c : Nat → Int} {f : Nat → Nat → Int} : ∀ row : List Nat, sm n (fun i => c i * (row.map (f i)).sum) = (row.map fun a => sm n fun i => c i * f i a).sum
  | [] => sm_zero fun i _ => by simp
  | a :: r => by
    rw [List.map_cons, List.sum_cons, ← sm_row r, ← sm_add]
    exact sm_congr fun i _ => by rw [List.map_cons, List.sum_cons, Int.mul_add]
theorem sm_one {n m : Nat} {f : Nat → Int} (hm : m < n) (h : ∀ i, i < n → i ≠ m → f i = 0) : sm n f = f m := by
  induction n with
  | zero => omega
  | succ n ih =>
    rw [sm]
    by_cases e : m = n
    · subst e
      rw [sm_zero fun i hi => h i (by omega) (by omega)]
      omega
    · rw [ih (by omega) fun i hi hne => h i (by omega) hne, h n (by omega) (Ne.symm e)]
      omega
/-- a row of vectors that goes on by sums; two of its places that agree N + 1 times agree always -/
theorem agree {N : Nat} {W : Nat → Nat → Int} (hrow : ∀ s, s < N → ∃ row : List Nat, (∀ a ∈ row, a < N) ∧ ∀ k, W (k + 1) s = (row.map (W k)).sum) {a0 b0 : Nat} (ha : a0 < N) (hb : b0 < N) (h : ∀ k, k ≤ N → W k a0 = W k b0) : ∀ k, W k a0 = W k b0 := by
  obtain ⟨c, hc, hs⟩ := dep N W
  obtain ⟨m, hm, hcm, htop⟩ := top_of N hc
  have rec_ : ∀ k s, s < N → sm (N + 1) (fun i => c i * W (k + i) s) = 0 := by
    intro k
    induction k with
    | zero =>
      intro s hs'
      have := hs s hs'
      simpa using this
    | succ k ih =>
      intro s hs'
      obtain ⟨row, hr, e⟩ := hrow s hs'
      have e1 : sm (N + 1) (fun i => c i * W (k + 1 + i) s) = sm (N + 1) fun i => c i * (row.map (W (k + i))).sum := sm_congr fun i _ => by
        rw [show k + 1 + i = k + i + 1 by omega, e]
      rw [e1, sm_row]
      have : (row.map fun a => sm (N + 1) fun i => c i * W (k + i) a) = row.map fun _ => (0 : Int) := List.map_congr_left fun a ha' => ih a (hr a ha')
      rw [this]
      clear this e1 hr e
      induction row with
      | nil => rfl
      | cons a r ih2 => rw [List.map_cons, List.sum_cons, ih2]; rfl
  intro k
  induction k using Nat.strongRecOn with
  | _ k ih =>
    by_cases hk : k ≤ N
    · exact h k hk
    · have e1 := rec_ (k - m) a0 ha
      have e2 := rec_ (k - m) b0 hb
      have e3 : sm (N + 1) (fun i => c i * W (k - m + i) a0 + c i * W (k - m + i) b0 * (-1)) = 0 := by
        rw [sm_add, sm_mul, e1, e2]
        rfl
      rw [sm_one (m := m) (by omega)] at e3
      · rw [show k - m + m = k by omega, Int.mul_assoc, ← Int.mul_add] at e3
        rcases Int.mul_eq_zero.mp e3 with z | z
        · exact absurd z hcm
        · omega
      · intro i hi hne
        by_cases hlt : i < m
        · rw [ih (k - m + i) (by omega)]
          omega
        · rw [htop i (by omega) (by omega)]
          simp
end PL

namespace PL
open PySem PySem.Spec PyProof.Rows L2 -- the layers
/-! numbers at their places -/
def sp_number_at (ad : Ad) : QF := fun ds S P E => ∃ l t e, ∃ n p : Int, ds = [chD l t e, .int n, .int p] ∧ Sz l t e ∧ (Ch l t e → 0 ≤ n → n ≤ 200 → 0 ≤ p → ∀ x, (vl l t e n.toNat 0)[p.toNat]? = some x → P (.str (tx x)) S) ∧ (Ch l t e → 0 ≤ n → n ≤ 200 → ¬ (0 ≤ p ∧ p < cn t e n.toNat 0) → E { cls := ad.Missing } S) ∧ (¬ (Ch l t e ∧ 0 ≤ n ∧ n ≤ 200) → E { cls := ad.NotAllowed } S)
def sp_place_of (ad : Ad) : QF := fun ds S P E => ∃ l t e x, ds = [chD l t e, .str (tx x)] ∧ Sz l t e ∧ x.length ≤ 1000 ∧ (Ch l t e → Nm l x → Va l t e x → ∀ k : Nat, (vl l t e x.length 0)[k]? = some x → P (.int k) S) ∧ (Ch l t e → Nm l x → ¬ Va l t e x → E { cls := ad.Missing } S) ∧ (¬ (Ch l t e ∧ Nm l x) → E { cls := ad.NotAllowed } S)

/-! ## r number_at -/
abbrev N_number_at : List Str := ["checker", "length", "place", "rows", "left", "state", "found", "at"]
def r_number_at_t1 (ad : Ad) : QS := (sRet (qVar 6))
def r_number_at_b1 (ad : Ad) : QS := (sSeq (sAug 2 (oIp fun i j => i - j) (qBin oIx (qBin oIx (qVar 3) (qVar 4)) (qBin oIx (qBin oIx (qBin oIx (qVar 0) (qC (.int 1))) (qVar 5)) (qVar 7))))
    (sAug 7 (oIp fun i j => i + j) (qC (.int 1))))
def r_number_at_b2 (ad : Ad) : QS := (sSeq (sSet 7 (qC (.int 0)))
    (sSeq (sWhile (qTB (qBin oGe (qVar 2) (qBin oIx (qBin oIx (qVar 3) (qVar 4)) (qBin oIx (qBin oIx (qBin oIx (qVar 0) (qC (.int 1))) (qVar 5)) (qVar 7))))) (r_number_at_b1 ad))
    (sPar 6 5 (qCons (qBin oAdd (qVar 6) (qBin oIx (qBin oIx (qVar 0) (qC (.int 0))) (qVar 7))) (qCons (qBin oIx (qBin oIx (qBin oIx (qVar 0) (qC (.int 1))) (qVar 5)) (qVar 7)) qNil)))))
def r_number_at_t2 (ad : Ad) : QS := (sSeq (sFor (iRange3 (qCons (qBin oSub (qVar 1) (qC (.int 1))) (qCons (qNeg (qC (.int 1))) (qCons (qNeg (qC (.int 1))) qNil)))) (gN 4) (r_number_at_b2 ad))
    (r_number_at_t1 ad))
def r_number_at_t3 (ad : Ad) : QS := (sSeq (sAsg (qTup (qCons (qC (.int 0)) (qCons (qC (.str "")) qNil))) (gU 2 (gC (gN 5) (gC (gN 6) gE))))
    (r_number_at_t2 ad))
def r_number_at_t4 (ad : Ad) : QS := (sSeq (sIf (qNotT (qTB (qChain oLe oLt (qC (.int 0)) (qVar 2) (qBin oIx (qBin oIx (qVar 3) (qVar 1)) (qC (.int 0)))))) (sRaise ad.Missing) sNext)
    (r_number_at_t3 ad))
def r_number_at_t5 (ad : Ad) : QS := (sSeq (sSet 3 (qCall (sp_rows_of ad) (qCons (qVar 0) (qCons (qVar 1) qNil))))
    (r_number_at_t4 ad))
def r_number_at_t6 (ad : Ad) : QS := (sSeq (sDrop (qCall (sp_check_length ad) (qCons (qVar 1) qNil)))
    (r_number_at_t5 ad))
def r_number_at (ad : Ad) : QS := (sSeq (sDrop (qCall (sp_check_checker ad) (qCons (qVar 0) qNil)))
    (r_number_at_t6 ad))
/-! end -/

/-! ## r place_of -/
abbrev N_place_of : List Str := ["checker", "text", "rows", "state", "place", "k", "sign", "at", "after"]
def r_place_of_t1 (ad : Ad) : QS := (sRet (qVar 4))
def r_place_of_t2 (ad : Ad) : QS := (sSeq (sIf (qTB (qBin oEq (qBin oIx (qBin oIx (qVar 0) (qC (.int 2))) (qVar 3)) (qC (.int 0)))) (sRaise ad.Missing) sNext)
    (r_place_of_t1 ad))
def r_place_of_b1 (ad : Ad) : QS := (sSeq (sSet 7 (qMethS mIndexS (qBin oIx (qVar 0) (qC (.int 0))) (qCons (qVar 6) qNil)))
    (sSeq (sAug 4 (oIp fun i j => i + j) (qCB cSum (qCons (qLc (iSeq (qSl (qBin oIx (qBin oIx (qVar 0) (qC (.int 1))) (qVar 3)) qNo (qPart (qVar 7)))) (gN 8) qYes (qBin oIx (qBin oIx (qVar 2) (qBin oSub (qBin oSub (qCB cLen (qCons (qVar 1) qNil)) (qVar 5)) (qC (.int 1)))) (qVar 8)) [8]) qNil)))
    (sSet 3 (qBin oIx (qBin oIx (qBin oIx (qVar 0) (qC (.int 1))) (qVar 3)) (qVar 7)))))
def r_place_of_t3 (ad : Ad) : QS := (sSeq (sFor (iEnumQ (qCons (qVar 1) qNil)) (gU 2 (gC (gN 5) (gC (gN 6) gE))) (r_place_of_b1 ad))
    (r_place_of_t2 ad))
def r_place_of_t4 (ad : Ad) : QS := (sSeq (sAsg (qTup (qCons (qC (.int 0)) (qCons (qC (.int 0)) qNil))) (gU 2 (gC (gN 3) (gC (gN 4) gE))))
    (r_place_of_t3 ad))
def r_place_of_t5 (ad : Ad) : QS := (sSeq (sSet 2 (qCall (sp_rows_of ad) (qCons (qVar 0) (qCons (qCB cLen (qCons (qVar 1) qNil)) qNil))))
    (r_place_of_t4 ad))
def r_place_of (ad : Ad) : QS := (sSeq (sDrop (qCall (sp_check_number ad) (qCons (qVar 0) (qCons (qVar 1) qNil))))
    (r_place_of_t5 ad))
/-! end -/

variable {ad : Ad}
theorem chk_go {l : List Nat} {t : Tb} {e : List Int} {S : Sto} {P : PD} {E : PX} (hz : Sz l t e) (h1 : Ch l t e → P .non S) (h2 : ¬ Ch l t e → E { cls := ad.NotAllowed } S) : sp_check_checker ad [chD l t e] S P E := ⟨l, t, e, rfl, hz, h1, h2⟩
theorem len_go {n : Int} {S : Sto} {P : PD} {E : PX} (h1 : 0 ≤ n → n ≤ 200 → P .non S) (h2 : ¬ (0 ≤ n ∧ n ≤ 200) → E { cls := ad.NotAllowed } S) : sp_check_length ad [.int n] S P E := ⟨n, rfl, h1, h2⟩
theorem rows_at {S : Sto} {p : Addr} {t : Tb} {e : List Int} {n k s : Nat} {P : PD} (R : RowsAt S p t e n) (hk : k ≤ n) (hs : s < t.length) (h : P (.int (cn t e k s)) S) : ∃ xs, S p = some (.lst xs) ∧ ∃ d, atI xs (k : Int) = some d ∧ oIx d (.int (s : Int)) S P := by
  obtain ⟨as, ha, e1, hR⟩ := R
  have hm : k < as.length := by omega
  refine ⟨_, e1, .ref as[k], ?_, ?_⟩
  · rw [atI_lt, List.getElem?_map, List.getElem?_eq_getElem hm]
    rfl
  · rw [oIx_l]
    exact ⟨_, hR k _ (List.getElem?_eq_getElem hm), _, cr_get hs, h⟩
theorem RowsAt.sub {S S' : Sto} {p : Addr} {t : Tb} {e : List Int} {n : Nat} (R : RowsAt S p t e n) (h : Sub S S') : RowsAt S' p t e n := by
  obtain ⟨as, ha, e1, hR⟩ := R
  exact ⟨as, ha, h _ _ e1, fun j a z => h _ _ (hR j a z)⟩
/-- a cell of the moves -/
theorem cell_at {S : Sto} {l : List Nat} {t : Tb} {e : List Int} {s j : Nat} {P : PD} (hc : Ch l t e) (hs : s < t.length) (hj : j < l.length) (h : P (.int ((c t s j).toNat : Int)) S) : ∃ d, atI (t.map rD) (s : Int) = some d ∧ oIx d (.int (j : Int)) S P := by
  refine ⟨_, atr hs, ?_⟩
  unfold rD
  rw [oIx_t]
  refine ⟨_, hc.atc hs hj, ?_⟩
  have := hc.crng hs hj
  rw [show ((c t s j).toNat : Int) = c t s j by omega] at h
  exact h
section
variable {l : List Nat} {t : Tb} {e : List Int} {S2 : Sto} {P : QN} {n st i nn : Nat} {pr : Addr} {w y : List Nat} {pl : Int} {z4 z7 : Option D}
theorem nb2_ok (hc : Ch l t e) (R : RowsAt S2 pr t e n) (hn : nn + 1 ≤ n) (hst : st < t.length) (hw : w.length ≤ 300) (hp0 : 0 ≤ pl) (hy : (vl l t e (nn + 1) st)[pl.toNat]? = some y)
    (h : ∀ (a : Nat) (pl' : Int) (y' : List Nat), a < l.length → 0 ≤ pl' → y = l.getD a 0 :: y' → (vl l t e nn (c t st a).toNat)[pl'.toNat]? = some y' → P.nx [some (chD l t e), some (.int n), some (.int pl'), some (.ref pr), some (.int nn), some (.int ((c t st a).toNat : Int)), some (.str (tx (w ++ [l.getD a 0]))), some (.int a)] S2) :
    r_number_at_b2 ad P [some (chD l t e), some (.int n), some (.int pl), some (.ref pr), some (.int nn), some (.int st), some (.str (tx w)), z7] S2 := by
  have hhi := hc.sg.hi
  simp only [r_number_at_b2, sWhile, sSeq, sNext_eq, sBreak_eq, sCont_eq, sDrop, sRet, sRetN, sIf, sSet, sPar, sAsg, sRaise, gN, gE, gC, gU, gS, qVar, qC, qBin, qTB, qChain, qNot, qAnd, qOr, bd_bl, qNotT, qAndT, qOrT, qTru, tru_non, tru_bl, tru_int, tru_str, tru_tup, tru_rol, tru_ref, qIf, qNil, qCons, qTup, qLst, qCB, cInt_i, cInt2_ii, cToInt_i, cToInt_b, cLen_s, cLen_t, cLen_r, cLen_l, cTuple_t, cTuple_r, cTuple_l, cList_t, cList_r, cList_l, qNeg, oI_ii, oAdd_ii, oSub, oMul, oDiv, oMod, oPow, oEq, oNe, oEqW_ii, oEqW_ss, oEqW_bb, oLt, oLe, oGt, oGe, oOrd_ii, oOrd_ss, oIx_t, oIx_r, oIx_l, oIx_s, qNo, qPart, qSl, oSl_t, oSl_r, oSl_l, oSl_s, qMeth, mAppend_1, iSeq, iRange1, iRange2, qCall, endsF, startD, List.map_cons, List.map_nil, List.length_cons, List.length_nil, List.length_map, List.cons_append, List.nil_append, List.replicate, List.getElem?_cons_zero, List.getElem?_cons_succ, List.set_cons_zero, List.set_cons_succ, Nat.reduceAdd, Nat.reduceSub, if_true, if_false, id, ups_same, ex_lst, ex_lst2, ex_some, atI_0, atI_1, atI_2, atI_3, ixN_0, ixN_1, ixN_21, oIx_p]
  refine ⟨fun m loc S' => ∃ (a : Nat) (p : Int), m = l.length - a ∧ a < l.length ∧ loc = [some (chD l t e), some (.int n), some (.int p), some (.ref pr), some (.int nn), some (.int st), some (.str (tx w)), some (.int a)] ∧ S' = S2 ∧ 0 ≤ p ∧ (vt l t e nn st a)[p.toNat]? = some y, ⟨_, 0, pl, rfl, by have := hc.sg.lo; omega, rfl, rfl, hp0, hy⟩, ?_⟩
  rintro m loc S' ⟨a, p, rfl, ha, rfl, rfl, hp, hv⟩
  have hg := vt_get hc hst ha hv
  have ep : ((p.toNat : Nat) : Int) = p := by omega
  rw [ep] at hg
  simp only [chD, tD, sSeq, sNext_eq, sBreak_eq, sCont_eq, sDrop, sRet, sRetN, sIf, sSet, sPar, sAsg, sRaise, gN, gE, gC, gU, gS, qVar, qC, qBin, qTB, qChain, qNot, qAnd, qOr, bd_bl, qNotT, qAndT, qOrT, qTru, tru_non, tru_bl, tru_int, tru_str, tru_tup, tru_rol, tru_ref, qIf, qNil, qCons, qTup, qLst, qCB, cInt_i, cInt2_ii, cToInt_i, cToInt_b, cLen_s, cLen_t, cLen_r, cLen_l, cTuple_t, cTuple_r, cTuple_l, cList_t, cList_r, cList_l, qNeg, oI_ii, oAdd_ii, oSub, oMul, oDiv, oMod, oPow, oEq, oNe, oEqW_ii, oEqW_ss, oEqW_bb, oLt, oLe, oGt, oGe, oOrd_ii, oOrd_ss, oIx_t, oIx_r, oIx_l, oIx_s, qNo, qPart, qSl, oSl_t, oSl_r, oSl_l, oSl_s, qMeth, mAppend_1, iSeq, iRange1, iRange2, qCall, endsF, startD, List.map_cons, List.map_nil, List.length_cons, List.length_nil, List.length_map, List.cons_append, List.nil_append, List.replicate, List.getElem?_cons_zero, List.getElem?_cons_succ, List.set_cons_zero, List.set_cons_succ, Nat.reduceAdd, Nat.reduceSub, if_true, if_false, id, ups_same, ex_lst, ex_lst2, ex_some, atI_0, atI_1, atI_2, atI_3, ixN_0, ixN_1, ixN_21, oIx_p]
  have R0 := R
  obtain ⟨as, hal, e1, hR⟩ := R
  have hm : nn < as.length := by omega
  refine ⟨_, e1, .ref as[nn], by rw [atI_lt, List.getElem?_map, List.getElem?_eq_getElem hm]; rfl, ?_⟩
  refine cell_at hc hst ha ?_
  rw [oIx_l]
  refine ⟨_, hR nn _ (List.getElem?_eq_getElem hm), _, cr_get (step_lt hc hst ha), ?_⟩
  simp only [sSeq, sNext_eq, sBreak_eq, sCont_eq, sDrop, sRet, sRetN, sIf, sSet, sPar, sAsg, sRaise, gN, gE, gC, gU, gS, qVar, qC, qBin, qTB, qChain, qNot, qAnd, qOr, bd_bl, qNotT, qAndT, qOrT, qTru, tru_non, tru_bl, tru_int, tru_str, tru_tup, tru_rol, tru_ref, qIf, qNil, qCons, qTup, qLst, qCB, cInt_i, cInt2_ii, cToInt_i, cToInt_b, cLen_s, cLen_t, cLen_r, cLen_l, cTuple_t, cTuple_r, cTuple_l, cList_t, cList_r, cList_l, qNeg, oI_ii, oAdd_ii, oSub, oMul, oDiv, oMod, oPow, oEq, oNe, oEqW_ii, oEqW_ss, oEqW_bb, oLt, oLe, oGt, oGe, oOrd_ii, oOrd_ss, oIx_t, oIx_r, oIx_l, oIx_s, qNo, qPart, qSl, oSl_t, oSl_r, oSl_l, oSl_s, qMeth, mAppend_1, iSeq, iRange1, iRange2, qCall, endsF, startD, List.map_cons, List.map_nil, List.length_cons, List.length_nil, List.length_map, List.cons_append, List.nil_append, List.replicate, List.getElem?_cons_zero, List.getElem?_cons_succ, List.set_cons_zero, List.set_cons_succ, Nat.reduceAdd, Nat.reduceSub, if_true, if_false, id, ups_same, ex_lst, ex_lst2, ex_some, atI_0, atI_1, atI_2, atI_3, ixN_0, ixN_1, ixN_21, oIx_p]
  by_cases hlt : p < cn t e nn (c t st a).toNat
  · rw [decide_eq_false (by omega)]
    refine ifF rfl ?_
    obtain ⟨y', hy1, hy2⟩ := hg.1 hlt
    have eg : l.getD a 0 = l[a] := by simp [ha]
    refine ⟨szL (by rw [tx_len]; omega), l[a], ?_, ?_⟩
    · rw [tx_list, atI_lt]
      exact List.getElem?_eq_getElem ha
    · rw [show (⟨#[l[a]]⟩ : Str) = tx [l[a]] from rfl, oAdd_ss, tx_app, tx_len, tx_len]
      refine ⟨szL (by simp; omega), ?_⟩
      refine cell_at hc hst ha ?_
      have := h a p y' ha hp hy1 hy2
      rw [eg] at this
      exact this
  · rw [decide_eq_true (by omega)]
    refine ifT rfl ?_
    obtain ⟨g1, g2⟩ := hg.2 hlt
    have ha2 : a + 1 < l.length := Classical.byContradiction fun z => by
      rw [vt_end (by omega)] at g1
      cases g1
    simp only [r_number_at_b1, sAug, oIp, oI_ii, chD, tD, sSeq, sNext_eq, sBreak_eq, sCont_eq, sDrop, sRet, sRetN, sIf, sSet, sPar, sAsg, sRaise, gN, gE, gC, gU, gS, qVar, qC, qBin, qTB, qChain, qNot, qAnd, qOr, bd_bl, qNotT, qAndT, qOrT, qTru, tru_non, tru_bl, tru_int, tru_str, tru_tup, tru_rol, tru_ref, qIf, qNil, qCons, qTup, qLst, qCB, cInt_i, cInt2_ii, cToInt_i, cToInt_b, cLen_s, cLen_t, cLen_r, cLen_l, cTuple_t, cTuple_r, cTuple_l, cList_t, cList_r, cList_l, qNeg, oI_ii, oAdd_ii, oSub, oMul, oDiv, oMod, oPow, oEq, oNe, oEqW_ii, oEqW_ss, oEqW_bb, oLt, oLe, oGt, oGe, oOrd_ii, oOrd_ss, oIx_t, oIx_r, oIx_l, oIx_s, qNo, qPart, qSl, oSl_t, oSl_r, oSl_l, oSl_s, qMeth, mAppend_1, iSeq, iRange1, iRange2, qCall, endsF, startD, List.map_cons, List.map_nil, List.length_cons, List.length_nil, List.length_map, List.cons_append, List.nil_append, List.replicate, List.getElem?_cons_zero, List.getElem?_cons_succ, List.set_cons_zero, List.set_cons_succ, Nat.reduceAdd, Nat.reduceSub, if_true, if_false, id, ups_same, ex_lst, ex_lst2, ex_some, atI_0, atI_1, atI_2, atI_3, ixN_0, ixN_1, ixN_21, oIx_p]
    refine ⟨_, e1, .ref as[nn], by rw [atI_lt, List.getElem?_map, List.getElem?_eq_getElem hm]; rfl, ?_⟩
    refine cell_at hc hst ha ?_
    rw [oIx_l]
    refine ⟨_, hR nn _ (List.getElem?_eq_getElem hm), _, cr_get (step_lt hc hst ha), ?_⟩
    simp only [oI_ii, sSeq, sNext_eq, sBreak_eq, sCont_eq, sDrop, sRet, sRetN, sIf, sSet, sPar, sAsg, sRaise, gN, gE, gC, gU, gS, qVar, qC, qBin, qTB, qChain, qNot, qAnd, qOr, bd_bl, qNotT, qAndT, qOrT, qTru, tru_non, tru_bl, tru_int, tru_str, tru_tup, tru_rol, tru_ref, qIf, qNil, qCons, qTup, qLst, qCB, cInt_i, cInt2_ii, cToInt_i, cToInt_b, cLen_s, cLen_t, cLen_r, cLen_l, cTuple_t, cTuple_r, cTuple_l, cList_t, cList_r, cList_l, qNeg, oI_ii, oAdd_ii, oSub, oMul, oDiv, oMod, oPow, oEq, oNe, oEqW_ii, oEqW_ss, oEqW_bb, oLt, oLe, oGt, oGe, oOrd_ii, oOrd_ss, oIx_t, oIx_r, oIx_l, oIx_s, qNo, qPart, qSl, oSl_t, oSl_r, oSl_l, oSl_s, qMeth, mAppend_1, iSeq, iRange1, iRange2, qCall, endsF, startD, List.map_cons, List.map_nil, List.length_cons, List.length_nil, List.length_map, List.cons_append, List.nil_append, List.replicate, List.getElem?_cons_zero, List.getElem?_cons_succ, List.set_cons_zero, List.set_cons_succ, Nat.reduceAdd, Nat.reduceSub, if_true, if_false, id, ups_same, ex_lst, ex_lst2, ex_some, atI_0, atI_1, atI_2, atI_3, ixN_0, ixN_1, ixN_21, oIx_p]
    refine ⟨trivial, trivial, l.length - (a + 1), by omega, a + 1, _, rfl, ha2, ?_, by first | rfl | trivial, g2, g1⟩
    rfl
end
theorem p_number_at : ∀ ds S Q E, sp_number_at ad ds S Q E → r_number_at ad (endsF Q E) (startD N_number_at ds) S := by
  rintro ds S Q E ⟨l, t, e, n, p, rfl, hz, h1, h2, h3⟩
  simp only [r_number_at, sSeq, sNext_eq, sBreak_eq, sCont_eq, sDrop, sRet, sRetN, sIf, sSet, sPar, sAsg, sRaise, gN, gE, gC, gU, gS, qVar, qC, qBin, qTB, qChain, qNot, qAnd, qOr, bd_bl, qNotT, qAndT, qOrT, qTru, tru_non, tru_bl, tru_int, tru_str, tru_tup, tru_rol, tru_ref, qIf, qNil, qCons, qTup, qLst, qCB, cInt_i, cInt2_ii, cToInt_i, cToInt_b, cLen_s, cLen_t, cLen_r, cLen_l, cTuple_t, cTuple_r, cTuple_l, cList_t, cList_r, cList_l, qNeg, oI_ii, oAdd_ii, oSub, oMul, oDiv, oMod, oPow, oEq, oNe, oEqW_ii, oEqW_ss, oEqW_bb, oLt, oLe, oGt, oGe, oOrd_ii, oOrd_ss, oIx_t, oIx_r, oIx_l, oIx_s, qNo, qPart, qSl, oSl_t, oSl_r, oSl_l, oSl_s, qMeth, mAppend_1, iSeq, iRange1, iRange2, qCall, endsF, startD, List.map_cons, List.map_nil, List.length_cons, List.length_nil, List.length_map, List.cons_append, List.nil_append, List.replicate, List.getElem?_cons_zero, List.getElem?_cons_succ, List.set_cons_zero, List.set_cons_succ, Nat.reduceAdd, Nat.reduceSub, if_true, if_false, id, ups_same, ex_lst, ex_lst2, ex_some, atI_0, atI_1, atI_2, atI_3, ixN_0, ixN_1, ixN_21, oIx_p]
  refine chk_go hz (fun hc => ?_) fun hc => ⟨S, Sub.refl S, h3 fun z => hc z.1⟩
  simp only [r_number_at_t6, sSeq, sNext_eq, sBreak_eq, sCont_eq, sDrop, sRet, sRetN, sIf, sSet, sPar, sAsg, sRaise, gN, gE, gC, gU, gS, qVar, qC, qBin, qTB, qChain, qNot, qAnd, qOr, bd_bl, qNotT, qAndT, qOrT, qTru, tru_non, tru_bl, tru_int, tru_str, tru_tup, tru_rol, tru_ref, qIf, qNil, qCons, qTup, qLst, qCB, cInt_i, cInt2_ii, cToInt_i, cToInt_b, cLen_s, cLen_t, cLen_r, cLen_l, cTuple_t, cTuple_r, cTuple_l, cList_t, cList_r, cList_l, qNeg, oI_ii, oAdd_ii, oSub, oMul, oDiv, oMod, oPow, oEq, oNe, oEqW_ii, oEqW_ss, oEqW_bb, oLt, oLe, oGt, oGe, oOrd_ii, oOrd_ss, oIx_t, oIx_r, oIx_l, oIx_s, qNo, qPart, qSl, oSl_t, oSl_r, oSl_l, oSl_s, qMeth, mAppend_1, iSeq, iRange1, iRange2, qCall, endsF, startD, List.map_cons, List.map_nil, List.length_cons, List.length_nil, List.length_map, List.cons_append, List.nil_append, List.replicate, List.getElem?_cons_zero, List.getElem?_cons_succ, List.set_cons_zero, List.set_cons_succ, Nat.reduceAdd, Nat.reduceSub, if_true, if_false, id, ups_same, ex_lst, ex_lst2, ex_some, atI_0, atI_1, atI_2, atI_3, ixN_0, ixN_1, ixN_21, oIx_p]
  refine len_go (fun n0 n1 => ?_) fun z => ⟨S, Sub.refl S, h3 fun y => z y.2⟩
  have h1 := h1 hc n0 n1
  have h2 := h2 hc n0 n1
  obtain ⟨n, rfl⟩ := Int.eq_ofNat_of_zero_le n0
  rw [Int.toNat_natCast] at h1 h2
  have hpos := hc.pos
  simp only [r_number_at_t5, sSeq, sNext_eq, sBreak_eq, sCont_eq, sDrop, sRet, sRetN, sIf, sSet, sPar, sAsg, sRaise, gN, gE, gC, gU, gS, qVar, qC, qBin, qTB, qChain, qNot, qAnd, qOr, bd_bl, qNotT, qAndT, qOrT, qTru, tru_non, tru_bl, tru_int, tru_str, tru_tup, tru_rol, tru_ref, qIf, qNil, qCons, qTup, qLst, qCB, cInt_i, cInt2_ii, cToInt_i, cToInt_b, cLen_s, cLen_t, cLen_r, cLen_l, cTuple_t, cTuple_r, cTuple_l, cList_t, cList_r, cList_l, qNeg, oI_ii, oAdd_ii, oSub, oMul, oDiv, oMod, oPow, oEq, oNe, oEqW_ii, oEqW_ss, oEqW_bb, oLt, oLe, oGt, oGe, oOrd_ii, oOrd_ss, oIx_t, oIx_r, oIx_l, oIx_s, qNo, qPart, qSl, oSl_t, oSl_r, oSl_l, oSl_s, qMeth, mAppend_1, iSeq, iRange1, iRange2, qCall, endsF, startD, List.map_cons, List.map_nil, List.length_cons, List.length_nil, List.length_map, List.cons_append, List.nil_append, List.replicate, List.getElem?_cons_zero, List.getElem?_cons_succ, List.set_cons_zero, List.set_cons_succ, Nat.reduceAdd, Nat.reduceSub, if_true, if_false, id, ups_same, ex_lst, ex_lst2, ex_some, atI_0, atI_1, atI_2, atI_3, ixN_0, ixN_1, ixN_21, oIx_p]
  refine ⟨l, t, e, n, rfl, hc, by omega, fun pr S2 s2 R => ?_⟩
  simp only [r_number_at_t4, sSeq, sNext_eq, sBreak_eq, sCont_eq, sDrop, sRet, sRetN, sIf, sSet, sPar, sAsg, sRaise, gN, gE, gC, gU, gS, qVar, qC, qBin, qTB, qChain, qNot, qAnd, qOr, bd_bl, qNotT, qAndT, qOrT, qTru, tru_non, tru_bl, tru_int, tru_str, tru_tup, tru_rol, tru_ref, qIf, qNil, qCons, qTup, qLst, qCB, cInt_i, cInt2_ii, cToInt_i, cToInt_b, cLen_s, cLen_t, cLen_r, cLen_l, cTuple_t, cTuple_r, cTuple_l, cList_t, cList_r, cList_l, qNeg, oI_ii, oAdd_ii, oSub, oMul, oDiv, oMod, oPow, oEq, oNe, oEqW_ii, oEqW_ss, oEqW_bb, oLt, oLe, oGt, oGe, oOrd_ii, oOrd_ss, oIx_t, oIx_r, oIx_l, oIx_s, qNo, qPart, qSl, oSl_t, oSl_r, oSl_l, oSl_s, qMeth, mAppend_1, iSeq, iRange1, iRange2, qCall, endsF, startD, List.map_cons, List.map_nil, List.length_cons, List.length_nil, List.length_map, List.cons_append, List.nil_append, List.replicate, List.getElem?_cons_zero, List.getElem?_cons_succ, List.set_cons_zero, List.set_cons_succ, Nat.reduceAdd, Nat.reduceSub, if_true, if_false, id, ups_same, ex_lst, ex_lst2, ex_some, atI_0, atI_1, atI_2, atI_3, ixN_0, ixN_1, ixN_21, oIx_p]
  by_cases c1 : 0 ≤ p
  · rw [decide_eq_true c1]
    refine rows_at (s := 0) R (Nat.le_refl n) (by omega) ?_
    simp only [sSeq, sNext_eq, sBreak_eq, sCont_eq, sDrop, sRet, sRetN, sIf, sSet, sPar, sAsg, sRaise, gN, gE, gC, gU, gS, qVar, qC, qBin, qTB, qChain, qNot, qAnd, qOr, bd_bl, qNotT, qAndT, qOrT, qTru, tru_non, tru_bl, tru_int, tru_str, tru_tup, tru_rol, tru_ref, qIf, qNil, qCons, qTup, qLst, qCB, cInt_i, cInt2_ii, cToInt_i, cToInt_b, cLen_s, cLen_t, cLen_r, cLen_l, cTuple_t, cTuple_r, cTuple_l, cList_t, cList_r, cList_l, qNeg, oI_ii, oAdd_ii, oSub, oMul, oDiv, oMod, oPow, oEq, oNe, oEqW_ii, oEqW_ss, oEqW_bb, oLt, oLe, oGt, oGe, oOrd_ii, oOrd_ss, oIx_t, oIx_r, oIx_l, oIx_s, qNo, qPart, qSl, oSl_t, oSl_r, oSl_l, oSl_s, qMeth, mAppend_1, iSeq, iRange1, iRange2, qCall, endsF, startD, List.map_cons, List.map_nil, List.length_cons, List.length_nil, List.length_map, List.cons_append, List.nil_append, List.replicate, List.getElem?_cons_zero, List.getElem?_cons_succ, List.set_cons_zero, List.set_cons_succ, Nat.reduceAdd, Nat.reduceSub, if_true, if_false, id, ups_same, ex_lst, ex_lst2, ex_some, atI_0, atI_1, atI_2, atI_3, ixN_0, ixN_1, ixN_21, oIx_p]
    by_cases c2 : p < cn t e n 0
    · simp only [decide_eq_true c2, sSeq, sNext_eq, sBreak_eq, sCont_eq, sDrop, sRet, sRetN, sIf, sSet, sPar, sAsg, sRaise, gN, gE, gC, gU, gS, qVar, qC, qBin, qTB, qChain, qNot, qAnd, qOr, bd_bl, qNotT, qAndT, qOrT, qTru, tru_non, tru_bl, tru_int, tru_str, tru_tup, tru_rol, tru_ref, qIf, qNil, qCons, qTup, qLst, qCB, cInt_i, cInt2_ii, cToInt_i, cToInt_b, cLen_s, cLen_t, cLen_r, cLen_l, cTuple_t, cTuple_r, cTuple_l, cList_t, cList_r, cList_l, qNeg, oI_ii, oAdd_ii, oSub, oMul, oDiv, oMod, oPow, oEq, oNe, oEqW_ii, oEqW_ss, oEqW_bb, oLt, oLe, oGt, oGe, oOrd_ii, oOrd_ss, oIx_t, oIx_r, oIx_l, oIx_s, qNo, qPart, qSl, oSl_t, oSl_r, oSl_l, oSl_s, qMeth, mAppend_1, iSeq, iRange1, iRange2, qCall, endsF, startD, List.map_cons, List.map_nil, List.length_cons, List.length_nil, List.length_map, List.cons_append, List.nil_append, List.replicate, List.getElem?_cons_zero, List.getElem?_cons_succ, List.set_cons_zero, List.set_cons_succ, Nat.reduceAdd, Nat.reduceSub, if_true, if_false, id, ups_same, ex_lst, ex_lst2, ex_some, atI_0, atI_1, atI_2, atI_3, ixN_0, ixN_1, ixN_21, oIx_p, Bool.not_true, Bool.false_eq_true]
      have hlen := vl_len hc n 0 (by omega)
      have hlt : p.toNat < (vl l t e n 0).length := by omega
      have hx := List.getElem?_eq_getElem hlt
      have hq := h1 c1 _ hx
      have hxl : ((vl l t e n 0)[p.toNat]).length = n := ((vl_mem hc n 0 _ (by omega)).mp (List.getElem_mem hlt)).1
      generalize (vl l t e n 0)[p.toNat] = x at hx hq hxl
      simp only [r_number_at_t3, sSeq, sNext_eq, sBreak_eq, sCont_eq, sDrop, sRet, sRetN, sIf, sSet, sPar, sAsg, sRaise, gN, gE, gC, gU, gS, qVar, qC, qBin, qTB, qChain, qNot, qAnd, qOr, bd_bl, qNotT, qAndT, qOrT, qTru, tru_non, tru_bl, tru_int, tru_str, tru_tup, tru_rol, tru_ref, qIf, qNil, qCons, qTup, qLst, qCB, cInt_i, cInt2_ii, cToInt_i, cToInt_b, cLen_s, cLen_t, cLen_r, cLen_l, cTuple_t, cTuple_r, cTuple_l, cList_t, cList_r, cList_l, qNeg, oI_ii, oAdd_ii, oSub, oMul, oDiv, oMod, oPow, oEq, oNe, oEqW_ii, oEqW_ss, oEqW_bb, oLt, oLe, oGt, oGe, oOrd_ii, oOrd_ss, oIx_t, oIx_r, oIx_l, oIx_s, qNo, qPart, qSl, oSl_t, oSl_r, oSl_l, oSl_s, qMeth, mAppend_1, iSeq, iRange1, iRange2, qCall, endsF, startD, List.map_cons, List.map_nil, List.length_cons, List.length_nil, List.length_map, List.cons_append, List.nil_append, List.replicate, List.getElem?_cons_zero, List.getElem?_cons_succ, List.set_cons_zero, List.set_cons_succ, Nat.reduceAdd, Nat.reduceSub, if_true, if_false, id, ups_same, ex_lst, ex_lst2, ex_some, atI_0, atI_1, atI_2, atI_3, ixN_0, ixN_1, ixN_21, oIx_p]
      refine ⟨by decide, _, .inl rfl, rfl, ?_⟩
      unfold r_number_at_t2 sSeq
      dsimp only
      refine ⟨rfl, for_intro ?_⟩
      simp only [iRange3, sSeq, sNext_eq, sBreak_eq, sCont_eq, sDrop, sRet, sRetN, sIf, sSet, sPar, sAsg, sRaise, gN, gE, gC, gU, gS, qVar, qC, qBin, qTB, qChain, qNot, qAnd, qOr, bd_bl, qNotT, qAndT, qOrT, qTru, tru_non, tru_bl, tru_int, tru_str, tru_tup, tru_rol, tru_ref, qIf, qNil, qCons, qTup, qLst, qCB, cInt_i, cInt2_ii, cToInt_i, cToInt_b, cLen_s, cLen_t, cLen_r, cLen_l, cTuple_t, cTuple_r, cTuple_l, cList_t, cList_r, cList_l, qNeg, oI_ii, oAdd_ii, oSub, oMul, oDiv, oMod, oPow, oEq, oNe, oEqW_ii, oEqW_ss, oEqW_bb, oLt, oLe, oGt, oGe, oOrd_ii, oOrd_ss, oIx_t, oIx_r, oIx_l, oIx_s, qNo, qPart, qSl, oSl_t, oSl_r, oSl_l, oSl_s, qMeth, mAppend_1, iSeq, iRange1, iRange2, qCall, endsF, startD, List.map_cons, List.map_nil, List.length_cons, List.length_nil, List.length_map, List.cons_append, List.nil_append, List.replicate, List.getElem?_cons_zero, List.getElem?_cons_succ, List.set_cons_zero, List.set_cons_succ, Nat.reduceAdd, Nat.reduceSub, if_true, if_false, id, ups_same, ex_lst, ex_lst2, ex_some, atI_0, atI_1, atI_2, atI_3, ixN_0, ixN_1, ixN_21, oIx_p]
      refine ⟨trivial, _, _, _, _, rfl, RgC.neg (by omega) (by omega) (by omega) (by omega), ?_⟩
      refine ⟨fun i loc S' => ∃ (st : Nat) (pl : Int) (w y : List Nat) (z4 z7 : Option D), loc = [some (chD l t e), some (.int n), some (.int pl), some (.ref pr), z4, some (.int st), some (.str (tx w)), z7] ∧ S' = S2 ∧ st < t.length ∧ w.length = i ∧ 0 ≤ pl ∧ x = w ++ y ∧ (vl l t e (n - i) st)[pl.toNat]? = some y, ⟨0, p, [], x, none, none, rfl, rfl, by omega, rfl, c1, rfl, hx⟩, ?_, ?_⟩
      · rintro i d loc S' hi ⟨st, pl, w, y, z4, z7, rfl, rfl, hst, hw, hpl, hxy, hv⟩
        have hi0 : i < (rangeC ((n : Int) - 1) (-1) ((n : Int) - 1 - -1).toNat).length := (List.getElem?_eq_some_iff.mp hi).1
        have hi1 : i < n := by
          have : (rangeC ((n : Int) - 1) (-1) ((n : Int) - 1 - -1).toNat).length = n := by unfold rangeC; rw [List.length_map, List.length_range]; omega
          omega
        obtain rfl : d = .int ((n - 1 - i : Nat) : Int) := by
          have h2 : (rangeC ((n : Int) - 1) (-1) ((n : Int) - 1 - -1).toNat)[i]? = some d := hi
          unfold rangeC at h2
          rw [List.getElem?_map, List.getElem?_range (by omega)] at h2
          have h3 : D.int ((n : Int) - 1 + (i : Int) * (-1)) = d := Option.some.inj h2
          rw [← h3]
          congr 1
          omega
        refine ⟨trivial, ?_⟩
        simp only [sSeq, sNext_eq, sBreak_eq, sCont_eq, sDrop, sRet, sRetN, sIf, sSet, sPar, sAsg, sRaise, gN, gE, gC, gU, gS, qVar, qC, qBin, qTB, qChain, qNot, qAnd, qOr, bd_bl, qNotT, qAndT, qOrT, qTru, tru_non, tru_bl, tru_int, tru_str, tru_tup, tru_rol, tru_ref, qIf, qNil, qCons, qTup, qLst, qCB, cInt_i, cInt2_ii, cToInt_i, cToInt_b, cLen_s, cLen_t, cLen_r, cLen_l, cTuple_t, cTuple_r, cTuple_l, cList_t, cList_r, cList_l, qNeg, oI_ii, oAdd_ii, oSub, oMul, oDiv, oMod, oPow, oEq, oNe, oEqW_ii, oEqW_ss, oEqW_bb, oLt, oLe, oGt, oGe, oOrd_ii, oOrd_ss, oIx_t, oIx_r, oIx_l, oIx_s, qNo, qPart, qSl, oSl_t, oSl_r, oSl_l, oSl_s, qMeth, mAppend_1, iSeq, iRange1, iRange2, qCall, endsF, startD, List.map_cons, List.map_nil, List.length_cons, List.length_nil, List.length_map, List.cons_append, List.nil_append, List.replicate, List.getElem?_cons_zero, List.getElem?_cons_succ, List.set_cons_zero, List.set_cons_succ, Nat.reduceAdd, Nat.reduceSub, if_true, if_false, id, ups_same, ex_lst, ex_lst2, ex_some, atI_0, atI_1, atI_2, atI_3, ixN_0, ixN_1, ixN_21, oIx_p]
        obtain ⟨nn, hnn⟩ : ∃ nn, n - i = nn + 1 := ⟨n - i - 1, by omega⟩
        rw [hnn] at hv
        rw [show n - 1 - i = nn by omega]
        refine nb2_ok hc R (by omega) hst (by omega) hpl hv fun a pl' y' ha hp' hy' hv' => ?_
        refine ⟨_, pl', w ++ [l.getD a 0], y', _, _, rfl, rfl, step_lt hc hst ha, by rw [List.length_append, hw]; rfl, hp', by rw [hxy, hy']; simp, ?_⟩
        rw [show n - (i + 1) = nn by omega]
        exact hv'
      · rintro loc S' ⟨st, pl, w, y, z4, z7, rfl, rfl, hst, hw, hpl, hxy, hv⟩
        have e9 : (Src.vals (rangeC ((n : Int) - 1) (-1) ((n : Int) - 1 - -1).toNat)).items.length = n := by
          show (rangeC _ _ _).length = n
          unfold rangeC
          rw [List.length_map, List.length_range]
          omega
        rw [e9] at hw hv
        refine ⟨trivial, ?_⟩
        simp only [r_number_at_t1, sSeq, sNext_eq, sBreak_eq, sCont_eq, sDrop, sRet, sRetN, sIf, sSet, sPar, sAsg, sRaise, gN, gE, gC, gU, gS, qVar, qC, qBin, qTB, qChain, qNot, qAnd, qOr, bd_bl, qNotT, qAndT, qOrT, qTru, tru_non, tru_bl, tru_int, tru_str, tru_tup, tru_rol, tru_ref, qIf, qNil, qCons, qTup, qLst, qCB, cInt_i, cInt2_ii, cToInt_i, cToInt_b, cLen_s, cLen_t, cLen_r, cLen_l, cTuple_t, cTuple_r, cTuple_l, cList_t, cList_r, cList_l, qNeg, oI_ii, oAdd_ii, oSub, oMul, oDiv, oMod, oPow, oEq, oNe, oEqW_ii, oEqW_ss, oEqW_bb, oLt, oLe, oGt, oGe, oOrd_ii, oOrd_ss, oIx_t, oIx_r, oIx_l, oIx_s, qNo, qPart, qSl, oSl_t, oSl_r, oSl_l, oSl_s, qMeth, mAppend_1, iSeq, iRange1, iRange2, qCall, endsF, startD, List.map_cons, List.map_nil, List.length_cons, List.length_nil, List.length_map, List.cons_append, List.nil_append, List.replicate, List.getElem?_cons_zero, List.getElem?_cons_succ, List.set_cons_zero, List.set_cons_succ, Nat.reduceAdd, Nat.reduceSub, if_true, if_false, id, ups_same, ex_lst, ex_lst2, ex_some, atI_0, atI_1, atI_2, atI_3, ixN_0, ixN_1, ixN_21, oIx_p]
        have hy : y = [] := by
          have := congrArg List.length hxy
          rw [List.length_append] at this
          exact List.length_eq_zero_iff.mp (by omega)
        rw [hy, List.append_nil] at hxy
        rw [← hxy]
        exact ⟨S, s2, hq⟩
    · simp only [decide_eq_false c2, sSeq, sNext_eq, sBreak_eq, sCont_eq, sDrop, sRet, sRetN, sIf, sSet, sPar, sAsg, sRaise, gN, gE, gC, gU, gS, qVar, qC, qBin, qTB, qChain, qNot, qAnd, qOr, bd_bl, qNotT, qAndT, qOrT, qTru, tru_non, tru_bl, tru_int, tru_str, tru_tup, tru_rol, tru_ref, qIf, qNil, qCons, qTup, qLst, qCB, cInt_i, cInt2_ii, cToInt_i, cToInt_b, cLen_s, cLen_t, cLen_r, cLen_l, cTuple_t, cTuple_r, cTuple_l, cList_t, cList_r, cList_l, qNeg, oI_ii, oAdd_ii, oSub, oMul, oDiv, oMod, oPow, oEq, oNe, oEqW_ii, oEqW_ss, oEqW_bb, oLt, oLe, oGt, oGe, oOrd_ii, oOrd_ss, oIx_t, oIx_r, oIx_l, oIx_s, qNo, qPart, qSl, oSl_t, oSl_r, oSl_l, oSl_s, qMeth, mAppend_1, iSeq, iRange1, iRange2, qCall, endsF, startD, List.map_cons, List.map_nil, List.length_cons, List.length_nil, List.length_map, List.cons_append, List.nil_append, List.replicate, List.getElem?_cons_zero, List.getElem?_cons_succ, List.set_cons_zero, List.set_cons_succ, Nat.reduceAdd, Nat.reduceSub, if_true, if_false, id, ups_same, ex_lst, ex_lst2, ex_some, atI_0, atI_1, atI_2, atI_3, ixN_0, ixN_1, ixN_21, oIx_p, Bool.not_false]
      exact ⟨S, s2, h2 fun z => c2 z.2⟩
  · rw [decide_eq_false c1]
    simp only [sSeq, sNext_eq, sBreak_eq, sCont_eq, sDrop, sRet, sRetN, sIf, sSet, sPar, sAsg, sRaise, gN, gE, gC, gU, gS, qVar, qC, qBin, qTB, qChain, qNot, qAnd, qOr, bd_bl, qNotT, qAndT, qOrT, qTru, tru_non, tru_bl, tru_int, tru_str, tru_tup, tru_rol, tru_ref, qIf, qNil, qCons, qTup, qLst, qCB, cInt_i, cInt2_ii, cToInt_i, cToInt_b, cLen_s, cLen_t, cLen_r, cLen_l, cTuple_t, cTuple_r, cTuple_l, cList_t, cList_r, cList_l, qNeg, oI_ii, oAdd_ii, oSub, oMul, oDiv, oMod, oPow, oEq, oNe, oEqW_ii, oEqW_ss, oEqW_bb, oLt, oLe, oGt, oGe, oOrd_ii, oOrd_ss, oIx_t, oIx_r, oIx_l, oIx_s, qNo, qPart, qSl, oSl_t, oSl_r, oSl_l, oSl_s, qMeth, mAppend_1, iSeq, iRange1, iRange2, qCall, endsF, startD, List.map_cons, List.map_nil, List.length_cons, List.length_nil, List.length_map, List.cons_append, List.nil_append, List.replicate, List.getElem?_cons_zero, List.getElem?_cons_succ, List.set_cons_zero, List.set_cons_succ, Nat.reduceAdd, Nat.reduceSub, if_true, if_false, id, ups_same, ex_lst, ex_lst2, ex_some, atI_0, atI_1, atI_2, atI_3, ixN_0, ixN_1, ixN_21, oIx_p, Bool.not_false]
    exact ⟨S, s2, h2 fun z => c1 z.1⟩
theorem take_range {r : List Int} {a : Nat} (h : a ≤ r.length) (f : Int → Int) : (r.take a).map f = (List.range a).map fun j => f (r.getD j 0) := by
  refine List.ext_getElem (by simp; omega) fun i h1 h2 => ?_
  have hi : i < a := by simpa using h2
  simp [show i < r.length by omega]
theorem enum_get {xs : List D} {i : Nat} {d : D} (e : (enumD xs)[i]? = some d) : ∃ a, xs[i]? = some a ∧ d = D.tup [.int (i : Nat), a] := by
  unfold enumD at e
  rw [List.getElem?_map, List.getElem?_zipIdx] at e
  cases hx : xs[i]? with
  | none => rw [hx] at e; cases e
  | some a =>
    rw [hx] at e
    exact ⟨a, rfl, by simpa using (Option.some.inj e).symm⟩
theorem p_place_of : ∀ ds S Q E, sp_place_of ad ds S Q E → r_place_of ad (endsF Q E) (startD N_place_of ds) S := by
  rintro ds S Q E ⟨l, t, e, x, rfl, hz, hx, h1, h2, h3⟩
  simp only [r_place_of, sSeq, sNext_eq, sBreak_eq, sCont_eq, sDrop, sRet, sRetN, sIf, sSet, sPar, sAsg, sRaise, gN, gE, gC, gU, gS, qVar, qC, qBin, qTB, qChain, qNot, qAnd, qOr, bd_bl, qNotT, qAndT, qOrT, qTru, tru_non, tru_bl, tru_int, tru_str, tru_tup, tru_rol, tru_ref, qIf, qNil, qCons, qTup, qLst, qCB, cInt_i, cInt2_ii, cToInt_i, cToInt_b, cLen_s, cLen_t, cLen_r, cLen_l, cTuple_t, cTuple_r, cTuple_l, cList_t, cList_r, cList_l, qNeg, oI_ii, oAdd_ii, oSub, oMul, oDiv, oMod, oPow, oEq, oNe, oEqW_ii, oEqW_ss, oEqW_bb, oLt, oLe, oGt, oGe, oOrd_ii, oOrd_ss, oIx_t, oIx_r, oIx_l, oIx_s, qNo, qPart, qSl, oSl_t, oSl_r, oSl_l, oSl_s, qMeth, mAppend_1, iSeq, iRange1, iRange2, qCall, endsF, startD, List.map_cons, List.map_nil, List.length_cons, List.length_nil, List.length_map, List.cons_append, List.nil_append, List.replicate, List.getElem?_cons_zero, List.getElem?_cons_succ, List.set_cons_zero, List.set_cons_succ, Nat.reduceAdd, Nat.reduceSub, if_true, if_false, id, ups_same, ex_lst, ex_lst2, ex_some, atI_0, atI_1, atI_2, atI_3, ixN_0, ixN_1, ixN_21, oIx_p]
  refine ⟨l, t, e, x, rfl, hz, hx, fun hc hm => ?_, fun z => ⟨S, Sub.refl S, h3 z⟩⟩
  have h1 := h1 hc hm
  have h2 := h2 hc hm
  have hxl := hm.1
  have hxm := hm.2
  have hpos := hc.pos
  have hhi := hc.sg.hi
  simp only [r_place_of_t5, tx_len, sSeq, sNext_eq, sBreak_eq, sCont_eq, sDrop, sRet, sRetN, sIf, sSet, sPar, sAsg, sRaise, gN, gE, gC, gU, gS, qVar, qC, qBin, qTB, qChain, qNot, qAnd, qOr, bd_bl, qNotT, qAndT, qOrT, qTru, tru_non, tru_bl, tru_int, tru_str, tru_tup, tru_rol, tru_ref, qIf, qNil, qCons, qTup, qLst, qCB, cInt_i, cInt2_ii, cToInt_i, cToInt_b, cLen_s, cLen_t, cLen_r, cLen_l, cTuple_t, cTuple_r, cTuple_l, cList_t, cList_r, cList_l, qNeg, oI_ii, oAdd_ii, oSub, oMul, oDiv, oMod, oPow, oEq, oNe, oEqW_ii, oEqW_ss, oEqW_bb, oLt, oLe, oGt, oGe, oOrd_ii, oOrd_ss, oIx_t, oIx_r, oIx_l, oIx_s, qNo, qPart, qSl, oSl_t, oSl_r, oSl_l, oSl_s, qMeth, mAppend_1, iSeq, iRange1, iRange2, qCall, endsF, startD, List.map_cons, List.map_nil, List.length_cons, List.length_nil, List.length_map, List.cons_append, List.nil_append, List.replicate, List.getElem?_cons_zero, List.getElem?_cons_succ, List.set_cons_zero, List.set_cons_succ, Nat.reduceAdd, Nat.reduceSub, if_true, if_false, id, ups_same, ex_lst, ex_lst2, ex_some, atI_0, atI_1, atI_2, atI_3, ixN_0, ixN_1, ixN_21, oIx_p]
  refine ⟨szL (by omega), l, t, e, x.length, rfl, hc, by omega, fun pr S2 s2 R => ?_⟩
  simp only [r_place_of_t4, sSeq, sNext_eq, sBreak_eq, sCont_eq, sDrop, sRet, sRetN, sIf, sSet, sPar, sAsg, sRaise, gN, gE, gC, gU, gS, qVar, qC, qBin, qTB, qChain, qNot, qAnd, qOr, bd_bl, qNotT, qAndT, qOrT, qTru, tru_non, tru_bl, tru_int, tru_str, tru_tup, tru_rol, tru_ref, qIf, qNil, qCons, qTup, qLst, qCB, cInt_i, cInt2_ii, cToInt_i, cToInt_b, cLen_s, cLen_t, cLen_r, cLen_l, cTuple_t, cTuple_r, cTuple_l, cList_t, cList_r, cList_l, qNeg, oI_ii, oAdd_ii, oSub, oMul, oDiv, oMod, oPow, oEq, oNe, oEqW_ii, oEqW_ss, oEqW_bb, oLt, oLe, oGt, oGe, oOrd_ii, oOrd_ss, oIx_t, oIx_r, oIx_l, oIx_s, qNo, qPart, qSl, oSl_t, oSl_r, oSl_l, oSl_s, qMeth, mAppend_1, iSeq, iRange1, iRange2, qCall, endsF, startD, List.map_cons, List.map_nil, List.length_cons, List.length_nil, List.length_map, List.cons_append, List.nil_append, List.replicate, List.getElem?_cons_zero, List.getElem?_cons_succ, List.set_cons_zero, List.set_cons_succ, Nat.reduceAdd, Nat.reduceSub, if_true, if_false, id, ups_same, ex_lst, ex_lst2, ex_some, atI_0, atI_1, atI_2, atI_3, ixN_0, ixN_1, ixN_21, oIx_p]
  refine ⟨by decide, _, .inl rfl, rfl, ?_⟩
  unfold r_place_of_t3 sSeq
  dsimp only
  refine ⟨rfl, for_intro ?_⟩
  simp only [iEnumQ, sSeq, sNext_eq, sBreak_eq, sCont_eq, sDrop, sRet, sRetN, sIf, sSet, sPar, sAsg, sRaise, gN, gE, gC, gU, gS, qVar, qC, qBin, qTB, qChain, qNot, qAnd, qOr, bd_bl, qNotT, qAndT, qOrT, qTru, tru_non, tru_bl, tru_int, tru_str, tru_tup, tru_rol, tru_ref, qIf, qNil, qCons, qTup, qLst, qCB, cInt_i, cInt2_ii, cToInt_i, cToInt_b, cLen_s, cLen_t, cLen_r, cLen_l, cTuple_t, cTuple_r, cTuple_l, cList_t, cList_r, cList_l, qNeg, oI_ii, oAdd_ii, oSub, oMul, oDiv, oMod, oPow, oEq, oNe, oEqW_ii, oEqW_ss, oEqW_bb, oLt, oLe, oGt, oGe, oOrd_ii, oOrd_ss, oIx_t, oIx_r, oIx_l, oIx_s, qNo, qPart, qSl, oSl_t, oSl_r, oSl_l, oSl_s, qMeth, mAppend_1, iSeq, iRange1, iRange2, qCall, endsF, startD, List.map_cons, List.map_nil, List.length_cons, List.length_nil, List.length_map, List.cons_append, List.nil_append, List.replicate, List.getElem?_cons_zero, List.getElem?_cons_succ, List.set_cons_zero, List.set_cons_succ, Nat.reduceAdd, Nat.reduceSub, if_true, if_false, id, ups_same, ex_lst, ex_lst2, ex_some, atI_0, atI_1, atI_2, atI_3, ixN_0, ixN_1, ixN_21, oIx_p]
  refine ⟨_, _, rfl, .inr (.inr (.inl ⟨_, rfl, rfl⟩)), ?_⟩
  rw [chars_tx]
  refine ⟨fun i loc S' => ∃ (st : Nat) (pl : Int) (z5 z6 z7 : Option D), loc = [some (chD l t e), some (.str (tx x)), some (.ref pr), some (.int st), some (.int pl), z5, z6, z7, none] ∧ Sub S2 S' ∧ st < t.length ∧ st = run l t 0 (x.take i) ∧ pl + plc l t e (x.drop i) st = plc l t e x 0, ⟨0, 0, none, none, none, rfl, Sub.refl _, by omega, rfl, by simp⟩, ?_, ?_⟩
  · rintro i d loc S' hi ⟨st, pl, z5, z6, z7, rfl, sub, hst, hrun, hpl⟩
    obtain ⟨dd, hd, rfl⟩ := enum_get (show (enumD (x.map cD))[i]? = some d from hi)
    obtain ⟨a, ha, rfl⟩ := get_emb hd
    have hi2 : i < x.length := (List.getElem?_eq_some_iff.mp ha).1
    have hal : a ∈ l := hxm a (List.mem_of_getElem? ha)
    have hj := idx_lt hal
    refine ⟨.inr (.inr (.inl ⟨_, rfl, by rw [chars_tx]⟩)), ?_⟩
    try simp only [sSeq, sNext_eq, sBreak_eq, sCont_eq, sDrop, sRet, sRetN, sIf, sSet, sPar, sAsg, sRaise, gN, gE, gC, gU, gS, qVar, qC, qBin, qTB, qChain, qNot, qAnd, qOr, bd_bl, qNotT, qAndT, qOrT, qTru, tru_non, tru_bl, tru_int, tru_str, tru_tup, tru_rol, tru_ref, qIf, qNil, qCons, qTup, qLst, qCB, cInt_i, cInt2_ii, cToInt_i, cToInt_b, cLen_s, cLen_t, cLen_r, cLen_l, cTuple_t, cTuple_r, cTuple_l, cList_t, cList_r, cList_l, qNeg, oI_ii, oAdd_ii, oSub, oMul, oDiv, oMod, oPow, oEq, oNe, oEqW_ii, oEqW_ss, oEqW_bb, oLt, oLe, oGt, oGe, oOrd_ii, oOrd_ss, oIx_t, oIx_r, oIx_l, oIx_s, qNo, qPart, qSl, oSl_t, oSl_r, oSl_l, oSl_s, qMeth, mAppend_1, iSeq, iRange1, iRange2, qCall, endsF, startD, List.map_cons, List.map_nil, List.length_cons, List.length_nil, List.length_map, List.cons_append, List.nil_append, List.replicate, List.getElem?_cons_zero, List.getElem?_cons_succ, List.set_cons_zero, List.set_cons_succ, Nat.reduceAdd, Nat.reduceSub, if_true, if_false, id, ups_same, ex_lst, ex_lst2, ex_some, atI_0, atI_1, atI_2, atI_3, ixN_0, ixN_1, ixN_21, oIx_p]
    refine ⟨_, .inl rfl, rfl, ?_⟩
    simp only [r_place_of_b1, chD, tD, cD, qMethS, mIndexS, tx_list, sSeq, sNext_eq, sBreak_eq, sCont_eq, sDrop, sRet, sRetN, sIf, sSet, sPar, sAsg, sRaise, gN, gE, gC, gU, gS, qVar, qC, qBin, qTB, qChain, qNot, qAnd, qOr, bd_bl, qNotT, qAndT, qOrT, qTru, tru_non, tru_bl, tru_int, tru_str, tru_tup, tru_rol, tru_ref, qIf, qNil, qCons, qTup, qLst, qCB, cInt_i, cInt2_ii, cToInt_i, cToInt_b, cLen_s, cLen_t, cLen_r, cLen_l, cTuple_t, cTuple_r, cTuple_l, cList_t, cList_r, cList_l, qNeg, oI_ii, oAdd_ii, oSub, oMul, oDiv, oMod, oPow, oEq, oNe, oEqW_ii, oEqW_ss, oEqW_bb, oLt, oLe, oGt, oGe, oOrd_ii, oOrd_ss, oIx_t, oIx_r, oIx_l, oIx_s, qNo, qPart, qSl, oSl_t, oSl_r, oSl_l, oSl_s, qMeth, mAppend_1, iSeq, iRange1, iRange2, qCall, endsF, startD, List.map_cons, List.map_nil, List.length_cons, List.length_nil, List.length_map, List.cons_append, List.nil_append, List.replicate, List.getElem?_cons_zero, List.getElem?_cons_succ, List.set_cons_zero, List.set_cons_succ, Nat.reduceAdd, Nat.reduceSub, if_true, if_false, id, ups_same, ex_lst, ex_lst2, ex_some, atI_0, atI_1, atI_2, atI_3, ixN_0, ixN_1, ixN_21, oIx_p]
    refine ⟨trivial, a, rfl, hal, fun j hja => ?_⟩
    obtain rfl := idx_uniq hc.sg.asc hja
    have hxd : x.drop i = a :: x.drop (i + 1) := by
      rw [List.drop_eq_getElem_cons hi2]
      have := (List.getElem?_eq_some_iff.mp ha).2
      rw [this]
    have hlen : (x.drop (i + 1)).length = x.length - i - 1 := by rw [List.length_drop]; omega
    simp only [sAug, oIp, cSum, sSeq, sNext_eq, sBreak_eq, sCont_eq, sDrop, sRet, sRetN, sIf, sSet, sPar, sAsg, sRaise, gN, gE, gC, gU, gS, qVar, qC, qBin, qTB, qChain, qNot, qAnd, qOr, bd_bl, qNotT, qAndT, qOrT, qTru, tru_non, tru_bl, tru_int, tru_str, tru_tup, tru_rol, tru_ref, qIf, qNil, qCons, qTup, qLst, qCB, cInt_i, cInt2_ii, cToInt_i, cToInt_b, cLen_s, cLen_t, cLen_r, cLen_l, cTuple_t, cTuple_r, cTuple_l, cList_t, cList_r, cList_l, qNeg, oI_ii, oAdd_ii, oSub, oMul, oDiv, oMod, oPow, oEq, oNe, oEqW_ii, oEqW_ss, oEqW_bb, oLt, oLe, oGt, oGe, oOrd_ii, oOrd_ss, oIx_t, oIx_r, oIx_l, oIx_s, qNo, qPart, qSl, oSl_t, oSl_r, oSl_l, oSl_s, qMeth, mAppend_1, iSeq, iRange1, iRange2, qCall, endsF, startD, List.map_cons, List.map_nil, List.length_cons, List.length_nil, List.length_map, List.cons_append, List.nil_append, List.replicate, List.getElem?_cons_zero, List.getElem?_cons_succ, List.set_cons_zero, List.set_cons_succ, Nat.reduceAdd, Nat.reduceSub, if_true, if_false, id, ups_same, ex_lst, ex_lst2, ex_some, atI_0, atI_1, atI_2, atI_3, ixN_0, ixN_1, ixN_21, oIx_p]
    refine lc_mapT (.vals (((t.getD st []).take (idx l a)).map D.int)) ((t.getD st []).take (idx l a)) D.int (fun v => .int (cn t e (x.length - i - 1) v.toNat)) (S1 := S') (fun Q hQ => ?_) ok_vals rfl (by have := row_len hc hst; simp; omega) (fun v S3 C hv s3 hC => ?_) fun p4 S4 hp4 s4 e4 => ?_
    · simp only [sSeq, sNext_eq, sBreak_eq, sCont_eq, sDrop, sRet, sRetN, sIf, sSet, sPar, sAsg, sRaise, gN, gE, gC, gU, gS, qVar, qC, qBin, qTB, qChain, qNot, qAnd, qOr, bd_bl, qNotT, qAndT, qOrT, qTru, tru_non, tru_bl, tru_int, tru_str, tru_tup, tru_rol, tru_ref, qIf, qNil, qCons, qTup, qLst, qCB, cInt_i, cInt2_ii, cToInt_i, cToInt_b, cLen_s, cLen_t, cLen_r, cLen_l, cTuple_t, cTuple_r, cTuple_l, cList_t, cList_r, cList_l, qNeg, oI_ii, oAdd_ii, oSub, oMul, oDiv, oMod, oPow, oEq, oNe, oEqW_ii, oEqW_ss, oEqW_bb, oLt, oLe, oGt, oGe, oOrd_ii, oOrd_ss, oIx_t, oIx_r, oIx_l, oIx_s, qNo, qPart, qSl, oSl_t, oSl_r, oSl_l, oSl_s, qMeth, mAppend_1, iSeq, iRange1, iRange2, qCall, endsF, startD, List.map_cons, List.map_nil, List.length_cons, List.length_nil, List.length_map, List.cons_append, List.nil_append, List.replicate, List.getElem?_cons_zero, List.getElem?_cons_succ, List.set_cons_zero, List.set_cons_succ, Nat.reduceAdd, Nat.reduceSub, if_true, if_false, id, ups_same, ex_lst, ex_lst2, ex_some, atI_0, atI_1, atI_2, atI_3, ixN_0, ixN_1, ixN_21, oIx_p]
      refine ⟨_, atr hst, ?_⟩
      simp only [rD, sSeq, sNext_eq, sBreak_eq, sCont_eq, sDrop, sRet, sRetN, sIf, sSet, sPar, sAsg, sRaise, gN, gE, gC, gU, gS, qVar, qC, qBin, qTB, qChain, qNot, qAnd, qOr, bd_bl, qNotT, qAndT, qOrT, qTru, tru_non, tru_bl, tru_int, tru_str, tru_tup, tru_rol, tru_ref, qIf, qNil, qCons, qTup, qLst, qCB, cInt_i, cInt2_ii, cToInt_i, cToInt_b, cLen_s, cLen_t, cLen_r, cLen_l, cTuple_t, cTuple_r, cTuple_l, cList_t, cList_r, cList_l, qNeg, oI_ii, oAdd_ii, oSub, oMul, oDiv, oMod, oPow, oEq, oNe, oEqW_ii, oEqW_ss, oEqW_bb, oLt, oLe, oGt, oGe, oOrd_ii, oOrd_ss, oIx_t, oIx_r, oIx_l, oIx_s, qNo, qPart, qSl, oSl_t, oSl_r, oSl_l, oSl_s, qMeth, mAppend_1, iSeq, iRange1, iRange2, qCall, endsF, startD, List.map_cons, List.map_nil, List.length_cons, List.length_nil, List.length_map, List.cons_append, List.nil_append, List.replicate, List.getElem?_cons_zero, List.getElem?_cons_succ, List.set_cons_zero, List.set_cons_succ, Nat.reduceAdd, Nat.reduceSub, if_true, if_false, id, ups_same, ex_lst, ex_lst2, ex_some, atI_0, atI_1, atI_2, atI_3, ixN_0, ixN_1, ixN_21, oIx_p]
      rw [cut_take (by rw [List.length_map, row_len hc hst]; omega), ← List.map_take]
      exact hQ
    · have hvm := List.mem_of_mem_take hv
      obtain ⟨v0, v1⟩ := hc.rng _ (PL.getD_mem hst) v hvm
      obtain ⟨v, rfl⟩ := Int.eq_ofNat_of_zero_le v0
      simp only [wipeD, tx_len, sSeq, sNext_eq, sBreak_eq, sCont_eq, sDrop, sRet, sRetN, sIf, sSet, sPar, sAsg, sRaise, gN, gE, gC, gU, gS, qVar, qC, qBin, qTB, qChain, qNot, qAnd, qOr, bd_bl, qNotT, qAndT, qOrT, qTru, tru_non, tru_bl, tru_int, tru_str, tru_tup, tru_rol, tru_ref, qIf, qNil, qCons, qTup, qLst, qCB, cInt_i, cInt2_ii, cToInt_i, cToInt_b, cLen_s, cLen_t, cLen_r, cLen_l, cTuple_t, cTuple_r, cTuple_l, cList_t, cList_r, cList_l, qNeg, oI_ii, oAdd_ii, oSub, oMul, oDiv, oMod, oPow, oEq, oNe, oEqW_ii, oEqW_ss, oEqW_bb, oLt, oLe, oGt, oGe, oOrd_ii, oOrd_ss, oIx_t, oIx_r, oIx_l, oIx_s, qNo, qPart, qSl, oSl_t, oSl_r, oSl_l, oSl_s, qMeth, mAppend_1, iSeq, iRange1, iRange2, qCall, endsF, startD, List.map_cons, List.map_nil, List.length_cons, List.length_nil, List.length_map, List.cons_append, List.nil_append, List.replicate, List.getElem?_cons_zero, List.getElem?_cons_succ, List.set_cons_zero, List.set_cons_succ, Nat.reduceAdd, Nat.reduceSub, if_true, if_false, id, ups_same, ex_lst, ex_lst2, ex_some, atI_0, atI_1, atI_2, atI_3, ixN_0, ixN_1, ixN_21, oIx_p]
      refine ⟨szL (by omega), trivial, trivial, ?_⟩
      have e1 : (x.length : Int) - (i : Int) - 1 = ((x.length - i - 1 : Nat) : Int) := by omega
      rw [e1]
      refine rows_at (R.sub (sub.trans s3)) (by omega) (by omega) ?_
      exact hC S3 (Sub.refl _)
    · refine ⟨.ref p4, ((t.getD st []).take (idx l a)).map fun v => cn t e (x.length - i - 1) v.toNat, rfl, .inr ⟨p4, rfl, by rw [e4, List.map_map]; rfl⟩, ?_⟩
      try simp only [oI_ii, sSeq, sNext_eq, sBreak_eq, sCont_eq, sDrop, sRet, sRetN, sIf, sSet, sPar, sAsg, sRaise, gN, gE, gC, gU, gS, qVar, qC, qBin, qTB, qChain, qNot, qAnd, qOr, bd_bl, qNotT, qAndT, qOrT, qTru, tru_non, tru_bl, tru_int, tru_str, tru_tup, tru_rol, tru_ref, qIf, qNil, qCons, qTup, qLst, qCB, cInt_i, cInt2_ii, cToInt_i, cToInt_b, cLen_s, cLen_t, cLen_r, cLen_l, cTuple_t, cTuple_r, cTuple_l, cList_t, cList_r, cList_l, qNeg, oI_ii, oAdd_ii, oSub, oMul, oDiv, oMod, oPow, oEq, oNe, oEqW_ii, oEqW_ss, oEqW_bb, oLt, oLe, oGt, oGe, oOrd_ii, oOrd_ss, oIx_t, oIx_r, oIx_l, oIx_s, qNo, qPart, qSl, oSl_t, oSl_r, oSl_l, oSl_s, qMeth, mAppend_1, iSeq, iRange1, iRange2, qCall, endsF, startD, List.map_cons, List.map_nil, List.length_cons, List.length_nil, List.length_map, List.cons_append, List.nil_append, List.replicate, List.getElem?_cons_zero, List.getElem?_cons_succ, List.set_cons_zero, List.set_cons_succ, Nat.reduceAdd, Nat.reduceSub, if_true, if_false, id, ups_same, ex_lst, ex_lst2, ex_some, atI_0, atI_1, atI_2, atI_3, ixN_0, ixN_1, ixN_21, oIx_p]
      refine ⟨trivial, cell_at hc hst hj ?_⟩
      refine ⟨(c t st (idx l a)).toNat, _, _, _, _, rfl, sub.trans s4, step_lt hc hst hj, ?_, ?_⟩
      · have : x.take (i + 1) = x.take i ++ [a] := by rw [List.take_succ, ha]; rfl
        rw [this, run_snoc, ← hrun]
      · rw [hxd, show plc l t e (a :: x.drop (i + 1)) st = ((List.range (idx l a)).map fun j => cn t e (x.drop (i + 1)).length (c t st j).toNat).sum + plc l t e (x.drop (i + 1)) (c t st (idx l a)).toNat from rfl, hlen] at hpl
        rw [take_range (by rw [row_len hc hst]; omega)]
        have e2 : ((List.range (idx l a)).map fun j => cn t e (x.length - i - 1) ((t.getD st []).getD j 0).toNat) = (List.range (idx l a)).map fun j => cn t e (x.length - i - 1) (c t st j).toNat := rfl
        rw [e2]
        omega
  · rintro loc S' ⟨st, pl, z5, z6, z7, rfl, sub, hst, hrun, hpl⟩
    have e9 : (Src.on (fun S' => zSeq S' (.str (tx x)) (x.map cD)) (enumD (x.map cD))).items.length = x.length := by
      show (enumD (x.map cD)).length = _
      unfold enumD
      simp
    refine ⟨.inr (.inr (.inl ⟨_, rfl, by rw [chars_tx]⟩)), ?_⟩
    rw [e9, List.take_length] at hrun
    rw [e9, List.drop_length] at hpl
    rw [show plc l t e [] st = 0 from rfl] at hpl
    simp only [r_place_of_t2, chD, sSeq, sNext_eq, sBreak_eq, sCont_eq, sDrop, sRet, sRetN, sIf, sSet, sPar, sAsg, sRaise, gN, gE, gC, gU, gS, qVar, qC, qBin, qTB, qChain, qNot, qAnd, qOr, bd_bl, qNotT, qAndT, qOrT, qTru, tru_non, tru_bl, tru_int, tru_str, tru_tup, tru_rol, tru_ref, qIf, qNil, qCons, qTup, qLst, qCB, cInt_i, cInt2_ii, cToInt_i, cToInt_b, cLen_s, cLen_t, cLen_r, cLen_l, cTuple_t, cTuple_r, cTuple_l, cList_t, cList_r, cList_l, qNeg, oI_ii, oAdd_ii, oSub, oMul, oDiv, oMod, oPow, oEq, oNe, oEqW_ii, oEqW_ss, oEqW_bb, oLt, oLe, oGt, oGe, oOrd_ii, oOrd_ss, oIx_t, oIx_r, oIx_l, oIx_s, qNo, qPart, qSl, oSl_t, oSl_r, oSl_l, oSl_s, qMeth, mAppend_1, iSeq, iRange1, iRange2, qCall, endsF, startD, List.map_cons, List.map_nil, List.length_cons, List.length_nil, List.length_map, List.cons_append, List.nil_append, List.replicate, List.getElem?_cons_zero, List.getElem?_cons_succ, List.set_cons_zero, List.set_cons_succ, Nat.reduceAdd, Nat.reduceSub, if_true, if_false, id, ups_same, ex_lst, ex_lst2, ex_some, atI_0, atI_1, atI_2, atI_3, ixN_0, ixN_1, ixN_21, oIx_p]
    have hel := hc.len
    have hste : st < e.length := by omega
    refine ⟨.int e[st], by rw [atI_lt, List.getElem?_map, List.getElem?_eq_getElem hste]; rfl, ?_⟩
    simp only [sSeq, sNext_eq, sBreak_eq, sCont_eq, sDrop, sRet, sRetN, sIf, sSet, sPar, sAsg, sRaise, gN, gE, gC, gU, gS, qVar, qC, qBin, qTB, qChain, qNot, qAnd, qOr, bd_bl, qNotT, qAndT, qOrT, qTru, tru_non, tru_bl, tru_int, tru_str, tru_tup, tru_rol, tru_ref, qIf, qNil, qCons, qTup, qLst, qCB, cInt_i, cInt2_ii, cToInt_i, cToInt_b, cLen_s, cLen_t, cLen_r, cLen_l, cTuple_t, cTuple_r, cTuple_l, cList_t, cList_r, cList_l, qNeg, oI_ii, oAdd_ii, oSub, oMul, oDiv, oMod, oPow, oEq, oNe, oEqW_ii, oEqW_ss, oEqW_bb, oLt, oLe, oGt, oGe, oOrd_ii, oOrd_ss, oIx_t, oIx_r, oIx_l, oIx_s, qNo, qPart, qSl, oSl_t, oSl_r, oSl_l, oSl_s, qMeth, mAppend_1, iSeq, iRange1, iRange2, qCall, endsF, startD, List.map_cons, List.map_nil, List.length_cons, List.length_nil, List.length_map, List.cons_append, List.nil_append, List.replicate, List.getElem?_cons_zero, List.getElem?_cons_succ, List.set_cons_zero, List.set_cons_succ, Nat.reduceAdd, Nat.reduceSub, if_true, if_false, id, ups_same, ex_lst, ex_lst2, ex_some, atI_0, atI_1, atI_2, atI_3, ixN_0, ixN_1, ixN_21, oIx_p]
    have hg : e.getD st 0 = e[st] := by simp [hste]
    have hb := hc.bit e[st] (List.getElem_mem hste)
    by_cases hv : e[st] = 0
    · refine ifT (decide_eq_true hv) ⟨S, s2.trans sub, h2 fun z => ?_⟩
      unfold Va at z
      rw [← hrun, hg, hv] at z
      exact absurd z (by decide)
    · refine ifF (decide_eq_false hv) ?_
      have hv1 : e[st] = 1 := by rcases hb with h | h; exact absurd h hv; exact h
      have hva : Va l t e x := by
        unfold Va
        rw [← hrun, hg, hv1]
      obtain ⟨g1, g2⟩ := plc_get hc x 0 (by omega) hxm hva
      simp only [r_place_of_t1, sSeq, sNext_eq, sBreak_eq, sCont_eq, sDrop, sRet, sRetN, sIf, sSet, sPar, sAsg, sRaise, gN, gE, gC, gU, gS, qVar, qC, qBin, qTB, qChain, qNot, qAnd, qOr, bd_bl, qNotT, qAndT, qOrT, qTru, tru_non, tru_bl, tru_int, tru_str, tru_tup, tru_rol, tru_ref, qIf, qNil, qCons, qTup, qLst, qCB, cInt_i, cInt2_ii, cToInt_i, cToInt_b, cLen_s, cLen_t, cLen_r, cLen_l, cTuple_t, cTuple_r, cTuple_l, cList_t, cList_r, cList_l, qNeg, oI_ii, oAdd_ii, oSub, oMul, oDiv, oMod, oPow, oEq, oNe, oEqW_ii, oEqW_ss, oEqW_bb, oLt, oLe, oGt, oGe, oOrd_ii, oOrd_ss, oIx_t, oIx_r, oIx_l, oIx_s, qNo, qPart, qSl, oSl_t, oSl_r, oSl_l, oSl_s, qMeth, mAppend_1, iSeq, iRange1, iRange2, qCall, endsF, startD, List.map_cons, List.map_nil, List.length_cons, List.length_nil, List.length_map, List.cons_append, List.nil_append, List.replicate, List.getElem?_cons_zero, List.getElem?_cons_succ, List.set_cons_zero, List.set_cons_succ, Nat.reduceAdd, Nat.reduceSub, if_true, if_false, id, ups_same, ex_lst, ex_lst2, ex_some, atI_0, atI_1, atI_2, atI_3, ixN_0, ixN_1, ixN_21, oIx_p]
      refine ⟨S, s2.trans sub, ?_⟩
      have := h1 hva _ g2
      rw [show (((plc l t e x 0).toNat : Nat) : Int) = pl by omega] at this
      exact this
end PL

namespace PL
open PySem PySem.Spec PyProof.Rows L2 -- the layers
/-! what is shown of lists of data -/
section
variable {α : Type} {f : α → PyData} {xs : List α} {S : Sto}
theorem fines_map (h : ∀ x ∈ xs, fine (f x) = true) : fines (xs.map f) = true := by
  induction xs with
  | nil => rfl
  | cons a r ih =>
    show (fine (f a) && fines (r.map f)) = true
    rw [h a (List.mem_cons_self ..), ih fun x hx => h x (List.mem_cons_of_mem _ hx)]
    rfl
theorem szs_map {c : Nat} (h : ∀ x ∈ xs, sz (f x) ≤ c) : szs (xs.map f) ≤ (c + 2) * xs.length := by
  induction xs with
  | nil => exact Nat.le_refl _
  | cons a r ih =>
    have h1 := h a (List.mem_cons_self ..)
    have h2 := ih fun x hx => h x (List.mem_cons_of_mem _ hx)
    show sz (f a) + 2 + szs (r.map f) ≤ _
    rw [List.length_cons, Nat.mul_add]
    omega
theorem depth_map {c : Nat} (h : ∀ x ∈ xs, PyData.depth (f x) ≤ c) : PyData.depthAll (xs.map f) ≤ c := by
  induction xs with
  | nil => exact Nat.zero_le _
  | cons a r ih =>
    have h1 := h a (List.mem_cons_self ..)
    have h2 := ih fun x hx => h x (List.mem_cons_of_mem _ hx)
    show max (PyData.depth (f a)) (PyData.depthAll (r.map f)) ≤ c
    omega
theorem lay_map (h : ∀ x ∈ xs, PyData.canLay0 (f x) = true) : PyData.canLayAll0 (xs.map f) = true := by
  induction xs with
  | nil => rfl
  | cons a r ih =>
    show (PyData.canLay0 (f a) && PyData.canLayAll0 (r.map f)) = true
    rw [h a (List.mem_cons_self ..), ih fun x hx => h x (List.mem_cons_of_mem _ hx)]
    rfl
theorem dats_map {d : α → D} (h : ∀ x ∈ xs, Dat S (d x) (f x)) : Dats S (xs.map d) (xs.map f) := by
  induction xs with
  | nil => exact .nil
  | cons a r ih => exact .cons (h a (List.mem_cons_self ..)) (ih fun x hx => h x (List.mem_cons_of_mem _ hx))
theorem shaped_of {p : PyData} (h1 : PyData.canLay0 p = true) (h2 : PyData.depth p ≤ 64) : SeqAt.shaped p = true := by
  unfold SeqAt.shaped
  rw [h1, decide_eq_true h2]
  rfl
/-- a list of alike small things can be shown -/
theorem good_list {c : Nat} (h1 : ∀ x ∈ xs, fine (f x) = true) (h2 : ∀ x ∈ xs, sz (f x) ≤ c) (h3 : ∀ x ∈ xs, PyData.depth (f x) ≤ 20) (h4 : (c + 2) * xs.length ≤ 10000000) : good (.list [.list (xs.map f)]) := by
  have a1 := fines_map h1
  have a2 := szs_map h2
  have a3 := depth_map h3
  refine good_of ?_ ?_ ?_
  · show ((fines (xs.map f)) && true) = true
    rw [a1]
    rfl
  · show (szs (xs.map f) + 3) + 2 + 0 + 3 ≤ _
    omega
  · show max (PyData.depthAll (xs.map f) + 1) 0 + 1 ≤ 60
    omega
end
theorem good_int {i : Int} (h : i.natAbs.log2 < 1900) : good (.list [.int i]) := by
  refine good_of ?_ ?_ ?_
  · show (decide (i.natAbs.log2 < 1920) && true) = true
    rw [decide_eq_true (by omega)]
    rfl
  · show (i.natAbs.log2 + 2) + 2 + 0 + 3 ≤ _
    omega
  · show max 0 0 + 1 ≤ 60
    omega
theorem log_lt {i : Int} {k : Nat} (h0 : 0 ≤ i) (h : i ≤ (12 : Int) ^ k) (hk : k ≤ 200) : i.natAbs.log2 < 801 := by
  have e : ((12 ^ k : Nat) : Int) = (12 : Int) ^ k := by rw [Int.natCast_pow]; rfl
  have h1 : i.natAbs ≤ 12 ^ k := by
    rw [← e] at h
    omega
  have h2 : 12 ^ k ≤ 16 ^ 200 := Nat.le_trans (Nat.pow_le_pow_left (by decide) k) (Nat.pow_le_pow_right (by decide) hk)
  have h3 : (16 : Nat) ^ 200 < 2 ^ 801 := by decide +kernel
  exact log_of (Nat.lt_of_le_of_lt (Nat.le_trans h1 h2) h3) (by decide)
/-- two lists of alike things that are the same -/
theorem tx_fine {l : List Nat} (h : ∀ a ∈ l, a < 128) : fine (.str (tx l)) = true := by
  show (tx l).cps.toList.all _ = true
  rw [tx_list, List.all_eq_true]
  intro a ha
  exact decide_eq_true (Nat.lt_of_lt_of_le (h a ha) (by decide))
theorem tx_sz {l : List Nat} : sz (.str (tx l)) = 10 * l.length + 2 := by
  show 10 * (tx l).length + 2 = _
  rw [tx_len]
end PL

namespace K21
open PySem PySem.Spec PyProof.Rows L2 PL
def sp__law_count (ad : Ad) : QF := fun ds S P E => ∃ l t e, ∃ n : Nat, ds = [chD l t e, .int n] ∧ Ch l t e ∧ n ≤ 300 ∧ P (.int (cn t e n 0)) S
def sp__law_power (ad : Ad) : QF := fun ds S P E => ∃ b m : Nat, ds = [.int b, .int m] ∧ b ≤ 12 ∧ m ≤ 5 ∧ P (.int ((b ^ m : Nat) : Int)) S
def sp__law_listed (ad : Ad) : QF := fun ds S P E => ∃ l t e, ∃ n : Nat, ds = [chD l t e, .int n] ∧ Ch l t e ∧ n ≤ 5 ∧ l.length ^ n ≤ 130 ∧ P (.bl true) S
def sp_law (ad : Ad) : QF := fun ds S P E => ∃ ns : List Int, ds = [.rol (ns.map D.int)] ∧ ns.length ≤ 63 ∧ (∀ S', P (.bl true) S')
end K21

/-! printed by gen.py -/
namespace K21
open PySem PySem.Spec PyProof.Rows L2 PL
def topS (i : Nat) : Stmt := PySem.Challenge.pw_slipward_k21_whole_numbers_by_their_plac.main.body.getD i (.Pass ⟨0, 0, 0, 0⟩)
/-- what the top has written -/
structure Txt (K : PySem.W.Frag) (mg : Str → Option Value) (ad : Ad) : Prop where
  n_abs : mg "abs" = none
  n_all : mg "all" = none
  n_enumerate : mg "enumerate" = none
  n_int : mg "int" = none
  n_isinstance : mg "isinstance" = none
  n_len : mg "len" = none
  n_list : mg "list" = none
  n_range : mg "range" = none
  n_repr : mg "repr" = none
  n_sorted : mg "sorted" = none
  n_sum : mg "sum" = none
  n_tuple : mg "tuple" = none
  n_zip : mg "zip" = none
  c_ALL_SIGNS : ∃ t, mg "ALL_SIGNS" = some (.str "0123456789abcdefghijklmnopqrstuvwxyz" t)
  c_MAX_LENGTH : ∃ t, mg "MAX_LENGTH" = some (.int 200 t)
  c_MAX_SIGNS : ∃ t, mg "MAX_SIGNS" = some (.int 12 t)
  c_MAX_STATES : ∃ t, mg "MAX_STATES" = some (.int 60 t)
  g_BadForm : mg "BadForm" = some (.ref ad.BadForm)
  g_BadPaper : mg "BadPaper" = some (.ref ad.BadPaper)
  g_Broken : mg "Broken" = some (.ref ad.Broken)
  g_Missing : mg "Missing" = some (.ref ad.Missing)
  g_NotAllowed : mg "NotAllowed" = some (.ref ad.NotAllowed)
  g_SlipError : mg "SlipError" = some (.ref ad.SlipError)
  g_TooLarge : mg "TooLarge" = some (.ref ad.TooLarge)
  x_Missing : ExcT K mg "Missing" ad.Missing
  x_NotAllowed : ExcT K mg "NotAllowed" ad.NotAllowed
  exm : ∀ C ∈ ad.six, PySem.W.exmOne K (.ref C) (.ref ad.SlipError) = some true
  exc : ∀ C ∈ ad.six, ExcC K C
  kit : ∀ C ∈ ad.six, ∀ c ∈ ad.six, PySem.W.kitOne K (.ref C) (.ref c) = some (decide (C = c))
section
variable {P : Program} {w : World} {K : PySem.W.Frag} {mg : Str → Option Value} {base : Heap} {ad : Ad}
/-! ## is_signs -/
abbrev s_is_signs : Stmt := topS 13
abbrev N_is_signs : List Str := ["signs", "one", "other", "sign"]
theorem sc_is_signs : FnScope N_is_signs ["signs"] (defScope s_is_signs) := ⟨rfl, rfl, rfl, by decide +kernel, rfl, by decide +kernel, by decide +kernel⟩
theorem d_is_signs (T : Txt K mg ad) (f : Addr) (cdv : Value) (A : Around) (outer : List Env) (s : Shared) (H : Hp) (E : XK) (hr : Room 0 (A.deeper (envOfC "is_signs" (defScope s_is_signs) s.heap.objs.size f cdv))) :
    DB (cxOf (L2N.CX P w) P w K mg base N_is_signs "is_signs" (defScope s_is_signs) f cdv A outer s H E) (defBody s_is_signs) (r_is_signs ad) := by
  have hu := hr.units
  have hu5 := u65 hr
  have hp : PassesOwn (model P w) (A.deeper (envOfC "is_signs" (defScope s_is_signs) s.heap.objs.size f cdv)) (envOfC "is_signs" (defScope s_is_signs) s.heap.objs.size f cdv) (cxOf (L2N.CX P w) P w K mg base N_is_signs "is_signs" (defScope s_is_signs) f cdv A outer s H E).xe := passes_of (X := cxOf (L2N.CX P w) P w K mg base N_is_signs "is_signs" (defScope s_is_signs) f cdv A outer s H E) rfl
  exact (db_cons (ds_if (dw_pt (dw_or (dt_not (dt_chain od_le od_le de_int (de_callB cd_len rfl T.n_len bb_len (da_cons (de_var 0) da_nil)) (de_globI rfl T.c_MAX_SIGNS.choose_spec))) (dw_or1 (dt_not (dt_truth (de_callB (cd_all rfl) rfl T.n_all bb_all (da_cons (de_lc (own := [("sign", 3)]) rfl sc_is_signs.nd (di_seq (de_var 0)) (blkOk_by (own := [("sign", 3)]) (N := N_is_signs) (sc := defScope s_is_signs) (by decide +kernel)) (fun _ _ _ _ _ => (dgo_name (i := 3) sc_is_signs.nd rfl (by decide) (by first | exact Or.inl rfl | exact Or.inr rfl))) (fun _ _ _ _ _ => dts_nil) (fun _ _ _ _ _ => (de_cmp (od_inX hu5) (de_var 3) (de_globS rfl T.c_ALL_SIGNS.choose_spec) (by rfl)))) da_nil))))))) (db_one (ds_ret de_bl)) db_nil)
    (db_one (ds_ret (de_callB (cd_all rfl) rfl T.n_all bb_all (da_cons (de_lc (own := [("one", 1), ("other", 2)]) rfl sc_is_signs.nd (di_zip rfl T.n_zip (da_cons (de_var 0) (da_cons (de_sl (de_var 0) (do_some de_int) do_none) da_nil))) (blkOk_by (own := [("one", 1), ("other", 2)]) (N := N_is_signs) (sc := defScope s_is_signs) (by decide +kernel)) (fun _ _ _ _ _ => (dgo_tup rfl (dgos_cons (dgo_name (i := 1) sc_is_signs.nd rfl (by decide) (by first | exact Or.inl rfl | exact Or.inr rfl)) (dgos_cons (dgo_name (i := 2) sc_is_signs.nd rfl (by decide) (by first | exact Or.inl rfl | exact Or.inr rfl)) dgos_nil)))) (fun _ _ _ _ _ => dts_nil) (fun _ _ _ _ _ => (de_cmp od_lt (de_var 1) (de_var 2) (nomark _)))) da_nil)))))
/-! ## is_number -/
abbrev s_is_number : Stmt := topS 14
abbrev N_is_number : List Str := ["signs", "text", "sign"]
theorem sc_is_number : FnScope N_is_number ["signs", "text"] (defScope s_is_number) := ⟨rfl, rfl, rfl, by decide +kernel, rfl, by decide +kernel, by decide +kernel⟩
theorem d_is_number (T : Txt K mg ad) (f : Addr) (cdv : Value) (A : Around) (outer : List Env) (s : Shared) (H : Hp) (E : XK) (hr : Room 0 (A.deeper (envOfC "is_number" (defScope s_is_number) s.heap.objs.size f cdv))) :
    DB (cxOf (L2N.CX P w) P w K mg base N_is_number "is_number" (defScope s_is_number) f cdv A outer s H E) (defBody s_is_number) (r_is_number ad) := by
  have hu := hr.units
  have hu5 := u65 hr
  have hp : PassesOwn (model P w) (A.deeper (envOfC "is_number" (defScope s_is_number) s.heap.objs.size f cdv)) (envOfC "is_number" (defScope s_is_number) s.heap.objs.size f cdv) (cxOf (L2N.CX P w) P w K mg base N_is_number "is_number" (defScope s_is_number) f cdv A outer s H E).xe := passes_of (X := cxOf (L2N.CX P w) P w K mg base N_is_number "is_number" (defScope s_is_number) f cdv A outer s H E) rfl
  exact (db_one (ds_ret (de_and (de_cmp od_le (de_callB cd_len rfl T.n_len bb_len (da_cons (de_var 1) da_nil)) (de_globI rfl T.c_MAX_LENGTH.choose_spec) (nomark _)) (de_one (de_callB (cd_all rfl) rfl T.n_all bb_all (da_cons (de_lc (own := [("sign", 2)]) rfl sc_is_number.nd (di_seq (de_var 1)) (blkOk_by (own := [("sign", 2)]) (N := N_is_number) (sc := defScope s_is_number) (by decide +kernel)) (fun _ _ _ _ _ => (dgo_name (i := 2) sc_is_number.nd rfl (by decide) (by first | exact Or.inl rfl | exact Or.inr rfl))) (fun _ _ _ _ _ => dts_nil) (fun _ _ _ _ _ => (de_cmp (od_inX hu5) (de_var 2) (de_var 0) (by rfl)))) da_nil))))))
/-! ## check_checker -/
abbrev s_check_checker : Stmt := topS 15
abbrev N_check_checker : List Str := ["checker", "row", "signs", "moves", "ends", "end", "after"]
theorem sc_check_checker : FnScope N_check_checker ["checker"] (defScope s_check_checker) := ⟨rfl, rfl, rfl, by decide +kernel, rfl, by decide +kernel, by decide +kernel⟩
theorem d_check_checker (T : Txt K mg ad) (G_is_signs : GF P w K mg base "is_signs" ["signs"] 1 (sp_is_signs ad)) (f : Addr) (cdv : Value) (A : Around) (outer : List Env) (s : Shared) (H : Hp) (E : XK) (hr : Room 1 (A.deeper (envOfC "check_checker" (defScope s_check_checker) s.heap.objs.size f cdv))) :
    DB (cxOf (L2N.CX P w) P w K mg base N_check_checker "check_checker" (defScope s_check_checker) f cdv A outer s H E) (defBody s_check_checker) (r_check_checker ad) := by
  have hu := hr.units
  have hu5 := u65 hr
  have hp : PassesOwn (model P w) (A.deeper (envOfC "check_checker" (defScope s_check_checker) s.heap.objs.size f cdv)) (envOfC "check_checker" (defScope s_check_checker) s.heap.objs.size f cdv) (cxOf (L2N.CX P w) P w K mg base N_check_checker "check_checker" (defScope s_check_checker) f cdv A outer s H E).xe := passes_of (X := cxOf (L2N.CX P w) P w K mg base N_check_checker "check_checker" (defScope s_check_checker) f cdv A outer s H E) rfl
  exact (db_cons (ds_asg (de_var 0) (dg_unp rfl (dgs_cons (dg_name (i := 2) sc_check_checker.nd rfl (by first | exact Or.inl rfl | exact Or.inr rfl)) (dgs_cons (dg_name (i := 3) sc_check_checker.nd rfl (by first | exact Or.inl rfl | exact Or.inr rfl)) (dgs_cons (dg_name (i := 4) sc_check_checker.nd rfl (by first | exact Or.inl rfl | exact Or.inr rfl)) dgs_nil)))))
    (db_cons (ds_if (dw_pt (dw_or (dt_not (dt_truth (de_callF G_is_signs (hr.mono (by decide)) rfl (da_cons (de_var 2) da_nil)))) (dw_or (dt_not (dt_chain od_le od_le de_int (de_callB cd_len rfl T.n_len bb_len (da_cons (de_var 3) da_nil)) (de_globI rfl T.c_MAX_STATES.choose_spec))) (dw_or1 (dt_cmp (od_ne hu) (de_callB cd_len rfl T.n_len bb_len (da_cons (de_var 4) da_nil)) (de_callB cd_len rfl T.n_len bb_len (da_cons (de_var 3) da_nil)) (nomark _)))))) (db_one (ds_raise rfl T.x_NotAllowed rfl)) db_nil)
    (db_cons (ds_for hp rfl (di_seq (de_var 3)) (dg_name (i := 1) sc_check_checker.nd rfl (by first | exact Or.inl rfl | exact Or.inr rfl)) (db_one (ds_if (dw_pt (dw_or (dt_cmp (od_ne hu) (de_callB cd_len rfl T.n_len bb_len (da_cons (de_var 1) da_nil)) (de_callB cd_len rfl T.n_len bb_len (da_cons (de_var 2) da_nil)) (nomark _)) (dw_or1 (dt_not (dt_truth (de_callB (cd_all rfl) rfl T.n_all bb_all (da_cons (de_lc (own := [("after", 6)]) rfl sc_check_checker.nd (di_seq (de_var 1)) (blkOk_by (own := [("after", 6)]) (N := N_check_checker) (sc := defScope s_check_checker) (by decide +kernel)) (fun _ _ _ _ _ => (dgo_name (i := 6) sc_check_checker.nd rfl (by decide) (by first | exact Or.inl rfl | exact Or.inr rfl))) (fun _ _ _ _ _ => dts_nil) (fun _ _ _ _ _ => (de_chain od_le od_lt de_int (de_var 6) (de_callB cd_len rfl T.n_len bb_len (da_cons (de_var 3) da_nil))))) da_nil))))))) (db_one (ds_raise rfl T.x_NotAllowed rfl)) db_nil)))
    (db_one (ds_if (dt_not (dt_truth (de_callB (cd_all rfl) rfl T.n_all bb_all (da_cons (de_lc (own := [("end", 5)]) rfl sc_check_checker.nd (di_seq (de_var 4)) (blkOk_by (own := [("end", 5)]) (N := N_check_checker) (sc := defScope s_check_checker) (by decide +kernel)) (fun _ _ _ _ _ => (dgo_name (i := 5) sc_check_checker.nd rfl (by decide) (by first | exact Or.inl rfl | exact Or.inr rfl))) (fun _ _ _ _ _ => dts_nil) (fun _ _ _ _ _ => (de_cmp (od_inX hu5) (de_var 5) (de_tup (da_cons de_int (da_cons de_int da_nil))) (by rfl)))) da_nil)))) (db_one (ds_raise rfl T.x_NotAllowed rfl)) db_nil)))))
/-! ## check_number -/
abbrev s_check_number : Stmt := topS 16
abbrev N_check_number : List Str := ["checker", "text"]
theorem sc_check_number : FnScope N_check_number ["checker", "text"] (defScope s_check_number) := ⟨rfl, rfl, rfl, by decide +kernel, rfl, by decide +kernel, by decide +kernel⟩
theorem d_check_number (T : Txt K mg ad) (G_check_checker : GF P w K mg base "check_checker" ["checker"] 2 (sp_check_checker ad)) (G_is_number : GF P w K mg base "is_number" ["signs", "text"] 1 (sp_is_number ad)) (f : Addr) (cdv : Value) (A : Around) (outer : List Env) (s : Shared) (H : Hp) (E : XK) (hr : Room 2 (A.deeper (envOfC "check_number" (defScope s_check_number) s.heap.objs.size f cdv))) :
    DB (cxOf (L2N.CX P w) P w K mg base N_check_number "check_number" (defScope s_check_number) f cdv A outer s H E) (defBody s_check_number) (r_check_number ad) := by
  have hu := hr.units
  have hu5 := u65 hr
  have hp : PassesOwn (model P w) (A.deeper (envOfC "check_number" (defScope s_check_number) s.heap.objs.size f cdv)) (envOfC "check_number" (defScope s_check_number) s.heap.objs.size f cdv) (cxOf (L2N.CX P w) P w K mg base N_check_number "check_number" (defScope s_check_number) f cdv A outer s H E).xe := passes_of (X := cxOf (L2N.CX P w) P w K mg base N_check_number "check_number" (defScope s_check_number) f cdv A outer s H E) rfl
  exact (db_cons (ds_expr (de_callF G_check_checker (hr.mono (by decide)) rfl (da_cons (de_var 0) da_nil)))
    (db_one (ds_if (dt_not (dt_truth (de_callF G_is_number (hr.mono (by decide)) rfl (da_cons (de_ix (de_var 0) de_int) (da_cons (de_var 1) da_nil))))) (db_one (ds_raise rfl T.x_NotAllowed rfl)) db_nil)))
/-! ## check_length -/
abbrev s_check_length : Stmt := topS 18
abbrev N_check_length : List Str := ["length"]
theorem sc_check_length : FnScope N_check_length ["length"] (defScope s_check_length) := ⟨rfl, rfl, rfl, by decide +kernel, rfl, by decide +kernel, by decide +kernel⟩
theorem d_check_length (T : Txt K mg ad) (f : Addr) (cdv : Value) (A : Around) (outer : List Env) (s : Shared) (H : Hp) (E : XK) (hr : Room 0 (A.deeper (envOfC "check_length" (defScope s_check_length) s.heap.objs.size f cdv))) :
    DB (cxOf (L2N.CX P w) P w K mg base N_check_length "check_length" (defScope s_check_length) f cdv A outer s H E) (defBody s_check_length) (r_check_length ad) := by
  have hu := hr.units
  have hu5 := u65 hr
  have hp : PassesOwn (model P w) (A.deeper (envOfC "check_length" (defScope s_check_length) s.heap.objs.size f cdv)) (envOfC "check_length" (defScope s_check_length) s.heap.objs.size f cdv) (cxOf (L2N.CX P w) P w K mg base N_check_length "check_length" (defScope s_check_length) f cdv A outer s H E).xe := passes_of (X := cxOf (L2N.CX P w) P w K mg base N_check_length "check_length" (defScope s_check_length) f cdv A outer s H E) rfl
  exact (db_one (ds_if (dt_not (dt_chain od_le od_le de_int (de_var 0) (de_globI rfl T.c_MAX_LENGTH.choose_spec))) (db_one (ds_raise rfl T.x_NotAllowed rfl)) db_nil))
/-! ## rows_of -/
abbrev s_rows_of : Stmt := topS 19
abbrev N_rows_of : List Str := ["checker", "length", "rows", "_", "row", "after"]
theorem sc_rows_of : FnScope N_rows_of ["checker", "length"] (defScope s_rows_of) := ⟨rfl, rfl, rfl, by decide +kernel, rfl, by decide +kernel, by decide +kernel⟩
theorem d_rows_of (T : Txt K mg ad) (f : Addr) (cdv : Value) (A : Around) (outer : List Env) (s : Shared) (H : Hp) (E : XK) (hr : Room 0 (A.deeper (envOfC "rows_of" (defScope s_rows_of) s.heap.objs.size f cdv))) :
    DB (cxOf (L2N.CX P w) P w K mg base N_rows_of "rows_of" (defScope s_rows_of) f cdv A outer s H E) (defBody s_rows_of) (r_rows_of ad) := by
  have hu := hr.units
  have hu5 := u65 hr
  have hp : PassesOwn (model P w) (A.deeper (envOfC "rows_of" (defScope s_rows_of) s.heap.objs.size f cdv)) (envOfC "rows_of" (defScope s_rows_of) s.heap.objs.size f cdv) (cxOf (L2N.CX P w) P w K mg base N_rows_of "rows_of" (defScope s_rows_of) f cdv A outer s H E).xe := passes_of (X := cxOf (L2N.CX P w) P w K mg base N_rows_of "rows_of" (defScope s_rows_of) f cdv A outer s H E) rfl
  exact (db_cons (ds_set (i := 2) sc_rows_of.nd rfl (by first | exact Or.inl rfl | exact Or.inr rfl) (de_lst (da_cons (de_callTy cd_list rfl T.n_list bb_list (da_cons (de_ix (de_var 0) de_int) da_nil)) da_nil)))
    (db_cons (ds_for hp rfl (di_range1 rfl T.n_range (da_cons (de_var 1) da_nil)) (dg_name (i := 3) sc_rows_of.nd rfl (by first | exact Or.inl rfl | exact Or.inr rfl)) (db_one (ds_expr (de_append (de_var 2) (da_cons (de_lc (own := [("row", 4)]) rfl sc_rows_of.nd (di_seq (de_ix (de_var 0) de_int)) (blkOk_by (own := [("row", 4)]) (N := N_rows_of) (sc := defScope s_rows_of) (by decide +kernel)) (fun _ _ _ _ _ => (dgo_name (i := 4) sc_rows_of.nd rfl (by decide) (by first | exact Or.inl rfl | exact Or.inr rfl))) (fun _ _ _ _ _ => dts_nil) (fun _ _ _ _ _ => (de_callB (cd_sum rfl) rfl T.n_sum bb_sum (da_cons (de_lc (own := [("after", 5)]) rfl sc_rows_of.nd (di_seq (de_var 4)) (blkOk_by (own := [("after", 5)]) (by kernel_rfl)) (fun _ _ _ _ _ => (dgo_name (i := 5) sc_rows_of.nd rfl (by decide) (by first | exact Or.inl rfl | exact Or.inr rfl))) (fun _ _ _ _ _ => dts_nil) (fun _ _ _ _ _ => (de_ix (de_ix (de_var 2) (de_neg de_int)) (de_var 5)))) da_nil)))) da_nil)))))
    (db_one (ds_ret (de_var 2)))))
/-! ## count_valid -/
abbrev s_count_valid : Stmt := topS 20
abbrev N_count_valid : List Str := ["checker", "length"]
theorem sc_count_valid : FnScope N_count_valid ["checker", "length"] (defScope s_count_valid) := ⟨rfl, rfl, rfl, by decide +kernel, rfl, by decide +kernel, by decide +kernel⟩
theorem d_count_valid (T : Txt K mg ad) (G_check_checker : GF P w K mg base "check_checker" ["checker"] 2 (sp_check_checker ad)) (G_check_length : GF P w K mg base "check_length" ["length"] 1 (sp_check_length ad)) (G_rows_of : GF P w K mg base "rows_of" ["checker", "length"] 1 (sp_rows_of ad)) (f : Addr) (cdv : Value) (A : Around) (outer : List Env) (s : Shared) (H : Hp) (E : XK) (hr : Room 2 (A.deeper (envOfC "count_valid" (defScope s_count_valid) s.heap.objs.size f cdv))) :
    DB (cxOf (L2N.CX P w) P w K mg base N_count_valid "count_valid" (defScope s_count_valid) f cdv A outer s H E) (defBody s_count_valid) (r_count_valid ad) := by
  have hu := hr.units
  have hu5 := u65 hr
  have hp : PassesOwn (model P w) (A.deeper (envOfC "count_valid" (defScope s_count_valid) s.heap.objs.size f cdv)) (envOfC "count_valid" (defScope s_count_valid) s.heap.objs.size f cdv) (cxOf (L2N.CX P w) P w K mg base N_count_valid "count_valid" (defScope s_count_valid) f cdv A outer s H E).xe := passes_of (X := cxOf (L2N.CX P w) P w K mg base N_count_valid "count_valid" (defScope s_count_valid) f cdv A outer s H E) rfl
  exact (db_cons (ds_expr (de_callF G_check_checker (hr.mono (by decide)) rfl (da_cons (de_var 0) da_nil)))
    (db_cons (ds_expr (de_callF G_check_length (hr.mono (by decide)) rfl (da_cons (de_var 1) da_nil)))
    (db_one (ds_ret (de_ix (de_ix (de_callF G_rows_of (hr.mono (by decide)) rfl (da_cons (de_var 0) (da_cons (de_var 1) da_nil))) (de_var 1)) de_int)))))
/-! ## number_at -/
abbrev s_number_at : Stmt := topS 21
abbrev N_number_at : List Str := ["checker", "length", "place", "rows", "left", "state", "found", "at"]
theorem sc_number_at : FnScope N_number_at ["checker", "length", "place"] (defScope s_number_at) := ⟨rfl, rfl, rfl, by decide +kernel, rfl, by decide +kernel, by decide +kernel⟩
theorem d_number_at (T : Txt K mg ad) (G_check_checker : GF P w K mg base "check_checker" ["checker"] 2 (sp_check_checker ad)) (G_check_length : GF P w K mg base "check_length" ["length"] 1 (sp_check_length ad)) (G_rows_of : GF P w K mg base "rows_of" ["checker", "length"] 1 (sp_rows_of ad)) (f : Addr) (cdv : Value) (A : Around) (outer : List Env) (s : Shared) (H : Hp) (E : XK) (hr : Room 2 (A.deeper (envOfC "number_at" (defScope s_number_at) s.heap.objs.size f cdv))) :
    DB (cxOf (L2N.CX P w) P w K mg base N_number_at "number_at" (defScope s_number_at) f cdv A outer s H E) (defBody s_number_at) (r_number_at ad) := by
  have hu := hr.units
  have hu5 := u65 hr
  have hp : PassesOwn (model P w) (A.deeper (envOfC "number_at" (defScope s_number_at) s.heap.objs.size f cdv)) (envOfC "number_at" (defScope s_number_at) s.heap.objs.size f cdv) (cxOf (L2N.CX P w) P w K mg base N_number_at "number_at" (defScope s_number_at) f cdv A outer s H E).xe := passes_of (X := cxOf (L2N.CX P w) P w K mg base N_number_at "number_at" (defScope s_number_at) f cdv A outer s H E) rfl
  exact (db_cons (ds_expr (de_callF G_check_checker (hr.mono (by decide)) rfl (da_cons (de_var 0) da_nil)))
    (db_cons (ds_expr (de_callF G_check_length (hr.mono (by decide)) rfl (da_cons (de_var 1) da_nil)))
    (db_cons (ds_set (i := 3) sc_number_at.nd rfl (by first | exact Or.inl rfl | exact Or.inr rfl) (de_callF G_rows_of (hr.mono (by decide)) rfl (da_cons (de_var 0) (da_cons (de_var 1) da_nil))))
    (db_cons (ds_if (dt_not (dt_chain od_le od_lt de_int (de_var 2) (de_ix (de_ix (de_var 3) (de_var 1)) de_int))) (db_one (ds_raise rfl T.x_Missing rfl)) db_nil)
    (db_cons (ds_asg (de_tup (da_cons de_int (da_cons de_str da_nil))) (dg_unp rfl (dgs_cons (dg_name (i := 5) sc_number_at.nd rfl (by first | exact Or.inl rfl | exact Or.inr rfl)) (dgs_cons (dg_name (i := 6) sc_number_at.nd rfl (by first | exact Or.inl rfl | exact Or.inr rfl)) dgs_nil))))
    (db_cons (ds_for hp rfl (di_range3 rfl T.n_range (da_cons (de_bin od_sub (de_var 1) de_int) (da_cons (de_neg de_int) (da_cons (de_neg de_int) da_nil)))) (dg_name (i := 4) sc_number_at.nd rfl (by first | exact Or.inl rfl | exact Or.inr rfl)) (db_cons (ds_set (i := 7) sc_number_at.nd rfl (by first | exact Or.inl rfl | exact Or.inr rfl) de_int)
    (db_cons (ds_while hp (dt_cmp od_ge (de_var 2) (de_ix (de_ix (de_var 3) (de_var 4)) (de_ix (de_ix (de_ix (de_var 0) de_int) (de_var 5)) (de_var 7))) (nomark _)) (db_cons (ds_aug (i := 2) sc_number_at.nd rfl (by first | exact Or.inl rfl | exact Or.inr rfl) (de_ix (de_ix (de_var 3) (de_var 4)) (de_ix (de_ix (de_ix (de_var 0) de_int) (de_var 5)) (de_var 7))) ip_dsub)
    (db_one (ds_aug (i := 7) sc_number_at.nd rfl (by first | exact Or.inl rfl | exact Or.inr rfl) de_int ip_dadd))))
    (db_one (ds_par (i := 6) (j := 5) rfl sc_number_at.nd rfl rfl (by decide) rfl rfl (da_cons (de_bin od_add (de_var 6) (de_ix (de_ix (de_var 0) de_int) (de_var 7))) (da_cons (de_ix (de_ix (de_ix (de_var 0) de_int) (de_var 5)) (de_var 7)) da_nil)) (by rfl))))))
    (db_one (ds_ret (de_var 6)))))))))
/-! ## place_of -/
abbrev s_place_of : Stmt := topS 22
abbrev N_place_of : List Str := ["checker", "text", "rows", "state", "place", "k", "sign", "at", "after"]
theorem sc_place_of : FnScope N_place_of ["checker", "text"] (defScope s_place_of) := ⟨rfl, rfl, rfl, by decide +kernel, rfl, by decide +kernel, by decide +kernel⟩
theorem d_place_of (T : Txt K mg ad) (G_check_number : GF P w K mg base "check_number" ["checker", "text"] 3 (sp_check_number ad)) (G_rows_of : GF P w K mg base "rows_of" ["checker", "length"] 1 (sp_rows_of ad)) (f : Addr) (cdv : Value) (A : Around) (outer : List Env) (s : Shared) (H : Hp) (E : XK) (hr : Room 3 (A.deeper (envOfC "place_of" (defScope s_place_of) s.heap.objs.size f cdv))) :
    DB (cxOf (L2N.CX P w) P w K mg base N_place_of "place_of" (defScope s_place_of) f cdv A outer s H E) (defBody s_place_of) (r_place_of ad) := by
  have hu := hr.units
  have hu5 := u65 hr
  have hp : PassesOwn (model P w) (A.deeper (envOfC "place_of" (defScope s_place_of) s.heap.objs.size f cdv)) (envOfC "place_of" (defScope s_place_of) s.heap.objs.size f cdv) (cxOf (L2N.CX P w) P w K mg base N_place_of "place_of" (defScope s_place_of) f cdv A outer s H E).xe := passes_of (X := cxOf (L2N.CX P w) P w K mg base N_place_of "place_of" (defScope s_place_of) f cdv A outer s H E) rfl
  exact (db_cons (ds_expr (de_callF G_check_number (hr.mono (by decide)) rfl (da_cons (de_var 0) (da_cons (de_var 1) da_nil))))
    (db_cons (ds_set (i := 2) sc_place_of.nd rfl (by first | exact Or.inl rfl | exact Or.inr rfl) (de_callF G_rows_of (hr.mono (by decide)) rfl (da_cons (de_var 0) (da_cons (de_callB cd_len rfl T.n_len bb_len (da_cons (de_var 1) da_nil)) da_nil))))
    (db_cons (ds_asg (de_tup (da_cons de_int (da_cons de_int da_nil))) (dg_unp rfl (dgs_cons (dg_name (i := 3) sc_place_of.nd rfl (by first | exact Or.inl rfl | exact Or.inr rfl)) (dgs_cons (dg_name (i := 4) sc_place_of.nd rfl (by first | exact Or.inl rfl | exact Or.inr rfl)) dgs_nil))))
    (db_cons (ds_for hp rfl (di_enum rfl T.n_enumerate (da_cons (de_var 1) da_nil)) (dg_unp rfl (dgs_cons (dg_name (i := 5) sc_place_of.nd rfl (by first | exact Or.inl rfl | exact Or.inr rfl)) (dgs_cons (dg_name (i := 6) sc_place_of.nd rfl (by first | exact Or.inl rfl | exact Or.inr rfl)) dgs_nil))) (db_cons (ds_set (i := 7) sc_place_of.nd rfl (by first | exact Or.inl rfl | exact Or.inr rfl) (de_methS PySem.F.slot_str_index PySem.F.type_str_index ms_index (de_ix (de_var 0) de_int) (da_cons (de_var 6) da_nil)))
    (db_cons (ds_aug (i := 4) sc_place_of.nd rfl (by first | exact Or.inl rfl | exact Or.inr rfl) (de_callB (cd_sum rfl) rfl T.n_sum bb_sum (da_cons (de_lc (own := [("after", 8)]) rfl sc_place_of.nd (di_seq (de_sl (de_ix (de_ix (de_var 0) de_int) (de_var 3)) do_none (do_some (de_var 7)))) (blkOk_by (own := [("after", 8)]) (N := N_place_of) (sc := defScope s_place_of) (by decide +kernel)) (fun _ _ _ _ _ => (dgo_name (i := 8) sc_place_of.nd rfl (by decide) (by first | exact Or.inl rfl | exact Or.inr rfl))) (fun _ _ _ _ _ => dts_nil) (fun _ _ _ _ _ => (de_ix (de_ix (de_var 2) (de_bin od_sub (de_bin od_sub (de_callB cd_len rfl T.n_len bb_len (da_cons (de_var 1) da_nil)) (de_var 5)) de_int)) (de_var 8)))) da_nil)) ip_dadd)
    (db_one (ds_set (i := 3) sc_place_of.nd rfl (by first | exact Or.inl rfl | exact Or.inr rfl) (de_ix (de_ix (de_ix (de_var 0) de_int) (de_var 3)) (de_var 7)))))))
    (db_cons (ds_if (dt_cmp (od_eq hu) (de_ix (de_ix (de_var 0) de_int) (de_var 3)) de_int (nomark _)) (db_one (ds_raise rfl T.x_Missing rfl)) db_nil)
    (db_one (ds_ret (de_var 4))))))))
/-! ## _law_same -/
abbrev s__law_same : Stmt := topS 24
abbrev N__law_same : List Str := ["told", "due"]
theorem sc__law_same : FnScope N__law_same ["told", "due"] (defScope s__law_same) := ⟨rfl, rfl, rfl, by decide +kernel, rfl, by decide +kernel, by decide +kernel⟩
theorem d__law_same (T : Txt K mg ad) (f : Addr) (cdv : Value) (A : Around) (outer : List Env) (s : Shared) (H : Hp) (E : XK) (hr : Room 0 (A.deeper (envOfC "_law_same" (defScope s__law_same) s.heap.objs.size f cdv))) (hG : (A.deeper (envOfC "_law_same" (defScope s__law_same) s.heap.objs.size f cdv)).guards = some []) :
    DB (cxOf (L2N.CX P w) P w K mg base N__law_same "_law_same" (defScope s__law_same) f cdv A outer s H E) (defBody s__law_same) (r__law_same ad) := by
  have hu := hr.units
  have hu5 := u65 hr
  have hp : PassesOwn (model P w) (A.deeper (envOfC "_law_same" (defScope s__law_same) s.heap.objs.size f cdv)) (envOfC "_law_same" (defScope s__law_same) s.heap.objs.size f cdv) (cxOf (L2N.CX P w) P w K mg base N__law_same "_law_same" (defScope s__law_same) f cdv A outer s H E).xe := passes_of (X := cxOf (L2N.CX P w) P w K mg base N__law_same "_law_same" (defScope s__law_same) f cdv A outer s H E) rfl
  exact (db_one (ds_ret (de_cmp (od_eq hu) (de_callB (cd_repr hG hu) rfl T.n_repr bb_repr (da_cons (de_lst (da_cons (de_var 0) da_nil)) da_nil)) (de_callB (cd_repr hG hu) rfl T.n_repr bb_repr (da_cons (de_lst (da_cons (de_var 1) da_nil)) da_nil)) (nomark _))))
/-! ## _law_stream -/
abbrev s__law_stream : Stmt := topS 25
abbrev N__law_stream : List Str := ["script", "numbers", "cell", "rest", "k", "stirred"]
theorem sc__law_stream : FnScope N__law_stream ["script"] (defScope s__law_stream) := ⟨rfl, rfl, rfl, by decide +kernel, rfl, by decide +kernel, by decide +kernel⟩
theorem d__law_stream (T : Txt K mg ad) (f : Addr) (cdv : Value) (A : Around) (outer : List Env) (s : Shared) (H : Hp) (E : XK) (hr : Room 0 (A.deeper (envOfC "_law_stream" (defScope s__law_stream) s.heap.objs.size f cdv))) :
    DB (cxOf (L2N.CX P w) P w K mg base N__law_stream "_law_stream" (defScope s__law_stream) f cdv A outer s H E) (defBody s__law_stream) (r__law_stream ad) := by
  have hu := hr.units
  have hu5 := u65 hr
  have hp : PassesOwn (model P w) (A.deeper (envOfC "_law_stream" (defScope s__law_stream) s.heap.objs.size f cdv)) (envOfC "_law_stream" (defScope s__law_stream) s.heap.objs.size f cdv) (cxOf (L2N.CX P w) P w K mg base N__law_stream "_law_stream" (defScope s__law_stream) f cdv A outer s H E).xe := passes_of (X := cxOf (L2N.CX P w) P w K mg base N__law_stream "_law_stream" (defScope s__law_stream) f cdv A outer s H E) rfl
  exact (db_cons (ds_set (i := 1) sc__law_stream.nd rfl (by first | exact Or.inl rfl | exact Or.inr rfl) (de_lst da_nil))
    (db_cons (ds_for hp rfl (di_seq (de_sl (de_var 0) do_none (do_some de_int))) (dg_name (i := 2) sc__law_stream.nd rfl (by first | exact Or.inl rfl | exact Or.inr rfl)) (db_cons (ds_set (i := 3) sc__law_stream.nd rfl (by first | exact Or.inl rfl | exact Or.inr rfl) (de_callB cd_abs rfl T.n_abs bb_abs (da_cons (de_callTy cd_int rfl T.n_int bb_int (da_cons (de_var 2) da_nil)) da_nil)))
    (db_one (ds_if (dt_cmp od_ge (de_var 3) (de_bin od_pow de_int de_int) (nomark _)) (db_one (ds_for hp rfl (di_range1 rfl T.n_range (da_cons de_int da_nil)) (dg_name (i := 4) sc__law_stream.nd rfl (by first | exact Or.inl rfl | exact Or.inr rfl)) (db_cons (ds_expr (de_append (de_var 1) (da_cons (de_bin od_mod (de_callTy cd_int rfl T.n_int bb_int (da_cons (de_var 3) da_nil)) de_int) da_nil)))
    (db_cons (ds_set (i := 3) sc__law_stream.nd rfl (by first | exact Or.inl rfl | exact Or.inr rfl) (de_bin od_div (de_var 3) de_int))
    (db_one (ds_if (dt_cmp (od_eq hu) (de_var 3) de_int (nomark _)) (db_one ds_break) db_nil)))))) (db_cons (ds_set (i := 5) sc__law_stream.nd rfl (by first | exact Or.inl rfl | exact Or.inr rfl) (de_bin od_mod (de_callTy cd_int rfl T.n_int bb_int (da_cons (de_var 3) da_nil)) de_int))
    (db_one (ds_for hp rfl (di_range1 rfl T.n_range (da_cons de_int da_nil)) (dg_name (i := 4) sc__law_stream.nd rfl (by first | exact Or.inl rfl | exact Or.inr rfl)) (db_cons (ds_set (i := 5) sc__law_stream.nd rfl (by first | exact Or.inl rfl | exact Or.inr rfl) (de_bin od_mod (de_callTy cd_int rfl T.n_int bb_int (da_cons (de_bin od_add (de_bin od_add (de_bin od_mul (de_var 5) de_int) (de_bin od_mul de_int (de_var 4))) de_int) da_nil)) de_int))
    (db_one (ds_expr (de_append (de_var 1) (da_cons (de_bin od_mod (de_bin od_mod (de_callTy cd_int rfl T.n_int bb_int (da_cons (de_bin od_add (de_bin od_mul (de_var 5) de_int) (de_var 4)) da_nil)) de_int) de_int) da_nil))))))))))))
    (db_cons (ds_if (dt_cmp (od_eq hu) (de_callB cd_len rfl T.n_len bb_len (da_cons (de_var 1) da_nil)) de_int (nomark _)) (db_one (ds_expr (de_append (de_var 1) (da_cons de_int da_nil)))) db_nil)
    (db_one (ds_ret (de_var 1))))))
/-! ## _law_next -/
abbrev s__law_next : Stmt := topS 26
abbrev N__law_next : List Str := ["state", "many", "turn"]
theorem sc__law_next : FnScope N__law_next ["state", "many"] (defScope s__law_next) := ⟨rfl, rfl, rfl, by decide +kernel, rfl, by decide +kernel, by decide +kernel⟩
theorem d__law_next (T : Txt K mg ad) (f : Addr) (cdv : Value) (A : Around) (outer : List Env) (s : Shared) (H : Hp) (E : XK) (hr : Room 0 (A.deeper (envOfC "_law_next" (defScope s__law_next) s.heap.objs.size f cdv))) :
    DB (cxOf (L2N.CX P w) P w K mg base N__law_next "_law_next" (defScope s__law_next) f cdv A outer s H E) (defBody s__law_next) (r__law_next ad) := by
  have hu := hr.units
  have hu5 := u65 hr
  have hp : PassesOwn (model P w) (A.deeper (envOfC "_law_next" (defScope s__law_next) s.heap.objs.size f cdv)) (envOfC "_law_next" (defScope s__law_next) s.heap.objs.size f cdv) (cxOf (L2N.CX P w) P w K mg base N__law_next "_law_next" (defScope s__law_next) f cdv A outer s H E).xe := passes_of (X := cxOf (L2N.CX P w) P w K mg base N__law_next "_law_next" (defScope s__law_next) f cdv A outer s H E) rfl
  exact (db_cons (ds_asg (de_bin od_add (de_ix (de_var 0) de_int) de_int) (dg_sub (de_var 0) de_int))
    (db_cons (ds_set (i := 2) sc__law_next.nd rfl (by first | exact Or.inl rfl | exact Or.inr rfl) (de_bin od_div (de_ix (de_var 0) de_int) (de_callB cd_len rfl T.n_len bb_len (da_cons (de_ix (de_var 0) de_int) da_nil))))
    (db_one (ds_ret (de_bin od_mod (de_callTy cd_int rfl T.n_int bb_int (da_cons (de_bin od_add (de_bin od_add (de_ix (de_ix (de_var 0) de_int) (de_bin od_mod (de_ix (de_var 0) de_int) (de_callB cd_len rfl T.n_len bb_len (da_cons (de_ix (de_var 0) de_int) da_nil)))) (de_bin od_mul (de_var 2) de_int)) (de_bin od_mul (de_bin od_mul (de_ix (de_var 0) de_int) (de_var 2)) de_int)) da_nil)) (de_var 1))))))
/-! ## _law_told -/
abbrev s__law_told : Stmt := topS 27
abbrev N__law_told : List Str := ["call", "e", "kinds", "names", "k"]
theorem sc__law_told : FnScope N__law_told ["call"] (defScope s__law_told) := ⟨rfl, rfl, rfl, by decide +kernel, rfl, by decide +kernel, by decide +kernel⟩
theorem d__law_told {X : Cx} (T : Txt X.K X.mg ad) {g : Addr} {cdv : Value} {k : Nat} (s : Shared) (H : Hp) (qc : QE) (hr : Room k (X.A.deeper (envOfC "_law_told" (defScope s__law_told) s.heap.objs.size g cdv))) (hq : ∀ (pn : List (Addr × Obj)) (xe : Value → Shared → Prop) (p1 p2 : Pos), DE ((gotCx X N__law_told "_law_told" (defScope s__law_told) g cdv X.A X.stack s H fun _ _ _ => False).tr pn xe) (.Call (.Name "call" p1) [] [] p2) qc) :
    DB (gotCx X N__law_told "_law_told" (defScope s__law_told) g cdv X.A X.stack s H fun _ _ _ => False) (defBody s__law_told) (r__law_told ad qc) := by
  have hu := hr.units
  have hu5 := u65 hr
  exact (db_one (ds_try (Cs := ad.six) (i := 1) (ts := r__law_told_s ad) rfl rfl sc__law_told.nd rfl rfl ⟨rfl, by decide, Or.inl T.g_SlipError⟩ T.exm (fun pn xe hp => by exact (db_one (ds_ret (de_tup (da_cons de_str (da_cons (hq _ _ _ _) da_nil))))))
      (fun a oe C pn hC hz hd => by have TE := T.exc C hC; exact (db_cons (ds_set (i := 2) sc__law_told.nd rfl (by first | exact Or.inl rfl | exact Or.inr rfl) (de_lst (da_cons (de_callB (cd_isK TE (T.kit C hC) hz hd) rfl T.n_isinstance bb_isinstance (da_cons (de_var 1) (da_cons (de_globR rfl T.g_NotAllowed) da_nil))) (da_cons (de_callB (cd_isK TE (T.kit C hC) hz hd) rfl T.n_isinstance bb_isinstance (da_cons (de_var 1) (da_cons (de_globR rfl T.g_TooLarge) da_nil))) (da_cons (de_callB (cd_isK TE (T.kit C hC) hz hd) rfl T.n_isinstance bb_isinstance (da_cons (de_var 1) (da_cons (de_globR rfl T.g_Missing) da_nil))) (da_cons (de_callB (cd_isK TE (T.kit C hC) hz hd) rfl T.n_isinstance bb_isinstance (da_cons (de_var 1) (da_cons (de_globR rfl T.g_BadPaper) da_nil))) (da_cons (de_callB (cd_isK TE (T.kit C hC) hz hd) rfl T.n_isinstance bb_isinstance (da_cons (de_var 1) (da_cons (de_globR rfl T.g_BadForm) da_nil))) (da_cons (de_callB (cd_isK TE (T.kit C hC) hz hd) rfl T.n_isinstance bb_isinstance (da_cons (de_var 1) (da_cons (de_globR rfl T.g_Broken) da_nil))) da_nil))))))))
    (db_cons (ds_setLcH (i := 3) (own := [("k", 4)]) (hot_suite hz hd) (List.mem_cons_self ..) sc__law_told.nd rfl rfl (sw_true rfl rfl rfl (by decide +kernel)) (dih_range1 rfl T.n_range (da_cons de_int da_nil)) (blkOk_by (own := [("k", 4)]) (N := N__law_told) (sc := defScope s__law_told) (by decide +kernel)) (fun _ _ _ _ _ => (dgo_name (i := 4) sc__law_told.nd rfl (by decide) (by first | exact Or.inl rfl | exact Or.inr rfl))) (fun _ _ _ _ _ => (dts_one (dt_truth (de_ix (de_var 2) (de_var 4))))) (fun _ _ _ _ _ => (de_ix (de_lst (da_cons de_str (da_cons de_str (da_cons de_str (da_cons de_str (da_cons de_str (da_cons de_str da_nil))))))) (de_var 4))))
    (db_one (ds_ret (de_tup (da_cons (de_ix (de_lst (da_cons de_str (da_cons (de_ix (de_bin od_add (de_var 3) (de_lst (da_cons de_str da_nil))) de_int) da_nil))) (de_callTy cd_int rfl T.n_int bb_int (da_cons (de_cmp (od_eq hu) (de_callB cd_len rfl T.n_len bb_len (da_cons (de_var 3) da_nil)) de_int (nomark _)) da_nil))) da_nil)))))))))
/-! ## _law_signs -/
abbrev s__law_signs : Stmt := topS 28
abbrev N__law_signs : List Str := ["state", "many", "pool", "found", "k"]
theorem sc__law_signs : FnScope N__law_signs ["state"] (defScope s__law_signs) := ⟨rfl, rfl, rfl, by decide +kernel, rfl, by decide +kernel, by decide +kernel⟩
theorem d__law_signs (T : Txt K mg ad) (G__law_next : GF P w K mg base "_law_next" ["state", "many"] 1 (sp__law_next ad)) (f : Addr) (cdv : Value) (A : Around) (outer : List Env) (s : Shared) (H : Hp) (E : XK) (hr : Room 1 (A.deeper (envOfC "_law_signs" (defScope s__law_signs) s.heap.objs.size f cdv))) :
    DB (cxOf (L2N.CX P w) P w K mg base N__law_signs "_law_signs" (defScope s__law_signs) f cdv A outer s H E) (defBody s__law_signs) (r__law_signs ad) := by
  have hu := hr.units
  have hu5 := u65 hr
  have hp : PassesOwn (model P w) (A.deeper (envOfC "_law_signs" (defScope s__law_signs) s.heap.objs.size f cdv)) (envOfC "_law_signs" (defScope s__law_signs) s.heap.objs.size f cdv) (cxOf (L2N.CX P w) P w K mg base N__law_signs "_law_signs" (defScope s__law_signs) f cdv A outer s H E).xe := passes_of (X := cxOf (L2N.CX P w) P w K mg base N__law_signs "_law_signs" (defScope s__law_signs) f cdv A outer s H E) rfl
  exact (db_cons (ds_set (i := 1) sc__law_signs.nd rfl (by first | exact Or.inl rfl | exact Or.inr rfl) (de_ix (de_lst (da_cons (de_bin od_add de_int (de_callF G__law_next (hr.mono (by decide)) rfl (da_cons (de_var 0) (da_cons de_int da_nil)))) (da_cons (de_bin od_add de_int (de_callF G__law_next (hr.mono (by decide)) rfl (da_cons (de_var 0) (da_cons de_int da_nil)))) da_nil))) (de_callTy cd_int rfl T.n_int bb_int (da_cons (de_cmp (od_eq hu) (de_callF G__law_next (hr.mono (by decide)) rfl (da_cons (de_var 0) (da_cons de_int da_nil))) de_int (nomark _)) da_nil))))
    (db_cons (ds_set (i := 2) sc__law_signs.nd rfl (by first | exact Or.inl rfl | exact Or.inr rfl) (de_callTy (cd_listX rfl) rfl T.n_list bb_list (da_cons de_str da_nil)))
    (db_cons (ds_set (i := 3) sc__law_signs.nd rfl (by first | exact Or.inl rfl | exact Or.inr rfl) (de_lst da_nil))
    (db_cons (ds_for hp rfl (di_range1 rfl T.n_range (da_cons (de_var 1) da_nil)) (dg_name (i := 4) sc__law_signs.nd rfl (by first | exact Or.inl rfl | exact Or.inr rfl)) (db_one (ds_expr (de_append (de_var 3) (da_cons (de_popAt (de_var 2) (da_cons (de_callF G__law_next (hr.mono (by decide)) rfl (da_cons (de_var 0) (da_cons (de_callB cd_len rfl T.n_len bb_len (da_cons (de_var 2) da_nil)) da_nil))) da_nil)) da_nil)))))
    (db_one (ds_ret (de_methS PySem.F.slot_str_join PySem.F.type_str_join ms_join de_str (da_cons (de_callB cd_sorted rfl T.n_sorted bb_sorted (da_cons (de_var 3) da_nil)) da_nil))))))))
/-! ## _law_checker -/
abbrev s__law_checker : Stmt := topS 29
abbrev N__law_checker : List Str := ["state", "signs", "many", "moves", "ends", "s", "sign"]
theorem sc__law_checker : FnScope N__law_checker ["state", "signs", "many"] (defScope s__law_checker) := ⟨rfl, rfl, rfl, by decide +kernel, rfl, by decide +kernel, by decide +kernel⟩
theorem d__law_checker (T : Txt K mg ad) (G__law_next : GF P w K mg base "_law_next" ["state", "many"] 1 (sp__law_next ad)) (f : Addr) (cdv : Value) (A : Around) (outer : List Env) (s : Shared) (H : Hp) (E : XK) (hr : Room 1 (A.deeper (envOfC "_law_checker" (defScope s__law_checker) s.heap.objs.size f cdv))) :
    DB (cxOf (L2N.CX P w) P w K mg base N__law_checker "_law_checker" (defScope s__law_checker) f cdv A outer s H E) (defBody s__law_checker) (r__law_checker ad) := by
  have hu := hr.units
  have hu5 := u65 hr
  have hp : PassesOwn (model P w) (A.deeper (envOfC "_law_checker" (defScope s__law_checker) s.heap.objs.size f cdv)) (envOfC "_law_checker" (defScope s__law_checker) s.heap.objs.size f cdv) (cxOf (L2N.CX P w) P w K mg base N__law_checker "_law_checker" (defScope s__law_checker) f cdv A outer s H E).xe := passes_of (X := cxOf (L2N.CX P w) P w K mg base N__law_checker "_law_checker" (defScope s__law_checker) f cdv A outer s H E) rfl
  exact (db_cons (ds_set (i := 3) sc__law_checker.nd rfl (by first | exact Or.inl rfl | exact Or.inr rfl) (de_callTy cd_tuple rfl T.n_tuple bb_tuple (da_cons (de_lc (own := [("s", 5)]) rfl sc__law_checker.nd (di_range1 rfl T.n_range (da_cons (de_var 2) da_nil)) (blkOk_by (own := [("s", 5)]) (N := N__law_checker) (sc := defScope s__law_checker) (by decide +kernel)) (fun _ _ _ _ _ => (dgo_name (i := 5) sc__law_checker.nd rfl (by decide) (by first | exact Or.inl rfl | exact Or.inr rfl))) (fun _ _ _ _ _ => dts_nil) (fun _ _ _ _ _ => (de_callTy cd_tuple rfl T.n_tuple bb_tuple (da_cons (de_lc (own := [("sign", 6)]) rfl sc__law_checker.nd (di_seq (de_var 1)) (blkOk_by (own := [("sign", 6)]) (by kernel_rfl)) (fun _ _ _ _ _ => (dgo_name (i := 6) sc__law_checker.nd rfl (by decide) (by first | exact Or.inl rfl | exact Or.inr rfl))) (fun _ _ _ _ _ => dts_nil) (fun _ _ _ _ _ => (de_callF G__law_next (hr.mono (by decide)) rfl (da_cons (de_var 0) (da_cons (de_var 2) da_nil))))) da_nil)))) da_nil)))
    (db_cons (ds_set (i := 4) sc__law_checker.nd rfl (by first | exact Or.inl rfl | exact Or.inr rfl) (de_callTy cd_tuple rfl T.n_tuple bb_tuple (da_cons (de_lc (own := [("s", 5)]) rfl sc__law_checker.nd (di_range1 rfl T.n_range (da_cons (de_var 2) da_nil)) (blkOk_by (own := [("s", 5)]) (N := N__law_checker) (sc := defScope s__law_checker) (by decide +kernel)) (fun _ _ _ _ _ => (dgo_name (i := 5) sc__law_checker.nd rfl (by decide) (by first | exact Or.inl rfl | exact Or.inr rfl))) (fun _ _ _ _ _ => dts_nil) (fun _ _ _ _ _ => (de_callTy cd_int rfl T.n_int bb_int (da_cons (de_cmp (od_eq hu) (de_callF G__law_next (hr.mono (by decide)) rfl (da_cons (de_var 0) (da_cons de_int da_nil))) de_int (nomark _)) da_nil)))) da_nil)))
    (db_one (ds_ret (de_tup (da_cons (de_var 1) (da_cons (de_var 3) (da_cons (de_var 4) da_nil))))))))
/-! ## _law_sums -/
abbrev s__law_sums : Stmt := topS 30
abbrev N__law_sums : List Str := ["state", "signs", "most", "modulus", "period", "maps", "rest", "moves", "ends", "place", "total", "k", "sign", "part"]
theorem sc__law_sums : FnScope N__law_sums ["state", "signs", "most"] (defScope s__law_sums) := ⟨rfl, rfl, rfl, by decide +kernel, rfl, by decide +kernel, by decide +kernel⟩
theorem d__law_sums (T : Txt K mg ad) (G__law_next : GF P w K mg base "_law_next" ["state", "many"] 1 (sp__law_next ad)) (f : Addr) (cdv : Value) (A : Around) (outer : List Env) (s : Shared) (H : Hp) (E : XK) (hr : Room 1 (A.deeper (envOfC "_law_sums" (defScope s__law_sums) s.heap.objs.size f cdv))) :
    DB (cxOf (L2N.CX P w) P w K mg base N__law_sums "_law_sums" (defScope s__law_sums) f cdv A outer s H E) (defBody s__law_sums) (r__law_sums ad) := by
  have hu := hr.units
  have hu5 := u65 hr
  have hp : PassesOwn (model P w) (A.deeper (envOfC "_law_sums" (defScope s__law_sums) s.heap.objs.size f cdv)) (envOfC "_law_sums" (defScope s__law_sums) s.heap.objs.size f cdv) (cxOf (L2N.CX P w) P w K mg base N__law_sums "_law_sums" (defScope s__law_sums) f cdv A outer s H E).xe := passes_of (X := cxOf (L2N.CX P w) P w K mg base N__law_sums "_law_sums" (defScope s__law_sums) f cdv A outer s H E) rfl
  exact (db_cons (ds_set (i := 3) sc__law_sums.nd rfl (by first | exact Or.inl rfl | exact Or.inr rfl) (de_bin od_add de_int (de_callF G__law_next (hr.mono (by decide)) rfl (da_cons (de_var 0) (da_cons (de_var 2) da_nil)))))
    (db_cons (ds_set (i := 4) sc__law_sums.nd rfl (by first | exact Or.inl rfl | exact Or.inr rfl) (de_bin od_add de_int (de_callF G__law_next (hr.mono (by decide)) rfl (da_cons (de_var 0) (da_cons de_int da_nil)))))
    (db_cons (ds_setLc (i := 5) (own := [("k", 11)]) rfl sc__law_sums.nd rfl rfl (sw_true rfl rfl rfl (by decide +kernel)) (di_range1 rfl T.n_range (da_cons (de_var 4) da_nil)) (blkOk_by (own := [("k", 11)]) (N := N__law_sums) (sc := defScope s__law_sums) (by decide +kernel)) (fun _ _ _ _ _ => (dgo_name (i := 11) sc__law_sums.nd rfl (by decide) (by first | exact Or.inl rfl | exact Or.inr rfl))) (fun _ _ _ _ _ => dts_nil) (fun _ _ _ _ _ => (de_lc (own := [("sign", 12)]) rfl sc__law_sums.nd (di_seq (de_var 1)) (blkOk_by (own := [("sign", 12)]) (by kernel_rfl)) (fun _ _ _ _ _ => (dgo_name (i := 12) sc__law_sums.nd rfl (by decide) (by first | exact Or.inl rfl | exact Or.inr rfl))) (fun _ _ _ _ _ => dts_nil) (fun _ _ _ _ _ => (de_callF G__law_next (hr.mono (by decide)) rfl (da_cons (de_var 0) (da_cons (de_var 3) da_nil)))))))
    (db_cons (ds_set (i := 6) sc__law_sums.nd rfl (by first | exact Or.inl rfl | exact Or.inr rfl) (de_callF G__law_next (hr.mono (by decide)) rfl (da_cons (de_var 0) (da_cons (de_var 3) da_nil))))
    (db_cons (ds_set (i := 7) sc__law_sums.nd rfl (by first | exact Or.inl rfl | exact Or.inr rfl) (de_lst da_nil))
    (db_cons (ds_set (i := 8) sc__law_sums.nd rfl (by first | exact Or.inl rfl | exact Or.inr rfl) (de_lst da_nil))
    (db_cons (ds_for hp rfl (di_range1 rfl T.n_range (da_cons (de_var 4) da_nil)) (dg_name (i := 9) sc__law_sums.nd rfl (by first | exact Or.inl rfl | exact Or.inr rfl)) (db_one (ds_for hp rfl (di_range1 rfl T.n_range (da_cons (de_var 3) da_nil)) (dg_name (i := 10) sc__law_sums.nd rfl (by first | exact Or.inl rfl | exact Or.inr rfl)) (db_cons (ds_expr (de_append (de_var 7) (da_cons (de_callTy cd_tuple rfl T.n_tuple bb_tuple (da_cons (de_lc (own := [("part", 13)]) rfl sc__law_sums.nd (di_seq (de_ix (de_var 5) (de_var 9))) (blkOk_by (own := [("part", 13)]) (N := N__law_sums) (sc := defScope s__law_sums) (by decide +kernel)) (fun _ _ _ _ _ => (dgo_name (i := 13) sc__law_sums.nd rfl (by decide) (by first | exact Or.inl rfl | exact Or.inr rfl))) (fun _ _ _ _ _ => dts_nil) (fun _ _ _ _ _ => (de_bin od_add (de_bin od_mul (de_bin od_mod (de_bin od_add (de_var 9) de_int) (de_var 4)) (de_var 3)) (de_bin od_mod (de_bin od_add (de_var 10) (de_var 13)) (de_var 3))))) da_nil)) da_nil)))
    (db_one (ds_expr (de_append (de_var 8) (da_cons (de_callTy cd_int rfl T.n_int bb_int (da_cons (de_cmp (od_eq hu) (de_var 10) (de_var 6) (nomark _)) da_nil)) da_nil))))))))
    (db_one (ds_ret (de_tup (da_cons (de_var 1) (da_cons (de_callTy cd_tuple rfl T.n_tuple bb_tuple (da_cons (de_var 7) da_nil)) (da_cons (de_callTy cd_tuple rfl T.n_tuple bb_tuple (da_cons (de_var 8) da_nil)) da_nil)))))))))))))
/-! ## _law_any -/
abbrev s__law_any : Stmt := topS 31
abbrev N__law_any : List Str := ["state", "signs", "pick"]
theorem sc__law_any : FnScope N__law_any ["state"] (defScope s__law_any) := ⟨rfl, rfl, rfl, by decide +kernel, rfl, by decide +kernel, by decide +kernel⟩
theorem d__law_any (T : Txt K mg ad) (G__law_checker : GF P w K mg base "_law_checker" ["state", "signs", "many"] 2 (sp__law_checker ad)) (G__law_next : GF P w K mg base "_law_next" ["state", "many"] 1 (sp__law_next ad)) (G__law_signs : GF P w K mg base "_law_signs" ["state"] 2 (sp__law_signs ad)) (G__law_sums : GF P w K mg base "_law_sums" ["state", "signs", "most"] 2 (sp__law_sums ad)) (f : Addr) (cdv : Value) (A : Around) (outer : List Env) (s : Shared) (H : Hp) (E : XK) (hr : Room 2 (A.deeper (envOfC "_law_any" (defScope s__law_any) s.heap.objs.size f cdv))) :
    DB (cxOf (L2N.CX P w) P w K mg base N__law_any "_law_any" (defScope s__law_any) f cdv A outer s H E) (defBody s__law_any) (r__law_any ad) := by
  have hu := hr.units
  have hu5 := u65 hr
  have hp : PassesOwn (model P w) (A.deeper (envOfC "_law_any" (defScope s__law_any) s.heap.objs.size f cdv)) (envOfC "_law_any" (defScope s__law_any) s.heap.objs.size f cdv) (cxOf (L2N.CX P w) P w K mg base N__law_any "_law_any" (defScope s__law_any) f cdv A outer s H E).xe := passes_of (X := cxOf (L2N.CX P w) P w K mg base N__law_any "_law_any" (defScope s__law_any) f cdv A outer s H E) rfl
  exact (db_cons (ds_set (i := 1) sc__law_any.nd rfl (by first | exact Or.inl rfl | exact Or.inr rfl) (de_callF G__law_signs (hr.mono (by decide)) rfl (da_cons (de_var 0) da_nil)))
    (db_cons (ds_set (i := 2) sc__law_any.nd rfl (by first | exact Or.inl rfl | exact Or.inr rfl) (de_callF G__law_next (hr.mono (by decide)) rfl (da_cons (de_var 0) (da_cons de_int da_nil))))
    (db_cons (ds_if (dt_cmp od_lt (de_var 2) de_int (nomark _)) (db_one (ds_ret (de_callF G__law_sums (hr.mono (by decide)) rfl (da_cons (de_var 0) (da_cons (de_var 1) (da_cons (de_ix (de_lst (da_cons de_int (da_cons de_int da_nil))) (de_callF G__law_next (hr.mono (by decide)) rfl (da_cons (de_var 0) (da_cons de_int da_nil)))) da_nil)))))) db_nil)
    (db_one (ds_ret (de_callF G__law_checker (hr.mono (by decide)) rfl (da_cons (de_var 0) (da_cons (de_var 1) (da_cons (de_ix (de_lst (da_cons (de_bin od_add de_int (de_callF G__law_next (hr.mono (by decide)) rfl (da_cons (de_var 0) (da_cons de_int da_nil)))) (da_cons (de_bin od_add de_int (de_callF G__law_next (hr.mono (by decide)) rfl (da_cons (de_var 0) (da_cons de_int da_nil)))) (da_cons (de_bin od_add de_int (de_callF G__law_next (hr.mono (by decide)) rfl (da_cons (de_var 0) (da_cons de_int da_nil)))) da_nil)))) (de_ix (de_lst (da_cons de_int (da_cons de_int (da_cons de_int (da_cons de_int (da_cons de_int da_nil)))))) (de_callF G__law_next (hr.mono (by decide)) rfl (da_cons (de_var 0) (da_cons de_int da_nil))))) da_nil)))))))))
/-! ## _law_led -/
abbrev s__law_led : Stmt := topS 32
abbrev N__law_led : List Str := ["checker", "s", "text", "sign"]
theorem sc__law_led : FnScope N__law_led ["checker", "s", "text"] (defScope s__law_led) := ⟨rfl, rfl, rfl, by decide +kernel, rfl, by decide +kernel, by decide +kernel⟩
theorem d__law_led (T : Txt K mg ad) (f : Addr) (cdv : Value) (A : Around) (outer : List Env) (s : Shared) (H : Hp) (E : XK) (hr : Room 0 (A.deeper (envOfC "_law_led" (defScope s__law_led) s.heap.objs.size f cdv))) :
    DB (cxOf (L2N.CX P w) P w K mg base N__law_led "_law_led" (defScope s__law_led) f cdv A outer s H E) (defBody s__law_led) (r__law_led ad) := by
  have hu := hr.units
  have hu5 := u65 hr
  have hp : PassesOwn (model P w) (A.deeper (envOfC "_law_led" (defScope s__law_led) s.heap.objs.size f cdv)) (envOfC "_law_led" (defScope s__law_led) s.heap.objs.size f cdv) (cxOf (L2N.CX P w) P w K mg base N__law_led "_law_led" (defScope s__law_led) f cdv A outer s H E).xe := passes_of (X := cxOf (L2N.CX P w) P w K mg base N__law_led "_law_led" (defScope s__law_led) f cdv A outer s H E) rfl
  exact (db_cons (ds_for hp rfl (di_seq (de_var 2)) (dg_name (i := 3) sc__law_led.nd rfl (by first | exact Or.inl rfl | exact Or.inr rfl)) (db_one (ds_set (i := 1) sc__law_led.nd rfl (by first | exact Or.inl rfl | exact Or.inr rfl) (de_ix (de_ix (de_ix (de_var 0) de_int) (de_var 1)) (de_methS PySem.F.slot_str_index PySem.F.type_str_index ms_index (de_ix (de_var 0) de_int) (da_cons (de_var 3) da_nil))))))
    (db_one (ds_ret (de_var 1))))
/-! ## _law_texts -/
abbrev s__law_texts : Stmt := topS 33
abbrev N__law_texts : List Str := ["signs", "length", "found", "k", "longer", "text", "sign"]
theorem sc__law_texts : FnScope N__law_texts ["signs", "length"] (defScope s__law_texts) := ⟨rfl, rfl, rfl, by decide +kernel, rfl, by decide +kernel, by decide +kernel⟩
theorem d__law_texts (T : Txt K mg ad) (f : Addr) (cdv : Value) (A : Around) (outer : List Env) (s : Shared) (H : Hp) (E : XK) (hr : Room 0 (A.deeper (envOfC "_law_texts" (defScope s__law_texts) s.heap.objs.size f cdv))) :
    DB (cxOf (L2N.CX P w) P w K mg base N__law_texts "_law_texts" (defScope s__law_texts) f cdv A outer s H E) (defBody s__law_texts) (r__law_texts ad) := by
  have hu := hr.units
  have hu5 := u65 hr
  have hp : PassesOwn (model P w) (A.deeper (envOfC "_law_texts" (defScope s__law_texts) s.heap.objs.size f cdv)) (envOfC "_law_texts" (defScope s__law_texts) s.heap.objs.size f cdv) (cxOf (L2N.CX P w) P w K mg base N__law_texts "_law_texts" (defScope s__law_texts) f cdv A outer s H E).xe := passes_of (X := cxOf (L2N.CX P w) P w K mg base N__law_texts "_law_texts" (defScope s__law_texts) f cdv A outer s H E) rfl
  exact (db_cons (ds_set (i := 2) sc__law_texts.nd rfl (by first | exact Or.inl rfl | exact Or.inr rfl) (de_lst (da_cons de_str da_nil)))
    (db_cons (ds_for hp rfl (di_range1 rfl T.n_range (da_cons (de_var 1) da_nil)) (dg_name (i := 3) sc__law_texts.nd rfl (by first | exact Or.inl rfl | exact Or.inr rfl)) (db_cons (ds_set (i := 4) sc__law_texts.nd rfl (by first | exact Or.inl rfl | exact Or.inr rfl) (de_lst da_nil))
    (db_cons (ds_for hp rfl (di_seq (de_var 2)) (dg_name (i := 5) sc__law_texts.nd rfl (by first | exact Or.inl rfl | exact Or.inr rfl)) (db_one (ds_set (i := 4) sc__law_texts.nd rfl (by first | exact Or.inl rfl | exact Or.inr rfl) (de_bin od_add (de_var 4) (de_lc (own := [("sign", 6)]) rfl sc__law_texts.nd (di_seq (de_var 0)) (blkOk_by (own := [("sign", 6)]) (N := N__law_texts) (sc := defScope s__law_texts) (by decide +kernel)) (fun _ _ _ _ _ => (dgo_name (i := 6) sc__law_texts.nd rfl (by decide) (by first | exact Or.inl rfl | exact Or.inr rfl))) (fun _ _ _ _ _ => dts_nil) (fun _ _ _ _ _ => (de_bin od_add (de_var 5) (de_var 6))))))))
    (db_one (ds_set (i := 2) sc__law_texts.nd rfl (by first | exact Or.inl rfl | exact Or.inr rfl) (de_var 4))))))
    (db_one (ds_ret (de_var 2)))))
/-! ## _law_valid -/
abbrev s__law_valid : Stmt := topS 34
abbrev N__law_valid : List Str := ["checker", "text"]
theorem sc__law_valid : FnScope N__law_valid ["checker", "text"] (defScope s__law_valid) := ⟨rfl, rfl, rfl, by decide +kernel, rfl, by decide +kernel, by decide +kernel⟩
theorem d__law_valid (T : Txt K mg ad) (G__law_led : GF P w K mg base "_law_led" ["checker", "s", "text"] 1 (sp__law_led ad)) (f : Addr) (cdv : Value) (A : Around) (outer : List Env) (s : Shared) (H : Hp) (E : XK) (hr : Room 1 (A.deeper (envOfC "_law_valid" (defScope s__law_valid) s.heap.objs.size f cdv))) :
    DB (cxOf (L2N.CX P w) P w K mg base N__law_valid "_law_valid" (defScope s__law_valid) f cdv A outer s H E) (defBody s__law_valid) (r__law_valid ad) := by
  have hu := hr.units
  have hu5 := u65 hr
  have hp : PassesOwn (model P w) (A.deeper (envOfC "_law_valid" (defScope s__law_valid) s.heap.objs.size f cdv)) (envOfC "_law_valid" (defScope s__law_valid) s.heap.objs.size f cdv) (cxOf (L2N.CX P w) P w K mg base N__law_valid "_law_valid" (defScope s__law_valid) f cdv A outer s H E).xe := passes_of (X := cxOf (L2N.CX P w) P w K mg base N__law_valid "_law_valid" (defScope s__law_valid) f cdv A outer s H E) rfl
  exact (db_one (ds_ret (de_cmp (od_eq hu) (de_ix (de_ix (de_var 0) de_int) (de_callF G__law_led (hr.mono (by decide)) rfl (da_cons (de_var 0) (da_cons de_int (da_cons (de_var 1) da_nil))))) de_int (nomark _))))
/-! ## _law_count -/
abbrev s__law_count : Stmt := topS 35
abbrev N__law_count : List Str := ["checker", "length", "counts", "k", "row", "after"]
theorem sc__law_count : FnScope N__law_count ["checker", "length"] (defScope s__law_count) := ⟨rfl, rfl, rfl, by decide +kernel, rfl, by decide +kernel, by decide +kernel⟩
def r__law_count_b1 (ad : Ad) : QS := (sSet 2 (qLc (iSeq (qBin oIx (qVar 0) (qC (.int 1)))) (gN 4) qYes (qCB cSum (qCons (qLc (iSeq (qVar 4)) (gN 5) qYes (qBin oIx (qVar 2) (qVar 5)) [5]) qNil)) [4]))
def r__law_count (ad : Ad) : QS := (sSeq (sSet 2 (qCB cList (qCons (qBin oIx (qVar 0) (qC (.int 2))) qNil)))
    (sSeq (sFor (iRange1 (qCons (qVar 1) qNil)) (gN 3) (r__law_count_b1 ad))
    (sRet (qBin oIx (qVar 2) (qC (.int 0))))))
theorem d__law_count (T : Txt K mg ad) (f : Addr) (cdv : Value) (A : Around) (outer : List Env) (s : Shared) (H : Hp) (E : XK) (hr : Room 0 (A.deeper (envOfC "_law_count" (defScope s__law_count) s.heap.objs.size f cdv))) :
    DB (cxOf (L2N.CX P w) P w K mg base N__law_count "_law_count" (defScope s__law_count) f cdv A outer s H E) (defBody s__law_count) (r__law_count ad) := by
  have hu := hr.units
  have hu5 := u65 hr
  have hp : PassesOwn (model P w) (A.deeper (envOfC "_law_count" (defScope s__law_count) s.heap.objs.size f cdv)) (envOfC "_law_count" (defScope s__law_count) s.heap.objs.size f cdv) (cxOf (L2N.CX P w) P w K mg base N__law_count "_law_count" (defScope s__law_count) f cdv A outer s H E).xe := passes_of (X := cxOf (L2N.CX P w) P w K mg base N__law_count "_law_count" (defScope s__law_count) f cdv A outer s H E) rfl
  exact (db_cons (ds_set (i := 2) sc__law_count.nd rfl (by first | exact Or.inl rfl | exact Or.inr rfl) (de_callTy cd_list rfl T.n_list bb_list (da_cons (de_ix (de_var 0) de_int) da_nil)))
    (db_cons (ds_for hp rfl (di_range1 rfl T.n_range (da_cons (de_var 1) da_nil)) (dg_name (i := 3) sc__law_count.nd rfl (by first | exact Or.inl rfl | exact Or.inr rfl)) (db_one (ds_set (i := 2) sc__law_count.nd rfl (by first | exact Or.inl rfl | exact Or.inr rfl) (de_lc (own := [("row", 4)]) rfl sc__law_count.nd (di_seq (de_ix (de_var 0) de_int)) (blkOk_by (own := [("row", 4)]) (N := N__law_count) (sc := defScope s__law_count) (by decide +kernel)) (fun _ _ _ _ _ => (dgo_name (i := 4) sc__law_count.nd rfl (by decide) (by first | exact Or.inl rfl | exact Or.inr rfl))) (fun _ _ _ _ _ => dts_nil) (fun _ _ _ _ _ => (de_callB (cd_sum rfl) rfl T.n_sum bb_sum (da_cons (de_lc (own := [("after", 5)]) rfl sc__law_count.nd (di_seq (de_var 4)) (blkOk_by (own := [("after", 5)]) (by kernel_rfl)) (fun _ _ _ _ _ => (dgo_name (i := 5) sc__law_count.nd rfl (by decide) (by first | exact Or.inl rfl | exact Or.inr rfl))) (fun _ _ _ _ _ => dts_nil) (fun _ _ _ _ _ => (de_ix (de_var 2) (de_var 5)))) da_nil)))))))
    (db_one (ds_ret (de_ix (de_var 2) de_int)))))
/-! ## _law_listed -/
abbrev s__law_listed : Stmt := topS 36
abbrev N__law_listed : List Str := ["checker", "length", "texts", "text", "k"]
theorem sc__law_listed : FnScope N__law_listed ["checker", "length"] (defScope s__law_listed) := ⟨rfl, rfl, rfl, by decide +kernel, rfl, by decide +kernel, by decide +kernel⟩
def r__law_listed_t1 (ad : Ad) : QS := (sRet (qAnd (qCall (sp__law_same ad) (qCons (qLc (iRange1 (qCons (qCB cLen (qCons (qVar 2) qNil)) qNil)) (gN 4) qYes (qCall (sp_number_at ad) (qCons (qVar 0) (qCons (qVar 1) (qCons (qVar 4) qNil)))) [4]) (qCons (qVar 2) qNil))) (qCall (sp__law_same ad) (qCons (qLc (iSeq (qVar 2)) (gN 3) qYes (qCall (sp_place_of ad) (qCons (qVar 0) (qCons (qVar 3) qNil))) [3]) (qCons (qListRg (qRg1 (qCB cLen (qCons (qVar 2) qNil)))) qNil)))))
def r__law_listed_c1 (ad : Ad) : QS := (sIf (qNotT (qTru (qCall (sp__law_same ad) (qCons (qCall (sp_count_valid ad) (qCons (qVar 0) (qCons (qVar 1) qNil))) (qCons (qCB cLen (qCons (qVar 2) qNil)) qNil))))) (sRet (qC (.bl false))) sNext)
def r__law_listed_t2 (ad : Ad) : QS := (sSeq (r__law_listed_c1 ad)
    (r__law_listed_t1 ad))
def r__law_listed (ad : Ad) : QS := (sSeq (sSet 2 (qLc (iSeq (qCall (sp__law_texts ad) (qCons (qBin oIx (qVar 0) (qC (.int 0))) (qCons (qVar 1) qNil)))) (gN 3) (qTru (qCall (sp__law_valid ad) (qCons (qVar 0) (qCons (qVar 3) qNil)))) (qVar 3) [3]))
    (r__law_listed_t2 ad))
theorem d__law_listed (T : Txt K mg ad) (G__law_texts : GF P w K mg base "_law_texts" ["signs", "length"] 1 (sp__law_texts ad)) (G__law_valid : GF P w K mg base "_law_valid" ["checker", "text"] 2 (sp__law_valid ad)) (G_count_valid : GF P w K mg base "count_valid" ["checker", "length"] 3 (sp_count_valid ad)) (G_number_at : GF P w K mg base "number_at" ["checker", "length", "place"] 3 (sp_number_at ad)) (G_place_of : GF P w K mg base "place_of" ["checker", "text"] 4 (sp_place_of ad)) (G__law_same : GG P w K mg base "_law_same" ["told", "due"] 1 (sp__law_same ad)) (f : Addr) (cdv : Value) (A : Around) (outer : List Env) (s : Shared) (H : Hp) (E : XK) (hr : Room 4 (A.deeper (envOfC "_law_listed" (defScope s__law_listed) s.heap.objs.size f cdv))) (hG : (A.deeper (envOfC "_law_listed" (defScope s__law_listed) s.heap.objs.size f cdv)).guards = some []) :
    DB (cxOf (L2N.CX P w) P w K mg base N__law_listed "_law_listed" (defScope s__law_listed) f cdv A outer s H E) (defBody s__law_listed) (r__law_listed ad) := by
  have hu := hr.units
  have hu5 := u65 hr
  have hp : PassesOwn (model P w) (A.deeper (envOfC "_law_listed" (defScope s__law_listed) s.heap.objs.size f cdv)) (envOfC "_law_listed" (defScope s__law_listed) s.heap.objs.size f cdv) (cxOf (L2N.CX P w) P w K mg base N__law_listed "_law_listed" (defScope s__law_listed) f cdv A outer s H E).xe := passes_of (X := cxOf (L2N.CX P w) P w K mg base N__law_listed "_law_listed" (defScope s__law_listed) f cdv A outer s H E) rfl
  exact (db_cons (ds_setLc (i := 2) (own := [("text", 3)]) rfl sc__law_listed.nd rfl rfl (sw_true rfl rfl rfl (by decide +kernel)) (di_seq (de_callF G__law_texts (hr.mono (by decide)) rfl (da_cons (de_ix (de_var 0) de_int) (da_cons (de_var 1) da_nil)))) (blkOk_by (own := [("text", 3)]) (N := N__law_listed) (sc := defScope s__law_listed) (by decide +kernel)) (fun _ _ _ _ _ => (dgo_name (i := 3) sc__law_listed.nd rfl (by decide) (by first | exact Or.inl rfl | exact Or.inr rfl))) (fun _ _ _ _ _ => (dts_one (dt_truth (de_callF G__law_valid (hr.mono (by decide)) rfl (da_cons (de_var 0) (da_cons (de_var 3) da_nil)))))) (fun _ _ _ _ _ => (de_var 3)))
    (db_cons (ds_if (dt_not (dt_truth (de_callGG G__law_same (hr.mono (by decide)) hG rfl (da_cons (de_callF G_count_valid (hr.mono (by decide)) rfl (da_cons (de_var 0) (da_cons (de_var 1) da_nil))) (da_cons (de_callB cd_len rfl T.n_len bb_len (da_cons (de_var 2) da_nil)) da_nil))))) (db_one (ds_ret de_bl)) db_nil)
    (db_one (ds_ret (de_and (de_callGG G__law_same (hr.mono (by decide)) hG rfl (da_cons (de_lc (own := [("k", 4)]) rfl sc__law_listed.nd (di_range1 rfl T.n_range (da_cons (de_callB cd_len rfl T.n_len bb_len (da_cons (de_var 2) da_nil)) da_nil)) (blkOk_by (own := [("k", 4)]) (N := N__law_listed) (sc := defScope s__law_listed) (by decide +kernel)) (fun _ _ _ _ _ => (dgo_name (i := 4) sc__law_listed.nd rfl (by decide) (by first | exact Or.inl rfl | exact Or.inr rfl))) (fun _ _ _ _ _ => dts_nil) (fun _ _ _ _ _ => (de_callF G_number_at (hr.mono (by decide)) rfl (da_cons (de_var 0) (da_cons (de_var 1) (da_cons (de_var 4) da_nil)))))) (da_cons (de_var 2) da_nil))) (de_one (de_callGG G__law_same (hr.mono (by decide)) hG rfl (da_cons (de_lc (own := [("text", 3)]) rfl sc__law_listed.nd (di_seq (de_var 2)) (blkOk_by (own := [("text", 3)]) (N := N__law_listed) (sc := defScope s__law_listed) (by decide +kernel)) (fun _ _ _ _ _ => (dgo_name (i := 3) sc__law_listed.nd rfl (by decide) (by first | exact Or.inl rfl | exact Or.inr rfl))) (fun _ _ _ _ _ => dts_nil) (fun _ _ _ _ _ => (de_callF G_place_of (hr.mono (by decide)) rfl (da_cons (de_var 0) (da_cons (de_var 3) da_nil))))) (da_cons (de_listRg rfl rfl T.n_list (dr_1 rfl T.n_range (de_callB cd_len rfl T.n_len bb_len (da_cons (de_var 2) da_nil)))) da_nil)))))))))
/-! ## _law_power -/
abbrev s__law_power : Stmt := topS 37
abbrev N__law_power : List Str := ["base", "many", "found", "k"]
theorem sc__law_power : FnScope N__law_power ["base", "many"] (defScope s__law_power) := ⟨rfl, rfl, rfl, by decide +kernel, rfl, by decide +kernel, by decide +kernel⟩
def r__law_power_b1 (ad : Ad) : QS := (sSet 2 (qBin oMul (qVar 2) (qVar 0)))
def r__law_power (ad : Ad) : QS := (sSeq (sSet 2 (qC (.int 1)))
    (sSeq (sFor (iRange1 (qCons (qVar 1) qNil)) (gN 3) (r__law_power_b1 ad))
    (sRet (qVar 2))))
theorem d__law_power (T : Txt K mg ad) (f : Addr) (cdv : Value) (A : Around) (outer : List Env) (s : Shared) (H : Hp) (E : XK) (hr : Room 0 (A.deeper (envOfC "_law_power" (defScope s__law_power) s.heap.objs.size f cdv))) :
    DB (cxOf (L2N.CX P w) P w K mg base N__law_power "_law_power" (defScope s__law_power) f cdv A outer s H E) (defBody s__law_power) (r__law_power ad) := by
  have hu := hr.units
  have hu5 := u65 hr
  have hp : PassesOwn (model P w) (A.deeper (envOfC "_law_power" (defScope s__law_power) s.heap.objs.size f cdv)) (envOfC "_law_power" (defScope s__law_power) s.heap.objs.size f cdv) (cxOf (L2N.CX P w) P w K mg base N__law_power "_law_power" (defScope s__law_power) f cdv A outer s H E).xe := passes_of (X := cxOf (L2N.CX P w) P w K mg base N__law_power "_law_power" (defScope s__law_power) f cdv A outer s H E) rfl
  exact (db_cons (ds_set (i := 2) sc__law_power.nd rfl (by first | exact Or.inl rfl | exact Or.inr rfl) de_int)
    (db_cons (ds_for hp rfl (di_range1 rfl T.n_range (da_cons (de_var 1) da_nil)) (dg_name (i := 3) sc__law_power.nd rfl (by first | exact Or.inl rfl | exact Or.inr rfl)) (db_one (ds_set (i := 2) sc__law_power.nd rfl (by first | exact Or.inl rfl | exact Or.inr rfl) (de_bin od_mul (de_var 2) (de_var 0)))))
    (db_one (ds_ret (de_var 2)))))
/-! ## law -/
abbrev s_law : Stmt := topS 38
abbrev N_law : List Str := ["script", "state", "turn", "checker", "kept", "length", "many", "last", "place", "odd", "bad", "text", "k"]
theorem sc_law : FnScope N_law ["script"] (defScope s_law) := ⟨rfl, rfl, rfl, by decide +kernel, rfl, by decide +kernel, by decide +kernel⟩
def r_law_t1 (ad : Ad) (tb : List (Addr × Str)) (nm : Str) : QS := (sRet (qC (.bl true)))
def r_law_t2 (ad : Ad) (tb : List (Addr × Str)) (nm : Str) : QS := (sIf (qTB (qBin oNe (qBin oEq (qLam tb N__law_told nm (r__law_told ad) (qCall (sp_place_of ad) (qCons (qVar 3) (qCons (qVar 11) qNil)))) (qTup (qCons (qC (.str "missing")) qNil))) (qNot (qCall (sp__law_valid ad) (qCons (qVar 3) (qCons (qVar 11) qNil)))))) (sRet (qC (.bl false))) sNext)
def r_law_t3 (ad : Ad) (tb : List (Addr × Str)) (nm : Str) : QS := (sSeq (sSet 11 (qMethS mJoin (qC (.str "")) (qCons (qLc (iRange1 (qCons (qC (.int 9)) qNil)) (gN 12) qYes (qBin oIx (qBin oIx (qVar 3) (qC (.int 0))) (qCall (sp__law_next ad) (qCons (qVar 1) (qCons (qCB cLen (qCons (qBin oIx (qVar 3) (qC (.int 0))) qNil)) qNil)))) [12]) qNil)))
    (r_law_t2 ad tb nm))
def r_law_t4 (ad : Ad) (tb : List (Addr × Str)) (nm : Str) : QS := (sSeq (sIf (qOrT (qTB (qBin oNe (qVar 9) (qBin oMulL (qLst (qCons (qTup (qCons (qC (.str "missing")) qNil)) qNil)) (qC (.int 2))))) (qOrT (qTB (qBin oNe (qVar 10) (qBin oMulL (qLst (qCons (qTup (qCons (qC (.str "refused")) qNil)) qNil)) (qC (.int 5))))) (qTB (qBin oNe (qCB cRepr2 (qCons (qVar 3) qNil)) (qVar 4))))) (sRet (qC (.bl false))) sNext)
    (r_law_t3 ad tb nm))
def r_law_t5 (ad : Ad) (tb : List (Addr × Str)) (nm : Str) : QS := (sSeq (sSet 10 (qLst (qCons (qLam tb N__law_told nm (r__law_told ad) (qCall (sp_count_valid ad) (qCons (qVar 3) (qCons (qNeg (qC (.int 1))) qNil)))) (qCons (qLam tb N__law_told nm (r__law_told ad) (qCall (sp_count_valid ad) (qCons (qVar 3) (qCons (qC (.int 201)) qNil)))) (qCons (qLam tb N__law_told nm (r__law_told ad) (qCall (sp_number_at ad) (qCons (qVar 3) (qCons (qC (.int 201)) (qCons (qNeg (qC (.int 1))) qNil))))) (qCons (qLam tb N__law_told nm (r__law_told ad) (qCall (sp_place_of ad) (qCons (qVar 3) (qCons (qC (.str "A")) qNil)))) (qCons (qLam tb N__law_told nm (r__law_told ad) (qCall (sp_place_of ad) (qCons (qVar 3) (qCons (qBin oMulX (qBin oIx (qBin oIx (qVar 3) (qC (.int 0))) (qC (.int 0))) (qC (.int 201))) qNil)))) qNil)))))))
    (r_law_t4 ad tb nm))
def r_law_t6 (ad : Ad) (tb : List (Addr × Str)) (nm : Str) : QS := (sSeq (sSet 9 (qLst (qCons (qLam tb N__law_told nm (r__law_told ad) (qCall (sp_number_at ad) (qCons (qVar 3) (qCons (qVar 5) (qCons (qVar 6) qNil))))) (qCons (qLam tb N__law_told nm (r__law_told ad) (qCall (sp_number_at ad) (qCons (qVar 3) (qCons (qVar 5) (qCons (qNeg (qC (.int 1))) qNil))))) qNil))))
    (r_law_t5 ad tb nm))
def r_law_b1 (ad : Ad) (tb : List (Addr × Str)) (nm : Str) : QS := (sIf (qTB (qChain oLe oLt (qC (.int 0)) (qVar 8) (qVar 6))) (sSeq (sSet 11 (qCall (sp_number_at ad) (qCons (qVar 3) (qCons (qVar 5) (qCons (qVar 8) qNil)))))
    (sSeq (sIf (qOrT (qTB (qBin oNe (qCB cLen (qCons (qVar 11) qNil)) (qVar 5))) (qOrT (qNotT (qTru (qCall (sp__law_valid ad) (qCons (qVar 3) (qCons (qVar 11) qNil))))) (qOrT (qTB (qBin oLt (qVar 11) (qVar 7))) (qNotT (qTru (qCall (sp__law_same ad) (qCons (qCall (sp_place_of ad) (qCons (qVar 3) (qCons (qVar 11) qNil))) (qCons (qVar 8) qNil)))))))) (sRet (qC (.bl false))) sNext)
    (sSet 7 (qVar 11)))) sNext)
def r_law_t7 (ad : Ad) (tb : List (Addr × Str)) (nm : Str) : QS := (sSeq (sFor (iSeq (qLst (qCons (qC (.int 0)) (qCons (qBin oDiv (qBin oMul (qVar 6) (qBin oAdd (qC (.int 1)) (qCall (sp__law_next ad) (qCons (qVar 1) (qCons (qC (.int 999)) qNil))))) (qC (.int 1001))) (qCons (qBin oSub (qVar 6) (qC (.int 1))) qNil))))) (gN 8) (r_law_b1 ad tb nm))
    (r_law_t6 ad tb nm))
def r_law_t8 (ad : Ad) (tb : List (Addr × Str)) (nm : Str) : QS := (sSeq (sSet 7 (qC (.str "")))
    (r_law_t7 ad tb nm))
def r_law_c1 (ad : Ad) (tb : List (Addr × Str)) (nm : Str) : QS := (sIf (qNotT (qTru (qCall (sp__law_same ad) (qCons (qCall (sp_count_valid ad) (qCons (qVar 3) (qCons (qVar 5) qNil))) (qCons (qVar 6) qNil))))) (sRet (qC (.bl false))) sNext)
def r_law_t9 (ad : Ad) (tb : List (Addr × Str)) (nm : Str) : QS := (sSeq (r_law_c1 ad tb nm)
    (r_law_t8 ad tb nm))
def r_law_t10 (ad : Ad) (tb : List (Addr × Str)) (nm : Str) : QS := (sSeq (sSet 6 (qCall (sp__law_count ad) (qCons (qVar 3) (qCons (qVar 5) qNil))))
    (r_law_t9 ad tb nm))
def r_law_t11 (ad : Ad) (tb : List (Addr × Str)) (nm : Str) : QS := (sSeq (sSet 5 (qBin oIx (qLst (qCons (qBin oAdd (qC (.int 5)) (qCall (sp__law_next ad) (qCons (qVar 1) (qCons (qC (.int 30)) qNil)))) (qCons (qC (.int 200)) qNil))) (qCB cToInt (qCons (qBin oEq (qCall (sp__law_next ad) (qCons (qVar 1) (qCons (qC (.int 4)) qNil))) (qC (.int 0))) qNil))))
    (r_law_t10 ad tb nm))
def r_law_b2 (ad : Ad) (tb : List (Addr × Str)) (nm : Str) : QS := (sIf (qAndT (qTB (qBin oLe (qCall (sp__law_power ad) (qCons (qCB cLen (qCons (qBin oIx (qVar 3) (qC (.int 0))) qNil)) (qCons (qVar 5) qNil))) (qC (.int 130)))) (qNotT (qTru (qCall (sp__law_listed ad) (qCons (qVar 3) (qCons (qVar 5) qNil)))))) (sRet (qC (.bl false))) sNext)
def r_law_t12 (ad : Ad) (tb : List (Addr × Str)) (nm : Str) : QS := (sSeq (sFor (iRange1 (qCons (qC (.int 5)) qNil)) (gN 5) (r_law_b2 ad tb nm))
    (r_law_t11 ad tb nm))
def r_law_t13 (ad : Ad) (tb : List (Addr × Str)) (nm : Str) : QS := (sSeq (sSet 4 (qCB cRepr2 (qCons (qVar 3) qNil)))
    (r_law_t12 ad tb nm))
def r_law_b3 (ad : Ad) (tb : List (Addr × Str)) (nm : Str) : QS := (sSeq (sSet 3 (qCall (sp__law_any ad) (qCons (qVar 1) qNil)))
    (r_law_t13 ad tb nm))
def r_law_t14 (ad : Ad) (tb : List (Addr × Str)) (nm : Str) : QS := (sSeq (sFor (iRange1 (qCons (qC (.int 3)) qNil)) (gN 2) (r_law_b3 ad tb nm))
    (r_law_t1 ad tb nm))
def r_law (ad : Ad) (tb : List (Addr × Str)) (nm : Str) : QS := (sSeq (sSet 1 (qLst (qCons (qCall (sp__law_stream ad) (qCons (qVar 0) qNil)) (qCons (qC (.int 0)) qNil))))
    (r_law_t14 ad tb nm))
theorem d_law {tb : List (Addr × Str)} {c Pt : Addr} (T : Txt K mg ad) (TL : ToldT K mg s__law_told ["call"]) (TB : LamX.TabB base mg c Pt) (G__law_any : GF P w K mg base "_law_any" ["state"] 3 (sp__law_any ad)) (G__law_count : GF P w K mg base "_law_count" ["checker", "length"] 1 (sp__law_count ad)) (G__law_next : GF P w K mg base "_law_next" ["state", "many"] 1 (sp__law_next ad)) (G__law_power : GF P w K mg base "_law_power" ["base", "many"] 1 (sp__law_power ad)) (G__law_stream : GF P w K mg base "_law_stream" ["script"] 1 (sp__law_stream ad)) (G__law_valid : GF P w K mg base "_law_valid" ["checker", "text"] 2 (sp__law_valid ad)) (G_count_valid : GF P w K mg base "count_valid" ["checker", "length"] 3 (sp_count_valid ad)) (G_number_at : GF P w K mg base "number_at" ["checker", "length", "place"] 3 (sp_number_at ad)) (G_place_of : GF P w K mg base "place_of" ["checker", "text"] 4 (sp_place_of ad)) (G__law_listed : GG P w K mg base "_law_listed" ["checker", "length"] 5 (sp__law_listed ad)) (G__law_same : GG P w K mg base "_law_same" ["told", "due"] 1 (sp__law_same ad)) (f : Addr) (cdv : Value) (hcv : cdv = .ref c) (A : Around) (outer : List Env) (s : Shared) (H : Hp) (E : XK)
    (hmT : (Pt, (envOfC "law" (defScope s_law) s.heap.objs.size f cdv).qual ++ "<lambda>") ∈ tb) (hu1 : ∀ p ∈ tb, p.1 = Pt → p.2 = (envOfC "law" (defScope s_law) s.heap.objs.size f cdv).qual ++ "<lambda>")
    (hr : Room 6 (A.deeper (envOfC "law" (defScope s_law) s.heap.objs.size f cdv))) (hG : (A.deeper (envOfC "law" (defScope s_law) s.heap.objs.size f cdv)).guards = some []) :
    DB (cxOf (L2N.CX P w) P w K mg base N_law "law" (defScope s_law) f cdv A outer s H E) (defBody s_law) (r_law ad tb ((envOfC "law" (defScope s_law) s.heap.objs.size f cdv).qual ++ "<lambda>")) := by
  have hu := hr.units
  have hu5 := u65 hr
  have hp : PassesOwn (model P w) (A.deeper (envOfC "law" (defScope s_law) s.heap.objs.size f cdv)) (envOfC "law" (defScope s_law) s.heap.objs.size f cdv) (cxOf (L2N.CX P w) P w K mg base N_law "law" (defScope s_law) f cdv A outer s H E).xe := passes_of (X := cxOf (L2N.CX P w) P w K mg base N_law "law" (defScope s_law) f cdv A outer s H E) rfl
  have hcode : (cxOf (L2N.CX P w) P w K mg base N_law "law" (defScope s_law) f cdv A outer s H E).env.code = .ref c := hcv
  have hr0 : Room (4 + 2) (cxOf (L2N.CX P w) P w K mg base N_law "law" (defScope s_law) f cdv A outer s H E).A := hr
  exact (db_cons (ds_set (i := 1) sc_law.nd rfl (by first | exact Or.inl rfl | exact Or.inr rfl) (de_lst (da_cons (de_callF G__law_stream (hr.mono (by decide)) rfl (da_cons (de_var 0) da_nil)) (da_cons de_int da_nil))))
    (db_cons (ds_for hp rfl (di_range1 rfl T.n_range (da_cons de_int da_nil)) (dg_name (i := 2) sc_law.nd rfl (by first | exact Or.inl rfl | exact Or.inr rfl)) (db_cons (ds_set (i := 3) sc_law.nd rfl (by first | exact Or.inl rfl | exact Or.inr rfl) (de_callF G__law_any (hr.mono (by decide)) rfl (da_cons (de_var 1) da_nil)))
    (db_cons (ds_set (i := 4) sc_law.nd rfl (by first | exact Or.inl rfl | exact Or.inr rfl) (de_callB (cd_repr2 hG hu) rfl T.n_repr bb_repr (da_cons (de_var 3) da_nil)))
    (db_cons (ds_for hp rfl (di_range1 rfl T.n_range (da_cons de_int da_nil)) (dg_name (i := 5) sc_law.nd rfl (by first | exact Or.inl rfl | exact Or.inr rfl)) (db_one (ds_if (dw_pt (dw_and (dt_cmp od_le (de_callF G__law_power (hr.mono (by decide)) rfl (da_cons (de_callB cd_len rfl T.n_len bb_len (da_cons (de_ix (de_var 3) de_int) da_nil)) (da_cons (de_var 5) da_nil))) de_int (nomark _)) (dw_and1 (dt_not (dt_truth (de_callGG G__law_listed (hr.mono (by decide)) hG rfl (da_cons (de_var 3) (da_cons (de_var 5) da_nil)))))))) (db_one (ds_ret de_bl)) db_nil)))
    (db_cons (ds_set (i := 5) sc_law.nd rfl (by first | exact Or.inl rfl | exact Or.inr rfl) (de_ix (de_lst (da_cons (de_bin od_add de_int (de_callF G__law_next (hr.mono (by decide)) rfl (da_cons (de_var 1) (da_cons de_int da_nil)))) (da_cons de_int da_nil))) (de_callTy cd_int rfl T.n_int bb_int (da_cons (de_cmp (od_eq hu) (de_callF G__law_next (hr.mono (by decide)) rfl (da_cons (de_var 1) (da_cons de_int da_nil))) de_int (nomark _)) da_nil))))
    (db_cons (ds_set (i := 6) sc_law.nd rfl (by first | exact Or.inl rfl | exact Or.inr rfl) (de_callF G__law_count (hr.mono (by decide)) rfl (da_cons (de_var 3) (da_cons (de_var 5) da_nil))))
    (db_cons (ds_if (dt_not (dt_truth (de_callGG G__law_same (hr.mono (by decide)) hG rfl (da_cons (de_callF G_count_valid (hr.mono (by decide)) rfl (da_cons (de_var 3) (da_cons (de_var 5) da_nil))) (da_cons (de_var 6) da_nil))))) (db_one (ds_ret de_bl)) db_nil)
    (db_cons (ds_set (i := 7) sc_law.nd rfl (by first | exact Or.inl rfl | exact Or.inr rfl) de_str)
    (db_cons (ds_for hp rfl (di_seq (de_lst (da_cons de_int (da_cons (de_bin od_div (de_bin od_mul (de_var 6) (de_bin od_add de_int (de_callF G__law_next (hr.mono (by decide)) rfl (da_cons (de_var 1) (da_cons de_int da_nil))))) de_int) (da_cons (de_bin od_sub (de_var 6) de_int) da_nil))))) (dg_name (i := 8) sc_law.nd rfl (by first | exact Or.inl rfl | exact Or.inr rfl)) (db_one (ds_if (dt_chain od_le od_lt de_int (de_var 8) (de_var 6)) (db_cons (ds_set (i := 11) sc_law.nd rfl (by first | exact Or.inl rfl | exact Or.inr rfl) (de_callF G_number_at (hr.mono (by decide)) rfl (da_cons (de_var 3) (da_cons (de_var 5) (da_cons (de_var 8) da_nil)))))
    (db_cons (ds_if (dw_pt (dw_or (dt_cmp (od_ne hu) (de_callB cd_len rfl T.n_len bb_len (da_cons (de_var 11) da_nil)) (de_var 5) (nomark _)) (dw_or (dt_not (dt_truth (de_callF G__law_valid (hr.mono (by decide)) rfl (da_cons (de_var 3) (da_cons (de_var 11) da_nil))))) (dw_or (dt_cmp od_lt (de_var 11) (de_var 7) (nomark _)) (dw_or1 (dt_not (dt_truth (de_callGG G__law_same (hr.mono (by decide)) hG rfl (da_cons (de_callF G_place_of (hr.mono (by decide)) rfl (da_cons (de_var 3) (da_cons (de_var 11) da_nil))) (da_cons (de_var 8) da_nil)))))))))) (db_one (ds_ret de_bl)) db_nil)
    (db_one (ds_set (i := 7) sc_law.nd rfl (by first | exact Or.inl rfl | exact Or.inr rfl) (de_var 11))))) db_nil)))
    (db_cons (ds_set (i := 9) sc_law.nd rfl (by first | exact Or.inl rfl | exact Or.inr rfl) (de_lst (da_cons (de_told (T := tb) (Ng := N__law_told) (qB := r__law_told ad) TL rfl sc__law_told rfl (Or.inl rfl) (fun g2 cdv2 s2 H2 qc2 hr2 hq2 => d__law_told T s2 H2 qc2 hr2 hq2) TB hcode hmT hu1 hr0 (LamX.lamS_by (sc := defScope s_law) (by decide +kernel)) rfl (fun _ _ _ _ _ => rfl)
      (fun A2 outer2 s2 H2 E2 f2 c2 hr => by have hu := hr.units; have hu5 := u65 hr; exact (de_callF G_number_at (hr.mono (by decide)) rfl (da_cons (de_var 3) (da_cons (de_var 5) (da_cons (de_var 6) da_nil)))))) (da_cons (de_told (T := tb) (Ng := N__law_told) (qB := r__law_told ad) TL rfl sc__law_told rfl (Or.inl rfl) (fun g2 cdv2 s2 H2 qc2 hr2 hq2 => d__law_told T s2 H2 qc2 hr2 hq2) TB hcode hmT hu1 hr0 (LamX.lamS_by (sc := defScope s_law) (by decide +kernel)) rfl (fun _ _ _ _ _ => rfl)
      (fun A2 outer2 s2 H2 E2 f2 c2 hr => by have hu := hr.units; have hu5 := u65 hr; exact (de_callF G_number_at (hr.mono (by decide)) rfl (da_cons (de_var 3) (da_cons (de_var 5) (da_cons (de_neg de_int) da_nil)))))) da_nil))))
    (db_cons (ds_set (i := 10) sc_law.nd rfl (by first | exact Or.inl rfl | exact Or.inr rfl) (de_lst (da_cons (de_told (T := tb) (Ng := N__law_told) (qB := r__law_told ad) TL rfl sc__law_told rfl (Or.inl rfl) (fun g2 cdv2 s2 H2 qc2 hr2 hq2 => d__law_told T s2 H2 qc2 hr2 hq2) TB hcode hmT hu1 hr0 (LamX.lamS_by (sc := defScope s_law) (by decide +kernel)) rfl (fun _ _ _ _ _ => rfl)
      (fun A2 outer2 s2 H2 E2 f2 c2 hr => by have hu := hr.units; have hu5 := u65 hr; exact (de_callF G_count_valid (hr.mono (by decide)) rfl (da_cons (de_var 3) (da_cons (de_neg de_int) da_nil))))) (da_cons (de_told (T := tb) (Ng := N__law_told) (qB := r__law_told ad) TL rfl sc__law_told rfl (Or.inl rfl) (fun g2 cdv2 s2 H2 qc2 hr2 hq2 => d__law_told T s2 H2 qc2 hr2 hq2) TB hcode hmT hu1 hr0 (LamX.lamS_by (sc := defScope s_law) (by decide +kernel)) rfl (fun _ _ _ _ _ => rfl)
      (fun A2 outer2 s2 H2 E2 f2 c2 hr => by have hu := hr.units; have hu5 := u65 hr; exact (de_callF G_count_valid (hr.mono (by decide)) rfl (da_cons (de_var 3) (da_cons de_int da_nil))))) (da_cons (de_told (T := tb) (Ng := N__law_told) (qB := r__law_told ad) TL rfl sc__law_told rfl (Or.inl rfl) (fun g2 cdv2 s2 H2 qc2 hr2 hq2 => d__law_told T s2 H2 qc2 hr2 hq2) TB hcode hmT hu1 hr0 (LamX.lamS_by (sc := defScope s_law) (by decide +kernel)) rfl (fun _ _ _ _ _ => rfl)
      (fun A2 outer2 s2 H2 E2 f2 c2 hr => by have hu := hr.units; have hu5 := u65 hr; exact (de_callF G_number_at (hr.mono (by decide)) rfl (da_cons (de_var 3) (da_cons de_int (da_cons (de_neg de_int) da_nil)))))) (da_cons (de_told (T := tb) (Ng := N__law_told) (qB := r__law_told ad) TL rfl sc__law_told rfl (Or.inl rfl) (fun g2 cdv2 s2 H2 qc2 hr2 hq2 => d__law_told T s2 H2 qc2 hr2 hq2) TB hcode hmT hu1 hr0 (LamX.lamS_by (sc := defScope s_law) (by decide +kernel)) rfl (fun _ _ _ _ _ => rfl)
      (fun A2 outer2 s2 H2 E2 f2 c2 hr => by have hu := hr.units; have hu5 := u65 hr; exact (de_callF G_place_of (hr.mono (by decide)) rfl (da_cons (de_var 3) (da_cons de_str da_nil))))) (da_cons (de_told (T := tb) (Ng := N__law_told) (qB := r__law_told ad) TL rfl sc__law_told rfl (Or.inl rfl) (fun g2 cdv2 s2 H2 qc2 hr2 hq2 => d__law_told T s2 H2 qc2 hr2 hq2) TB hcode hmT hu1 hr0 (LamX.lamS_by (sc := defScope s_law) (by decide +kernel)) rfl (fun _ _ _ _ _ => rfl)
      (fun A2 outer2 s2 H2 E2 f2 c2 hr => by have hu := hr.units; have hu5 := u65 hr; exact (de_callF G_place_of (hr.mono (by decide)) rfl (da_cons (de_var 3) (da_cons (de_bin od_mulX (de_ix (de_ix (de_var 3) de_int) de_int) de_int) da_nil))))) da_nil)))))))
    (db_cons (ds_if (dw_pt (dw_or (dt_cmp (od_ne hu) (de_var 9) (de_bin od_mulL (de_lst (da_cons (de_tup (da_cons de_str da_nil)) da_nil)) de_int) (nomark _)) (dw_or (dt_cmp (od_ne hu) (de_var 10) (de_bin od_mulL (de_lst (da_cons (de_tup (da_cons de_str da_nil)) da_nil)) de_int) (nomark _)) (dw_or1 (dt_cmp (od_ne hu) (de_callB (cd_repr2 hG hu) rfl T.n_repr bb_repr (da_cons (de_var 3) da_nil)) (de_var 4) (nomark _)))))) (db_one (ds_ret de_bl)) db_nil)
    (db_cons (ds_set (i := 11) sc_law.nd rfl (by first | exact Or.inl rfl | exact Or.inr rfl) (de_methS PySem.F.slot_str_join PySem.F.type_str_join ms_join de_str (da_cons (de_lc (own := [("k", 12)]) rfl sc_law.nd (di_range1 rfl T.n_range (da_cons de_int da_nil)) (blkOk_by (own := [("k", 12)]) (N := N_law) (sc := defScope s_law) (by decide +kernel)) (fun _ _ _ _ _ => (dgo_name (i := 12) sc_law.nd rfl (by decide) (by first | exact Or.inl rfl | exact Or.inr rfl))) (fun _ _ _ _ _ => dts_nil) (fun _ _ _ _ _ => (de_ix (de_ix (de_var 3) de_int) (de_callF G__law_next (hr.mono (by decide)) rfl (da_cons (de_var 1) (da_cons (de_callB cd_len rfl T.n_len bb_len (da_cons (de_ix (de_var 3) de_int) da_nil)) da_nil)))))) da_nil)))
    (db_one (ds_if (dt_cmp (od_ne hu) (de_cmp (od_eq hu) (de_told (T := tb) (Ng := N__law_told) (qB := r__law_told ad) TL rfl sc__law_told rfl (Or.inl rfl) (fun g2 cdv2 s2 H2 qc2 hr2 hq2 => d__law_told T s2 H2 qc2 hr2 hq2) TB hcode hmT hu1 hr0 (LamX.lamS_by (sc := defScope s_law) (by decide +kernel)) rfl (fun _ _ _ _ _ => rfl)
      (fun A2 outer2 s2 H2 E2 f2 c2 hr => by have hu := hr.units; have hu5 := u65 hr; exact (de_callF G_place_of (hr.mono (by decide)) rfl (da_cons (de_var 3) (da_cons (de_var 11) da_nil))))) (de_tup (da_cons de_str da_nil)) (nomark _)) (de_not (de_callF G__law_valid (hr.mono (by decide)) rfl (da_cons (de_var 3) (da_cons (de_var 11) da_nil)))) (nomark _)) (db_one (ds_ret de_bl)) db_nil)))))))))))))))
    (db_one (ds_ret de_bl))))
end
end K21

namespace K21
open PySem PySem.Spec PyProof.Rows L2 PL
variable {ad : Ad}
theorem wd_len {l : List Nat} : ∀ n, (wd l n).length = l.length ^ n
  | 0 => rfl
  | n + 1 => by
    show ((wd l n).flatMap fun w => l.map fun a => w ++ [a]).length = _
    rw [List.length_flatMap]
    have : ((wd l n).map fun w => (l.map fun a => w ++ [a]).length) = (wd l n).map fun _ => l.length := List.map_congr_left fun w _ => by rw [List.length_map]
    rw [this, List.map_const', List.sum_replicate_nat, wd_len n, Nat.pow_succ]
theorem wd_mem {l : List Nat} : ∀ (n : Nat) (w : List Nat), w ∈ wd l n → w.length = n ∧ ∀ a ∈ w, a ∈ l
  | 0, w, h => by
    have : w = [] := by simpa [wd] using h
    subst this
    exact ⟨rfl, fun a ha => by cases ha⟩
  | n + 1, w, h => by
    obtain ⟨u, hu, h2⟩ := List.mem_flatMap.mp h
    obtain ⟨a, ha, rfl⟩ := List.mem_map.mp h2
    obtain ⟨g1, g2⟩ := wd_mem n u hu
    refine ⟨by rw [List.length_append, g1]; rfl, fun b hb => ?_⟩
    rcases List.mem_append.mp hb with z | z
    · exact g2 b z
    · rw [List.mem_singleton.mp z]
      exact ha
def eW (w : List Nat) : D := .str (tx w)
theorem p__law_texts : ∀ ds S Q E, sp__law_texts ad ds S Q E → r__law_texts ad (endsF Q E) (startD N__law_texts ds) S := by
  rintro ds S Q E ⟨l, n, rfl, hl1, hl2, hn, hlen, q⟩
  simp only [r__law_texts, sSeq, sNext_eq, sBreak_eq, sCont_eq, sDrop, sRet, sRetN, sIf, sSet, sPar, sAsg, sRaise, gN, gE, gC, gU, gS, qVar, qC, qBin, qTB, qChain, qNot, qAnd, qOr, bd_bl, qNotT, qAndT, qOrT, qTru, tru_non, tru_bl, tru_int, tru_str, tru_tup, tru_rol, tru_ref, qIf, qNil, qCons, qTup, qLst, qCB, cInt_i, cInt2_ii, cToInt_i, cToInt_b, cLen_s, cLen_t, cLen_r, cLen_l, cTuple_t, cTuple_r, cTuple_l, cList_t, cList_r, cList_l, qNeg, oI_ii, oAdd_ii, oSub, oMul, oDiv, oMod, oPow, oEq, oNe, oEqW_ii, oEqW_ss, oEqW_bb, oLt, oLe, oGt, oGe, oOrd_ii, oOrd_ss, oIx_t, oIx_r, oIx_l, oIx_s, qNo, qPart, qSl, oSl_t, oSl_r, oSl_l, oSl_s, qMeth, mAppend_1, iSeq, iRange1, iRange2, qCall, endsF, startD, List.map_cons, List.map_nil, List.length_cons, List.length_nil, List.length_map, List.cons_append, List.nil_append, List.replicate, List.getElem?_cons_zero, List.getElem?_cons_succ, List.set_cons_zero, List.set_cons_succ, Nat.reduceAdd, Nat.reduceSub, if_true, if_false, id, ups_same, ex_lst, ex_lst2, ex_some, atI_0, atI_1, atI_2, atI_3, ixN_0, ixN_1, ixN_21, oIx_p]
  refine ⟨by decide, fun p0 hp0 => ?_⟩
  refine for_intro ?_
  simp only [sSeq, sNext_eq, sBreak_eq, sCont_eq, sDrop, sRet, sRetN, sIf, sSet, sPar, sAsg, sRaise, gN, gE, gC, gU, gS, qVar, qC, qBin, qTB, qChain, qNot, qAnd, qOr, bd_bl, qNotT, qAndT, qOrT, qTru, tru_non, tru_bl, tru_int, tru_str, tru_tup, tru_rol, tru_ref, qIf, qNil, qCons, qTup, qLst, qCB, cInt_i, cInt2_ii, cToInt_i, cToInt_b, cLen_s, cLen_t, cLen_r, cLen_l, cTuple_t, cTuple_r, cTuple_l, cList_t, cList_r, cList_l, qNeg, oI_ii, oAdd_ii, oSub, oMul, oDiv, oMod, oPow, oEq, oNe, oEqW_ii, oEqW_ss, oEqW_bb, oLt, oLe, oGt, oGe, oOrd_ii, oOrd_ss, oIx_t, oIx_r, oIx_l, oIx_s, qNo, qPart, qSl, oSl_t, oSl_r, oSl_l, oSl_s, qMeth, mAppend_1, iSeq, iRange1, iRange2, qCall, endsF, startD, List.map_cons, List.map_nil, List.length_cons, List.length_nil, List.length_map, List.cons_append, List.nil_append, List.replicate, List.getElem?_cons_zero, List.getElem?_cons_succ, List.set_cons_zero, List.set_cons_succ, Nat.reduceAdd, Nat.reduceSub, if_true, if_false, id, ups_same, ex_lst, ex_lst2, ex_some, atI_0, atI_1, atI_2, atI_3, ixN_0, ixN_1, ixN_21, oIx_p]
  refine ⟨by omega, by omega, fun i loc S' => ∃ (z3 z4 z5 : Option D) (p : Addr), loc = [some (.str (tx l)), some (.int n), some (.ref p), z3, z4, z5, none] ∧ S' p = some (.lst ((wd l i).map eW)) ∧ Sub S S', ⟨none, none, none, p0, rfl, ups_same, (Sub.refl S).new hp0⟩, ?_, ?_⟩
  · rintro i d loc S' hi ⟨z3, z4, z5, p, rfl, e1, sub⟩
    obtain ⟨hi1, rfl⟩ := rangeD_get hi
    have hin : i + 1 ≤ n := by omega
    refine ⟨trivial, ?_⟩
    have hmono : (wd l (i + 1)).length ≤ 2000 := by
      rw [wd_len] at hlen ⊢
      exact Nat.le_trans (Nat.pow_le_pow_right (by omega) hin) hlen
    have hmono0 : (wd l i).length ≤ 2000 := by
      rw [wd_len] at hlen ⊢
      exact Nat.le_trans (Nat.pow_le_pow_right (by omega) (by omega)) hlen
    simp only [r__law_texts_b2, sSeq, sNext_eq, sBreak_eq, sCont_eq, sDrop, sRet, sRetN, sIf, sSet, sPar, sAsg, sRaise, gN, gE, gC, gU, gS, qVar, qC, qBin, qTB, qChain, qNot, qAnd, qOr, bd_bl, qNotT, qAndT, qOrT, qTru, tru_non, tru_bl, tru_int, tru_str, tru_tup, tru_rol, tru_ref, qIf, qNil, qCons, qTup, qLst, qCB, cInt_i, cInt2_ii, cToInt_i, cToInt_b, cLen_s, cLen_t, cLen_r, cLen_l, cTuple_t, cTuple_r, cTuple_l, cList_t, cList_r, cList_l, qNeg, oI_ii, oAdd_ii, oSub, oMul, oDiv, oMod, oPow, oEq, oNe, oEqW_ii, oEqW_ss, oEqW_bb, oLt, oLe, oGt, oGe, oOrd_ii, oOrd_ss, oIx_t, oIx_r, oIx_l, oIx_s, qNo, qPart, qSl, oSl_t, oSl_r, oSl_l, oSl_s, qMeth, mAppend_1, iSeq, iRange1, iRange2, qCall, endsF, startD, List.map_cons, List.map_nil, List.length_cons, List.length_nil, List.length_map, List.cons_append, List.nil_append, List.replicate, List.getElem?_cons_zero, List.getElem?_cons_succ, List.set_cons_zero, List.set_cons_succ, Nat.reduceAdd, Nat.reduceSub, if_true, if_false, id, ups_same, ex_lst, ex_lst2, ex_some, atI_0, atI_1, atI_2, atI_3, ixN_0, ixN_1, ixN_21, oIx_p]
    refine ⟨by decide, fun q0 hq0 => ?_⟩
    refine for_intro ?_
    have s0 : Sub S' (ups S' q0 (.lst [])) := (Sub.refl S').new hq0
    simp only [sSeq, sNext_eq, sBreak_eq, sCont_eq, sDrop, sRet, sRetN, sIf, sSet, sPar, sAsg, sRaise, gN, gE, gC, gU, gS, qVar, qC, qBin, qTB, qChain, qNot, qAnd, qOr, bd_bl, qNotT, qAndT, qOrT, qTru, tru_non, tru_bl, tru_int, tru_str, tru_tup, tru_rol, tru_ref, qIf, qNil, qCons, qTup, qLst, qCB, cInt_i, cInt2_ii, cToInt_i, cToInt_b, cLen_s, cLen_t, cLen_r, cLen_l, cTuple_t, cTuple_r, cTuple_l, cList_t, cList_r, cList_l, qNeg, oI_ii, oAdd_ii, oSub, oMul, oDiv, oMod, oPow, oEq, oNe, oEqW_ii, oEqW_ss, oEqW_bb, oLt, oLe, oGt, oGe, oOrd_ii, oOrd_ss, oIx_t, oIx_r, oIx_l, oIx_s, qNo, qPart, qSl, oSl_t, oSl_r, oSl_l, oSl_s, qMeth, mAppend_1, iSeq, iRange1, iRange2, qCall, endsF, startD, List.map_cons, List.map_nil, List.length_cons, List.length_nil, List.length_map, List.cons_append, List.nil_append, List.replicate, List.getElem?_cons_zero, List.getElem?_cons_succ, List.set_cons_zero, List.set_cons_succ, Nat.reduceAdd, Nat.reduceSub, if_true, if_false, id, ups_same, ex_lst, ex_lst2, ex_some, atI_0, atI_1, atI_2, atI_3, ixN_0, ixN_1, ixN_21, oIx_p]
    refine ⟨_, s0 _ _ e1, fun j loc S2 => ∃ (z5 : Option D) (q1 : Addr), loc = [some (.str (tx l)), some (.int n), some (.ref p), some (.int (0 + (i : Int))), some (.ref q1), z5, none] ∧ S2 q1 = some (.lst ((((wd l i).take j).flatMap fun w => l.map fun a => w ++ [a]).map eW)) ∧ Sub S' S2, ⟨_, q0, rfl, ups_same, s0⟩, ?_, ?_⟩
    · rintro j d loc S2 hj ⟨z5, q1, rfl, e2, s2⟩
      obtain ⟨w, hw, rfl⟩ := get_emb (show ((wd l i).map eW)[j]? = some d from hj)
      obtain ⟨hw1, hw2⟩ := wd_mem i w (List.mem_of_getElem? hw)
      refine ⟨s2 _ _ e1, ?_⟩
      simp only [r__law_texts_b1, eW, sSeq, sNext_eq, sBreak_eq, sCont_eq, sDrop, sRet, sRetN, sIf, sSet, sPar, sAsg, sRaise, gN, gE, gC, gU, gS, qVar, qC, qBin, qTB, qChain, qNot, qAnd, qOr, bd_bl, qNotT, qAndT, qOrT, qTru, tru_non, tru_bl, tru_int, tru_str, tru_tup, tru_rol, tru_ref, qIf, qNil, qCons, qTup, qLst, qCB, cInt_i, cInt2_ii, cToInt_i, cToInt_b, cLen_s, cLen_t, cLen_r, cLen_l, cTuple_t, cTuple_r, cTuple_l, cList_t, cList_r, cList_l, qNeg, oI_ii, oAdd_ii, oSub, oMul, oDiv, oMod, oPow, oEq, oNe, oEqW_ii, oEqW_ss, oEqW_bb, oLt, oLe, oGt, oGe, oOrd_ii, oOrd_ss, oIx_t, oIx_r, oIx_l, oIx_s, qNo, qPart, qSl, oSl_t, oSl_r, oSl_l, oSl_s, qMeth, mAppend_1, iSeq, iRange1, iRange2, qCall, endsF, startD, List.map_cons, List.map_nil, List.length_cons, List.length_nil, List.length_map, List.cons_append, List.nil_append, List.replicate, List.getElem?_cons_zero, List.getElem?_cons_succ, List.set_cons_zero, List.set_cons_succ, Nat.reduceAdd, Nat.reduceSub, if_true, if_false, id, ups_same, ex_lst, ex_lst2, ex_some, atI_0, atI_1, atI_2, atI_3, ixN_0, ixN_1, ixN_21, oIx_p]
      refine lc_mapT (.vals (chars (tx l))) l cD (fun a => .str (tx (w ++ [a]))) (S1 := S2) (fun Q hQ => by simp only [sSeq, sNext_eq, sBreak_eq, sCont_eq, sDrop, sRet, sRetN, sIf, sSet, sPar, sAsg, sRaise, gN, gE, gC, gU, gS, qVar, qC, qBin, qTB, qChain, qNot, qAnd, qOr, bd_bl, qNotT, qAndT, qOrT, qTru, tru_non, tru_bl, tru_int, tru_str, tru_tup, tru_rol, tru_ref, qIf, qNil, qCons, qTup, qLst, qCB, cInt_i, cInt2_ii, cToInt_i, cToInt_b, cLen_s, cLen_t, cLen_r, cLen_l, cTuple_t, cTuple_r, cTuple_l, cList_t, cList_r, cList_l, qNeg, oI_ii, oAdd_ii, oSub, oMul, oDiv, oMod, oPow, oEq, oNe, oEqW_ii, oEqW_ss, oEqW_bb, oLt, oLe, oGt, oGe, oOrd_ii, oOrd_ss, oIx_t, oIx_r, oIx_l, oIx_s, qNo, qPart, qSl, oSl_t, oSl_r, oSl_l, oSl_s, qMeth, mAppend_1, iSeq, iRange1, iRange2, qCall, endsF, startD, List.map_cons, List.map_nil, List.length_cons, List.length_nil, List.length_map, List.cons_append, List.nil_append, List.replicate, List.getElem?_cons_zero, List.getElem?_cons_succ, List.set_cons_zero, List.set_cons_succ, Nat.reduceAdd, Nat.reduceSub, if_true, if_false, id, ups_same, ex_lst, ex_lst2, ex_some, atI_0, atI_1, atI_2, atI_3, ixN_0, ixN_1, ixN_21, oIx_p]; exact hQ) ok_vals chars_tx (by omega) (fun a S3 C ha s3 hC => ?_) fun q2 S3 hq2 s3 e3 => ?_
      · simp only [wipeD, cD, sSeq, sNext_eq, sBreak_eq, sCont_eq, sDrop, sRet, sRetN, sIf, sSet, sPar, sAsg, sRaise, gN, gE, gC, gU, gS, qVar, qC, qBin, qTB, qChain, qNot, qAnd, qOr, bd_bl, qNotT, qAndT, qOrT, qTru, tru_non, tru_bl, tru_int, tru_str, tru_tup, tru_rol, tru_ref, qIf, qNil, qCons, qTup, qLst, qCB, cInt_i, cInt2_ii, cToInt_i, cToInt_b, cLen_s, cLen_t, cLen_r, cLen_l, cTuple_t, cTuple_r, cTuple_l, cList_t, cList_r, cList_l, qNeg, oI_ii, oAdd_ii, oSub, oMul, oDiv, oMod, oPow, oEq, oNe, oEqW_ii, oEqW_ss, oEqW_bb, oLt, oLe, oGt, oGe, oOrd_ii, oOrd_ss, oIx_t, oIx_r, oIx_l, oIx_s, qNo, qPart, qSl, oSl_t, oSl_r, oSl_l, oSl_s, qMeth, mAppend_1, iSeq, iRange1, iRange2, qCall, endsF, startD, List.map_cons, List.map_nil, List.length_cons, List.length_nil, List.length_map, List.cons_append, List.nil_append, List.replicate, List.getElem?_cons_zero, List.getElem?_cons_succ, List.set_cons_zero, List.set_cons_succ, Nat.reduceAdd, Nat.reduceSub, if_true, if_false, id, ups_same, ex_lst, ex_lst2, ex_some, atI_0, atI_1, atI_2, atI_3, ixN_0, ixN_1, ixN_21, oIx_p]
        rw [show (⟨#[a]⟩ : Str) = tx [a] from rfl, oAdd_ss, tx_app, tx_len, tx_len]
        exact ⟨szL (by simp; omega), hC S3 (Sub.refl _)⟩
      · have et : ((wd l i).take (j + 1)).flatMap (fun w => l.map fun a => w ++ [a]) = ((wd l i).take j).flatMap (fun w => l.map fun a => w ++ [a]) ++ l.map fun a => w ++ [a] := by
          rw [List.take_succ, hw, List.flatMap_append]
          simp
        have hle : (((wd l i).take (j + 1)).flatMap fun w => l.map fun a => w ++ [a]).length ≤ 2000 := by
          refine Nat.le_trans ?_ hmono
          show _ ≤ ((wd l i).flatMap fun w => l.map fun a => w ++ [a]).length
          conv => rhs; rw [← List.take_append_drop (j + 1) (wd l i), List.flatMap_append]
          rw [List.length_append]
          omega
        rw [et] at hle
        refine ⟨_, _, s3 _ _ e2, e3, szL (by rw [List.length_append] at hle; simp only [List.length_map] at hle ⊢; omega), fun q3 hq3 => ?_⟩
        refine ⟨_, q3, rfl, ?_, (s2.trans s3).new hq3⟩
        rw [ups_same, et, List.map_append, List.map_map]
        rfl
    · rintro loc S2 ⟨z5, q1, rfl, e2, s2⟩
      have e9 : (Src.live p ((wd l i).map eW)).items.length = (wd l i).length := by
        show ((wd l i).map eW).length = _
        rw [List.length_map]
      rw [e9, List.take_length] at e2
      refine ⟨s2 _ _ e1, ?_⟩
      try simp only [sSeq, sNext_eq, sBreak_eq, sCont_eq, sDrop, sRet, sRetN, sIf, sSet, sPar, sAsg, sRaise, gN, gE, gC, gU, gS, qVar, qC, qBin, qTB, qChain, qNot, qAnd, qOr, bd_bl, qNotT, qAndT, qOrT, qTru, tru_non, tru_bl, tru_int, tru_str, tru_tup, tru_rol, tru_ref, qIf, qNil, qCons, qTup, qLst, qCB, cInt_i, cInt2_ii, cToInt_i, cToInt_b, cLen_s, cLen_t, cLen_r, cLen_l, cTuple_t, cTuple_r, cTuple_l, cList_t, cList_r, cList_l, qNeg, oI_ii, oAdd_ii, oSub, oMul, oDiv, oMod, oPow, oEq, oNe, oEqW_ii, oEqW_ss, oEqW_bb, oLt, oLe, oGt, oGe, oOrd_ii, oOrd_ss, oIx_t, oIx_r, oIx_l, oIx_s, qNo, qPart, qSl, oSl_t, oSl_r, oSl_l, oSl_s, qMeth, mAppend_1, iSeq, iRange1, iRange2, qCall, endsF, startD, List.map_cons, List.map_nil, List.length_cons, List.length_nil, List.length_map, List.cons_append, List.nil_append, List.replicate, List.getElem?_cons_zero, List.getElem?_cons_succ, List.set_cons_zero, List.set_cons_succ, Nat.reduceAdd, Nat.reduceSub, if_true, if_false, id, ups_same, ex_lst, ex_lst2, ex_some, atI_0, atI_1, atI_2, atI_3, ixN_0, ixN_1, ixN_21, oIx_p]
      exact ⟨_, _, _, q1, rfl, e2, sub.trans s2⟩
  · rintro loc S' ⟨z3, z4, z5, p, rfl, e1, sub⟩
    rw [PL.range_items, List.length_map, List.length_range] at e1
    refine ⟨trivial, ?_⟩
    try simp only [sSeq, sNext_eq, sBreak_eq, sCont_eq, sDrop, sRet, sRetN, sIf, sSet, sPar, sAsg, sRaise, gN, gE, gC, gU, gS, qVar, qC, qBin, qTB, qChain, qNot, qAnd, qOr, bd_bl, qNotT, qAndT, qOrT, qTru, tru_non, tru_bl, tru_int, tru_str, tru_tup, tru_rol, tru_ref, qIf, qNil, qCons, qTup, qLst, qCB, cInt_i, cInt2_ii, cToInt_i, cToInt_b, cLen_s, cLen_t, cLen_r, cLen_l, cTuple_t, cTuple_r, cTuple_l, cList_t, cList_r, cList_l, qNeg, oI_ii, oAdd_ii, oSub, oMul, oDiv, oMod, oPow, oEq, oNe, oEqW_ii, oEqW_ss, oEqW_bb, oLt, oLe, oGt, oGe, oOrd_ii, oOrd_ss, oIx_t, oIx_r, oIx_l, oIx_s, qNo, qPart, qSl, oSl_t, oSl_r, oSl_l, oSl_s, qMeth, mAppend_1, iSeq, iRange1, iRange2, qCall, endsF, startD, List.map_cons, List.map_nil, List.length_cons, List.length_nil, List.length_map, List.cons_append, List.nil_append, List.replicate, List.getElem?_cons_zero, List.getElem?_cons_succ, List.set_cons_zero, List.set_cons_succ, Nat.reduceAdd, Nat.reduceSub, if_true, if_false, id, ups_same, ex_lst, ex_lst2, ex_some, atI_0, atI_1, atI_2, atI_3, ixN_0, ixN_1, ixN_21, oIx_p]
    exact ⟨S', Sub.refl _, q p S' sub e1⟩
theorem p__law_power : ∀ ds S Q E, sp__law_power ad ds S Q E → r__law_power ad (endsF Q E) (startD N__law_power ds) S := by
  rintro ds S Q E ⟨b, m, rfl, hb, hm, q⟩
  simp only [r__law_power, sSeq, sNext_eq, sBreak_eq, sCont_eq, sDrop, sRet, sRetN, sIf, sSet, sPar, sAsg, sRaise, gN, gE, gC, gU, gS, qVar, qC, qBin, qTB, qChain, qNot, qAnd, qOr, bd_bl, qNotT, qAndT, qOrT, qTru, tru_non, tru_bl, tru_int, tru_str, tru_tup, tru_rol, tru_ref, qIf, qNil, qCons, qTup, qLst, qCB, cInt_i, cInt2_ii, cToInt_i, cToInt_b, cLen_s, cLen_t, cLen_r, cLen_l, cTuple_t, cTuple_r, cTuple_l, cList_t, cList_r, cList_l, qNeg, oI_ii, oAdd_ii, oSub, oMul, oDiv, oMod, oPow, oEq, oNe, oEqW_ii, oEqW_ss, oEqW_bb, oLt, oLe, oGt, oGe, oOrd_ii, oOrd_ss, oIx_t, oIx_r, oIx_l, oIx_s, qNo, qPart, qSl, oSl_t, oSl_r, oSl_l, oSl_s, qMeth, mAppend_1, iSeq, iRange1, iRange2, qCall, endsF, startD, List.map_cons, List.map_nil, List.length_cons, List.length_nil, List.length_map, List.cons_append, List.nil_append, List.replicate, List.getElem?_cons_zero, List.getElem?_cons_succ, List.set_cons_zero, List.set_cons_succ, Nat.reduceAdd, Nat.reduceSub, if_true, if_false, id, ups_same, ex_lst, ex_lst2, ex_some, atI_0, atI_1, atI_2, atI_3, ixN_0, ixN_1, ixN_21, oIx_p]
  refine for_intro ?_
  simp only [sSeq, sNext_eq, sBreak_eq, sCont_eq, sDrop, sRet, sRetN, sIf, sSet, sPar, sAsg, sRaise, gN, gE, gC, gU, gS, qVar, qC, qBin, qTB, qChain, qNot, qAnd, qOr, bd_bl, qNotT, qAndT, qOrT, qTru, tru_non, tru_bl, tru_int, tru_str, tru_tup, tru_rol, tru_ref, qIf, qNil, qCons, qTup, qLst, qCB, cInt_i, cInt2_ii, cToInt_i, cToInt_b, cLen_s, cLen_t, cLen_r, cLen_l, cTuple_t, cTuple_r, cTuple_l, cList_t, cList_r, cList_l, qNeg, oI_ii, oAdd_ii, oSub, oMul, oDiv, oMod, oPow, oEq, oNe, oEqW_ii, oEqW_ss, oEqW_bb, oLt, oLe, oGt, oGe, oOrd_ii, oOrd_ss, oIx_t, oIx_r, oIx_l, oIx_s, qNo, qPart, qSl, oSl_t, oSl_r, oSl_l, oSl_s, qMeth, mAppend_1, iSeq, iRange1, iRange2, qCall, endsF, startD, List.map_cons, List.map_nil, List.length_cons, List.length_nil, List.length_map, List.cons_append, List.nil_append, List.replicate, List.getElem?_cons_zero, List.getElem?_cons_succ, List.set_cons_zero, List.set_cons_succ, Nat.reduceAdd, Nat.reduceSub, if_true, if_false, id, ups_same, ex_lst, ex_lst2, ex_some, atI_0, atI_1, atI_2, atI_3, ixN_0, ixN_1, ixN_21, oIx_p]
  refine ⟨by omega, by omega, fun i loc S' => (∃ z3, loc = [some (.int b), some (.int m), some (.int ((b ^ i : Nat) : Int)), z3]) ∧ S' = S, ⟨⟨_, rfl⟩, rfl⟩, ?_, ?_⟩
  · rintro i d loc S' hi ⟨⟨z3, rfl⟩, rfl⟩
    obtain ⟨hi1, rfl⟩ := rangeD_get hi
    refine ⟨trivial, ?_⟩
    simp only [r__law_power_b1, sSeq, sNext_eq, sBreak_eq, sCont_eq, sDrop, sRet, sRetN, sIf, sSet, sPar, sAsg, sRaise, gN, gE, gC, gU, gS, qVar, qC, qBin, qTB, qChain, qNot, qAnd, qOr, bd_bl, qNotT, qAndT, qOrT, qTru, tru_non, tru_bl, tru_int, tru_str, tru_tup, tru_rol, tru_ref, qIf, qNil, qCons, qTup, qLst, qCB, cInt_i, cInt2_ii, cToInt_i, cToInt_b, cLen_s, cLen_t, cLen_r, cLen_l, cTuple_t, cTuple_r, cTuple_l, cList_t, cList_r, cList_l, qNeg, oI_ii, oAdd_ii, oSub, oMul, oDiv, oMod, oPow, oEq, oNe, oEqW_ii, oEqW_ss, oEqW_bb, oLt, oLe, oGt, oGe, oOrd_ii, oOrd_ss, oIx_t, oIx_r, oIx_l, oIx_s, qNo, qPart, qSl, oSl_t, oSl_r, oSl_l, oSl_s, qMeth, mAppend_1, iSeq, iRange1, iRange2, qCall, endsF, startD, List.map_cons, List.map_nil, List.length_cons, List.length_nil, List.length_map, List.cons_append, List.nil_append, List.replicate, List.getElem?_cons_zero, List.getElem?_cons_succ, List.set_cons_zero, List.set_cons_succ, Nat.reduceAdd, Nat.reduceSub, if_true, if_false, id, ups_same, ex_lst, ex_lst2, ex_some, atI_0, atI_1, atI_2, atI_3, ixN_0, ixN_1, ixN_21, oIx_p]
    refine ⟨CMul.ofR (by omega), ?_⟩
    rw [← Int.natCast_mul, ← Nat.pow_succ]
    exact ⟨⟨_, rfl⟩, by first | rfl | trivial⟩
  · rintro loc S' ⟨⟨z3, rfl⟩, rfl⟩
    rw [PL.range_items, List.length_map, List.length_range]
    refine ⟨trivial, ?_⟩
    try simp only [sSeq, sNext_eq, sBreak_eq, sCont_eq, sDrop, sRet, sRetN, sIf, sSet, sPar, sAsg, sRaise, gN, gE, gC, gU, gS, qVar, qC, qBin, qTB, qChain, qNot, qAnd, qOr, bd_bl, qNotT, qAndT, qOrT, qTru, tru_non, tru_bl, tru_int, tru_str, tru_tup, tru_rol, tru_ref, qIf, qNil, qCons, qTup, qLst, qCB, cInt_i, cInt2_ii, cToInt_i, cToInt_b, cLen_s, cLen_t, cLen_r, cLen_l, cTuple_t, cTuple_r, cTuple_l, cList_t, cList_r, cList_l, qNeg, oI_ii, oAdd_ii, oSub, oMul, oDiv, oMod, oPow, oEq, oNe, oEqW_ii, oEqW_ss, oEqW_bb, oLt, oLe, oGt, oGe, oOrd_ii, oOrd_ss, oIx_t, oIx_r, oIx_l, oIx_s, qNo, qPart, qSl, oSl_t, oSl_r, oSl_l, oSl_s, qMeth, mAppend_1, iSeq, iRange1, iRange2, qCall, endsF, startD, List.map_cons, List.map_nil, List.length_cons, List.length_nil, List.length_map, List.cons_append, List.nil_append, List.replicate, List.getElem?_cons_zero, List.getElem?_cons_succ, List.set_cons_zero, List.set_cons_succ, Nat.reduceAdd, Nat.reduceSub, if_true, if_false, id, ups_same, ex_lst, ex_lst2, ex_some, atI_0, atI_1, atI_2, atI_3, ixN_0, ixN_1, ixN_21, oIx_p]
    exact ⟨_, Sub.refl _, q⟩
theorem p__law_count : ∀ ds S Q E, sp__law_count ad ds S Q E → r__law_count ad (endsF Q E) (startD N__law_count ds) S := by
  rintro ds S Q E ⟨l, t, e, n, rfl, hc, hn, q⟩
  have hle := hc.le
  have hpos := hc.pos
  simp only [r__law_count, chD, sSeq, sNext_eq, sBreak_eq, sCont_eq, sDrop, sRet, sRetN, sIf, sSet, sPar, sAsg, sRaise, gN, gE, gC, gU, gS, qVar, qC, qBin, qTB, qChain, qNot, qAnd, qOr, bd_bl, qNotT, qAndT, qOrT, qTru, tru_non, tru_bl, tru_int, tru_str, tru_tup, tru_rol, tru_ref, qIf, qNil, qCons, qTup, qLst, qCB, cInt_i, cInt2_ii, cToInt_i, cToInt_b, cLen_s, cLen_t, cLen_r, cLen_l, cTuple_t, cTuple_r, cTuple_l, cList_t, cList_r, cList_l, qNeg, oI_ii, oAdd_ii, oSub, oMul, oDiv, oMod, oPow, oEq, oNe, oEqW_ii, oEqW_ss, oEqW_bb, oLt, oLe, oGt, oGe, oOrd_ii, oOrd_ss, oIx_t, oIx_r, oIx_l, oIx_s, qNo, qPart, qSl, oSl_t, oSl_r, oSl_l, oSl_s, qMeth, mAppend_1, iSeq, iRange1, iRange2, qCall, endsF, startD, List.map_cons, List.map_nil, List.length_cons, List.length_nil, List.length_map, List.cons_append, List.nil_append, List.replicate, List.getElem?_cons_zero, List.getElem?_cons_succ, List.set_cons_zero, List.set_cons_succ, Nat.reduceAdd, Nat.reduceSub, if_true, if_false, id, ups_same, ex_lst, ex_lst2, ex_some, atI_0, atI_1, atI_2, atI_3, ixN_0, ixN_1, ixN_21, oIx_p]
  intro p0 hp0
  refine for_intro ?_
  simp only [sSeq, sNext_eq, sBreak_eq, sCont_eq, sDrop, sRet, sRetN, sIf, sSet, sPar, sAsg, sRaise, gN, gE, gC, gU, gS, qVar, qC, qBin, qTB, qChain, qNot, qAnd, qOr, bd_bl, qNotT, qAndT, qOrT, qTru, tru_non, tru_bl, tru_int, tru_str, tru_tup, tru_rol, tru_ref, qIf, qNil, qCons, qTup, qLst, qCB, cInt_i, cInt2_ii, cToInt_i, cToInt_b, cLen_s, cLen_t, cLen_r, cLen_l, cTuple_t, cTuple_r, cTuple_l, cList_t, cList_r, cList_l, qNeg, oI_ii, oAdd_ii, oSub, oMul, oDiv, oMod, oPow, oEq, oNe, oEqW_ii, oEqW_ss, oEqW_bb, oLt, oLe, oGt, oGe, oOrd_ii, oOrd_ss, oIx_t, oIx_r, oIx_l, oIx_s, qNo, qPart, qSl, oSl_t, oSl_r, oSl_l, oSl_s, qMeth, mAppend_1, iSeq, iRange1, iRange2, qCall, endsF, startD, List.map_cons, List.map_nil, List.length_cons, List.length_nil, List.length_map, List.cons_append, List.nil_append, List.replicate, List.getElem?_cons_zero, List.getElem?_cons_succ, List.set_cons_zero, List.set_cons_succ, Nat.reduceAdd, Nat.reduceSub, if_true, if_false, id, ups_same, ex_lst, ex_lst2, ex_some, atI_0, atI_1, atI_2, atI_3, ixN_0, ixN_1, ixN_21, oIx_p]
  refine ⟨by omega, by omega, fun i loc S' => ∃ (z3 : Option D) (a : Addr), loc = [some (.tup [.str (tx l), tD t, .tup (e.map D.int)]), some (.int n), some (.ref a), z3, none, none] ∧ S' a = some (.lst ((cr t e i).map D.int)) ∧ Sub S S', ⟨none, p0, rfl, by rw [ups_same, ← cr_zero hc.len], (Sub.refl S).new hp0⟩, ?_, ?_⟩
  · rintro i d loc S' hi ⟨z3, a, rfl, e2, sub⟩
    obtain ⟨hi1, rfl⟩ := rangeD_get hi
    refine ⟨trivial, ?_⟩
    simp only [r__law_count_b1, sSeq, sNext_eq, sBreak_eq, sCont_eq, sDrop, sRet, sRetN, sIf, sSet, sPar, sAsg, sRaise, gN, gE, gC, gU, gS, qVar, qC, qBin, qTB, qChain, qNot, qAnd, qOr, bd_bl, qNotT, qAndT, qOrT, qTru, tru_non, tru_bl, tru_int, tru_str, tru_tup, tru_rol, tru_ref, qIf, qNil, qCons, qTup, qLst, qCB, cInt_i, cInt2_ii, cToInt_i, cToInt_b, cLen_s, cLen_t, cLen_r, cLen_l, cTuple_t, cTuple_r, cTuple_l, cList_t, cList_r, cList_l, qNeg, oI_ii, oAdd_ii, oSub, oMul, oDiv, oMod, oPow, oEq, oNe, oEqW_ii, oEqW_ss, oEqW_bb, oLt, oLe, oGt, oGe, oOrd_ii, oOrd_ss, oIx_t, oIx_r, oIx_l, oIx_s, qNo, qPart, qSl, oSl_t, oSl_r, oSl_l, oSl_s, qMeth, mAppend_1, iSeq, iRange1, iRange2, qCall, endsF, startD, List.map_cons, List.map_nil, List.length_cons, List.length_nil, List.length_map, List.cons_append, List.nil_append, List.replicate, List.getElem?_cons_zero, List.getElem?_cons_succ, List.set_cons_zero, List.set_cons_succ, Nat.reduceAdd, Nat.reduceSub, if_true, if_false, id, ups_same, ex_lst, ex_lst2, ex_some, atI_0, atI_1, atI_2, atI_3, ixN_0, ixN_1, ixN_21, oIx_p]
    refine lc_mapT (.vals (t.map rD)) t rD (fun r => .int (r.map fun a => cn t e i a.toNat).sum) (S1 := S') (fun Q hQ => by simp only [tD, sSeq, sNext_eq, sBreak_eq, sCont_eq, sDrop, sRet, sRetN, sIf, sSet, sPar, sAsg, sRaise, gN, gE, gC, gU, gS, qVar, qC, qBin, qTB, qChain, qNot, qAnd, qOr, bd_bl, qNotT, qAndT, qOrT, qTru, tru_non, tru_bl, tru_int, tru_str, tru_tup, tru_rol, tru_ref, qIf, qNil, qCons, qTup, qLst, qCB, cInt_i, cInt2_ii, cToInt_i, cToInt_b, cLen_s, cLen_t, cLen_r, cLen_l, cTuple_t, cTuple_r, cTuple_l, cList_t, cList_r, cList_l, qNeg, oI_ii, oAdd_ii, oSub, oMul, oDiv, oMod, oPow, oEq, oNe, oEqW_ii, oEqW_ss, oEqW_bb, oLt, oLe, oGt, oGe, oOrd_ii, oOrd_ss, oIx_t, oIx_r, oIx_l, oIx_s, qNo, qPart, qSl, oSl_t, oSl_r, oSl_l, oSl_s, qMeth, mAppend_1, iSeq, iRange1, iRange2, qCall, endsF, startD, List.map_cons, List.map_nil, List.length_cons, List.length_nil, List.length_map, List.cons_append, List.nil_append, List.replicate, List.getElem?_cons_zero, List.getElem?_cons_succ, List.set_cons_zero, List.set_cons_succ, Nat.reduceAdd, Nat.reduceSub, if_true, if_false, id, ups_same, ex_lst, ex_lst2, ex_some, atI_0, atI_1, atI_2, atI_3, ixN_0, ixN_1, ixN_21, oIx_p]; exact hQ) ok_vals rfl (by omega) (fun r S3 C hr s4 hC => ?_) fun p4 S4 hp4 s4 e5 => ?_
    · simp only [wipeD, sSeq, sNext_eq, sBreak_eq, sCont_eq, sDrop, sRet, sRetN, sIf, sSet, sPar, sAsg, sRaise, gN, gE, gC, gU, gS, qVar, qC, qBin, qTB, qChain, qNot, qAnd, qOr, bd_bl, qNotT, qAndT, qOrT, qTru, tru_non, tru_bl, tru_int, tru_str, tru_tup, tru_rol, tru_ref, qIf, qNil, qCons, qTup, qLst, qCB, cInt_i, cInt2_ii, cToInt_i, cToInt_b, cLen_s, cLen_t, cLen_r, cLen_l, cTuple_t, cTuple_r, cTuple_l, cList_t, cList_r, cList_l, qNeg, oI_ii, oAdd_ii, oSub, oMul, oDiv, oMod, oPow, oEq, oNe, oEqW_ii, oEqW_ss, oEqW_bb, oLt, oLe, oGt, oGe, oOrd_ii, oOrd_ss, oIx_t, oIx_r, oIx_l, oIx_s, qNo, qPart, qSl, oSl_t, oSl_r, oSl_l, oSl_s, qMeth, mAppend_1, iSeq, iRange1, iRange2, qCall, endsF, startD, List.map_cons, List.map_nil, List.length_cons, List.length_nil, List.length_map, List.cons_append, List.nil_append, List.replicate, List.getElem?_cons_zero, List.getElem?_cons_succ, List.set_cons_zero, List.set_cons_succ, Nat.reduceAdd, Nat.reduceSub, if_true, if_false, id, ups_same, ex_lst, ex_lst2, ex_some, atI_0, atI_1, atI_2, atI_3, ixN_0, ixN_1, ixN_21, oIx_p, cSum]
      refine lc_mapT (.vals (r.map D.int)) r D.int (fun a => .int (cn t e i a.toNat)) (S1 := S3) (fun Q hQ => by simp only [rD, sSeq, sNext_eq, sBreak_eq, sCont_eq, sDrop, sRet, sRetN, sIf, sSet, sPar, sAsg, sRaise, gN, gE, gC, gU, gS, qVar, qC, qBin, qTB, qChain, qNot, qAnd, qOr, bd_bl, qNotT, qAndT, qOrT, qTru, tru_non, tru_bl, tru_int, tru_str, tru_tup, tru_rol, tru_ref, qIf, qNil, qCons, qTup, qLst, qCB, cInt_i, cInt2_ii, cToInt_i, cToInt_b, cLen_s, cLen_t, cLen_r, cLen_l, cTuple_t, cTuple_r, cTuple_l, cList_t, cList_r, cList_l, qNeg, oI_ii, oAdd_ii, oSub, oMul, oDiv, oMod, oPow, oEq, oNe, oEqW_ii, oEqW_ss, oEqW_bb, oLt, oLe, oGt, oGe, oOrd_ii, oOrd_ss, oIx_t, oIx_r, oIx_l, oIx_s, qNo, qPart, qSl, oSl_t, oSl_r, oSl_l, oSl_s, qMeth, mAppend_1, iSeq, iRange1, iRange2, qCall, endsF, startD, List.map_cons, List.map_nil, List.length_cons, List.length_nil, List.length_map, List.cons_append, List.nil_append, List.replicate, List.getElem?_cons_zero, List.getElem?_cons_succ, List.set_cons_zero, List.set_cons_succ, Nat.reduceAdd, Nat.reduceSub, if_true, if_false, id, ups_same, ex_lst, ex_lst2, ex_some, atI_0, atI_1, atI_2, atI_3, ixN_0, ixN_1, ixN_21, oIx_p]; exact hQ) ok_vals rfl (by rw [hc.row r hr]; have := hc.sg.hi; omega) (fun b S5 C3 hb s5 hC3 => ?_) fun p5 S5 hp5 s5 e5 => ?_
      · simp only [wipeD, sSeq, sNext_eq, sBreak_eq, sCont_eq, sDrop, sRet, sRetN, sIf, sSet, sPar, sAsg, sRaise, gN, gE, gC, gU, gS, qVar, qC, qBin, qTB, qChain, qNot, qAnd, qOr, bd_bl, qNotT, qAndT, qOrT, qTru, tru_non, tru_bl, tru_int, tru_str, tru_tup, tru_rol, tru_ref, qIf, qNil, qCons, qTup, qLst, qCB, cInt_i, cInt2_ii, cToInt_i, cToInt_b, cLen_s, cLen_t, cLen_r, cLen_l, cTuple_t, cTuple_r, cTuple_l, cList_t, cList_r, cList_l, qNeg, oI_ii, oAdd_ii, oSub, oMul, oDiv, oMod, oPow, oEq, oNe, oEqW_ii, oEqW_ss, oEqW_bb, oLt, oLe, oGt, oGe, oOrd_ii, oOrd_ss, oIx_t, oIx_r, oIx_l, oIx_s, qNo, qPart, qSl, oSl_t, oSl_r, oSl_l, oSl_s, qMeth, mAppend_1, iSeq, iRange1, iRange2, qCall, endsF, startD, List.map_cons, List.map_nil, List.length_cons, List.length_nil, List.length_map, List.cons_append, List.nil_append, List.replicate, List.getElem?_cons_zero, List.getElem?_cons_succ, List.set_cons_zero, List.set_cons_succ, Nat.reduceAdd, Nat.reduceSub, if_true, if_false, id, ups_same, ex_lst, ex_lst2, ex_some, atI_0, atI_1, atI_2, atI_3, ixN_0, ixN_1, ixN_21, oIx_p]
        obtain ⟨a0, a1⟩ := hc.rng r hr b hb
        obtain ⟨b, rfl⟩ := Int.eq_ofNat_of_zero_le a0
        refine ⟨_, s5 _ _ (s4 _ _ e2), _, cr_get (by omega), ?_⟩
        exact hC3 S5 (Sub.refl _)
      · exact ⟨.ref p5, r.map fun a => cn t e i a.toNat, rfl, .inr ⟨p5, rfl, by rw [e5, List.map_map]; rfl⟩, hC S5 s5⟩
    · refine ⟨_, p4, rfl, ?_, sub.trans s4⟩
      rw [e5, ← cr_succ, List.map_map]
      rfl
  · rintro loc S' ⟨z3, a, rfl, e2, sub⟩
    rw [PL.range_items, List.length_map, List.length_range] at e2
    refine ⟨trivial, ?_⟩
    try simp only [sSeq, sNext_eq, sBreak_eq, sCont_eq, sDrop, sRet, sRetN, sIf, sSet, sPar, sAsg, sRaise, gN, gE, gC, gU, gS, qVar, qC, qBin, qTB, qChain, qNot, qAnd, qOr, bd_bl, qNotT, qAndT, qOrT, qTru, tru_non, tru_bl, tru_int, tru_str, tru_tup, tru_rol, tru_ref, qIf, qNil, qCons, qTup, qLst, qCB, cInt_i, cInt2_ii, cToInt_i, cToInt_b, cLen_s, cLen_t, cLen_r, cLen_l, cTuple_t, cTuple_r, cTuple_l, cList_t, cList_r, cList_l, qNeg, oI_ii, oAdd_ii, oSub, oMul, oDiv, oMod, oPow, oEq, oNe, oEqW_ii, oEqW_ss, oEqW_bb, oLt, oLe, oGt, oGe, oOrd_ii, oOrd_ss, oIx_t, oIx_r, oIx_l, oIx_s, qNo, qPart, qSl, oSl_t, oSl_r, oSl_l, oSl_s, qMeth, mAppend_1, iSeq, iRange1, iRange2, qCall, endsF, startD, List.map_cons, List.map_nil, List.length_cons, List.length_nil, List.length_map, List.cons_append, List.nil_append, List.replicate, List.getElem?_cons_zero, List.getElem?_cons_succ, List.set_cons_zero, List.set_cons_succ, Nat.reduceAdd, Nat.reduceSub, if_true, if_false, id, ups_same, ex_lst, ex_lst2, ex_some, atI_0, atI_1, atI_2, atI_3, ixN_0, ixN_1, ixN_21, oIx_p]
    exact ⟨_, e2, _, cr_get (j := 0) (by omega), S, sub, q⟩
end K21

namespace K21
open PySem PySem.Spec PyProof.Rows L2 PL
variable {ad : Ad}
section
variable {l : List Nat} {t : Tb} {e : List Int}
theorem va_dec {w : List Nat} : dB (Va l t e w) = decide (e.getD (run l t 0 w) 0 = 1) := (dB_of (p := Va l t e w) (decide_eq_true_iff (p := e.getD (run l t 0 w) 0 = 1))).symm
theorem filt_vl (hc : Ch l t e) (n : Nat) : (wd l n).filter (fun w => dB (Va l t e w)) = vl l t e n 0 := by
  rw [wd_wp, ← wp_vl hc n 0 (by have := hc.pos; omega)]
  exact List.filter_congr fun w _ => va_dec
theorem range_get {α β : Type} {xs : List α} {d : α} {f : α → β} : (List.range xs.length).map (fun i => f (xs.getD i d)) = xs.map f := by
  refine List.ext_getElem (by simp) fun i h1 h2 => ?_
  have hi : i < xs.length := by simpa using h2
  simp [hi]
theorem plc_at (hc : Ch l t e) {n i : Nat} {w : List Nat} (h : (vl l t e n 0)[i]? = some w) : plc l t e w 0 = (i : Int) := by
  have hp := hc.pos
  obtain ⟨g1, g2, g3⟩ := (vl_mem hc n 0 w (by omega)).mp (List.mem_of_getElem? h)
  obtain ⟨p0, p1⟩ := plc_get hc w 0 (by omega) g2 g3
  rw [g1] at p1
  have := vl_inj hc (by omega) p1 h
  omega
theorem vl_small (hc : Ch l t e) {n : Nat} (h : l.length ^ n ≤ 130) : (vl l t e n 0).length ≤ 130 := by
  rw [← filt_vl hc]
  exact Nat.le_trans (List.length_filter_le ..) (by rw [wd_len]; exact h)
end
def pW (w : List Nat) : PyData := .str (tx w)
def pI (i : Int) : PyData := .int i
theorem p__law_listed : ∀ ds S Q E, sp__law_listed ad ds S Q E → r__law_listed ad (endsF Q E) (startD N__law_listed ds) S := by
  rintro ds S Q E ⟨l, t, e, n, rfl, hc, hn, hp, q⟩
  have hpos := hc.pos
  have hlo := hc.sg.lo
  have hhi := hc.sg.hi
  have hsm := vl_small hc hp
  have hvl := vl_len hc n 0 (by omega)
  have hmem : ∀ w ∈ vl l t e n 0, w.length = n ∧ (∀ a ∈ w, a ∈ l) ∧ Va l t e w := fun w hw => (vl_mem hc n 0 w (by omega)).mp hw
  simp only [r__law_listed, sSeq, sNext_eq, sBreak_eq, sCont_eq, sDrop, sRet, sRetN, sIf, sSet, sPar, sAsg, sRaise, gN, gE, gC, gU, gS, qVar, qC, qBin, qTB, qChain, qNot, qAnd, qOr, bd_bl, qNotT, qAndT, qOrT, qTru, tru_non, tru_bl, tru_int, tru_str, tru_tup, tru_rol, tru_ref, qIf, qNil, qCons, qTup, qLst, qCB, cInt_i, cInt2_ii, cToInt_i, cToInt_b, cLen_s, cLen_t, cLen_r, cLen_l, cTuple_t, cTuple_r, cTuple_l, cList_t, cList_r, cList_l, qNeg, oI_ii, oAdd_ii, oSub, oMul, oDiv, oMod, oPow, oEq, oNe, oEqW_ii, oEqW_ss, oEqW_bb, oLt, oLe, oGt, oGe, oOrd_ii, oOrd_ss, oIx_t, oIx_r, oIx_l, oIx_s, qNo, qPart, qSl, oSl_t, oSl_r, oSl_l, oSl_s, qMeth, mAppend_1, iSeq, iRange1, iRange2, qCall, endsF, startD, List.map_cons, List.map_nil, List.length_cons, List.length_nil, List.length_map, List.cons_append, List.nil_append, List.replicate, List.getElem?_cons_zero, List.getElem?_cons_succ, List.set_cons_zero, List.set_cons_succ, Nat.reduceAdd, Nat.reduceSub, if_true, if_false, id, ups_same, ex_lst, ex_lst2, ex_some, atI_0, atI_1, atI_2, atI_3, ixN_0, ixN_1, ixN_21, oIx_p]
  refine lc_bind ?_
  simp only [chD, sSeq, sNext_eq, sBreak_eq, sCont_eq, sDrop, sRet, sRetN, sIf, sSet, sPar, sAsg, sRaise, gN, gE, gC, gU, gS, qVar, qC, qBin, qTB, qChain, qNot, qAnd, qOr, bd_bl, qNotT, qAndT, qOrT, qTru, tru_non, tru_bl, tru_int, tru_str, tru_tup, tru_rol, tru_ref, qIf, qNil, qCons, qTup, qLst, qCB, cInt_i, cInt2_ii, cToInt_i, cToInt_b, cLen_s, cLen_t, cLen_r, cLen_l, cTuple_t, cTuple_r, cTuple_l, cList_t, cList_r, cList_l, qNeg, oI_ii, oAdd_ii, oSub, oMul, oDiv, oMod, oPow, oEq, oNe, oEqW_ii, oEqW_ss, oEqW_bb, oLt, oLe, oGt, oGe, oOrd_ii, oOrd_ss, oIx_t, oIx_r, oIx_l, oIx_s, qNo, qPart, qSl, oSl_t, oSl_r, oSl_l, oSl_s, qMeth, mAppend_1, iSeq, iRange1, iRange2, qCall, endsF, startD, List.map_cons, List.map_nil, List.length_cons, List.length_nil, List.length_map, List.cons_append, List.nil_append, List.replicate, List.getElem?_cons_zero, List.getElem?_cons_succ, List.set_cons_zero, List.set_cons_succ, Nat.reduceAdd, Nat.reduceSub, if_true, if_false, id, ups_same, ex_lst, ex_lst2, ex_some, atI_0, atI_1, atI_2, atI_3, ixN_0, ixN_1, ixN_21, oIx_p]
  refine ⟨l, n, rfl, hlo, hhi, by omega, by rw [wd_len]; omega, fun p1 S1 s1 e1 => ⟨_, e1, ?_⟩⟩
  refine lc_filtT (S1 := S1) (.live p1 ((wd l n).map eW)) (wd l n) eW (fun w => dB (Va l t e w)) eW (fun Q h => h) (ok_live e1) rfl (by rw [wd_len]; omega) (fun w S' C hw sub hC => ?_) fun p2 S2 hp2 s2 e2 => ?_
  · obtain ⟨w1, w2⟩ := wd_mem n w hw
    simp only [wipeD, eW, sSeq, sNext_eq, sBreak_eq, sCont_eq, sDrop, sRet, sRetN, sIf, sSet, sPar, sAsg, sRaise, gN, gE, gC, gU, gS, qVar, qC, qBin, qTB, qChain, qNot, qAnd, qOr, bd_bl, qNotT, qAndT, qOrT, qTru, tru_non, tru_bl, tru_int, tru_str, tru_tup, tru_rol, tru_ref, qIf, qNil, qCons, qTup, qLst, qCB, cInt_i, cInt2_ii, cToInt_i, cToInt_b, cLen_s, cLen_t, cLen_r, cLen_l, cTuple_t, cTuple_r, cTuple_l, cList_t, cList_r, cList_l, qNeg, oI_ii, oAdd_ii, oSub, oMul, oDiv, oMod, oPow, oEq, oNe, oEqW_ii, oEqW_ss, oEqW_bb, oLt, oLe, oGt, oGe, oOrd_ii, oOrd_ss, oIx_t, oIx_r, oIx_l, oIx_s, qNo, qPart, qSl, oSl_t, oSl_r, oSl_l, oSl_s, qMeth, mAppend_1, iSeq, iRange1, iRange2, qCall, endsF, startD, List.map_cons, List.map_nil, List.length_cons, List.length_nil, List.length_map, List.cons_append, List.nil_append, List.replicate, List.getElem?_cons_zero, List.getElem?_cons_succ, List.set_cons_zero, List.set_cons_succ, Nat.reduceAdd, Nat.reduceSub, if_true, if_false, id, ups_same, ex_lst, ex_lst2, ex_some, atI_0, atI_1, atI_2, atI_3, ixN_0, ixN_1, ixN_21, oIx_p]
    refine ⟨l, t, e, w, rfl, hc, by omega, w2, ?_⟩
    have := hC S' (Sub.refl _)
    simp only [eW, sSeq, sNext_eq, sBreak_eq, sCont_eq, sDrop, sRet, sRetN, sIf, sSet, sPar, sAsg, sRaise, gN, gE, gC, gU, gS, qVar, qC, qBin, qTB, qChain, qNot, qAnd, qOr, bd_bl, qNotT, qAndT, qOrT, qTru, tru_non, tru_bl, tru_int, tru_str, tru_tup, tru_rol, tru_ref, qIf, qNil, qCons, qTup, qLst, qCB, cInt_i, cInt2_ii, cToInt_i, cToInt_b, cLen_s, cLen_t, cLen_r, cLen_l, cTuple_t, cTuple_r, cTuple_l, cList_t, cList_r, cList_l, qNeg, oI_ii, oAdd_ii, oSub, oMul, oDiv, oMod, oPow, oEq, oNe, oEqW_ii, oEqW_ss, oEqW_bb, oLt, oLe, oGt, oGe, oOrd_ii, oOrd_ss, oIx_t, oIx_r, oIx_l, oIx_s, qNo, qPart, qSl, oSl_t, oSl_r, oSl_l, oSl_s, qMeth, mAppend_1, iSeq, iRange1, iRange2, qCall, endsF, startD, List.map_cons, List.map_nil, List.length_cons, List.length_nil, List.length_map, List.cons_append, List.nil_append, List.replicate, List.getElem?_cons_zero, List.getElem?_cons_succ, List.set_cons_zero, List.set_cons_succ, Nat.reduceAdd, Nat.reduceSub, if_true, if_false, id, ups_same, ex_lst, ex_lst2, ex_some, atI_0, atI_1, atI_2, atI_3, ixN_0, ixN_1, ixN_21, oIx_p]
    cases z : dB (Va l t e w) with
    | true => rw [z] at this; exact this
    | false => rw [z] at this; exact this
  · rw [filt_vl hc] at e2
    simp only [r__law_listed_t2, r__law_listed_c1, sp__law_same, sSeq, sNext_eq, sBreak_eq, sCont_eq, sDrop, sRet, sRetN, sIf, sSet, sPar, sAsg, sRaise, gN, gE, gC, gU, gS, qVar, qC, qBin, qTB, qChain, qNot, qAnd, qOr, bd_bl, qNotT, qAndT, qOrT, qTru, tru_non, tru_bl, tru_int, tru_str, tru_tup, tru_rol, tru_ref, qIf, qNil, qCons, qTup, qLst, qCB, cInt_i, cInt2_ii, cToInt_i, cToInt_b, cLen_s, cLen_t, cLen_r, cLen_l, cTuple_t, cTuple_r, cTuple_l, cList_t, cList_r, cList_l, qNeg, oI_ii, oAdd_ii, oSub, oMul, oDiv, oMod, oPow, oEq, oNe, oEqW_ii, oEqW_ss, oEqW_bb, oLt, oLe, oGt, oGe, oOrd_ii, oOrd_ss, oIx_t, oIx_r, oIx_l, oIx_s, qNo, qPart, qSl, oSl_t, oSl_r, oSl_l, oSl_s, qMeth, mAppend_1, iSeq, iRange1, iRange2, qCall, endsF, startD, List.map_cons, List.map_nil, List.length_cons, List.length_nil, List.length_map, List.cons_append, List.nil_append, List.replicate, List.getElem?_cons_zero, List.getElem?_cons_succ, List.set_cons_zero, List.set_cons_succ, Nat.reduceAdd, Nat.reduceSub, if_true, if_false, id, ups_same, ex_lst, ex_lst2, ex_some, atI_0, atI_1, atI_2, atI_3, ixN_0, ixN_1, ixN_21, oIx_p]
    refine ⟨l, t, e, n, rfl, sz_of hc, fun _ _ _ => ⟨_, e2, _, _, .int (cn t e n 0), rfl, .int _, ?_, good_int ?_, ?_⟩, fun z => absurd ⟨hc, by omega, by omega⟩ z⟩
    · rw [List.length_map, hvl]
      exact .int _
    · have := log_lt (cn_nn hc n 0 (by omega)) (cn_bound hc n 0 (by omega)) (by omega)
      omega
    · try simp only [sSeq, sNext_eq, sBreak_eq, sCont_eq, sDrop, sRet, sRetN, sIf, sSet, sPar, sAsg, sRaise, gN, gE, gC, gU, gS, qVar, qC, qBin, qTB, qChain, qNot, qAnd, qOr, bd_bl, qNotT, qAndT, qOrT, qTru, tru_non, tru_bl, tru_int, tru_str, tru_tup, tru_rol, tru_ref, qIf, qNil, qCons, qTup, qLst, qCB, cInt_i, cInt2_ii, cToInt_i, cToInt_b, cLen_s, cLen_t, cLen_r, cLen_l, cTuple_t, cTuple_r, cTuple_l, cList_t, cList_r, cList_l, qNeg, oI_ii, oAdd_ii, oSub, oMul, oDiv, oMod, oPow, oEq, oNe, oEqW_ii, oEqW_ss, oEqW_bb, oLt, oLe, oGt, oGe, oOrd_ii, oOrd_ss, oIx_t, oIx_r, oIx_l, oIx_s, qNo, qPart, qSl, oSl_t, oSl_r, oSl_l, oSl_s, qMeth, mAppend_1, iSeq, iRange1, iRange2, qCall, endsF, startD, List.map_cons, List.map_nil, List.length_cons, List.length_nil, List.length_map, List.cons_append, List.nil_append, List.replicate, List.getElem?_cons_zero, List.getElem?_cons_succ, List.set_cons_zero, List.set_cons_succ, Nat.reduceAdd, Nat.reduceSub, if_true, if_false, id, ups_same, ex_lst, ex_lst2, ex_some, atI_0, atI_1, atI_2, atI_3, ixN_0, ixN_1, ixN_21, oIx_p]
      refine ifF rfl ?_
      simp only [r__law_listed_t1, sp__law_same, qListRg, qRg1, sSeq, sNext_eq, sBreak_eq, sCont_eq, sDrop, sRet, sRetN, sIf, sSet, sPar, sAsg, sRaise, gN, gE, gC, gU, gS, qVar, qC, qBin, qTB, qChain, qNot, qAnd, qOr, bd_bl, qNotT, qAndT, qOrT, qTru, tru_non, tru_bl, tru_int, tru_str, tru_tup, tru_rol, tru_ref, qIf, qNil, qCons, qTup, qLst, qCB, cInt_i, cInt2_ii, cToInt_i, cToInt_b, cLen_s, cLen_t, cLen_r, cLen_l, cTuple_t, cTuple_r, cTuple_l, cList_t, cList_r, cList_l, qNeg, oI_ii, oAdd_ii, oSub, oMul, oDiv, oMod, oPow, oEq, oNe, oEqW_ii, oEqW_ss, oEqW_bb, oLt, oLe, oGt, oGe, oOrd_ii, oOrd_ss, oIx_t, oIx_r, oIx_l, oIx_s, qNo, qPart, qSl, oSl_t, oSl_r, oSl_l, oSl_s, qMeth, mAppend_1, iSeq, iRange1, iRange2, qCall, endsF, startD, List.map_cons, List.map_nil, List.length_cons, List.length_nil, List.length_map, List.cons_append, List.nil_append, List.replicate, List.getElem?_cons_zero, List.getElem?_cons_succ, List.set_cons_zero, List.set_cons_succ, Nat.reduceAdd, Nat.reduceSub, if_true, if_false, id, ups_same, ex_lst, ex_lst2, ex_some, atI_0, atI_1, atI_2, atI_3, ixN_0, ixN_1, ixN_21, oIx_p]
      refine lc_mapT (.vals (rangeD 0 ((vl l t e n 0).length : Int).toNat)) (List.range (vl l t e n 0).length) (fun i : Nat => .int i) (fun i => eW ((vl l t e n 0).getD i [])) (S1 := S2) (fun Q hQ => by simp only [sSeq, sNext_eq, sBreak_eq, sCont_eq, sDrop, sRet, sRetN, sIf, sSet, sPar, sAsg, sRaise, gN, gE, gC, gU, gS, qVar, qC, qBin, qTB, qChain, qNot, qAnd, qOr, bd_bl, qNotT, qAndT, qOrT, qTru, tru_non, tru_bl, tru_int, tru_str, tru_tup, tru_rol, tru_ref, qIf, qNil, qCons, qTup, qLst, qCB, cInt_i, cInt2_ii, cToInt_i, cToInt_b, cLen_s, cLen_t, cLen_r, cLen_l, cTuple_t, cTuple_r, cTuple_l, cList_t, cList_r, cList_l, qNeg, oI_ii, oAdd_ii, oSub, oMul, oDiv, oMod, oPow, oEq, oNe, oEqW_ii, oEqW_ss, oEqW_bb, oLt, oLe, oGt, oGe, oOrd_ii, oOrd_ss, oIx_t, oIx_r, oIx_l, oIx_s, qNo, qPart, qSl, oSl_t, oSl_r, oSl_l, oSl_s, qMeth, mAppend_1, iSeq, iRange1, iRange2, qCall, endsF, startD, List.map_cons, List.map_nil, List.length_cons, List.length_nil, List.length_map, List.cons_append, List.nil_append, List.replicate, List.getElem?_cons_zero, List.getElem?_cons_succ, List.set_cons_zero, List.set_cons_succ, Nat.reduceAdd, Nat.reduceSub, if_true, if_false, id, ups_same, ex_lst, ex_lst2, ex_some, atI_0, atI_1, atI_2, atI_3, ixN_0, ixN_1, ixN_21, oIx_p]; exact ⟨_, e2, by first | omega | (simp; omega) | simp, by first | omega | (simp; omega) | simp, by first | exact hQ | (rw [List.length_map]; exact hQ)⟩) ok_vals PL.range_items (by simp; omega) (fun i S3 C hi s3 hC => ?_) fun p4 S4 hp4 s4 e4 => ?_
      · have hi2 : i < (vl l t e n 0).length := by simpa using hi
        simp only [wipeD, sSeq, sNext_eq, sBreak_eq, sCont_eq, sDrop, sRet, sRetN, sIf, sSet, sPar, sAsg, sRaise, gN, gE, gC, gU, gS, qVar, qC, qBin, qTB, qChain, qNot, qAnd, qOr, bd_bl, qNotT, qAndT, qOrT, qTru, tru_non, tru_bl, tru_int, tru_str, tru_tup, tru_rol, tru_ref, qIf, qNil, qCons, qTup, qLst, qCB, cInt_i, cInt2_ii, cToInt_i, cToInt_b, cLen_s, cLen_t, cLen_r, cLen_l, cTuple_t, cTuple_r, cTuple_l, cList_t, cList_r, cList_l, qNeg, oI_ii, oAdd_ii, oSub, oMul, oDiv, oMod, oPow, oEq, oNe, oEqW_ii, oEqW_ss, oEqW_bb, oLt, oLe, oGt, oGe, oOrd_ii, oOrd_ss, oIx_t, oIx_r, oIx_l, oIx_s, qNo, qPart, qSl, oSl_t, oSl_r, oSl_l, oSl_s, qMeth, mAppend_1, iSeq, iRange1, iRange2, qCall, endsF, startD, List.map_cons, List.map_nil, List.length_cons, List.length_nil, List.length_map, List.cons_append, List.nil_append, List.replicate, List.getElem?_cons_zero, List.getElem?_cons_succ, List.set_cons_zero, List.set_cons_succ, Nat.reduceAdd, Nat.reduceSub, if_true, if_false, id, ups_same, ex_lst, ex_lst2, ex_some, atI_0, atI_1, atI_2, atI_3, ixN_0, ixN_1, ixN_21, oIx_p]
        refine ⟨l, t, e, n, i, rfl, sz_of hc, fun _ _ _ _ x hx => ?_, fun _ _ _ z => absurd ⟨by omega, by rw [Int.toNat_natCast]; omega⟩ z, fun z => absurd ⟨hc, by omega, by omega⟩ z⟩
        have := hC S3 (Sub.refl _)
        rw [Int.toNat_natCast, Int.toNat_natCast] at hx
        have eg : (vl l t e n 0).getD i [] = x := by rw [List.getD_eq_getElem?_getD, hx]; rfl
        rw [eg] at this
        exact this
      · rw [range_get (xs := vl l t e n 0) (d := []) (f := eW)] at e4
        have hg1 : good (.list [.list ((vl l t e n 0).map pW)]) := good_list (c := 62) (fun w hw => tx_fine fun a ha => lt128 a (hc.sg.all a ((hmem w hw).2.1 a ha))) (fun w hw => by rw [pW, tx_sz, (hmem w hw).1]; omega) (fun w hw => by show 0 ≤ 20; omega) (by omega)
        refine ⟨_, _, .list ((vl l t e n 0).map pW), rfl, .lst e4 (dats_map fun w _ => .str _), .lst (s4 _ _ e2) (dats_map fun w _ => .str _), hg1, ?_⟩
        try simp only [sSeq, sNext_eq, sBreak_eq, sCont_eq, sDrop, sRet, sRetN, sIf, sSet, sPar, sAsg, sRaise, gN, gE, gC, gU, gS, qVar, qC, qBin, qTB, qChain, qNot, qAnd, qOr, bd_bl, qNotT, qAndT, qOrT, qTru, tru_non, tru_bl, tru_int, tru_str, tru_tup, tru_rol, tru_ref, qIf, qNil, qCons, qTup, qLst, qCB, cInt_i, cInt2_ii, cToInt_i, cToInt_b, cLen_s, cLen_t, cLen_r, cLen_l, cTuple_t, cTuple_r, cTuple_l, cList_t, cList_r, cList_l, qNeg, oI_ii, oAdd_ii, oSub, oMul, oDiv, oMod, oPow, oEq, oNe, oEqW_ii, oEqW_ss, oEqW_bb, oLt, oLe, oGt, oGe, oOrd_ii, oOrd_ss, oIx_t, oIx_r, oIx_l, oIx_s, qNo, qPart, qSl, oSl_t, oSl_r, oSl_l, oSl_s, qMeth, mAppend_1, iSeq, iRange1, iRange2, qCall, endsF, startD, List.map_cons, List.map_nil, List.length_cons, List.length_nil, List.length_map, List.cons_append, List.nil_append, List.replicate, List.getElem?_cons_zero, List.getElem?_cons_succ, List.set_cons_zero, List.set_cons_succ, Nat.reduceAdd, Nat.reduceSub, if_true, if_false, id, ups_same, ex_lst, ex_lst2, ex_some, atI_0, atI_1, atI_2, atI_3, ixN_0, ixN_1, ixN_21, oIx_p]
        have e2' := s4 _ _ e2
        refine lc_mapT (.live p2 ((vl l t e n 0).map eW)) (vl l t e n 0) eW (fun w => .int (plc l t e w 0)) (S1 := S4) (fun Q hQ => by simp only [sSeq, sNext_eq, sBreak_eq, sCont_eq, sDrop, sRet, sRetN, sIf, sSet, sPar, sAsg, sRaise, gN, gE, gC, gU, gS, qVar, qC, qBin, qTB, qChain, qNot, qAnd, qOr, bd_bl, qNotT, qAndT, qOrT, qTru, tru_non, tru_bl, tru_int, tru_str, tru_tup, tru_rol, tru_ref, qIf, qNil, qCons, qTup, qLst, qCB, cInt_i, cInt2_ii, cToInt_i, cToInt_b, cLen_s, cLen_t, cLen_r, cLen_l, cTuple_t, cTuple_r, cTuple_l, cList_t, cList_r, cList_l, qNeg, oI_ii, oAdd_ii, oSub, oMul, oDiv, oMod, oPow, oEq, oNe, oEqW_ii, oEqW_ss, oEqW_bb, oLt, oLe, oGt, oGe, oOrd_ii, oOrd_ss, oIx_t, oIx_r, oIx_l, oIx_s, qNo, qPart, qSl, oSl_t, oSl_r, oSl_l, oSl_s, qMeth, mAppend_1, iSeq, iRange1, iRange2, qCall, endsF, startD, List.map_cons, List.map_nil, List.length_cons, List.length_nil, List.length_map, List.cons_append, List.nil_append, List.replicate, List.getElem?_cons_zero, List.getElem?_cons_succ, List.set_cons_zero, List.set_cons_succ, Nat.reduceAdd, Nat.reduceSub, if_true, if_false, id, ups_same, ex_lst, ex_lst2, ex_some, atI_0, atI_1, atI_2, atI_3, ixN_0, ixN_1, ixN_21, oIx_p]; exact ⟨_, e2', hQ⟩) (ok_live e2') rfl (by omega) (fun w S5 C hw s5 hC => ?_) fun p6 S6 hp6 s6 e6 => ?_
        · obtain ⟨w1, w2, w3⟩ := hmem w hw
          simp only [wipeD, eW, sSeq, sNext_eq, sBreak_eq, sCont_eq, sDrop, sRet, sRetN, sIf, sSet, sPar, sAsg, sRaise, gN, gE, gC, gU, gS, qVar, qC, qBin, qTB, qChain, qNot, qAnd, qOr, bd_bl, qNotT, qAndT, qOrT, qTru, tru_non, tru_bl, tru_int, tru_str, tru_tup, tru_rol, tru_ref, qIf, qNil, qCons, qTup, qLst, qCB, cInt_i, cInt2_ii, cToInt_i, cToInt_b, cLen_s, cLen_t, cLen_r, cLen_l, cTuple_t, cTuple_r, cTuple_l, cList_t, cList_r, cList_l, qNeg, oI_ii, oAdd_ii, oSub, oMul, oDiv, oMod, oPow, oEq, oNe, oEqW_ii, oEqW_ss, oEqW_bb, oLt, oLe, oGt, oGe, oOrd_ii, oOrd_ss, oIx_t, oIx_r, oIx_l, oIx_s, qNo, qPart, qSl, oSl_t, oSl_r, oSl_l, oSl_s, qMeth, mAppend_1, iSeq, iRange1, iRange2, qCall, endsF, startD, List.map_cons, List.map_nil, List.length_cons, List.length_nil, List.length_map, List.cons_append, List.nil_append, List.replicate, List.getElem?_cons_zero, List.getElem?_cons_succ, List.set_cons_zero, List.set_cons_succ, Nat.reduceAdd, Nat.reduceSub, if_true, if_false, id, ups_same, ex_lst, ex_lst2, ex_some, atI_0, atI_1, atI_2, atI_3, ixN_0, ixN_1, ixN_21, oIx_p]
          refine ⟨l, t, e, w, rfl, sz_of hc, by omega, fun _ _ _ k hk => ?_, fun _ _ z => absurd w3 z, fun z => absurd ⟨hc, by omega, w2⟩ z⟩
          have := hC S5 (Sub.refl _)
          rw [w1] at hk
          rw [plc_at hc hk] at this
          exact this
        · have ep : (vl l t e n 0).map (fun w => D.int (plc l t e w 0)) = (List.range (vl l t e n 0).length).map fun (i : Nat) => D.int i := by
            refine List.ext_getElem (by simp) fun i h1 h2 => ?_
            have hi : i < (vl l t e n 0).length := by simpa using h2
            simp only [List.getElem_map, List.getElem_range]
            rw [plc_at hc (List.getElem?_eq_getElem hi)]
          rw [ep] at e6
          refine ⟨_, s6 _ _ (s4 _ _ e2), _, rfl, ⟨by omega, by omega, by omega, by simp; omega⟩, fun p7 hp7 => ?_⟩
          have er : rangeD 0 ((((vl l t e n 0).map eW).length : Int) - 0).toNat = (List.range (vl l t e n 0).length).map fun (i : Nat) => D.int i := by
            rw [List.length_map, Int.sub_zero]
            exact PL.range_items
          have hg2 : good (.list [.list ((List.range (vl l t e n 0).length).map fun (i : Nat) => PyData.int i)]) := good_list (c := 20) (fun i hi => ?_) (fun i hi => ?_) (fun i hi => by show 0 ≤ 20; omega) (by simp; omega)
          · refine ⟨_, _, .list ((List.range (vl l t e n 0).length).map fun (i : Nat) => PyData.int i), rfl, .lst (((Sub.refl S6).new hp7) _ _ e6) (dats_map fun i _ => .int _), ?_, hg2, S, ?_, q⟩
            · rw [er]
              exact .lst ups_same (dats_map fun i _ => .int _)
            · exact s1.trans (s2.trans (s4.trans (s6.new hp7)))
          · have : i < 131 := by have := List.mem_range.mp hi; omega
            have := log_of (n := (i : Int).natAbs) (k := 8) (by omega) (by decide)
            show decide _ = true
            exact decide_eq_true (by omega)
          · have : i < 131 := by have := List.mem_range.mp hi; omega
            have := log_of (n := (i : Int).natAbs) (k := 8) (by omega) (by decide)
            show (i : Int).natAbs.log2 + 2 ≤ 20
            omega
end K21

namespace K21
open PySem PySem.Spec PyProof.Rows L2 PL
variable {ad : Ad}
def mi : D := .tup [.str "missing"]
def re : D := .tup [.str "refused"]
theorem ne_mi {S : Sto} {P : PD} {p q : Addr} (hp : S p = some (.lst [mi, mi])) (hq : S q = some (.lst [mi, mi])) (h : P (.bl false) S) : oEqW not (.ref p) (.ref q) S P := by
  refine ⟨_, _, .lst hp (.cons (dat_one S "missing") (.cons (dat_one S "missing") .nil)), .lst hq (.cons (dat_one S "missing") (.cons (dat_one S "missing") .nil)), by decide +kernel, by decide +kernel, ?_⟩
  have e : PyData.eqv (.list [oneP "missing", oneP "missing"]) (.list [oneP "missing", oneP "missing"]) = true := by decide +kernel
  rw [e]
  exact h
theorem ne_re5 {S : Sto} {P : PD} {p q : Addr} (hp : S p = some (.lst [re, re, re, re, re])) (hq : S q = some (.lst [re, re, re, re, re])) (h : P (.bl false) S) : oEqW not (.ref p) (.ref q) S P := by
  have d : ∀ S, Dats S [re, re, re, re, re] [oneP "refused", oneP "refused", oneP "refused", oneP "refused", oneP "refused"] := fun S => .cons (dat_one S "refused") (.cons (dat_one S "refused") (.cons (dat_one S "refused") (.cons (dat_one S "refused") (.cons (dat_one S "refused") .nil))))
  refine ⟨_, _, .lst hp (d S), .lst hq (d S), by decide +kernel, by decide +kernel, ?_⟩
  have e : PyData.eqv (.list [oneP "refused", oneP "refused", oneP "refused", oneP "refused", oneP "refused"]) (.list [oneP "refused", oneP "refused", oneP "refused", oneP "refused", oneP "refused"]) = true := by decide +kernel
  rw [e]
  exact h
theorem eq_mi {S : Sto} {P : PD} (h : P (.bl true) S) : oEqW id mi mi S P := by
  refine ⟨_, _, dat_one S "missing", dat_one S "missing", by decide +kernel, by decide +kernel, ?_⟩
  have e : PyData.eqv (oneP "missing") (oneP "missing") = true := by decide +kernel
  rw [e]
  exact h
theorem eq_to {S : Sto} {P : PD} {k : Nat} (h : P (.bl false) S) : oEqW id (.tup [.str "told", .int k]) mi S P := by
  refine ⟨.tuple [.str "told", .int k], oneP "missing", Dat.pure (.tup [.str "told", .int k]) rfl, dat_one S "missing", ?_, by decide +kernel, ?_⟩
  · have e : PyData.canLay0 (.str "told") = true := by decide +kernel
    refine shaped_of ?_ ?_
    · show (PyData.canLay0 (.str "told") && PyData.canLayAll0 [.int k]) = true
      rw [e]
      rfl
    · show max 0 (max 0 0) + 1 ≤ 64
      omega
  · have e : PyData.eqv (.tuple [.str "told", .int k]) (oneP "missing") = false := by
      show (PyData.eqv (.str "told") (.str "missing") && PyData.eqvAll [.int k] []) = false
      have : PyData.eqv (.str "told") (.str "missing") = false := by decide +kernel
      rw [this]
      rfl
    rw [e]
    exact h
def ks (l : List Nat) (t : Tb) (e : List Int) : D := .str (pyD (chD l t e)).shown
section
variable {tb : List (Addr × Str)} {nm : Str} {s n : Addr} {xs : List Int} {k : Int} {S : Sto} {P : QN} {y0 y1 y2 y3 y4 y5 y6 y7 y8 y9 y10 y11 y12 : Option D} {l : List Nat} {t : Tb} {e : List Int} {len : Nat}
theorem t2_ok (nd : ad.six.Nodup) (tok : TabOk tb S) (hc : Ch l t e) {x : List Nat} (hx : x.length = 9) (hm : ∀ a ∈ x, a ∈ l) (hn : P.nx [y0, y1, y2, some (chD l t e), y4, y5, y6, y7, y8, y9, y10, some (.str (tx x)), y12] S) :
    r_law_t2 ad tb nm P [y0, y1, y2, some (chD l t e), y4, y5, y6, y7, y8, y9, y10, some (.str (tx x)), y12] S := by
  simp only [r_law_t2, sSeq, sNext_eq, sBreak_eq, sCont_eq, sDrop, sRet, sRetN, sIf, sSet, sPar, sAsg, sRaise, gN, gE, gC, gU, gS, qVar, qC, qBin, qTB, qChain, qNot, qAnd, qOr, bd_bl, qNotT, qAndT, qOrT, qTru, tru_non, tru_bl, tru_int, tru_str, tru_tup, tru_rol, tru_ref, qIf, qNil, qCons, qTup, qLst, qCB, cInt_i, cInt2_ii, cToInt_i, cToInt_b, cLen_s, cLen_t, cLen_r, cLen_l, cTuple_t, cTuple_r, cTuple_l, cList_t, cList_r, cList_l, qNeg, oI_ii, oAdd_ii, oSub, oMul, oDiv, oMod, oPow, oEq, oNe, oEqW_ii, oEqW_ss, oEqW_bb, oLt, oLe, oGt, oGe, oOrd_ii, oOrd_ss, oIx_t, oIx_r, oIx_l, oIx_s, qNo, qPart, qSl, oSl_t, oSl_r, oSl_l, oSl_s, qMeth, mAppend_1, iSeq, iRange1, iRange2, qCall, endsF, startD, List.map_cons, List.map_nil, List.length_cons, List.length_nil, List.length_map, List.cons_append, List.nil_append, List.replicate, List.getElem?_cons_zero, List.getElem?_cons_succ, List.set_cons_zero, List.set_cons_succ, Nat.reduceAdd, Nat.reduceSub, if_true, if_false, id, ups_same, ex_lst, ex_lst2, ex_some, atI_0, atI_1, atI_2, atI_3, ixN_0, ixN_1, ixN_21, oIx_p]
  refine told_ok nd tok fun S1 P1 E1 sub tok1 h1 h2 => ?_
  simp only [sSeq, sNext_eq, sBreak_eq, sCont_eq, sDrop, sRet, sRetN, sIf, sSet, sPar, sAsg, sRaise, gN, gE, gC, gU, gS, qVar, qC, qBin, qTB, qChain, qNot, qAnd, qOr, bd_bl, qNotT, qAndT, qOrT, qTru, tru_non, tru_bl, tru_int, tru_str, tru_tup, tru_rol, tru_ref, qIf, qNil, qCons, qTup, qLst, qCB, cInt_i, cInt2_ii, cToInt_i, cToInt_b, cLen_s, cLen_t, cLen_r, cLen_l, cTuple_t, cTuple_r, cTuple_l, cList_t, cList_r, cList_l, qNeg, oI_ii, oAdd_ii, oSub, oMul, oDiv, oMod, oPow, oEq, oNe, oEqW_ii, oEqW_ss, oEqW_bb, oLt, oLe, oGt, oGe, oOrd_ii, oOrd_ss, oIx_t, oIx_r, oIx_l, oIx_s, qNo, qPart, qSl, oSl_t, oSl_r, oSl_l, oSl_s, qMeth, mAppend_1, iSeq, iRange1, iRange2, qCall, endsF, startD, List.map_cons, List.map_nil, List.length_cons, List.length_nil, List.length_map, List.cons_append, List.nil_append, List.replicate, List.getElem?_cons_zero, List.getElem?_cons_succ, List.set_cons_zero, List.set_cons_succ, Nat.reduceAdd, Nat.reduceSub, if_true, if_false, id, ups_same, ex_lst, ex_lst2, ex_some, atI_0, atI_1, atI_2, atI_3, ixN_0, ixN_1, ixN_21, oIx_p]
  have hpos := hc.pos
  refine ⟨l, t, e, x, rfl, sz_of hc, by omega, fun _ _ hv k hk => h1 _ S1 sub ⟨by decide, eq_to ?_⟩, fun _ _ hv => h2 2 S1 (by decide) sub ⟨by decide, eq_mi ?_⟩, fun z => absurd ⟨hc, by omega, hm⟩ z⟩
  · try simp only [sSeq, sNext_eq, sBreak_eq, sCont_eq, sDrop, sRet, sRetN, sIf, sSet, sPar, sAsg, sRaise, gN, gE, gC, gU, gS, qVar, qC, qBin, qTB, qChain, qNot, qAnd, qOr, bd_bl, qNotT, qAndT, qOrT, qTru, tru_non, tru_bl, tru_int, tru_str, tru_tup, tru_rol, tru_ref, qIf, qNil, qCons, qTup, qLst, qCB, cInt_i, cInt2_ii, cToInt_i, cToInt_b, cLen_s, cLen_t, cLen_r, cLen_l, cTuple_t, cTuple_r, cTuple_l, cList_t, cList_r, cList_l, qNeg, oI_ii, oAdd_ii, oSub, oMul, oDiv, oMod, oPow, oEq, oNe, oEqW_ii, oEqW_ss, oEqW_bb, oLt, oLe, oGt, oGe, oOrd_ii, oOrd_ss, oIx_t, oIx_r, oIx_l, oIx_s, qNo, qPart, qSl, oSl_t, oSl_r, oSl_l, oSl_s, qMeth, mAppend_1, iSeq, iRange1, iRange2, qCall, endsF, startD, List.map_cons, List.map_nil, List.length_cons, List.length_nil, List.length_map, List.cons_append, List.nil_append, List.replicate, List.getElem?_cons_zero, List.getElem?_cons_succ, List.set_cons_zero, List.set_cons_succ, Nat.reduceAdd, Nat.reduceSub, if_true, if_false, id, ups_same, ex_lst, ex_lst2, ex_some, atI_0, atI_1, atI_2, atI_3, ixN_0, ixN_1, ixN_21, oIx_p]
    refine ⟨l, t, e, x, rfl, hc, by omega, hm, ?_⟩
    rw [dB_t hv]
    exact hn
  · try simp only [sSeq, sNext_eq, sBreak_eq, sCont_eq, sDrop, sRet, sRetN, sIf, sSet, sPar, sAsg, sRaise, gN, gE, gC, gU, gS, qVar, qC, qBin, qTB, qChain, qNot, qAnd, qOr, bd_bl, qNotT, qAndT, qOrT, qTru, tru_non, tru_bl, tru_int, tru_str, tru_tup, tru_rol, tru_ref, qIf, qNil, qCons, qTup, qLst, qCB, cInt_i, cInt2_ii, cToInt_i, cToInt_b, cLen_s, cLen_t, cLen_r, cLen_l, cTuple_t, cTuple_r, cTuple_l, cList_t, cList_r, cList_l, qNeg, oI_ii, oAdd_ii, oSub, oMul, oDiv, oMod, oPow, oEq, oNe, oEqW_ii, oEqW_ss, oEqW_bb, oLt, oLe, oGt, oGe, oOrd_ii, oOrd_ss, oIx_t, oIx_r, oIx_l, oIx_s, qNo, qPart, qSl, oSl_t, oSl_r, oSl_l, oSl_s, qMeth, mAppend_1, iSeq, iRange1, iRange2, qCall, endsF, startD, List.map_cons, List.map_nil, List.length_cons, List.length_nil, List.length_map, List.cons_append, List.nil_append, List.replicate, List.getElem?_cons_zero, List.getElem?_cons_succ, List.set_cons_zero, List.set_cons_succ, Nat.reduceAdd, Nat.reduceSub, if_true, if_false, id, ups_same, ex_lst, ex_lst2, ex_some, atI_0, atI_1, atI_2, atI_3, ixN_0, ixN_1, ixN_21, oIx_p]
    refine ⟨l, t, e, x, rfl, hc, by omega, hm, ?_⟩
    rw [dB_f hv]
    exact hn
theorem t3_ok (nd : ad.six.Nodup) (I : Inv tb s n xs k S) (hk : k < 400000000) (hc : Ch l t e) (hn : ∀ S' j z11, Inv tb s n xs j S' → k ≤ j → j ≤ k + 9 → P.nx [y0, some (.ref s), y2, some (chD l t e), y4, y5, y6, y7, y8, y9, y10, z11, y12] S') :
    r_law_t3 ad tb nm P [y0, some (.ref s), y2, some (chD l t e), y4, y5, y6, y7, y8, y9, y10, y11, y12] S := by
  have hk0 := I.st.k0
  have hlo := hc.sg.lo
  have hhi := hc.sg.hi
  simp only [r_law_t3, qMethS, mJoin, sSeq, sNext_eq, sBreak_eq, sCont_eq, sDrop, sRet, sRetN, sIf, sSet, sPar, sAsg, sRaise, gN, gE, gC, gU, gS, qVar, qC, qBin, qTB, qChain, qNot, qAnd, qOr, bd_bl, qNotT, qAndT, qOrT, qTru, tru_non, tru_bl, tru_int, tru_str, tru_tup, tru_rol, tru_ref, qIf, qNil, qCons, qTup, qLst, qCB, cInt_i, cInt2_ii, cToInt_i, cToInt_b, cLen_s, cLen_t, cLen_r, cLen_l, cTuple_t, cTuple_r, cTuple_l, cList_t, cList_r, cList_l, qNeg, oI_ii, oAdd_ii, oSub, oMul, oDiv, oMod, oPow, oEq, oNe, oEqW_ii, oEqW_ss, oEqW_bb, oLt, oLe, oGt, oGe, oOrd_ii, oOrd_ss, oIx_t, oIx_r, oIx_l, oIx_s, qNo, qPart, qSl, oSl_t, oSl_r, oSl_l, oSl_s, qMeth, mAppend_1, iSeq, iRange1, iRange2, qCall, endsF, startD, List.map_cons, List.map_nil, List.length_cons, List.length_nil, List.length_map, List.cons_append, List.nil_append, List.replicate, List.getElem?_cons_zero, List.getElem?_cons_succ, List.set_cons_zero, List.set_cons_succ, Nat.reduceAdd, Nat.reduceSub, if_true, if_false, id, ups_same, ex_lst, ex_lst2, ex_some, atI_0, atI_1, atI_2, atI_3, ixN_0, ixN_1, ixN_21, oIx_p]
  refine lc_rndT (.vals (rangeD 0 (9 : Int).toNat)) (List.range 9) (fun i : Nat => .int i) 1 cD (fun _ a => a ∈ l) (S1 := S) (fun Q hQ => by simp only [sSeq, sNext_eq, sBreak_eq, sCont_eq, sDrop, sRet, sRetN, sIf, sSet, sPar, sAsg, sRaise, gN, gE, gC, gU, gS, qVar, qC, qBin, qTB, qChain, qNot, qAnd, qOr, bd_bl, qNotT, qAndT, qOrT, qTru, tru_non, tru_bl, tru_int, tru_str, tru_tup, tru_rol, tru_ref, qIf, qNil, qCons, qTup, qLst, qCB, cInt_i, cInt2_ii, cToInt_i, cToInt_b, cLen_s, cLen_t, cLen_r, cLen_l, cTuple_t, cTuple_r, cTuple_l, cList_t, cList_r, cList_l, qNeg, oI_ii, oAdd_ii, oSub, oMul, oDiv, oMod, oPow, oEq, oNe, oEqW_ii, oEqW_ss, oEqW_bb, oLt, oLe, oGt, oGe, oOrd_ii, oOrd_ss, oIx_t, oIx_r, oIx_l, oIx_s, qNo, qPart, qSl, oSl_t, oSl_r, oSl_l, oSl_s, qMeth, mAppend_1, iSeq, iRange1, iRange2, qCall, endsF, startD, List.map_cons, List.map_nil, List.length_cons, List.length_nil, List.length_map, List.cons_append, List.nil_append, List.replicate, List.getElem?_cons_zero, List.getElem?_cons_succ, List.set_cons_zero, List.set_cons_succ, Nat.reduceAdd, Nat.reduceSub, if_true, if_false, id, ups_same, ex_lst, ex_lst2, ex_some, atI_0, atI_1, atI_2, atI_3, ixN_0, ixN_1, ixN_21, oIx_p]; exact ⟨by omega, by omega, hQ⟩) (PL.range_items (m := 9)) (fun _ _ _ => trivial) (by simp) (by omega) I.st I.tok (fun a S' j C ha J tk j1 j2 hC => ?_) fun p S' bs j hp J tk j1 j2 e2 hlen hR => ?_
  · rw [List.length_range] at j2
    simp only [wipeD, chD, tx_len, sSeq, sNext_eq, sBreak_eq, sCont_eq, sDrop, sRet, sRetN, sIf, sSet, sPar, sAsg, sRaise, gN, gE, gC, gU, gS, qVar, qC, qBin, qTB, qChain, qNot, qAnd, qOr, bd_bl, qNotT, qAndT, qOrT, qTru, tru_non, tru_bl, tru_int, tru_str, tru_tup, tru_rol, tru_ref, qIf, qNil, qCons, qTup, qLst, qCB, cInt_i, cInt2_ii, cToInt_i, cToInt_b, cLen_s, cLen_t, cLen_r, cLen_l, cTuple_t, cTuple_r, cTuple_l, cList_t, cList_r, cList_l, qNeg, oI_ii, oAdd_ii, oSub, oMul, oDiv, oMod, oPow, oEq, oNe, oEqW_ii, oEqW_ss, oEqW_bb, oLt, oLe, oGt, oGe, oOrd_ii, oOrd_ss, oIx_t, oIx_r, oIx_l, oIx_s, qNo, qPart, qSl, oSl_t, oSl_r, oSl_l, oSl_s, qMeth, mAppend_1, iSeq, iRange1, iRange2, qCall, endsF, startD, List.map_cons, List.map_nil, List.length_cons, List.length_nil, List.length_map, List.cons_append, List.nil_append, List.replicate, List.getElem?_cons_zero, List.getElem?_cons_succ, List.set_cons_zero, List.set_cons_succ, Nat.reduceAdd, Nat.reduceSub, if_true, if_false, id, ups_same, ex_lst, ex_lst2, ex_some, atI_0, atI_1, atI_2, atI_3, ixN_0, ixN_1, ixN_21, oIx_p]
    refine ⟨szL (by omega), next_go J.st (by omega) (by omega) fun r r0 r1 => ?_⟩
    obtain ⟨r, rfl⟩ := Int.eq_ofNat_of_zero_le r0
    have hr : r < l.length := by omega
    rw [oIx_s, tx_len, tx_list, atI_lt, List.getElem?_eq_getElem hr]
    refine ⟨szL (by omega), l[r], rfl, ?_⟩
    exact hC l[r] _ (j + 1) (List.getElem_mem hr) ((St.start J.st).step (by omega)) (tk.set J.st.st) (by omega) (by omega)
  · rw [List.length_range] at j2 hlen
    have hbs : ∀ a ∈ bs, a ∈ l := fun a ha => by
      obtain ⟨_, _, z⟩ := all_R (by rw [List.length_range]; exact hlen) hR a ha
      exact z
    refine ⟨_, bs.map one, rfl, .inl (.inr ⟨p, rfl, by rw [e2, cD_map]⟩), ?_, ?_⟩
    · rw [len_one, List.length_map]
      have : ("" : Str).length = 0 := by decide +kernel
      rw [this]
      omega
    · rw [PL.join_one]
      try simp only [sSeq, sNext_eq, sBreak_eq, sCont_eq, sDrop, sRet, sRetN, sIf, sSet, sPar, sAsg, sRaise, gN, gE, gC, gU, gS, qVar, qC, qBin, qTB, qChain, qNot, qAnd, qOr, bd_bl, qNotT, qAndT, qOrT, qTru, tru_non, tru_bl, tru_int, tru_str, tru_tup, tru_rol, tru_ref, qIf, qNil, qCons, qTup, qLst, qCB, cInt_i, cInt2_ii, cToInt_i, cToInt_b, cLen_s, cLen_t, cLen_r, cLen_l, cTuple_t, cTuple_r, cTuple_l, cList_t, cList_r, cList_l, qNeg, oI_ii, oAdd_ii, oSub, oMul, oDiv, oMod, oPow, oEq, oNe, oEqW_ii, oEqW_ss, oEqW_bb, oLt, oLe, oGt, oGe, oOrd_ii, oOrd_ss, oIx_t, oIx_r, oIx_l, oIx_s, qNo, qPart, qSl, oSl_t, oSl_r, oSl_l, oSl_s, qMeth, mAppend_1, iSeq, iRange1, iRange2, qCall, endsF, startD, List.map_cons, List.map_nil, List.length_cons, List.length_nil, List.length_map, List.cons_append, List.nil_append, List.replicate, List.getElem?_cons_zero, List.getElem?_cons_succ, List.set_cons_zero, List.set_cons_succ, Nat.reduceAdd, Nat.reduceSub, if_true, if_false, id, ups_same, ex_lst, ex_lst2, ex_some, atI_0, atI_1, atI_2, atI_3, ixN_0, ixN_1, ixN_21, oIx_p]
      exact t2_ok nd tk hc hlen hbs (hn _ j _ ⟨J.st, tk⟩ j1 (by omega))
theorem t4_ok (nd : ad.six.Nodup) (I : Inv tb s n xs k S) (hk : k < 400000000) (hc : Ch l t e) {po pb : Addr} (eo : S po = some (.lst [mi, mi])) (eb : S pb = some (.lst [re, re, re, re, re])) (hn : ∀ S' j z11, Inv tb s n xs j S' → k ≤ j → j ≤ k + 9 → P.nx [y0, some (.ref s), y2, some (chD l t e), some (ks l t e), y5, y6, y7, y8, some (.ref po), some (.ref pb), z11, y12] S') :
    r_law_t4 ad tb nm P [y0, some (.ref s), y2, some (chD l t e), some (ks l t e), y5, y6, y7, y8, some (.ref po), some (.ref pb), y11, y12] S := by
  simp only [r_law_t4, sSeq, sNext_eq, sBreak_eq, sCont_eq, sDrop, sRet, sRetN, sIf, sSet, sPar, sAsg, sRaise, gN, gE, gC, gU, gS, qVar, qC, qBin, qTB, qChain, qNot, qAnd, qOr, bd_bl, qNotT, qAndT, qOrT, qTru, tru_non, tru_bl, tru_int, tru_str, tru_tup, tru_rol, tru_ref, qIf, qNil, qCons, qTup, qLst, qCB, cInt_i, cInt2_ii, cToInt_i, cToInt_b, cLen_s, cLen_t, cLen_r, cLen_l, cTuple_t, cTuple_r, cTuple_l, cList_t, cList_r, cList_l, qNeg, oI_ii, oAdd_ii, oSub, oMul, oDiv, oMod, oPow, oEq, oNe, oEqW_ii, oEqW_ss, oEqW_bb, oLt, oLe, oGt, oGe, oOrd_ii, oOrd_ss, oIx_t, oIx_r, oIx_l, oIx_s, qNo, qPart, qSl, oSl_t, oSl_r, oSl_l, oSl_s, qMeth, mAppend_1, iSeq, iRange1, iRange2, qCall, endsF, startD, List.map_cons, List.map_nil, List.length_cons, List.length_nil, List.length_map, List.cons_append, List.nil_append, List.replicate, List.getElem?_cons_zero, List.getElem?_cons_succ, List.set_cons_zero, List.set_cons_succ, Nat.reduceAdd, Nat.reduceSub, if_true, if_false, id, ups_same, ex_lst, ex_lst2, ex_some, atI_0, atI_1, atI_2, atI_3, ixN_0, ixN_1, ixN_21, oIx_p]
  refine ⟨by decide, by decide, fun p hp => ⟨p, 2, _, rfl, rfl, ups_same, by decide, by decide, by decide, fun q hq => ?_⟩⟩
  have s1 := ((Sub.refl S).new hp (o := .lst [mi])).new hq (o := .lst (List.replicate 2 [mi]).flatten)
  have I1 := (I.fresh hp (ds := [mi])).fresh hq (ds := (List.replicate 2 [mi]).flatten)
  refine ne_mi (s1 _ _ eo) ups_same ?_
  refine ifF rfl ?_
  change Sub S (ups (ups S p (.lst [.tup [.str "missing"]])) q (.lst (List.replicate (2 : Int).toNat [.tup [.str "missing"]]).flatten)) at s1
  change Inv tb s n xs k (ups (ups S p (.lst [.tup [.str "missing"]])) q (.lst (List.replicate (2 : Int).toNat [.tup [.str "missing"]]).flatten)) at I1
  generalize ups (ups S p (.lst [.tup [.str "missing"]])) q (.lst (List.replicate (2 : Int).toNat [.tup [.str "missing"]]).flatten) = S1 at s1 I1 ⊢
  refine ⟨by decide, by decide, fun p2 hp2 => ⟨p2, 5, _, rfl, rfl, ups_same, by decide, by decide, by decide, fun q2 hq2 => ?_⟩⟩
  have s2 := ((Sub.refl S1).new hp2 (o := .lst [re])).new hq2 (o := .lst (List.replicate 5 [re]).flatten)
  have I2 := (I1.fresh hp2 (ds := [re])).fresh hq2 (ds := (List.replicate 5 [re]).flatten)
  refine ne_re5 (s2 _ _ (s1 _ _ eb)) ups_same ?_
  refine ifF rfl ?_
  refine ⟨chD l t e, pyD (chD l t e), rfl, .inr (.inl ⟨_, rfl⟩), (ch_data hc _).1, (ch_data hc S).2, ?_⟩
  simp only [ks, sSeq, sNext_eq, sBreak_eq, sCont_eq, sDrop, sRet, sRetN, sIf, sSet, sPar, sAsg, sRaise, gN, gE, gC, gU, gS, qVar, qC, qBin, qTB, qChain, qNot, qAnd, qOr, bd_bl, qNotT, qAndT, qOrT, qTru, tru_non, tru_bl, tru_int, tru_str, tru_tup, tru_rol, tru_ref, qIf, qNil, qCons, qTup, qLst, qCB, cInt_i, cInt2_ii, cToInt_i, cToInt_b, cLen_s, cLen_t, cLen_r, cLen_l, cTuple_t, cTuple_r, cTuple_l, cList_t, cList_r, cList_l, qNeg, oI_ii, oAdd_ii, oSub, oMul, oDiv, oMod, oPow, oEq, oNe, oEqW_ii, oEqW_ss, oEqW_bb, oLt, oLe, oGt, oGe, oOrd_ii, oOrd_ss, oIx_t, oIx_r, oIx_l, oIx_s, qNo, qPart, qSl, oSl_t, oSl_r, oSl_l, oSl_s, qMeth, mAppend_1, iSeq, iRange1, iRange2, qCall, endsF, startD, List.map_cons, List.map_nil, List.length_cons, List.length_nil, List.length_map, List.cons_append, List.nil_append, List.replicate, List.getElem?_cons_zero, List.getElem?_cons_succ, List.set_cons_zero, List.set_cons_succ, Nat.reduceAdd, Nat.reduceSub, if_true, if_false, id, ups_same, ex_lst, ex_lst2, ex_some, atI_0, atI_1, atI_2, atI_3, ixN_0, ixN_1, ixN_21, oIx_p]
  refine ifF (by simp) ?_
  exact t3_ok nd I2 hk hc fun S' j z11 I3 j1 j2 => hn S' j z11 I3 j1 j2
theorem rep_tx {a : Nat} {m : Nat} : strRep (m : Int) (tx [a]) = tx (List.replicate m a) := by
  unfold strRep tx
  rw [Int.toNat_natCast]
  simp
theorem t6_ok (nd : ad.six.Nodup) (I : Inv tb s n xs k S) (hk : k < 400000000) (hc : Ch l t e) (hlen : len ≤ 200) (hn : ∀ S' j z9 z10 z11, Inv tb s n xs j S' → k ≤ j → j ≤ k + 9 → P.nx [y0, some (.ref s), y2, some (chD l t e), some (ks l t e), some (.int len), some (.int (cn t e len 0)), y7, y8, z9, z10, z11, y12] S') :
    r_law_t6 ad tb nm P [y0, some (.ref s), y2, some (chD l t e), some (ks l t e), some (.int len), some (.int (cn t e len 0)), y7, y8, y9, y10, y11, y12] S := by
  have hlo := hc.sg.lo
  have hhi := hc.sg.hi
  simp only [r_law_t6, sSeq, sNext_eq, sBreak_eq, sCont_eq, sDrop, sRet, sRetN, sIf, sSet, sPar, sAsg, sRaise, gN, gE, gC, gU, gS, qVar, qC, qBin, qTB, qChain, qNot, qAnd, qOr, bd_bl, qNotT, qAndT, qOrT, qTru, tru_non, tru_bl, tru_int, tru_str, tru_tup, tru_rol, tru_ref, qIf, qNil, qCons, qTup, qLst, qCB, cInt_i, cInt2_ii, cToInt_i, cToInt_b, cLen_s, cLen_t, cLen_r, cLen_l, cTuple_t, cTuple_r, cTuple_l, cList_t, cList_r, cList_l, qNeg, oI_ii, oAdd_ii, oSub, oMul, oDiv, oMod, oPow, oEq, oNe, oEqW_ii, oEqW_ss, oEqW_bb, oLt, oLe, oGt, oGe, oOrd_ii, oOrd_ss, oIx_t, oIx_r, oIx_l, oIx_s, qNo, qPart, qSl, oSl_t, oSl_r, oSl_l, oSl_s, qMeth, mAppend_1, iSeq, iRange1, iRange2, qCall, endsF, startD, List.map_cons, List.map_nil, List.length_cons, List.length_nil, List.length_map, List.cons_append, List.nil_append, List.replicate, List.getElem?_cons_zero, List.getElem?_cons_succ, List.set_cons_zero, List.set_cons_succ, Nat.reduceAdd, Nat.reduceSub, if_true, if_false, id, ups_same, ex_lst, ex_lst2, ex_some, atI_0, atI_1, atI_2, atI_3, ixN_0, ixN_1, ixN_21, oIx_p]
  refine told_ok nd I.tok fun S1 P1 E1 sub tok1 h1 h2 => ?_
  simp only [sSeq, sNext_eq, sBreak_eq, sCont_eq, sDrop, sRet, sRetN, sIf, sSet, sPar, sAsg, sRaise, gN, gE, gC, gU, gS, qVar, qC, qBin, qTB, qChain, qNot, qAnd, qOr, bd_bl, qNotT, qAndT, qOrT, qTru, tru_non, tru_bl, tru_int, tru_str, tru_tup, tru_rol, tru_ref, qIf, qNil, qCons, qTup, qLst, qCB, cInt_i, cInt2_ii, cToInt_i, cToInt_b, cLen_s, cLen_t, cLen_r, cLen_l, cTuple_t, cTuple_r, cTuple_l, cList_t, cList_r, cList_l, qNeg, oI_ii, oAdd_ii, oSub, oMul, oDiv, oMod, oPow, oEq, oNe, oEqW_ii, oEqW_ss, oEqW_bb, oLt, oLe, oGt, oGe, oOrd_ii, oOrd_ss, oIx_t, oIx_r, oIx_l, oIx_s, qNo, qPart, qSl, oSl_t, oSl_r, oSl_l, oSl_s, qMeth, mAppend_1, iSeq, iRange1, iRange2, qCall, endsF, startD, List.map_cons, List.map_nil, List.length_cons, List.length_nil, List.length_map, List.cons_append, List.nil_append, List.replicate, List.getElem?_cons_zero, List.getElem?_cons_succ, List.set_cons_zero, List.set_cons_succ, Nat.reduceAdd, Nat.reduceSub, if_true, if_false, id, ups_same, ex_lst, ex_lst2, ex_some, atI_0, atI_1, atI_2, atI_3, ixN_0, ixN_1, ixN_21, oIx_p]
  refine ⟨l, t, e, len, _, rfl, sz_of hc, fun _ _ _ h0 x hx => ?_, fun _ _ _ _ => h2 2 S1 (by decide) sub ?_, fun z => absurd ⟨hc, by omega, by omega⟩ z⟩
  · exfalso
    have h3 := (List.getElem?_eq_some_iff.mp hx).1
    have h4 := vl_len hc len 0 (by have := hc.pos; omega)
    rw [Int.toNat_natCast] at h3
    omega
  · refine told_ok nd I.tok fun S1 P1 E1 sub tok1 h1 h2 => ?_
    simp only [sSeq, sNext_eq, sBreak_eq, sCont_eq, sDrop, sRet, sRetN, sIf, sSet, sPar, sAsg, sRaise, gN, gE, gC, gU, gS, qVar, qC, qBin, qTB, qChain, qNot, qAnd, qOr, bd_bl, qNotT, qAndT, qOrT, qTru, tru_non, tru_bl, tru_int, tru_str, tru_tup, tru_rol, tru_ref, qIf, qNil, qCons, qTup, qLst, qCB, cInt_i, cInt2_ii, cToInt_i, cToInt_b, cLen_s, cLen_t, cLen_r, cLen_l, cTuple_t, cTuple_r, cTuple_l, cList_t, cList_r, cList_l, qNeg, oI_ii, oAdd_ii, oSub, oMul, oDiv, oMod, oPow, oEq, oNe, oEqW_ii, oEqW_ss, oEqW_bb, oLt, oLe, oGt, oGe, oOrd_ii, oOrd_ss, oIx_t, oIx_r, oIx_l, oIx_s, qNo, qPart, qSl, oSl_t, oSl_r, oSl_l, oSl_s, qMeth, mAppend_1, iSeq, iRange1, iRange2, qCall, endsF, startD, List.map_cons, List.map_nil, List.length_cons, List.length_nil, List.length_map, List.cons_append, List.nil_append, List.replicate, List.getElem?_cons_zero, List.getElem?_cons_succ, List.set_cons_zero, List.set_cons_succ, Nat.reduceAdd, Nat.reduceSub, if_true, if_false, id, ups_same, ex_lst, ex_lst2, ex_some, atI_0, atI_1, atI_2, atI_3, ixN_0, ixN_1, ixN_21, oIx_p]
    refine ⟨l, t, e, len, _, rfl, sz_of hc, fun _ _ _ h0 x hx => absurd h0 (by decide), fun _ _ _ _ => h2 2 S1 (by decide) sub ?_, fun z => absurd ⟨hc, by omega, by omega⟩ z⟩
    refine ⟨by decide, fun po hpo => ?_⟩
    have I1 := I.fresh hpo (ds := [mi, mi])
    have e1 : ups S po (.lst [mi, mi]) po = some (.lst [mi, mi]) := ups_same
    change Inv tb s n xs k (ups S po (.lst [.tup [.str "missing"], .tup [.str "missing"]])) at I1
    change ups S po (.lst [.tup [.str "missing"], .tup [.str "missing"]]) po = _ at e1
    generalize hS1 : ups S po (.lst [.tup [.str "missing"], .tup [.str "missing"]]) = S1 at I1 e1
    have : r_law_t5 ad tb nm P [y0, some (.ref s), y2, some (chD l t e), some (ks l t e), some (.int len), some (.int (cn t e len 0)), y7, y8, some (.ref po), y10, y11, y12] S1 := by
      simp only [r_law_t5, sSeq, sNext_eq, sBreak_eq, sCont_eq, sDrop, sRet, sRetN, sIf, sSet, sPar, sAsg, sRaise, gN, gE, gC, gU, gS, qVar, qC, qBin, qTB, qChain, qNot, qAnd, qOr, bd_bl, qNotT, qAndT, qOrT, qTru, tru_non, tru_bl, tru_int, tru_str, tru_tup, tru_rol, tru_ref, qIf, qNil, qCons, qTup, qLst, qCB, cInt_i, cInt2_ii, cToInt_i, cToInt_b, cLen_s, cLen_t, cLen_r, cLen_l, cTuple_t, cTuple_r, cTuple_l, cList_t, cList_r, cList_l, qNeg, oI_ii, oAdd_ii, oSub, oMul, oDiv, oMod, oPow, oEq, oNe, oEqW_ii, oEqW_ss, oEqW_bb, oLt, oLe, oGt, oGe, oOrd_ii, oOrd_ss, oIx_t, oIx_r, oIx_l, oIx_s, qNo, qPart, qSl, oSl_t, oSl_r, oSl_l, oSl_s, qMeth, mAppend_1, iSeq, iRange1, iRange2, qCall, endsF, startD, List.map_cons, List.map_nil, List.length_cons, List.length_nil, List.length_map, List.cons_append, List.nil_append, List.replicate, List.getElem?_cons_zero, List.getElem?_cons_succ, List.set_cons_zero, List.set_cons_succ, Nat.reduceAdd, Nat.reduceSub, if_true, if_false, id, ups_same, ex_lst, ex_lst2, ex_some, atI_0, atI_1, atI_2, atI_3, ixN_0, ixN_1, ixN_21, oIx_p]
      refine told_ok nd I1.tok fun S2 P1 E1 sub tok1 h1 h2 => ?_
      simp only [sSeq, sNext_eq, sBreak_eq, sCont_eq, sDrop, sRet, sRetN, sIf, sSet, sPar, sAsg, sRaise, gN, gE, gC, gU, gS, qVar, qC, qBin, qTB, qChain, qNot, qAnd, qOr, bd_bl, qNotT, qAndT, qOrT, qTru, tru_non, tru_bl, tru_int, tru_str, tru_tup, tru_rol, tru_ref, qIf, qNil, qCons, qTup, qLst, qCB, cInt_i, cInt2_ii, cToInt_i, cToInt_b, cLen_s, cLen_t, cLen_r, cLen_l, cTuple_t, cTuple_r, cTuple_l, cList_t, cList_r, cList_l, qNeg, oI_ii, oAdd_ii, oSub, oMul, oDiv, oMod, oPow, oEq, oNe, oEqW_ii, oEqW_ss, oEqW_bb, oLt, oLe, oGt, oGe, oOrd_ii, oOrd_ss, oIx_t, oIx_r, oIx_l, oIx_s, qNo, qPart, qSl, oSl_t, oSl_r, oSl_l, oSl_s, qMeth, mAppend_1, iSeq, iRange1, iRange2, qCall, endsF, startD, List.map_cons, List.map_nil, List.length_cons, List.length_nil, List.length_map, List.cons_append, List.nil_append, List.replicate, List.getElem?_cons_zero, List.getElem?_cons_succ, List.set_cons_zero, List.set_cons_succ, Nat.reduceAdd, Nat.reduceSub, if_true, if_false, id, ups_same, ex_lst, ex_lst2, ex_some, atI_0, atI_1, atI_2, atI_3, ixN_0, ixN_1, ixN_21, oIx_p]
      refine ⟨l, t, e, _, rfl, sz_of hc, fun _ z => absurd z (by decide), fun _ => h2 0 S2 (by decide) sub ?_⟩
      refine told_ok nd I1.tok fun S2 P1 E1 sub tok1 h1 h2 => ?_
      simp only [sSeq, sNext_eq, sBreak_eq, sCont_eq, sDrop, sRet, sRetN, sIf, sSet, sPar, sAsg, sRaise, gN, gE, gC, gU, gS, qVar, qC, qBin, qTB, qChain, qNot, qAnd, qOr, bd_bl, qNotT, qAndT, qOrT, qTru, tru_non, tru_bl, tru_int, tru_str, tru_tup, tru_rol, tru_ref, qIf, qNil, qCons, qTup, qLst, qCB, cInt_i, cInt2_ii, cToInt_i, cToInt_b, cLen_s, cLen_t, cLen_r, cLen_l, cTuple_t, cTuple_r, cTuple_l, cList_t, cList_r, cList_l, qNeg, oI_ii, oAdd_ii, oSub, oMul, oDiv, oMod, oPow, oEq, oNe, oEqW_ii, oEqW_ss, oEqW_bb, oLt, oLe, oGt, oGe, oOrd_ii, oOrd_ss, oIx_t, oIx_r, oIx_l, oIx_s, qNo, qPart, qSl, oSl_t, oSl_r, oSl_l, oSl_s, qMeth, mAppend_1, iSeq, iRange1, iRange2, qCall, endsF, startD, List.map_cons, List.map_nil, List.length_cons, List.length_nil, List.length_map, List.cons_append, List.nil_append, List.replicate, List.getElem?_cons_zero, List.getElem?_cons_succ, List.set_cons_zero, List.set_cons_succ, Nat.reduceAdd, Nat.reduceSub, if_true, if_false, id, ups_same, ex_lst, ex_lst2, ex_some, atI_0, atI_1, atI_2, atI_3, ixN_0, ixN_1, ixN_21, oIx_p]
      refine ⟨l, t, e, _, rfl, sz_of hc, fun _ _ z => absurd z (by decide), fun _ => h2 0 S2 (by decide) sub ?_⟩
      refine told_ok nd I1.tok fun S2 P1 E1 sub tok1 h1 h2 => ?_
      simp only [sSeq, sNext_eq, sBreak_eq, sCont_eq, sDrop, sRet, sRetN, sIf, sSet, sPar, sAsg, sRaise, gN, gE, gC, gU, gS, qVar, qC, qBin, qTB, qChain, qNot, qAnd, qOr, bd_bl, qNotT, qAndT, qOrT, qTru, tru_non, tru_bl, tru_int, tru_str, tru_tup, tru_rol, tru_ref, qIf, qNil, qCons, qTup, qLst, qCB, cInt_i, cInt2_ii, cToInt_i, cToInt_b, cLen_s, cLen_t, cLen_r, cLen_l, cTuple_t, cTuple_r, cTuple_l, cList_t, cList_r, cList_l, qNeg, oI_ii, oAdd_ii, oSub, oMul, oDiv, oMod, oPow, oEq, oNe, oEqW_ii, oEqW_ss, oEqW_bb, oLt, oLe, oGt, oGe, oOrd_ii, oOrd_ss, oIx_t, oIx_r, oIx_l, oIx_s, qNo, qPart, qSl, oSl_t, oSl_r, oSl_l, oSl_s, qMeth, mAppend_1, iSeq, iRange1, iRange2, qCall, endsF, startD, List.map_cons, List.map_nil, List.length_cons, List.length_nil, List.length_map, List.cons_append, List.nil_append, List.replicate, List.getElem?_cons_zero, List.getElem?_cons_succ, List.set_cons_zero, List.set_cons_succ, Nat.reduceAdd, Nat.reduceSub, if_true, if_false, id, ups_same, ex_lst, ex_lst2, ex_some, atI_0, atI_1, atI_2, atI_3, ixN_0, ixN_1, ixN_21, oIx_p]
      refine ⟨l, t, e, _, _, rfl, sz_of hc, fun _ _ z => absurd z (by decide), fun _ _ z => absurd z (by decide), fun _ => h2 0 S2 (by decide) sub ?_⟩
      refine told_ok nd I1.tok fun S2 P1 E1 sub tok1 h1 h2 => ?_
      simp only [sSeq, sNext_eq, sBreak_eq, sCont_eq, sDrop, sRet, sRetN, sIf, sSet, sPar, sAsg, sRaise, gN, gE, gC, gU, gS, qVar, qC, qBin, qTB, qChain, qNot, qAnd, qOr, bd_bl, qNotT, qAndT, qOrT, qTru, tru_non, tru_bl, tru_int, tru_str, tru_tup, tru_rol, tru_ref, qIf, qNil, qCons, qTup, qLst, qCB, cInt_i, cInt2_ii, cToInt_i, cToInt_b, cLen_s, cLen_t, cLen_r, cLen_l, cTuple_t, cTuple_r, cTuple_l, cList_t, cList_r, cList_l, qNeg, oI_ii, oAdd_ii, oSub, oMul, oDiv, oMod, oPow, oEq, oNe, oEqW_ii, oEqW_ss, oEqW_bb, oLt, oLe, oGt, oGe, oOrd_ii, oOrd_ss, oIx_t, oIx_r, oIx_l, oIx_s, qNo, qPart, qSl, oSl_t, oSl_r, oSl_l, oSl_s, qMeth, mAppend_1, iSeq, iRange1, iRange2, qCall, endsF, startD, List.map_cons, List.map_nil, List.length_cons, List.length_nil, List.length_map, List.cons_append, List.nil_append, List.replicate, List.getElem?_cons_zero, List.getElem?_cons_succ, List.set_cons_zero, List.set_cons_succ, Nat.reduceAdd, Nat.reduceSub, if_true, if_false, id, ups_same, ex_lst, ex_lst2, ex_some, atI_0, atI_1, atI_2, atI_3, ixN_0, ixN_1, ixN_21, oIx_p]
      have hA : ¬ Nm l [65] := fun z => absurd (hc.sg.all 65 (z.2 65 (by simp))) (by decide)
      refine ⟨l, t, e, [65], rfl, sz_of hc, by simp, fun _ z => absurd z hA, fun _ z => absurd z hA, fun _ => h2 0 S2 (by decide) sub ?_⟩
      refine told_ok nd I1.tok fun S2 P1 E1 sub tok1 h1 h2 => ?_
      obtain ⟨a, r, rfl⟩ : ∃ a r, l = a :: r := by
        cases l with
        | nil => exact absurd hlo (by simp)
        | cons a r => exact ⟨a, r, rfl⟩
      simp only [chD, sSeq, sNext_eq, sBreak_eq, sCont_eq, sDrop, sRet, sRetN, sIf, sSet, sPar, sAsg, sRaise, gN, gE, gC, gU, gS, qVar, qC, qBin, qTB, qChain, qNot, qAnd, qOr, bd_bl, qNotT, qAndT, qOrT, qTru, tru_non, tru_bl, tru_int, tru_str, tru_tup, tru_rol, tru_ref, qIf, qNil, qCons, qTup, qLst, qCB, cInt_i, cInt2_ii, cToInt_i, cToInt_b, cLen_s, cLen_t, cLen_r, cLen_l, cTuple_t, cTuple_r, cTuple_l, cList_t, cList_r, cList_l, qNeg, oI_ii, oAdd_ii, oSub, oMul, oDiv, oMod, oPow, oEq, oNe, oEqW_ii, oEqW_ss, oEqW_bb, oLt, oLe, oGt, oGe, oOrd_ii, oOrd_ss, oIx_t, oIx_r, oIx_l, oIx_s, qNo, qPart, qSl, oSl_t, oSl_r, oSl_l, oSl_s, qMeth, mAppend_1, iSeq, iRange1, iRange2, qCall, endsF, startD, List.map_cons, List.map_nil, List.length_cons, List.length_nil, List.length_map, List.cons_append, List.nil_append, List.replicate, List.getElem?_cons_zero, List.getElem?_cons_succ, List.set_cons_zero, List.set_cons_succ, Nat.reduceAdd, Nat.reduceSub, if_true, if_false, id, ups_same, ex_lst, ex_lst2, ex_some, atI_0, atI_1, atI_2, atI_3, ixN_0, ixN_1, ixN_21, oIx_p]
      refine ⟨szL (by rw [tx_len]; omega), a, by rw [tx_list]; exact atI_lt (j := 0), ?_⟩
      refine .inl (.inr ⟨tx [a], 201, rfl, rfl, by decide, by decide, by rw [tx_len]; exact (by decide : 1 * Int.toNat 201 ≤ 1000000), ?_⟩)
      rw [show (201 : Int) = ((201 : Nat) : Int) from rfl, rep_tx]
      have hA : ¬ Nm (a :: r) (List.replicate 201 a) := fun z => absurd z.1 (by simp)
      refine ⟨a :: r, t, e, List.replicate 201 a, rfl, sz_of hc, by simp, fun _ z => absurd z hA, fun _ z => absurd z hA, fun _ => h2 0 S2 (by decide) sub ?_⟩
      refine ⟨by decide, fun pb hpb => ?_⟩
      have I2 := I1.fresh hpb (ds := [re, re, re, re, re])
      exact t4_ok nd I2 hk hc (((Sub.refl S1).new hpb) _ _ e1) ups_same fun S' j z11 I3 j1 j2 => hn S' j _ _ z11 I3 j1 j2
    rw [← hS1] at this
    exact this
end
end K21

namespace K21
open PySem PySem.Spec PyProof.Rows L2 PL
variable {ad : Ad}
section
variable {tb : List (Addr × Str)} {nm : Str} {s n : Addr} {xs : List Int} {k : Int} {S : Sto} {P : QN} {y0 y1 y2 y3 y4 y5 y6 y7 y8 y9 y10 y11 y12 : Option D} {l : List Nat} {t : Tb} {e : List Int} {len : Nat}
theorem good_cn (hc : Ch l t e) (hlen : len ≤ 200) : good (.list [.int (cn t e len 0)]) := by
  have hpos := hc.pos
  have := log_lt (cn_nn hc len 0 (by omega)) (cn_bound hc len 0 (by omega)) hlen
  exact good_int (by omega)
theorem b1_ok (hc : Ch l t e) (hlen : len ≤ 200) {pl : Int} {w : List Nat} (hord : ∀ x, 0 ≤ pl → (vl l t e len 0)[pl.toNat]? = some x → ¬ x < w)
    (h0 : P.nx [y0, y1, y2, some (chD l t e), y4, some (.int len), some (.int (cn t e len 0)), some (.str (tx w)), some (.int pl), y9, y10, y11, y12] S)
    (h1 : ∀ x, 0 ≤ pl → (vl l t e len 0)[pl.toNat]? = some x → P.nx [y0, y1, y2, some (chD l t e), y4, some (.int len), some (.int (cn t e len 0)), some (.str (tx x)), some (.int pl), y9, y10, some (.str (tx x)), y12] S) :
    r_law_b1 ad tb nm P [y0, y1, y2, some (chD l t e), y4, some (.int len), some (.int (cn t e len 0)), some (.str (tx w)), some (.int pl), y9, y10, y11, y12] S := by
  have hpos := hc.pos
  simp only [r_law_b1, sSeq, sNext_eq, sBreak_eq, sCont_eq, sDrop, sRet, sRetN, sIf, sSet, sPar, sAsg, sRaise, gN, gE, gC, gU, gS, qVar, qC, qBin, qTB, qChain, qNot, qAnd, qOr, bd_bl, qNotT, qAndT, qOrT, qTru, tru_non, tru_bl, tru_int, tru_str, tru_tup, tru_rol, tru_ref, qIf, qNil, qCons, qTup, qLst, qCB, cInt_i, cInt2_ii, cToInt_i, cToInt_b, cLen_s, cLen_t, cLen_r, cLen_l, cTuple_t, cTuple_r, cTuple_l, cList_t, cList_r, cList_l, qNeg, oI_ii, oAdd_ii, oSub, oMul, oDiv, oMod, oPow, oEq, oNe, oEqW_ii, oEqW_ss, oEqW_bb, oLt, oLe, oGt, oGe, oOrd_ii, oOrd_ss, oIx_t, oIx_r, oIx_l, oIx_s, qNo, qPart, qSl, oSl_t, oSl_r, oSl_l, oSl_s, qMeth, mAppend_1, iSeq, iRange1, iRange2, qCall, endsF, startD, List.map_cons, List.map_nil, List.length_cons, List.length_nil, List.length_map, List.cons_append, List.nil_append, List.replicate, List.getElem?_cons_zero, List.getElem?_cons_succ, List.set_cons_zero, List.set_cons_succ, Nat.reduceAdd, Nat.reduceSub, if_true, if_false, id, ups_same, ex_lst, ex_lst2, ex_some, atI_0, atI_1, atI_2, atI_3, ixN_0, ixN_1, ixN_21, oIx_p]
  by_cases c1 : 0 ≤ pl
  · rw [decide_eq_true c1]
    by_cases c2 : pl < cn t e len 0
    · simp only [decide_eq_true c2, sSeq, sNext_eq, sBreak_eq, sCont_eq, sDrop, sRet, sRetN, sIf, sSet, sPar, sAsg, sRaise, gN, gE, gC, gU, gS, qVar, qC, qBin, qTB, qChain, qNot, qAnd, qOr, bd_bl, qNotT, qAndT, qOrT, qTru, tru_non, tru_bl, tru_int, tru_str, tru_tup, tru_rol, tru_ref, qIf, qNil, qCons, qTup, qLst, qCB, cInt_i, cInt2_ii, cToInt_i, cToInt_b, cLen_s, cLen_t, cLen_r, cLen_l, cTuple_t, cTuple_r, cTuple_l, cList_t, cList_r, cList_l, qNeg, oI_ii, oAdd_ii, oSub, oMul, oDiv, oMod, oPow, oEq, oNe, oEqW_ii, oEqW_ss, oEqW_bb, oLt, oLe, oGt, oGe, oOrd_ii, oOrd_ss, oIx_t, oIx_r, oIx_l, oIx_s, qNo, qPart, qSl, oSl_t, oSl_r, oSl_l, oSl_s, qMeth, mAppend_1, iSeq, iRange1, iRange2, qCall, endsF, startD, List.map_cons, List.map_nil, List.length_cons, List.length_nil, List.length_map, List.cons_append, List.nil_append, List.replicate, List.getElem?_cons_zero, List.getElem?_cons_succ, List.set_cons_zero, List.set_cons_succ, Nat.reduceAdd, Nat.reduceSub, if_true, if_false, id, ups_same, ex_lst, ex_lst2, ex_some, atI_0, atI_1, atI_2, atI_3, ixN_0, ixN_1, ixN_21, oIx_p]
      refine ⟨l, t, e, len, pl, rfl, sz_of hc, fun _ _ _ _ x hx => ?_, fun _ _ _ z => absurd ⟨c1, by rw [Int.toNat_natCast]; exact c2⟩ z, fun z => absurd ⟨hc, by omega, by omega⟩ z⟩
      rw [Int.toNat_natCast] at hx
      have hord := hord x c1 hx
      have h1 := h1 x c1 hx
      obtain ⟨x1, x2, x3⟩ := (vl_mem hc len 0 x (by omega)).mp (List.mem_of_getElem? hx)
      simp only [tx_len, x1, sSeq, sNext_eq, sBreak_eq, sCont_eq, sDrop, sRet, sRetN, sIf, sSet, sPar, sAsg, sRaise, gN, gE, gC, gU, gS, qVar, qC, qBin, qTB, qChain, qNot, qAnd, qOr, bd_bl, qNotT, qAndT, qOrT, qTru, tru_non, tru_bl, tru_int, tru_str, tru_tup, tru_rol, tru_ref, qIf, qNil, qCons, qTup, qLst, qCB, cInt_i, cInt2_ii, cToInt_i, cToInt_b, cLen_s, cLen_t, cLen_r, cLen_l, cTuple_t, cTuple_r, cTuple_l, cList_t, cList_r, cList_l, qNeg, oI_ii, oAdd_ii, oSub, oMul, oDiv, oMod, oPow, oEq, oNe, oEqW_ii, oEqW_ss, oEqW_bb, oLt, oLe, oGt, oGe, oOrd_ii, oOrd_ss, oIx_t, oIx_r, oIx_l, oIx_s, qNo, qPart, qSl, oSl_t, oSl_r, oSl_l, oSl_s, qMeth, mAppend_1, iSeq, iRange1, iRange2, qCall, endsF, startD, List.map_cons, List.map_nil, List.length_cons, List.length_nil, List.length_map, List.cons_append, List.nil_append, List.replicate, List.getElem?_cons_zero, List.getElem?_cons_succ, List.set_cons_zero, List.set_cons_succ, Nat.reduceAdd, Nat.reduceSub, if_true, if_false, id, ups_same, ex_lst, ex_lst2, ex_some, atI_0, atI_1, atI_2, atI_3, ixN_0, ixN_1, ixN_21, oIx_p]
      refine ⟨szL (by omega), ?_⟩
      refine ifF (by simp) ?_
      refine ⟨l, t, e, x, rfl, hc, by omega, x2, ?_⟩
      rw [dB_t (p := Va l t e x) x3]
      simp only [Bool.not_true, Bool.false_eq_true, sSeq, sNext_eq, sBreak_eq, sCont_eq, sDrop, sRet, sRetN, sIf, sSet, sPar, sAsg, sRaise, gN, gE, gC, gU, gS, qVar, qC, qBin, qTB, qChain, qNot, qAnd, qOr, bd_bl, qNotT, qAndT, qOrT, qTru, tru_non, tru_bl, tru_int, tru_str, tru_tup, tru_rol, tru_ref, qIf, qNil, qCons, qTup, qLst, qCB, cInt_i, cInt2_ii, cToInt_i, cToInt_b, cLen_s, cLen_t, cLen_r, cLen_l, cTuple_t, cTuple_r, cTuple_l, cList_t, cList_r, cList_l, qNeg, oI_ii, oAdd_ii, oSub, oMul, oDiv, oMod, oPow, oEq, oNe, oEqW_ii, oEqW_ss, oEqW_bb, oLt, oLe, oGt, oGe, oOrd_ii, oOrd_ss, oIx_t, oIx_r, oIx_l, oIx_s, qNo, qPart, qSl, oSl_t, oSl_r, oSl_l, oSl_s, qMeth, mAppend_1, iSeq, iRange1, iRange2, qCall, endsF, startD, List.map_cons, List.map_nil, List.length_cons, List.length_nil, List.length_map, List.cons_append, List.nil_append, List.replicate, List.getElem?_cons_zero, List.getElem?_cons_succ, List.set_cons_zero, List.set_cons_succ, Nat.reduceAdd, Nat.reduceSub, if_true, if_false, id, ups_same, ex_lst, ex_lst2, ex_some, atI_0, atI_1, atI_2, atI_3, ixN_0, ixN_1, ixN_21, oIx_p]
      rw [tx_list, tx_list, decide_eq_false hord]
      refine ifF rfl ?_
      refine ⟨l, t, e, x, rfl, sz_of hc, by omega, fun _ _ _ k hk => ?_, fun _ _ z => absurd x3 z, fun z => absurd ⟨hc, by omega, x2⟩ z⟩
      rw [x1] at hk
      have hk2 := vl_inj hc (by omega) hk hx
      rw [sp__law_same]
      refine ⟨.int k, .int pl, .int pl, rfl, by rw [show pl = (k : Int) by omega]; exact .int _, .int _, good_int ?_, ?_⟩
      · have := log_lt (i := pl) (k := len) c1 (by have := cn_bound hc len 0 (by omega); omega) hlen
        omega
      · try simp only [sSeq, sNext_eq, sBreak_eq, sCont_eq, sDrop, sRet, sRetN, sIf, sSet, sPar, sAsg, sRaise, gN, gE, gC, gU, gS, qVar, qC, qBin, qTB, qChain, qNot, qAnd, qOr, bd_bl, qNotT, qAndT, qOrT, qTru, tru_non, tru_bl, tru_int, tru_str, tru_tup, tru_rol, tru_ref, qIf, qNil, qCons, qTup, qLst, qCB, cInt_i, cInt2_ii, cToInt_i, cToInt_b, cLen_s, cLen_t, cLen_r, cLen_l, cTuple_t, cTuple_r, cTuple_l, cList_t, cList_r, cList_l, qNeg, oI_ii, oAdd_ii, oSub, oMul, oDiv, oMod, oPow, oEq, oNe, oEqW_ii, oEqW_ss, oEqW_bb, oLt, oLe, oGt, oGe, oOrd_ii, oOrd_ss, oIx_t, oIx_r, oIx_l, oIx_s, qNo, qPart, qSl, oSl_t, oSl_r, oSl_l, oSl_s, qMeth, mAppend_1, iSeq, iRange1, iRange2, qCall, endsF, startD, List.map_cons, List.map_nil, List.length_cons, List.length_nil, List.length_map, List.cons_append, List.nil_append, List.replicate, List.getElem?_cons_zero, List.getElem?_cons_succ, List.set_cons_zero, List.set_cons_succ, Nat.reduceAdd, Nat.reduceSub, if_true, if_false, id, ups_same, ex_lst, ex_lst2, ex_some, atI_0, atI_1, atI_2, atI_3, ixN_0, ixN_1, ixN_21, oIx_p]
        exact ifF rfl h1
    · simp only [decide_eq_false c2, sSeq, sNext_eq, sBreak_eq, sCont_eq, sDrop, sRet, sRetN, sIf, sSet, sPar, sAsg, sRaise, gN, gE, gC, gU, gS, qVar, qC, qBin, qTB, qChain, qNot, qAnd, qOr, bd_bl, qNotT, qAndT, qOrT, qTru, tru_non, tru_bl, tru_int, tru_str, tru_tup, tru_rol, tru_ref, qIf, qNil, qCons, qTup, qLst, qCB, cInt_i, cInt2_ii, cToInt_i, cToInt_b, cLen_s, cLen_t, cLen_r, cLen_l, cTuple_t, cTuple_r, cTuple_l, cList_t, cList_r, cList_l, qNeg, oI_ii, oAdd_ii, oSub, oMul, oDiv, oMod, oPow, oEq, oNe, oEqW_ii, oEqW_ss, oEqW_bb, oLt, oLe, oGt, oGe, oOrd_ii, oOrd_ss, oIx_t, oIx_r, oIx_l, oIx_s, qNo, qPart, qSl, oSl_t, oSl_r, oSl_l, oSl_s, qMeth, mAppend_1, iSeq, iRange1, iRange2, qCall, endsF, startD, List.map_cons, List.map_nil, List.length_cons, List.length_nil, List.length_map, List.cons_append, List.nil_append, List.replicate, List.getElem?_cons_zero, List.getElem?_cons_succ, List.set_cons_zero, List.set_cons_succ, Nat.reduceAdd, Nat.reduceSub, if_true, if_false, id, ups_same, ex_lst, ex_lst2, ex_some, atI_0, atI_1, atI_2, atI_3, ixN_0, ixN_1, ixN_21, oIx_p, Bool.false_eq_true]
      exact h0
  · rw [decide_eq_false c1]
    simp only [sSeq, sNext_eq, sBreak_eq, sCont_eq, sDrop, sRet, sRetN, sIf, sSet, sPar, sAsg, sRaise, gN, gE, gC, gU, gS, qVar, qC, qBin, qTB, qChain, qNot, qAnd, qOr, bd_bl, qNotT, qAndT, qOrT, qTru, tru_non, tru_bl, tru_int, tru_str, tru_tup, tru_rol, tru_ref, qIf, qNil, qCons, qTup, qLst, qCB, cInt_i, cInt2_ii, cToInt_i, cToInt_b, cLen_s, cLen_t, cLen_r, cLen_l, cTuple_t, cTuple_r, cTuple_l, cList_t, cList_r, cList_l, qNeg, oI_ii, oAdd_ii, oSub, oMul, oDiv, oMod, oPow, oEq, oNe, oEqW_ii, oEqW_ss, oEqW_bb, oLt, oLe, oGt, oGe, oOrd_ii, oOrd_ss, oIx_t, oIx_r, oIx_l, oIx_s, qNo, qPart, qSl, oSl_t, oSl_r, oSl_l, oSl_s, qMeth, mAppend_1, iSeq, iRange1, iRange2, qCall, endsF, startD, List.map_cons, List.map_nil, List.length_cons, List.length_nil, List.length_map, List.cons_append, List.nil_append, List.replicate, List.getElem?_cons_zero, List.getElem?_cons_succ, List.set_cons_zero, List.set_cons_succ, Nat.reduceAdd, Nat.reduceSub, if_true, if_false, id, ups_same, ex_lst, ex_lst2, ex_some, atI_0, atI_1, atI_2, atI_3, ixN_0, ixN_1, ixN_21, oIx_p, Bool.false_eq_true]
    exact h0
theorem t7_ok (nd : ad.six.Nodup) (I : Inv tb s n xs k S) (hk : k < 390000000) (hc : Ch l t e) (hlen : len ≤ 200) (hn : ∀ S' j z7 z8 z9 z10 z11, Inv tb s n xs j S' → k ≤ j → j ≤ k + 10 → P.nx [y0, some (.ref s), y2, some (chD l t e), some (ks l t e), some (.int len), some (.int (cn t e len 0)), z7, z8, z9, z10, z11, y12] S') :
    r_law_t7 ad tb nm P [y0, some (.ref s), y2, some (chD l t e), some (ks l t e), some (.int len), some (.int (cn t e len 0)), some (.str (tx [])), y8, y9, y10, y11, y12] S := by
  have hk0 := I.st.k0
  have hpos := hc.pos
  have hnn := cn_nn hc len 0 (by omega)
  unfold r_law_t7 sSeq
  refine for_intro ?_
  simp only [sSeq, sNext_eq, sBreak_eq, sCont_eq, sDrop, sRet, sRetN, sIf, sSet, sPar, sAsg, sRaise, gN, gE, gC, gU, gS, qVar, qC, qBin, qTB, qChain, qNot, qAnd, qOr, bd_bl, qNotT, qAndT, qOrT, qTru, tru_non, tru_bl, tru_int, tru_str, tru_tup, tru_rol, tru_ref, qIf, qNil, qCons, qTup, qLst, qCB, cInt_i, cInt2_ii, cToInt_i, cToInt_b, cLen_s, cLen_t, cLen_r, cLen_l, cTuple_t, cTuple_r, cTuple_l, cList_t, cList_r, cList_l, qNeg, oI_ii, oAdd_ii, oSub, oMul, oDiv, oMod, oPow, oEq, oNe, oEqW_ii, oEqW_ss, oEqW_bb, oLt, oLe, oGt, oGe, oOrd_ii, oOrd_ss, oIx_t, oIx_r, oIx_l, oIx_s, qNo, qPart, qSl, oSl_t, oSl_r, oSl_l, oSl_s, qMeth, mAppend_1, iSeq, iRange1, iRange2, qCall, endsF, startD, List.map_cons, List.map_nil, List.length_cons, List.length_nil, List.length_map, List.cons_append, List.nil_append, List.replicate, List.getElem?_cons_zero, List.getElem?_cons_succ, List.set_cons_zero, List.set_cons_succ, Nat.reduceAdd, Nat.reduceSub, if_true, if_false, id, ups_same, ex_lst, ex_lst2, ex_some, atI_0, atI_1, atI_2, atI_3, ixN_0, ixN_1, ixN_21, oIx_p]
  refine next_go I.st (by omega) (by omega) fun r r0 r1 => ?_
  have I1 := I.step (j := k + 1) (by omega)
  try simp only [sSeq, sNext_eq, sBreak_eq, sCont_eq, sDrop, sRet, sRetN, sIf, sSet, sPar, sAsg, sRaise, gN, gE, gC, gU, gS, qVar, qC, qBin, qTB, qChain, qNot, qAnd, qOr, bd_bl, qNotT, qAndT, qOrT, qTru, tru_non, tru_bl, tru_int, tru_str, tru_tup, tru_rol, tru_ref, qIf, qNil, qCons, qTup, qLst, qCB, cInt_i, cInt2_ii, cToInt_i, cToInt_b, cLen_s, cLen_t, cLen_r, cLen_l, cTuple_t, cTuple_r, cTuple_l, cList_t, cList_r, cList_l, qNeg, oI_ii, oAdd_ii, oSub, oMul, oDiv, oMod, oPow, oEq, oNe, oEqW_ii, oEqW_ss, oEqW_bb, oLt, oLe, oGt, oGe, oOrd_ii, oOrd_ss, oIx_t, oIx_r, oIx_l, oIx_s, qNo, qPart, qSl, oSl_t, oSl_r, oSl_l, oSl_s, qMeth, mAppend_1, iSeq, iRange1, iRange2, qCall, endsF, startD, List.map_cons, List.map_nil, List.length_cons, List.length_nil, List.length_map, List.cons_append, List.nil_append, List.replicate, List.getElem?_cons_zero, List.getElem?_cons_succ, List.set_cons_zero, List.set_cons_succ, Nat.reduceAdd, Nat.reduceSub, if_true, if_false, id, ups_same, ex_lst, ex_lst2, ex_some, atI_0, atI_1, atI_2, atI_3, ixN_0, ixN_1, ixN_21, oIx_p]
  refine ⟨CMul.ofR (by omega), CDivA.small (by decide) (by decide), trivial, by decide, fun p hp => ?_⟩
  obtain ⟨m, hm⟩ : ∃ m, m = cn t e len 0 := ⟨_, rfl⟩
  have hb : 0 ≤ (m * (1 + r)).fdiv 1001 ∧ (m * (1 + r)).fdiv 1001 ≤ m - 1 ∨ m = 0 := by
    by_cases z : m = 0
    · exact .inr z
    · have hm1 : 1 ≤ m := by omega
      refine .inl ?_
      rw [Int.fdiv_eq_ediv_of_nonneg _ (by decide)]
      have h1 : m * (1 + r) ≤ m * 999 := Int.mul_le_mul_of_nonneg_left (by omega) (by omega)
      have h2 : 0 ≤ m * (1 + r) := Int.mul_nonneg (by omega) (by omega)
      generalize m * (1 + r) = u at h1 h2
      omega
  rw [← hm]
  obtain ⟨b, hbe⟩ : ∃ b, b = (m * (1 + r)).fdiv 1001 := ⟨_, rfl⟩
  rw [← hbe] at hb ⊢
  have I2 := I1.fresh hp (ds := [.int 0, .int b, .int (m - 1)])
  refine ⟨fun i loc S' => S' = ups (stepS S s n (k + 1)) p (.lst [.int 0, .int b, .int (m - 1)]) ∧ ∃ (w : List Nat) (z8 z11 : Option D), loc = [y0, some (.ref s), y2, some (chD l t e), some (ks l t e), some (.int len), some (.int m), some (.str (tx w)), z8, y9, y10, z11, y12] ∧ (w = [] ∨ ∃ j : Nat, (vl l t e len 0)[j]? = some w ∧ ((j : Int) ≤ 0 ∨ (2 ≤ i ∧ (j : Int) ≤ b) ∨ 3 ≤ i)), ⟨rfl, [], _, _, rfl, .inl rfl⟩, ?_, ?_⟩
  · rintro i d loc S' hi ⟨rfl, w, z8, z11, rfl, hw⟩
    refine ⟨ups_same, ?_⟩
    obtain ⟨pl, rfl, hpl⟩ : ∃ pl, d = .int pl ∧ ((i = 0 ∧ pl = 0) ∨ (i = 1 ∧ pl = b) ∨ (i = 2 ∧ pl = m - 1)) := by
      match i, hi with
      | 0, hi => exact ⟨0, (Option.some.inj hi).symm, .inl ⟨rfl, rfl⟩⟩
      | 1, hi => exact ⟨b, (Option.some.inj hi).symm, .inr (.inl ⟨rfl, rfl⟩)⟩
      | 2, hi => exact ⟨m - 1, (Option.some.inj hi).symm, .inr (.inr ⟨rfl, rfl⟩)⟩
      | j + 3, hi => cases hi
    simp only [sSeq, sNext_eq, sBreak_eq, sCont_eq, sDrop, sRet, sRetN, sIf, sSet, sPar, sAsg, sRaise, gN, gE, gC, gU, gS, qVar, qC, qBin, qTB, qChain, qNot, qAnd, qOr, bd_bl, qNotT, qAndT, qOrT, qTru, tru_non, tru_bl, tru_int, tru_str, tru_tup, tru_rol, tru_ref, qIf, qNil, qCons, qTup, qLst, qCB, cInt_i, cInt2_ii, cToInt_i, cToInt_b, cLen_s, cLen_t, cLen_r, cLen_l, cTuple_t, cTuple_r, cTuple_l, cList_t, cList_r, cList_l, qNeg, oI_ii, oAdd_ii, oSub, oMul, oDiv, oMod, oPow, oEq, oNe, oEqW_ii, oEqW_ss, oEqW_bb, oLt, oLe, oGt, oGe, oOrd_ii, oOrd_ss, oIx_t, oIx_r, oIx_l, oIx_s, qNo, qPart, qSl, oSl_t, oSl_r, oSl_l, oSl_s, qMeth, mAppend_1, iSeq, iRange1, iRange2, qCall, endsF, startD, List.map_cons, List.map_nil, List.length_cons, List.length_nil, List.length_map, List.cons_append, List.nil_append, List.replicate, List.getElem?_cons_zero, List.getElem?_cons_succ, List.set_cons_zero, List.set_cons_succ, Nat.reduceAdd, Nat.reduceSub, if_true, if_false, id, ups_same, ex_lst, ex_lst2, ex_some, atI_0, atI_1, atI_2, atI_3, ixN_0, ixN_1, ixN_21, oIx_p]
    rw [hm]
    refine b1_ok hc hlen (fun x x0 hx => ?_) ⟨rfl, w, _, _, rfl, ?_⟩ fun x x0 hx => ⟨rfl, x, _, _, rfl, .inr ⟨pl.toNat, hx, by omega⟩⟩
    · have hlt := (List.getElem?_eq_some_iff.mp hx).1
      have hvl := vl_len hc len 0 (by omega)
      rw [← hm] at hvl
      have hm0 : m ≠ 0 := by omega
      have hb : 0 ≤ b ∧ b ≤ m - 1 := by rcases hb with h | h; exact h; exact absurd h hm0
      rcases hw with rfl | ⟨j, hj, hj2⟩
      · exact List.not_lt_nil x
      · exact vl_le hc (by omega) (by omega) hj hx
    · rcases hw with h | ⟨j, hj, hj2⟩
      · exact .inl h
      · exact .inr ⟨j, hj, by omega⟩
  · rintro loc S' ⟨rfl, w, z8, z11, rfl, hw⟩
    refine ⟨ups_same, ?_⟩
    rw [hm]
    exact t6_ok nd (by rw [← hm]; exact I2) (by omega) hc hlen fun S' j z9 z10 z11 I3 j1 j2 => hn S' j _ _ z9 z10 z11 I3 (by omega) (by omega)
theorem t10_ok (nd : ad.six.Nodup) (I : Inv tb s n xs k S) (hk : k < 390000000) (hc : Ch l t e) (hlen : len ≤ 200) (hn : ∀ S' j z6 z7 z8 z9 z10 z11, Inv tb s n xs j S' → k ≤ j → j ≤ k + 10 → P.nx [y0, some (.ref s), y2, some (chD l t e), some (ks l t e), some (.int len), z6, z7, z8, z9, z10, z11, y12] S') :
    r_law_t10 ad tb nm P [y0, some (.ref s), y2, some (chD l t e), some (ks l t e), some (.int len), y6, y7, y8, y9, y10, y11, y12] S := by
  simp only [r_law_t10, sSeq, sNext_eq, sBreak_eq, sCont_eq, sDrop, sRet, sRetN, sIf, sSet, sPar, sAsg, sRaise, gN, gE, gC, gU, gS, qVar, qC, qBin, qTB, qChain, qNot, qAnd, qOr, bd_bl, qNotT, qAndT, qOrT, qTru, tru_non, tru_bl, tru_int, tru_str, tru_tup, tru_rol, tru_ref, qIf, qNil, qCons, qTup, qLst, qCB, cInt_i, cInt2_ii, cToInt_i, cToInt_b, cLen_s, cLen_t, cLen_r, cLen_l, cTuple_t, cTuple_r, cTuple_l, cList_t, cList_r, cList_l, qNeg, oI_ii, oAdd_ii, oSub, oMul, oDiv, oMod, oPow, oEq, oNe, oEqW_ii, oEqW_ss, oEqW_bb, oLt, oLe, oGt, oGe, oOrd_ii, oOrd_ss, oIx_t, oIx_r, oIx_l, oIx_s, qNo, qPart, qSl, oSl_t, oSl_r, oSl_l, oSl_s, qMeth, mAppend_1, iSeq, iRange1, iRange2, qCall, endsF, startD, List.map_cons, List.map_nil, List.length_cons, List.length_nil, List.length_map, List.cons_append, List.nil_append, List.replicate, List.getElem?_cons_zero, List.getElem?_cons_succ, List.set_cons_zero, List.set_cons_succ, Nat.reduceAdd, Nat.reduceSub, if_true, if_false, id, ups_same, ex_lst, ex_lst2, ex_some, atI_0, atI_1, atI_2, atI_3, ixN_0, ixN_1, ixN_21, oIx_p]
  refine ⟨l, t, e, len, rfl, hc, by omega, ?_⟩
  unfold r_law_t9 sSeq r_law_c1
  dsimp only
  refine check_ok (a := .int (cn t e len 0)) (b := .int (cn t e len 0)) (p := .int (cn t e len 0)) (tb := tb) (fun Q E hQ => ?_) (fun Q E hQ => hQ S (Sub.refl S) I.tok) (.int _) (.int _) (good_cn hc hlen) fun S1 s1 t1 => ?_
  · simp only [sSeq, sNext_eq, sBreak_eq, sCont_eq, sDrop, sRet, sRetN, sIf, sSet, sPar, sAsg, sRaise, gN, gE, gC, gU, gS, qVar, qC, qBin, qTB, qChain, qNot, qAnd, qOr, bd_bl, qNotT, qAndT, qOrT, qTru, tru_non, tru_bl, tru_int, tru_str, tru_tup, tru_rol, tru_ref, qIf, qNil, qCons, qTup, qLst, qCB, cInt_i, cInt2_ii, cToInt_i, cToInt_b, cLen_s, cLen_t, cLen_r, cLen_l, cTuple_t, cTuple_r, cTuple_l, cList_t, cList_r, cList_l, qNeg, oI_ii, oAdd_ii, oSub, oMul, oDiv, oMod, oPow, oEq, oNe, oEqW_ii, oEqW_ss, oEqW_bb, oLt, oLe, oGt, oGe, oOrd_ii, oOrd_ss, oIx_t, oIx_r, oIx_l, oIx_s, qNo, qPart, qSl, oSl_t, oSl_r, oSl_l, oSl_s, qMeth, mAppend_1, iSeq, iRange1, iRange2, qCall, endsF, startD, List.map_cons, List.map_nil, List.length_cons, List.length_nil, List.length_map, List.cons_append, List.nil_append, List.replicate, List.getElem?_cons_zero, List.getElem?_cons_succ, List.set_cons_zero, List.set_cons_succ, Nat.reduceAdd, Nat.reduceSub, if_true, if_false, id, ups_same, ex_lst, ex_lst2, ex_some, atI_0, atI_1, atI_2, atI_3, ixN_0, ixN_1, ixN_21, oIx_p]
    exact ⟨l, t, e, len, rfl, sz_of hc, fun _ _ _ => hQ, fun z => absurd ⟨hc, by omega, by omega⟩ z⟩
  · simp only [r_law_t8, sSeq, sNext_eq, sBreak_eq, sCont_eq, sDrop, sRet, sRetN, sIf, sSet, sPar, sAsg, sRaise, gN, gE, gC, gU, gS, qVar, qC, qBin, qTB, qChain, qNot, qAnd, qOr, bd_bl, qNotT, qAndT, qOrT, qTru, tru_non, tru_bl, tru_int, tru_str, tru_tup, tru_rol, tru_ref, qIf, qNil, qCons, qTup, qLst, qCB, cInt_i, cInt2_ii, cToInt_i, cToInt_b, cLen_s, cLen_t, cLen_r, cLen_l, cTuple_t, cTuple_r, cTuple_l, cList_t, cList_r, cList_l, qNeg, oI_ii, oAdd_ii, oSub, oMul, oDiv, oMod, oPow, oEq, oNe, oEqW_ii, oEqW_ss, oEqW_bb, oLt, oLe, oGt, oGe, oOrd_ii, oOrd_ss, oIx_t, oIx_r, oIx_l, oIx_s, qNo, qPart, qSl, oSl_t, oSl_r, oSl_l, oSl_s, qMeth, mAppend_1, iSeq, iRange1, iRange2, qCall, endsF, startD, List.map_cons, List.map_nil, List.length_cons, List.length_nil, List.length_map, List.cons_append, List.nil_append, List.replicate, List.getElem?_cons_zero, List.getElem?_cons_succ, List.set_cons_zero, List.set_cons_succ, Nat.reduceAdd, Nat.reduceSub, if_true, if_false, id, ups_same, ex_lst, ex_lst2, ex_some, atI_0, atI_1, atI_2, atI_3, ixN_0, ixN_1, ixN_21, oIx_p]
    exact t7_ok nd (I.sub s1 t1) hk hc hlen fun S' j z7 z8 z9 z10 z11 I3 j1 j2 => hn S' j _ z7 z8 z9 z10 z11 I3 j1 j2
theorem t11_ok (nd : ad.six.Nodup) (I : Inv tb s n xs k S) (hk : k < 300000000) (hc : Ch l t e) (hn : ∀ S' j z5 z6 z7 z8 z9 z10 z11, Inv tb s n xs j S' → k ≤ j → j ≤ k + 20 → P.nx [y0, some (.ref s), y2, some (chD l t e), some (ks l t e), z5, z6, z7, z8, z9, z10, z11, y12] S') :
    r_law_t11 ad tb nm P [y0, some (.ref s), y2, some (chD l t e), some (ks l t e), y5, y6, y7, y8, y9, y10, y11, y12] S := by
  have hk0 := I.st.k0
  simp only [r_law_t11, sSeq, sNext_eq, sBreak_eq, sCont_eq, sDrop, sRet, sRetN, sIf, sSet, sPar, sAsg, sRaise, gN, gE, gC, gU, gS, qVar, qC, qBin, qTB, qChain, qNot, qAnd, qOr, bd_bl, qNotT, qAndT, qOrT, qTru, tru_non, tru_bl, tru_int, tru_str, tru_tup, tru_rol, tru_ref, qIf, qNil, qCons, qTup, qLst, qCB, cInt_i, cInt2_ii, cToInt_i, cToInt_b, cLen_s, cLen_t, cLen_r, cLen_l, cTuple_t, cTuple_r, cTuple_l, cList_t, cList_r, cList_l, qNeg, oI_ii, oAdd_ii, oSub, oMul, oDiv, oMod, oPow, oEq, oNe, oEqW_ii, oEqW_ss, oEqW_bb, oLt, oLe, oGt, oGe, oOrd_ii, oOrd_ss, oIx_t, oIx_r, oIx_l, oIx_s, qNo, qPart, qSl, oSl_t, oSl_r, oSl_l, oSl_s, qMeth, mAppend_1, iSeq, iRange1, iRange2, qCall, endsF, startD, List.map_cons, List.map_nil, List.length_cons, List.length_nil, List.length_map, List.cons_append, List.nil_append, List.replicate, List.getElem?_cons_zero, List.getElem?_cons_succ, List.set_cons_zero, List.set_cons_succ, Nat.reduceAdd, Nat.reduceSub, if_true, if_false, id, ups_same, ex_lst, ex_lst2, ex_some, atI_0, atI_1, atI_2, atI_3, ixN_0, ixN_1, ixN_21, oIx_p]
  refine next_go I.st (by omega) (by omega) fun a a0 a1 => ?_
  have I1 := I.step (j := k + 1) (by omega)
  try simp only [sSeq, sNext_eq, sBreak_eq, sCont_eq, sDrop, sRet, sRetN, sIf, sSet, sPar, sAsg, sRaise, gN, gE, gC, gU, gS, qVar, qC, qBin, qTB, qChain, qNot, qAnd, qOr, bd_bl, qNotT, qAndT, qOrT, qTru, tru_non, tru_bl, tru_int, tru_str, tru_tup, tru_rol, tru_ref, qIf, qNil, qCons, qTup, qLst, qCB, cInt_i, cInt2_ii, cToInt_i, cToInt_b, cLen_s, cLen_t, cLen_r, cLen_l, cTuple_t, cTuple_r, cTuple_l, cList_t, cList_r, cList_l, qNeg, oI_ii, oAdd_ii, oSub, oMul, oDiv, oMod, oPow, oEq, oNe, oEqW_ii, oEqW_ss, oEqW_bb, oLt, oLe, oGt, oGe, oOrd_ii, oOrd_ss, oIx_t, oIx_r, oIx_l, oIx_s, qNo, qPart, qSl, oSl_t, oSl_r, oSl_l, oSl_s, qMeth, mAppend_1, iSeq, iRange1, iRange2, qCall, endsF, startD, List.map_cons, List.map_nil, List.length_cons, List.length_nil, List.length_map, List.cons_append, List.nil_append, List.replicate, List.getElem?_cons_zero, List.getElem?_cons_succ, List.set_cons_zero, List.set_cons_succ, Nat.reduceAdd, Nat.reduceSub, if_true, if_false, id, ups_same, ex_lst, ex_lst2, ex_some, atI_0, atI_1, atI_2, atI_3, ixN_0, ixN_1, ixN_21, oIx_p]
  refine ⟨by decide, fun p hp => ?_⟩
  have hps := I1.st.ne_s hp
  have I2 := I1.fresh hp (ds := [.int (5 + a), .int 200])
  refine next_go I2.st (by omega) (by omega) fun b b0 b1 => ?_
  have I3 := I2.step (j := k + 1 + 1) (by omega)
  obtain ⟨len, el, hl⟩ : ∃ len : Nat, atI [D.int (5 + a), .int 200] (if decide (b = 0) = true then 1 else 0) = some (.int len) ∧ len ≤ 200 := by
    obtain ⟨a, rfl⟩ := Int.eq_ofNat_of_zero_le a0
    by_cases z : b = 0
    · rw [if_pos (decide_eq_true z)]
      exact ⟨200, atI_1, by omega⟩
    · rw [if_neg (by simpa using z)]
      exact ⟨5 + a, by rw [atI_0]; simp, by omega⟩
  try simp only [sSeq, sNext_eq, sBreak_eq, sCont_eq, sDrop, sRet, sRetN, sIf, sSet, sPar, sAsg, sRaise, gN, gE, gC, gU, gS, qVar, qC, qBin, qTB, qChain, qNot, qAnd, qOr, bd_bl, qNotT, qAndT, qOrT, qTru, tru_non, tru_bl, tru_int, tru_str, tru_tup, tru_rol, tru_ref, qIf, qNil, qCons, qTup, qLst, qCB, cInt_i, cInt2_ii, cToInt_i, cToInt_b, cLen_s, cLen_t, cLen_r, cLen_l, cTuple_t, cTuple_r, cTuple_l, cList_t, cList_r, cList_l, qNeg, oI_ii, oAdd_ii, oSub, oMul, oDiv, oMod, oPow, oEq, oNe, oEqW_ii, oEqW_ss, oEqW_bb, oLt, oLe, oGt, oGe, oOrd_ii, oOrd_ss, oIx_t, oIx_r, oIx_l, oIx_s, qNo, qPart, qSl, oSl_t, oSl_r, oSl_l, oSl_s, qMeth, mAppend_1, iSeq, iRange1, iRange2, qCall, endsF, startD, List.map_cons, List.map_nil, List.length_cons, List.length_nil, List.length_map, List.cons_append, List.nil_append, List.replicate, List.getElem?_cons_zero, List.getElem?_cons_succ, List.set_cons_zero, List.set_cons_succ, Nat.reduceAdd, Nat.reduceSub, if_true, if_false, id, ups_same, ex_lst, ex_lst2, ex_some, atI_0, atI_1, atI_2, atI_3, ixN_0, ixN_1, ixN_21, oIx_p]
  rw [stepS_ne hps]
  refine ⟨_, ups_same, _, el, ?_⟩
  exact t10_ok nd I3 (by omega) hc hl fun S' j z6 z7 z8 z9 z10 z11 I4 j1 j2 => hn S' j _ z6 z7 z8 z9 z10 z11 I4 (by omega) (by omega)
theorem b3_ok (nd : ad.six.Nodup) (I : Inv tb s n xs k S) (hk : k < 100000000) (hn : ∀ S' j z3 z4 z5 z6 z7 z8 z9 z10 z11, Inv tb s n xs j S' → k ≤ j → j ≤ k + 1000 → P.nx [y0, some (.ref s), y2, z3, z4, z5, z6, z7, z8, z9, z10, z11, y12] S') :
    r_law_b3 ad tb nm P [y0, some (.ref s), y2, y3, y4, y5, y6, y7, y8, y9, y10, y11, y12] S := by
  have hk0 := I.st.k0
  simp only [r_law_b3, sSeq, sNext_eq, sBreak_eq, sCont_eq, sDrop, sRet, sRetN, sIf, sSet, sPar, sAsg, sRaise, gN, gE, gC, gU, gS, qVar, qC, qBin, qTB, qChain, qNot, qAnd, qOr, bd_bl, qNotT, qAndT, qOrT, qTru, tru_non, tru_bl, tru_int, tru_str, tru_tup, tru_rol, tru_ref, qIf, qNil, qCons, qTup, qLst, qCB, cInt_i, cInt2_ii, cToInt_i, cToInt_b, cLen_s, cLen_t, cLen_r, cLen_l, cTuple_t, cTuple_r, cTuple_l, cList_t, cList_r, cList_l, qNeg, oI_ii, oAdd_ii, oSub, oMul, oDiv, oMod, oPow, oEq, oNe, oEqW_ii, oEqW_ss, oEqW_bb, oLt, oLe, oGt, oGe, oOrd_ii, oOrd_ss, oIx_t, oIx_r, oIx_l, oIx_s, qNo, qPart, qSl, oSl_t, oSl_r, oSl_l, oSl_s, qMeth, mAppend_1, iSeq, iRange1, iRange2, qCall, endsF, startD, List.map_cons, List.map_nil, List.length_cons, List.length_nil, List.length_map, List.cons_append, List.nil_append, List.replicate, List.getElem?_cons_zero, List.getElem?_cons_succ, List.set_cons_zero, List.set_cons_succ, Nat.reduceAdd, Nat.reduceSub, if_true, if_false, id, ups_same, ex_lst, ex_lst2, ex_some, atI_0, atI_1, atI_2, atI_3, ixN_0, ixN_1, ixN_21, oIx_p]
  refine ⟨s, n, xs, k, rfl, I.st, by omega, fun l t e j hc j1 j2 => ?_⟩
  have I1 := I.step (j := j) (by omega)
  have hlo := hc.sg.lo
  have hhi := hc.sg.hi
  simp only [r_law_t13, sSeq, sNext_eq, sBreak_eq, sCont_eq, sDrop, sRet, sRetN, sIf, sSet, sPar, sAsg, sRaise, gN, gE, gC, gU, gS, qVar, qC, qBin, qTB, qChain, qNot, qAnd, qOr, bd_bl, qNotT, qAndT, qOrT, qTru, tru_non, tru_bl, tru_int, tru_str, tru_tup, tru_rol, tru_ref, qIf, qNil, qCons, qTup, qLst, qCB, cInt_i, cInt2_ii, cToInt_i, cToInt_b, cLen_s, cLen_t, cLen_r, cLen_l, cTuple_t, cTuple_r, cTuple_l, cList_t, cList_r, cList_l, qNeg, oI_ii, oAdd_ii, oSub, oMul, oDiv, oMod, oPow, oEq, oNe, oEqW_ii, oEqW_ss, oEqW_bb, oLt, oLe, oGt, oGe, oOrd_ii, oOrd_ss, oIx_t, oIx_r, oIx_l, oIx_s, qNo, qPart, qSl, oSl_t, oSl_r, oSl_l, oSl_s, qMeth, mAppend_1, iSeq, iRange1, iRange2, qCall, endsF, startD, List.map_cons, List.map_nil, List.length_cons, List.length_nil, List.length_map, List.cons_append, List.nil_append, List.replicate, List.getElem?_cons_zero, List.getElem?_cons_succ, List.set_cons_zero, List.set_cons_succ, Nat.reduceAdd, Nat.reduceSub, if_true, if_false, id, ups_same, ex_lst, ex_lst2, ex_some, atI_0, atI_1, atI_2, atI_3, ixN_0, ixN_1, ixN_21, oIx_p]
  refine ⟨chD l t e, pyD (chD l t e), rfl, .inr (.inl ⟨_, rfl⟩), (ch_data hc _).1, (ch_data hc S).2, ?_⟩
  unfold r_law_t12 sSeq
  dsimp only
  refine for_intro ?_
  simp only [sSeq, sNext_eq, sBreak_eq, sCont_eq, sDrop, sRet, sRetN, sIf, sSet, sPar, sAsg, sRaise, gN, gE, gC, gU, gS, qVar, qC, qBin, qTB, qChain, qNot, qAnd, qOr, bd_bl, qNotT, qAndT, qOrT, qTru, tru_non, tru_bl, tru_int, tru_str, tru_tup, tru_rol, tru_ref, qIf, qNil, qCons, qTup, qLst, qCB, cInt_i, cInt2_ii, cToInt_i, cToInt_b, cLen_s, cLen_t, cLen_r, cLen_l, cTuple_t, cTuple_r, cTuple_l, cList_t, cList_r, cList_l, qNeg, oI_ii, oAdd_ii, oSub, oMul, oDiv, oMod, oPow, oEq, oNe, oEqW_ii, oEqW_ss, oEqW_bb, oLt, oLe, oGt, oGe, oOrd_ii, oOrd_ss, oIx_t, oIx_r, oIx_l, oIx_s, qNo, qPart, qSl, oSl_t, oSl_r, oSl_l, oSl_s, qMeth, mAppend_1, iSeq, iRange1, iRange2, qCall, endsF, startD, List.map_cons, List.map_nil, List.length_cons, List.length_nil, List.length_map, List.cons_append, List.nil_append, List.replicate, List.getElem?_cons_zero, List.getElem?_cons_succ, List.set_cons_zero, List.set_cons_succ, Nat.reduceAdd, Nat.reduceSub, if_true, if_false, id, ups_same, ex_lst, ex_lst2, ex_some, atI_0, atI_1, atI_2, atI_3, ixN_0, ixN_1, ixN_21, oIx_p]
  refine ⟨by decide, by decide, fun i loc S' => S' = stepS S s n j ∧ ∃ z5, loc = [y0, some (.ref s), y2, some (chD l t e), some (ks l t e), z5, y6, y7, y8, y9, y10, y11, y12], ⟨rfl, _, rfl⟩, ?_, ?_⟩
  · rintro i d loc S' hi ⟨rfl, z5, rfl⟩
    obtain ⟨hi1, rfl⟩ := rangeD_get hi
    have hi2 : i < 5 := hi1
    refine ⟨trivial, ?_⟩
    simp only [r_law_b2, chD, Int.zero_add, sSeq, sNext_eq, sBreak_eq, sCont_eq, sDrop, sRet, sRetN, sIf, sSet, sPar, sAsg, sRaise, gN, gE, gC, gU, gS, qVar, qC, qBin, qTB, qChain, qNot, qAnd, qOr, bd_bl, qNotT, qAndT, qOrT, qTru, tru_non, tru_bl, tru_int, tru_str, tru_tup, tru_rol, tru_ref, qIf, qNil, qCons, qTup, qLst, qCB, cInt_i, cInt2_ii, cToInt_i, cToInt_b, cLen_s, cLen_t, cLen_r, cLen_l, cTuple_t, cTuple_r, cTuple_l, cList_t, cList_r, cList_l, qNeg, oI_ii, oAdd_ii, oSub, oMul, oDiv, oMod, oPow, oEq, oNe, oEqW_ii, oEqW_ss, oEqW_bb, oLt, oLe, oGt, oGe, oOrd_ii, oOrd_ss, oIx_t, oIx_r, oIx_l, oIx_s, qNo, qPart, qSl, oSl_t, oSl_r, oSl_l, oSl_s, qMeth, mAppend_1, iSeq, iRange1, iRange2, qCall, endsF, startD, List.map_cons, List.map_nil, List.length_cons, List.length_nil, List.length_map, List.cons_append, List.nil_append, List.replicate, List.getElem?_cons_zero, List.getElem?_cons_succ, List.set_cons_zero, List.set_cons_succ, Nat.reduceAdd, Nat.reduceSub, if_true, if_false, id, ups_same, ex_lst, ex_lst2, ex_some, atI_0, atI_1, atI_2, atI_3, ixN_0, ixN_1, ixN_21, oIx_p]
    refine ⟨szL (by rw [tx_len]; omega), l.length, i, by rw [tx_len], by omega, by omega, ?_⟩
    simp only [sSeq, sNext_eq, sBreak_eq, sCont_eq, sDrop, sRet, sRetN, sIf, sSet, sPar, sAsg, sRaise, gN, gE, gC, gU, gS, qVar, qC, qBin, qTB, qChain, qNot, qAnd, qOr, bd_bl, qNotT, qAndT, qOrT, qTru, tru_non, tru_bl, tru_int, tru_str, tru_tup, tru_rol, tru_ref, qIf, qNil, qCons, qTup, qLst, qCB, cInt_i, cInt2_ii, cToInt_i, cToInt_b, cLen_s, cLen_t, cLen_r, cLen_l, cTuple_t, cTuple_r, cTuple_l, cList_t, cList_r, cList_l, qNeg, oI_ii, oAdd_ii, oSub, oMul, oDiv, oMod, oPow, oEq, oNe, oEqW_ii, oEqW_ss, oEqW_bb, oLt, oLe, oGt, oGe, oOrd_ii, oOrd_ss, oIx_t, oIx_r, oIx_l, oIx_s, qNo, qPart, qSl, oSl_t, oSl_r, oSl_l, oSl_s, qMeth, mAppend_1, iSeq, iRange1, iRange2, qCall, endsF, startD, List.map_cons, List.map_nil, List.length_cons, List.length_nil, List.length_map, List.cons_append, List.nil_append, List.replicate, List.getElem?_cons_zero, List.getElem?_cons_succ, List.set_cons_zero, List.set_cons_succ, Nat.reduceAdd, Nat.reduceSub, if_true, if_false, id, ups_same, ex_lst, ex_lst2, ex_some, atI_0, atI_1, atI_2, atI_3, ixN_0, ixN_1, ixN_21, oIx_p]
    by_cases c1 : ((l.length ^ i : Nat) : Int) ≤ 130
    · refine ifT (decide_eq_true c1) ?_
      refine ⟨l, t, e, i, rfl, hc, by omega, by omega, ?_⟩
      try simp only [sSeq, sNext_eq, sBreak_eq, sCont_eq, sDrop, sRet, sRetN, sIf, sSet, sPar, sAsg, sRaise, gN, gE, gC, gU, gS, qVar, qC, qBin, qTB, qChain, qNot, qAnd, qOr, bd_bl, qNotT, qAndT, qOrT, qTru, tru_non, tru_bl, tru_int, tru_str, tru_tup, tru_rol, tru_ref, qIf, qNil, qCons, qTup, qLst, qCB, cInt_i, cInt2_ii, cToInt_i, cToInt_b, cLen_s, cLen_t, cLen_r, cLen_l, cTuple_t, cTuple_r, cTuple_l, cList_t, cList_r, cList_l, qNeg, oI_ii, oAdd_ii, oSub, oMul, oDiv, oMod, oPow, oEq, oNe, oEqW_ii, oEqW_ss, oEqW_bb, oLt, oLe, oGt, oGe, oOrd_ii, oOrd_ss, oIx_t, oIx_r, oIx_l, oIx_s, qNo, qPart, qSl, oSl_t, oSl_r, oSl_l, oSl_s, qMeth, mAppend_1, iSeq, iRange1, iRange2, qCall, endsF, startD, List.map_cons, List.map_nil, List.length_cons, List.length_nil, List.length_map, List.cons_append, List.nil_append, List.replicate, List.getElem?_cons_zero, List.getElem?_cons_succ, List.set_cons_zero, List.set_cons_succ, Nat.reduceAdd, Nat.reduceSub, if_true, if_false, id, ups_same, ex_lst, ex_lst2, ex_some, atI_0, atI_1, atI_2, atI_3, ixN_0, ixN_1, ixN_21, oIx_p]
      exact ifF rfl ⟨by first | rfl | trivial, _, rfl⟩
    · refine ifF (decide_eq_false c1) ?_
      exact ifF rfl ⟨by first | rfl | trivial, _, rfl⟩
  · rintro loc S' ⟨rfl, z5, rfl⟩
    refine ⟨trivial, ?_⟩
    exact t11_ok nd I1 (by omega) hc fun S' i z5 z6 z7 z8 z9 z10 z11 I4 i1 i2 => hn S' i _ _ z5 z6 z7 z8 z9 z10 z11 I4 (by omega) (by omega)
end
theorem p_law {tb : List (Addr × Str)} {nm : Str} (nd : ad.six.Nodup) : ∀ ds S Q E, sp_law ad ds S Q E → TabOk tb S → r_law ad tb nm (endsF Q E) (startD N_law ds) S := by
  rintro ds S Q E ⟨ns, rfl, hl, q⟩ tok
  simp only [r_law, sSeq, sNext_eq, sBreak_eq, sCont_eq, sDrop, sRet, sRetN, sIf, sSet, sPar, sAsg, sRaise, gN, gE, gC, gU, gS, qVar, qC, qBin, qTB, qChain, qNot, qAnd, qOr, bd_bl, qNotT, qAndT, qOrT, qTru, tru_non, tru_bl, tru_int, tru_str, tru_tup, tru_rol, tru_ref, qIf, qNil, qCons, qTup, qLst, qCB, cInt_i, cInt2_ii, cToInt_i, cToInt_b, cLen_s, cLen_t, cLen_r, cLen_l, cTuple_t, cTuple_r, cTuple_l, cList_t, cList_r, cList_l, qNeg, oI_ii, oAdd_ii, oSub, oMul, oDiv, oMod, oPow, oEq, oNe, oEqW_ii, oEqW_ss, oEqW_bb, oLt, oLe, oGt, oGe, oOrd_ii, oOrd_ss, oIx_t, oIx_r, oIx_l, oIx_s, qNo, qPart, qSl, oSl_t, oSl_r, oSl_l, oSl_s, qMeth, mAppend_1, iSeq, iRange1, iRange2, qCall, endsF, startD, List.map_cons, List.map_nil, List.length_cons, List.length_nil, List.length_map, List.cons_append, List.nil_append, List.replicate, List.getElem?_cons_zero, List.getElem?_cons_succ, List.set_cons_zero, List.set_cons_succ, Nat.reduceAdd, Nat.reduceSub, if_true, if_false, id, ups_same, ex_lst, ex_lst2, ex_some, atI_0, atI_1, atI_2, atI_3, ixN_0, ixN_1, ixN_21, oIx_p]
  rw [sp__law_stream]
  refine ⟨ns, rfl, hl, fun n xs S1 hn1 sub1 oth1 e1 ok => ?_⟩
  try simp only [sSeq, sNext_eq, sBreak_eq, sCont_eq, sDrop, sRet, sRetN, sIf, sSet, sPar, sAsg, sRaise, gN, gE, gC, gU, gS, qVar, qC, qBin, qTB, qChain, qNot, qAnd, qOr, bd_bl, qNotT, qAndT, qOrT, qTru, tru_non, tru_bl, tru_int, tru_str, tru_tup, tru_rol, tru_ref, qIf, qNil, qCons, qTup, qLst, qCB, cInt_i, cInt2_ii, cToInt_i, cToInt_b, cLen_s, cLen_t, cLen_r, cLen_l, cTuple_t, cTuple_r, cTuple_l, cList_t, cList_r, cList_l, qNeg, oI_ii, oAdd_ii, oSub, oMul, oDiv, oMod, oPow, oEq, oNe, oEqW_ii, oEqW_ss, oEqW_bb, oLt, oLe, oGt, oGe, oOrd_ii, oOrd_ss, oIx_t, oIx_r, oIx_l, oIx_s, qNo, qPart, qSl, oSl_t, oSl_r, oSl_l, oSl_s, qMeth, mAppend_1, iSeq, iRange1, iRange2, qCall, endsF, startD, List.map_cons, List.map_nil, List.length_cons, List.length_nil, List.length_map, List.cons_append, List.nil_append, List.replicate, List.getElem?_cons_zero, List.getElem?_cons_succ, List.set_cons_zero, List.set_cons_succ, Nat.reduceAdd, Nat.reduceSub, if_true, if_false, id, ups_same, ex_lst, ex_lst2, ex_some, atI_0, atI_1, atI_2, atI_3, ixN_0, ixN_1, ixN_21, oIx_p]
  refine ⟨sz2, fun s hs => ?_⟩
  have tok1 : TabOk tb S1 := ⟨fun p hp => sub1 _ _ (tok.1 p hp), fun a x e => by
    rcases oth1 _ _ e with z | z | ⟨ds, z⟩
    · rw [z, e1] at e
      cases e
    · exact tok.2 a x z
    · cases z⟩
  have I : Inv tb s n xs 0 (ups S1 s (.lst [.ref n, .int 0])) := ⟨⟨ups_same, by rw [ups_ne (sto_ne e1 hs)]; exact e1, Ne.symm (sto_ne e1 hs), ok, by decide⟩, tok1.new hs⟩
  unfold r_law_t14 sSeq
  refine for_intro ?_
  simp only [sSeq, sNext_eq, sBreak_eq, sCont_eq, sDrop, sRet, sRetN, sIf, sSet, sPar, sAsg, sRaise, gN, gE, gC, gU, gS, qVar, qC, qBin, qTB, qChain, qNot, qAnd, qOr, bd_bl, qNotT, qAndT, qOrT, qTru, tru_non, tru_bl, tru_int, tru_str, tru_tup, tru_rol, tru_ref, qIf, qNil, qCons, qTup, qLst, qCB, cInt_i, cInt2_ii, cToInt_i, cToInt_b, cLen_s, cLen_t, cLen_r, cLen_l, cTuple_t, cTuple_r, cTuple_l, cList_t, cList_r, cList_l, qNeg, oI_ii, oAdd_ii, oSub, oMul, oDiv, oMod, oPow, oEq, oNe, oEqW_ii, oEqW_ss, oEqW_bb, oLt, oLe, oGt, oGe, oOrd_ii, oOrd_ss, oIx_t, oIx_r, oIx_l, oIx_s, qNo, qPart, qSl, oSl_t, oSl_r, oSl_l, oSl_s, qMeth, mAppend_1, iSeq, iRange1, iRange2, qCall, endsF, startD, List.map_cons, List.map_nil, List.length_cons, List.length_nil, List.length_map, List.cons_append, List.nil_append, List.replicate, List.getElem?_cons_zero, List.getElem?_cons_succ, List.set_cons_zero, List.set_cons_succ, Nat.reduceAdd, Nat.reduceSub, if_true, if_false, id, ups_same, ex_lst, ex_lst2, ex_some, atI_0, atI_1, atI_2, atI_3, ixN_0, ixN_1, ixN_21, oIx_p]
  refine ⟨by decide, by decide, fun i loc S' => (∃ z2 z3 z4 z5 z6 z7 z8 z9 z10 z11 z12, loc = [some (.rol (ns.map D.int)), some (.ref s), z2, z3, z4, z5, z6, z7, z8, z9, z10, z11, z12]) ∧ ∃ j, Inv tb s n xs j S' ∧ 0 ≤ j ∧ j ≤ 1000 * i, ⟨⟨_, _, _, _, _, _, _, _, _, _, _, rfl⟩, 0, I, by omega, by omega⟩, ?_, ?_⟩
  · rintro i d loc S' hi ⟨⟨z2, z3, z4, z5, z6, z7, z8, z9, z10, z11, z12, rfl⟩, j, I', j1, j2⟩
    obtain ⟨hi1, rfl⟩ := rangeD_get hi
    have hi2 : i < 3 := hi1
    refine ⟨trivial, ?_⟩
    simp only [sSeq, sNext_eq, sBreak_eq, sCont_eq, sDrop, sRet, sRetN, sIf, sSet, sPar, sAsg, sRaise, gN, gE, gC, gU, gS, qVar, qC, qBin, qTB, qChain, qNot, qAnd, qOr, bd_bl, qNotT, qAndT, qOrT, qTru, tru_non, tru_bl, tru_int, tru_str, tru_tup, tru_rol, tru_ref, qIf, qNil, qCons, qTup, qLst, qCB, cInt_i, cInt2_ii, cToInt_i, cToInt_b, cLen_s, cLen_t, cLen_r, cLen_l, cTuple_t, cTuple_r, cTuple_l, cList_t, cList_r, cList_l, qNeg, oI_ii, oAdd_ii, oSub, oMul, oDiv, oMod, oPow, oEq, oNe, oEqW_ii, oEqW_ss, oEqW_bb, oLt, oLe, oGt, oGe, oOrd_ii, oOrd_ss, oIx_t, oIx_r, oIx_l, oIx_s, qNo, qPart, qSl, oSl_t, oSl_r, oSl_l, oSl_s, qMeth, mAppend_1, iSeq, iRange1, iRange2, qCall, endsF, startD, List.map_cons, List.map_nil, List.length_cons, List.length_nil, List.length_map, List.cons_append, List.nil_append, List.replicate, List.getElem?_cons_zero, List.getElem?_cons_succ, List.set_cons_zero, List.set_cons_succ, Nat.reduceAdd, Nat.reduceSub, if_true, if_false, id, ups_same, ex_lst, ex_lst2, ex_some, atI_0, atI_1, atI_2, atI_3, ixN_0, ixN_1, ixN_21, oIx_p]
    exact b3_ok nd I' (by omega) fun S3 j' z3 z4 z5 z6 z7 z8 z9 z10 z11 I3 i1 i2 => ⟨⟨_, _, _, _, _, _, _, _, _, _, _, rfl⟩, j', I3, by omega, by omega⟩
  · rintro loc S' ⟨⟨z2, z3, z4, z5, z6, z7, z8, z9, z10, z11, z12, rfl⟩, j, I', j1, j2⟩
    refine ⟨trivial, ?_⟩
    simp only [r_law_t1, sSeq, sNext_eq, sBreak_eq, sCont_eq, sDrop, sRet, sRetN, sIf, sSet, sPar, sAsg, sRaise, gN, gE, gC, gU, gS, qVar, qC, qBin, qTB, qChain, qNot, qAnd, qOr, bd_bl, qNotT, qAndT, qOrT, qTru, tru_non, tru_bl, tru_int, tru_str, tru_tup, tru_rol, tru_ref, qIf, qNil, qCons, qTup, qLst, qCB, cInt_i, cInt2_ii, cToInt_i, cToInt_b, cLen_s, cLen_t, cLen_r, cLen_l, cTuple_t, cTuple_r, cTuple_l, cList_t, cList_r, cList_l, qNeg, oI_ii, oAdd_ii, oSub, oMul, oDiv, oMod, oPow, oEq, oNe, oEqW_ii, oEqW_ss, oEqW_bb, oLt, oLe, oGt, oGe, oOrd_ii, oOrd_ss, oIx_t, oIx_r, oIx_l, oIx_s, qNo, qPart, qSl, oSl_t, oSl_r, oSl_l, oSl_s, qMeth, mAppend_1, iSeq, iRange1, iRange2, qCall, endsF, startD, List.map_cons, List.map_nil, List.length_cons, List.length_nil, List.length_map, List.cons_append, List.nil_append, List.replicate, List.getElem?_cons_zero, List.getElem?_cons_succ, List.set_cons_zero, List.set_cons_succ, Nat.reduceAdd, Nat.reduceSub, if_true, if_false, id, ups_same, ex_lst, ex_lst2, ex_some, atI_0, atI_1, atI_2, atI_3, ixN_0, ixN_1, ixN_21, oIx_p]
    exact ⟨S', Sub.refl _, q S'⟩
theorem law_start {S : Sto} (ns : List Int) (hl : ns.length ≤ 63) (hb : ∀ z ∈ ns, Builtin.Int.intBits z ≤ 1048576) : sp_law ad [.rol (ns.map D.int)] S (fun d _ => d = .bl true) fun _ _ => False := ⟨ns, rfl, hl, fun _ => rfl⟩
end K21

/-! printed by gen_end.py -/
namespace K21
open PySem PySem.Spec PyProof.Rows L2 PL
section
variable {P : Program} {w : World} {K : PySem.W.Frag} {mg : Str → Option Value} {base : Heap} {ad : Ad} {f : Addr} {fd : FuncData}
abbrev FnD (K : PySem.W.Frag) (x : Str) (st : Stmt) (f : Addr) (fd : FuncData) : Prop := FunD K x x (defArgs st) (defBody st) (defScope st) [] [] f fd
theorem len_is_signs {ds : List D} {S : Sto} {Q : PD} {E : PX} (h : sp_is_signs ad ds S Q E) : ds.length = ["signs"].length := by
  first
  | (obtain ⟨_, rfl, _⟩ := h; rfl)
  | (obtain ⟨_, _, rfl, _⟩ := h; rfl)
  | (obtain ⟨_, _, _, rfl, _⟩ := h; rfl)
  | (obtain ⟨_, _, _, _, rfl, _⟩ := h; rfl)
  | (obtain ⟨_, _, _, _, _, rfl, _⟩ := h; rfl)
  | (obtain ⟨_, _, _, _, _, _, rfl, _⟩ := h; rfl)
  | (obtain ⟨_, _, _, _, _, _, _, rfl, _⟩ := h; rfl)
  | (obtain ⟨_, _, _, _, _, _, _, _, rfl, _⟩ := h; rfl)
theorem ok_is_signs (T : Txt K mg ad) (F : FnD K "is_signs" s_is_signs f fd) (g : mg "is_signs" = some (.ref f)) : GF P w K mg base "is_signs" ["signs"] 1 (sp_is_signs ad) :=
  ⟨f, fd, g, F.kp, F.bindsN (fun _ _ _ _ _ _ us hl => match us, hl with | [_], _ => rfl), FunD.pure F sc_is_signs (fun cdv A outer s H E hr => d_is_signs T f cdv A outer s H E hr) (fun ds S Q E h => len_is_signs h) p_is_signs⟩
theorem len_is_number {ds : List D} {S : Sto} {Q : PD} {E : PX} (h : sp_is_number ad ds S Q E) : ds.length = ["signs", "text"].length := by
  first
  | (obtain ⟨_, rfl, _⟩ := h; rfl)
  | (obtain ⟨_, _, rfl, _⟩ := h; rfl)
  | (obtain ⟨_, _, _, rfl, _⟩ := h; rfl)
  | (obtain ⟨_, _, _, _, rfl, _⟩ := h; rfl)
  | (obtain ⟨_, _, _, _, _, rfl, _⟩ := h; rfl)
  | (obtain ⟨_, _, _, _, _, _, rfl, _⟩ := h; rfl)
  | (obtain ⟨_, _, _, _, _, _, _, rfl, _⟩ := h; rfl)
  | (obtain ⟨_, _, _, _, _, _, _, _, rfl, _⟩ := h; rfl)
theorem ok_is_number (T : Txt K mg ad) (F : FnD K "is_number" s_is_number f fd) (g : mg "is_number" = some (.ref f)) : GF P w K mg base "is_number" ["signs", "text"] 1 (sp_is_number ad) :=
  ⟨f, fd, g, F.kp, F.bindsN (fun _ _ _ _ _ _ us hl => match us, hl with | [_, _], _ => rfl), FunD.pure F sc_is_number (fun cdv A outer s H E hr => d_is_number T f cdv A outer s H E hr) (fun ds S Q E h => len_is_number h) p_is_number⟩
theorem len_check_checker {ds : List D} {S : Sto} {Q : PD} {E : PX} (h : sp_check_checker ad ds S Q E) : ds.length = ["checker"].length := by
  first
  | (obtain ⟨_, rfl, _⟩ := h; rfl)
  | (obtain ⟨_, _, rfl, _⟩ := h; rfl)
  | (obtain ⟨_, _, _, rfl, _⟩ := h; rfl)
  | (obtain ⟨_, _, _, _, rfl, _⟩ := h; rfl)
  | (obtain ⟨_, _, _, _, _, rfl, _⟩ := h; rfl)
  | (obtain ⟨_, _, _, _, _, _, rfl, _⟩ := h; rfl)
  | (obtain ⟨_, _, _, _, _, _, _, rfl, _⟩ := h; rfl)
  | (obtain ⟨_, _, _, _, _, _, _, _, rfl, _⟩ := h; rfl)
theorem ok_check_checker (T : Txt K mg ad) (G_is_signs : GF P w K mg base "is_signs" ["signs"] 1 (sp_is_signs ad)) (F : FnD K "check_checker" s_check_checker f fd) (g : mg "check_checker" = some (.ref f)) : GF P w K mg base "check_checker" ["checker"] 2 (sp_check_checker ad) :=
  ⟨f, fd, g, F.kp, F.bindsN (fun _ _ _ _ _ _ us hl => match us, hl with | [_], _ => rfl), FunD.pure F sc_check_checker (fun cdv A outer s H E hr => d_check_checker T G_is_signs f cdv A outer s H E hr) (fun ds S Q E h => len_check_checker h) p_check_checker⟩
theorem len_check_number {ds : List D} {S : Sto} {Q : PD} {E : PX} (h : sp_check_number ad ds S Q E) : ds.length = ["checker", "text"].length := by
  first
  | (obtain ⟨_, rfl, _⟩ := h; rfl)
  | (obtain ⟨_, _, rfl, _⟩ := h; rfl)
  | (obtain ⟨_, _, _, rfl, _⟩ := h; rfl)
  | (obtain ⟨_, _, _, _, rfl, _⟩ := h; rfl)
  | (obtain ⟨_, _, _, _, _, rfl, _⟩ := h; rfl)
  | (obtain ⟨_, _, _, _, _, _, rfl, _⟩ := h; rfl)
  | (obtain ⟨_, _, _, _, _, _, _, rfl, _⟩ := h; rfl)
  | (obtain ⟨_, _, _, _, _, _, _, _, rfl, _⟩ := h; rfl)
theorem ok_check_number (T : Txt K mg ad) (G_check_checker : GF P w K mg base "check_checker" ["checker"] 2 (sp_check_checker ad)) (G_is_number : GF P w K mg base "is_number" ["signs", "text"] 1 (sp_is_number ad)) (F : FnD K "check_number" s_check_number f fd) (g : mg "check_number" = some (.ref f)) : GF P w K mg base "check_number" ["checker", "text"] 3 (sp_check_number ad) :=
  ⟨f, fd, g, F.kp, F.bindsN (fun _ _ _ _ _ _ us hl => match us, hl with | [_, _], _ => rfl), FunD.pure F sc_check_number (fun cdv A outer s H E hr => d_check_number T G_check_checker G_is_number f cdv A outer s H E hr) (fun ds S Q E h => len_check_number h) p_check_number⟩
theorem len_check_length {ds : List D} {S : Sto} {Q : PD} {E : PX} (h : sp_check_length ad ds S Q E) : ds.length = ["length"].length := by
  first
  | (obtain ⟨_, rfl, _⟩ := h; rfl)
  | (obtain ⟨_, _, rfl, _⟩ := h; rfl)
  | (obtain ⟨_, _, _, rfl, _⟩ := h; rfl)
  | (obtain ⟨_, _, _, _, rfl, _⟩ := h; rfl)
  | (obtain ⟨_, _, _, _, _, rfl, _⟩ := h; rfl)
  | (obtain ⟨_, _, _, _, _, _, rfl, _⟩ := h; rfl)
  | (obtain ⟨_, _, _, _, _, _, _, rfl, _⟩ := h; rfl)
  | (obtain ⟨_, _, _, _, _, _, _, _, rfl, _⟩ := h; rfl)
theorem ok_check_length (T : Txt K mg ad) (F : FnD K "check_length" s_check_length f fd) (g : mg "check_length" = some (.ref f)) : GF P w K mg base "check_length" ["length"] 1 (sp_check_length ad) :=
  ⟨f, fd, g, F.kp, F.bindsN (fun _ _ _ _ _ _ us hl => match us, hl with | [_], _ => rfl), FunD.pure F sc_check_length (fun cdv A outer s H E hr => d_check_length T f cdv A outer s H E hr) (fun ds S Q E h => len_check_length h) p_check_length⟩
theorem len_rows_of {ds : List D} {S : Sto} {Q : PD} {E : PX} (h : sp_rows_of ad ds S Q E) : ds.length = ["checker", "length"].length := by
  first
  | (obtain ⟨_, rfl, _⟩ := h; rfl)
  | (obtain ⟨_, _, rfl, _⟩ := h; rfl)
  | (obtain ⟨_, _, _, rfl, _⟩ := h; rfl)
  | (obtain ⟨_, _, _, _, rfl, _⟩ := h; rfl)
  | (obtain ⟨_, _, _, _, _, rfl, _⟩ := h; rfl)
  | (obtain ⟨_, _, _, _, _, _, rfl, _⟩ := h; rfl)
  | (obtain ⟨_, _, _, _, _, _, _, rfl, _⟩ := h; rfl)
  | (obtain ⟨_, _, _, _, _, _, _, _, rfl, _⟩ := h; rfl)
theorem ok_rows_of (T : Txt K mg ad) (F : FnD K "rows_of" s_rows_of f fd) (g : mg "rows_of" = some (.ref f)) : GF P w K mg base "rows_of" ["checker", "length"] 1 (sp_rows_of ad) :=
  ⟨f, fd, g, F.kp, F.bindsN (fun _ _ _ _ _ _ us hl => match us, hl with | [_, _], _ => rfl), FunD.pure F sc_rows_of (fun cdv A outer s H E hr => d_rows_of T f cdv A outer s H E hr) (fun ds S Q E h => len_rows_of h) p_rows_of⟩
theorem len_count_valid {ds : List D} {S : Sto} {Q : PD} {E : PX} (h : sp_count_valid ad ds S Q E) : ds.length = ["checker", "length"].length := by
  first
  | (obtain ⟨_, rfl, _⟩ := h; rfl)
  | (obtain ⟨_, _, rfl, _⟩ := h; rfl)
  | (obtain ⟨_, _, _, rfl, _⟩ := h; rfl)
  | (obtain ⟨_, _, _, _, rfl, _⟩ := h; rfl)
  | (obtain ⟨_, _, _, _, _, rfl, _⟩ := h; rfl)
  | (obtain ⟨_, _, _, _, _, _, rfl, _⟩ := h; rfl)
  | (obtain ⟨_, _, _, _, _, _, _, rfl, _⟩ := h; rfl)
  | (obtain ⟨_, _, _, _, _, _, _, _, rfl, _⟩ := h; rfl)
theorem ok_count_valid (T : Txt K mg ad) (G_check_checker : GF P w K mg base "check_checker" ["checker"] 2 (sp_check_checker ad)) (G_check_length : GF P w K mg base "check_length" ["length"] 1 (sp_check_length ad)) (G_rows_of : GF P w K mg base "rows_of" ["checker", "length"] 1 (sp_rows_of ad)) (F : FnD K "count_valid" s_count_valid f fd) (g : mg "count_valid" = some (.ref f)) : GF P w K mg base "count_valid" ["checker", "length"] 3 (sp_count_valid ad) :=
  ⟨f, fd, g, F.kp, F.bindsN (fun _ _ _ _ _ _ us hl => match us, hl with | [_, _], _ => rfl), FunD.pure F sc_count_valid (fun cdv A outer s H E hr => d_count_valid T G_check_checker G_check_length G_rows_of f cdv A outer s H E hr) (fun ds S Q E h => len_count_valid h) p_count_valid⟩
theorem len_number_at {ds : List D} {S : Sto} {Q : PD} {E : PX} (h : sp_number_at ad ds S Q E) : ds.length = ["checker", "length", "place"].length := by
  first
  | (obtain ⟨_, rfl, _⟩ := h; rfl)
  | (obtain ⟨_, _, rfl, _⟩ := h; rfl)
  | (obtain ⟨_, _, _, rfl, _⟩ := h; rfl)
  | (obtain ⟨_, _, _, _, rfl, _⟩ := h; rfl)
  | (obtain ⟨_, _, _, _, _, rfl, _⟩ := h; rfl)
  | (obtain ⟨_, _, _, _, _, _, rfl, _⟩ := h; rfl)
  | (obtain ⟨_, _, _, _, _, _, _, rfl, _⟩ := h; rfl)
  | (obtain ⟨_, _, _, _, _, _, _, _, rfl, _⟩ := h; rfl)
theorem ok_number_at (T : Txt K mg ad) (G_check_checker : GF P w K mg base "check_checker" ["checker"] 2 (sp_check_checker ad)) (G_check_length : GF P w K mg base "check_length" ["length"] 1 (sp_check_length ad)) (G_rows_of : GF P w K mg base "rows_of" ["checker", "length"] 1 (sp_rows_of ad)) (F : FnD K "number_at" s_number_at f fd) (g : mg "number_at" = some (.ref f)) : GF P w K mg base "number_at" ["checker", "length", "place"] 3 (sp_number_at ad) :=
  ⟨f, fd, g, F.kp, F.bindsN (fun _ _ _ _ _ _ us hl => match us, hl with | [_, _, _], _ => rfl), FunD.pure F sc_number_at (fun cdv A outer s H E hr => d_number_at T G_check_checker G_check_length G_rows_of f cdv A outer s H E hr) (fun ds S Q E h => len_number_at h) p_number_at⟩
theorem len_place_of {ds : List D} {S : Sto} {Q : PD} {E : PX} (h : sp_place_of ad ds S Q E) : ds.length = ["checker", "text"].length := by
  first
  | (obtain ⟨_, rfl, _⟩ := h; rfl)
  | (obtain ⟨_, _, rfl, _⟩ := h; rfl)
  | (obtain ⟨_, _, _, rfl, _⟩ := h; rfl)
  | (obtain ⟨_, _, _, _, rfl, _⟩ := h; rfl)
  | (obtain ⟨_, _, _, _, _, rfl, _⟩ := h; rfl)
  | (obtain ⟨_, _, _, _, _, _, rfl, _⟩ := h; rfl)
  | (obtain ⟨_, _, _, _, _, _, _, rfl, _⟩ := h; rfl)
  | (obtain ⟨_, _, _, _, _, _, _, _, rfl, _⟩ := h; rfl)
theorem ok_place_of (T : Txt K mg ad) (G_check_number : GF P w K mg base "check_number" ["checker", "text"] 3 (sp_check_number ad)) (G_rows_of : GF P w K mg base "rows_of" ["checker", "length"] 1 (sp_rows_of ad)) (F : FnD K "place_of" s_place_of f fd) (g : mg "place_of" = some (.ref f)) : GF P w K mg base "place_of" ["checker", "text"] 4 (sp_place_of ad) :=
  ⟨f, fd, g, F.kp, F.bindsN (fun _ _ _ _ _ _ us hl => match us, hl with | [_, _], _ => rfl), FunD.pure F sc_place_of (fun cdv A outer s H E hr => d_place_of T G_check_number G_rows_of f cdv A outer s H E hr) (fun ds S Q E h => len_place_of h) p_place_of⟩
theorem len__law_same {ds : List D} {S : Sto} {Q : PD} {E : PX} (h : sp__law_same ad ds S Q E) : ds.length = ["told", "due"].length := by
  first
  | (obtain ⟨_, rfl, _⟩ := h; rfl)
  | (obtain ⟨_, _, rfl, _⟩ := h; rfl)
  | (obtain ⟨_, _, _, rfl, _⟩ := h; rfl)
  | (obtain ⟨_, _, _, _, rfl, _⟩ := h; rfl)
  | (obtain ⟨_, _, _, _, _, rfl, _⟩ := h; rfl)
  | (obtain ⟨_, _, _, _, _, _, rfl, _⟩ := h; rfl)
  | (obtain ⟨_, _, _, _, _, _, _, rfl, _⟩ := h; rfl)
  | (obtain ⟨_, _, _, _, _, _, _, _, rfl, _⟩ := h; rfl)
theorem ok__law_same (T : Txt K mg ad) (F : FnD K "_law_same" s__law_same f fd) (g : mg "_law_same" = some (.ref f)) : GG P w K mg base "_law_same" ["told", "due"] 1 (sp__law_same ad) :=
  ⟨f, fd, g, F.kp, F.bindsN (fun _ _ _ _ _ _ us hl => match us, hl with | [_, _], _ => rfl), FunD.pureG F sc__law_same (fun cdv A outer s H E hr hG => d__law_same T f cdv A outer s H E hr hG) (fun ds S Q E h => len__law_same h) p__law_same⟩
theorem len__law_stream {ds : List D} {S : Sto} {Q : PD} {E : PX} (h : sp__law_stream ad ds S Q E) : ds.length = ["script"].length := by
  first
  | (obtain ⟨_, rfl, _⟩ := h; rfl)
  | (obtain ⟨_, _, rfl, _⟩ := h; rfl)
  | (obtain ⟨_, _, _, rfl, _⟩ := h; rfl)
  | (obtain ⟨_, _, _, _, rfl, _⟩ := h; rfl)
  | (obtain ⟨_, _, _, _, _, rfl, _⟩ := h; rfl)
  | (obtain ⟨_, _, _, _, _, _, rfl, _⟩ := h; rfl)
  | (obtain ⟨_, _, _, _, _, _, _, rfl, _⟩ := h; rfl)
  | (obtain ⟨_, _, _, _, _, _, _, _, rfl, _⟩ := h; rfl)
theorem ok__law_stream (T : Txt K mg ad) (F : FnD K "_law_stream" s__law_stream f fd) (g : mg "_law_stream" = some (.ref f)) : GF P w K mg base "_law_stream" ["script"] 1 (sp__law_stream ad) :=
  ⟨f, fd, g, F.kp, F.bindsN (fun _ _ _ _ _ _ us hl => match us, hl with | [_], _ => rfl), FunD.pure F sc__law_stream (fun cdv A outer s H E hr => d__law_stream T f cdv A outer s H E hr) (fun ds S Q E h => len__law_stream h) p__law_stream⟩
theorem len__law_next {ds : List D} {S : Sto} {Q : PD} {E : PX} (h : sp__law_next ad ds S Q E) : ds.length = ["state", "many"].length := by
  first
  | (obtain ⟨_, rfl, _⟩ := h; rfl)
  | (obtain ⟨_, _, rfl, _⟩ := h; rfl)
  | (obtain ⟨_, _, _, rfl, _⟩ := h; rfl)
  | (obtain ⟨_, _, _, _, rfl, _⟩ := h; rfl)
  | (obtain ⟨_, _, _, _, _, rfl, _⟩ := h; rfl)
  | (obtain ⟨_, _, _, _, _, _, rfl, _⟩ := h; rfl)
  | (obtain ⟨_, _, _, _, _, _, _, rfl, _⟩ := h; rfl)
  | (obtain ⟨_, _, _, _, _, _, _, _, rfl, _⟩ := h; rfl)
theorem ok__law_next (T : Txt K mg ad) (F : FnD K "_law_next" s__law_next f fd) (g : mg "_law_next" = some (.ref f)) : GF P w K mg base "_law_next" ["state", "many"] 1 (sp__law_next ad) :=
  ⟨f, fd, g, F.kp, F.bindsN (fun _ _ _ _ _ _ us hl => match us, hl with | [_, _], _ => rfl), FunD.pure F sc__law_next (fun cdv A outer s H E hr => d__law_next T f cdv A outer s H E hr) (fun ds S Q E h => len__law_next h) p__law_next⟩
theorem len__law_signs {ds : List D} {S : Sto} {Q : PD} {E : PX} (h : sp__law_signs ad ds S Q E) : ds.length = ["state"].length := by
  first
  | (obtain ⟨_, rfl, _⟩ := h; rfl)
  | (obtain ⟨_, _, rfl, _⟩ := h; rfl)
  | (obtain ⟨_, _, _, rfl, _⟩ := h; rfl)
  | (obtain ⟨_, _, _, _, rfl, _⟩ := h; rfl)
  | (obtain ⟨_, _, _, _, _, rfl, _⟩ := h; rfl)
  | (obtain ⟨_, _, _, _, _, _, rfl, _⟩ := h; rfl)
  | (obtain ⟨_, _, _, _, _, _, _, rfl, _⟩ := h; rfl)
  | (obtain ⟨_, _, _, _, _, _, _, _, rfl, _⟩ := h; rfl)
theorem ok__law_signs (T : Txt K mg ad) (G__law_next : GF P w K mg base "_law_next" ["state", "many"] 1 (sp__law_next ad)) (F : FnD K "_law_signs" s__law_signs f fd) (g : mg "_law_signs" = some (.ref f)) : GF P w K mg base "_law_signs" ["state"] 2 (sp__law_signs ad) :=
  ⟨f, fd, g, F.kp, F.bindsN (fun _ _ _ _ _ _ us hl => match us, hl with | [_], _ => rfl), FunD.pure F sc__law_signs (fun cdv A outer s H E hr => d__law_signs T G__law_next f cdv A outer s H E hr) (fun ds S Q E h => len__law_signs h) p__law_signs⟩
theorem len__law_checker {ds : List D} {S : Sto} {Q : PD} {E : PX} (h : sp__law_checker ad ds S Q E) : ds.length = ["state", "signs", "many"].length := by
  first
  | (obtain ⟨_, rfl, _⟩ := h; rfl)
  | (obtain ⟨_, _, rfl, _⟩ := h; rfl)
  | (obtain ⟨_, _, _, rfl, _⟩ := h; rfl)
  | (obtain ⟨_, _, _, _, rfl, _⟩ := h; rfl)
  | (obtain ⟨_, _, _, _, _, rfl, _⟩ := h; rfl)
  | (obtain ⟨_, _, _, _, _, _, rfl, _⟩ := h; rfl)
  | (obtain ⟨_, _, _, _, _, _, _, rfl, _⟩ := h; rfl)
  | (obtain ⟨_, _, _, _, _, _, _, _, rfl, _⟩ := h; rfl)
theorem ok__law_checker (T : Txt K mg ad) (G__law_next : GF P w K mg base "_law_next" ["state", "many"] 1 (sp__law_next ad)) (F : FnD K "_law_checker" s__law_checker f fd) (g : mg "_law_checker" = some (.ref f)) : GF P w K mg base "_law_checker" ["state", "signs", "many"] 2 (sp__law_checker ad) :=
  ⟨f, fd, g, F.kp, F.bindsN (fun _ _ _ _ _ _ us hl => match us, hl with | [_, _, _], _ => rfl), FunD.pure F sc__law_checker (fun cdv A outer s H E hr => d__law_checker T G__law_next f cdv A outer s H E hr) (fun ds S Q E h => len__law_checker h) p__law_checker⟩
theorem len__law_sums {ds : List D} {S : Sto} {Q : PD} {E : PX} (h : sp__law_sums ad ds S Q E) : ds.length = ["state", "signs", "most"].length := by
  first
  | (obtain ⟨_, rfl, _⟩ := h; rfl)
  | (obtain ⟨_, _, rfl, _⟩ := h; rfl)
  | (obtain ⟨_, _, _, rfl, _⟩ := h; rfl)
  | (obtain ⟨_, _, _, _, rfl, _⟩ := h; rfl)
  | (obtain ⟨_, _, _, _, _, rfl, _⟩ := h; rfl)
  | (obtain ⟨_, _, _, _, _, _, rfl, _⟩ := h; rfl)
  | (obtain ⟨_, _, _, _, _, _, _, rfl, _⟩ := h; rfl)
  | (obtain ⟨_, _, _, _, _, _, _, _, rfl, _⟩ := h; rfl)
theorem ok__law_sums (T : Txt K mg ad) (G__law_next : GF P w K mg base "_law_next" ["state", "many"] 1 (sp__law_next ad)) (F : FnD K "_law_sums" s__law_sums f fd) (g : mg "_law_sums" = some (.ref f)) : GF P w K mg base "_law_sums" ["state", "signs", "most"] 2 (sp__law_sums ad) :=
  ⟨f, fd, g, F.kp, F.bindsN (fun _ _ _ _ _ _ us hl => match us, hl with | [_, _, _], _ => rfl), FunD.pure F sc__law_sums (fun cdv A outer s H E hr => d__law_sums T G__law_next f cdv A outer s H E hr) (fun ds S Q E h => len__law_sums h) p__law_sums⟩
theorem len__law_any {ds : List D} {S : Sto} {Q : PD} {E : PX} (h : sp__law_any ad ds S Q E) : ds.length = ["state"].length := by
  first
  | (obtain ⟨_, rfl, _⟩ := h; rfl)
  | (obtain ⟨_, _, rfl, _⟩ := h; rfl)
  | (obtain ⟨_, _, _, rfl, _⟩ := h; rfl)
  | (obtain ⟨_, _, _, _, rfl, _⟩ := h; rfl)
  | (obtain ⟨_, _, _, _, _, rfl, _⟩ := h; rfl)
  | (obtain ⟨_, _, _, _, _, _, rfl, _⟩ := h; rfl)
  | (obtain ⟨_, _, _, _, _, _, _, rfl, _⟩ := h; rfl)
  | (obtain ⟨_, _, _, _, _, _, _, _, rfl, _⟩ := h; rfl)
theorem ok__law_any (T : Txt K mg ad) (G__law_checker : GF P w K mg base "_law_checker" ["state", "signs", "many"] 2 (sp__law_checker ad)) (G__law_next : GF P w K mg base "_law_next" ["state", "many"] 1 (sp__law_next ad)) (G__law_signs : GF P w K mg base "_law_signs" ["state"] 2 (sp__law_signs ad)) (G__law_sums : GF P w K mg base "_law_sums" ["state", "signs", "most"] 2 (sp__law_sums ad)) (F : FnD K "_law_any" s__law_any f fd) (g : mg "_law_any" = some (.ref f)) : GF P w K mg base "_law_any" ["state"] 3 (sp__law_any ad) :=
  ⟨f, fd, g, F.kp, F.bindsN (fun _ _ _ _ _ _ us hl => match us, hl with | [_], _ => rfl), FunD.pure F sc__law_any (fun cdv A outer s H E hr => d__law_any T G__law_checker G__law_next G__law_signs G__law_sums f cdv A outer s H E hr) (fun ds S Q E h => len__law_any h) p__law_any⟩
theorem len__law_led {ds : List D} {S : Sto} {Q : PD} {E : PX} (h : sp__law_led ad ds S Q E) : ds.length = ["checker", "s", "text"].length := by
  first
  | (obtain ⟨_, rfl, _⟩ := h; rfl)
  | (obtain ⟨_, _, rfl, _⟩ := h; rfl)
  | (obtain ⟨_, _, _, rfl, _⟩ := h; rfl)
  | (obtain ⟨_, _, _, _, rfl, _⟩ := h; rfl)
  | (obtain ⟨_, _, _, _, _, rfl, _⟩ := h; rfl)
  | (obtain ⟨_, _, _, _, _, _, rfl, _⟩ := h; rfl)
  | (obtain ⟨_, _, _, _, _, _, _, rfl, _⟩ := h; rfl)
  | (obtain ⟨_, _, _, _, _, _, _, _, rfl, _⟩ := h; rfl)
theorem ok__law_led (T : Txt K mg ad) (F : FnD K "_law_led" s__law_led f fd) (g : mg "_law_led" = some (.ref f)) : GF P w K mg base "_law_led" ["checker", "s", "text"] 1 (sp__law_led ad) :=
  ⟨f, fd, g, F.kp, F.bindsN (fun _ _ _ _ _ _ us hl => match us, hl with | [_, _, _], _ => rfl), FunD.pure F sc__law_led (fun cdv A outer s H E hr => d__law_led T f cdv A outer s H E hr) (fun ds S Q E h => len__law_led h) p__law_led⟩
theorem len__law_texts {ds : List D} {S : Sto} {Q : PD} {E : PX} (h : sp__law_texts ad ds S Q E) : ds.length = ["signs", "length"].length := by
  first
  | (obtain ⟨_, rfl, _⟩ := h; rfl)
  | (obtain ⟨_, _, rfl, _⟩ := h; rfl)
  | (obtain ⟨_, _, _, rfl, _⟩ := h; rfl)
  | (obtain ⟨_, _, _, _, rfl, _⟩ := h; rfl)
  | (obtain ⟨_, _, _, _, _, rfl, _⟩ := h; rfl)
  | (obtain ⟨_, _, _, _, _, _, rfl, _⟩ := h; rfl)
  | (obtain ⟨_, _, _, _, _, _, _, rfl, _⟩ := h; rfl)
  | (obtain ⟨_, _, _, _, _, _, _, _, rfl, _⟩ := h; rfl)
theorem ok__law_texts (T : Txt K mg ad) (F : FnD K "_law_texts" s__law_texts f fd) (g : mg "_law_texts" = some (.ref f)) : GF P w K mg base "_law_texts" ["signs", "length"] 1 (sp__law_texts ad) :=
  ⟨f, fd, g, F.kp, F.bindsN (fun _ _ _ _ _ _ us hl => match us, hl with | [_, _], _ => rfl), FunD.pure F sc__law_texts (fun cdv A outer s H E hr => d__law_texts T f cdv A outer s H E hr) (fun ds S Q E h => len__law_texts h) p__law_texts⟩
theorem len__law_valid {ds : List D} {S : Sto} {Q : PD} {E : PX} (h : sp__law_valid ad ds S Q E) : ds.length = ["checker", "text"].length := by
  first
  | (obtain ⟨_, rfl, _⟩ := h; rfl)
  | (obtain ⟨_, _, rfl, _⟩ := h; rfl)
  | (obtain ⟨_, _, _, rfl, _⟩ := h; rfl)
  | (obtain ⟨_, _, _, _, rfl, _⟩ := h; rfl)
  | (obtain ⟨_, _, _, _, _, rfl, _⟩ := h; rfl)
  | (obtain ⟨_, _, _, _, _, _, rfl, _⟩ := h; rfl)
  | (obtain ⟨_, _, _, _, _, _, _, rfl, _⟩ := h; rfl)
  | (obtain ⟨_, _, _, _, _, _, _, _, rfl, _⟩ := h; rfl)
theorem ok__law_valid (T : Txt K mg ad) (G__law_led : GF P w K mg base "_law_led" ["checker", "s", "text"] 1 (sp__law_led ad)) (F : FnD K "_law_valid" s__law_valid f fd) (g : mg "_law_valid" = some (.ref f)) : GF P w K mg base "_law_valid" ["checker", "text"] 2 (sp__law_valid ad) :=
  ⟨f, fd, g, F.kp, F.bindsN (fun _ _ _ _ _ _ us hl => match us, hl with | [_, _], _ => rfl), FunD.pure F sc__law_valid (fun cdv A outer s H E hr => d__law_valid T G__law_led f cdv A outer s H E hr) (fun ds S Q E h => len__law_valid h) p__law_valid⟩
theorem len__law_count {ds : List D} {S : Sto} {Q : PD} {E : PX} (h : sp__law_count ad ds S Q E) : ds.length = ["checker", "length"].length := by
  first
  | (obtain ⟨_, rfl, _⟩ := h; rfl)
  | (obtain ⟨_, _, rfl, _⟩ := h; rfl)
  | (obtain ⟨_, _, _, rfl, _⟩ := h; rfl)
  | (obtain ⟨_, _, _, _, rfl, _⟩ := h; rfl)
  | (obtain ⟨_, _, _, _, _, rfl, _⟩ := h; rfl)
  | (obtain ⟨_, _, _, _, _, _, rfl, _⟩ := h; rfl)
  | (obtain ⟨_, _, _, _, _, _, _, rfl, _⟩ := h; rfl)
  | (obtain ⟨_, _, _, _, _, _, _, _, rfl, _⟩ := h; rfl)
theorem ok__law_count (T : Txt K mg ad) (F : FnD K "_law_count" s__law_count f fd) (g : mg "_law_count" = some (.ref f)) : GF P w K mg base "_law_count" ["checker", "length"] 1 (sp__law_count ad) :=
  ⟨f, fd, g, F.kp, F.bindsN (fun _ _ _ _ _ _ us hl => match us, hl with | [_, _], _ => rfl), FunD.pure F sc__law_count (fun cdv A outer s H E hr => d__law_count T f cdv A outer s H E hr) (fun ds S Q E h => len__law_count h) p__law_count⟩
theorem len__law_listed {ds : List D} {S : Sto} {Q : PD} {E : PX} (h : sp__law_listed ad ds S Q E) : ds.length = ["checker", "length"].length := by
  first
  | (obtain ⟨_, rfl, _⟩ := h; rfl)
  | (obtain ⟨_, _, rfl, _⟩ := h; rfl)
  | (obtain ⟨_, _, _, rfl, _⟩ := h; rfl)
  | (obtain ⟨_, _, _, _, rfl, _⟩ := h; rfl)
  | (obtain ⟨_, _, _, _, _, rfl, _⟩ := h; rfl)
  | (obtain ⟨_, _, _, _, _, _, rfl, _⟩ := h; rfl)
  | (obtain ⟨_, _, _, _, _, _, _, rfl, _⟩ := h; rfl)
  | (obtain ⟨_, _, _, _, _, _, _, _, rfl, _⟩ := h; rfl)
theorem ok__law_listed (T : Txt K mg ad) (G__law_texts : GF P w K mg base "_law_texts" ["signs", "length"] 1 (sp__law_texts ad)) (G__law_valid : GF P w K mg base "_law_valid" ["checker", "text"] 2 (sp__law_valid ad)) (G_count_valid : GF P w K mg base "count_valid" ["checker", "length"] 3 (sp_count_valid ad)) (G_number_at : GF P w K mg base "number_at" ["checker", "length", "place"] 3 (sp_number_at ad)) (G_place_of : GF P w K mg base "place_of" ["checker", "text"] 4 (sp_place_of ad)) (G__law_same : GG P w K mg base "_law_same" ["told", "due"] 1 (sp__law_same ad)) (F : FnD K "_law_listed" s__law_listed f fd) (g : mg "_law_listed" = some (.ref f)) : GG P w K mg base "_law_listed" ["checker", "length"] 5 (sp__law_listed ad) :=
  ⟨f, fd, g, F.kp, F.bindsN (fun _ _ _ _ _ _ us hl => match us, hl with | [_, _], _ => rfl), FunD.pureG F sc__law_listed (fun cdv A outer s H E hr hG => d__law_listed T G__law_texts G__law_valid G_count_valid G_number_at G_place_of G__law_same f cdv A outer s H E hr hG) (fun ds S Q E h => len__law_listed h) p__law_listed⟩
theorem len__law_power {ds : List D} {S : Sto} {Q : PD} {E : PX} (h : sp__law_power ad ds S Q E) : ds.length = ["base", "many"].length := by
  first
  | (obtain ⟨_, rfl, _⟩ := h; rfl)
  | (obtain ⟨_, _, rfl, _⟩ := h; rfl)
  | (obtain ⟨_, _, _, rfl, _⟩ := h; rfl)
  | (obtain ⟨_, _, _, _, rfl, _⟩ := h; rfl)
  | (obtain ⟨_, _, _, _, _, rfl, _⟩ := h; rfl)
  | (obtain ⟨_, _, _, _, _, _, rfl, _⟩ := h; rfl)
  | (obtain ⟨_, _, _, _, _, _, _, rfl, _⟩ := h; rfl)
  | (obtain ⟨_, _, _, _, _, _, _, _, rfl, _⟩ := h; rfl)
theorem ok__law_power (T : Txt K mg ad) (F : FnD K "_law_power" s__law_power f fd) (g : mg "_law_power" = some (.ref f)) : GF P w K mg base "_law_power" ["base", "many"] 1 (sp__law_power ad) :=
  ⟨f, fd, g, F.kp, F.bindsN (fun _ _ _ _ _ _ us hl => match us, hl with | [_, _], _ => rfl), FunD.pure F sc__law_power (fun cdv A outer s H E hr => d__law_power T f cdv A outer s H E hr) (fun ds S Q E h => len__law_power h) p__law_power⟩
theorem len_law {ds : List D} {S : Sto} {Q : PD} {E : PX} (h : sp_law ad ds S Q E) : ds.length = ["script"].length := by
  first
  | (obtain ⟨_, rfl, _⟩ := h; rfl)
  | (obtain ⟨_, _, rfl, _⟩ := h; rfl)
  | (obtain ⟨_, _, _, rfl, _⟩ := h; rfl)
  | (obtain ⟨_, _, _, _, rfl, _⟩ := h; rfl)
  | (obtain ⟨_, _, _, _, _, rfl, _⟩ := h; rfl)
  | (obtain ⟨_, _, _, _, _, _, rfl, _⟩ := h; rfl)
  | (obtain ⟨_, _, _, _, _, _, _, rfl, _⟩ := h; rfl)
  | (obtain ⟨_, _, _, _, _, _, _, _, rfl, _⟩ := h; rfl)
def spL (ad : Ad) (tb : List (Addr × Str)) : QF := fun ds S Q E => sp_law ad ds S Q E ∧ TabOk tb S
def nmL : Str := (envOfC "law" (defScope s_law) 0 0 .none).qual ++ "<lambda>"
theorem nm_eq (n f : Addr) (cdv : Value) : (envOfC "law" (defScope s_law) n f cdv).qual ++ "<lambda>" = nmL := by unfold nmL envOfC; rfl
theorem ok_law (nd : ad.six.Nodup) (T : Txt K mg ad) (TL : ToldT K mg s__law_told ["call"]) {c Pt : Addr} (TB : LamX.TabB base mg c Pt) (G__law_any : GF P w K mg base "_law_any" ["state"] 3 (sp__law_any ad)) (G__law_count : GF P w K mg base "_law_count" ["checker", "length"] 1 (sp__law_count ad)) (G__law_next : GF P w K mg base "_law_next" ["state", "many"] 1 (sp__law_next ad)) (G__law_power : GF P w K mg base "_law_power" ["base", "many"] 1 (sp__law_power ad)) (G__law_stream : GF P w K mg base "_law_stream" ["script"] 1 (sp__law_stream ad)) (G__law_valid : GF P w K mg base "_law_valid" ["checker", "text"] 2 (sp__law_valid ad)) (G_count_valid : GF P w K mg base "count_valid" ["checker", "length"] 3 (sp_count_valid ad)) (G_number_at : GF P w K mg base "number_at" ["checker", "length", "place"] 3 (sp_number_at ad)) (G_place_of : GF P w K mg base "place_of" ["checker", "text"] 4 (sp_place_of ad)) (G__law_listed : GG P w K mg base "_law_listed" ["checker", "length"] 5 (sp__law_listed ad)) (G__law_same : GG P w K mg base "_law_same" ["told", "due"] 1 (sp__law_same ad)) (F : FnD K "law" s_law f fd) (hc : fd.code = .ref c) : FnG P w K mg base 7 f fd ["script"] (spL ad [(Pt, nmL)]) :=
  FunD.pureC (q := r_law ad [(Pt, nmL)] nmL) F hc sc_law (fun cdv A outer s H E hcv hr hG => by
    have z := d_law T TL TB G__law_any G__law_count G__law_next G__law_power G__law_stream G__law_valid G_count_valid G_number_at G_place_of G__law_listed G__law_same f cdv hcv A outer s H E (tb := [(Pt, nmL)]) (List.mem_singleton.mpr (by rw [nm_eq])) (fun p hp _ => by rw [List.mem_singleton.mp hp, nm_eq]) hr hG
    rw [nm_eq] at z
    exact z) (fun ds S Q E h => len_law h.1) fun ds S Q E h => p_law nd ds S Q E h.1 h.2
end
/-! the head -/
def D_is_signs : He.DefD := ⟨("is_signs", none), "is_signs", "is_signs", defArgs s_is_signs, defBody s_is_signs, defScope s_is_signs, [], []⟩
def D_is_number : He.DefD := ⟨("is_number", none), "is_number", "is_number", defArgs s_is_number, defBody s_is_number, defScope s_is_number, [], []⟩
def D_check_checker : He.DefD := ⟨("check_checker", none), "check_checker", "check_checker", defArgs s_check_checker, defBody s_check_checker, defScope s_check_checker, [], []⟩
def D_check_number : He.DefD := ⟨("check_number", none), "check_number", "check_number", defArgs s_check_number, defBody s_check_number, defScope s_check_number, [], []⟩
def D_check_length : He.DefD := ⟨("check_length", none), "check_length", "check_length", defArgs s_check_length, defBody s_check_length, defScope s_check_length, [], []⟩
def D_rows_of : He.DefD := ⟨("rows_of", none), "rows_of", "rows_of", defArgs s_rows_of, defBody s_rows_of, defScope s_rows_of, [], []⟩
def D_count_valid : He.DefD := ⟨("count_valid", none), "count_valid", "count_valid", defArgs s_count_valid, defBody s_count_valid, defScope s_count_valid, [], []⟩
def D_number_at : He.DefD := ⟨("number_at", none), "number_at", "number_at", defArgs s_number_at, defBody s_number_at, defScope s_number_at, [], []⟩
def D_place_of : He.DefD := ⟨("place_of", none), "place_of", "place_of", defArgs s_place_of, defBody s_place_of, defScope s_place_of, [], []⟩
def D__law_same : He.DefD := ⟨("_law_same", none), "_law_same", "_law_same", defArgs s__law_same, defBody s__law_same, defScope s__law_same, [], []⟩
def D__law_stream : He.DefD := ⟨("_law_stream", none), "_law_stream", "_law_stream", defArgs s__law_stream, defBody s__law_stream, defScope s__law_stream, [], []⟩
def D__law_next : He.DefD := ⟨("_law_next", none), "_law_next", "_law_next", defArgs s__law_next, defBody s__law_next, defScope s__law_next, [], []⟩
def D__law_told : He.DefD := ⟨("_law_told", none), "_law_told", "_law_told", defArgs s__law_told, defBody s__law_told, defScope s__law_told, [], []⟩
def D__law_signs : He.DefD := ⟨("_law_signs", none), "_law_signs", "_law_signs", defArgs s__law_signs, defBody s__law_signs, defScope s__law_signs, [], []⟩
def D__law_checker : He.DefD := ⟨("_law_checker", none), "_law_checker", "_law_checker", defArgs s__law_checker, defBody s__law_checker, defScope s__law_checker, [], []⟩
def D__law_sums : He.DefD := ⟨("_law_sums", none), "_law_sums", "_law_sums", defArgs s__law_sums, defBody s__law_sums, defScope s__law_sums, [], []⟩
def D__law_any : He.DefD := ⟨("_law_any", none), "_law_any", "_law_any", defArgs s__law_any, defBody s__law_any, defScope s__law_any, [], []⟩
def D__law_led : He.DefD := ⟨("_law_led", none), "_law_led", "_law_led", defArgs s__law_led, defBody s__law_led, defScope s__law_led, [], []⟩
def D__law_texts : He.DefD := ⟨("_law_texts", none), "_law_texts", "_law_texts", defArgs s__law_texts, defBody s__law_texts, defScope s__law_texts, [], []⟩
def D__law_valid : He.DefD := ⟨("_law_valid", none), "_law_valid", "_law_valid", defArgs s__law_valid, defBody s__law_valid, defScope s__law_valid, [], []⟩
def D__law_count : He.DefD := ⟨("_law_count", none), "_law_count", "_law_count", defArgs s__law_count, defBody s__law_count, defScope s__law_count, [], []⟩
def D__law_listed : He.DefD := ⟨("_law_listed", none), "_law_listed", "_law_listed", defArgs s__law_listed, defBody s__law_listed, defScope s__law_listed, [], []⟩
def D__law_power : He.DefD := ⟨("_law_power", none), "_law_power", "_law_power", defArgs s__law_power, defBody s__law_power, defScope s__law_power, [], []⟩
def D_law : He.DefD := ⟨("law", none), "law", "law", defArgs s_law, defBody s_law, defScope s_law, [], []⟩
def fn : List He.DefD := [D_is_signs, D_is_number, D_check_checker, D_check_number, D_check_length, D_rows_of, D_count_valid, D_number_at, D_place_of, D__law_same, D__law_stream, D__law_next, D__law_told, D__law_signs, D__law_checker, D__law_sums, D__law_any, D__law_led, D__law_texts, D__law_valid, D__law_count, D__law_listed, D__law_power, D_law]
def fa : List He.Fa := [.glo "is_signs", .glo "is_number", .glo "check_checker", .glo "check_number", .glo "check_length", .glo "rows_of", .glo "count_valid", .glo "number_at", .glo "place_of", .glo "_law_same", .glo "_law_stream", .glo "_law_next", .glo "_law_told", .glo "_law_signs", .glo "_law_checker", .glo "_law_sums", .glo "_law_any", .glo "_law_led", .glo "_law_texts", .glo "_law_valid", .glo "_law_count", .glo "_law_listed", .glo "_law_power", .glo "law", .free "abs", .free "all", .free "enumerate", .free "int", .free "isinstance", .free "len", .free "list", .free "range", .free "repr", .free "sorted", .free "sum", .free "tuple", .free "zip", .str "ALL_SIGNS" "0123456789abcdefghijklmnopqrstuvwxyz", .int "MAX_LENGTH" 200, .int "MAX_SIGNS" 12, .int "MAX_STATES" 60, .glo "BadForm", .glo "BadPaper", .glo "Broken", .glo "Missing", .glo "NotAllowed", .glo "SlipError", .glo "TooLarge", .exc "Missing", .exc "NotAllowed"]
def exBT (K : PySem.W.Frag) : Bool := exB K
abbrev R : PySem.W.OpenRow := PySem.W.OpenLaw.row PySem.Challenge.rw_slipward_k21_whole_numbers_by_their_plac
abbrev hk : PySem.W.Hook := He.hookX 4 fa fn [] [("law", none)] exBT
def ob (s : PySem.W.SharedT) : He.AlX := He.obsX 4 fa fn [] [("law", none)] exBT (HandSHeadRun.getT s)
theorem ob_eq (s : PySem.W.SharedT) : ob s = hk.obs s.abs := He.obsX_eq (HandSHeadRun.getT_eq s)
def loose0 : List Str := ["SlipError", "NotAllowed", "TooLarge", "Missing", "BadPaper", "BadForm", "Broken", "MAX_SIGNS", "MAX_LENGTH", "MAX_STATES", "ALL_SIGNS", "is_signs"]
def loose1 : List Str := ["is_number", "check_checker", "check_number", "check_length", "rows_of", "count_valid", "number_at", "place_of", "_law_same", "_law_stream", "_law_next", "_law_told"]
def loose2 : List Str := ["_law_signs", "_law_checker", "_law_sums", "_law_any", "_law_led", "_law_texts", "_law_valid", "_law_count", "_law_listed", "_law_power"]
theorem zRun (w : World) : HandSHeadRun.RunEq R (PySem.W.view R.prog [38]) hk ob 6000 ((["SlipError", "NotAllowed", "TooLarge", "Missing", "BadPaper", "BadForm", "Broken", "MAX_SIGNS", "MAX_LENGTH", "MAX_STATES", "ALL_SIGNS", "is_signs"] : List Str) ++ (["is_number", "check_checker", "check_number", "check_length", "rows_of", "count_valid", "number_at", "place_of", "_law_same", "_law_stream", "_law_next", "_law_told"] : List Str) ++ (["_law_signs", "_law_checker", "_law_sums", "_law_any", "_law_led", "_law_texts", "_law_valid", "_law_count", "_law_listed", "_law_power"] : List Str)) w := by
  intro os
  kernel_rfl
theorem zFacts {w : World} {K : PySem.W.Frag} {h : Heap} {mg : Str → Option Value} {f : Addr} (X : K.In h) (G : h.Ns mainGlobals mg) (hfa : mg ("law" : Str) = some (.ref f)) (c : He.SaysX fa fn [] [("law", none)] exBT w h K) :
    LawAt PySem.Challenge.rw_slipward_k21_whole_numbers_by_their_plac w K 7 63 "script" mg f h := by
  have d := c.t.d
  have mo := c.more
  unfold exBT at mo
  have sx := exB_ok mo
  obtain ⟨fd_is_signs, F_is_signs⟩ := d.def_ 0 (d := D_is_signs) rfl
  have g_is_signs := He.glo_ok X G (d.fact 0 (f := .glo "is_signs") rfl)
  obtain ⟨fd_is_number, F_is_number⟩ := d.def_ 1 (d := D_is_number) rfl
  have g_is_number := He.glo_ok X G (d.fact 1 (f := .glo "is_number") rfl)
  obtain ⟨fd_check_checker, F_check_checker⟩ := d.def_ 2 (d := D_check_checker) rfl
  have g_check_checker := He.glo_ok X G (d.fact 2 (f := .glo "check_checker") rfl)
  obtain ⟨fd_check_number, F_check_number⟩ := d.def_ 3 (d := D_check_number) rfl
  have g_check_number := He.glo_ok X G (d.fact 3 (f := .glo "check_number") rfl)
  obtain ⟨fd_check_length, F_check_length⟩ := d.def_ 4 (d := D_check_length) rfl
  have g_check_length := He.glo_ok X G (d.fact 4 (f := .glo "check_length") rfl)
  obtain ⟨fd_rows_of, F_rows_of⟩ := d.def_ 5 (d := D_rows_of) rfl
  have g_rows_of := He.glo_ok X G (d.fact 5 (f := .glo "rows_of") rfl)
  obtain ⟨fd_count_valid, F_count_valid⟩ := d.def_ 6 (d := D_count_valid) rfl
  have g_count_valid := He.glo_ok X G (d.fact 6 (f := .glo "count_valid") rfl)
  obtain ⟨fd_number_at, F_number_at⟩ := d.def_ 7 (d := D_number_at) rfl
  have g_number_at := He.glo_ok X G (d.fact 7 (f := .glo "number_at") rfl)
  obtain ⟨fd_place_of, F_place_of⟩ := d.def_ 8 (d := D_place_of) rfl
  have g_place_of := He.glo_ok X G (d.fact 8 (f := .glo "place_of") rfl)
  obtain ⟨fd__law_same, F__law_same⟩ := d.def_ 9 (d := D__law_same) rfl
  have g__law_same := He.glo_ok X G (d.fact 9 (f := .glo "_law_same") rfl)
  obtain ⟨fd__law_stream, F__law_stream⟩ := d.def_ 10 (d := D__law_stream) rfl
  have g__law_stream := He.glo_ok X G (d.fact 10 (f := .glo "_law_stream") rfl)
  obtain ⟨fd__law_next, F__law_next⟩ := d.def_ 11 (d := D__law_next) rfl
  have g__law_next := He.glo_ok X G (d.fact 11 (f := .glo "_law_next") rfl)
  obtain ⟨fd__law_told, F__law_told⟩ := d.def_ 12 (d := D__law_told) rfl
  have g__law_told := He.glo_ok X G (d.fact 12 (f := .glo "_law_told") rfl)
  obtain ⟨fd__law_signs, F__law_signs⟩ := d.def_ 13 (d := D__law_signs) rfl
  have g__law_signs := He.glo_ok X G (d.fact 13 (f := .glo "_law_signs") rfl)
  obtain ⟨fd__law_checker, F__law_checker⟩ := d.def_ 14 (d := D__law_checker) rfl
  have g__law_checker := He.glo_ok X G (d.fact 14 (f := .glo "_law_checker") rfl)
  obtain ⟨fd__law_sums, F__law_sums⟩ := d.def_ 15 (d := D__law_sums) rfl
  have g__law_sums := He.glo_ok X G (d.fact 15 (f := .glo "_law_sums") rfl)
  obtain ⟨fd__law_any, F__law_any⟩ := d.def_ 16 (d := D__law_any) rfl
  have g__law_any := He.glo_ok X G (d.fact 16 (f := .glo "_law_any") rfl)
  obtain ⟨fd__law_led, F__law_led⟩ := d.def_ 17 (d := D__law_led) rfl
  have g__law_led := He.glo_ok X G (d.fact 17 (f := .glo "_law_led") rfl)
  obtain ⟨fd__law_texts, F__law_texts⟩ := d.def_ 18 (d := D__law_texts) rfl
  have g__law_texts := He.glo_ok X G (d.fact 18 (f := .glo "_law_texts") rfl)
  obtain ⟨fd__law_valid, F__law_valid⟩ := d.def_ 19 (d := D__law_valid) rfl
  have g__law_valid := He.glo_ok X G (d.fact 19 (f := .glo "_law_valid") rfl)
  obtain ⟨fd__law_count, F__law_count⟩ := d.def_ 20 (d := D__law_count) rfl
  have g__law_count := He.glo_ok X G (d.fact 20 (f := .glo "_law_count") rfl)
  obtain ⟨fd__law_listed, F__law_listed⟩ := d.def_ 21 (d := D__law_listed) rfl
  have g__law_listed := He.glo_ok X G (d.fact 21 (f := .glo "_law_listed") rfl)
  obtain ⟨fd__law_power, F__law_power⟩ := d.def_ 22 (d := D__law_power) rfl
  have g__law_power := He.glo_ok X G (d.fact 22 (f := .glo "_law_power") rfl)
  obtain ⟨fd_law, F_law⟩ := d.def_ 23 (d := D_law) rfl
  have g_law := He.glo_ok X G (d.fact 23 (f := .glo "law") rfl)
  have T : Txt K mg (adK K) := {
    n_abs := He.free_ok X G (d.fact 24 (f := .free "abs") rfl)
    n_all := He.free_ok X G (d.fact 25 (f := .free "all") rfl)
    n_enumerate := He.free_ok X G (d.fact 26 (f := .free "enumerate") rfl)
    n_int := He.free_ok X G (d.fact 27 (f := .free "int") rfl)
    n_isinstance := He.free_ok X G (d.fact 28 (f := .free "isinstance") rfl)
    n_len := He.free_ok X G (d.fact 29 (f := .free "len") rfl)
    n_list := He.free_ok X G (d.fact 30 (f := .free "list") rfl)
    n_range := He.free_ok X G (d.fact 31 (f := .free "range") rfl)
    n_repr := He.free_ok X G (d.fact 32 (f := .free "repr") rfl)
    n_sorted := He.free_ok X G (d.fact 33 (f := .free "sorted") rfl)
    n_sum := He.free_ok X G (d.fact 34 (f := .free "sum") rfl)
    n_tuple := He.free_ok X G (d.fact 35 (f := .free "tuple") rfl)
    n_zip := He.free_ok X G (d.fact 36 (f := .free "zip") rfl)
    c_ALL_SIGNS := He.str_ok X G (d.fact 37 (f := .str "ALL_SIGNS" "0123456789abcdefghijklmnopqrstuvwxyz") rfl)
    c_MAX_LENGTH := He.int_ok X G (d.fact 38 (f := .int "MAX_LENGTH" 200) rfl)
    c_MAX_SIGNS := He.int_ok X G (d.fact 39 (f := .int "MAX_SIGNS" 12) rfl)
    c_MAX_STATES := He.int_ok X G (d.fact 40 (f := .int "MAX_STATES" 60) rfl)
    g_BadForm := He.glo_ok X G (d.fact 41 (f := .glo "BadForm") rfl)
    g_BadPaper := He.glo_ok X G (d.fact 42 (f := .glo "BadPaper") rfl)
    g_Broken := He.glo_ok X G (d.fact 43 (f := .glo "Broken") rfl)
    g_Missing := He.glo_ok X G (d.fact 44 (f := .glo "Missing") rfl)
    g_NotAllowed := He.glo_ok X G (d.fact 45 (f := .glo "NotAllowed") rfl)
    g_SlipError := He.glo_ok X G (d.fact 46 (f := .glo "SlipError") rfl)
    g_TooLarge := He.glo_ok X G (d.fact 47 (f := .glo "TooLarge") rfl)
    x_Missing := excT_of X G (d.fact 44 (f := .glo "Missing") rfl) (d.fact 48 (f := .exc "Missing") rfl)
    x_NotAllowed := excT_of X G (d.fact 45 (f := .glo "NotAllowed") rfl) (d.fact 49 (f := .exc "NotAllowed") rfl)
    exm := sx.exm
    exc := sx.exc
    kit := sx.kit }
  have e := hfa.symm.trans g_law
  cases e
  have TL : ToldT K mg s__law_told ["call"] := ⟨_, _, g__law_told, F__law_told, FunD.bindsN F__law_told (fun _ _ _ _ _ _ us hl => match us, hl with | [_], _ => rfl)⟩
  have hbind : ∀ (s : Shared) (v : Value), BindsTo s fd_law ⟨[v], []⟩ [("script", v)] := fun s v => FunD.bindsA (ps := ["script"]) F_law (fun _ _ _ _ _ _ us hl => match us, hl with | [_], _ => rfl) s [v] rfl
  refine ⟨fd_law, [He.cT K ("law", none)], fun _ => nmL, spL (adK K) [((He.cT K ("law", none)).2, nmL)], ?_, ?_, ?_, hbind, ?_, ?_⟩
  · intro p hp
    rw [List.mem_singleton.mp hp]
    exact c.empty _ (List.mem_singleton.mpr rfl)
  · intro p hp
    rw [List.mem_singleton.mp hp]
    exact c.out _ (List.mem_singleton.mpr rfl)
  · intro p hp
    rw [List.mem_singleton.mp hp]
    exact c.hd _ (List.mem_singleton.mpr rfl)
  · intro ns hl hbits
    exact ⟨law_start ns hl hbits, entry_tabOk (cs := [He.cT K ("law", none)]) (nm := fun _ => nmL)⟩
  · intro base hKb hGb hTB
    have TB := hTB _ (List.mem_singleton.mpr rfl)
    have G_is_signs : GF PySem.Challenge.rw_slipward_k21_whole_numbers_by_their_plac.prog w K mg base "is_signs" ["signs"] 1 (sp_is_signs (adK K)) := ok_is_signs T F_is_signs g_is_signs
    have G_is_number : GF PySem.Challenge.rw_slipward_k21_whole_numbers_by_their_plac.prog w K mg base "is_number" ["signs", "text"] 1 (sp_is_number (adK K)) := ok_is_number T F_is_number g_is_number
    have G_check_length : GF PySem.Challenge.rw_slipward_k21_whole_numbers_by_their_plac.prog w K mg base "check_length" ["length"] 1 (sp_check_length (adK K)) := ok_check_length T F_check_length g_check_length
    have G_rows_of : GF PySem.Challenge.rw_slipward_k21_whole_numbers_by_their_plac.prog w K mg base "rows_of" ["checker", "length"] 1 (sp_rows_of (adK K)) := ok_rows_of T F_rows_of g_rows_of
    have G__law_same : GG PySem.Challenge.rw_slipward_k21_whole_numbers_by_their_plac.prog w K mg base "_law_same" ["told", "due"] 1 (sp__law_same (adK K)) := ok__law_same T F__law_same g__law_same
    have G__law_stream : GF PySem.Challenge.rw_slipward_k21_whole_numbers_by_their_plac.prog w K mg base "_law_stream" ["script"] 1 (sp__law_stream (adK K)) := ok__law_stream T F__law_stream g__law_stream
    have G__law_next : GF PySem.Challenge.rw_slipward_k21_whole_numbers_by_their_plac.prog w K mg base "_law_next" ["state", "many"] 1 (sp__law_next (adK K)) := ok__law_next T F__law_next g__law_next
    have G__law_led : GF PySem.Challenge.rw_slipward_k21_whole_numbers_by_their_plac.prog w K mg base "_law_led" ["checker", "s", "text"] 1 (sp__law_led (adK K)) := ok__law_led T F__law_led g__law_led
    have G__law_texts : GF PySem.Challenge.rw_slipward_k21_whole_numbers_by_their_plac.prog w K mg base "_law_texts" ["signs", "length"] 1 (sp__law_texts (adK K)) := ok__law_texts T F__law_texts g__law_texts
    have G__law_count : GF PySem.Challenge.rw_slipward_k21_whole_numbers_by_their_plac.prog w K mg base "_law_count" ["checker", "length"] 1 (sp__law_count (adK K)) := ok__law_count T F__law_count g__law_count
    have G__law_power : GF PySem.Challenge.rw_slipward_k21_whole_numbers_by_their_plac.prog w K mg base "_law_power" ["base", "many"] 1 (sp__law_power (adK K)) := ok__law_power T F__law_power g__law_power
    have G_check_checker : GF PySem.Challenge.rw_slipward_k21_whole_numbers_by_their_plac.prog w K mg base "check_checker" ["checker"] 2 (sp_check_checker (adK K)) := ok_check_checker T G_is_signs F_check_checker g_check_checker
    have G__law_signs : GF PySem.Challenge.rw_slipward_k21_whole_numbers_by_their_plac.prog w K mg base "_law_signs" ["state"] 2 (sp__law_signs (adK K)) := ok__law_signs T G__law_next F__law_signs g__law_signs
    have G__law_checker : GF PySem.Challenge.rw_slipward_k21_whole_numbers_by_their_plac.prog w K mg base "_law_checker" ["state", "signs", "many"] 2 (sp__law_checker (adK K)) := ok__law_checker T G__law_next F__law_checker g__law_checker
    have G__law_sums : GF PySem.Challenge.rw_slipward_k21_whole_numbers_by_their_plac.prog w K mg base "_law_sums" ["state", "signs", "most"] 2 (sp__law_sums (adK K)) := ok__law_sums T G__law_next F__law_sums g__law_sums
    have G__law_valid : GF PySem.Challenge.rw_slipward_k21_whole_numbers_by_their_plac.prog w K mg base "_law_valid" ["checker", "text"] 2 (sp__law_valid (adK K)) := ok__law_valid T G__law_led F__law_valid g__law_valid
    have G_check_number : GF PySem.Challenge.rw_slipward_k21_whole_numbers_by_their_plac.prog w K mg base "check_number" ["checker", "text"] 3 (sp_check_number (adK K)) := ok_check_number T G_check_checker G_is_number F_check_number g_check_number
    have G_count_valid : GF PySem.Challenge.rw_slipward_k21_whole_numbers_by_their_plac.prog w K mg base "count_valid" ["checker", "length"] 3 (sp_count_valid (adK K)) := ok_count_valid T G_check_checker G_check_length G_rows_of F_count_valid g_count_valid
    have G_number_at : GF PySem.Challenge.rw_slipward_k21_whole_numbers_by_their_plac.prog w K mg base "number_at" ["checker", "length", "place"] 3 (sp_number_at (adK K)) := ok_number_at T G_check_checker G_check_length G_rows_of F_number_at g_number_at
    have G__law_any : GF PySem.Challenge.rw_slipward_k21_whole_numbers_by_their_plac.prog w K mg base "_law_any" ["state"] 3 (sp__law_any (adK K)) := ok__law_any T G__law_checker G__law_next G__law_signs G__law_sums F__law_any g__law_any
    have G_place_of : GF PySem.Challenge.rw_slipward_k21_whole_numbers_by_their_plac.prog w K mg base "place_of" ["checker", "text"] 4 (sp_place_of (adK K)) := ok_place_of T G_check_number G_rows_of F_place_of g_place_of
    have G__law_listed : GG PySem.Challenge.rw_slipward_k21_whole_numbers_by_their_plac.prog w K mg base "_law_listed" ["checker", "length"] 5 (sp__law_listed (adK K)) := ok__law_listed T G__law_texts G__law_valid G_count_valid G_number_at G_place_of G__law_same F__law_listed g__law_listed
    exact ok_law sx.nd T TL TB G__law_any G__law_count G__law_next G__law_power G__law_stream G__law_valid G_count_valid G_number_at G_place_of G__law_listed G__law_same F_law (code_at F_law)
end K21
open PySem PySem.W PySem.Calls PyProof.Rows
theorem PySem.Challenge.cw_slipward_k21_whole_numbers_by_their_plac_holds : PySem.Challenge.rw_slipward_k21_whole_numbers_by_their_plac.Holds := by
  w_on; o_law
  refine HandSHeadRun.head_any (r := OpenLaw.row PySem.Challenge.rw_slipward_k21_whole_numbers_by_their_plac) (q := view (OpenLaw.row PySem.Challenge.rw_slipward_k21_whole_numbers_by_their_plac).prog [38]) (H := K21.hk) (ob := K21.ob) (M := 6000) (loose := ((["SlipError", "NotAllowed", "TooLarge", "Missing", "BadPaper", "BadForm", "Broken", "MAX_SIGNS", "MAX_LENGTH", "MAX_STATES", "ALL_SIGNS", "is_signs"] : List Str) ++ (["is_number", "check_checker", "check_number", "check_length", "rows_of", "count_valid", "number_at", "place_of", "_law_same", "_law_stream", "_law_next", "_law_told"] : List Str) ++ (["_law_signs", "_law_checker", "_law_sums", "_law_any", "_law_led", "_law_texts", "_law_valid", "_law_count", "_law_listed", "_law_power"] : List Str))) (d := HandSHeadRun.topDef (OpenLaw.row PySem.Challenge.rw_slipward_k21_whole_numbers_by_their_plac).prog 38) (kwd := []) K21.ob_eq
    (by kernel_rfl) (fun s => by kernel_rfl) K21.zRun (by kernel_rfl) (by kernel_rfl) (by kernel_rfl) (by rfl) (by first | assumption | decide +kernel) (by decide +kernel) ⟨rfl, rfl, rfl, rfl, rfl, by decide +kernel⟩ ?hw ?hc
  case hw => w_witness2
  case hc =>
    refine PL.walk_law (l := PySem.Challenge.rw_slipward_k21_whole_numbers_by_their_plac) (n := 63) (k := 7) (x := "script") rfl (by decide) (by kernel_rfl) ⟨rfl, by decide, by decide⟩ ?F
    intro w mg fa h Y G hmg0
    obtain ⟨K, KX, c⟩ := Y
    have hmg : mg ("law" : PySem.Str) = some (.ref fa) := by
      have e : (HandSHeadRun.topDef (OpenLaw.row PySem.Challenge.rw_slipward_k21_whole_numbers_by_their_plac).prog 38).name = ("law" : PySem.Str) := by kernel_rfl
      rw [← e]
      exact hmg0
    exact ⟨K, KX, K21.zFacts KX G hmg c⟩
