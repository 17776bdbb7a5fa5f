import PyProof.Rows.All
import Wide.All
import OpenK.AllK
import Wide.FinOn
import PyProof.ReprReads
import HandS.ForMost
import HandS.ForExc
import HandS.Wide
import HandS.ExcCtx
import HandS.ExcIs
import HandS.Lambda
import HandS.HotCalls
import HandS.Defaults
import HandS.TupAny
import HandS.Deep
import HandS.Zip
import HandS.ExcOwn
import HandS.NestedK
import HandS.EndTab
import HandS.HeadHook4
import HandS.Head2
import HandS.HeadEnd
import PyProof.ReprLen
import HandS.TupMul
import HandS.Text
import HandS.SortInts
import HandS.Replace
import HandS.StrMore
import PyProof.StrLawsIn
import PyProof.Rows.StrLawsPart
import HandS.Style
import KE.GoesMore
import KE.KRevSl
import HandS.Strs
import PySem.Challenge.RW_slipward_k35_wishes_of_tables
set_option Elab.async false
set_option linter.all false
set_option maxRecDepth 100000
set_option maxHeartbeats 4000000
/-! the pure layer: data as trees, a store of lists, predicate transformers over both; each rule is shown sound over the hand layer -/
namespace PL
open PySem PySem.Spec PyProof.Rows L2 -- the layers

/-! ## data -/
/-- data: tuples by value; lists, dicts, instances and defs by their address -/
inductive D where
  | non
  | bl (b : Bool)
  | int (i : Int)
  | str (x : Str)
  | tup (xs : List D)
  | rol (xs : List D)
  | ptup (xs : List D)
  | ref (a : Addr)
  | ty (n : String)

/-- a list that nobody writes: it is known to the object, or stands in the written part -/
def Rol (K : PySem.W.Frag) (H : Hp) (a : Addr) (vs : List V) : Prop :=
  (∃ o, H a = some (.frz o (.lst vs))) ∨
    ∃ (o : Obj) (its : Array Value) (n : Nat), K.lookup a = some o ∧ o.cls = .type "list" ∧ o.dict = none ∧ o.data = .seq its n ∧ its.size ≤ sizeLine ∧ Vals vs its.toList
theorem Rol.sq {K : PySem.W.Frag} {H : Hp} {a : Addr} {vs : List V} (h : Rol K H a vs) : SqL K H a vs := by
  rcases h with h | h
  · exact .inl (.inr h)
  · exact .inr h

/-- a tuple whose object is known: it has no dict -/
def PTup (H : Hp) (a : Addr) (vs : List V) : Prop := ∃ o, H a = some (.frz o (.tup vs)) ∧ o.cls = .type "tuple" ∧ o.dict = none
mutual
/-- the value v of the hand layer bears the datum -/
def RV (K : PySem.W.Frag) (H : Hp) : D → V → Prop
  | .non, v => v = .non
  | .bl b, v => v = .bl b
  | .int i, v => v = .int i
  | .str x, v => v = .str x
  | .tup ds, v => ∃ a vs, v = .ref a ∧ SqT K H a vs ∧ RVs K H ds vs
  | .rol ds, v => ∃ a vs, v = .ref a ∧ Rol K H a vs ∧ RVs K H ds vs
  | .ptup ds, v => ∃ a vs, v = .ref a ∧ PTup H a vs ∧ RVs K H ds vs
  | .ref a, v => v = .ref a
  | .ty n, v => v = .ty n
def RVs (K : PySem.W.Frag) (H : Hp) : List D → List V → Prop
  | [], vs => vs = []
  | d :: ds, vs => ∃ v r, vs = v :: r ∧ RV K H d v ∧ RVs K H ds r
end

/-- tuples and what nobody writes stay -/
structure Keep (K : PySem.W.Frag) (H H' : Hp) : Prop where
  tup : ∀ a vs, SqT K H a vs → SqT K H' a vs
  frz : ∀ a o u, H a = some (.frz o u) → H' a = some (.frz o u)
theorem Keep.refl {K : PySem.W.Frag} {H : Hp} : Keep K H H := ⟨fun _ _ h => h, fun _ _ _ h => h⟩
theorem Keep.trans {K : PySem.W.Frag} {H H1 H2 : Hp} (a : Keep K H H1) (b : Keep K H1 H2) : Keep K H H2 :=
  ⟨fun c vs h => b.tup c vs (a.tup c vs h), fun c o u h => b.frz c o u (a.frz c o u h)⟩
theorem Keep.rol {K : PySem.W.Frag} {H H' : Hp} (k : Keep K H H') {a : Addr} {vs : List V} (h : Rol K H a vs) : Rol K H' a vs := by
  rcases h with ⟨o, h⟩ | h
  · exact .inl ⟨o, k.frz _ _ _ h⟩
  · exact .inr h
mutual
theorem RV.keep {K : PySem.W.Frag} {H H' : Hp} (k : Keep K H H') : ∀ (d : D) (v : V), RV K H d v → RV K H' d v
  | .non, _, h => h
  | .bl _, _, h => h
  | .int _, _, h => h
  | .str _, _, h => h
  | .ref _, _, h => h
  | .ty _, _, h => h
  | .tup ds, v, h => by
    unfold RV at h ⊢
    obtain ⟨a, vs, e, s, r⟩ := h
    exact ⟨a, vs, e, k.tup _ _ s, RVs.keep k ds vs r⟩
  | .rol ds, v, h => by
    unfold RV at h ⊢
    obtain ⟨a, vs, e, s, r⟩ := h
    exact ⟨a, vs, e, k.rol s, RVs.keep k ds vs r⟩
  | .ptup ds, v, h => by
    unfold RV at h ⊢
    obtain ⟨a, vs, e, ⟨o, h1, h2⟩, r⟩ := h
    exact ⟨a, vs, e, ⟨o, k.frz _ _ _ h1, h2⟩, RVs.keep k ds vs r⟩
theorem RVs.keep {K : PySem.W.Frag} {H H' : Hp} (k : Keep K H H') : ∀ (ds : List D) (vs : List V), RVs K H ds vs → RVs K H' ds vs
  | [], _, h => h
  | d :: ds, vs, h => by
    unfold RVs at h ⊢
    obtain ⟨v, r, e, h1, h2⟩ := h
    exact ⟨v, r, e, RV.keep k d v h1, RVs.keep k ds r h2⟩
end
theorem Same.keep {K : PySem.W.Frag} {H H' : Hp} (s : Same H H') : Keep K H H' := by
  refine ⟨fun a vs h => ?_, fun a o u h => s _ _ h⟩
  rcases h with (h | ⟨o, h⟩) | h
  · exact .inl (.inl (s _ _ h))
  · exact .inl (.inr ⟨o, s _ _ h⟩)
  · exact .inr h
theorem same_new {H : Hp} {p : Addr} {o : HO} (n : H p = none) : Same H (upd H p o) := fun b u e => by
  rw [upd_ne (ne_of_none e n)]
  exact e
theorem Keep.new {K : PySem.W.Frag} {H : Hp} {p : Addr} {o : HO} (n : H p = none) : Keep K H (upd H p o) := Same.keep (same_new n)
/-- a list, a dict, an instance is written -/
theorem Keep.mut {K : PySem.W.Frag} {H : Hp} {p : Addr} {o u : HO} (n : H p = some u) (h1 : ∀ xs, u ≠ .tup xs) (h2 : ∀ ob w, u ≠ .frz ob w) : Keep K H (upd H p o) := by
  have ne : ∀ {a : Addr} {w : HO}, H a = some w → w ≠ u → a ≠ p := fun {a w} e q z => by
    rw [z, n] at e
    exact q (Option.some.inj e).symm
  refine ⟨fun a vs h => ?_, fun a ob w h => ?_⟩
  · rcases h with (h | ⟨ob, h⟩) | h
    · exact .inl (.inl (by rw [upd_ne (ne h (fun z => h1 _ z.symm))]; exact h))
    · exact .inl (.inr ⟨ob, by rw [upd_ne (ne h (fun z => h2 _ _ z.symm))]; exact h⟩)
    · exact .inr h
  · rw [upd_ne (ne h (fun z => h2 _ _ z.symm))]
    exact h

theorem RVs.nil_iff {K : PySem.W.Frag} {H : Hp} {vs : List V} : RVs K H [] vs ↔ vs = [] := by unfold RVs; exact Iff.rfl
theorem RVs.length {K : PySem.W.Frag} {H : Hp} : ∀ {ds : List D} {vs : List V}, RVs K H ds vs → ds.length = vs.length
  | [], vs, h => by unfold RVs at h; subst h; rfl
  | d :: ds, vs, h => by
    unfold RVs at h
    obtain ⟨v, r, e, _, h2⟩ := h
    subst e
    simp [RVs.length h2]
theorem RVs.get {K : PySem.W.Frag} {H : Hp} : ∀ {ds : List D} {vs : List V} {i : Nat} {d : D}, RVs K H ds vs → ds[i]? = some d → ∃ v, vs[i]? = some v ∧ RV K H d v
  | [], _, _, _, _, e => by simp at e
  | d :: ds, vs, 0, x, h, e => by
    unfold RVs at h
    obtain ⟨v, r, e1, h1, _⟩ := h
    subst e1
    simp at e
    subst e
    exact ⟨v, rfl, h1⟩
  | d :: ds, vs, i + 1, x, h, e => by
    unfold RVs at h
    obtain ⟨v, r, e1, _, h2⟩ := h
    subst e1
    obtain ⟨w, a, b⟩ := RVs.get h2 (i := i) (d := x) (by simpa using e)
    exact ⟨w, by simpa using a, b⟩
theorem RVs.append {K : PySem.W.Frag} {H : Hp} : ∀ {ds es : List D} {vs ws : List V}, RVs K H ds vs → RVs K H es ws → RVs K H (ds ++ es) (vs ++ ws)
  | [], _, vs, _, h, q => by unfold RVs at h; subst h; exact q
  | d :: ds, es, vs, ws, h, q => by
    unfold RVs at h
    obtain ⟨v, r, e, h1, h2⟩ := h
    subst e
    show RVs K H (d :: (ds ++ es)) (v :: (r ++ ws))
    unfold RVs
    exact ⟨v, r ++ ws, rfl, h1, RVs.append h2 q⟩
theorem RVs.one {K : PySem.W.Frag} {H : Hp} {d : D} {v : V} (h : RV K H d v) : RVs K H [d] [v] := by
  unfold RVs
  exact ⟨v, [], rfl, h, RVs.nil_iff.mpr rfl⟩
theorem RVs.set {K : PySem.W.Frag} {H : Hp} {d : D} {v : V} (q : RV K H d v) : ∀ {ds : List D} {vs : List V} (i : Nat), RVs K H ds vs → RVs K H (ds.set i d) (vs.set i v)
  | [], vs, _, h => by unfold RVs at h; subst h; exact RVs.nil_iff.mpr rfl
  | x :: ds, vs, 0, h => by
    unfold RVs at h
    obtain ⟨w, r, e, _, h2⟩ := h
    subst e
    show RVs K H (d :: ds) (v :: r)
    unfold RVs
    exact ⟨v, r, rfl, q, h2⟩
  | x :: ds, vs, i + 1, h => by
    unfold RVs at h
    obtain ⟨w, r, e, h1, h2⟩ := h
    subst e
    show RVs K H (x :: ds.set i d) (w :: r.set i v)
    unfold RVs
    exact ⟨w, _, rfl, h1, RVs.set q i h2⟩
theorem RVs.drop {K : PySem.W.Frag} {H : Hp} : ∀ {ds : List D} {vs : List V} (n : Nat), RVs K H ds vs → RVs K H (ds.drop n) (vs.drop n)
  | _, _, 0, h => h
  | [], vs, n + 1, h => by unfold RVs at h; subst h; exact RVs.nil_iff.mpr rfl
  | d :: ds, vs, n + 1, h => by
    unfold RVs at h
    obtain ⟨w, r, e, _, h2⟩ := h
    subst e
    exact RVs.drop n h2
theorem RVs.take {K : PySem.W.Frag} {H : Hp} : ∀ {ds : List D} {vs : List V} (n : Nat), RVs K H ds vs → RVs K H (ds.take n) (vs.take n)
  | _, _, 0, _ => RVs.nil_iff.mpr rfl
  | [], vs, n + 1, h => by unfold RVs at h; subst h; exact RVs.nil_iff.mpr rfl
  | d :: ds, vs, n + 1, h => by
    unfold RVs at h
    obtain ⟨w, r, e, h1, h2⟩ := h
    subst e
    show RVs K H (d :: ds.take n) (w :: r.take n)
    unfold RVs
    exact ⟨w, _, rfl, h1, RVs.take n h2⟩

/-! ## the store -/
/-- what the pure side knows to stand at an address -/
inductive O where
  | lst (ds : List D)
  | tab (q : Str)
  | cod (q : Str)
abbrev Sto := Addr → Option O
def ups (S : Sto) (a : Addr) (o : O) : Sto := fun b => if b = a then some o else S b
theorem ups_same {S : Sto} {a : Addr} {o : O} : ups S a o a = some o := by unfold ups; rw [if_pos rfl]
theorem ups_ne {S : Sto} {a b : Addr} {o : O} (h : b ≠ a) : ups S a o b = S b := by unfold ups; rw [if_neg h]
theorem ups_ups {S : Sto} {a : Addr} {o u : O} : ups (ups S a o) a u = ups S a u := by
  funext b; unfold ups; split <;> rfl
/-- S stands in S' -/
def Sub (S S' : Sto) : Prop := ∀ a o, S a = some o → S' a = some o
theorem Sub.refl (S : Sto) : Sub S S := fun _ _ h => h
theorem Sub.trans {S S1 S2 : Sto} (a : Sub S S1) (b : Sub S1 S2) : Sub S S2 := fun c o h => b c o (a c o h)
theorem sto_ne {S : Sto} {a b : Addr} {o : O} (h : S a = some o) (n : S b = none) : a ≠ b := by
  intro e; subst e; rw [h] at n; cases n
theorem Sub.new {S S' : Sto} {p : Addr} {o : O} (s : Sub S S') (n : S' p = none) : Sub S (ups S' p o) := fun a u h => by
  rw [ups_ne (sto_ne (s a u h) n)]
  exact s a u h
/-- an object that is not S's own is written -/
theorem Sub.at {S S' : Sto} {p : Addr} {o : O} (s : Sub S S') (n : S p = none) : Sub S (ups S' p o) := fun a u h => by
  rw [ups_ne (sto_ne h n)]
  exact s a u h
theorem Sub.none {S S' : Sto} {p : Addr} (s : Sub S S') (n : S' p = none) : S p = none := by
  cases e : S p with
  | none => rfl
  | some o =>
    rw [s p o e] at n
    cases n

def RO (K : PySem.W.Frag) (H : Hp) (a : Addr) : O → Prop
  | .lst ds => ∃ vs, H a = some (.lst vs) ∧ RVs K H ds vs
  | .tab q => LamX.TabS H a q
  | .cod q => H a = some (LamX.CodeO a q)
def Rep (K : PySem.W.Frag) (S : Sto) (H : Hp) : Prop := ∀ a o, S a = some o → RO K H a o
theorem Rep.sub {K : PySem.W.Frag} {S S' : Sto} {H : Hp} (r : Rep K S' H) (s : Sub S S') : Rep K S H := fun a o h => r a o (s a o h)
theorem Rep.free {K : PySem.W.Frag} {S : Sto} {H : Hp} (r : Rep K S H) {p : Addr} (n : H p = none) : S p = none := by
  cases e : S p with
  | none => rfl
  | some o =>
    have z := r p o e
    cases o with
    | lst ds =>
      obtain ⟨vs, z, _⟩ := z
      rw [n] at z
      cases z
    | tab q =>
      obtain ⟨ps, z, _⟩ := z
      rw [n] at z
      cases z
    | cod q =>
      have z : H p = some (LamX.CodeO p q) := z
      rw [n] at z
      cases z
theorem RO.same {K : PySem.W.Frag} {H H' : Hp} (s : Same H H') {a : Addr} {o : O} (r : RO K H a o) : RO K H' a o := by
  cases o with
  | lst ds =>
    obtain ⟨vs, h, q⟩ := r
    exact ⟨vs, s _ _ h, RVs.keep (Same.keep s) _ _ q⟩
  | tab q => exact LamX.TabS.ext r s
  | cod q => exact s _ _ r
theorem Rep.same {K : PySem.W.Frag} {S : Sto} {H H' : Hp} (r : Rep K S H) (s : Same H H') : Rep K S H' := fun a o h => RO.same s (r a o h)
/-- a new list -/
theorem Rep.newL {K : PySem.W.Frag} {S : Sto} {H : Hp} (r : Rep K S H) {p : Addr} {ds : List D} {vs : List V} (n : H p = none) (q : RVs K H ds vs) : Rep K (ups S p (.lst ds)) (upd H p (.lst vs)) := fun a o h => by
  by_cases e : a = p
  · subst e
    rw [ups_same] at h
    cases h
    exact ⟨vs, upd_same, RVs.keep (Keep.new n) _ _ q⟩
  · rw [ups_ne e] at h
    exact RO.same (same_new n) (r a o h)
/-- a list is written -/
theorem Rep.setL {K : PySem.W.Frag} {S : Sto} {H : Hp} (r : Rep K S H) {p : Addr} {ds : List D} {vs us : List V} (h0 : H p = some (.lst us)) (q : RVs K H ds vs) : Rep K (ups S p (.lst ds)) (upd H p (.lst vs)) := fun a o h => by
  have kp : Keep K H (upd H p (.lst vs)) := Keep.mut h0 (fun _ z => by cases z) (fun _ _ z => by cases z)
  by_cases e : a = p
  · subst e
    rw [ups_same] at h
    cases h
    exact ⟨vs, upd_same, RVs.keep kp _ _ q⟩
  · rw [ups_ne e] at h
    have z := r a o h
    cases o with
    | lst ds' =>
      obtain ⟨vs', h', q'⟩ := z
      exact ⟨vs', by rw [upd_ne e]; exact h', RVs.keep kp _ _ q'⟩
    | tab nm =>
      obtain ⟨ps, h1, h2, h3⟩ := z
      refine ⟨ps, by rw [upd_ne e]; exact h1, h2, fun pos cv hc => ?_⟩
      obtain ⟨c, e1, e2⟩ := h3 pos cv hc
      refine ⟨c, e1, ?_⟩
      have hcp : c ≠ p := fun z => by
        rw [z, h0] at e2
        unfold LamX.CodeO at e2
        cases e2
      rw [upd_ne hcp]
      exact e2
    | cod nm =>
      show upd H p (.lst vs) a = some (LamX.CodeO a nm)
      rw [upd_ne e]
      exact z

/-! ## the frame -/
abbrev Loc := List (Option D)
structure RL (K : PySem.W.Frag) (H : Hp) (loc : Loc) (σ : L2.St) : Prop where
  len : loc.length = σ.length
  at_ : ∀ (i : Nat) (d : D), loc[i]? = some (some d) → ∃ v, σ[i]? = some (some v) ∧ RV K H d v
theorem RL.keep {K : PySem.W.Frag} {H H' : Hp} {loc : Loc} {σ : L2.St} (r : RL K H loc σ) (k : Keep K H H') : RL K H' loc σ :=
  ⟨r.len, fun i d h => by
    obtain ⟨v, a, b⟩ := r.at_ i d h
    exact ⟨v, a, RV.keep k _ _ b⟩⟩
theorem RL.set {K : PySem.W.Frag} {H : Hp} {loc : Loc} {σ : L2.St} (r : RL K H loc σ) {d : D} {v : V} (q : RV K H d v) (i : Nat) : RL K H (loc.set i (some d)) (σ.set i (some v)) := by
  refine ⟨by simp [r.len], fun j x h => ?_⟩
  by_cases e : i = j
  · subst e
    by_cases hl : i < loc.length
    · rw [List.getElem?_set_self hl] at h
      cases h
      exact ⟨v, by rw [List.getElem?_set_self (by rw [← r.len]; exact hl)], q⟩
    · rw [List.getElem?_eq_none (by simpa using hl)] at h
      cases h
  · rw [List.getElem?_set_ne e] at h
    obtain ⟨w, a, b⟩ := r.at_ j x h
    exact ⟨w, by rw [List.getElem?_set_ne e]; exact a, b⟩
/-- the slots forgotten -/
def wipeD (loc : Loc) : List Nat → Loc
  | [] => loc
  | v :: vs => (wipeD loc vs).set v none
theorem RL.wipe {K : PySem.W.Frag} {H : Hp} {loc : Loc} {σ : L2.St} (r : RL K H loc σ) : ∀ vs : List Nat, RL K H (wipeD loc vs) (L2.wipe σ vs)
  | [] => r
  | v :: vs => by
    have ih := RL.wipe r vs
    refine ⟨by simp [wipeD, L2.wipe, ih.len], fun j x h => ?_⟩
    unfold wipeD at h
    unfold L2.wipe
    by_cases e : v = j
    · subst e
      by_cases hl : v < (wipeD loc vs).length
      · rw [List.getElem?_set_self hl] at h
        cases h
      · rw [List.getElem?_eq_none (by simpa using hl)] at h
        cases h
    · rw [List.getElem?_set_ne e] at h
      obtain ⟨w, a, b⟩ := ih.at_ j x h
      exact ⟨w, by rw [List.getElem?_set_ne e]; exact a, b⟩

/-! ## exceptions -/
/-- an exception: its class, its one field -/
structure Ex where
  cls : Addr
  fld : Option (Str × D) := none
def RX (K : PySem.W.Frag) (H : Hp) (x : Ex) (c : Value) (d : Option Addr) : Prop :=
  c = .ref x.cls ∧ match x.fld with
    | none => d = none
    | some (f, y) => ∃ a v, d = some a ∧ H a = some (.xd [(f, v)]) ∧ RV K H y v

/-! ## readings of the pure side -/
abbrev PD := D → Sto → Prop
abbrev PX := Ex → Sto → Prop
abbrev QE := Loc → Sto → PD → PX → Prop
abbrev QT := Loc → Sto → (Bool → Sto → Prop) → PX → Prop
abbrev QA := Loc → Sto → (List D → Sto → Prop) → PX → Prop
structure QN where
  nx : Loc → Sto → Prop
  rt : PD
  bk : Loc → Sto → Prop := fun _ _ => False
  ct : Loc → Sto → Prop := fun _ _ => False
  ex : Ex → Loc → Sto → Prop := fun _ _ _ => False
abbrev QS := QN → Loc → Sto → Prop
abbrev QF := List D → Sto → PD → PX → Prop

/-- what a value's wish becomes over the hand layer -/
def GoD (K : PySem.W.Frag) (H : Hp) (P : PD) (Q : VK) : Prop := ∀ d S' v H', P d S' → Keep K H H' → Rep K S' H' → RV K H' d v → Q v H'
def GoX (K : PySem.W.Frag) (H : Hp) (σ : L2.St) (E : PX) (W : WX) : Prop := ∀ x S' H' c d, E x S' → Keep K H H' → Rep K S' H' → RX K H' x c d → W c d σ H'
def GoB (K : PySem.W.Frag) (H : Hp) (P : Bool → Sto → Prop) (Q : Bool → Hp → Prop) : Prop := ∀ b S' H', P b S' → Keep K H H' → Rep K S' H' → Q b H'
def GoA (K : PySem.W.Frag) (H : Hp) (P : List D → Sto → Prop) (Q : List V → Hp → Prop) : Prop := ∀ ds S' vs H', P ds S' → Keep K H H' → Rep K S' H' → RVs K H' ds vs → Q vs H'
def GoL (K : PySem.W.Frag) (H : Hp) (P : Loc → Sto → Prop) (Q : L2.St → Hp → Prop) : Prop := ∀ loc' S' σ' H', P loc' S' → Keep K H H' → RL K H' loc' σ' → Rep K S' H' → Q σ' H'
def GoLX (K : PySem.W.Frag) (H : Hp) (E : Ex → Loc → Sto → Prop) (W : WX) : Prop := ∀ x loc' S' σ' H' c d, E x loc' S' → Keep K H H' → RL K H' loc' σ' → Rep K S' H' → RX K H' x c d → W c d σ' H'
section
variable {K : PySem.W.Frag} {H H1 : Hp}
theorem GoD.keep {P : PD} {Q : VK} (g : GoD K H P Q) (k : Keep K H H1) : GoD K H1 P Q := fun d S v H' p k' => g d S v H' p (k.trans k')
theorem GoX.keep {σ : L2.St} {E : PX} {W : WX} (g : GoX K H σ E W) (k : Keep K H H1) : GoX K H1 σ E W := fun x S H' c d p k' => g x S H' c d p (k.trans k')
theorem GoB.keep {P : Bool → Sto → Prop} {Q : Bool → Hp → Prop} (g : GoB K H P Q) (k : Keep K H H1) : GoB K H1 P Q := fun d S H' p k' => g d S H' p (k.trans k')
theorem GoA.keep {P : List D → Sto → Prop} {Q : List V → Hp → Prop} (g : GoA K H P Q) (k : Keep K H H1) : GoA K H1 P Q := fun d S v H' p k' => g d S v H' p (k.trans k')
theorem GoL.keep {P : Loc → Sto → Prop} {Q : L2.St → Hp → Prop} (g : GoL K H P Q) (k : Keep K H H1) : GoL K H1 P Q := fun l S v H' p k' => g l S v H' p (k.trans k')
theorem GoLX.keep {E : Ex → Loc → Sto → Prop} {W : WX} (g : GoLX K H E W) (k : Keep K H H1) : GoLX K H1 E W := fun x l S v H' c d p k' => g x l S v H' c d p (k.trans k')
end
def lift (K : PySem.W.Frag) (W : WX) (q : QE) : TE := fun σ H Q => ∃ loc S P E, RL K H loc σ ∧ Rep K S H ∧ q loc S P E ∧ GoD K H P Q ∧ GoX K H σ E W
def liftT (K : PySem.W.Frag) (W : WX) (q : QT) : TT := fun σ H Q => ∃ loc S P E, RL K H loc σ ∧ Rep K S H ∧ q loc S P E ∧ GoB K H P Q ∧ GoX K H σ E W
def liftA (K : PySem.W.Frag) (W : WX) (q : QA) : TA := fun σ H Q => ∃ loc S P E, RL K H loc σ ∧ Rep K S H ∧ q loc S P E ∧ GoA K H P Q ∧ GoX K H σ E W
structure GoN (K : PySem.W.Frag) (H : Hp) (P : QN) (D : Ends) (W : WX) : Prop where
  nx : GoL K H P.nx D.nx
  rt : GoD K H P.rt D.rt
  bk : GoL K H P.bk D.bk
  ct : GoL K H P.ct D.ct
  ex : GoLX K H P.ex W
theorem GoN.keep {K : PySem.W.Frag} {H H1 : Hp} {P : QN} {D : Ends} {W : WX} (g : GoN K H P D W) (k : Keep K H H1) : GoN K H1 P D W := ⟨g.nx.keep k, g.rt.keep k, g.bk.keep k, g.ct.keep k, g.ex.keep k⟩
def liftS (K : PySem.W.Frag) (W : WX) (q : QS) : TS := fun D σ H => ∃ loc S P, RL K H loc σ ∧ Rep K S H ∧ q P loc S ∧ GoN K H P D W
/-- a def's promise -/
def liftF (K : PySem.W.Frag) (sp : QF) : Sp := fun vs H Q E => ∃ ds S P PE, RVs K H ds vs ∧ Rep K S H ∧ sp ds S P PE ∧ GoD K H P Q ∧ ∀ x S' H' c d, PE x S' → Keep K H H' → Rep K S' H' → RX K H' x c d → E c d H'

def DE (X : Cx) (e : Expr) (q : QE) : Prop := ∀ W, L2N.Takes X W → PE X e (lift X.K W q)
def DT (X : Cx) (e : Expr) (q : QT) : Prop := ∀ W, L2N.Takes X W → PT X e (liftT X.K W q)
def DW (X : Cx) (e : Expr) (q : QT) : Prop := ∀ W, L2N.Takes X W → PW X e (liftT X.K W q)
def DA (X : Cx) (es : List Expr) (q : QA) : Prop := ∀ W, L2N.Takes X W → PA X es (liftA X.K W q)
def DS (X : Cx) (st : Stmt) (q : QS) : Prop := ∀ W, L2N.Takes X W → PS X st (liftS X.K W q)
def DB (X : Cx) (st : List Stmt) (q : QS) : Prop := ∀ W, L2N.Takes X W → PSs X st (liftS X.K W q)
section
variable {X : Cx}
theorem PE.imp {e : Expr} {t t' : TE} (h : PE X e t) (i : ∀ σ H Q, t' σ H Q → t σ H Q) : PE X e t' := ⟨fun p s σ H Q I q => h.run p s σ H Q I (i _ _ _ q)⟩
theorem PT.imp {e : Expr} {t t' : TT} (h : PT X e t) (i : ∀ σ H Q, t' σ H Q → t σ H Q) : PT X e t' := ⟨fun p s σ H Q I q => h.run p s σ H Q I (i _ _ _ q)⟩
theorem PW.imp {e : Expr} {t t' : TT} (h : PW X e t) (i : ∀ σ H Q, t' σ H Q → t σ H Q) : PW X e t' := ⟨fun wh p s σ H Q I q => h.run wh p s σ H Q I (i _ _ _ q)⟩
theorem PA.imp {e : List Expr} {t t' : TA} (h : PA X e t) (i : ∀ σ H Q, t' σ H Q → t σ H Q) : PA X e t' := ⟨fun po p s σ H Q I q => h.run po p s σ H Q I (i _ _ _ q)⟩
theorem PS.imp {e : Stmt} {t t' : TS} (h : PS X e t) (i : ∀ D σ H, t' D σ H → t D σ H) : PS X e t' := ⟨fun p s σ H Q I q => h.run p s σ H Q I (i _ _ _ q)⟩
theorem PSs.imp {e : List Stmt} {t t' : TS} (h : PSs X e t) (i : ∀ D σ H, t' D σ H → t D σ H) : PSs X e t' := ⟨fun p s σ H Q I q => h.run p s σ H Q I (i _ _ _ q)⟩
end
end PL

namespace PL
open PySem PySem.Spec PyProof.Rows L2 -- the layers
section
variable {X : Cx}
theorem takes0 : L2N.Takes X (fun _ _ _ _ => False) := fun _ _ x => by
  obtain ⟨_, _, _, _, _, _, _, _, _, _, _, _, _, _, _, _, z⟩ := x
  exact z.elim

/-! ## names, constants -/
def qVar (i : Nat) : QE := fun loc S P _ => match loc[i]? with
  | some (some d) => P d S
  | _ => False
def qC (d : D) : QE := fun _ S P _ => P d S
theorem de_var (i : Nat) {x : Str} {pos : Pos} (hN : X.N[i]? = some x := by rfl) (hv : Vis X.env.scope x := by first | exact Or.inl rfl | exact Or.inr (Or.inl rfl) | exact Or.inr (Or.inr rfl)) (hd : (x == ("__debug__" : Str)) = false := by decide)
    (hcd : (x == ("__classdict__" : Str)) = false := by decide) : DE X (.Name x pos) (qVar i) := fun W _ => PE.imp (pe_var hN hv hd hcd) fun σ H Q h => by
  obtain ⟨loc, S, P, E, rl, rep, q, g, _⟩ := h
  unfold qVar at q
  split at q
  · rename_i d e
    obtain ⟨v, e1, e2⟩ := rl.at_ i d e
    exact ⟨v, e1, g d S v H q Keep.refl rep e2⟩
  · exact q.elim
/-- a value that is written -/
theorem de_const {e : Expr} {v : V} {d : D} (h : PE X e (tC v)) (r : ∀ H, RV X.K H d v) : DE X e (qC d) := fun W _ => PE.imp h fun σ H Q z => by
  obtain ⟨loc, S, P, E, rl, rep, q, g, _⟩ := z
  exact g d S v H q Keep.refl rep (r H)
theorem de_int {i j pos} : DE X (.Constant (.int i) j pos) (qC (.int i)) := de_const pe_int fun _ => by unfold RV; rfl
theorem de_bl {b j pos} : DE X (.Constant (.bool b) j pos) (qC (.bl b)) := de_const pe_bl fun _ => by unfold RV; rfl
theorem de_non {j pos} : DE X (.Constant .none j pos) (qC .non) := de_const pe_non fun _ => by unfold RV; rfl
theorem de_str {x j pos} : DE X (.Constant (.str x) j pos) (qC (.str x)) := de_const pe_str fun _ => by unfold RV; rfl
theorem de_globI {x : Str} {i : Int} {t : Tok} {pos : Pos} (hg : Gl X x) (hm : X.mg x = some (.int i t)) (hd : (x == ("__debug__" : Str)) = false := by decide) : DE X (.Name x pos) (qC (.int i)) :=
  de_const (pe_glob (v := .int i) hg hm ⟨t, rfl⟩ hd) fun _ => by unfold RV; rfl
theorem de_globS {x z : Str} {t : Tok} {pos : Pos} (hg : Gl X x) (hm : X.mg x = some (.str z t)) (hd : (x == ("__debug__" : Str)) = false := by decide) : DE X (.Name x pos) (qC (.str z)) :=
  de_const (pe_glob (v := .str z) hg hm ⟨t, rfl⟩ hd) fun _ => by unfold RV; rfl

/-! ## operations by values -/
abbrev QO := D → D → Sto → PD → Prop
def ODok (X : Cx) (f : Value → Value → Sem Value) (q : QO) : Prop :=
  ∃ r : R2, OpR X f r ∧ ∀ x y S P H vx vy Q, q x y S P → Rep X.K S H → RV X.K H x vx → RV X.K H y vy → GoD X.K H P Q → r vx vy H Q
def qBin (f : QO) (qa qb : QE) : QE := fun loc S P E => qa loc S (fun x S1 => qb loc S1 (fun y S2 => f x y S2 P) E) E
variable {a b c : Expr} {qa qb qc : QE} {pos : Pos} {W : WX} {σ : L2.St} {H : Hp}
/-- two readings in a row -/
theorem lift2 {K : PySem.W.Frag} {R : V → V → Hp → Prop} {F : D → D → Sto → Prop} {E : PX} {loc : Loc} {S : Sto} (rl : RL K H loc σ) (rep : Rep K S H) (gx : GoX K H σ E W) (q : qa loc S (fun x S1 => qb loc S1 (fun y S2 => F x y S2) E) E)
    (h : ∀ x y S' vx vy H', F x y S' → Keep K H H' → Rep K S' H' → RV K H' x vx → RV K H' y vy → R vx vy H') : lift K W qa σ H fun vx H1 => lift K W qb σ H1 fun vy H2 => R vx vy H2 := by
  refine ⟨loc, S, _, E, rl, rep, q, fun x S1 vx H1 q1 k1 rep1 r1 => ?_, gx⟩
  exact ⟨loc, S1, _, E, rl.keep k1, rep1, q1, fun y S2 vy H2 q2 k2 rep2 r2 => h x y S2 vx vy H2 q2 (k1.trans k2) rep2 (RV.keep k2 _ _ r1) r2, gx.keep k1⟩
theorem op_imp {f : Value → Value → Sem Value} {q : QO} {r : R2} (hr : ∀ x y S P H vx vy Q, q x y S P → Rep X.K S H → RV X.K H x vx → RV X.K H y vy → GoD X.K H P Q → r vx vy H Q) {σ : L2.St} {H : Hp} {Q : VK} (h : lift X.K W (qBin q qa qb) σ H Q) :
    tOp r (lift X.K W qa) (lift X.K W qb) σ H Q := by
  obtain ⟨loc, S, P, E, rl, rep, hq, g, gx⟩ := h
  exact lift2 rl rep gx hq fun x y S' vx vy H' hf k rep' rx ry => hr x y S' P H' vx vy Q hf rep' rx ry (g.keep k)
theorem de_bin {op : Operator} {q : QO} (ho : ODok X (binaryOp op) q) (ha : DE X a qa) (hb : DE X b qb) : DE X (.BinOp a op b pos) (qBin q qa qb) := fun W tk => by
  obtain ⟨r, o, hr⟩ := ho
  exact PE.imp (pe_op o (ha W tk) (hb W tk)) fun σ H Q h => op_imp (f := binaryOp op) hr h
theorem de_cmp {op : CmpOp} {q : QO} (ho : ODok X (compareOp op) q) (ha : DE X a qa) (hb : DE X b qb) (hm : behindInMarks op b = false) : DE X (.Compare a [op] [b] pos) (qBin q qa qb) := fun W tk => by
  obtain ⟨r, o, hr⟩ := ho
  exact PE.imp (pe_cmpR o (ha W tk) (hb W tk) hm) fun σ H Q h => op_imp (f := compareOp op) hr h
/-- a bool as a test's answer -/
def qTB (q : QE) : QT := fun loc S P E => q loc S (fun d S' => match d with
  | .bl b => P b S'
  | _ => False) E
theorem dt_cmp {op : CmpOp} {q : QO} (ho : ODok X (compareOp op) q) (ha : DE X a qa) (hb : DE X b qb) (hm : behindInMarks op b = false) : DT X (.Compare a [op] [b] pos) (qTB (qBin q qa qb)) := fun W tk => by
  obtain ⟨r, o, hr⟩ := ho
  refine PT.imp (pt_cmpR o (ha W tk) (hb W tk) hm) fun σ H Q h => ?_
  obtain ⟨loc, S, P, E, rl, rep, hq, g, gx⟩ := h
  refine op_imp (f := compareOp op) (q := q) (r := r) (W := W) (qa := qa) (qb := qb) hr ⟨loc, S, _, E, rl, rep, hq, fun d S' v H' p k rep' rv => ?_, gx⟩
  cases d with
  | bl b =>
    unfold RV at rv
    exact ⟨b, rv, g b S' H' p k rep'⟩
  | _ => exact (show False from p).elim
/-- a < b < c -/
def qChain (f f' : QO) (qa qb qc : QE) : QE := fun loc S P E => qa loc S (fun x S1 => qb loc S1 (fun y S2 => f x y S2 (fun z S3 => match z with
  | .bl true => qc loc S3 (fun u S4 => f' y u S4 P) E
  | .bl false => P (.bl false) S3
  | _ => False)) E) E
theorem chain_imp {f f' : Value → Value → Sem Value} {q q' : QO} {r r' : R2} (hr : ∀ x y S P H vx vy Q, q x y S P → Rep X.K S H → RV X.K H x vx → RV X.K H y vy → GoD X.K H P Q → r vx vy H Q)
    (hr' : ∀ x y S P H vx vy Q, q' x y S P → Rep X.K S H → RV X.K H x vx → RV X.K H y vy → GoD X.K H P Q → r' vx vy H Q) {σ : L2.St} {H : Hp} {Q : VK} (h : lift X.K W (qChain q q' qa qb qc) σ H Q) :
    tChain r r' (lift X.K W qa) (lift X.K W qb) (lift X.K W qc) σ H Q := by
  obtain ⟨loc, S, P, E, rl, rep, hq, g, gx⟩ := h
  unfold tChain
  refine ⟨loc, S, _, E, rl, rep, hq, fun x S1 vx H1 q1 k1 rep1 r1 => ?_, gx⟩
  refine ⟨loc, S1, _, E, rl.keep k1, rep1, q1, fun y S2 vy H2 q2 k2 rep2 r2 => ?_, gx.keep k1⟩
  refine hr x y S2 _ H2 vx vy _ q2 rep2 (RV.keep k2 _ _ r1) r2 fun z S3 vz H3 q3 k3 rep3 r3 => ?_
  cases z with
  | bl bb =>
    unfold RV at r3
    refine ⟨bb, r3, ?_⟩
    cases bb with
    | true =>
      have kk := k1.trans (k2.trans k3)
      have q3' : qc loc S3 (fun u S4 => q' y u S4 P) E := q3
      refine iteT ?_
      refine ⟨loc, S3, _, E, rl.keep kk, rep3, q3', fun u S4 vu H4 q4 k4 rep4 r4 => ?_, gx.keep kk⟩
      exact hr' y u S4 P H4 vy vu Q q4 rep4 (RV.keep (k3.trans k4) _ _ r2) r4 (g.keep (kk.trans k4))
    | false =>
      refine iteF ?_
      exact g _ S3 _ H3 q3 (k1.trans (k2.trans k3)) rep3 (by unfold RV; rfl)
  | _ => exact (show False from q3).elim
theorem de_chain {op op' : CmpOp} {q q' : QO} (ho : ODok X (compareOp op) q) (ho' : ODok X (compareOp op') q') (ha : DE X a qa) (hb : DE X b qb) (hc : DE X c qc)
    (hm : lastMarks [op, op'] [b, c] = false := by with_unfolding_all rfl) : DE X (.Compare a [op, op'] [b, c] pos) (qChain q q' qa qb qc) := fun W tk => by
  obtain ⟨r, o, hr⟩ := ho
  obtain ⟨r', o', hr'⟩ := ho'
  exact PE.imp (pe_chain o o' (ha W tk) (hb W tk) (hc W tk) hm) fun σ H Q h => chain_imp (f := compareOp op) (f' := compareOp op') hr hr' h
/-- a reading of a bool, as a test -/
theorem tb_imp {K : PySem.W.Frag} {t : TE} {q : QE} (i : ∀ σ H Q, lift K W q σ H Q → t σ H Q) {σ : L2.St} {H : Hp} {Q : Bool → Hp → Prop} (h : liftT K W (qTB q) σ H Q) : t σ H fun x H' => ∃ k, x = .bl k ∧ Q k H' := by
  obtain ⟨loc, S, P, E, rl, rep, hq, g, gx⟩ := h
  refine i _ _ _ ⟨loc, S, _, E, rl, rep, hq, fun d S' v H' p k rep' rv => ?_, gx⟩
  cases d with
  | bl b =>
    unfold RV at rv
    exact ⟨b, rv, g b S' H' p k rep'⟩
  | _ => exact (show False from p).elim
theorem dt_chain {op op' : CmpOp} {q q' : QO} (ho : ODok X (compareOp op) q) (ho' : ODok X (compareOp op') q') (ha : DE X a qa) (hb : DE X b qb) (hc : DE X c qc)
    (hm : lastMarks [op, op'] [b, c] = false := by with_unfolding_all rfl) : DT X (.Compare a [op, op'] [b, c] pos) (qTB (qChain q q' qa qb qc)) := fun W tk => by
  obtain ⟨r, o, hr⟩ := ho
  obtain ⟨r', o', hr'⟩ := ho'
  exact PT.imp (pt_chain o o' (ha W tk) (hb W tk) (hc W tk) hm) fun σ H Q h => tb_imp (fun σ H Q h => chain_imp (f := compareOp op) (f' := compareOp op') hr hr' h) h
/-- a bool's expression as a test -/
theorem dt_val {e : Expr} {q : QE} (h : DE X e q) (he : ∀ whole, isTrue e X.env whole = (do let v ← whole; standAt e.pos; holding [v] (truthy v)) := by intro _; rfl) : DT X e (qTB q) := fun W tk =>
  PT.imp (pt_val (h W tk) he) fun _ _ _ z => tb_imp (fun _ _ _ y => y) z

/-! ## truth -/
def tru (d : D) (S : Sto) (P : Bool → Sto → Prop) : Prop := match d with
  | .non => P false S
  | .bl b => P b S
  | .int i => P (i != 0) S
  | .str y => y.length ≤ sizeLine ∧ P ((y.length : Int) != 0) S
  | .tup xs => P (!xs.isEmpty) S
  | .rol xs => P (!xs.isEmpty) S
  | .ptup _ => False
  | .ref a => ∃ xs, S a = some (.lst xs) ∧ P (!xs.isEmpty) S
  | .ty _ => False
def qTru (q : QE) : QT := fun loc S P E => q loc S (fun d S' => tru d S' P) E
theorem RVs.isEmpty {K : PySem.W.Frag} {H : Hp} {ds : List D} {vs : List V} (h : RVs K H ds vs) : ds.isEmpty = vs.isEmpty := by
  have e := h.length
  cases ds <;> cases vs <;> simp_all
theorem dt_truth {e : Expr} {q : QE} (h : DE X e q) (he : ∀ whole, isTrue e X.env whole = (do let v ← whole; standAt e.pos; holding [v] (truthy v)) := by intro _; rfl) : DT X e (qTru q) := fun W tk => by
  refine PT.imp (pt_truth (h W tk) he) fun σ H Q z => ?_
  obtain ⟨loc, S, P, E, rl, rep, hq, g, gx⟩ := z
  refine ⟨loc, S, _, E, rl, rep, hq, fun d S' v H' p k rep' rv => ?_, gx⟩
  cases d with
  | non => unfold RV at rv; subst rv; exact ⟨_, rfl, g _ _ _ p k rep'⟩
  | bl b => unfold RV at rv; subst rv; exact ⟨_, rfl, g _ _ _ p k rep'⟩
  | int i => unfold RV at rv; subst rv; exact ⟨_, rfl, g _ _ _ p k rep'⟩
  | str y => unfold RV at rv; subst rv; exact ⟨_, ⟨p.1, rfl⟩, g _ _ _ p.2 k rep'⟩
  | tup xs =>
    unfold RV at rv
    obtain ⟨a, vs, e, s, r⟩ := rv
    subst e
    exact ⟨_, Or.inr (Or.inl ⟨vs, s, by rw [← r.isEmpty]⟩), g _ _ _ p k rep'⟩
  | rol xs =>
    unfold RV at rv
    obtain ⟨a, vs, e, s, r⟩ := rv
    subst e
    exact ⟨_, Or.inl ⟨vs, s.sq, by rw [← r.isEmpty]⟩, g _ _ _ p k rep'⟩
  | ref a =>
    unfold RV at rv
    subst rv
    obtain ⟨xs, e, p⟩ := p
    obtain ⟨vs, e2, r⟩ := rep' a _ e
    exact ⟨_, Or.inl ⟨vs, SqL.of e2, by rw [← r.isEmpty]⟩, g _ _ _ p k rep'⟩
  | ty n => exact (show False from p).elim
  | ptup xs => exact (show False from p).elim

/-! ## and, or, not, if -/
variable {rest : List Expr} {ta tb tc : QT}
def qAndT (t u : QT) : QT := fun loc S P E => t loc S (fun c S1 => if c = true then u loc S1 P E else P false S1) E
def qOrT (t u : QT) : QT := fun loc S P E => t loc S (fun c S1 => if c = true then P true S1 else u loc S1 P E) E
def qNotT (t : QT) : QT := fun loc S P E => t loc S (fun c S1 => P (!c) S1) E
theorem dw_pt {e : Expr} {t : QT} (h : DW X e t) : DT X e t := fun W tk => (h W tk).pt
theorem dw_and1 (ha : DT X a ta) : DW X (.BoolOp .And [a] pos) ta := fun W tk => pw_and1 (ha W tk)
theorem dw_or1 (ha : DT X a ta) : DW X (.BoolOp .Or [a] pos) ta := fun W tk => pw_or1 (ha W tk)
theorem dw_and (ha : DT X a ta) (hb : DW X (.BoolOp .And (b :: rest) pos) tb) : DW X (.BoolOp .And (a :: b :: rest) pos) (qAndT ta tb) := fun W tk => by
  refine PW.imp (pw_and (ha W tk) (hb W tk)) fun σ H Q h => ?_
  obtain ⟨loc, S, P, E, rl, rep, hq, g, gx⟩ := h
  refine ⟨loc, S, _, E, rl, rep, hq, fun c S1 H1 q1 k1 rep1 => ?_, gx⟩
  cases c with
  | true =>
    refine iteT ?_
    exact ⟨loc, S1, P, E, rl.keep k1, rep1, q1, g.keep k1, gx.keep k1⟩
  | false =>
    refine iteF ?_
    exact g _ _ _ q1 k1 rep1
theorem dw_or (ha : DT X a ta) (hb : DW X (.BoolOp .Or (b :: rest) pos) tb) : DW X (.BoolOp .Or (a :: b :: rest) pos) (qOrT ta tb) := fun W tk => by
  refine PW.imp (pw_or (ha W tk) (hb W tk)) fun σ H Q h => ?_
  obtain ⟨loc, S, P, E, rl, rep, hq, g, gx⟩ := h
  refine ⟨loc, S, _, E, rl, rep, hq, fun c S1 H1 q1 k1 rep1 => ?_, gx⟩
  cases c with
  | true =>
    refine iteT ?_
    exact g _ _ _ q1 k1 rep1
  | false =>
    refine iteF ?_
    exact ⟨loc, S1, P, E, rl.keep k1, rep1, q1, g.keep k1, gx.keep k1⟩
theorem dt_not (ha : DT X a ta) : DT X (.UnaryOp .Not a pos) (qNotT ta) := fun W tk => by
  refine PT.imp (pt_not (ha W tk)) fun σ H Q h => ?_
  obtain ⟨loc, S, P, E, rl, rep, hq, g, gx⟩ := h
  exact ⟨loc, S, _, E, rl, rep, hq, fun c S1 H1 q1 k1 rep1 => g _ _ _ q1 k1 rep1, gx⟩
def bd (d : D) (P : Bool → Prop) : Prop := match d with
  | .bl b => P b
  | _ => False
def qAnd (qa qb : QE) : QE := fun loc S P E => qa loc S (fun d S1 => bd d fun c => if c = true then qb loc S1 P E else P (.bl false) S1) E
def qOr (qa qb : QE) : QE := fun loc S P E => qa loc S (fun d S1 => bd d fun c => if c = true then P (.bl true) S1 else qb loc S1 P E) E
def qNot (qa : QE) : QE := fun loc S P E => qa loc S (fun d S1 => bd d fun c => P (.bl (!c)) S1) E
theorem bd_rv {K : PySem.W.Frag} {H : Hp} {d : D} {v : V} {P : Bool → Prop} (h : bd d P) (r : RV K H d v) : ∃ c, v = .bl c ∧ P c := by
  cases d with
  | bl b => unfold RV at r; exact ⟨b, r, h⟩
  | _ => exact (show False from h).elim
theorem de_one {op} (h : DE X a qa) : DE X (.BoolOp op [a] pos) qa := fun W tk => pe_one (h W tk)
theorem de_and (ha : DE X a qa) (hb : DE X (.BoolOp .And (b :: rest) pos) qb) : DE X (.BoolOp .And (a :: b :: rest) pos) (qAnd qa qb) := fun W tk => by
  refine PE.imp (pe_and (ha W tk) (hb W tk)) fun σ H Q h => ?_
  obtain ⟨loc, S, P, E, rl, rep, hq, g, gx⟩ := h
  refine ⟨loc, S, _, E, rl, rep, hq, fun d S1 v H1 q1 k1 rep1 r1 => ?_, gx⟩
  obtain ⟨c, e, q1⟩ := bd_rv q1 r1
  refine ⟨c, e, ?_⟩
  cases c with
  | true =>
    refine iteT ?_
    exact ⟨loc, S1, P, E, rl.keep k1, rep1, q1, g.keep k1, gx.keep k1⟩
  | false =>
    refine iteF ?_
    exact g _ _ _ _ q1 k1 rep1 (by unfold RV; rfl)
theorem de_or (ha : DE X a qa) (hb : DE X (.BoolOp .Or (b :: rest) pos) qb) : DE X (.BoolOp .Or (a :: b :: rest) pos) (qOr qa qb) := fun W tk => by
  refine PE.imp (pe_or (ha W tk) (hb W tk)) fun σ H Q h => ?_
  obtain ⟨loc, S, P, E, rl, rep, hq, g, gx⟩ := h
  refine ⟨loc, S, _, E, rl, rep, hq, fun d S1 v H1 q1 k1 rep1 r1 => ?_, gx⟩
  obtain ⟨c, e, q1⟩ := bd_rv q1 r1
  refine ⟨c, e, ?_⟩
  cases c with
  | true =>
    refine iteT ?_
    exact g _ _ _ _ q1 k1 rep1 (by unfold RV; rfl)
  | false =>
    refine iteF ?_
    exact ⟨loc, S1, P, E, rl.keep k1, rep1, q1, g.keep k1, gx.keep k1⟩
theorem de_not (ha : DE X a qa) : DE X (.UnaryOp .Not a pos) (qNot qa) := fun W tk => by
  refine PE.imp (pe_not (ha W tk)) fun σ H Q h => ?_
  obtain ⟨loc, S, P, E, rl, rep, hq, g, gx⟩ := h
  refine ⟨loc, S, _, E, rl, rep, hq, fun d S1 v H1 q1 k1 rep1 r1 => ?_, gx⟩
  obtain ⟨c, e, q1⟩ := bd_rv q1 r1
  exact ⟨c, e, g _ _ _ _ q1 k1 rep1 (by unfold RV; rfl)⟩
def qIf (t : QT) (qa qb : QE) : QE := fun loc S P E => t loc S (fun c S1 => if c = true then qa loc S1 P E else qb loc S1 P E) E
theorem de_if (hc : DT X c tc) (ha : DE X a qa) (hb : DE X b qb) : DE X (.IfExp c a b pos) (qIf tc qa qb) := fun W tk => by
  refine PE.imp (pe_ifExp (hc W tk) (ha W tk) (hb W tk)) fun σ H Q h => ?_
  obtain ⟨loc, S, P, E, rl, rep, hq, g, gx⟩ := h
  refine ⟨loc, S, _, E, rl, rep, hq, fun c S1 H1 q1 k1 rep1 => ?_, gx⟩
  cases c with
  | true =>
    refine iteT ?_
    exact ⟨loc, S1, P, E, rl.keep k1, rep1, q1, g.keep k1, gx.keep k1⟩
  | false =>
    refine iteF ?_
    exact ⟨loc, S1, P, E, rl.keep k1, rep1, q1, g.keep k1, gx.keep k1⟩

/-! ## argument lists, displays -/
def qNil : QA := fun _ S P _ => P [] S
def qCons (q : QE) (r : QA) : QA := fun loc S P E => q loc S (fun d S1 => r loc S1 (fun ds S2 => P (d :: ds) S2) E) E
variable {e : Expr} {es : List Expr} {q : QE} {qs : QA}
theorem da_nil : DA X [] qNil := fun W _ => PA.imp pa_nil fun σ H Q h => by
  obtain ⟨loc, S, P, E, rl, rep, hq, g, _⟩ := h
  exact g _ _ _ _ hq Keep.refl rep (RVs.nil_iff.mpr rfl)
theorem da_cons (ha : DE X e q) (hr : DA X es qs) (hs : starEach (e :: es) X.env = (false, eval e X.env) :: starEach es X.env := by rfl) : DA X (e :: es) (qCons q qs) := fun W tk => by
  refine PA.imp (pa_cons (ha W tk) (hr W tk) hs) fun σ H Q h => ?_
  obtain ⟨loc, S, P, E, rl, rep, hq, g, gx⟩ := h
  refine ⟨loc, S, _, E, rl, rep, hq, fun d S1 v H1 q1 k1 rep1 r1 => ?_, gx⟩
  refine ⟨loc, S1, _, E, rl.keep k1, rep1, q1, fun ds S2 vs H2 q2 k2 rep2 r2 => ?_, gx.keep k1⟩
  refine g _ _ _ _ q2 (k1.trans k2) rep2 ?_
  unfold RVs
  exact ⟨v, vs, rfl, RV.keep k2 _ _ r1, r2⟩
def qTup (qs : QA) : QE := fun loc S P E => qs loc S (fun ds S1 => ds.length ≤ sizeLine ∧ P (.tup ds) S1) E
def qLst (qs : QA) : QE := fun loc S P E => qs loc S (fun ds S1 => ds.length ≤ sizeLine ∧ ∀ p, S1 p = none → P (.ref p) (ups S1 p (.lst ds))) E
theorem rv_newT {K : PySem.W.Frag} {H : Hp} {p : Addr} {ds : List D} {vs : List V} (n : H p = none) (r : RVs K H ds vs) : RV K (upd H p (.tup vs)) (.tup ds) (.ref p) := by
  unfold RV
  exact ⟨p, vs, rfl, SqT.of upd_same, RVs.keep (Keep.new n) _ _ r⟩
theorem de_tup {x1} (h : DA X es qs) : DE X (.Tuple es x1 pos) (qTup qs) := fun W tk => by
  refine PE.imp (pe_tup (h W tk)) fun σ H Q z => ?_
  obtain ⟨loc, S, P, E, rl, rep, hq, g, gx⟩ := z
  refine ⟨loc, S, _, E, rl, rep, hq, fun ds S1 vs H1 q1 k1 rep1 r1 => ?_, gx⟩
  refine ⟨by rw [← r1.length]; exact q1.1, fun p n => ?_⟩
  exact g _ _ _ _ q1.2 (k1.trans (Keep.new n)) (rep1.same (same_new n)) (rv_newT n r1)
theorem de_lst (h : DA X es qs) : DE X (.List es pos) (qLst qs) := fun W tk => by
  refine PE.imp (pe_lst (h W tk)) fun σ H Q z => ?_
  obtain ⟨loc, S, P, E, rl, rep, hq, g, gx⟩ := z
  refine ⟨loc, S, _, E, rl, rep, hq, fun ds S1 vs H1 q1 k1 rep1 r1 => ?_, gx⟩
  refine ⟨by rw [← r1.length]; exact q1.1, fun p n => ?_⟩
  exact g _ _ _ _ (q1.2 p (rep1.free n)) (k1.trans (Keep.new n)) (rep1.newL n r1) (by unfold RV; rfl)
/-- what is known may be forgotten -/
def qDrop (q : QE) : QE := fun loc S P E => q loc S (fun d S' => ∃ S2, Sub S2 S' ∧ P d S2) E
theorem de_drop (h : DE X e q) : DE X e (qDrop q) := fun W tk => PE.imp (h W tk) fun σ H Q z => by
  obtain ⟨loc, S, P, E, rl, rep, hq, g, gx⟩ := z
  exact ⟨loc, S, _, E, rl, rep, hq, fun d S' v H' ⟨S2, s, p⟩ k rep' rv => g d S2 v H' p k (rep'.sub s) rv, gx⟩
end
end PL

namespace PL
open PySem PySem.Spec PyProof.Rows L2 -- the layers
section
variable {X : Cx}

/-! ## a list by its value or its address -/
def LsAt (S : Sto) (d : D) (xs : List D) : Prop := d = .rol xs ∨ ∃ a, d = .ref a ∧ S a = some (.lst xs)
theorem LsAt.sq {K : PySem.W.Frag} {S : Sto} {H : Hp} {d : D} {xs : List D} {v : V} (h : LsAt S d xs) (rep : Rep K S H) (r : RV K H d v) : ∃ a vs, v = .ref a ∧ SqL K H a vs ∧ RVs K H xs vs := by
  rcases h with h | ⟨a, h, e⟩
  · subst h
    unfold RV at r
    obtain ⟨a, vs, e, s, q⟩ := r
    exact ⟨a, vs, e, s.sq, q⟩
  · subst h
    unfold RV at r
    obtain ⟨vs, e2, q⟩ := rep a _ e
    exact ⟨a, vs, r, SqL.of e2, q⟩

/-! ## + - * // % ** on ints, + on texts, tuples, lists -/
theorem rv_int {K : PySem.W.Frag} {H : Hp} {i : Int} {v : V} (r : RV K H (.int i) v) : v = .int i := by unfold RV at r; exact r
theorem rv_str {K : PySem.W.Frag} {H : Hp} {i : Str} {v : V} (r : RV K H (.str i) v) : v = .str i := by unfold RV at r; exact r
theorem rv_bl {K : PySem.W.Frag} {H : Hp} {i : Bool} {v : V} (r : RV K H (.bl i) v) : v = .bl i := by unfold RV at r; exact r
theorem rv_ref {K : PySem.W.Frag} {H : Hp} {i : Addr} {v : V} (r : RV K H (.ref i) v) : v = .ref i := by unfold RV at r; exact r
theorem rv_non {K : PySem.W.Frag} {H : Hp} {v : V} (r : RV K H .non v) : v = .non := by unfold RV at r; exact r
theorem rv_tup {K : PySem.W.Frag} {H : Hp} {ds : List D} {v : V} (r : RV K H (.tup ds) v) : ∃ a vs, v = .ref a ∧ SqT K H a vs ∧ RVs K H ds vs := by unfold RV at r; exact r
theorem rv_ofI {K : PySem.W.Frag} {H : Hp} {i : Int} : RV K H (.int i) (.int i) := by unfold RV; rfl
theorem rv_ofS {K : PySem.W.Frag} {H : Hp} {i : Str} : RV K H (.str i) (.str i) := by unfold RV; rfl
theorem rv_ofB {K : PySem.W.Frag} {H : Hp} {i : Bool} : RV K H (.bl i) (.bl i) := by unfold RV; rfl
theorem rv_ofR {K : PySem.W.Frag} {H : Hp} {i : Addr} : RV K H (.ref i) (.ref i) := by unfold RV; rfl
theorem rv_ofN {K : PySem.W.Frag} {H : Hp} : RV K H .non .non := by unfold RV; rfl
theorem GoD.now {K : PySem.W.Frag} {H : Hp} {P : PD} {Q : VK} (g : GoD K H P Q) {d : D} {S : Sto} {v : V} (p : P d S) (rep : Rep K S H) (r : RV K H d v) : Q v H := g d S v H p Keep.refl rep r

/-- two ints in, under C -/
def oI (C : Int → Int → Prop) (f : Int → Int → D) : QO := fun x y S P => match x, y with
  | .int i, .int j => C i j ∧ P (f i j) S
  | _, _ => False
theorem oI_inv {C : Int → Int → Prop} {f : Int → Int → D} {x y : D} {S : Sto} {P : PD} (h : oI C f x y S P) : ∃ i j, x = .int i ∧ y = .int j ∧ C i j ∧ P (f i j) S := by
  cases x <;> cases y <;> first | exact (show False from h).elim | exact ⟨_, _, rfl, rfl, h⟩
theorem od_I {f : Value → Value → Sem Value} {C : Int → Int → Prop} {g : Int → Int → V} {g' : Int → Int → D} (h : OpR X f (rI C g)) (e : ∀ K H i j, RV K H (g' i j) (g i j)) : ODok X f (oI C g') := by
  refine ⟨_, h, fun x y S P H vx vy Q q rep rx ry go => ?_⟩
  obtain ⟨i, j, rfl, rfl, c, p⟩ := oI_inv q
  exact ⟨i, j, rv_int rx, rv_int ry, c, go.now p rep (e _ _ _ _)⟩
theorem op_rI0 {f : Value → Value → Sem Value} {g : Int → Int → V} (h : OpR X f (rI0 g)) : OpR X f (rI (fun _ _ => True) g) := fun pins s σ H x y v u Q I rx ry z => by
  obtain ⟨i, j, e1, e2, _, q⟩ := z
  exact h pins s σ H x y v u Q I rx ry ⟨i, j, e1, e2, q⟩
theorem ODok.or {f : Value → Value → Sem Value} {q q' : QO} (h : ODok X f q) (h' : ODok X f q') : ODok X f (fun x y S P => q x y S P ∨ q' x y S P) := by
  obtain ⟨r, o, a⟩ := h
  obtain ⟨r', o', a'⟩ := h'
  refine ⟨_, o.or o', fun x y S P H vx vy Q z rep rx ry go => ?_⟩
  rcases z with z | z
  · exact .inl (a x y S P H vx vy Q z rep rx ry go)
  · exact .inr (a' x y S P H vx vy Q z rep rx ry go)
theorem ODok.imp {f : Value → Value → Sem Value} {q q' : QO} (h : ODok X f q) (i : ∀ x y S P, q' x y S P → q x y S P) : ODok X f q' := by
  obtain ⟨r, o, a⟩ := h
  exact ⟨r, o, fun x y S P H vx vy Q z rep rx ry go => a x y S P H vx vy Q (i _ _ _ _ z) rep rx ry go⟩
def oSub : QO := oI (fun _ _ => True) fun i j => .int (i - j)
def oMul : QO := oI IntMulOk fun i j => .int (i * j)
def CDivA (_ j : Int) : Prop := j ≠ 0 ∧ j.natAbs.log2 < 9000
def oDiv : QO := oI CDivA fun i j => .int (i.fdiv j)
def oMod : QO := oI (fun _ j => j ≠ 0) fun i j => .int (i.fmod j)
def oPow : QO := oI CPow fun i j => .int (i ^ j.toNat)
theorem od_sub : ODok X (binaryOp .Sub) oSub := od_I (op_rI0 op_sub) fun _ _ _ _ => rv_ofI
theorem od_mul : ODok X (binaryOp .Mult) oMul := od_I (g := fun i j => .int (i * j)) (opI fun _ _ _ _ _ _ _ hc q => mul_int q hc) fun _ _ _ _ => rv_ofI
theorem od_div : ODok X (binaryOp .FloorDiv) oDiv := od_I (g := fun i j => .int (i.fdiv j)) (opI fun _ _ _ _ _ _ _ hc q => floordiv_int hc.1 q (.inl (PyProof.noPylong_of_log2 hc.2))) fun _ _ _ _ => rv_ofI
theorem od_mod : ODok X (binaryOp .Mod) oMod := od_I op_modN fun _ _ _ _ => rv_ofI
theorem od_pow : ODok X (binaryOp .Pow) oPow := od_I op_pow fun _ _ _ _ => rv_ofI
def oAdd : QO := fun x y S P => match x, y with
  | .int i, .int j => P (.int (i + j)) S
  | .str i, .str j => i.length + j.length ≤ sizeLine ∧ P (.str (i ++ j)) S
  | .tup i, .tup j => i.length + j.length ≤ sizeLine ∧ P (.tup (i ++ j)) S
  | .ref i, .ref j => ∃ xs ys, S i = some (.lst xs) ∧ S j = some (.lst ys) ∧ xs.length + ys.length ≤ sizeLine ∧ ∀ p, S p = none → P (.ref p) (ups S p (.lst (xs ++ ys)))
  | _, _ => False
theorem od_add : ODok X (binaryOp .Add) oAdd := by
  refine ⟨_, (op_add.or op_add_str).or (op_catA.or op_cat), fun x y S P H vx vy Q q rep rx ry go => ?_⟩
  cases x <;> cases y <;> first | exact (show False from q).elim | skip
  · exact .inl (.inl ⟨_, _, rv_int rx, rv_int ry, go.now q rep rv_ofI⟩)
  · exact .inl (.inr ⟨_, _, rv_str rx, rv_str ry, q.1, go.now q.2 rep rv_ofS⟩)
  · rename_i as bs
    obtain ⟨a, vs, e1, s1, r1⟩ := rv_tup rx
    obtain ⟨b, ws, e2, s2, r2⟩ := rv_tup ry
    refine .inr (.inl ⟨a, b, vs, ws, e1, e2, s1, s2, by rw [← r1.length, ← r2.length]; exact q.1, ?_⟩)
    refine ⟨fun h0 => ?_, fun _ h0 => ?_, fun _ _ p n => ?_⟩
    · subst h0
      have e : as = [] := List.eq_nil_of_length_eq_zero (by rw [r1.length]; rfl)
      subst e
      exact go.now q.2 rep (by unfold RV; exact ⟨b, ws, rfl, s2, r2⟩)
    · subst h0
      have e : bs = [] := List.eq_nil_of_length_eq_zero (by rw [r2.length]; rfl)
      subst e
      refine go.now q.2 rep ?_
      rw [List.append_nil]
      unfold RV
      exact ⟨a, vs, rfl, s1, r1⟩
    · exact go _ _ _ _ q.2 (Keep.new n) (rep.same (same_new n)) (rv_newT n (r1.append r2))
  · rename_i a b
    obtain ⟨xs, ys, e1, e2, hz, h⟩ := q
    obtain ⟨vs, f1, r1⟩ := rep _ _ e1
    obtain ⟨ws, f2, r2⟩ := rep _ _ e2
    refine .inr (.inr ⟨a, b, vs, ws, rv_ref rx, rv_ref ry, f1, f2, by rw [← r1.length, ← r2.length]; exact hz, fun p n => ?_⟩)
    exact go _ _ _ _ (h p (rep.free n)) (Keep.new n) (rep.newL n (r1.append r2)) rv_ofR


/-! ## data, for == and repr -/
mutual
inductive Dat (S : Sto) : D → PyData → Prop
  | non : Dat S .non .none
  | bl (b : Bool) : Dat S (.bl b) (.bool b)
  | int (i : Int) : Dat S (.int i) (.int i)
  | str (x : Str) : Dat S (.str x) (.str x)
  | tup {ds : List D} {ps : List PyData} : Dats S ds ps → Dat S (.tup ds) (.tuple ps)
  | rol {ds : List D} {ps : List PyData} : Dats S ds ps → Dat S (.rol ds) (.list ps)
  | lst {a : Addr} {ds : List D} {ps : List PyData} : S a = some (.lst ds) → Dats S ds ps → Dat S (.ref a) (.list ps)
inductive Dats (S : Sto) : List D → List PyData → Prop
  | nil : Dats S [] []
  | cons {d : D} {ds : List D} {p : PyData} {ps : List PyData} : Dat S d p → Dats S ds ps → Dats S (d :: ds) (p :: ps)
end
mutual
theorem Dat.dp {K : PySem.W.Frag} {S : Sto} {H : Hp} (rep : Rep K S H) : ∀ (p : PyData) (d : D) (v : V), Dat S d p → RV K H d v → Dp K H v p
  | .none, _, v, h, r => by
    cases h
    rw [rv_non r]
    exact .non
  | .bool b, _, v, h, r => by
    cases h
    rw [rv_bl r]
    exact .bl b
  | .int i, _, v, h, r => by
    cases h
    rw [rv_int r]
    exact .int i
  | .str x, _, v, h, r => by
    cases h
    rw [rv_str r]
    exact .str x
  | .tuple ps, _, v, h, r => by
    cases h with
    | tup hs =>
      obtain ⟨a, vs, e, s, q⟩ := rv_tup r
      subst e
      exact .tup s (Dats.dp rep ps _ vs hs q)
  | .list ps, _, v, h, r => by
    cases h with
    | rol hs =>
      unfold RV at r
      obtain ⟨a, vs, e, s, q⟩ := r
      subst e
      exact .lst s.sq (Dats.dp rep ps _ vs hs q)
    | lst e hs =>
      rw [rv_ref r]
      obtain ⟨vs, e2, q⟩ := rep _ _ e
      exact .lst (SqL.of e2) (Dats.dp rep ps _ vs hs q)
  | .dict _, _, _, h, _ => by cases h
theorem Dats.dp {K : PySem.W.Frag} {S : Sto} {H : Hp} (rep : Rep K S H) : ∀ (ps : List PyData) (ds : List D) (vs : List V), Dats S ds ps → RVs K H ds vs → DpAll K H vs ps
  | [], _, vs, h, r => by
    cases h
    rw [RVs.nil_iff.mp r]
    exact .nil
  | p :: ps, _, vs, h, r => by
    cases h with
    | cons h1 h2 =>
      unfold RVs at r
      obtain ⟨v, w, e, r1, r2⟩ := r
      subst e
      exact .cons (Dat.dp rep p _ v h1 r1) (Dats.dp rep ps _ w h2 r2)
end
mutual
theorem Dat.sub {S S' : Sto} (s : Sub S S') : ∀ (p : PyData) (d : D), Dat S d p → Dat S' d p
  | .none, _, h => by cases h; exact .non
  | .bool b, _, h => by cases h; exact .bl b
  | .int i, _, h => by cases h; exact .int i
  | .str x, _, h => by cases h; exact .str x
  | .tuple ps, _, h => by
    cases h with
    | tup hs => exact .tup (Dats.sub s ps _ hs)
  | .list ps, _, h => by
    cases h with
    | rol hs => exact .rol (Dats.sub s ps _ hs)
    | lst e hs => exact .lst (s _ _ e) (Dats.sub s ps _ hs)
  | .dict _, _, h => by cases h
theorem Dats.sub {S S' : Sto} (s : Sub S S') : ∀ (ps : List PyData) (ds : List D), Dats S ds ps → Dats S' ds ps
  | [], _, h => by cases h; exact .nil
  | p :: ps, _, h => by
    cases h with
    | cons h1 h2 => exact .cons (Dat.sub s p _ h1) (Dats.sub s ps _ h2)
end
/- data of tuples alone -/
mutual
def pyD : D → PyData
  | .non => .none
  | .bl b => .bool b
  | .int i => .int i
  | .str x => .str x
  | .tup ds => .tuple (pyDs ds)
  | .rol ds => .list (pyDs ds)
  | .ptup _ => .none
  | .ref _ => .none
  | .ty _ => .none
def pyDs : List D → List PyData
  | [] => []
  | d :: ds => pyD d :: pyDs ds
end
mutual
def pureD : D → Bool
  | .tup ds => pureDs ds
  | .rol ds => pureDs ds
  | .ptup _ => false
  | .ref _ => false
  | .ty _ => false
  | _ => true
def pureDs : List D → Bool
  | [] => true
  | d :: ds => pureD d && pureDs ds
end
mutual
theorem Dat.pure {S : Sto} : ∀ (d : D), pureD d = true → Dat S d (pyD d)
  | .non, _ => by unfold pyD; exact .non
  | .bl b, _ => by unfold pyD; exact .bl b
  | .int i, _ => by unfold pyD; exact .int i
  | .str x, _ => by unfold pyD; exact .str x
  | .tup ds, h => by
    unfold pyD
    unfold pureD at h
    exact .tup (Dats.pure ds h)
  | .rol ds, h => by
    unfold pyD
    unfold pureD at h
    exact .rol (Dats.pure ds h)
  | .ptup _, h => by unfold pureD at h; cases h
  | .ref _, h => by unfold pureD at h; cases h
  | .ty _, h => by unfold pureD at h; cases h
theorem Dats.pure {S : Sto} : ∀ (ds : List D), pureDs ds = true → Dats S ds (pyDs ds)
  | [], _ => by unfold pyDs; exact .nil
  | d :: ds, h => by
    unfold pyDs
    unfold pureDs at h
    obtain ⟨h1, h2⟩ := Bool.and_eq_true_iff.mp h
    exact .cons (Dat.pure d h1) (Dats.pure ds h2)
end

/-! ## comparisons -/
/-- two alike scalars, else data -/
def oEqW (k : Bool → Bool) : QO := fun x y S P => match x, y with
  | .int i, .int j => P (.bl (k (decide (i = j)))) S
  | .str i, .str j => P (.bl (k (decide (i = j)))) S
  | .bl i, .bl j => P (.bl (k (decide (i = j)))) S
  | x, y => ∃ a b, Dat S x a ∧ Dat S y b ∧ SeqAt.shaped a = true ∧ SeqAt.shaped b = true ∧ P (.bl (k (PyData.eqv a b))) S
def oEq : QO := oEqW id
def oNe : QO := oEqW not
theorem dec_V_int {i j : Int} : decide (V.int i = V.int j) = decide (i = j) := by rw [dec_int, Bool.beq_eq_decide_eq]
theorem dec_V_str {i j : Str} : decide (V.str i = V.str j) = decide (i = j) := by rw [dec_str, Bool.beq_eq_decide_eq]
theorem dec_V_bl {i j : Bool} : decide (V.bl i = V.bl j) = decide (i = j) := by rw [dec_bl, Bool.beq_eq_decide_eq]
theorem oEqW_inv {k : Bool → Bool} {x y : D} {S : Sto} {P : PD} (h : oEqW k x y S P) : (∃ vx vy, scal vx vy = true ∧ (∀ K H v, RV K H x v → v = vx) ∧ (∀ K H v, RV K H y v → v = vy) ∧ P (.bl (k (decide (vx = vy)))) S) ∨
    ∃ a b, Dat S x a ∧ Dat S y b ∧ SeqAt.shaped a = true ∧ SeqAt.shaped b = true ∧ P (.bl (k (PyData.eqv a b))) S := by
  unfold oEqW at h
  split at h
  · exact .inl ⟨_, _, rfl, fun _ _ _ r => rv_int r, fun _ _ _ r => rv_int r, by rw [dec_V_int]; exact h⟩
  · exact .inl ⟨_, _, rfl, fun _ _ _ r => rv_str r, fun _ _ _ r => rv_str r, by rw [dec_V_str]; exact h⟩
  · exact .inl ⟨_, _, rfl, fun _ _ _ r => rv_bl r, fun _ _ _ r => rv_bl r, by rw [dec_V_bl]; exact h⟩
  · exact .inr h
theorem od_eq (hu : X.A.units + 64 < cLine) : ODok X (compareOp .Eq) oEq := by
  refine ⟨_, op_eq.or (op_eqD hu), fun x y S P H vx vy Q q rep rx ry go => ?_⟩
  rcases oEqW_inv q with ⟨a, b, sc, ha, hb, p⟩ | ⟨a, b, da, db, s1, s2, p⟩
  · rw [ha _ _ _ rx, hb _ _ _ ry]
    exact .inl ⟨sc, go.now p rep rv_ofB⟩
  · exact .inr ⟨a, b, Dat.dp rep _ _ _ da rx, Dat.dp rep _ _ _ db ry, s1, s2, go.now p rep rv_ofB⟩
theorem od_ne (hu : X.A.units + 64 < cLine) : ODok X (compareOp .NotEq) oNe := by
  refine ⟨_, op_ne.or (op_neD hu), fun x y S P H vx vy Q q rep rx ry go => ?_⟩
  rcases oEqW_inv q with ⟨a, b, sc, ha, hb, p⟩ | ⟨a, b, da, db, s1, s2, p⟩
  · rw [ha _ _ _ rx, hb _ _ _ ry]
    exact .inl ⟨sc, go.now p rep rv_ofB⟩
  · exact .inr ⟨a, b, Dat.dp rep _ _ _ da rx, Dat.dp rep _ _ _ db ry, s1, s2, go.now p rep rv_ofB⟩
/-- < and its kin, of ints, of texts -/
def oOrd (f : Int → Int → Bool) (g : List Nat → List Nat → Bool) : QO := fun x y S P => match x, y with
  | .int i, .int j => P (.bl (f i j)) S
  | .str i, .str j => P (.bl (g i.cps.toList j.cps.toList)) S
  | _, _ => False
def oLt : QO := oOrd (fun i j => decide (i < j)) fun i j => decide (i < j)
def oLe : QO := oOrd (fun i j => decide (i ≤ j)) fun i j => !decide (j < i)
def oGt : QO := oOrd (fun i j => decide (j < i)) fun i j => decide (j < i)
def oGe : QO := oOrd (fun i j => decide (j ≤ i)) fun i j => !decide (i < j)
theorem od_ord {f : Value → Value → Sem Value} {g : Int → Int → Bool} {h : List Nat → List Nat → Bool} (a : OpR X f (rI0 fun i j => .bl (g i j))) (b : OpR X f (fun x y H Q => ∃ i j, x = .str i ∧ y = .str j ∧ Q (.bl (h i.cps.toList j.cps.toList)) H)) : ODok X f (oOrd g h) := by
  refine ⟨_, a.or b, fun x y S P H vx vy Q q rep rx ry go => ?_⟩
  cases x <;> cases y <;> first | exact (show False from q).elim | skip
  · exact .inl ⟨_, _, rv_int rx, rv_int ry, go.now q rep rv_ofB⟩
  · exact .inr ⟨_, _, rv_str rx, rv_str ry, go.now q rep rv_ofB⟩
theorem od_lt : ODok X (compareOp .Lt) oLt := od_ord op_lt op_lt_str
theorem od_le : ODok X (compareOp .LtE) oLe := od_ord op_le op_le_str
theorem od_gt : ODok X (compareOp .Gt) oGt := od_ord op_gt op_gt_str
theorem od_ge : ODok X (compareOp .GtE) oGe := od_ord op_ge op_ge_str
/-- x in a list of data -/
def oInL (k : Bool → Bool) : QO := fun x y S P => ∃ a ds, Dat S x a ∧ Dat S y (.list ds) ∧ SeqAt.shaped a = true ∧ SeqAt.shaped (.list ds) = true ∧ P (.bl (k (ds.any fun z => PyData.eqv z a))) S
theorem od_inL (hu : X.A.units + 65 < cLine) : ODok X (compareOp .In) (oInL id) := by
  refine ⟨_, op_inD hu, fun x y S P H vx vy Q q rep rx ry go => ?_⟩
  obtain ⟨a, ds, h1, h2, h3, h4, p⟩ := q
  exact ⟨a, ds, Dat.dp rep _ _ _ h1 rx, Dat.dp rep _ _ _ h2 ry, h3, h4, go.now p rep rv_ofB⟩
theorem od_notInL (hu : X.A.units + 65 < cLine) : ODok X (compareOp .NotIn) (oInL not) := by
  refine ⟨_, op_notInD hu, fun x y S P H vx vy Q q rep rx ry go => ?_⟩
  obtain ⟨a, ds, h1, h2, h3, h4, p⟩ := q
  exact ⟨a, ds, Dat.dp rep _ _ _ h1 rx, Dat.dp rep _ _ _ h2 ry, h3, h4, go.now p rep rv_ofB⟩

/-! ## -x -/
def qNeg (q : QE) : QE := fun loc S P E => q loc S (fun d S1 => match d with
  | .int i => P (.int (-i)) S1
  | _ => False) E
theorem de_neg {a : Expr} {qa : QE} {pos : Pos} (ha : DE X a qa) : DE X (.UnaryOp .USub a pos) (qNeg qa) := fun W tk => by
  refine PE.imp (pe_un un_neg (ha W tk)) fun σ H Q h => ?_
  obtain ⟨loc, S, P, E, rl, rep, hq, g, gx⟩ := h
  refine ⟨loc, S, _, E, rl, rep, hq, fun d S1 v H1 q1 k1 rep1 r1 => ?_, gx⟩
  cases d with
  | int i => exact ⟨i, rv_int r1, g _ _ _ _ q1 k1 rep1 rv_ofI⟩
  | _ => exact (show False from q1).elim

/-! ## x[i], x[i:j] -/
/-- the item of a sequence -/
def oIx : QO := fun x y S P => match x, y with
  | .tup xs, .int i => ∃ d, atI xs i = some d ∧ P d S
  | .rol xs, .int i => ∃ d, atI xs i = some d ∧ P d S
  | .ptup xs, .int i => ∃ d, atI xs i = some d ∧ P d S
  | .ref a, .int i => ∃ xs d, S a = some (.lst xs) ∧ atI xs i = some d ∧ P d S
  | .str z, .int i => z.length ≤ sizeLine ∧ ∃ c, atI z.cps.toList i = some c ∧ P (.str ⟨#[c]⟩) S
  | _, _ => False
theorem RVs.atI {K : PySem.W.Frag} {H : Hp} {ds : List D} {vs : List V} {i : Int} {d : D} (r : RVs K H ds vs) (h : atI ds i = some d) : ∃ v, L2.atI vs i = some v ∧ RV K H d v := by
  unfold L2.atI at h ⊢
  cases e : ixN ds.length i with
  | none => rw [e] at h; cases h
  | some j =>
    rw [e] at h
    obtain ⟨v, e1, e2⟩ := RVs.get r (i := j) h
    exact ⟨v, by rw [← r.length, e]; exact e1, e2⟩
theorem de_ix {a b : Expr} {qa qb : QE} {pos : Pos} (ha : DE X a qa) (hb : DE X b qb) (hs : PlainIx b := by exact fun _ _ => rfl) : DE X (.Subscript a b pos) (qBin oIx qa qb) := fun W tk => by
  refine PE.imp (pe_ix ix_seq (ha W tk) (hb W tk) hs) fun σ H Q h => ?_
  obtain ⟨loc, S, P, E, rl, rep, hq, g, gx⟩ := h
  refine lift2 rl rep gx hq fun x y S' vx vy H' hf k rep' rx ry => ?_
  cases x <;> cases y <;> first | exact (show False from hf).elim | skip
  · obtain ⟨h1, c, h2, p⟩ := hf
    exact .inr (.inr ⟨_, _, c, rv_str rx, rv_int ry, h1, h2, g _ _ _ _ p k rep' rv_ofS⟩)
  · obtain ⟨d, h1, p⟩ := hf
    obtain ⟨q, vs, e, s, r⟩ := rv_tup rx
    obtain ⟨v, h2, rv⟩ := RVs.atI r h1
    exact .inr (.inl ⟨q, vs, _, v, e, rv_int ry, s, h2, g _ _ _ _ p k rep' rv⟩)
  · obtain ⟨d, h1, p⟩ := hf
    unfold RV at rx
    obtain ⟨q, vs, e, s, r⟩ := rx
    obtain ⟨v, h2, rv⟩ := RVs.atI r h1
    exact .inl ⟨q, vs, _, v, e, rv_int ry, s.sq, h2, g _ _ _ _ p k rep' rv⟩
  · obtain ⟨d, h1, p⟩ := hf
    unfold RV at rx
    obtain ⟨q, vs, e, ⟨o, s, _⟩, r⟩ := rx
    obtain ⟨v, h2, rv⟩ := RVs.atI r h1
    exact .inr (.inl ⟨q, vs, _, v, e, rv_int ry, .inl (.inr ⟨o, s⟩), h2, g _ _ _ _ p k rep' rv⟩)
  · obtain ⟨xs, d, h0, h1, p⟩ := hf
    obtain ⟨vs, s, r⟩ := rep' _ _ h0
    obtain ⟨v, h2, rv⟩ := RVs.atI r h1
    exact .inl ⟨_, vs, _, v, rv_ref rx, rv_int ry, SqL.of s, h2, g _ _ _ _ p k rep' rv⟩
abbrev QO1 := Loc → Sto → (Option Int → Sto → Prop) → PX → Prop
def liftO (K : PySem.W.Frag) (W : WX) (q : QO1) : TO := fun σ H Q => ∃ loc S P E, RL K H loc σ ∧ Rep K S H ∧ q loc S P E ∧ (∀ o S' H', P o S' → Keep K H H' → Rep K S' H' → Q o H') ∧ GoX K H σ E W
def DO (X : Cx) (e : Option Expr) (q : QO1) : Prop := ∀ W, L2N.Takes X W → PO X e (liftO X.K W q)
def qNo : QO1 := fun _ S P _ => P none S
def qPart (q : QE) : QO1 := fun loc S P E => q loc S (fun d S1 => match d with
  | .int i => P (some i) S1
  | _ => False) E
theorem PO.imp {e : Option Expr} {t t' : TO} (h : PO X e t) (i : ∀ σ H Q, t' σ H Q → t σ H Q) : PO X e t' := ⟨fun p s σ H Q I q => h.run p s σ H Q I (i _ _ _ q)⟩
theorem do_none : DO X none qNo := fun W _ => PO.imp po_none fun σ H Q h => by
  obtain ⟨loc, S, P, E, rl, rep, hq, g, _⟩ := h
  exact g _ _ _ hq Keep.refl rep
theorem do_some {e : Expr} {q : QE} (h : DE X e q) : DO X (some e) (qPart q) := fun W tk => PO.imp (po_some (h W tk)) fun σ H Q z => by
  obtain ⟨loc, S, P, E, rl, rep, hq, g, gx⟩ := z
  refine ⟨loc, S, _, E, rl, rep, hq, fun d S1 v H1 q1 k1 rep1 r1 => ?_, gx⟩
  cases d with
  | int i => exact ⟨i, rv_int r1, g _ _ _ q1 k1 rep1⟩
  | _ => exact (show False from q1).elim
def cutL {α : Type} (xs : List α) (lo hi : Option Int) : List α := (xs.drop (HT.sIx xs.length 0 lo)).take (HT.sIx xs.length xs.length hi - HT.sIx xs.length 0 lo)
theorem RVs.cut {K : PySem.W.Frag} {H : Hp} {ds : List D} {vs : List V} (r : RVs K H ds vs) (lo hi : Option Int) : RVs K H (cutL ds lo hi) (cutV vs lo hi) := by
  unfold cutL cutV
  rw [r.length]
  exact RVs.take _ (RVs.drop _ r)
theorem cutL_all {α : Type} {xs : List α} {lo hi : Option Int} (h : HT.sIx xs.length 0 lo = 0 ∧ HT.sIx xs.length xs.length hi = xs.length) : cutL xs lo hi = xs := by
  unfold cutL
  rw [h.1, h.2]
  simp
def oSl (x : D) (lo hi : Option Int) (S : Sto) (P : PD) : Prop := match x with
  | .tup xs => P (.tup (cutL xs lo hi)) S
  | .rol xs => ∀ p, S p = none → P (.ref p) (ups S p (.lst (cutL xs lo hi)))
  | .ref a => ∃ xs, S a = some (.lst xs) ∧ ∀ p, S p = none → P (.ref p) (ups S p (.lst (cutL xs lo hi)))
  | .str z => z.length ≤ sizeLine ∧ P (.str (cutS z lo hi)) S
  | _ => False
def qSl (q : QE) (l h : QO1) : QE := fun loc S P E => q loc S (fun x S1 => l loc S1 (fun lo S2 => h loc S2 (fun hi S3 => oSl x lo hi S3 P) E) E) E
theorem de_sl {e : Expr} {lo hi : Option Expr} {q : QE} {l h : QO1} {pos p2 : Pos} (he : DE X e q) (hl : DO X lo l) (hh : DO X hi h) : DE X (.Subscript e (.Slice lo hi none p2) pos) (qSl q l h) := fun W tk => by
  refine PE.imp (pe_slice (sl_list.or (sl_tupA.or sl_str)) (he W tk) (hl W tk) (hh W tk)) fun σ H Q z => ?_
  obtain ⟨loc, S, P, E, rl, rep, hq, g, gx⟩ := z
  refine ⟨loc, S, _, E, rl, rep, hq, fun x S1 vx H1 q1 k1 rep1 r1 => ?_, gx⟩
  refine ⟨loc, S1, _, E, rl.keep k1, rep1, q1, fun lo S2 H2 q2 k2 rep2 => ?_, gx.keep k1⟩
  refine ⟨loc, S2, _, E, rl.keep (k1.trans k2), rep2, q2, fun hi S3 H3 q3 k3 rep3 => ?_, gx.keep (k1.trans k2)⟩
  have kk := k1.trans (k2.trans k3)
  have r3 := RV.keep (k2.trans k3) _ _ r1
  have alloc : ∀ xs vs, (∀ p, S3 p = none → P (.ref p) (ups S3 p (.lst (cutL xs lo hi)))) → RVs X.K H3 xs vs → ∀ p, H3 p = none → Q (.ref p) (upd H3 p (.lst (cutV vs lo hi))) := fun xs vs hp r p n =>
    g _ _ _ _ (hp p (rep3.free n)) (kk.trans (Keep.new n)) (rep3.newL n (r.cut lo hi)) rv_ofR
  cases x with
  | tup xs =>
    obtain ⟨a, vs, e, s, r⟩ := rv_tup r3
    refine .inr (.inl ⟨a, vs, e, s, fun hw => ?_, fun _ p n => ?_⟩)
    · refine g _ _ _ _ q3 kk rep3 ?_
      rw [← r.length] at hw
      rw [cutL_all hw]
      unfold RV
      exact ⟨a, vs, rfl, s, r⟩
    · exact g _ _ _ _ q3 (kk.trans (Keep.new n)) (rep3.same (same_new n)) (rv_newT n (r.cut lo hi))
  | rol xs =>
    unfold RV at r3
    obtain ⟨a, vs, e, s, r⟩ := r3
    exact .inl ⟨a, vs, e, s.sq, alloc xs vs q3 r⟩
  | ref a =>
    obtain ⟨xs, e, hp⟩ := q3
    obtain ⟨vs, s, r⟩ := rep3 _ _ e
    exact .inl ⟨a, vs, rv_ref r3, SqL.of s, alloc xs vs hp r⟩
  | str z => exact .inr (.inr ⟨z, rv_str r3, q3.1, g _ _ _ _ q3.2 kk rep3 rv_ofS⟩)
  | _ => exact (show False from q3).elim
end
end PL

namespace PL
open PySem PySem.Spec PyProof.Rows L2 -- the layers
section
variable {X : Cx}

/-! ## calls of built-ins -/
abbrev QC := List D → Sto → PD → Prop
def CDok (X : Cx) (f : Value) (q : QC) : Prop :=
  ∃ r : List V → Hp → VK → Prop, CallR X f r ∧ ∀ ds S P H vs Q, q ds S P → Rep X.K S H → RVs X.K H ds vs → GoD X.K H P Q → r vs H Q
def qCB (q : QC) (qa : QA) : QE := fun loc S P E => qa loc S (fun ds S1 => q ds S1 P) E
variable {e : Expr} {es : List Expr} {qa : QA} {q : QC} {x : Str} {p pos : Pos} {id T : String}
theorem cb_imp {K : PySem.W.Frag} {W : WX} {r : List V → Hp → VK → Prop} (hr : ∀ ds S P H vs Q, q ds S P → Rep K S H → RVs K H ds vs → GoD K H P Q → r vs H Q) {σ : L2.St} {H : Hp} {Q : VK} (h : lift K W (qCB q qa) σ H Q) : tCB r (liftA K W qa) σ H Q := by
  obtain ⟨loc, S, P, E, rl, rep, hq, g, gx⟩ := h
  exact ⟨loc, S, _, E, rl, rep, hq, fun ds S1 vs H1 q1 k1 rep1 r1 => hr ds S1 P H1 vs Q q1 rep1 r1 (g.keep k1), gx⟩
theorem de_callB (ho : CDok X (.builtin id) q) (hg : Gl X x) (hm : X.mg x = none) (hv : bootBuiltins x = some (.builtin id)) (ha : DA X (e :: es) qa) (hn : x ≠ "__name__" := by decide) (hdb : (x == ("__debug__" : Str)) = false := by decide)
    (he : starEach (e :: es) X.env = (false, eval e X.env) :: starEach es X.env := by rfl) (hpl : (backTo pos (starEach es X.env)).any (·.1) = false := by rfl) : DE X (.Call (.Name x p) (e :: es) [] pos) (qCB q qa) := fun W tk => by
  obtain ⟨r, o, hr⟩ := ho
  exact PE.imp (pe_callB o hg hm hv (ha W tk) hn hdb he hpl) fun σ H Q h => cb_imp hr h
theorem de_callTy (ho : CDok X (.type T) q) (hg : Gl X x) (hm : X.mg x = none) (hv : bootBuiltins x = some (.type T)) (ha : DA X (e :: es) qa) (hn : x ≠ "__name__" := by decide) (hdb : (x == ("__debug__" : Str)) = false := by decide)
    (he : starEach (e :: es) X.env = (false, eval e X.env) :: starEach es X.env := by rfl) (hpl : (backTo pos (starEach es X.env)).any (·.1) = false := by rfl) : DE X (.Call (.Name x p) (e :: es) [] pos) (qCB q qa) := fun W tk => by
  obtain ⟨r, o, hr⟩ := ho
  exact PE.imp (pe_callTy o hg hm hv (ha W tk) hn hdb he hpl) fun σ H Q h => cb_imp hr h
theorem rvs_one {K : PySem.W.Frag} {H : Hp} {d : D} {vs : List V} (r : RVs K H [d] vs) : ∃ v, vs = [v] ∧ RV K H d v := by
  unfold RVs at r
  obtain ⟨v, w, e, h1, h2⟩ := r
  rw [RVs.nil_iff.mp h2] at e
  exact ⟨v, e, h1⟩
theorem rvs_two {K : PySem.W.Frag} {H : Hp} {d d' : D} {vs : List V} (r : RVs K H [d, d'] vs) : ∃ v w, vs = [v, w] ∧ RV K H d v ∧ RV K H d' w := by
  unfold RVs at r
  obtain ⟨v, w, e, h1, h2⟩ := r
  obtain ⟨u, e2, h3⟩ := rvs_one h2
  subst e2
  exact ⟨v, u, e, h1, h3⟩
/-- the one argument, an int -/
def cInt (f : Int → D) : QC := fun ds S P => match ds with
  | [.int i] => P (f i) S
  | _ => False
theorem cInt_inv {f : Int → D} {ds : List D} {S : Sto} {P : PD} (h : cInt f ds S P) : ∃ i, ds = [.int i] ∧ P (f i) S := by
  unfold cInt at h
  split at h
  · exact ⟨_, rfl, h⟩
  · exact h.elim
theorem cd_abs : CDok X (.builtin "abs") (cInt fun i => .int (if i < 0 then -i else i)) := by
  refine ⟨_, call_abs, fun ds S P H vs Q q rep r go => ?_⟩
  obtain ⟨i, rfl, p⟩ := cInt_inv q
  obtain ⟨v, rfl, rv⟩ := rvs_one r
  exact ⟨i, by rw [rv_int rv], go.now p rep rv_ofI⟩
def cToInt : QC := fun ds S P => match ds with
  | [.int i] => P (.int i) S
  | [.bl b] => P (.int (if b then 1 else 0)) S
  | _ => False
theorem cd_int : CDok X (.type "int") cToInt := by
  refine ⟨_, call_int1, fun ds S P H vs Q q rep r go => ?_⟩
  unfold cToInt at q
  split at q
  · obtain ⟨v, rfl, rv⟩ := rvs_one r
    exact .inl ⟨_, by rw [rv_int rv], go.now q rep rv_ofI⟩
  · obtain ⟨v, rfl, rv⟩ := rvs_one r
    exact .inr ⟨_, by rw [rv_bl rv], go.now q rep rv_ofI⟩
  · exact q.elim
def cInt2 (f : Int → Int → D) : QC := fun ds S P => match ds with
  | [.int i, .int j] => P (f i j) S
  | _ => False
theorem cInt2_inv {f : Int → Int → D} {ds : List D} {S : Sto} {P : PD} (h : cInt2 f ds S P) : ∃ i j, ds = [.int i, .int j] ∧ P (f i j) S := by
  unfold cInt2 at h
  split at h
  · exact ⟨_, _, rfl, h⟩
  · exact h.elim
theorem cd_max2 (hc : X.calm = true) : CDok X (.builtin "max") (cInt2 fun i j => .int (if j > i then j else i)) := by
  refine ⟨_, call_max2 hc, fun ds S P H vs Q q rep r go => ?_⟩
  obtain ⟨i, j, rfl, p⟩ := cInt2_inv q
  obtain ⟨v, w, rfl, r1, r2⟩ := rvs_two r
  exact ⟨i, j, by rw [rv_int r1, rv_int r2], go.now p rep rv_ofI⟩
theorem cd_min2 (hc : X.calm = true) : CDok X (.builtin "min") (cInt2 fun i j => .int (if j < i then j else i)) := by
  refine ⟨_, call_min2 hc, fun ds S P H vs Q q rep r go => ?_⟩
  obtain ⟨i, j, rfl, p⟩ := cInt2_inv q
  obtain ⟨v, w, rfl, r1, r2⟩ := rvs_two r
  exact ⟨i, j, by rw [rv_int r1, rv_int r2], go.now p rep rv_ofI⟩
def cLen : QC := fun ds S P => match ds with
  | [.str z] => z.length ≤ sizeLine ∧ P (.int z.length) S
  | [.tup xs] => P (.int xs.length) S
  | [.rol xs] => P (.int xs.length) S
  | [.ref a] => ∃ xs, S a = some (.lst xs) ∧ P (.int xs.length) S
  | _ => False
theorem cd_len : CDok X (.builtin "len") cLen := by
  refine ⟨_, call_len, fun ds S P H vs Q q rep r go => ?_⟩
  unfold cLen at q
  split at q
  · obtain ⟨v, rfl, rv⟩ := rvs_one r
    exact ⟨v, _, rfl, by rw [rv_str rv]; exact ⟨q.1, rfl⟩, go.now q.2 rep rv_ofI⟩
  · obtain ⟨v, rfl, rv⟩ := rvs_one r
    obtain ⟨a, ws, e, s, r2⟩ := rv_tup rv
    subst e
    exact ⟨_, _, rfl, .inr ⟨ws, s, rfl⟩, by rw [← r2.length]; exact go.now q rep rv_ofI⟩
  · obtain ⟨v, rfl, rv⟩ := rvs_one r
    unfold RV at rv
    obtain ⟨a, ws, e, s, r2⟩ := rv
    subst e
    exact ⟨_, _, rfl, .inl ⟨ws, s.sq, rfl⟩, by rw [← r2.length]; exact go.now q rep rv_ofI⟩
  · obtain ⟨v, rfl, rv⟩ := rvs_one r
    rw [rv_ref rv]
    obtain ⟨xs, e, p⟩ := q
    obtain ⟨ws, s, r2⟩ := rep _ _ e
    exact ⟨_, _, rfl, .inl ⟨ws, SqL.of s, rfl⟩, by rw [← r2.length]; exact go.now p rep rv_ofI⟩
  · exact q.elim
/-- what repr shows of data -/
def good (p : PyData) : Prop := p.showable = true ∧ p.hasDict = false ∧ p.shown.length ≤ sizeLine ∧ p.depth ≤ 60
def cRepr : QC := fun ds S P => ∃ d p, ds = [d] ∧ (∃ a, d = .ref a) ∧ Dat S d p ∧ good p ∧ P (.str p.shown) S
theorem cd_repr (hG : X.A.guards = some []) (hu : X.A.units + 64 < cLine) : CDok X (.builtin "repr") cRepr := by
  refine ⟨fun vs H Q => ∃ a p, vs = [.ref a] ∧ Dp X.K H (.ref a) p ∧ good p ∧ Q (.str p.shown) H, fun pins s σ H xs us Q I r h => ?_, fun ds S P H vs Q q rep r go => ?_⟩
  · obtain ⟨a, p, rfl, hd, ⟨g1, g2, g3, g4⟩, hq⟩ := h
    obtain ⟨u, rfl, ru⟩ := vals1 r
    cases ru
    obtain ⟨as, hr⟩ := Dp.reads I p _ _ hd rfl
    refine repr_of_reads' hr g1 (fun z => by rw [g2] at z; cases z) hG (by omega) (fun _ _ z => z) (fun h' u tk hk => ?_) g3
    exact ⟨.str p.shown, H, I.kept hk, ⟨_, rfl⟩, hq⟩
  · obtain ⟨d, p, rfl, ⟨a, rfl⟩, hd, hg, hp⟩ := q
    obtain ⟨v, rfl, rv⟩ := rvs_one r
    have rv' := rv
    rw [rv_ref rv] at rv' ⊢
    exact ⟨a, p, rfl, Dat.dp rep _ _ _ hd rv', hg, go.now hp rep rv_ofS⟩
/-- tuple(x), list(x) -/
def cTuple : QC := fun ds S P => match ds with
  | [.tup xs] => P (.tup xs) S
  | [.rol xs] => P (.tup xs) S
  | [.ref a] => ∃ xs, S a = some (.lst xs) ∧ P (.tup xs) S
  | _ => False
theorem cd_tuple : CDok X (.type "tuple") cTuple := by
  refine ⟨_, call_tuple_of, fun ds S P H vs Q q rep r go => ?_⟩
  unfold cTuple at q
  split at q
  · obtain ⟨v, rfl, rv⟩ := rvs_one r
    obtain ⟨a, ws, e, s, r2⟩ := rv_tup rv
    subst e
    exact ⟨a, ws, rfl, .inr ⟨s, go.now q rep rv⟩⟩
  · obtain ⟨v, rfl, rv⟩ := rvs_one r
    unfold RV at rv
    obtain ⟨a, ws, e, s, r2⟩ := rv
    subst e
    exact ⟨a, ws, rfl, .inl ⟨s.sq, fun l n => go _ _ _ _ q (Keep.new n) (rep.same (same_new n)) (rv_newT n r2)⟩⟩
  · obtain ⟨v, rfl, rv⟩ := rvs_one r
    rw [rv_ref rv]
    obtain ⟨xs, e, p⟩ := q
    obtain ⟨ws, s, r2⟩ := rep _ _ e
    exact ⟨_, ws, rfl, .inl ⟨SqL.of s, fun l n => go _ _ _ _ p (Keep.new n) (rep.same (same_new n)) (rv_newT n r2)⟩⟩
  · exact q.elim
def cList : QC := fun ds S P => match ds with
  | [.tup xs] => ∀ p, S p = none → P (.ref p) (ups S p (.lst xs))
  | [.rol xs] => ∀ p, S p = none → P (.ref p) (ups S p (.lst xs))
  | [.ref a] => ∃ xs, S a = some (.lst xs) ∧ ∀ p, S p = none → P (.ref p) (ups S p (.lst xs))
  | _ => False
theorem cd_list : CDok X (.type "list") cList := by
  refine ⟨_, call_list_of, fun ds S P H vs Q q rep r go => ?_⟩
  have fin : ∀ xs ws, (∀ p, S p = none → P (.ref p) (ups S p (.lst xs))) → RVs X.K H xs ws → ∀ l, H l = none → Q (.ref l) (upd H l (.lst ws)) := fun xs ws h r2 l n => go _ _ _ _ (h l (rep.free n)) (Keep.new n) (rep.newL n r2) rv_ofR
  unfold cList at q
  split at q
  · obtain ⟨v, rfl, rv⟩ := rvs_one r
    obtain ⟨a, ws, e, s, r2⟩ := rv_tup rv
    subst e
    exact ⟨a, ws, rfl, .inr s, fin _ _ q r2⟩
  · obtain ⟨v, rfl, rv⟩ := rvs_one r
    unfold RV at rv
    obtain ⟨a, ws, e, s, r2⟩ := rv
    subst e
    exact ⟨a, ws, rfl, .inl s.sq, fin _ _ q r2⟩
  · obtain ⟨v, rfl, rv⟩ := rvs_one r
    rw [rv_ref rv]
    obtain ⟨xs, e, p⟩ := q
    obtain ⟨ws, s, r2⟩ := rep _ _ e
    exact ⟨_, ws, rfl, .inl (SqL.of s), fin _ _ p r2⟩
  · exact q.elim
/-- all, any of a list of bools -/
def cBools (f : List Bool → Bool) : QC := fun ds S P => ∃ (d : D) (bs : List Bool), ds = [d] ∧ LsAt S d (bs.map D.bl) ∧ P (.bl (f bs)) S
theorem rvs_bls {K : PySem.W.Frag} {H : Hp} : ∀ {bs : List Bool} {vs : List V}, RVs K H (bs.map D.bl) vs → vs = bs.map V.bl
  | [], vs, r => RVs.nil_iff.mp r
  | b :: bs, vs, r => by
    have r' : RVs K H (D.bl b :: bs.map D.bl) vs := r
    unfold RVs at r'
    obtain ⟨v, w, e, h1, h2⟩ := r'
    rw [e, rv_bl h1, rvs_bls h2]
    rfl
theorem rvs_ints {K : PySem.W.Frag} {H : Hp} : ∀ {bs : List Int} {vs : List V}, RVs K H (bs.map D.int) vs → vs = bs.map V.int
  | [], vs, r => RVs.nil_iff.mp r
  | b :: bs, vs, r => by
    have r' : RVs K H (D.int b :: bs.map D.int) vs := r
    unfold RVs at r'
    obtain ⟨v, w, e, h1, h2⟩ := r'
    rw [e, rv_int h1, rvs_ints h2]
    rfl
theorem rvs_strs {K : PySem.W.Frag} {H : Hp} : ∀ {bs : List Str} {vs : List V}, RVs K H (bs.map D.str) vs → vs = bs.map V.str
  | [], vs, r => RVs.nil_iff.mp r
  | b :: bs, vs, r => by
    have r' : RVs K H (D.str b :: bs.map D.str) vs := r
    unfold RVs at r'
    obtain ⟨v, w, e, h1, h2⟩ := r'
    rw [e, rv_str h1, rvs_strs h2]
    rfl
theorem cd_bools {id : String} {f : List Bool → Bool} (h : CallR X (.builtin id) fun vs H Q => ∃ (a : Addr) (bs : List Bool), vs = [V.ref a] ∧ SqL X.K H a (bs.map V.bl) ∧ Q (.bl (f bs)) H) : CDok X (.builtin id) (cBools f) := by
  refine ⟨_, h, fun ds S P H vs Q q rep r go => ?_⟩
  obtain ⟨d, bs, rfl, l, p⟩ := q
  obtain ⟨v, rfl, rv⟩ := rvs_one r
  obtain ⟨a, ws, e, s, r2⟩ := l.sq rep rv
  subst e
  rw [rvs_bls r2] at s
  exact ⟨a, bs, rfl, s, go.now p rep rv_ofB⟩
theorem cd_all (hc : X.calm = true) : CDok X (.builtin "all") (cBools fun bs => bs.all _root_.id) := cd_bools (cr_all hc)
theorem cd_any (hc : X.calm = true) : CDok X (.builtin "any") (cBools fun bs => bs.any _root_.id) := cd_bools (cr_any hc)
def cSum : QC := fun ds S P => ∃ (d : D) (ns : List Int), ds = [d] ∧ LsAt S d (ns.map D.int) ∧ P (.int ns.sum) S
theorem cd_sum (hc : X.calm = true) : CDok X (.builtin "sum") cSum := by
  refine ⟨_, cr_sum hc, fun ds S P H vs Q q rep r go => ?_⟩
  obtain ⟨d, bs, rfl, l, p⟩ := q
  obtain ⟨v, rfl, rv⟩ := rvs_one r
  obtain ⟨a, ws, e, s, r2⟩ := l.sq rep rv
  subst e
  rw [rvs_ints r2] at s
  exact ⟨a, bs, rfl, s, go.now p rep rv_ofI⟩

/-! ## methods of lists -/
/-- a method of a list at an address -/
abbrev QM := Addr → List D → List D → Sto → PD → Prop
def qMeth (f : QM) (q : QE) (qa : QA) : QE := fun loc S P E => q loc S (fun d S1 => match d with
  | .ref a => (∃ xs, S1 a = some (.lst xs)) ∧ qa loc S1 (fun ds S2 => ∃ xs, S2 a = some (.lst xs) ∧ f a xs ds S2 P) E
  | _ => False) E
def qMeth0 (f : QM) (q : QE) : QE := fun loc S P E => q loc S (fun d S1 => match d with
  | .ref a => ∃ xs, S1 a = some (.lst xs) ∧ f a xs [] S1 P
  | _ => False) E
def MDok (X : Cx) (id : String) (f : QM) : Prop :=
  ∃ r, MtR X id r ∧ ∀ a xs ds S P H us vs Q, f a xs ds S P → Rep X.K S H → S a = some (.lst xs) → H a = some (.lst us) → RVs X.K H xs us → RVs X.K H ds vs → GoD X.K H P Q → r (.ref a) vs H Q
theorem de_meth {o : Expr} {q : QE} {f : QM} {name : Str} {apos cpos : Pos} (slot : Slot "list" name id) (hty : typeOf (.builtin id) = pure (.type "method_descriptor")) (hm : MDok X id f) (ho : DE X o q) (ha : DA X (e :: es) qa)
    (hbase : attributeBase o name X.env (eval o X.env) = eval o X.env := by rfl)
    (hfew : ((backTo cpos (starEach (e :: es) X.env)).all (fun x => !x.1) && (backToKw cpos (keywordEach [] X.env)).all (fun x => x.1.isSome)
      && decide ((e :: es).length + ([] : List Keyword).length + (if ([] : List Keyword).isEmpty then 0 else 1) < 30)) = true := by rfl)
    (hline : (apos.endLine == cpos.line) = true := by rfl) (hs : starEach (e :: es) X.env = (false, eval e X.env) :: starEach es X.env := by rfl) (hplain : (backTo cpos (starEach es X.env)).any (·.1) = false := by rfl) :
    DE X (.Call (.Attribute o name apos) (e :: es) [] cpos) (qMeth f q qa) := fun W tk => by
  obtain ⟨r, hr, hi⟩ := hm
  refine PE.imp (pe_bm PySem.F.plainAttrs_list slot hty hr (ho W tk) (ha W tk) hbase hfew hline hs hplain) fun σ H Q h => ?_
  obtain ⟨loc, S, P, E, rl, rep, hq, g, gx⟩ := h
  refine ⟨loc, S, _, E, rl, rep, hq, fun d S1 v H1 q1 k1 rep1 r1 => ?_, gx⟩
  cases d with
  | ref a =>
    obtain ⟨⟨xs, e1⟩, q1⟩ := q1
    rw [rv_ref r1]
    obtain ⟨us, f1, _⟩ := rep1 _ _ e1
    refine ⟨.inl ⟨rfl, us, SqL.of f1⟩, ?_⟩
    refine ⟨loc, S1, _, E, rl.keep k1, rep1, q1, fun ds S2 vs H2 q2 k2 rep2 r2 => ?_, gx.keep k1⟩
    obtain ⟨ys, e2, q2⟩ := q2
    obtain ⟨ws, f2, rw2⟩ := rep2 _ _ e2
    exact hi a ys ds S2 P H2 ws vs Q q2 rep2 e2 f2 rw2 r2 (g.keep (k1.trans k2))
  | _ => exact (show False from q1).elim
theorem de_meth0 {o : Expr} {q : QE} {f : QM} {name : Str} {apos cpos : Pos} (slot : Slot "list" name id) (hty : typeOf (.builtin id) = pure (.type "method_descriptor")) (hm : MDok X id f) (ho : DE X o q)
    (hbase : attributeBase o name X.env (eval o X.env) = eval o X.env := by rfl) (hline : (apos.endLine == cpos.line) = true := by rfl) : DE X (.Call (.Attribute o name apos) [] [] cpos) (qMeth0 f q) := fun W tk => by
  obtain ⟨r, hr, hi⟩ := hm
  refine PE.imp (pe_bm0 PySem.F.plainAttrs_list slot hty hr (ho W tk) hbase hline) fun σ H Q h => ?_
  obtain ⟨loc, S, P, E, rl, rep, hq, g, gx⟩ := h
  refine ⟨loc, S, _, E, rl, rep, hq, fun d S1 v H1 q1 k1 rep1 r1 => ?_, gx⟩
  cases d with
  | ref a =>
    obtain ⟨xs, e1, q1⟩ := q1
    rw [rv_ref r1]
    obtain ⟨us, f1, rw1⟩ := rep1 _ _ e1
    exact ⟨.inl ⟨rfl, us, SqL.of f1⟩, hi a xs [] S1 P H1 us [] Q q1 rep1 e1 f1 rw1 (RVs.nil_iff.mpr rfl) (g.keep k1)⟩
  | _ => exact (show False from q1).elim
def mAppend : QM := fun a xs ds S P => match ds with
  | [d] => xs.length < sizeLine ∧ P .non (ups S a (.lst (xs ++ [d])))
  | _ => False
theorem keepL {K : PySem.W.Frag} {H : Hp} {a : Addr} {us : List V} {o : HO} (h : H a = some (.lst us)) : Keep K H (upd H a o) := Keep.mut h (fun _ z => by cases z) (fun _ _ z => by cases z)
theorem md_append : MDok X "list.append" mAppend := by
  refine ⟨_, mt_append, fun a xs ds S P H us vs Q q rep e f rx rd go => ?_⟩
  unfold mAppend at q
  split at q
  · obtain ⟨v, rfl, rv⟩ := rvs_one rd
    refine ⟨a, us, v, rfl, rfl, f, by rw [← rx.length]; exact q.1, ?_⟩
    exact go _ _ _ _ q.2 (keepL f) (rep.setL f (rx.append (RVs.one rv))) rv_ofN
  · exact q.elim
theorem de_append {o : Expr} {q : QE} {apos cpos : Pos} (ho : DE X o q) (ha : DA X (e :: es) qa)
    (hbase : attributeBase o "append" X.env (eval o X.env) = eval o X.env := by rfl)
    (hfew : ((backTo cpos (starEach (e :: es) X.env)).all (fun x => !x.1) && (backToKw cpos (keywordEach [] X.env)).all (fun x => x.1.isSome)
      && decide ((e :: es).length + ([] : List Keyword).length + (if ([] : List Keyword).isEmpty then 0 else 1) < 30)) = true := by rfl)
    (hline : (apos.endLine == cpos.line) = true := by rfl) (hs : starEach (e :: es) X.env = (false, eval e X.env) :: starEach es X.env := by rfl) (hplain : (backTo cpos (starEach es X.env)).any (·.1) = false := by rfl) :
    DE X (.Call (.Attribute o "append" apos) (e :: es) [] cpos) (qMeth mAppend q qa) := de_meth PySem.F.slot_list_append PySem.F.type_list_append md_append ho ha hbase hfew hline hs hplain
end
end PL

namespace PL
open PySem PySem.Spec PyProof.Rows L2 -- the layers
section
variable {X : Cx} {W : WX} {σ : L2.St} {H : Hp}

/-! ## blocks, small statements -/
def sNext : QS := fun P loc S => P.nx loc S
def sSeq (t u : QS) : QS := fun P loc S => t { P with nx := fun loc' S' => u P loc' S' } loc S
theorem db_nil : DB X [] sNext := fun W _ => PSs.imp pss_nil fun D σ H h => by
  obtain ⟨loc, S, P, rl, rep, q, g⟩ := h
  exact g.nx _ _ _ _ q Keep.refl rl rep
theorem db_cons {st : Stmt} {rest : List Stmt} {t u : QS} (h1 : DS X st t) (h2 : DB X rest u) : DB X (st :: rest) (sSeq t u) := fun W tk => by
  refine PSs.imp (pss_cons (h1 W tk) (h2 W tk)) fun D σ H h => ?_
  obtain ⟨loc, S, P, rl, rep, q, g⟩ := h
  exact ⟨loc, S, { P with nx := fun loc' S' => u P loc' S' }, rl, rep, q, fun loc' S' σ' H' p k rl' rep' => ⟨loc', S', P, rl', rep', p, g.keep k⟩, g.rt, g.bk, g.ct, g.ex⟩
theorem db_one {st : Stmt} {t : QS} (h : DS X st t) : DB X [st] t := fun W tk => pss_one (h W tk)
def sBreak : QS := fun P loc S => P.bk loc S
def sCont : QS := fun P loc S => P.ct loc S
theorem ds_pass {pos : Pos} : DS X (.Pass pos) sNext := fun W _ => PS.imp ps_pass fun D σ H h => by
  obtain ⟨loc, S, P, rl, rep, q, g⟩ := h
  exact g.nx _ _ _ _ q Keep.refl rl rep
theorem ds_break {pos : Pos} : DS X (.Break pos) sBreak := fun W _ => PS.imp ps_break fun D σ H h => by
  obtain ⟨loc, S, P, rl, rep, q, g⟩ := h
  exact g.bk _ _ _ _ q Keep.refl rl rep
theorem ds_continue {pos : Pos} : DS X (.Continue pos) sCont := fun W _ => PS.imp ps_continue fun D σ H h => by
  obtain ⟨loc, S, P, rl, rep, q, g⟩ := h
  exact g.ct _ _ _ _ q Keep.refl rl rep
variable {e : Expr} {q : QE} {pos : Pos}
/-- an expression's exceptions leave the statement -/
theorem GoN.gx {K : PySem.W.Frag} {P : QN} {D : Ends} {loc : Loc} (g : GoN K H P D W) (rl : RL K H loc σ) : GoX K H σ (fun x S' => P.ex x loc S') W := fun x S' H' c d p k rep rx => g.ex x loc S' σ H' c d p k (rl.keep k) rep rx
def sDrop (q : QE) : QS := fun P loc S => q loc S (fun _ S1 => P.nx loc S1) fun x S1 => P.ex x loc S1
theorem ds_expr (he : DE X e q) (hs : swapsWith e none pos.line X.env = pure false := by rfl) : DS X (.Expr e pos) (sDrop q) := fun W tk => by
  refine PS.imp (ps_expr (he W tk) hs) fun D σ H h => ?_
  obtain ⟨loc, S, P, rl, rep, hq, g⟩ := h
  exact ⟨loc, S, _, _, rl, rep, hq, fun d S1 v H1 q1 k1 rep1 r1 => g.nx _ _ _ _ q1 k1 (rl.keep k1) rep1, g.gx rl⟩
def sRet (q : QE) : QS := fun P loc S => q loc S P.rt fun x S1 => P.ex x loc S1
theorem ds_ret (he : DE X e q) : DS X (.Return (some e) pos) (sRet q) := fun W tk => by
  refine PS.imp (ps_ret (he W tk)) fun D σ H h => ?_
  obtain ⟨loc, S, P, rl, rep, hq, g⟩ := h
  exact ⟨loc, S, _, _, rl, rep, hq, g.rt, g.gx rl⟩
def sRetN : QS := fun P _ S => P.rt .non S
theorem ds_retN : DS X (.Return none pos) sRetN := fun W _ => PS.imp ps_retN fun D σ H h => by
  obtain ⟨loc, S, P, rl, rep, hq, g⟩ := h
  exact g.rt.now hq rep rv_ofN
def sIf (c : QT) (t u : QS) : QS := fun P loc S => c loc S (fun b S1 => if b = true then t P loc S1 else u P loc S1) fun x S1 => P.ex x loc S1
theorem ds_if {c : Expr} {a b : List Stmt} {tc : QT} {t u : QS} (hc : DT X c tc) (ha : DB X a t) (hb : DB X b u) : DS X (.If c a b pos) (sIf tc t u) := fun W tk => by
  refine PS.imp (ps_if (hc W tk) (ha W tk) (hb W tk)) fun D σ H h => ?_
  obtain ⟨loc, S, P, rl, rep, hq, g⟩ := h
  refine ⟨loc, S, _, _, rl, rep, hq, fun b S1 H1 q1 k1 rep1 => ?_, g.gx rl⟩
  cases b with
  | true =>
    refine iteT ?_
    exact ⟨loc, S1, P, rl.keep k1, rep1, q1, g.keep k1⟩
  | false =>
    refine iteF ?_
    exact ⟨loc, S1, P, rl.keep k1, rep1, q1, g.keep k1⟩

/-! ## targets -/
abbrev QG := D → Loc → Sto → (Loc → Sto → Prop) → PX → Prop
abbrev QGs := List D → Loc → Sto → (Loc → Sto → Prop) → PX → Prop
def liftG (K : PySem.W.Frag) (W : WX) (q : QG) : TG := fun v σ H Q => ∃ d loc S P E, RV K H d v ∧ RL K H loc σ ∧ Rep K S H ∧ q d loc S P E ∧ GoL K H P Q ∧ GoX K H σ E W
def liftGs (K : PySem.W.Frag) (W : WX) (q : QGs) : TGs := fun vs σ H Q => ∃ ds loc S P E, RVs K H ds vs ∧ RL K H loc σ ∧ Rep K S H ∧ q ds loc S P E ∧ GoL K H P Q ∧ GoX K H σ E W
def DG (X : Cx) (t : Expr) (q : QG) : Prop := ∀ W, L2N.Takes X W → PG X t (liftG X.K W q)
def DGs (X : Cx) (ts : List Expr) (q : QGs) : Prop := ∀ W, L2N.Takes X W → PGs X ts (liftGs X.K W q)
theorem PG.imp {e : Expr} {t t' : TG} (h : PG X e t) (i : ∀ v σ H Q, t' v σ H Q → t v σ H Q) : PG X e t' := ⟨fun p s σ H v u Q I r q => h.run p s σ H v u Q I r (i _ _ _ _ q)⟩
theorem PGs.imp {e : List Expr} {t t' : TGs} (h : PGs X e t) (i : ∀ v σ H Q, t' v σ H Q → t v σ H Q) : PGs X e t' := ⟨fun p s σ H v u Q I r q => h.run p s σ H v u Q I r (i _ _ _ _ q)⟩
def gN (i : Nat) : QG := fun d loc S P _ => P (loc.set i (some d)) S
theorem dg_name {i : Nat} {x : Str} (hN : X.N.Nodup) (hi : X.N[i]? = some x) (hx : L2.Loc X.env.scope x) (hf : X.fn x = true ∨ X.env.scope.names.lookup x = some .local := by first | exact .inl rfl | exact .inr rfl | assumption) : DG X (.Name x pos) (gN i) := fun W _ => by
  refine PG.imp (pg_name hN hi hx hf) fun v σ H Q h => ?_
  obtain ⟨d, loc, S, P, E, rv, rl, rep, hq, g, _⟩ := h
  exact g _ _ _ _ hq Keep.refl (rl.set rv i) rep
def gE : QGs := fun ds loc S P _ => ds = [] ∧ P loc S
def gC (t : QG) (u : QGs) : QGs := fun ds loc S P E => match ds with
  | d :: r => t d loc S (fun loc' S' => u r loc' S' P fun _ _ => False) E
  | [] => False
theorem dgs_nil : DGs X [] gE := fun W _ => by
  refine PGs.imp pgs_nil fun v σ H Q h => ?_
  obtain ⟨ds, loc, S, P, E, rv, rl, rep, ⟨e, hq⟩, g, _⟩ := h
  subst e
  exact ⟨RVs.nil_iff.mp rv, g _ _ _ _ hq Keep.refl rl rep⟩
theorem dgs_cons {e : Expr} {es : List Expr} {t : QG} {u : QGs} (h1 : DG X e t) (h2 : DGs X es u)
    (hs : (assignEach (e :: es) X.env).map (·.2) = assign e X.env :: (assignEach es X.env).map (·.2) := by rfl) : DGs X (e :: es) (gC t u) := fun W tk => by
  refine PGs.imp (pgs_cons (h1 W tk) (h2 W tk) hs) fun v σ H Q h => ?_
  obtain ⟨ds, loc, S, P, E, rv, rl, rep, hq, g, gx⟩ := h
  cases ds with
  | nil => exact (show False from hq).elim
  | cons d r =>
    unfold RVs at rv
    obtain ⟨w, ws, e, r1, r2⟩ := rv
    refine ⟨w, ws, e, d, loc, S, _, E, r1, rl, rep, hq, fun loc' S' σ' H' p k rl' rep' => ?_, gx⟩
    exact ⟨r, loc', S', P, _, RVs.keep k _ _ r2, rl', rep', p, g.keep k, fun _ _ _ _ _ z => z.elim⟩
/-- a, b = a tuple -/
def gT (n : Nat) (t : QGs) : QG := fun d loc S P E => match d with
  | .tup xs => xs.length = n ∧ t xs loc S P E
  | _ => False
theorem dg_tup {es : List Expr} {k : Nat} {t : QGs} {n : Nat} (hc : X.calm = true) (h : DGs X es t)
    (hn : (assignEach es X.env).length = n := by rfl) (hst : (assignEach es X.env).findIdx? (·.1) = none := by rfl) : DG X (.Tuple es k pos) (gT n t) := fun W tk => by
  refine PG.imp (pg_tup hc (h W tk) hn hst) fun v σ H Q h => ?_
  obtain ⟨d, loc, S, P, E, rv, rl, rep, hq, g, gx⟩ := h
  cases d with
  | tup xs =>
    obtain ⟨a, vs, e, s, r⟩ := rv_tup rv
    exact ⟨a, vs, e, s, by rw [← r.length]; exact hq.1, xs, loc, S, P, E, r, rl, rep, hq.2, g, gx⟩
  | _ => exact (show False from hq).elim
/-- a, b = a list -/
def gL (n : Nat) (t : QGs) : QG := fun d loc S P E => ∃ xs, LsAt S d xs ∧ xs.length = n ∧ t xs loc S P E
theorem dg_lst {es : List Expr} {k : Nat} {t : QGs} {n : Nat} (hc : X.calm = true) (h : DGs X es t)
    (hn : (assignEach es X.env).length = n := by rfl) (hst : (assignEach es X.env).findIdx? (·.1) = none := by rfl) : DG X (.Tuple es k pos) (gL n t) := fun W tk => by
  refine PG.imp (pg_lst hc (h W tk) hn hst) fun v σ H Q h => ?_
  obtain ⟨d, loc, S, P, E, rv, rl, rep, ⟨xs, l, hz, hq⟩, g, gx⟩ := h
  obtain ⟨a, vs, e, s, r⟩ := l.sq rep rv
  exact ⟨a, vs, e, s, by rw [← r.length]; exact hz, xs, loc, S, P, E, r, rl, rep, hq, g, gx⟩
/-- o[i] = .. of a list -/
def gS (qo qi : QE) : QG := fun d loc S P E => qo loc S (fun o S1 => qi loc S1 (fun i S2 => match o, i with
  | .ref a, .int k => ∃ xs j, S2 a = some (.lst xs) ∧ ixN xs.length k = some j ∧ P loc (ups S2 a (.lst (xs.set j d)))
  | _, _ => False) E) E
theorem dg_sub {o i : Expr} {qo qi : QE} (ho : DE X o qo) (hi : DE X i qi)
    (ha : ∀ v, assign (.Subscript o i pos) X.env v = (do
      let ov ← holding [v] (eval o X.env)
      let iv ← holding [v, ov] (eval i X.env)
      standAt pos
      holding [v, ov, iv] (setItem ov iv v)
      release [v, ov, iv] []) := by intro _; rfl) : DG X (.Subscript o i pos) (gS qo qi) := fun W tk => by
  refine PG.imp (pg_sub (ho W tk) (hi W tk) set_list ha) fun v σ H Q h => ?_
  obtain ⟨d, loc, S, P, E, rv, rl, rep, hq, g, gx⟩ := h
  refine ⟨loc, S, _, E, rl, rep, hq, fun x S1 vx H1 q1 k1 rep1 r1 => ?_, gx⟩
  refine ⟨loc, S1, _, E, rl.keep k1, rep1, q1, fun y S2 vy H2 q2 k2 rep2 r2 => ?_, gx.keep k1⟩
  cases x <;> first | exact (show False from q2).elim | skip
  cases y <;> first | exact (show False from q2).elim | skip
  rename_i a k
  obtain ⟨xs, j, e1, e2, p⟩ := q2
  obtain ⟨us, f1, ru⟩ := rep2 _ _ e1
  refine ⟨a, us, k, j, rv_ref r1, rv_int r2, f1, by rw [← ru.length]; exact e2, ?_⟩
  have kk := k1.trans (k2.trans (keepL (o := .lst (us.set j v)) f1))
  exact g _ _ _ _ p kk (rl.keep kk) (rep2.setL f1 (RVs.set (RV.keep (k1.trans k2) _ _ rv) j ru))
def sAsg (q : QE) (g : QG) : QS := fun P loc S => q loc S (fun d S1 => g d loc S1 P.nx fun x S2 => P.ex x loc S2) fun x S1 => P.ex x loc S1
theorem ds_asg {tg : Expr} {g : QG} (he : DE X e q) (hg : DG X tg g) (hs : swapsWithSole [tg] e pos.line X.env = pure false := by rfl) (hw : swappedStores [tg] e X.env = pure none := by rfl)
    (h1 : (assignEach [tg] X.env).map (·.2) = [assign tg X.env] := by rfl) : DS X (.Assign [tg] e pos) (sAsg q g) := fun W tk => by
  refine PS.imp (ps_asg (he W tk) (hg W tk) hs hw h1) fun D σ H h => ?_
  obtain ⟨loc, S, P, rl, rep, hq, go⟩ := h
  refine ⟨loc, S, _, _, rl, rep, hq, fun d S1 v H1 q1 k1 rep1 r1 => ?_, go.gx rl⟩
  exact ⟨d, loc, S1, _, _, r1, rl.keep k1, rep1, q1, go.nx.keep k1, (go.keep k1).gx (rl.keep k1)⟩
def sSet (i : Nat) (q : QE) : QS := fun P loc S => q loc S (fun d S1 => P.nx (loc.set i (some d)) S1) fun x S1 => P.ex x loc S1
theorem ds_set {i : Nat} {x : Str} {pos' : Pos} (hN : X.N.Nodup) (hi : X.N[i]? = some x) (hx : L2.Loc X.env.scope x) (he : DE X e q) (hs : swapsWith e (some (.Name x pos')) pos.line X.env = pure false := by rfl) (hf : X.fn x = true ∨ X.env.scope.names.lookup x = some .local := by first | exact .inl rfl | exact .inr rfl | assumption) :
    DS X (.Assign [.Name x pos'] e pos) (sSet i q) := fun W tk => by
  refine PS.imp (ps_set hN hi hx (he W tk) hs hf) fun D σ H h => ?_
  obtain ⟨loc, S, P, rl, rep, hq, g⟩ := h
  exact ⟨loc, S, _, _, rl, rep, hq, fun d S1 v H1 q1 k1 rep1 r1 => g.nx _ _ _ _ q1 k1 ((rl.keep k1).set r1 i) rep1, g.gx rl⟩
/-- a, b = x, y of local names -/
def sPar (i j : Nat) (qa : QA) : QS := fun P loc S => qa loc S (fun ds S1 => match ds with
  | [d, d'] => P.nx ((loc.set i (some d)).set j (some d')) S1
  | _ => False) fun x S1 => P.ex x loc S1
theorem ds_par {i j : Nat} {x y : Str} {a b : Expr} {qa : QA} {px py pt : Pos} {kt k2 pt2} (hc : X.calm = true) (hN : X.N.Nodup) (hi : X.N[i]? = some x) (hj : X.N[j]? = some y) (hij : i ≠ j)
    (hx : X.env.scope.names.lookup x = some .local) (hy : X.env.scope.names.lookup y = some .local) (ha : DA X [a, b] qa)
    (hw : swappedStores [.Tuple [.Name x px, .Name y py] kt pt] (.Tuple [a, b] k2 pt2) X.env = pure (some [x, y]))
    (hs : swapsWithSole [.Tuple [.Name x px, .Name y py] kt pt] (.Tuple [a, b] k2 pt2) pos.line X.env = pure false := by rfl) :
    DS X (.Assign [.Tuple [.Name x px, .Name y py] kt pt] (.Tuple [a, b] k2 pt2) pos) (sPar i j qa) := fun W tk => by
  refine PS.imp (ps_par hc hN hi hj hij hx hy (ha W tk) hw hs) fun D σ H h => ?_
  obtain ⟨loc, S, P, rl, rep, hq, g⟩ := h
  refine ⟨loc, S, _, _, rl, rep, hq, fun ds S1 vs H1 q1 k1 rep1 r1 => ?_, g.gx rl⟩
  dsimp only at q1
  split at q1
  · obtain ⟨v, w, e, r2, r3⟩ := rvs_two r1
    exact ⟨v, w, e, g.nx _ _ _ _ q1 k1 (((rl.keep k1).set r2 i).set r3 j) rep1⟩
  · exact q1.elim

/-! ## while -/
def sWhile (c : QT) (tb : QS) : QS := fun P loc S => ∃ V : Nat → Loc → Sto → Prop, (∃ m, V m loc S) ∧ ∀ m loc S, V m loc S →
  c loc S (fun b S1 => if b = true then tb { P with nx := fun loc' S' => ∃ m', m' < m ∧ V m' loc' S', ct := fun loc' S' => ∃ m', m' < m ∧ V m' loc' S', bk := P.nx } loc S1 else P.nx loc S1) fun x S1 => P.ex x loc S1
theorem ds_while {c : Expr} {body : List Stmt} {tc : QT} {tb : QS} (hp : PassesOwn (model X.prog X.w) X.A X.env X.xe) (hc : DT X c tc) (hb : DB X body tb) : DS X (.While c body [] pos) (sWhile tc tb) := fun W tk => by
  refine PS.imp (ps_while hp (hc W tk) (hb W tk)) fun D σ H h => ?_
  obtain ⟨loc, S, P, rl, rep, ⟨V, ⟨m0, v0⟩, turn⟩, g⟩ := h
  refine ⟨fun m σ' H' => ∃ loc' S', Keep X.K H H' ∧ RL X.K H' loc' σ' ∧ Rep X.K S' H' ∧ V m loc' S', ⟨m0, loc, S, Keep.refl, rl, rep, v0⟩, ?_⟩
  rintro m σ1 H1 ⟨loc1, S1, k1, rl1, rep1, v1⟩
  have g1 := g.keep k1
  refine ⟨loc1, S1, _, _, rl1, rep1, turn m loc1 S1 v1, fun b S2 H2 q2 k2 rep2 => ?_, g1.gx rl1⟩
  have rl2 := rl1.keep k2
  have g2 := g1.keep k2
  cases b with
  | false =>
    refine iteF ?_
    exact g2.nx _ _ _ _ q2 Keep.refl rl2 rep2
  | true =>
    refine iteT ⟨fun σ' H' => ∃ m', m' < m ∧ ∃ loc' S', Keep X.K H H' ∧ RL X.K H' loc' σ' ∧ Rep X.K S' H' ∧ V m' loc' S', fun σ' H' ⟨m', hm, z⟩ => ⟨m', hm, z⟩, ?_⟩
    have go : GoL X.K H2 (fun loc' S' => ∃ m', m' < m ∧ V m' loc' S') fun σ' H' => ∃ m', m' < m ∧ ∃ loc' S', Keep X.K H H' ∧ RL X.K H' loc' σ' ∧ Rep X.K S' H' ∧ V m' loc' S' :=
      fun loc' S' σ' H' ⟨m', hm, v⟩ k rl' rep' => ⟨m', hm, loc', S', k1.trans (k2.trans k), rl', rep', v⟩
    exact ⟨loc1, S2, { P with nx := fun loc' S' => ∃ m', m' < m ∧ V m' loc' S', ct := fun loc' S' => ∃ m', m' < m ∧ V m' loc' S', bk := P.nx }, rl2, rep2, q2, go, g2.rt, g2.nx, go, g2.ex⟩

/-! ## what is walked -/
/-- items; where they stand in a list that may be written, that list -/
inductive Src where
  | vals (xs : List D)
  | live (a : Addr) (xs : List D)
  | on (c : Sto → Prop) (xs : List D)
def Src.items : Src → List D
  | .vals xs => xs
  | .live _ xs => xs
  | .on _ xs => xs
def Src.ok (S : Sto) : Src → Prop
  | .vals _ => True
  | .live a xs => S a = some (.lst xs)
  | .on c _ => c S
/-- the iterator J of the hand layer yields the source's items -/
structure ItRel (K : PySem.W.Frag) (H : Hp) (src : Src) (J : It) : Prop where
  go : ∀ i d S' H', src.items[i]? = some d → src.ok S' → Keep K H H' → Rep K S' H' → J.go i H'
  stop : ∀ i S' H', src.items.length = i → src.ok S' → Keep K H H' → Rep K S' H' → J.stop i H'
  yld : ∀ i d S' H' x H2, src.items[i]? = some d → src.ok S' → Keep K H H' → Rep K S' H' → J.yld i H' x H2 → Keep K H' H2 ∧ Rep K S' H2 ∧ RV K H2 d x
abbrev QI := Loc → Sto → (Src → Sto → Prop) → PX → Prop
def liftI (K : PySem.W.Frag) (W : WX) (q : QI) : TI := fun σ H R => ∃ loc S P E, RL K H loc σ ∧ Rep K S H ∧ q loc S P E ∧ (∀ src S' H' J, P src S' → Keep K H H' → Rep K S' H' → ItRel K H' src J → R J H') ∧ GoX K H σ E W
def DI (X : Cx) (tg iter : Expr) (q : QI) : Prop := ∀ W, L2N.Takes X W → PI X tg iter (liftI X.K W q)
theorem PI.imp {tg e : Expr} {t t' : TI} (h : PI X tg e t) (i : ∀ σ H Q, t' σ H Q → t σ H Q) : PI X tg e t' := ⟨fun p s σ H R I q => h.run p s σ H R I (i _ _ _ q)⟩
theorem rel_live {K : PySem.W.Frag} {a : Addr} {xs : List D} : ItRel K H (.live a xs) (Itl K a) where
  go := fun i d S' H' hi ok k rep => by
    obtain ⟨vs, e, r⟩ := rep a _ ok
    obtain ⟨v, e2, _⟩ := RVs.get r hi
    exact ⟨vs, v, SqL.of e, e2⟩
  stop := fun i S' H' hi' ok k rep => have hi := Nat.le_of_eq hi'; by
    obtain ⟨vs, e, r⟩ := rep a _ ok
    exact ⟨vs, SqL.of e, by rw [← r.length]; exact hi⟩
  yld := fun i d S' H' x H2 hi ok k rep y => by
    obtain ⟨e1, y⟩ := y
    subst e1
    obtain ⟨vs, e, r⟩ := rep a _ ok
    obtain ⟨v, e2, rv⟩ := RVs.get r hi
    have e3 := y vs (SqL.of e)
    rw [e2] at e3
    cases e3
    exact ⟨Keep.refl, rep, rv⟩
/-- the items of a tuple, of a list that nobody writes -/
theorem rel_tup {K : PySem.W.Frag} {a : Addr} {xs : List D} {vs : List V} (s : SqT K H a vs) (r : RVs K H xs vs) : ItRel K H (.vals xs) (Itt K a) where
  go := fun i d S' H' hi ok k rep => by
    obtain ⟨v, e2, _⟩ := RVs.get r hi
    exact ⟨vs, v, k.tup _ _ s, e2⟩
  stop := fun i S' H' hi' ok k rep => have hi := Nat.le_of_eq hi'; ⟨vs, k.tup _ _ s, by rw [← r.length]; exact hi⟩
  yld := fun i d S' H' x H2 hi ok k rep y => by
    obtain ⟨e1, y⟩ := y
    subst e1
    obtain ⟨v, e2, rv⟩ := RVs.get r hi
    have e3 := y vs (k.tup _ _ s)
    rw [e2] at e3
    cases e3
    exact ⟨Keep.refl, rep, RV.keep k _ _ rv⟩
theorem rel_rol {K : PySem.W.Frag} {a : Addr} {xs : List D} {vs : List V} (s : Rol K H a vs) (r : RVs K H xs vs) : ItRel K H (.vals xs) (Itl K a) where
  go := fun i d S' H' hi ok k rep => by
    obtain ⟨v, e2, _⟩ := RVs.get r hi
    exact ⟨vs, v, (k.rol s).sq, e2⟩
  stop := fun i S' H' hi' ok k rep => have hi := Nat.le_of_eq hi'; ⟨vs, (k.rol s).sq, by rw [← r.length]; exact hi⟩
  yld := fun i d S' H' x H2 hi ok k rep y => by
    obtain ⟨e1, y⟩ := y
    subst e1
    obtain ⟨v, e2, rv⟩ := RVs.get r hi
    have e3 := y vs (k.rol s).sq
    rw [e2] at e3
    cases e3
    exact ⟨Keep.refl, rep, RV.keep k _ _ rv⟩
def chars (z : Str) : List D := z.cps.toList.map fun c => D.str ⟨#[c]⟩
theorem rel_str {K : PySem.W.Frag} {z : Str} : ItRel K H (.vals (chars z)) (Its z) where
  go := fun i d S' H' hi ok k rep => by
    have h := (List.getElem?_eq_some_iff.mp hi).1
    have h2 : i < z.cps.toList.length := by simpa [Src.items, chars] using h
    show i < z.cps.size
    simpa using h2
  stop := fun i S' H' hi' ok k rep => have hi := Nat.le_of_eq hi'; by
    have h2 : z.cps.toList.length ≤ i := by simpa [Src.items, chars] using hi
    show z.cps.size ≤ i
    simpa using h2
  yld := fun i d S' H' x H2 hi ok k rep y => by
    obtain ⟨e1, c, e2, e3⟩ := y
    subst e1 e3
    have h2 : (z.cps.toList.map fun c => D.str ⟨#[c]⟩)[i]? = some d := hi
    rw [List.getElem?_map, Array.getElem?_toList, e2] at h2
    cases h2
    exact ⟨Keep.refl, rep, rv_ofS⟩
def rangeD (lo : Int) (n : Nat) : List D := (List.range n).map fun (i : Nat) => D.int (lo + (i : Int))
theorem rel_range {K : PySem.W.Frag} {lo : Int} {n : Nat} : ItRel K H (.vals (rangeD lo n)) (Itr lo n) where
  go := fun i d S' H' hi ok k rep => by
    have h := (List.getElem?_eq_some_iff.mp hi).1
    have h2 : i < n := by simpa [Src.items, rangeD] using h
    exact h2
  stop := fun i S' H' hi' ok k rep => have hi := Nat.le_of_eq hi'; by
    have h2 : n ≤ i := by simpa [Src.items, rangeD] using hi
    exact h2
  yld := fun i d S' H' x H2 hi ok k rep y => by
    obtain ⟨e1, e2⟩ := y
    subst e1 e2
    have h := (List.getElem?_eq_some_iff.mp hi).1
    have h1 : i < n := by simpa [Src.items, rangeD] using h
    have h2 : ((List.range n).map fun (i : Nat) => D.int (lo + (i : Int)))[i]? = some d := hi
    rw [List.getElem?_map, List.getElem?_range h1] at h2
    cases h2
    exact ⟨Keep.refl, rep, rv_ofI⟩
/-- any sequence: a list, a tuple, a text -/
def iSeq (q : QE) : QI := fun loc S P E => q loc S (fun d S1 => match d with
  | .tup xs => P (.vals xs) S1
  | .rol xs => P (.vals xs) S1
  | .str z => P (.vals (chars z)) S1
  | .ref a => ∃ xs, S1 a = some (.lst xs) ∧ P (.live a xs) S1
  | _ => False) E
/-- the three walks of the hand layer over a value that is there -/
def tAny (t : TE) (K : PySem.W.Frag) : TI := fun σ H R => t σ H fun x H1 => (∃ a, x = .ref a ∧ (∃ xs, SqL K H1 a xs) ∧ R (Itl K a) H1) ∨ (∃ a, x = .ref a ∧ (∃ xs, SqT K H1 a xs) ∧ R (Itt K a) H1) ∨ ∃ z, x = .str z ∧ R (Its z) H1
theorem pi_any {tg : Expr} {t : TE} (he : PE X e t) : PI X tg e (tAny t X.K) := by
  refine ⟨fun pins s σ H R I h => ?_⟩
  refine thn (he.run pins s σ H _ I h) fun v s1 ⟨x, H1, I1, r1, q1⟩ => ?_
  rcases q1 with ⟨a, e, ⟨xs, hq⟩, q⟩ | ⟨a, e, ⟨xs, hq⟩, q⟩ | ⟨z, e, q⟩
  · subst e
    cases r1
    obtain ⟨its, rv, p, _⟩ := I1.list hq
    exact wpAny_pyIter_list p.isList (pi_one (tk := s1.toks) I1 _ (turn_list a _) ⟨_, Heap.get?_push_size _ rfl, rfl, rfl⟩ q)
  · subst e
    cases r1
    obtain ⟨its, rv, p, _⟩ := I1.tuple hq
    exact wpAny_pyIter_tuple (show s1.heap.IsTuple a its.toArray from p) (pi_one (tk := s1.toks) I1 _ (turn_tuple a _) ⟨_, Heap.get?_push_size _ rfl, rfl, rfl⟩ q)
  · subst e
    obtain ⟨tk, rfl⟩ := r1
    cases ha : z.cps.all (· < 128)
    · exact wpAny_pyIter_wide ha (pi_one (tk := s1.toks) I1 _ (turn_str _ z tk "str_iterator" (.inr rfl)) ⟨_, Heap.get?_push_size _ rfl, rfl, rfl⟩ q)
    · exact wpAny_pyIter_ascii ha (pi_one (tk := s1.toks) I1 _ (turn_str _ z tk "str_ascii_iterator" (.inl rfl)) ⟨_, Heap.get?_push_size _ rfl, rfl, rfl⟩ q)
theorem di_seq {tg : Expr} (he : DE X e q) : DI X tg e (iSeq q) := fun W tk => by
  refine PI.imp (pi_any (he W tk)) fun σ H R h => ?_
  obtain ⟨loc, S, P, E, rl, rep, hq, g, gx⟩ := h
  refine ⟨loc, S, _, E, rl, rep, hq, fun d S1 v H1 q1 k1 rep1 r1 => ?_, gx⟩
  cases d with
  | tup xs =>
    obtain ⟨a, vs, e, s, r⟩ := rv_tup r1
    exact .inr (.inl ⟨a, e, ⟨vs, s⟩, g _ _ _ _ q1 k1 rep1 (rel_tup s r)⟩)
  | rol xs =>
    unfold RV at r1
    obtain ⟨a, vs, e, s, r⟩ := r1
    exact .inl ⟨a, e, ⟨vs, s.sq⟩, g _ _ _ _ q1 k1 rep1 (rel_rol s r)⟩
  | str z => exact .inr (.inr ⟨z, rv_str r1, g _ _ _ _ q1 k1 rep1 rel_str⟩)
  | ref a =>
    obtain ⟨xs, e1, q1⟩ := q1
    obtain ⟨vs, s, r⟩ := rep1 _ _ e1
    exact .inl ⟨a, rv_ref r1, ⟨vs, SqL.of s⟩, g _ _ _ _ q1 k1 rep1 rel_live⟩
  | _ => exact (show False from q1).elim
def iRange1 (qa : QA) : QI := fun loc S P E => qa loc S (fun ds S1 => match ds with
  | [.int j] => -(2 ^ 62) ≤ j ∧ j < 2 ^ 62 ∧ P (.vals (rangeD 0 j.toNat)) S1
  | _ => False) E
def iRange2 (qa : QA) : QI := fun loc S P E => qa loc S (fun ds S1 => match ds with
  | [.int i, .int j] => (-(2 ^ 62) ≤ i ∧ i < 2 ^ 62 ∧ -(2 ^ 62) ≤ j ∧ j < 2 ^ 62) ∧ P (.vals (rangeD i (j - i).toNat)) S1
  | _ => False) E
theorem di_range1 {tg a : Expr} {qa : QA} {p : Pos} (hg : Gl X "range") (hm : X.mg "range" = none) (ha : DA X [a] qa) (hs : starEach [a] X.env = [(false, eval a X.env)] := by rfl) : DI X tg (.Call (.Name "range" p) [a] [] pos) (iRange1 qa) := fun W tk => by
  refine PI.imp (pi_range1 hg hm (ha W tk) hs) fun σ H R h => ?_
  obtain ⟨loc, S, P, E, rl, rep, hq, g, gx⟩ := h
  refine ⟨loc, S, _, E, rl, rep, hq, fun ds S1 vs H1 q1 k1 rep1 r1 => ?_, gx⟩
  dsimp only at q1
  split at q1
  · obtain ⟨v, e, r2⟩ := rvs_one r1
    exact ⟨_, by rw [e, rv_int r2], q1.1, q1.2.1, g _ _ _ _ q1.2.2 k1 rep1 rel_range⟩
  · exact q1.elim
theorem di_range2 {tg a b : Expr} {qa : QA} {p : Pos} (hg : Gl X "range") (hm : X.mg "range" = none) (ha : DA X [a, b] qa) (hs : starEach [a, b] X.env = [(false, eval a X.env), (false, eval b X.env)] := by rfl) (hs2 : starEach [b] X.env = [(false, eval b X.env)] := by rfl) :
    DI X tg (.Call (.Name "range" p) [a, b] [] pos) (iRange2 qa) := fun W tk => by
  refine PI.imp (pi_range2 hg hm (ha W tk) hs hs2) fun σ H R h => ?_
  obtain ⟨loc, S, P, E, rl, rep, hq, g, gx⟩ := h
  refine ⟨loc, S, _, E, rl, rep, hq, fun ds S1 vs H1 q1 k1 rep1 r1 => ?_, gx⟩
  dsimp only at q1
  split at q1
  · obtain ⟨v, w, e, r2, r3⟩ := rvs_two r1
    exact ⟨_, _, by rw [e, rv_int r2, rv_int r3], q1.1, g _ _ _ _ q1.2 k1 rep1 rel_range⟩
  · exact q1.elim

/-! ## for -/
def sFor (it : QI) (g : QG) (tb : QS) : QS := fun P loc S => it loc S (fun src S1 => ∃ V : Nat → Loc → Sto → Prop, V 0 loc S1 ∧
  (∀ i d loc S, src.items[i]? = some d → V i loc S → src.ok S ∧ g d loc S (fun loc' S' => tb { P with nx := V (i + 1), ct := V (i + 1), bk := P.nx } loc' S') fun x S' => P.ex x loc S') ∧
  ∀ loc S, V src.items.length loc S → src.ok S ∧ P.nx loc S) fun x S1 => P.ex x loc S1
theorem ds_for {tg iter : Expr} {body : List Stmt} {it : QI} {g : QG} {tb : QS} (hp : PassesOwn (model X.prog X.w) X.A X.env X.xe) (hc : X.calm = true) (hi : DI X tg iter it) (hg : DG X tg g) (hb : DB X body tb)
    (hs : ∀ x, foldedSetIterable iter X.env x = pure x := by intro _; rfl) : DS X (.For tg iter body [] pos) (sFor it g tb) := fun W tk => by
  refine PS.imp (ps_for hp hc (hi W tk) (hg W tk) (hb W tk) hs) fun D σ H h => ?_
  obtain ⟨loc, S, P, rl, rep, hq, go⟩ := h
  refine ⟨loc, S, _, _, rl, rep, hq, fun src S1 H1 J q1 k1 rep1 rel => ?_, go.gx rl⟩
  obtain ⟨V, v0, turn, done⟩ := q1
  refine ⟨fun i m σ' H' => m = src.items.length - i ∧ i ≤ src.items.length ∧ ∃ loc' S', Keep X.K H1 H' ∧ RL X.K H' loc' σ' ∧ Rep X.K S' H' ∧ V i loc' S', ⟨src.items.length, by simp, Nat.zero_le _, loc, S1, Keep.refl, rl.keep k1, rep1, v0⟩, ?_⟩
  rintro i m σ2 H2 ⟨rfl, hle, loc2, S2, k2, rl2, rep2, v2⟩
  have go2 := go.keep (k1.trans k2)
  by_cases hlt : i < src.items.length
  · have hd : src.items[i]? = some src.items[i] := List.getElem?_eq_getElem hlt
    obtain ⟨ok, t⟩ := turn i _ loc2 S2 hd v2
    refine .inr ⟨rel.go i _ S2 H2 hd ok k2 rep2, fun σ' H' => ∃ loc' S', Keep X.K H1 H' ∧ RL X.K H' loc' σ' ∧ Rep X.K S' H' ∧ V (i + 1) loc' S', fun σ' H' z => ⟨src.items.length - (i + 1), by omega, rfl, hlt, z⟩, fun x H3 y => ?_⟩
    obtain ⟨k3, rep3, rv3⟩ := rel.yld i _ S2 H2 x H3 hd ok k2 rep2 y
    have rl3 := rl2.keep k3
    have go3 := go2.keep k3
    refine ⟨src.items[i], loc2, S2, _, _, rv3, rl3, rep3, t, fun loc4 S4 σ4 H4 q4 k4 rl4 rep4 => ?_, go3.gx rl3⟩
    have go4 := go3.keep k4
    have again : GoL X.K H4 (V (i + 1)) fun σ' H' => ∃ loc' S', Keep X.K H1 H' ∧ RL X.K H' loc' σ' ∧ Rep X.K S' H' ∧ V (i + 1) loc' S' :=
      fun loc' S' σ' H' v k rl' rep' => ⟨loc', S', k2.trans (k3.trans (k4.trans k)), rl', rep', v⟩
    exact ⟨loc4, S4, { P with nx := V (i + 1), ct := V (i + 1), bk := P.nx }, rl4, rep4, q4, again, go4.rt, go4.nx, again, go4.ex⟩
  · have e : i = src.items.length := by omega
    subst e
    obtain ⟨ok, n⟩ := done loc2 S2 v2
    exact .inl ⟨rel.stop _ S2 H2 rfl ok k2 rep2, go2.nx _ _ _ _ n Keep.refl rl2 rep2⟩
end
end PL

namespace PL
open PySem PySem.Spec PyProof.Rows L2 -- the layers

/-! ## defs and their promises -/
/-- a def that keeps its promise in every run in which no guard of repr stands -/
structure FnG (P : Program) (w : World) (K : PySem.W.Frag) (mg : Str → Option Value) (base : Heap) (k : Nat) (f : Addr) (fd : FuncData) (ps : List Str) (sp : QF) : Prop where
  len : ∀ ds S Q E, sp ds S Q E → ds.length = ps.length
  run : ∀ (A : Around) (outer : List Env) (s : Shared) (H : Hp) (args : Args) (us : List Value) (vs : List V) (Q : VK) (E : XK), Room k A → A.guards = some [] → Env0 P w K mg base A outer s H → BindsTo s fd args (ps.zip us) → Vals vs us → liftF K sp vs H Q E →
    codeAny (model P w) A (.call (.ref f) args) (CR (L2N.CX P w) outer P w H s Q E) s
abbrev FnP (P : Program) (w : World) (K : PySem.W.Frag) (mg : Str → Option Value) (base : Heap) (k : Nat) (f : Addr) (fd : FuncData) (ps : List Str) (sp : QF) : Prop := FnOk P w K mg base (L2N.CX P w) k f fd ps (liftF K sp)
section
variable {P : Program} {w : World} {K : PySem.W.Frag} {mg : Str → Option Value} {base : Heap} {k j : Nat} {f : Addr} {fd : FuncData} {ps : List Str} {sp : QF}
theorem FnG.mono (F : FnG P w K mg base j f fd ps sp) (h : j ≤ k) : FnG P w K mg base k f fd ps sp := ⟨F.len, fun A outer s H args us vs Q E hr => F.run A outer s H args us vs Q E (hr.mono h)⟩
theorem startD_len {N : List Str} {ds : List D} {vs : List V} {H : Hp} (r : RVs K H ds vs) : RL K H (ds.map some ++ List.replicate (N.length - ds.length) none) (L2.start N vs) := by
  have hl := r.length
  refine ⟨by simp [L2.start, hl], fun i d h => ?_⟩
  by_cases hi : i < ds.length
  · rw [List.getElem?_append_left (by simpa using hi)] at h
    rw [List.getElem?_map] at h
    cases e : ds[i]? with
    | none => rw [e] at h; cases h
    | some x =>
      rw [e] at h
      have ex : x = d := Option.some.inj (Option.some.inj h)
      subst ex
      obtain ⟨v, e1, e2⟩ := RVs.get r e
      refine ⟨v, ?_, e2⟩
      unfold L2.start
      rw [List.getElem?_append_left (by simpa [← hl] using hi), List.getElem?_map, e1]
      rfl
  · rw [List.getElem?_append_right (by simpa using hi)] at h
    have := List.mem_of_getElem? h
    simp at this
def startD (N : List Str) (ds : List D) : Loc := ds.map some ++ List.replicate (N.length - ds.length) none
/-- what a body is to reach: what is known at its end may be forgotten -/
def endsF (P : PD) (E : PX) : QN where
  nx := fun _ S => ∃ S2, Sub S2 S ∧ P .non S2
  rt := fun d S => ∃ S2, Sub S2 S ∧ P d S2
  bk := fun _ _ => False
  ct := fun _ _ => False
  ex := fun x _ S => ∃ S2, Sub S2 S ∧ E x S2
theorem endsF_go {H : Hp} {Pd : PD} {PE : PX} {Q : VK} {E : XK} (g : GoD K H Pd Q) (gx : ∀ x S' H' c d, PE x S' → Keep K H H' → Rep K S' H' → RX K H' x c d → E c d H') :
    GoN K H (endsF Pd PE) { nx := fun _ H' => Q .non H', rt := Q } fun c d _ H' => E c d H' where
  nx := fun _ S' _ H' ⟨S2, s, p⟩ k _ rep => g .non S2 .non H' p k (rep.sub s) rv_ofN
  rt := fun d S' v H' ⟨S2, s, p⟩ k rep r => g d S2 v H' p k (rep.sub s) r
  bk := fun _ _ _ _ z => z.elim
  ct := fun _ _ _ _ z => z.elim
  ex := fun x _ S' _ H' c d ⟨S2, s, p⟩ k _ rep rx => gx x S2 H' c d p k (rep.sub s) rx
/-- THE RULE for a def: the derivation of its body, its pure reading -/
theorem FunD.pure {x qual : Str} {params : Arguments} {body : List Stmt} {scope : Scope} {kws : List (Str × V)} {N : List Str} {q : QS} (F : FunD K x qual params body scope [] kws f fd) (S : FnScope N ps scope)
    (hbody : ∀ (cdv : Value) (A : Around) (outer : List Env) (s : Shared) (H : Hp) (E : XK), Room k (A.deeper (envOfC qual scope s.heap.objs.size f cdv)) → DB (cxOf (L2N.CX P w) P w K mg base N qual scope f cdv A outer s H E) body q)
    (len : ∀ ds S Q E, sp ds S Q E → ds.length = ps.length) (spec : ∀ ds S Q E, sp ds S Q E → q (endsF Q E) (startD N ds) S) : FnP P w K mg base (k + 1) f fd ps sp := by
  refine F.ok S (fun vs H Q E h => ?_) fun cdv A outer s H vs Q E hr h => ?_
  · obtain ⟨ds, St, Pd, PE, r, _, h, _⟩ := h
    rw [← r.length, len _ _ _ _ h]
  · obtain ⟨ds, St, Pd, PE, r, rep, h, g, gx⟩ := h
    refine ⟨_, hbody cdv A outer s H E hr (fun c d _ H' => E c d H') (L2N.takes_of rfl rfl rfl rfl), ?_⟩
    exact ⟨startD N ds, St, endsF Pd PE, startD_len r, rep, spec _ _ _ _ h, endsF_go g gx⟩
/-- .. for a def that wants no guard of repr around -/
theorem FunD.pureG {x qual : Str} {params : Arguments} {body : List Stmt} {scope : Scope} {kws : List (Str × V)} {N : List Str} {q : QS} (F : FunD K x qual params body scope [] kws f fd) (S : FnScope N ps scope)
    (hbody : ∀ (cdv : Value) (A : Around) (outer : List Env) (s : Shared) (H : Hp) (E : XK), Room k (A.deeper (envOfC qual scope s.heap.objs.size f cdv)) → (A.deeper (envOfC qual scope s.heap.objs.size f cdv)).guards = some [] → DB (cxOf (L2N.CX P w) P w K mg base N qual scope f cdv A outer s H E) body q)
    (len : ∀ ds S Q E, sp ds S Q E → ds.length = ps.length) (spec : ∀ ds S Q E, sp ds S Q E → q (endsF Q E) (startD N ds) S) : FnG P w K mg base (k + 1) f fd ps sp := by
  refine ⟨len, fun A outer s H args us vs Q E hr hG e0 hb r h => ?_⟩
  obtain ⟨oc, od, dV, kV, doc, pm, an, cdv, ct, osl, rfl, lk, hcd, _, _⟩ := F.ex
  obtain ⟨ds, St, Pd, PE, rv, rep, h, g, gx⟩ := h
  refine LamX.run_ofS lk hcd S hr e0 hb r (by rw [← rv.length, len _ _ _ _ h]) fun hr' => ?_
  refine ⟨_, hbody cdv A outer s H E hr' (by exact hG) (fun c d _ H' => E c d H') (L2N.takes_of rfl rfl rfl rfl), ?_⟩
  exact ⟨startD N ds, St, endsF Pd PE, startD_len rv, rep, spec _ _ _ _ h, endsF_go g gx⟩
end
section
variable {X : Cx} {W : WX} {σ : L2.St} {H : Hp} {k : Nat} {f : Addr} {fd : FuncData} {ps : List Str} {sp : QF} {x : Str} {e : Expr} {es : List Expr} {qa : QA} {p pos : Pos}
def qCall (sp : QF) (qa : QA) : QE := fun loc S P E => qa loc S (fun ds S1 => sp ds S1 P E) E
theorem call_imp {K : PySem.W.Frag} {σ : L2.St} {H : Hp} {Q : VK} (h : lift K W (qCall sp qa) σ H Q) : tCallS (liftF K sp) (WE W) (liftA K W qa) σ H Q := by
  obtain ⟨loc, S, P, E, rl, rep, hq, g, gx⟩ := h
  refine ⟨loc, S, _, E, rl, rep, hq, fun ds S1 vs H1 q1 k1 rep1 r1 => ?_, gx⟩
  exact ⟨ds, S1, P, E, r1, rep1, q1, g.keep k1, fun y S' H' c d ey kk rep' rx => gx y S' H' c d ey (k1.trans kk) rep' rx⟩
theorem de_call (F : FnP X.prog X.w X.K X.mg X.base k f fd ps sp) (hr : Room k X.A) (hg : Gl X x) (hm : X.mg x = some (.ref f)) (hk : PySem.W.keepIn X.K (.ref f) = true) (hb : Binds X.K fd ps [])
    (ha : DA X (e :: es) qa) (hdb : (x == ("__debug__" : Str)) = false := by decide) (he : starEach (e :: es) X.env = (false, eval e X.env) :: starEach es X.env := by rfl) (hpl : (backTo pos (starEach es X.env)).any (·.1) = false := by rfl) :
    DE X (.Call (.Name x p) (e :: es) [] pos) (qCall sp qa) := fun W tk =>
  PE.imp (pe_callS F hr hg hm hk hb (fun σ => L2N.passAt tk σ) (ha W tk) hdb he hpl) fun σ H Q h => call_imp h
/-- a call of a def that wants no guard of repr -/
theorem run_fnG {pins : List (Addr × Obj)} {s : Shared} {Q : VK} {us : List Value} {vs : List V} (F : FnG X.prog X.w X.K X.mg X.base k f fd ps sp) (hr : Room k X.A) (hG : X.A.guards = some []) (hb : Binds X.K fd ps []) (tk : L2N.Takes X W)
    (I : Inv X pins σ H s) (r : Vals vs us) (h : liftF X.K sp vs H Q (WE W σ)) : wpAny (model X.prog X.w) X.A (call (.ref f) us) (EP X pins σ Q) X.xe s := by
  have hl : us.length = ps.length := by
    obtain ⟨ds, S, P, PE, rv, _, h, _⟩ := h
    rw [← r.length, ← rv.length]
    exact F.len _ _ _ _ h
  have b := hb s us I.kIn (by rw [List.append_nil]; exact hl)
  rw [List.append_nil] at b
  refine wpAny_call (codeAny_mono (F.run X.A X.stack s H ⟨us, []⟩ us vs Q (WE W σ) hr hG I.env0 b r h) fun res s' hq => ?_)
  match res, hq with
  | .error e, hq => exact L2N.passAt tk σ pins H s e s' I hq
  | .ok (.ret u), hq => exact I.after hq
  | .ok .next, hq => exact False.elim hq
  | .ok .brk, hq => exact False.elim hq
  | .ok .cont, hq => exact False.elim hq
theorem de_callG (F : FnG X.prog X.w X.K X.mg X.base k f fd ps sp) (hr : Room k X.A) (hG : X.A.guards = some []) (hg : Gl X x) (hm : X.mg x = some (.ref f)) (hk : PySem.W.keepIn X.K (.ref f) = true) (hb : Binds X.K fd ps [])
    (ha : DA X (e :: es) qa) (hdb : (x == ("__debug__" : Str)) = false := by decide) (he : starEach (e :: es) X.env = (false, eval e X.env) :: starEach es X.env := by rfl) (hpl : (backTo pos (starEach es X.env)).any (·.1) = false := by rfl) :
    DE X (.Call (.Name x p) (e :: es) [] pos) (qCall sp qa) := fun W tk => by
  refine PE.imp (t := tCallS (liftF X.K sp) (WE W) (liftA X.K W qa)) ⟨fun pins s σ H Q I h => ?_⟩ fun σ H Q h => call_imp h
  refine wpAny_Call_Name_kw (ld_glob I hg hm ?_ hdb)
  refine PySem.W.callWith_K (h₀ := X.base) I.ok.mod.kin hk (thn ((ha W tk).run pos pins s σ H _ I h) fun us s1 hh => ?_) he hpl
  obtain ⟨vs, H1, I1, r, q⟩ := hh
  exact ⟨I1.kIn, run_fnG F hr hG hb tk I1 r q⟩

/-! ## raise X('..') -/
def sRaise (C : Addr) : QS := fun P loc S => P.ex { cls := C } loc S
/-- what is known of an exception class of the program without own __init__ -/
structure ExcT (K : PySem.W.Frag) (mg : Str → Option Value) (x : Str) (C : Addr) : Prop where
  gC : mg x = some (.ref C)
  ex : PySem.W.excIn K C [.type "ValueError", .type "Exception", .type "BaseException", .type "object"] "ValueError.__new__" = true
  kC : PySem.W.keepIn K (.ref C) = true
  sub : PySem.W.subIn K (.ref C) (.type "BaseException") = some true
  ty : PySem.W.typeIn K (.ref C) = some (.type "type")
theorem ds_raise {C : Addr} {m : Str} {j : Nat} {p2 pos2 : Pos} (hc : X.calm = true) (T : ExcT X.K X.mg x C) (hg : Gl X x) (hdb : (x == ("__debug__" : Str)) = false := by decide) :
    DS X (.Raise (some (.Call (.Name x p) [.Constant (.str m) j p2] [] pos)) none pos2) (sRaise C) := fun W tk => by
  refine PS.imp (L2N.ps_raise hc tk (L2N.pmk_own PySem.F.excBase_ValueError T.ex T.gC T.kC (raises_own T.sub T.ty) hg hdb)) fun D σ H h => ?_
  obtain ⟨loc, S, P, rl, rep, hq, g⟩ := h
  exact g.ex _ _ _ _ _ _ _ hq Keep.refl rl rep ⟨rfl, rfl⟩

/-! ## comprehensions -/
/-- a clause's tests -/
def DTs (X : Cx) (ifs : List Expr) (q : QT) : Prop := ∀ W, L2N.Takes X W → PTs X ifs (liftT X.K W q)
def qYes : QT := fun _ S P _ => P true S
theorem dts_nil : DTs X [] qYes := fun W _ => ⟨fun pins s σ H Q I h => pts_nil.run pins s σ H Q I (by
  obtain ⟨loc, S, P, E, rl, rep, q, g, _⟩ := h
  exact g _ _ _ q Keep.refl rep)⟩
theorem dts_one {c : Expr} {t : QT} (h : DT X c t) : DTs X [c] t := fun W tk => pts_one (h W tk)
theorem wipe_get (σ : L2.St) (j : Nat) : ∀ vs : List Nat, (L2.wipe σ vs)[j]? = if j ∈ vs then (σ[j]?).map (fun _ => none) else σ[j]?
  | [] => by simp [L2.wipe]
  | v :: vs => by
    have ih := wipe_get σ j vs
    have hl := L2.wipe_length σ vs
    unfold L2.wipe
    by_cases e : v = j
    · subst e
      by_cases h : v < σ.length
      · rw [List.getElem?_set_self (by rw [hl]; exact h), if_pos (List.mem_cons_self ..), List.getElem?_eq_getElem h]
        rfl
      · rw [List.getElem?_eq_none (by simp [hl]; omega), if_pos (List.mem_cons_self ..), List.getElem?_eq_none (by omega)]
        rfl
    · rw [List.getElem?_set_ne e, ih]
      by_cases h : j ∈ vs
      · rw [if_pos h, if_pos (List.mem_cons_of_mem _ h)]
      · rw [if_neg h, if_neg (fun z => (List.mem_cons.mp z).elim (fun q => e q.symm) h)]
theorem wipe_eq {σ τ : L2.St} {vs : List Nat} (hl : σ.length = τ.length) (h : ∀ j, j ∉ vs → σ[j]? = τ[j]?) : L2.wipe σ vs = L2.wipe τ vs := by
  refine List.ext_getElem? fun j => ?_
  rw [wipe_get, wipe_get]
  by_cases hj : j ∈ vs
  · rw [if_pos hj, if_pos hj]
    by_cases h1 : j < σ.length
    · rw [List.getElem?_eq_getElem h1, List.getElem?_eq_getElem (by rw [← hl]; exact h1)]
      rfl
    · rw [List.getElem?_eq_none (by omega), List.getElem?_eq_none (by omega)]
  · rw [if_neg hj, if_neg hj, h j hj]
theorem wipe_set {σ : L2.St} {vs : List Nat} {i : Nat} {v : Option V} (hi : i ∈ vs) : L2.wipe (σ.set i v) vs = L2.wipe σ vs :=
  wipe_eq (by simp) fun j hj => List.getElem?_set_ne (fun e => hj (by rw [← e]; exact hi))
theorem wipe_wipe {σ : L2.St} {vs : List Nat} : L2.wipe (L2.wipe σ vs) vs = L2.wipe σ vs :=
  wipe_eq (L2.wipe_length ..) fun j hj => by rw [wipe_get, if_neg hj]
/-- a target that stores the block's own names alone -/
def liftGo (K : PySem.W.Frag) (own : List Nat) (q : QG) : TG := fun v σ H Q => ∃ d loc S P, RV K H d v ∧ RL K H loc σ ∧ Rep K S H ∧ q d loc S P (fun _ _ => False) ∧
  ∀ loc' S' σ' H', P loc' S' → Keep K H H' → RL K H' loc' σ' → Rep K S' H' → L2.wipe σ' own = L2.wipe σ own → Q σ' H'
def liftGos (K : PySem.W.Frag) (own : List Nat) (q : QGs) : TGs := fun vs σ H Q => ∃ ds loc S P, RVs K H ds vs ∧ RL K H loc σ ∧ Rep K S H ∧ q ds loc S P (fun _ _ => False) ∧
  ∀ loc' S' σ' H', P loc' S' → Keep K H H' → RL K H' loc' σ' → Rep K S' H' → L2.wipe σ' own = L2.wipe σ own → Q σ' H'
def DGo (X : Cx) (t : Expr) (own : List Nat) (q : QG) : Prop := PG X t (liftGo X.K own q)
def DGos (X : Cx) (ts : List Expr) (own : List Nat) (q : QGs) : Prop := PGs X ts (liftGos X.K own q)
theorem dgo_name {i : Nat} {x : Str} {own : List Nat} (hN : X.N.Nodup) (hi : X.N[i]? = some x) (ho : i ∈ own) (hx : L2.Loc X.env.scope x) (hf : X.fn x = true ∨ X.env.scope.names.lookup x = some .local := by first | exact .inl rfl | exact .inr rfl | assumption) : DGo X (.Name x pos) own (gN i) := by
  refine PG.imp (pg_name hN hi hx hf) fun v σ H Q h => ?_
  obtain ⟨d, loc, S, P, rv, rl, rep, hq, g⟩ := h
  exact g _ _ _ _ hq Keep.refl (rl.set rv i) rep (wipe_set ho)
theorem dgos_nil {own : List Nat} : DGos X [] own gE := by
  refine PGs.imp pgs_nil fun v σ H Q h => ?_
  obtain ⟨ds, loc, S, P, rv, rl, rep, ⟨e, hq⟩, g⟩ := h
  subst e
  exact ⟨RVs.nil_iff.mp rv, g _ _ _ _ hq Keep.refl rl rep rfl⟩
theorem dgos_cons {own : List Nat} {e : Expr} {es : List Expr} {t : QG} {u : QGs} (h1 : DGo X e own t) (h2 : DGos X es own u)
    (hs : (assignEach (e :: es) X.env).map (·.2) = assign e X.env :: (assignEach es X.env).map (·.2) := by rfl) : DGos X (e :: es) own (gC t u) := by
  refine PGs.imp (pgs_cons h1 h2 hs) fun v σ H Q h => ?_
  obtain ⟨ds, loc, S, P, rv, rl, rep, hq, g⟩ := h
  cases ds with
  | nil => exact (show False from hq).elim
  | cons d r =>
    unfold RVs at rv
    obtain ⟨w, ws, e, r1, r2⟩ := rv
    refine ⟨w, ws, e, d, loc, S, _, r1, rl, rep, hq, fun loc' S' σ' H' p k rl' rep' hw => ?_⟩
    exact ⟨r, loc', S', P, RVs.keep k _ _ r2, rl', rep', p, fun l2 S2 σ2 H2 p2 k2 rl2 rep2 hw2 => g l2 S2 σ2 H2 p2 (k.trans k2) rl2 rep2 (hw2.trans hw)⟩
theorem dgo_tup {own : List Nat} {es : List Expr} {j : Nat} {t : QGs} {n : Nat} (hc : X.calm = true) (h : DGos X es own t)
    (hn : (assignEach es X.env).length = n := by rfl) (hst : (assignEach es X.env).findIdx? (·.1) = none := by rfl) : DGo X (.Tuple es j pos) own (gT n t) := by
  refine PG.imp (pg_tup hc h hn hst) fun v σ H Q h => ?_
  obtain ⟨d, loc, S, P, rv, rl, rep, hq, g⟩ := h
  cases d with
  | tup xs =>
    obtain ⟨a, vs, e, s, r⟩ := rv_tup rv
    exact ⟨a, vs, e, s, by rw [← r.length]; exact hq.1, xs, loc, S, P, r, rl, rep, hq.2, g⟩
  | _ => exact (show False from hq).elim
/-- [elt for target in iter if ..]: V by the turn, what is made so far, the store (the new list stands in it) -/
def qLc (it : QI) (g : QG) (tt : QT) (te : QE) (own : List Nat) : QE := fun loc S P E => it loc S (fun src S1 => ∀ p, S1 p = none → ∃ V : Nat → List D → Sto → Prop, V 0 [] (ups S1 p (.lst [])) ∧
  (∀ i d acc S, src.items[i]? = some d → V i acc S → src.ok S ∧ g d (wipeD loc own) S (fun loc' S' => tt loc' S' (fun b S2 => if b = true then
    te loc' S2 (fun y S3 => S3 p = some (.lst acc) ∧ acc.length < sizeLine ∧ V (i + 1) (acc ++ [y]) (ups S3 p (.lst (acc ++ [y])))) fun _ _ => False else V (i + 1) acc S2) fun _ _ => False) fun _ _ => False) ∧
  ∀ acc S, V src.items.length acc S → src.ok S ∧ P (.ref p) S) E
theorem noX {K : PySem.W.Frag} {σ : L2.St} {H : Hp} {W : WX} : GoX K H σ (fun _ _ => False) W := fun _ _ _ _ _ z => z.elim
theorem lc_imp {it : QI} {g : QG} {tt : QT} {te : QE} {own : List Nat} {σ : L2.St} {H : Hp} {Q : VK} (h : lift X.K W (qLc it g tt te own) σ H Q) :
    tLc (liftI X.K W it) (liftGo X.K own g) (liftT X.K (fun _ _ _ _ => False) tt) (lift X.K (fun _ _ _ _ => False) te) own σ H Q := by
  obtain ⟨loc, S, P, E, rl, rep, hq, go, gx⟩ := h
  refine ⟨loc, S, _, E, rl, rep, hq, fun src S1 H1 J q1 k1 rep1 rel p np => ?_, gx⟩
  obtain ⟨V, v0, turn, done⟩ := q1 p (rep1.free np)
  refine ⟨fun i m H' => m = src.items.length - i ∧ i ≤ src.items.length ∧ ∃ acc S', Keep X.K H1 H' ∧ Rep X.K S' H' ∧ V i acc S', ⟨src.items.length, by simp, Nat.zero_le _, [], _, Keep.new np, rep1.newL np (RVs.nil_iff.mpr rfl), v0⟩, ?_⟩
  rintro i m H2 ⟨rfl, hle, acc, S2, k2, rep2, v2⟩
  by_cases hlt : i < src.items.length
  · have hd : src.items[i]? = some src.items[i] := List.getElem?_eq_getElem hlt
    obtain ⟨ok, t⟩ := turn i _ acc S2 hd v2
    refine .inr ⟨rel.go i _ S2 H2 hd ok k2 rep2, fun H' => ∃ acc S', Keep X.K H1 H' ∧ Rep X.K S' H' ∧ V (i + 1) acc S', fun H' z => ⟨src.items.length - (i + 1), by omega, rfl, hlt, z⟩, fun x H3 y => ?_⟩
    obtain ⟨k3, rep3, rv3⟩ := rel.yld i _ S2 H2 x H3 hd ok k2 rep2 y
    have rl3 := ((rl.keep (k1.trans (k2.trans k3))).wipe own)
    refine ⟨src.items[i], wipeD loc own, S2, _, rv3, rl3, rep3, t, fun loc4 S4 σ4 H4 q4 k4 rl4 rep4 hw => ?_⟩
    refine ⟨by rw [hw, wipe_wipe], loc4, S4, _, _, rl4, rep4, q4, fun b S5 H5 q5 k5 rep5 => ?_, noX⟩
    cases b with
    | true =>
      refine iteT ?_
      refine ⟨loc4, S5, _, _, rl4.keep k5, rep5, q5, fun yd S6 yv H6 q6 k6 rep6 ry => ?_, noX⟩
      obtain ⟨e6, hz, v6⟩ := q6
      obtain ⟨us, f6, ru⟩ := rep6 _ _ e6
      refine ⟨us, f6, by rw [← ru.length]; exact hz, acc ++ [yd], _, ?_, rep6.setL f6 (ru.append (RVs.one ry)), v6⟩
      exact k2.trans (k3.trans (k4.trans (k5.trans (k6.trans (keepL f6)))))
    | false =>
      refine iteF ?_
      exact ⟨acc, S5, k2.trans (k3.trans (k4.trans k5)), rep5, q5⟩
  · have e : i = src.items.length := by omega
    subst e
    obtain ⟨ok, n⟩ := done acc S2 v2
    exact .inl ⟨rel.stop _ S2 H2 rfl ok k2 rep2, go _ _ _ _ n (k1.trans k2) rep2 rv_ofR⟩
theorem de_lc {elt tg iter : Expr} {ifs : List Expr} {scope : Scope} {own : List (Str × Nat)} {it : QI} {g : QG} {tt : QT} {te : QE} (hc : X.calm = true) (hN : X.N.Nodup) (hi : DI X tg iter it) (ok : BlkOk X.N X.env.scope scope own)
    (hg : ∀ (s : Shared) (H : Hp) (C : Addr) (cl : List (Str × Addr)) (fp : List Addr), DGo (X.blk s H scope (compEnvC scope cl C X.env) fp) tg (own.map (·.2)) g) (ht : ∀ (s : Shared) (H : Hp) (C : Addr) (cl : List (Str × Addr)) (fp : List Addr), DTs (X.blk s H scope (compEnvC scope cl C X.env) fp) ifs tt)
    (he : ∀ (s : Shared) (H : Hp) (C : Addr) (cl : List (Str × Addr)) (fp : List Addr), DE (X.blk s H scope (compEnvC scope cl C X.env) fp) elt te) (hs : ∀ x, foldedSetIterable iter X.env x = pure x := by intro _; rfl) :
    DE X (.ListComp elt [⟨tg, iter, ifs, 0⟩] scope pos) (qLc it g tt te (own.map (·.2))) := fun W tk =>
  PE.imp (pe_lc (g := liftGo X.K (own.map fun (x : Str × Nat) => x.2) g) (tt := liftT X.K (fun _ _ _ _ => False) tt) (te := lift X.K (fun _ _ _ _ => False) te) hc hN (hi W tk) ok hg (fun s H C cl fp => ht s H C cl fp _ takes0) (fun s H C cl fp => he s H C cl fp _ takes0) hs) fun σ H Q h => lc_imp h
theorem ds_setLc {i : Nat} {y : Str} {py : Pos} {elt tg iter : Expr} {ifs : List Expr} {scope : Scope} {own : List (Str × Nat)} {spos : Pos} {it : QI} {g : QG} {tt : QT} {te : QE} (hc : X.calm = true) (hN : X.N.Nodup) (hy : X.N[i]? = some y) (hyl : X.env.scope.names.lookup y = some .local)
    (hsw : swapsWith (.ListComp elt [⟨tg, iter, ifs, 0⟩] scope pos) (some (.Name y py)) spos.line X.env = pure true) (hi : DI X tg iter it) (ok : BlkOk X.N X.env.scope scope own)
    (hg : ∀ (s : Shared) (H : Hp) (C : Addr) (cl : List (Str × Addr)) (fp : List Addr), DGo (X.blk s H scope (compEnvC scope cl C X.env) fp) tg (own.map (·.2)) g) (ht : ∀ (s : Shared) (H : Hp) (C : Addr) (cl : List (Str × Addr)) (fp : List Addr), DTs (X.blk s H scope (compEnvC scope cl C X.env) fp) ifs tt)
    (he : ∀ (s : Shared) (H : Hp) (C : Addr) (cl : List (Str × Addr)) (fp : List Addr), DE (X.blk s H scope (compEnvC scope cl C X.env) fp) elt te) (hs : ∀ x, foldedSetIterable iter X.env x = pure x := by intro _; rfl) :
    DS X (.Assign [.Name y py] (.ListComp elt [⟨tg, iter, ifs, 0⟩] scope pos) spos) (sSet i (qLc it g tt te (own.map (·.2)))) := fun W tk => by
  refine PS.imp (ps_setLc (g := liftGo X.K (own.map fun (x : Str × Nat) => x.2) g) (tt := liftT X.K (fun _ _ _ _ => False) tt) (te := lift X.K (fun _ _ _ _ => False) te) hc hN hy hyl hsw (hi W tk) ok hg (fun s H C cl fp => ht s H C cl fp _ takes0) (fun s H C cl fp => he s H C cl fp _ takes0) hs) fun D σ H h => ?_
  obtain ⟨loc, S, P, rl, rep, hq, go⟩ := h
  refine lc_imp (W := W) ⟨loc, S, _, _, rl, rep, hq, fun d S1 v H1 q1 k1 rep1 r1 => ?_, go.gx rl⟩
  exact go.nx _ _ _ _ q1 k1 ((rl.keep k1).set r1 i) rep1
end
end PL

namespace PL
open PySem PySem.Spec PyProof.Rows L2 -- the layers
/-! ## a lambda without parameters, handed to a def of the top -/
/-- the tables of code objects that the store tells are just those of T -/
def TabOk (T : List (Addr × Str)) (S : Sto) : Prop := (∀ p ∈ T, S p.1 = some (.tab p.2)) ∧ ∀ a q, S a = some (.tab q) → (a, q) ∈ T
theorem TabOk.new {T : List (Addr × Str)} {S : Sto} (t : TabOk T S) {p : Addr} {ds : List D} (n : S p = none) : TabOk T (ups S p (.lst ds)) := by
  refine ⟨fun q hq => ?_, fun a q h => ?_⟩
  · rw [ups_ne (sto_ne (t.1 q hq) n)]
    exact t.1 q hq
  · by_cases e : a = p
    · subst e
      rw [ups_same] at h
      cases h
    · rw [ups_ne e] at h
      exact t.2 a q h
theorem TabOk.set {T : List (Addr × Str)} {S : Sto} (t : TabOk T S) {p : Addr} {ds us : List D} (n : S p = some (.lst us)) : TabOk T (ups S p (.lst ds)) := by
  refine ⟨fun q hq => ?_, fun a q h => ?_⟩
  · have ne : q.1 ≠ p := fun z => by
      have := t.1 q hq
      rw [z, n] at this
      cases this
    rw [ups_ne ne]
    exact t.1 q hq
  · by_cases e : a = p
    · subst e
      rw [ups_same] at h
      cases h
    · rw [ups_ne e] at h
      exact t.2 a q h
theorem Rep.tabs {K : PySem.W.Frag} {T : List (Addr × Str)} {S : Sto} {H : Hp} (r : Rep K S H) (t : TabOk T S) : LamX.Tabs T H := fun p hp => r p.1 _ (t.1 p hp)
theorem ExtN.keep {K : PySem.W.Frag} {H H1 : Hp} (e : LamX.ExtN H H1) : Keep K H H1 := by
  refine ⟨fun a vs h => ?_, fun a o u h => e _ _ h (fun _ z => by cases z)⟩
  rcases h with (h | ⟨o, h⟩) | h
  · exact .inl (.inl (e _ _ h (fun _ z => by cases z)))
  · exact .inl (.inr ⟨o, e _ _ h (fun _ z => by cases z)⟩)
  · exact .inr h
theorem Rep.extN {K : PySem.W.Frag} {T : List (Addr × Str)} {S : Sto} {H H1 : Hp} (r : Rep K S H) (t : TabOk T S) (e : LamX.ExtN H H1) (t1 : LamX.Tabs T H1) : Rep K S H1 := fun a o h => by
  have z := r a o h
  cases o with
  | lst ds =>
    obtain ⟨vs, h1, q⟩ := z
    exact ⟨vs, e _ _ h1 (fun _ w => by cases w), RVs.keep (ExtN.keep e) _ _ q⟩
  | tab q => exact t1 (a, q) (t.2 a q h)
  | cod q => exact e _ _ z (fun _ w => by unfold LamX.CodeO at w; cases w)
theorem Un.keepP {K : PySem.W.Frag} {fs ex : List Addr} {H H' : Hp} {h h' : Heap} (u : Un fs ex H H' h h') : Keep K H H' := by
  refine ⟨fun a vs z => ?_, fun a o w z => u.frzs _ _ _ z⟩
  rcases z with (z | ⟨o, z⟩) | z
  · exact .inl (.inl (u.tups _ _ z))
  · exact .inl (.inr ⟨o, u.frzs _ _ _ z⟩)
  · exact .inr z
/-- the context of a lambda's body; what leaves it was raised where nothing was handled -/
def lamN (X : Cx) (A : Around) (outer : List Env) (s : Shared) (H : Hp) (E : XK) (scope : Scope) (f c' : Addr) : Cx :=
  (LamX.lamCx X A outer s H E scope f c').wish fun e s' => wpAny (model X.prog X.w) (A.deeper (LamX.lamEnv X scope s.heap.objs.size f c')) (leaving (LamX.lamEnv X scope s.heap.objs.size f c') e)
    (fun _ s2 => L2N.CX X.prog X.w outer H s E e s2) (fun e2 s2 => L2N.CX X.prog X.w outer H s E e2 s2) s'
/-- the context of the def that got the lambda -/
abbrev gotCx (X : Cx) (Ng : List Str) (qg : Str) (sg : Scope) (g : Addr) (cdg : Value) (A : Around) (outer : List Env) (s : Shared) (H : Hp) (E : XK) : Cx := cxOf (L2N.CX X.prog X.w) X.prog X.w X.K X.mg X.base Ng qg sg g cdg A outer s H E
def qAct (f c' : Addr) (nm : Str) (loc : Loc) (q : QE) : QE := fun locZ S P E => locZ[0]? = some (some (.ref f)) ∧ S c' = some (.cod nm) ∧ q loc S P E
section
variable {X : Cx} {pins : List (Addr × Obj)} {σ : L2.St} {H HZ : Hp} {s s1 : Shared}
theorem de_act {Eg : XK} {Ng : List Str} {qg : Str} {sg : Scope} {g f c' : Addr} {cdg pm ctv : Value} {params : Arguments} {body : Expr} {scope : Scope} {k : Nat} {a : Str} {pn : List (Addr × Obj)} {xe : Value → Shared → Prop} {q : QE} {loc : Loc} {p1 p2 : Pos}
    (I : Inv X pins σ H s) (L : LamX.LamS X.env.scope scope) (hf : s.heap.get? f = some (PySem.W.kla_obj "<lambda>" (X.env.qual ++ "<lambda>") params body scope (cloFrom X.env.cells scope.names []) pm c' ctv)) (hfn : H f = none) (hfr : f ∉ frs X.stack) (rl : RL X.K H loc σ)
    (hbind : bindArgs (PySem.W.kla_fn "<lambda>" (X.env.qual ++ "<lambda>") params body scope (cloFrom X.env.cells scope.names []) pm (.ref c') ctv) ⟨[], []⟩ = pure [])
    (hr : Room (k + 1) (X.A.deeper (envOfC qg sg s.heap.objs.size g cdg)))
    (hbody : ∀ (A : Around) (outer : List Env) (s : Shared) (H : Hp) (E : XK), Room k (A.deeper (LamX.lamEnv X scope s.heap.objs.size f c')) → DE (lamN X A outer s H E scope f c') body q)
    (hN : Ng[0]? = some a) (hv : Vis sg a) (hd : (a == ("__debug__" : Str)) = false := by decide) (hcd : (a == ("__classdict__" : Str)) = false := by decide) :
    DE ((gotCx X Ng qg sg g cdg X.A X.stack s H Eg).tr pn xe) (.Call (.Name a p1) [] [] p2) (qAct f c' (X.env.qual ++ "<lambda>") loc q) := fun W tk => by
  refine ⟨fun pinsZ sZ σZ HZ Q IZ h => ?_⟩
  obtain ⟨locZ, SZ, P, E, rlZ, repZ, ⟨h0, hcod, hq⟩, go, gx⟩ := h
  obtain ⟨vf, e0, rvf⟩ := rlZ.at_ 0 _ h0
  rw [rv_ref rvf] at e0
  refine wpAny_Call_Name_kw (thn ((pe_var (pos := p1) (i := 0) hN hv hd hcd).run pinsZ sZ σZ HZ (fun v H1 => v = .ref f ∧ H1 = HZ) IZ ⟨.ref f, e0, rfl, rfl⟩) fun u s1 hu => ?_)
  obtain ⟨v, H1, I1, r1, ev, eH⟩ := hu
  subst ev
  rw [eH] at I1
  obtain rfl : u = Value.ref f := r1
  have un : Un (frs X.stack) [] H HZ s.heap s1.heap := I1.base
  have kZ : Keep X.K H HZ := Un.keepP un
  have of1 : s1.heap.get? f = some (PySem.W.kla_obj "<lambda>" (X.env.qual ++ "<lambda>") params body scope (cloFrom X.env.cells scope.names []) pm c' ctv) := un.keep f _ hf hfn hfr (by simp)
  refine PySem.W.callWith_F0 ⟨_, _, _, _, of1⟩ ?_
  have hco : HZ c' = some (LamX.CodeO c' (X.env.qual ++ "<lambda>")) := repZ c' _ hcod
  have hob := I1.hok c' _ hco
  obtain ⟨⟨oc, vs, t, hoc, hdc, hvc⟩, _, _⟩ := hob
  have rc : codeAny (model X.prog X.w) (X.A.deeper (envOfC qg sg s.heap.objs.size g cdg)) (.call (.ref f) ⟨[], []⟩) (CR (L2N.CX X.prog X.w) (envOfC qg sg s.heap.objs.size g cdg :: X.stack) X.prog X.w HZ s1 Q (WE W σZ)) s1 := by
    refine PySem.W.kla_callFunE hr.depth of1 rfl L.co L.gen rfl ⟨c', oc, vs, t, rfl, hoc, hdc, hvc⟩ ?_
    rw [hbind]
    refine wpAny_pure (wpAny_newFunctionEnv (fun y hy => (L.own y hy).2) (fun y hy => absurd hy (by simp)) (fun h₁ hns hsb => ⟨I1.nolimit.fresh _ hsb, ?_⟩) L.kind)
    show codeAny _ _ (.expr body (LamX.lamEnv X scope s1.heap.objs.size f c')) _ _
    have kp : ∀ b o, s1.heap.get? b = some o → h₁.get? b = some o := fun b o e => hsb.extBut b o (Nat.ne_of_lt (Heap.lt_size e)) (Heap.get?_push_of_some _ e)
    have J0 := LamX.lam_start2 (A := X.A.deeper (envOfC qg sg s.heap.objs.size g cdg)) (outer := envOfC qg sg s.heap.objs.size g cdg :: X.stack) (f := f) (c' := c') (tk := s1.toks + ([] : List (Str × Value)).length) (E := WE W σZ) I L I1.env0 hr.hd un hns kp
    have J : Inv (lamN X (X.A.deeper (envOfC qg sg s.heap.objs.size g cdg)) (envOfC qg sg s.heap.objs.size g cdg :: X.stack) s1 HZ (WE W σZ) scope f c') [] σ HZ { s1 with heap := h₁, toks := s1.toks + ([] : List (Str × Value)).length } := J0.wish _
    have pb := hbody (X.A.deeper (envOfC qg sg s.heap.objs.size g cdg)) (envOfC qg sg s.heap.objs.size g cdg :: X.stack) s1 HZ (WE W σZ) (hr.deeper _) (fun c d _ H' => WE W σZ c d H') (L2N.takes_of rfl rfl rfl rfl)
    refine PySem.W.kla_codeExpr (wpAny_mono (pb.run [] _ σ HZ Q J ⟨loc, SZ, P, E, rl.keep kZ, repZ, hq, go, fun x S' H' c d ex k rep rx => gx x S' H' c d ex k rep rx⟩) (fun v s' hq => ?_) fun e s' hq => hq)
    obtain ⟨w', H', J', rv, q⟩ := hq
    exact ⟨w', H', J'.os, J'.bare, J'.base, J'.hok, rv, q⟩
  refine wpAny_call (codeAny_mono rc fun r s' hq => ?_)
  match r, hq with
  | .error e, hq => exact L2N.passAt tk σZ pinsZ HZ s1 e s' I1 hq
  | .ok (.ret u), hq => exact I1.after hq
  | .ok .next, hq => exact False.elim hq
  | .ok .brk, hq => exact False.elim hq
  | .ok .cont, hq => exact False.elim hq
/-- the reading of x(lambda: ..): qB what x makes of its parameter's call, q the lambda's -/
def qLam (T : List (Addr × Str)) (Ng : List Str) (nm : Str) (qB : QE → QS) (q : QE) : QE := fun loc S P _ => TabOk T S ∧ ∀ f c' S1, Sub S S1 → S1 c' = some (.cod nm) → TabOk T S1 → qB (qAct f c' nm loc q) (endsF P fun _ _ => False) (startD Ng [.ref f]) S1
theorem de_lam {T : List (Addr × Str)} {qB : QE → QS} {x a : Str} {g c P : Addr} {k : Nat} {pg : Arguments} {bg : List Stmt} {sg : Scope} {dV kV doc pm cdv ct oc : Value} {an od : Option Addr} {osl : Array (Option Value)} {Ng : List Str}
    {params : Arguments} {body : Expr} {scope : Scope} {q : QE} {p lpos pos : Pos} (hg : Gl X x) (hm : X.mg x = some (.ref g)) (hk : PySem.W.keepIn X.K (.ref g) = true)
    (lk : X.K.lookup g = some ⟨oc, od, .func (PySem.W.fnOf x x pg bg sg dV kV doc pm an cdv ct), osl⟩) (hcg : PySem.W.codeIn X.K cdv x = true) (hb : L2.Binds X.K (PySem.W.fnOf x x pg bg sg dV kV doc pm an cdv ct) [a] []) (Sg : FnScope Ng [a] sg) (hNg : Ng[0]? = some a) (hva : Vis sg a)
    (hB : ∀ (s : Shared) (H : Hp) (qc : QE), Room (k + 1) (X.A.deeper (envOfC x sg s.heap.objs.size g cdv)) → (∀ (pn : List (Addr × Obj)) (xe : Value → Shared → Prop) (p1 p2 : Pos), DE ((gotCx X Ng x sg g cdv X.A X.stack s H fun _ _ _ => False).tr pn xe) (.Call (.Name a p1) [] [] p2) qc) →
      DB (gotCx X Ng x sg g cdv X.A X.stack s H fun _ _ _ => False) bg (qB qc))
    (TB : LamX.TabB X.base X.mg c P) (hcode : X.env.code = .ref c) (hmT : (P, X.env.qual ++ "<lambda>") ∈ T) (hu : ∀ p ∈ T, p.1 = P → p.2 = X.env.qual ++ "<lambda>") (hr : Room (k + 2) X.A) (L : LamX.LamS X.env.scope scope) (hdef : defaultsOf params X.env = ([], []))
    (hbind : ∀ (q : Str) (cl : List (Str × Addr)) (pm cv ctv : Value), bindArgs (PySem.W.kla_fn "<lambda>" q params body scope cl pm cv ctv) ⟨[], []⟩ = pure [])
    (hbody : ∀ (A : Around) (outer : List Env) (s : Shared) (H : Hp) (E : XK) (f c' : Addr), Room k (A.deeper (LamX.lamEnv X scope s.heap.objs.size f c')) → DE (lamN X A outer s H E scope f c') body q)
    (hdb : (x == ("__debug__" : Str)) = false := by decide) (hd : (a == ("__debug__" : Str)) = false := by decide) (hcd : (a == ("__classdict__" : Str)) = false := by decide) :
    DE X (.Call (.Name x p) [.Lambda params body scope lpos] [] pos) (qLam T Ng (X.env.qual ++ "<lambda>") qB q) := fun W _ => by
  refine ⟨fun pins s σ H Q I h => ?_⟩
  obtain ⟨loc, S, Pd, E, rl, rep, ⟨tok, hq⟩, go, _⟩ := h
  refine wpAny_Call_Name_kw (ld_glob I hg hm ?_ hdb)
  refine PySem.W.callWith_K (h₀ := X.base) I.ok.mod.kin hk ?_ (by rfl) (by rfl)
  show wpAny _ _ (spliced ((false, eval (.Lambda params body scope lpos) X.env) :: backTo pos (starEach [] X.env))) _ _ s
  refine Calls.spliced_cons (LamX.lam_make2 I TB hcode hmT hu (rep.tabs tok) hdef (L.has I.ok) fun f c' pm' ctv H1 s' I1 eN T1 hf hfn hfr hco => ?_)
  refine Calls.spliced_nil ⟨I1.kIn, ?_⟩
  have k1 : Keep X.K H H1 := ExtN.keep eN
  have rep0 : Rep X.K S H1 := rep.extN tok eN T1
  have rep1 : Rep X.K (ups S c' (.cod (X.env.qual ++ "<lambda>"))) H1 := fun b o e => by
    by_cases hb : b = c'
    · subst hb
      rw [ups_same] at e
      cases e
      exact hco
    · rw [ups_ne hb] at e
      exact rep0 b o e
  have sub1 : Sub S (ups S c' (.cod (X.env.qual ++ "<lambda>"))) := fun b o e => by
    by_cases hb : b = c'
    · subst hb
      have z := rep0 _ _ e
      cases o with
      | lst ds =>
        obtain ⟨vs, z, _⟩ := z
        rw [hco] at z
        unfold LamX.CodeO at z
        cases z
      | tab nm =>
        obtain ⟨vs, z, _⟩ := z
        rw [hco] at z
        unfold LamX.CodeO at z
        cases z
      | cod nm =>
        have z : H1 b = some (LamX.CodeO b nm) := z
        have e1 : LamX.CodeO b nm = LamX.CodeO b (X.env.qual ++ "<lambda>") := Option.some.inj (z.symm.trans hco)
        have o1 := I1.hok b _ hco
        have o2 := I1.hok b _ z
        obtain ⟨⟨oc1, vs1, t1, a1, a2, a3⟩, _, _⟩ := o1
        obtain ⟨⟨oc2, vs2, t2, b1, b2, b3⟩, _, _⟩ := o2
        rw [a1] at b1
        cases b1
        rw [a2] at b2
        cases b2
        rw [a3] at b3
        have e3 : nm = X.env.qual ++ "<lambda>" := by
          have e4 := Option.some.inj b3
          injection e4 with e5 _
          exact e5.symm
        rw [e3, ups_same]
    · rw [ups_ne hb]
      exact e
  have tok1 : TabOk T (ups S c' (.cod (X.env.qual ++ "<lambda>"))) := ⟨fun q hq => sub1 _ _ (tok.1 q hq), fun b o e => by
    by_cases hb : b = c'
    · subst hb
      rw [ups_same] at e
      cases e
    · rw [ups_ne hb] at e
      exact tok.2 b o e⟩
  have rf : RVs X.K H1 [D.ref f] [V.ref f] := RVs.one rv_ofR
  have rc : codeAny (model X.prog X.w) X.A (.call (.ref g) ⟨[.ref f], []⟩) (CR (L2N.CX X.prog X.w) X.stack X.prog X.w H1 s' Q fun _ _ _ => False) s' := by
    refine LamX.run_ofS (N := Ng) (ps := [a]) (us := [.ref f]) (vs := [.ref f]) lk hcg Sg hr I1.env0 (hb s' [.ref f] I1.kIn rfl) (.cons rfl .nil) rfl fun hr' => ?_
    have db := hB s' H1 (qAct f c' (X.env.qual ++ "<lambda>") loc q) hr' fun pn xe p1 p2 => de_act I1 L hf hfn hfr (rl.keep k1) (hbind _ _ _ _ _) hr' (fun A outer s H E hr2 => hbody A outer s H E f c' hr2) hNg hva hd hcd
    refine ⟨_, db (fun c d _ H' => False) (L2N.takes_of rfl rfl rfl rfl), ?_⟩
    exact ⟨startD Ng [.ref f], _, endsF Pd fun _ _ => False, startD_len rf, rep1, hq f c' _ sub1 ups_same tok1, endsF_go (E := fun _ _ _ => False) (go.keep k1) fun _ _ _ _ _ z => z.elim⟩
  refine wpAny_call (codeAny_mono rc fun r s2 hq => ?_)
  match r, hq with
  | .error e, hq =>
    obtain ⟨_, _, _, _, _, _, _, _, _, _, _, _, z⟩ := hq
    exact z.elim
  | .ok (.ret u), hq => exact I1.after hq
  | .ok .next, hq => exact False.elim hq
  | .ok .brk, hq => exact False.elim hq
  | .ok .cont, hq => exact False.elim hq
end
end PL

namespace PL
open PySem PySem.Spec PyProof.Rows L2 -- the layers
/-! ## a list comprehension over a range, where an exception is handled -/
/-- the block's context, the handled exception pinned -/
abbrev hotB (X : Cx) (p : Addr × Obj) (s : Shared) (H : Hp) (scope : Scope) (ce : Env) (fp : List Addr) : Cx := (X.blk s H scope ce fp).tr ([] ++ [p]) fun _ _ => False
section
variable {X : Cx} {p : Addr × Obj}
theorem hot_start {scope : Scope} {own : List (Str × Nat)} {fp : List Addr} {pins : List (Addr × Obj)} {σ : L2.St} {H : Hp} {s : Shared} (hp : p ∈ X.pn) (I : Inv X pins σ H s) (ok : BlkOk X.N X.env.scope scope own) (hN : X.N.Nodup) (hfp : ∀ b ∈ fp, FpOk X pins H b ∧ b < s.heap.objs.size) :
    Inv (hotB X p s H scope (compEnvC scope (cellsFrom (s.heap.objs.size + 1) scope.names (cloFrom X.env.cells scope.names [])) s.heap.objs.size X.env) fp) [] (L2.wipe σ (own.map (·.2))) H { s with heap := pushCells (s.heap.push { cls := .type "dict", data := .dict #[] }) scope.names } := by
  have J := block_start I ok hN hfp
  obtain ⟨e1, e2, e3, e4, e5⟩ := I.pin p (List.mem_append_left _ hp)
  refine Inv.toTry (J.pins_of (pins' := [p]) fun q hq => ?_) _
  obtain rfl := List.mem_singleton.mp hq
  refine ⟨pushCells_keeps _ _ _ _ (Heap.get?_push_of_some _ e1), e2, Nat.ne_of_lt (Heap.lt_size e1), fun z => ?_, e5⟩
  rcases List.mem_cons.mp (I.stkSub _ z) with h | h
  · exact e3 h
  · exact e4 h
theorem lcH {pins : List (Addr × Obj)} {s : Shared} {σ : L2.St} {H : Hp} {Q : VK} {elt tg iter : Expr} {ifs : List Expr} {scope : Scope} {own : List (Str × Nat)} {pos pos' : Pos} {wi : TI} {g : TG} {tt : TT} {te : TE} {use : Option (Value → Sem Unit)} {Qf : Value → Shared → Prop}
    (h1 : L2H.Hot1 X.A p) (hp : p ∈ X.pn) (hN : X.N.Nodup) (I : Inv X pins σ H s) (hi : L2H.PIH X tg iter wi) (ok : BlkOk X.N X.env.scope scope own)
    (hG : ∀ (s : Shared) (H : Hp) (C : Addr) (cl : List (Str × Addr)) (fp : List Addr), PG (hotB X p s H scope (compEnvC scope cl C X.env) fp) tg g)
    (hT : ∀ (s : Shared) (H : Hp) (C : Addr) (cl : List (Str × Addr)) (fp : List Addr), PTs (hotB X p s H scope (compEnvC scope cl C X.env) fp) ifs tt)
    (hE : ∀ (s : Shared) (H : Hp) (C : Addr) (cl : List (Str × Addr)) (fp : List Addr), PE (hotB X p s H scope (compEnvC scope cl C X.env) fp) elt te) (hs : ∀ x, foldedSetIterable iter X.env x = pure x)
    (h : tLc wi g tt te (own.map (·.2)) σ H Q)
    (fin : ∀ D C s' m H', Inv X pins σ H' s' → Q (.ref D) H' → s'.heap.Ns C m → FpOk X pins H' C → compPost (model X.prog X.w) X.A X.xe use Qf (.ref D) C (.ok .next) s') :
    wpAny (model X.prog X.w) X.A (comprehension (.ListComp elt [⟨tg, iter, ifs, 0⟩] scope pos) scope X.env pos' (newList []) false (eval iter X.env) use) Qf X.xe s := by
  have hfree : ∀ y ∈ scope.names, y.2 = .free → ∃ c, X.env.cells.lookup y.1 = some c := fun y hy e => (ok.free y hy e).elim (fun k => I.ok.has _ (.inl k)) fun k => I.ok.has _ (.inr k)
  refine wpAny_comprehension_free (use := use) rfl hs (closure_ok hfree) ok.kind (fun y hy e => by rw [ok.uniq y hy, e]) ?_
  refine thn (hi.run pins s σ H _ I h) fun xv s1 hx => thn hx fun itv s2 h2 => ?_
  obtain ⟨it, fp, tn, J, H2, rfl, I2, T, st2, f2, q⟩ := h2
  refine wpAny_newObj_type (newEnv_comp ?_) (by show 0 ≤ sizeLine; decide)
  -- the new list's address, and the state with it
  obtain ⟨D, hD⟩ : ∃ D, s2.heap.objs.size = D := ⟨_, rfl⟩
  have nD : H2 D = none := I2.hok.fresh (Nat.le_of_eq hD)
  obtain ⟨W, ⟨m0, w0⟩, turn⟩ := q D nD
  have obj0 : ObjOk X.prog X.w (upd H2 D (.lst [])) (s2.heap.push { cls := .type "list", data := .seq ([] : List Value).toArray }) D (.lst []) := ⟨Nat.zero_le _, [], 0, .nil, by rw [← hD]; exact Heap.get?_push_size _ rfl⟩
  have I3 := I2.laid (t' := s2.toks) (fun b o e => Heap.get?_push_of_some _ e) (Nat.le_of_eq hD) obj0
  rw [hD]
  obtain ⟨s3, hs3⟩ : ∃ s3 : Shared, s3 = { s2 with heap := s2.heap.push { cls := .type "list", data := .seq ([] : List Value).toArray } } := ⟨_, rfl⟩
  have hh3 : s3.heap = s2.heap.push { cls := .type "list", data := .seq ([] : List Value).toArray } := by rw [hs3]
  rw [← hs3] at I3
  obtain ⟨H3, hH3⟩ : ∃ H3, H3 = upd H2 D (.lst []) := ⟨_, rfl⟩
  rw [← hH3] at I3 w0
  have small : ∀ b ∈ fp, b < s2.heap.objs.size := fun b hb => by
    obtain ⟨o, e, _⟩ := T.obj _ _ st2 b hb
    exact Heap.lt_size e
  have f3 : ∀ b ∈ fp, FpOk X pins H3 b ∧ b < s3.heap.objs.size := fun b hb => by
    refine ⟨⟨?_, (f2 b hb).2⟩, by rw [hh3, Heap.size_push]; exact Nat.lt_succ_of_lt (small b hb)⟩
    rw [hH3, upd_ne (by rw [← hD]; exact Nat.ne_of_lt (small b hb))]
    exact (f2 b hb).1
  have st3 : tn 0 s3.heap := T.keep _ _ _ st2 fun b _ o e => by rw [hh3]; exact Heap.get?_push_of_some _ e
  have I4 := hot_start hp I3 ok hN f3
  have pg := hG s3 H3 s3.heap.objs.size (cellsFrom (s3.heap.objs.size + 1) scope.names (cloFrom X.env.cells scope.names [])) fp
  have pt := hT s3 H3 s3.heap.objs.size (cellsFrom (s3.heap.objs.size + 1) scope.names (cloFrom X.env.cells scope.names [])) fp
  have pe := hE s3 H3 s3.heap.objs.size (cellsFrom (s3.heap.objs.size + 1) scope.names (cloFrom X.env.cells scope.names [])) fp
  have nfp : ∀ b ∈ fp, H3 b = none := fun b hb => (f3 b hb).1.1
  obtain ⟨ce, hce⟩ : ∃ ce, ce = compEnvC scope (cellsFrom (s3.heap.objs.size + 1) scope.names (cloFrom X.env.cells scope.names [])) s3.heap.objs.size X.env := ⟨_, rfl⟩
  have cL : ce.locals = s3.heap.objs.size := by rw [hce]; rfl
  rw [← hce] at I4 pg pt pe
  have go : codeAny (model X.prog X.w) X.A (.compStart (.ListComp elt [⟨tg, iter, ifs, 0⟩] scope pos) 0 (.ref it) (.ref D) ce) (compPost (model X.prog X.w) X.A X.xe use Qf (.ref D) s3.heap.objs.size) { s3 with heap := pushCells (s3.heap.push { cls := .type "dict", data := .dict #[] }) scope.names } := by
    obtain ⟨s4, hs4⟩ : ∃ s4 : Shared, s4 = { s3 with heap := pushCells (s3.heap.push { cls := .type "dict", data := .dict #[] }) scope.names } := ⟨_, rfl⟩
    rw [← hs4] at I4 ⊢
    have st4 : tn 0 s4.heap := T.keep _ _ _ st3 fun b _ o e => by rw [hs4]; exact pushCells_keeps _ _ _ _ (Heap.get?_push_of_some _ e)
    have hotc : L2H.HotC (hotB X p s3 H3 scope ce fp) := ⟨p, h1, List.mem_append_right _ (List.mem_singleton.mpr rfl)⟩
    have stat : ∀ {σ' : L2.St} {H' : Hp} {s' : Shared}, Inv (hotB X p s3 H3 scope ce fp) [] σ' H' s' → (∀ b ∈ fp, H' b = none) → (∀ b ∈ fp, b ≠ p.1) → ∀ b ∈ fp, FpOk (hotB X p s3 H3 scope ce fp) [] H' b := fun {σ' H' s'} I' hn hne b hb =>
      ⟨hn b hb, (I'.ok.exf b hb).1, I'.ok.exfs b hb, .inl hb, fun x c e => (I'.ok.exf b hb).2 x c e, fun q hq => by
        have hq' : q ∈ ([] ++ [p]) ++ ([] : List (Addr × Obj)) := hq
        have hq2 : q = p := by simpa using hq'
        rw [hq2]
        exact (hne b hb).symm⟩
    have hne : ∀ b ∈ fp, b ≠ p.1 := fun b hb z => (f2 b hb).2.2.2.2.2 p (List.mem_append_left _ hp) z.symm
    have loop : codeAny (model X.prog X.w) X.A (.compLoop (.ListComp elt [⟨tg, iter, ifs, 0⟩] scope pos) 0 (.ref it) (.ref D) ce) (compPost (model X.prog X.w) X.A X.xe use Qf (.ref D) s3.heap.objs.size) s4 := by
      refine compLoop_any (fun n s' => ∃ i H', Inv (hotB X p s3 H3 scope ce fp) [] (L2.wipe σ (own.map (·.2))) H' s' ∧ tn i s'.heap ∧ (∀ b ∈ fp, H' b = none) ∧ W i n H') ?_ m0 ⟨0, H3, I4, st4, nfp, w0⟩
      rintro n s5 ⟨i, H5, I5, st5, n5, w5⟩
      rcases turn i n H5 w5 with ⟨stop, qq⟩ | ⟨goes, Nx, hNx, step⟩
      · refine thnF (T.done (hotB X p s3 H3 scope ce fp) rfl rfl rfl hotc i [] s5 _ H5 (fun _ _ => False) I5 (stat I5 n5 hne) st5 stop) fun r s6 hr => ?_
        obtain ⟨rfl, I6⟩ := hr
        have I7 : Inv X pins σ H5 s6 := I3.call' (ch := fp) I6.os I6.base I6.hok I6.bare fun b hb => ⟨(f3 b hb).1.2.2.2.1, (f3 b hb).1.2.1, (f3 b hb).1.2.2.2.2.1, (f3 b hb).1.2.2.2.2.2⟩
        have nC : H5 s3.heap.objs.size = none := by
          have z : H5 ce.locals = none := I6.free
          rwa [cL] at z
        obtain ⟨m, hn, _⟩ := I6.loc
        have hn' : s6.heap.Ns ce.locals m := hn
        rw [cL] at hn'
        exact fin D s3.heap.objs.size s6 m H5 I7 qq hn' (I3.fpOk (Nat.le_refl _) nC)
      · refine thnF (T.item (hotB X p s3 H3 scope ce fp) rfl rfl rfl hotc i [] s5 _ H5 (fun _ _ => False) I5 (stat I5 n5 hne) st5 goes) fun r s6 hr => ?_
        obtain ⟨u, rfl, h6⟩ := hr
        refine thnF h6 fun _ s7 hh => ?_
        obtain ⟨x, H7, I7, r7, y7, st7, n7⟩ := hh
        have I7' := I7.pinned (stat I7 n7 hne) (T.obj _ _ st7)
        refine thnF (pg.run _ s7 _ H7 x u _ I7' r7 (step x H7 y7)) fun _ s8 hh8 => ?_
        obtain ⟨σ8, H8, I8, hw8, q8⟩ := hh8
        refine thnF (pt.run _ s8 σ8 H8 _ I8 q8) fun b s9 hh9 => ?_
        obtain ⟨H9, I9, q9⟩ := hh9
        have again : ∀ {s' : Shared} {H' : Hp}, Inv (hotB X p s3 H3 scope ce fp) ([] ++ pinsAt fp s7.heap) σ8 H' s' → Nx H' → ∃ m, m < n ∧ ∃ i H', Inv (hotB X p s3 H3 scope ce fp) [] (L2.wipe σ (own.map (·.2))) H' s' ∧ tn i s'.heap ∧ (∀ b ∈ fp, H' b = none) ∧ W i m H' := fun {s' H'} I' nx => by
          obtain ⟨m', hm, w'⟩ := hNx H' nx
          have kept : ∀ b ∈ fp, ∀ o, s7.heap.get? b = some o → s'.heap.get? b = some o ∧ H' b = none := fun b hb o e => by
            have z := I'.pin (b, o) (List.mem_append_right _ (List.mem_append_right _ (mem_pinsAt hb e)))
            exact ⟨z.1, z.2.1⟩
          refine ⟨m', hm, i + 1, H', (I'.unpinned (pins := [])).weak (by rw [← hw8, L2.wipe_length]) (fun j v e => ?_), T.keep _ _ _ st7 fun b hb o e => (kept b hb o e).1, fun b hb => ?_, w'⟩
          · rw [← hw8] at e
            exact (wipe_some e).1
          · obtain ⟨o, e, _⟩ := T.obj _ _ st7 b hb
            exact (kept b hb o e).2
        cases b with
        | false =>
          simp only [Bool.false_eq_true, if_false] at q9 ⊢
          exact again I9 q9
        | true =>
          simp only [if_true] at q9 ⊢
          refine thnF (pe.run _ s9 σ8 H9 _ I9 q9) fun z s10 hh10 => ?_
          obtain ⟨yv, H10, I10, r10, acc, hD10, hz10, nx⟩ := hh10
          exact app_ok (X := hotB X p s3 H3 scope ce fp) I10 hD10 hz10 r10 fun s11 I11 => again I11 nx
    exact codeAny_compStart_list loop (T.self X.A 0 _ _ _ st4 loop)
  rw [hce] at go
  rw [hs3] at go
  exact go
/-- name = [..] over a range, in an except suite -/
def DIH (X : Cx) (tg iter : Expr) (q : QI) : Prop := ∀ W, L2N.Takes X W → L2H.PIH X tg iter (liftI X.K W q)
theorem dih_range1 {tg a : Expr} {qa : QA} {pc pos : Pos} (hg : Gl X "range") (hm : X.mg "range" = none) (ha : DA X [a] qa) (hs : starEach [a] X.env = [(false, eval a X.env)] := by rfl) : DIH X tg (.Call (.Name "range" pc) [a] [] pos) (iRange1 qa) := fun W tk => by
  refine ⟨fun pins s σ H R I h => (L2H.pi_range1H hg hm (ha W tk) hs).run pins s σ H R I ?_⟩
  obtain ⟨loc, S, P, E, rl, rep, hq, g, gx⟩ := h
  refine ⟨loc, S, _, E, rl, rep, hq, fun ds S1 vs H1 q1 k1 rep1 r1 => ?_, gx⟩
  dsimp only at q1
  split at q1
  · obtain ⟨v, e, r2⟩ := rvs_one r1
    exact ⟨_, by rw [e, rv_int r2], q1.1, q1.2.1, g _ _ _ _ q1.2.2 k1 rep1 rel_range⟩
  · exact q1.elim
theorem ds_setLcH {i : Nat} {y : Str} {py pos : Pos} {elt tg iter : Expr} {ifs : List Expr} {scope : Scope} {own : List (Str × Nat)} {spos : Pos} {it : QI} {g : QG} {tt : QT} {te : QE} (h1 : L2H.Hot1 X.A p) (hp : p ∈ X.pn) (hN : X.N.Nodup) (hy : X.N[i]? = some y) (hyl : X.env.scope.names.lookup y = some .local)
    (hsw : swapsWith (.ListComp elt [⟨tg, iter, ifs, 0⟩] scope pos) (some (.Name y py)) spos.line X.env = pure true) (hi : DIH X tg iter it) (ok : BlkOk X.N X.env.scope scope own)
    (hg : ∀ (s : Shared) (H : Hp) (C : Addr) (cl : List (Str × Addr)) (fp : List Addr), DGo (hotB X p s H scope (compEnvC scope cl C X.env) fp) tg (own.map (·.2)) g) (ht : ∀ (s : Shared) (H : Hp) (C : Addr) (cl : List (Str × Addr)) (fp : List Addr), DTs (hotB X p s H scope (compEnvC scope cl C X.env) fp) ifs tt)
    (he : ∀ (s : Shared) (H : Hp) (C : Addr) (cl : List (Str × Addr)) (fp : List Addr), DE (hotB X p s H scope (compEnvC scope cl C X.env) fp) elt te) (hs : ∀ x, foldedSetIterable iter X.env x = pure x := by intro _; rfl) :
    DS X (.Assign [.Name y py] (.ListComp elt [⟨tg, iter, ifs, 0⟩] scope pos) spos) (sSet i (qLc it g tt te (own.map (·.2)))) := fun W tk => by
  refine ⟨fun pins s σ H D I h => ?_⟩
  obtain ⟨loc, S, P, rl, rep, hq, go⟩ := h
  rw [exec_Assign_Name_used _ _ _ _ hsw]
  refine wpAny_bind (wpAny_standAt (wpAny_bind ?_))
  show wpAny _ X.A (do let _ ← comprehension (.ListComp elt [⟨tg, iter, ifs, 0⟩] scope pos) scope X.env (firstIterPos [⟨tg, iter, ifs, 0⟩] pos) (newList []) false (eval iter X.env) (some (assign (.Name y py) X.env))) _ _ s
  have hl : lift X.K W (qLc it g tt te (own.map (·.2))) σ H fun x H1 => gName i x σ H1 D.nx :=
    ⟨loc, S, _, _, rl, rep, hq, fun d S1 v H1 q1 k1 rep1 r1 => go.nx _ _ _ _ q1 k1 ((rl.keep k1).set r1 i) rep1, go.gx rl⟩
  refine wpAny_bind (thn (lcH (g := liftGo X.K (own.map fun (x : Str × Nat) => x.2) g) (tt := liftT X.K (fun _ _ _ _ => False) tt) (te := lift X.K (fun _ _ _ _ => False) te) (Qf := fun _ s' => SP X pins D .next s') h1 hp hN I (hi W tk) ok hg (fun s H C cl fp => ht s H C cl fp _ takes0) (fun s H C cl fp => he s H C cl fp _ takes0) hs (lc_imp hl) fun L C s' m H' I' q hn f => ?_) fun _ s' hq => wpAny_pure (wpAny_pure hq))
  show wpAny _ _ (assign (.Name y py) X.env (.ref L)) _ _ _
  refine wpAny_assign_Name (store_ok2 (v := V.ref L) I' hN hy (.inl hyl) rfl (fun s2 I2 hsb => ?_) (.inr hyl))
  obtain ⟨a, sb, ha⟩ := hsb
  obtain ⟨f0, f1, f2, f3, f4, f5⟩ := f
  have haC : C ≠ a := by
    rcases ha with z | z
    · rw [z]
      exact f1
    · exact fun e => f4 y a z e.symm
  exact ⟨m, hn.sameBut sb haC, fun h3 sb3 => ⟨_, H', I2.turned (t' := s2.toks) (fun b o hb e => (sb3.2 b hb).trans e) f0 f1 f3 f4 f5, q⟩⟩

/-! ## try: .. except x as n: .. -/
theorem RL.setNone {K : PySem.W.Frag} {H : Hp} {loc : Loc} {σ : L2.St} (r : RL K H loc σ) (i : Nat) : RL K H (loc.set i none) (σ.set i none) := by
  refine ⟨by simp [r.len], fun j x h => ?_⟩
  by_cases e : i = j
  · subst e
    by_cases hl : i < loc.length
    · rw [List.getElem?_set_self hl] at h
      cases h
    · rw [List.getElem?_eq_none (by simpa using hl)] at h
      cases h
  · rw [List.getElem?_set_ne e] at h
    obtain ⟨w, a, b⟩ := r.at_ j x h
    exact ⟨w, by rw [List.getElem?_set_ne e]; exact a, b⟩
def goneN (i : Nat) (P : QN) : QN where
  nx := fun l s => P.nx (l.set i none) s
  rt := P.rt
  bk := fun l s => P.bk (l.set i none) s
  ct := fun l s => P.ct (l.set i none) s
  ex := fun _ _ _ => False
def sTry (Cs : List Addr) (i : Nat) (tb : QS) (ts : Addr → Addr → QS) : QS := fun P loc S => tb { P with ex := fun x loc' S' => x.fld = none ∧ x.cls ∈ Cs ∧ ∀ a, S' a = none → ts x.cls a (goneN i P) (loc'.set i (some (.ref a))) S' } loc S
theorem ds_try {x n : Str} {CS : Addr} {Cs : List Addr} {i : Nat} {body suite : List Stmt} {b₀ : Stmt} {np pos pos' : Pos} {tb : QS} {ts : Addr → Addr → QS} (hs : X.stack = X.env :: X.outer) (hf : X.env.frame = some X.env.locals) (hN : X.N.Nodup) (hi : X.N[i]? = some n) (hln : X.env.kindOf n = some .local) (hc : Names X x (.ref CS))
    (hx : ∀ C ∈ Cs, PySem.W.exmOne X.K (.ref C) (.ref CS) = some true) (hb : ∀ pn xe, PassesOwn (model X.prog X.w) X.A X.env xe → DB (X.tr pn xe) body tb)
    (hsu : ∀ (a : Addr) (oe : Obj) (C : Addr) (pn : List (Addr × Obj)), C ∈ Cs → L2N.Zn (.ref C) none oe → (∃ vs, oe.data = .fields vs) → DB (X.suite a ((a, oe) :: pn)) (b₀ :: suite) (ts C a)) :
    DS X (.Try body [.ExceptHandler (some (.Name x np)) (some n) (b₀ :: suite) pos'] [] [] pos) (sTry Cs i tb ts) := fun W tk => by
  refine PS.imp (L2N.ps_try_as (tb := fun W => liftS X.K W tb) (ts := fun a c d => fun D σ H => ∃ C, C ∈ Cs ∧ c = .ref C ∧ d = none ∧ liftS X.K (fun _ _ _ _ => False) (ts C a) D σ H) hs hf hN hi hln hc tk (fun W pn xe tk' po => hb pn xe po W tk') fun a oe c d pn hz hd => ?_) fun D σ H h => ?_
  · refine ⟨fun pins s σ H D I h => ?_⟩
    obtain ⟨C, hC, rfl, rfl, h⟩ := h
    exact (hsu a oe C pn hC hz hd _ takes0).run pins s σ H D I h
  · obtain ⟨loc, S, P, rl, rep, hq, g⟩ := h
    refine ⟨loc, S, _, rl, rep, hq, g.nx, g.rt, g.bk, g.ct, fun y loc' S' σ' H' c d z k rl' rep' rx => ?_⟩
    obtain ⟨hfd, hC, h⟩ := z
    obtain ⟨e1, e2⟩ := rx
    rw [hfd] at e2
    subst e1
    have e2 : d = none := e2
    subst e2
    refine ⟨true, hx _ hC, fun _ a na => ⟨y.cls, hC, rfl, rfl, loc'.set i (some (.ref a)), S', goneN i P, rl'.set rv_ofR i, rep', h a (rep'.free na), ?_⟩, fun z => nomatch z⟩
    have g' := g.keep k
    exact ⟨fun l s σ2 H2 p k2 rl2 rep2 => g'.nx _ _ _ _ p k2 (rl2.setNone i) rep2, g'.rt, fun l s σ2 H2 p k2 rl2 rep2 => g'.bk _ _ _ _ p k2 (rl2.setNone i) rep2, fun l s σ2 H2 p k2 rl2 rep2 => g'.ct _ _ _ _ p k2 (rl2.setNone i) rep2, fun _ _ _ _ _ _ _ z => z.elim⟩
theorem hot_suite {a : Addr} {oe : Obj} {C : Addr} {pn : List (Addr × Obj)} (hz : L2N.Zn (.ref C) none oe) (hd : ∃ vs, oe.data = .fields vs) : L2H.Hot1 (X.suite a ((a, oe) :: pn)).A (a, oe) := by
  obtain ⟨vs, hv⟩ := hd
  exact ⟨rfl, vs, hv, hz.2.2 vs hv⟩
/-! ## isinstance(e, C) of the exception in hand; a class by its name -/
theorem de_globR {x : Str} {a : Addr} {pos : Pos} (hg : Gl X x) (hm : X.mg x = some (.ref a)) (hd : (x == ("__debug__" : Str)) = false := by decide) : DE X (.Name x pos) (qC (.ref a)) :=
  de_const (pe_glob (v := .ref a) hg hm rfl hd) fun _ => rv_ofR
def cIsE (K : PySem.W.Frag) (a C : Addr) : QC := fun ds S P => ∃ c b, ds = [.ref a, .ref c] ∧ PySem.W.kitOne K (.ref C) (.ref c) = some b ∧ P (.bl b) S
theorem cd_isE {a C : Addr} {oe : Obj} {pn : List (Addr × Obj)} (T : ExcC X.K C) (hz : L2N.Zn (.ref C) none oe) (hd : ∃ vs, oe.data = .fields vs) : CDok (X.suite a ((a, oe) :: pn)) (.builtin "isinstance") (cIsE X.K a C) := by
  refine ⟨_, call_isE T hz.zc hd, fun ds S P H vs Q q rep r go => ?_⟩
  obtain ⟨c, b, rfl, e, hp⟩ := q
  obtain ⟨v, w, rfl, r1, r2⟩ := rvs_two r
  exact ⟨.ref c, .ref c, b, by rw [rv_ref r1, rv_ref r2], fun u hu => hu, e, go.now hp rep rv_ofB⟩
end
end PL

namespace PL
open PySem PySem.Spec PyProof.Rows L2 -- the layers
/-! ## the end of a law's row -/
section
variable {P : Program} {w : World} {K : PySem.W.Frag} {mg mb : Str → Option Value} {fa a : Addr} {cs : List (Addr × Addr)} {s₁ : Shared} {vs : List Value} {ns : List Int}
abbrev tabObj : Obj := { cls := .none, data := .fields #[] }
abbrev scrObj (vs : List Value) : Obj := { cls := .type "list", data := .seq vs.toArray }
/-- what is tracked at the law's entry: the tables; the script, where the written part does not hold it -/
def entryH (K : PySem.W.Frag) (cs : List (Addr × Addr)) (a : Addr) (vs : List Value) (ns : List Int) : Hp := fun b =>
  if b ∈ cs.map (·.2) then some (.tbl #[]) else if b = a ∧ K.lookup a = none then some (.frz (scrObj vs) (.lst (ns.map V.int))) else none
def entryS (cs : List (Addr × Addr)) (nm : Addr → Str) : Sto := fun b => if b ∈ cs.map (·.2) then some (.tab (nm b)) else none
def entryT (cs : List (Addr × Addr)) (nm : Addr → Str) : List (Addr × Str) := cs.map fun p => (p.2, nm p.2)
theorem entry_tabOk {nm : Addr → Str} : TabOk (entryT cs nm) (entryS cs nm) := by
  refine ⟨fun p hp => ?_, fun b q h => ?_⟩
  · obtain ⟨c, hc, rfl⟩ := List.mem_map.mp hp
    exact if_pos (List.mem_map.mpr ⟨c, hc, rfl⟩)
  · unfold entryS at h
    by_cases hb : b ∈ cs.map (·.2)
    · rw [if_pos hb] at h
      cases h
      obtain ⟨c, hc, rfl⟩ := List.mem_map.mp hb
      exact List.mem_map.mpr ⟨c, hc, rfl⟩
    · rw [if_neg hb] at h
      cases h
theorem rvs_intsOf {H : Hp} : ∀ ns : List Int, RVs K H (ns.map D.int) (ns.map V.int)
  | [] => RVs.nil_iff.mpr rfl
  | n :: ns => by
    show RVs K H (D.int n :: ns.map D.int) (V.int n :: ns.map V.int)
    unfold RVs
    exact ⟨_, _, rfl, rv_ofI, rvs_intsOf ns⟩
theorem entry_cases {b : Addr} {u : HO} (h : entryH K cs a vs ns b = some u) : (b ∈ cs.map (·.2) ∧ u = .tbl #[]) ∨ (b = a ∧ K.lookup a = none ∧ u = .frz (scrObj vs) (.lst (ns.map V.int))) := by
  unfold entryH at h
  split at h
  · rename_i hb
    exact .inl ⟨hb, (Option.some.inj h).symm⟩
  · split at h
    · rename_i hb
      exact .inr ⟨hb.1, hb.2, (Option.some.inj h).symm⟩
    · cases h
theorem end_call {k : Nat} {fd : FuncData} {x : Str} {sp : QF} {nm : Addr → Str}
    (KX : K.In s₁.heap) (hns : s₁.heap.Ns mainGlobals mg) (hb : s₁.heap.Ns builtinsNs mb) (hbb : ∀ x : Str, x ≠ "__name__" → mb x = bootBuiltins x) (hlim : s₁.heap.NoLimit) (hg : s₁.gens = #[])
    (hT : ∀ p ∈ cs, s₁.heap.get? p.2 = some tabObj) (nT : ∀ p ∈ cs, K.lookup p.2 = none) (hC : ∀ p ∈ cs, PySem.W.codeHdIn K p.1 p.2 = true)
    (hbm : ∃ (bm : Addr) (ob : Obj), mg "__builtins__" = some (.ref bm) ∧ bm ≠ builtinsNs ∧ s₁.heap.get? bm = some ob ∧ ob.cls = .type "module" ∧ ob.dict = some builtinsNs ∧ ob.data = .plain)
    (ha : s₁.heap.get? a = some (scrObj vs)) (hi : IntsAre vs ns) (hl : ns.length ≤ sizeLine) (hr : Room k callerA)
    (F : ∀ base : Heap, K.In base → base.Ns mainGlobals mg → (∀ p ∈ cs, LamX.TabB base mg p.1 p.2) → FnG P w K mg base k fa fd [x] sp) (hbind : ∀ (s : Shared) (u : Value), BindsTo s fd ⟨[u], []⟩ [(x, u)])
    (hsp : sp [.rol (ns.map D.int)] (entryS cs nm) (fun d _ => d = .bl true) fun _ _ => False) :
    codeAny (model P w) callerA (.call (.ref fa) ⟨[.ref a], []⟩) (fun r s' => r = .ok (.ret (.bool true)) ∧ OldK s₁.heap s'.heap ∧ s'.os = s₁.os ∧ AllBare s'.gens) s₁ := by
  have rv := vals_ints hi
  have lenV := hi.length
  have tabAt : ∀ b, b ∈ cs.map (·.2) → s₁.heap.get? b = some tabObj ∧ K.lookup b = none := fun b z => by
    obtain ⟨p, hp, rfl⟩ := List.mem_map.mp z
    exact ⟨hT p hp, nT p hp⟩
  have aNo : a ∉ cs.map (·.2) := fun z => by
    have e := (tabAt a z).1
    rw [ha] at e
    have e2 : Data.seq vs.toArray _ = Data.fields #[] := congrArg Obj.data (Option.some.inj e)
    cases e2
  generalize hHdef : entryH K cs a vs ns = H
  have hCases : ∀ {b u}, H b = some u → (b ∈ cs.map (·.2) ∧ u = .tbl #[]) ∨ (b = a ∧ K.lookup a = none ∧ u = .frz (scrObj vs) (.lst (ns.map V.int))) := fun {b u} h => entry_cases (by rw [hHdef]; exact h)
  have hTab : ∀ b, b ∈ cs.map (·.2) → H b = some (.tbl #[]) := fun b z => by
    rw [← hHdef]
    exact if_pos z
  have hScr : K.lookup a = none → H a = some (.frz (scrObj vs) (.lst (ns.map V.int))) := fun z => by
    rw [← hHdef]
    exact (if_neg aNo).trans (if_pos ⟨rfl, z⟩)
  -- what is tracked is a table or the script
  have free : ∀ {b : Addr} {o : Obj}, s₁.heap.get? b = some o → (∀ xs n, o.data ≠ .seq xs n) → o.data ≠ .fields #[] → H b = none := fun {b o} e h1 h2 => by
    cases q : H b with
    | none => rfl
    | some u =>
      rcases hCases q with ⟨z, _⟩ | ⟨z, _, _⟩
      · rw [(tabAt b z).1] at e
        cases e
        exact (h2 rfl).elim
      · rw [z, ha] at e
        cases e
        exact (h1 _ _ rfl).elim
  have inB : ∀ {b : Addr} {o : Obj}, s₁.heap.get? b = some o → (∀ xs n, o.data ≠ .seq xs n) → o.data ≠ .fields #[] → (hidT s₁.heap H).get? b = some o := fun e h1 h2 => hidT_get e (free e h1 h2)
  have nsB : ∀ {b : Addr} {m : Str → Option Value}, s₁.heap.Ns b m → (hidT s₁.heap H).Ns b m := fun {b m} z => by
    obtain ⟨o, es, ep, e, d, r⟩ := z
    exact ⟨o, es, ep, inB e (fun xs n z => by rw [d] at z; cases z) (fun z => by rw [d] at z; cases z), d, r⟩
  have kB : K.In (hidT s₁.heap H) := fun b o e => hidT_get (KX b o e) (by
    cases q : H b with
    | none => rfl
    | some u =>
      rcases hCases q with ⟨z, _⟩ | ⟨z, z2, _⟩
      · rw [(tabAt b z).2] at e
        cases e
      · rw [z, z2] at e
        cases e)
  have modB : L2.Mod K mg (hidT s₁.heap H) := ⟨kB, nsB hns, ⟨mb, nsB hb, hbb⟩, by
    obtain ⟨mc, h1, h2⟩ := hlim
    exact ⟨mc, nsB h1, h2⟩⟩
  have okH : HOk P w H s₁.heap := fun b u e => by
    rcases hCases e with ⟨z, rfl⟩ | ⟨rfl, _, rfl⟩
    · exact (tabAt b z).1
    · exact ⟨ha, by rw [List.length_map]; exact hl, vs, _, rv, ha⟩
  have tbB : ∀ p ∈ cs, LamX.TabB (hidT s₁.heap H) mg p.1 p.2 := fun p hp => by
    refine ⟨PySem.W.codeHd_of_K kB (hC p hp), ?_, fun z => ?_⟩
    · obtain ⟨bm, ob, b1, b2, b3, b4, b5, b6⟩ := hbm
      refine ⟨bm, ob, b1, b2, fun q => ?_, fun q => ?_, inB b3 (fun xs n z => by rw [b6] at z; cases z) (fun z => by rw [b6] at z; cases z), b4, b5, b6⟩
      · obtain ⟨o, es, ep, e, hd, _⟩ := hns
        rw [q, e] at b3
        cases b3
        rw [hd] at b6
        cases b6
      · rw [q, hT p hp] at b3
        cases b3
        cases b6
    · obtain ⟨o, es, ep, e, hd, _⟩ := hns
      rw [z, hT p hp] at e
      cases e
      cases hd
  have e0 : Env0 P w K mg (hidT s₁.heap H) callerA [] s₁ H := ⟨rfl, modB, fun b o e => of_hidT e, Nat.le_of_eq (hidT_size _ _), trivial, fun b hb => absurd (show b ∈ ([] : List Addr) from hb) (by simp), okH, .of_eq hg⟩
  have rol : Rol K H a (ns.map V.int) := by
    cases q : K.lookup a with
    | none => exact .inl ⟨_, hScr q⟩
    | some o =>
      have e := KX a o q
      rw [ha] at e
      cases e
      exact .inr ⟨_, vs.toArray, _, q, rfl, rfl, rfl, by rw [List.size_toArray, lenV]; exact hl, by simpa using rv⟩
  have rep : Rep K (entryS cs nm) H := fun b o e => by
    unfold entryS at e
    split at e
    · rename_i z
      cases e
      exact LamX.TabS.nil (hTab b z)
    · cases e
  have arg : RVs K H [D.rol (ns.map D.int)] [V.ref a] := RVs.one (by unfold RV; exact ⟨a, _, rfl, rol, rvs_intsOf ns⟩)
  refine codeAny_mono ((F _ kB (nsB hns) tbB).run callerA [] s₁ H ⟨[.ref a], []⟩ [.ref a] [.ref a] (fun v _ => v = .bl true) (fun _ _ _ => False) hr rfl e0 (hbind s₁ (.ref a)) (.cons rfl .nil)
    ⟨_, _, _, _, arg, rep, hsp, fun d S' v H' p _ _ r => by subst p; exact rv_bl r, fun _ _ _ _ _ z => z.elim⟩) fun r s' h => ?_
  match r, h with
  | .error e, h =>
    obtain ⟨_, _, _, _, _, _, _, _, _, _, _, _, z⟩ := h
    exact z.elim
  | .ok .next, h => exact False.elim h
  | .ok .brk, h => exact False.elim h
  | .ok .cont, h => exact False.elim h
  | .ok (.ret u), h =>
    obtain ⟨v, H', os, bare, un, ok', r', q⟩ := h
    have q' : v = .bl true := q
    subst q'
    obtain rfl : u = Value.bool true := r'
    have same : ∀ b o, b ∉ cs.map (·.2) → s₁.heap.get? b = some o → s'.heap.get? b = some o := fun b o nb e => by
      cases q : H b with
      | none => exact un.keep b o e q (by intro z; exact absurd (show b ∈ ([] : List Addr) from z) (by simp)) (by simp)
      | some u =>
        rcases hCases q with ⟨z, _⟩ | ⟨z1, _, z2⟩
        · exact absurd z nb
        · subst z2
          have e1 := (okH b _ q).1
          have e2 := (ok' b _ (un.frzs b _ _ q)).1
          rw [e] at e1
          cases e1
          exact e2
    have grown : ∀ b, b ∈ cs.map (·.2) → ∃ more : Array Value, s'.heap.get? b = some { cls := .none, data := .fields more } := fun b z => by
      obtain ⟨more, e⟩ := un.tbls b #[] (hTab b z)
      exact ⟨_, ok' b _ e⟩
    refine ⟨rfl, ⟨fun b o e => ?_, fun b o e => ?_⟩, os, bare⟩
    · by_cases z : b ∈ cs.map (·.2)
      · obtain ⟨more, e2⟩ := grown b z
        obtain ⟨p, hp, rfl⟩ := List.mem_map.mp z
        rw [hT p hp] at e
        cases e
        exact .inr (.inl ⟨((PySem.W.codeHd_of_K KX (hC p hp)).tab (hT p hp)).isCodeTable, rfl, #[], more, rfl, by rw [Array.empty_append]; exact e2⟩)
      · exact .inl (same b o z e)
    · by_cases z : b ∈ cs.map (·.2)
      · obtain ⟨more, e2⟩ := grown b z
        exact ⟨_, e2⟩
      · exact ⟨o, same b o z e⟩
end
/-- what is known of the law's promise at the head's heap h -/
def LawAt (l : PySem.W.OpenLaw) (w : World) (K : PySem.W.Frag) (k n : Nat) (x : Str) (mg : Str → Option Value) (fa : Addr) (h : Heap) : Prop :=
  ∃ (fd : FuncData) (cs : List (Addr × Addr)) (nm : Addr → Str) (sp : QF), (∀ p ∈ cs, h.get? p.2 = some tabObj) ∧ (∀ p ∈ cs, K.lookup p.2 = none) ∧ (∀ p ∈ cs, PySem.W.codeHdIn K p.1 p.2 = true) ∧ (∀ (s : Shared) (u : Value), BindsTo s fd ⟨[u], []⟩ [(x, u)]) ∧
    (∀ ns : List Int, ns.length ≤ n → (∀ z ∈ ns, Builtin.Int.intBits z ≤ 1048576) → sp [.rol (ns.map D.int)] (entryS cs nm) (fun d _ => d = .bl true) fun _ _ => False) ∧
    ∀ base : Heap, K.In base → base.Ns mainGlobals mg → (∀ p ∈ cs, LamX.TabB base mg p.1 p.2) → FnG l.prog w K mg base k fa fd [x] sp
theorem walk_law {l : PySem.W.OpenLaw} {n k : Nat} {q : Program} {loose : List Str} {XP : (Str → Option Value) → Heap → Prop} {YP : World → Heap → Prop} {d : DefRec} {x : Str}
    (hn : l.most = some n) (hn2 : n ≤ sizeLine) (hdf : d.params.defaults = []) (hr : Room k callerA)
    (F : ∀ (w : World) (mg : Str → Option Value) (fa : Addr) (h : Heap), YP w h → h.Ns mainGlobals mg → mg d.name = some (.ref fa) → ∃ K : PySem.W.Frag, K.In h ∧ LawAt l w K k n x mg fa h) :
    PySem.W.WalkO q loose XP YP l.row.toRowW d [] (fun f vs => PySem.call f vs) := by
  refine Att.attach_callB hn hdf fun w s₀ s₁ mg mb fa o pm cd doc a vs ns G Y ho hd hcd hmg hobj hints hlen hbits hg => ?_
  obtain ⟨K, KX, fd, cs, nm, sp, hT, nT, C, hb, hsp, hF⟩ := F w mg fa _ Y G.T.g hmg
  exact end_call KX G.T.g G.T.b G.T.builtins G.T.nolimit hg hT nT C G.T.bmain hobj hints (Nat.le_trans hlen hn2) hr hF hb (hsp ns hlen hbits)
end PL

namespace PL
open PySem PySem.Spec PyProof.Rows L2 -- the layers
/-! ## names of the errors; defs by name; what the printed derivations use -/
structure Ad where
  SlipError : Addr
  NotAllowed : Addr
  TooLarge : Addr
  Missing : Addr
  BadPaper : Addr
  BadForm : Addr
  Broken : Addr
def Ad.six (ad : Ad) : List Addr := [ad.NotAllowed, ad.TooLarge, ad.Missing, ad.BadPaper, ad.BadForm, ad.Broken]
def Ad.row (ad : Ad) (k : Nat) : Addr := ad.six.getD k 0
def GF (P : Program) (w : World) (K : PySem.W.Frag) (mg : Str → Option Value) (base : Heap) (x : Str) (ps : List Str) (k : Nat) (sp : QF) : Prop :=
  ∃ (f : Addr) (fd : FuncData), mg x = some (.ref f) ∧ PySem.W.keepIn K (.ref f) = true ∧ Binds K fd ps [] ∧ FnP P w K mg base k f fd ps sp
def GG (P : Program) (w : World) (K : PySem.W.Frag) (mg : Str → Option Value) (base : Heap) (x : Str) (ps : List Str) (k : Nat) (sp : QF) : Prop :=
  ∃ (f : Addr) (fd : FuncData), mg x = some (.ref f) ∧ PySem.W.keepIn K (.ref f) = true ∧ Binds K fd ps [] ∧ FnG P w K mg base k f fd ps sp
def ToldT (K : PySem.W.Frag) (mg : Str → Option Value) (st : Stmt) (ps : List Str) : Prop :=
  ∃ (g : Addr) (fd : FuncData), mg "_law_told" = some (.ref g) ∧ FunD K "_law_told" "_law_told" (defArgs st) (defBody st) (defScope st) [] [] g fd ∧ Binds K fd ps []
theorem u65 {k : Nat} {A : Around} (h : Room k A) : A.units + 65 < cLine := by have := h.un; omega
section
variable {X : Cx} {k : Nat} {x : Str} {ps : List Str} {sp : QF} {e : Expr} {es : List Expr} {qa : QA} {p pos : Pos}
theorem de_callF (G : GF X.prog X.w X.K X.mg X.base x ps k sp) (hr : Room k X.A) (hg : Gl X x) (ha : DA X (e :: es) qa) (hdb : (x == ("__debug__" : Str)) = false := by decide)
    (he : starEach (e :: es) X.env = (false, eval e X.env) :: starEach es X.env := by rfl) (hpl : (backTo pos (starEach es X.env)).any (·.1) = false := by rfl) : DE X (.Call (.Name x p) (e :: es) [] pos) (qCall sp qa) := by
  obtain ⟨f, fd, hm, hk, hb, F⟩ := G
  exact de_call F hr hg hm hk hb ha hdb he hpl
theorem de_callGG (G : GG X.prog X.w X.K X.mg X.base x ps k sp) (hr : Room k X.A) (hG : X.A.guards = some []) (hg : Gl X x) (ha : DA X (e :: es) qa) (hdb : (x == ("__debug__" : Str)) = false := by decide)
    (he : starEach (e :: es) X.env = (false, eval e X.env) :: starEach es X.env := by rfl) (hpl : (backTo pos (starEach es X.env)).any (·.1) = false := by rfl) : DE X (.Call (.Name x p) (e :: es) [] pos) (qCall sp qa) := by
  obtain ⟨f, fd, hm, hk, hb, F⟩ := G
  exact de_callG F hr hG hg hm hk hb ha hdb he hpl
end
theorem bb_len : bootBuiltins ("len" : Str) = some (.builtin "len") := by decide +kernel
theorem bb_abs : bootBuiltins ("abs" : Str) = some (.builtin "abs") := by decide +kernel
theorem bb_repr : bootBuiltins ("repr" : Str) = some (.builtin "repr") := by decide +kernel
theorem bb_max : bootBuiltins ("max" : Str) = some (.builtin "max") := by decide +kernel
theorem bb_min : bootBuiltins ("min" : Str) = some (.builtin "min") := by decide +kernel
theorem bb_all : bootBuiltins ("all" : Str) = some (.builtin "all") := by decide +kernel
theorem bb_any : bootBuiltins ("any" : Str) = some (.builtin "any") := by decide +kernel
theorem bb_sum : bootBuiltins ("sum" : Str) = some (.builtin "sum") := by decide +kernel
theorem bb_isinstance : bootBuiltins ("isinstance" : Str) = some (.builtin "isinstance") := by decide +kernel
theorem bb_int : bootBuiltins ("int" : Str) = some (.type "int") := by decide +kernel
theorem bb_tuple : bootBuiltins ("tuple" : Str) = some (.type "tuple") := by decide +kernel
theorem bb_list : bootBuiltins ("list" : Str) = some (.type "list") := by decide +kernel
section
variable {X : Cx}
def cIsK (ad : Ad) (a C : Addr) : QC := fun ds S P => ∃ c, c ∈ ad.six ∧ ds = [.ref a, .ref c] ∧ P (.bl (decide (C = c))) S
theorem cd_isK {ad : Ad} {a C : Addr} {oe : Obj} {pn : List (Addr × Obj)} (T : ExcC X.K C) (hk : ∀ c ∈ ad.six, PySem.W.kitOne X.K (.ref C) (.ref c) = some (decide (C = c))) (hz : L2N.Zn (.ref C) none oe) (hd : ∃ vs, oe.data = .fields vs) : CDok (X.suite a ((a, oe) :: pn)) (.builtin "isinstance") (cIsK ad a C) := by
  obtain ⟨r, o, hr⟩ := cd_isE (X := X) (a := a) (pn := pn) T hz hd
  refine ⟨r, o, fun ds S P H vs Q q rep rv go => hr ds S P H vs Q ?_ rep rv go⟩
  obtain ⟨c, hc, e, hp⟩ := q
  exact ⟨c, _, e, hk c hc, hp⟩
/-- a, b = a tuple or a list -/
def gU (n : Nat) (t : QGs) : QG := fun d loc S P E => ∃ xs, (d = .tup xs ∨ LsAt S d xs) ∧ xs.length = n ∧ t xs loc S P E
theorem dg_unp {es : List Expr} {k : Nat} {t : QGs} {n : Nat} {pos : Pos} (hc : X.calm = true) (h : DGs X es t)
    (hn : (assignEach es X.env).length = n := by rfl) (hst : (assignEach es X.env).findIdx? (·.1) = none := by rfl) : DG X (.Tuple es k pos) (gU n t) := fun W tk => by
  refine ⟨fun pins s σ H v u Q I r h' => ?_⟩
  obtain ⟨d, loc, S, P, E, rv, rl, rep, ⟨xs, hd, hl, hq⟩, g, gx⟩ := h'
  rcases hd with rfl | hd
  · exact (dg_tup hc h hn hst W tk).run pins s σ H v u Q I r ⟨_, loc, S, P, E, rv, rl, rep, ⟨hl, hq⟩, g, gx⟩
  · exact (dg_lst hc h hn hst W tk).run pins s σ H v u Q I r ⟨_, loc, S, P, E, rv, rl, rep, ⟨xs, hd, hl, hq⟩, g, gx⟩
abbrev oIn : QO := oInL id
abbrev oNotIn : QO := oInL not
theorem od_in (hu : X.A.units + 65 < cLine) : ODok X (compareOp .In) oIn := od_inL hu
theorem od_notIn (hu : X.A.units + 65 < cLine) : ODok X (compareOp .NotIn) oNotIn := od_notInL hu
/-- _law_told(lambda: ..) -/
theorem de_told {T : List (Addr × Str)} {qB : QE → QS} {c P : Addr} {k : Nat} {st : Stmt} {a : Str} {Ng : List Str} {params : Arguments} {body : Expr} {scope : Scope} {q : QE} {p lpos pos : Pos} (TL : ToldT X.K X.mg st [a]) (hg : Gl X "_law_told") (Sg : FnScope Ng [a] (defScope st)) (hNg : Ng[0]? = some a) (hva : Vis (defScope st) a)
    (hB : ∀ (g : Addr) (cdv : Value) (s : Shared) (H : Hp) (qc : QE), Room (k + 1) (X.A.deeper (envOfC "_law_told" (defScope st) s.heap.objs.size g cdv)) → (∀ (pn : List (Addr × Obj)) (xe : Value → Shared → Prop) (p1 p2 : Pos), DE ((gotCx X Ng "_law_told" (defScope st) g cdv X.A X.stack s H fun _ _ _ => False).tr pn xe) (.Call (.Name a p1) [] [] p2) qc) →
      DB (gotCx X Ng "_law_told" (defScope st) g cdv X.A X.stack s H fun _ _ _ => False) (defBody st) (qB qc))
    (TB : LamX.TabB X.base X.mg c P) (hcode : X.env.code = .ref c) (hmT : (P, X.env.qual ++ "<lambda>") ∈ T) (hu : ∀ p ∈ T, p.1 = P → p.2 = X.env.qual ++ "<lambda>") (hr : Room (k + 2) X.A) (L : LamX.LamS X.env.scope scope) (hdef : defaultsOf params X.env = ([], []))
    (hbind : ∀ (q : Str) (cl : List (Str × Addr)) (pm cv ctv : Value), bindArgs (PySem.W.kla_fn "<lambda>" q params body scope cl pm cv ctv) ⟨[], []⟩ = pure [])
    (hbody : ∀ (A : Around) (outer : List Env) (s : Shared) (H : Hp) (E : XK) (f c' : Addr), Room k (A.deeper (LamX.lamEnv X scope s.heap.objs.size f c')) → DE (lamN X A outer s H E scope f c') body q)
    (hd : (a == ("__debug__" : Str)) = false := by decide) (hcd : (a == ("__classdict__" : Str)) = false := by decide) :
    DE X (.Call (.Name "_law_told" p) [.Lambda params body scope lpos] [] pos) (qLam T Ng (X.env.qual ++ "<lambda>") qB q) := by
  obtain ⟨g, fd, hm, F, hb⟩ := TL
  obtain ⟨oc, od, dV, kV, doc, pm, an, cdv, ct, osl, rfl, lk, hcg, _, _⟩ := F.ex
  exact de_lam hg hm F.kp lk hcg hb Sg hNg hva (hB g cdv) TB hcode hmT hu hr L hdef hbind hbody (by decide) hd hcd
end
section
variable {P : Program} {w : World} {K : PySem.W.Frag} {mg : Str → Option Value} {base : Heap} {k : Nat} {f : Addr} {fd : FuncData} {ps : List Str} {sp : QF}
/-- the rule for a def whose code object is known -/
theorem FunD.pureC {x qual : Str} {params : Arguments} {body : List Stmt} {scope : Scope} {kws : List (Str × V)} {N : List Str} {q : QS} {c : Addr} (F : FunD K x qual params body scope [] kws f fd) (hc : fd.code = .ref c) (S : FnScope N ps scope)
    (hbody : ∀ (cdv : Value) (A : Around) (outer : List Env) (s : Shared) (H : Hp) (E : XK), cdv = .ref c → Room k (A.deeper (envOfC qual scope s.heap.objs.size f cdv)) → (A.deeper (envOfC qual scope s.heap.objs.size f cdv)).guards = some [] → DB (cxOf (L2N.CX P w) P w K mg base N qual scope f cdv A outer s H E) body q)
    (len : ∀ ds S Q E, sp ds S Q E → ds.length = ps.length) (spec : ∀ ds S Q E, sp ds S Q E → q (endsF Q E) (startD N ds) S) : FnG P w K mg base (k + 1) f fd ps sp := by
  refine ⟨len, fun A outer s H args us vs Q E hr hG e0 hb r h => ?_⟩
  obtain ⟨oc, od, dV, kV, doc, pm, an, cdv, ct, osl, rfl, lk, hcd, _, _⟩ := F.ex
  obtain ⟨ds, St, Pd, PE, rv, rep, h, g, gx⟩ := h
  refine LamX.run_ofS lk hcd S hr e0 hb r (by rw [← rv.length, len _ _ _ _ h]) fun hr' => ?_
  refine ⟨_, hbody cdv A outer s H E hc hr' (by exact hG) (fun c d _ H' => E c d H') (L2N.takes_of rfl rfl rfl rfl), ?_⟩
  exact ⟨startD N ds, St, endsF Pd PE, startD_len rv, rep, spec _ _ _ _ h, endsF_go g gx⟩
end
end PL

namespace PL
open PySem PySem.Spec PyProof.Rows L2 -- the layers
/-! ## what the readings say of values that are known -/
section
variable {S : Sto} {P : PD} {i j : Int} {x y : Str} {b c : Bool} {xs ys : List D} {a a' : Addr} {d e : D}
theorem oAdd_ii : oAdd (.int i) (.int j) S P = P (.int (i + j)) S := rfl
theorem oI_ii {C : Int → Int → Prop} {f : Int → Int → D} : oI C f (.int i) (.int j) S P = (C i j ∧ P (f i j) S) := rfl
theorem oEqW_ii {k : Bool → Bool} : oEqW k (.int i) (.int j) S P = P (.bl (k (decide (i = j)))) S := rfl
theorem oEqW_ss {k : Bool → Bool} : oEqW k (.str x) (.str y) S P = P (.bl (k (decide (x = y)))) S := rfl
theorem oEqW_bb {k : Bool → Bool} : oEqW k (.bl b) (.bl c) S P = P (.bl (k (decide (b = c)))) S := rfl
theorem oOrd_ii {f : Int → Int → Bool} {g : List Nat → List Nat → Bool} : oOrd f g (.int i) (.int j) S P = P (.bl (f i j)) S := rfl
theorem oOrd_ss {f : Int → Int → Bool} {g : List Nat → List Nat → Bool} : oOrd f g (.str x) (.str y) S P = P (.bl (g x.cps.toList y.cps.toList)) S := rfl
theorem oIx_t : oIx (.tup xs) (.int i) S P = ∃ d, atI xs i = some d ∧ P d S := rfl
theorem oIx_r : oIx (.rol xs) (.int i) S P = ∃ d, atI xs i = some d ∧ P d S := rfl
theorem oIx_p : oIx (.ptup xs) (.int i) S P = ∃ d, atI xs i = some d ∧ P d S := rfl
theorem oIx_l : oIx (.ref a) (.int i) S P = ∃ xs, S a = some (.lst xs) ∧ ∃ d, atI xs i = some d ∧ P d S := by
  refine propext ⟨fun ⟨xs, d, h1, h2, h3⟩ => ⟨xs, h1, d, h2, h3⟩, fun ⟨xs, h1, d, h2, h3⟩ => ⟨xs, d, h1, h2, h3⟩⟩
theorem oIx_s : oIx (.str x) (.int i) S P = (x.length ≤ sizeLine ∧ ∃ c, atI x.cps.toList i = some c ∧ P (.str ⟨#[c]⟩) S) := rfl
theorem bd_bl {Q : Bool → Prop} : bd (.bl b) Q = Q b := rfl
theorem tru_non {Q : Bool → Sto → Prop} : tru .non S Q = Q false S := rfl
theorem tru_bl {Q : Bool → Sto → Prop} : tru (.bl b) S Q = Q b S := rfl
theorem tru_int {Q : Bool → Sto → Prop} : tru (.int i) S Q = Q (i != 0) S := rfl
theorem tru_str {Q : Bool → Sto → Prop} : tru (.str x) S Q = (x.length ≤ sizeLine ∧ Q ((x.length : Int) != 0) S) := rfl
theorem tru_tup {Q : Bool → Sto → Prop} : tru (.tup xs) S Q = Q (!xs.isEmpty) S := rfl
theorem tru_rol {Q : Bool → Sto → Prop} : tru (.rol xs) S Q = Q (!xs.isEmpty) S := rfl
theorem tru_ref {Q : Bool → Sto → Prop} : tru (.ref a) S Q = ∃ xs, S a = some (.lst xs) ∧ Q (!xs.isEmpty) S := rfl
theorem cInt_i {f : Int → D} : cInt f [.int i] S P = P (f i) S := rfl
theorem cInt2_ii {f : Int → Int → D} : cInt2 f [.int i, .int j] S P = P (f i j) S := rfl
theorem cToInt_i : cToInt [.int i] S P = P (.int i) S := rfl
theorem cToInt_b : cToInt [.bl b] S P = P (.int (if b then 1 else 0)) S := rfl
theorem cLen_s : cLen [.str x] S P = (x.length ≤ sizeLine ∧ P (.int x.length) S) := rfl
theorem cLen_t : cLen [.tup xs] S P = P (.int xs.length) S := rfl
theorem cLen_r : cLen [.rol xs] S P = P (.int xs.length) S := rfl
theorem cLen_l : cLen [.ref a] S P = ∃ xs, S a = some (.lst xs) ∧ P (.int xs.length) S := rfl
theorem cTuple_t : cTuple [.tup xs] S P = P (.tup xs) S := rfl
theorem cTuple_r : cTuple [.rol xs] S P = P (.tup xs) S := rfl
theorem cTuple_l : cTuple [.ref a] S P = ∃ xs, S a = some (.lst xs) ∧ P (.tup xs) S := rfl
theorem cList_t : cList [.tup xs] S P = ∀ p, S p = none → P (.ref p) (ups S p (.lst xs)) := rfl
theorem cList_r : cList [.rol xs] S P = ∀ p, S p = none → P (.ref p) (ups S p (.lst xs)) := rfl
theorem cList_l : cList [.ref a] S P = ∃ xs, S a = some (.lst xs) ∧ ∀ p, S p = none → P (.ref p) (ups S p (.lst xs)) := rfl
theorem oSl_t {lo hi : Option Int} : oSl (.tup xs) lo hi S P = P (.tup (cutL xs lo hi)) S := rfl
theorem oSl_r {lo hi : Option Int} : oSl (.rol xs) lo hi S P = ∀ p, S p = none → P (.ref p) (ups S p (.lst (cutL xs lo hi))) := rfl
theorem oSl_l {lo hi : Option Int} : oSl (.ref a) lo hi S P = ∃ xs, S a = some (.lst xs) ∧ ∀ p, S p = none → P (.ref p) (ups S p (.lst (cutL xs lo hi))) := rfl
theorem oSl_s {lo hi : Option Int} : oSl (.str x) lo hi S P = (x.length ≤ sizeLine ∧ P (.str (cutS x lo hi)) S) := rfl
theorem mAppend_1 : mAppend a xs [d] S P = (xs.length < sizeLine ∧ P .non (ups S a (.lst (xs ++ [d])))) := rfl
theorem lst_inj : (some (O.lst xs) = some (O.lst ys)) = (xs = ys) := by simp
theorem ixN_lt {n j : Nat} (h : j < n) : ixN n (j : Int) = some j := by
  unfold ixN
  rw [if_pos (by omega), if_pos (by omega)]
  simp
theorem atI_lt {α : Type} {xs : List α} {j : Nat} : atI xs (j : Int) = xs[j]? := by
  by_cases h : j < xs.length
  · unfold atI
    rw [ixN_lt h]
    rfl
  · unfold atI ixN
    rw [if_pos (by omega), if_neg (by omega), List.getElem?_eq_none (by omega)]
    rfl
theorem atI_0 {x : D} {r : List D} : atI (x :: r) 0 = some x := atI_lt (j := 0)
theorem atI_1 {x y : D} {r : List D} : atI (x :: y :: r) 1 = some y := atI_lt (j := 1)
theorem atI_2 {x y z : D} {r : List D} : atI (x :: y :: z :: r) 2 = some z := atI_lt (j := 2)
theorem atI_3 {x y z u : D} {r : List D} : atI (x :: y :: z :: u :: r) 3 = some u := atI_lt (j := 3)
theorem ixN_1 {n : Nat} : ixN (n + 2) 1 = some 1 := ixN_lt (j := 1) (by omega)
theorem ixN_0 {n : Nat} : ixN (n + 1) 0 = some 0 := ixN_lt (j := 0) (by omega)
theorem ixN_21 : ixN 2 1 = some 1 := rfl
end
theorem ifT {c : Bool} {p q : Prop} (h : c = true) (x : p) : if c = true then p else q := by rw [if_pos h]; exact x
theorem ifF {c : Bool} {p q : Prop} (h : c = false) (x : q) : if c = true then p else q := by
  subst h
  exact x
theorem ex_some {α : Type} {x : α} {Q : α → Prop} : (∃ d, some x = some d ∧ Q d) = Q x := by simp
theorem ex_lst {xs : List D} {Q : List D → Prop} : (∃ ys, some (O.lst xs) = some (O.lst ys) ∧ Q ys) = Q xs := by simp
theorem ex_lst2 {α : Type} {xs : List D} {Q : List D → α → Prop} : (∃ ys j, some (O.lst xs) = some (O.lst ys) ∧ Q ys j) = ∃ j, Q xs j := by simp
/-! ## bounds -/
theorem CMul.ofL {i j : Int} (h : -1000000000000000000 < i ∧ i < 1000000000000000000) : IntMulOk i j := CMul.ok (.inl (by omega))
theorem CMul.ofR {i j : Int} (h : -1000000000000000000 < j ∧ j < 1000000000000000000) : IntMulOk i j := CMul.ok (.inr (by omega))
theorem log_of {n k : Nat} (h : n < 2 ^ k) (hk : 0 < k) : n.log2 < k := by
  by_cases e : n = 0
  · subst e
    exact hk
  · exact (Nat.log2_lt e).mpr h
theorem CDivA.small {i j : Int} (h : j ≠ 0) (k : -1000000000000000000 < j ∧ j < 1000000000000000000) : CDivA i j :=
  ⟨h, Nat.lt_of_lt_of_le (log_of (k := 60) (by omega) (by decide)) (by decide)⟩
/-! ## what is shown -/
mutual
/-- data without dicts, of numbers that can be written and characters that there are -/
def fine : PyData → Bool
  | .none => true
  | .bool _ => true
  | .int i => decide (i.natAbs.log2 < 1920)
  | .str x => x.cps.toList.all fun c => decide (c < 16 ^ 8)
  | .list xs => fines xs
  | .tuple xs => fines xs
  | .dict _ => false
def fines : List PyData → Bool
  | [] => true
  | x :: xs => fine x && fines xs
end
mutual
theorem fine_ok : ∀ p : PyData, fine p = true → p.showable = true ∧ p.hasDict = false
  | .none, _ => by simp [PyData.showable, PyData.hasDict]
  | .bool b, _ => by simp [PyData.showable, PyData.hasDict]
  | .int i, h => by
    unfold fine at h
    exact ⟨by unfold PyData.showable; exact h, by unfold PyData.hasDict; rfl⟩
  | .str x, h => ⟨by unfold PyData.showable; rfl, by unfold PyData.hasDict; rfl⟩
  | .list xs, h => by
    unfold fine at h
    unfold PyData.showable PyData.hasDict
    exact fines_ok xs h
  | .tuple xs, h => by
    unfold fine at h
    unfold PyData.showable PyData.hasDict
    exact fines_ok xs h
  | .dict _, h => by
    unfold fine at h
    cases h
theorem fines_ok : ∀ xs : List PyData, fines xs = true → PyData.showableAll xs = true ∧ PyData.hasDictAll xs = false
  | [], _ => by simp [PyData.showableAll, PyData.hasDictAll]
  | x :: xs, h => by
    unfold fines at h
    obtain ⟨h1, h2⟩ := Bool.and_eq_true_iff.mp h
    obtain ⟨a1, a2⟩ := fine_ok x h1
    obtain ⟨b1, b2⟩ := fines_ok xs h2
    unfold PyData.showableAll PyData.hasDictAll
    rw [a1, a2, b1, b2]
    exact ⟨rfl, rfl⟩
end
mutual
/-- no fewer characters than are shown -/
def sz : PyData → Nat
  | .none => 4
  | .bool _ => 5
  | .int i => i.natAbs.log2 + 2
  | .str x => 10 * x.length + 2
  | .list xs => szs xs + 3
  | .tuple xs => szs xs + 3
  | .dict _ => 0
def szs : List PyData → Nat
  | [] => 0
  | x :: xs => sz x + 2 + szs xs
end
mutual
theorem shown_sz : ∀ p : PyData, fine p = true → p.shown.length ≤ sz p
  | .none, _ => by
    unfold sz
    have e : (PyData.shown .none).length = 4 := rfl
    omega
  | .bool b, _ => by
    unfold sz
    have e : (PyData.shown (.bool b)).length ≤ 5 := by cases b <;> decide
    omega
  | .int i, h => by
    unfold sz
    rw [PyData.shown_int, PySem.ofString_length]
    have := int_text_length_le (a := i) (k := i.natAbs.log2 + 1) (by omega) (by omega)
    omega
  | .str x, h => by
    unfold sz
    unfold fine at h
    rw [PyData.shown_str]
    have := StrLaws.reprText_len x (by simpa only [List.all_eq_true, decide_eq_true_eq] using h)
    have e : x.length = x.cps.size := rfl
    omega
  | .list xs, h => by
    unfold fine at h
    unfold sz
    have h1 := shownAll_sz xs h
    have h2 := listText_len_le (PyData.shownAll xs)
    have h3 := PyData.shownAll_length xs
    simp only [PyData.shown]
    omega
  | .tuple xs, h => by
    unfold fine at h
    unfold sz
    have h1 := shownAll_sz xs h
    have h2 := tupleText_len_le (PyData.shownAll xs)
    have h3 := PyData.shownAll_length xs
    simp only [PyData.shown]
    omega
  | .dict _, h => by
    unfold fine at h
    cases h
theorem shownAll_sz : ∀ xs : List PyData, fines xs = true → ((PyData.shownAll xs).map (·.length)).sum + 2 * xs.length ≤ szs xs
  | [], _ => by simp [PyData.shownAll, szs]
  | x :: xs, h => by
    unfold fines at h
    obtain ⟨h1, h2⟩ := Bool.and_eq_true_iff.mp h
    have a1 := shown_sz x h1
    have a2 := shownAll_sz xs h2
    unfold szs
    rw [PyData.shownAll_cons, List.map_cons, List.sum_cons, List.length_cons]
    omega
end
theorem good_of {p : PyData} (h : fine p = true) (hw : sz p ≤ 16000000) (hd : p.depth ≤ 60) : good p := by
  obtain ⟨h1, h2⟩ := fine_ok p h
  refine ⟨h1, h2, ?_, hd⟩
  have := shown_sz p h
  have e : sizeLine = 16777216 := by decide
  omega
end PL

namespace PL
open PySem PySem.Spec PyProof.Rows L2 -- the layers
/-! ## what the head tells: the errors' classes -/
def adK (K : PySem.W.Frag) : Ad := ⟨He.ga K "SlipError", He.ga K "NotAllowed", He.ga K "TooLarge", He.ga K "Missing", He.ga K "BadPaper", He.ga K "BadForm", He.ga K "Broken"⟩
def excB (K : PySem.W.Frag) (D : Addr) : Bool :=
  decide (PySem.W.findIn K (.ref D) "__getattribute__" = some (some (.builtin "BaseException.__getattribute__"))) && (decide (PySem.W.findIn K (.ref D) "__getattr__" = some none) && (decide (PySem.W.subIn K (.ref D) (.type "BaseException") = some true) && (PySem.W.hasDictIn K D &&
    (decide (PySem.W.findIn K (.ref D) "__class__" = some (some (.builtin "object.__class__"))) && (decide (PySem.W.specialIn K (.builtin "object.__class__") "__get__" = some (some (.builtin "getset_descriptor.__get__"))) &&
      (decide (PySem.W.takesIn K (.builtin "object.__class__") = some true) && decide (PySem.W.mroIn K D (.type "object") = some true)))))))
theorem excB_ok {K : PySem.W.Frag} {D : Addr} (h : excB K D = true) : ExcC K D := by
  unfold excB at h
  simp only [Bool.and_eq_true, decide_eq_true_eq] at h
  obtain ⟨h1, h2, h3, h4, h5, h6, h7, h8⟩ := h
  exact ⟨h1, h2, h3, h4, h5, h6, h7, h8⟩
/-- the six classes: apart, each of its own kind alone, below SlipError -/
def sixB (K : PySem.W.Frag) : Bool :=
  (adK K).six.all fun C => excB K C && (decide (PySem.W.exmOne K (.ref C) (.ref (adK K).SlipError) = some true) && (adK K).six.all fun c => decide (PySem.W.kitOne K (.ref C) (.ref c) = some (decide (C = c))))
def nodupB : List Addr → Bool
  | [] => true
  | a :: r => (r.all fun b => decide (a ≠ b)) && nodupB r
theorem nodupB_ok : ∀ {l : List Addr}, nodupB l = true → l.Nodup
  | [], _ => List.nodup_nil
  | a :: r, h => by
    obtain ⟨h1, h2⟩ := Bool.and_eq_true_iff.mp h
    refine List.nodup_cons.mpr ⟨fun hm => ?_, nodupB_ok h2⟩
    exact of_decide_eq_true (List.all_eq_true.mp h1 a hm) rfl
def exB (K : PySem.W.Frag) : Bool := nodupB (adK K).six && sixB K
structure SixOk (K : PySem.W.Frag) : Prop where
  nd : (adK K).six.Nodup
  exc : ∀ C ∈ (adK K).six, ExcC K C
  exm : ∀ C ∈ (adK K).six, PySem.W.exmOne K (.ref C) (.ref (adK K).SlipError) = some true
  kit : ∀ C ∈ (adK K).six, ∀ c ∈ (adK K).six, PySem.W.kitOne K (.ref C) (.ref c) = some (decide (C = c))
theorem exB_ok {K : PySem.W.Frag} (h : exB K = true) : SixOk K := by
  obtain ⟨h1, h2⟩ := Bool.and_eq_true_iff.mp h
  have key : ∀ C ∈ (adK K).six, excB K C = true ∧ PySem.W.exmOne K (.ref C) (.ref (adK K).SlipError) = some true ∧ ∀ c ∈ (adK K).six, PySem.W.kitOne K (.ref C) (.ref c) = some (decide (C = c)) := fun C hC => by
    have z := List.all_eq_true.mp h2 C hC
    simp only [Bool.and_eq_true, decide_eq_true_eq, List.all_eq_true] at z
    exact z
  exact ⟨nodupB_ok h1, fun C hC => excB_ok (key C hC).1, fun C hC => (key C hC).2.1, fun C hC => (key C hC).2.2⟩
theorem excT_of {K : PySem.W.Frag} {h : Heap} {mg : Str → Option Value} {x : Str} (X : K.In h) (G : h.Ns mainGlobals mg) (g : (He.Fa.glo x).ok K = true) (c : (He.Fa.exc x).ok K = true) : ExcT K mg x (He.ga K x) := by
  obtain ⟨h1, h2, h3, h4⟩ := He.exc_ok c
  exact ⟨He.glo_ok X G g, h1, h2, h3, h4⟩
/-- the code object of a def that the head tells -/
theorem code_at {K : PySem.W.Frag} {p : Str × Option Str} {x qual : Str} {params : Arguments} {body : List Stmt} {scope : Scope} {dvs : List V} {kws : List (Str × V)} {fd : FuncData} (F : FunD K x qual params body scope dvs kws (He.fAd K p) fd) : fd.code = .ref (He.cT K p).1 := by
  obtain ⟨oc, od, dV, kV, doc, pm, an, cdv, ct, osl, rfl, lk, hcd, _, _⟩ := F.ex
  obtain ⟨c, rfl⟩ := He.codeIn_ref hcd
  have e := He.codeOf_eq lk (c := c) rfl
  show Value.ref c = .ref (He.codeOf K p)
  rw [e]
end PL

namespace PL
open PySem PySem.Spec PyProof.Rows L2 -- the layers
/-! ## x in a sequence of flat data, in a text; x is None -/
def fl : D → Bool
  | .non => true
  | .bl _ => true
  | .int _ => true
  | .str _ => true
  | _ => false
def vD : D → V
  | .non => .non
  | .bl b => .bl b
  | .int i => .int i
  | .str x => .str x
  | .ref a => .ref a
  | _ => .non
def eqF (a b : D) : Bool := L2.eqV (vD a) (vD b)
theorem rv_fl {K : PySem.W.Frag} {H : Hp} {d : D} {v : V} (h : fl d = true) (r : RV K H d v) : v = vD d ∧ L2.flatV (vD d) = true := by
  cases d <;> first | (unfold RV at r; exact ⟨r, rfl⟩) | cases h
theorem rvs_fl {K : PySem.W.Frag} {H : Hp} : ∀ {ds : List D} {vs : List V}, ds.all fl = true → RVs K H ds vs → vs = ds.map vD ∧ (ds.map vD).all L2.flatV = true
  | [], vs, _, r => ⟨RVs.nil_iff.mp r, rfl⟩
  | d :: ds, vs, h, r => by
    unfold RVs at r
    obtain ⟨v, w, e, h1, h2⟩ := r
    have h' : (fl d && ds.all fl) = true := h
    obtain ⟨a1, a2⟩ := Bool.and_eq_true_iff.mp h'
    obtain ⟨e1, f1⟩ := rv_fl a1 h1
    obtain ⟨e2, f2⟩ := rvs_fl a2 h2
    subst e1 e2
    exact ⟨e, by show (L2.flatV (vD d) && (ds.map vD).all L2.flatV) = true; rw [f1, f2]; rfl⟩
def oInF (k : Bool → Bool) : QO := fun x y S P => ∃ ds, (y = .tup ds ∨ LsAt S y ds) ∧ fl x = true ∧ ds.all fl = true ∧ P (.bl (k (ds.any fun y => eqF y x))) S
section
variable {X : Cx}
theorem inF_at {x y : D} {S : Sto} {P : PD} {k : Bool → Bool} {K : PySem.W.Frag} {H : Hp} {vx vy : V} {Q : VK} (q : oInF k x y S P) (rep : Rep K S H) (rx : RV K H x vx) (ry : RV K H y vy) (go : GoD K H P Q) :
    ∃ p xs, vy = .ref p ∧ (SqL K H p xs ∨ SqT K H p xs) ∧ L2.flatV vx = true ∧ xs.all L2.flatV = true ∧ Q (.bl (k (L2.inV vx xs))) H := by
  obtain ⟨ds, hy, fx, fs, hp⟩ := q
  obtain ⟨e1, f1⟩ := rv_fl fx rx
  subst e1
  have fin : ∀ xs, RVs K H ds xs → xs.all L2.flatV = true ∧ Q (.bl (k (L2.inV (vD x) xs))) H := fun xs r => by
    obtain ⟨e2, f2⟩ := rvs_fl fs r
    subst e2
    refine ⟨f2, ?_⟩
    have e3 : L2.inV (vD x) (ds.map vD) = ds.any fun y => eqF y x := by
      unfold L2.inV eqF
      rw [List.any_map]
      rfl
    rw [e3]
    exact go.now hp rep rv_ofB
  rcases hy with rfl | hy
  · obtain ⟨a, vs, e, s, r⟩ := rv_tup ry
    exact ⟨a, vs, e, .inr s, f1, (fin vs r).1, (fin vs r).2⟩
  · obtain ⟨a, vs, e, s, r⟩ := hy.sq rep ry
    exact ⟨a, vs, e, .inl s, f1, (fin vs r).1, (fin vs r).2⟩
theorem od_inF : ODok X (compareOp .In) (oInF id) := ⟨_, op_in_seq, fun x y S P H vx vy Q q rep rx ry go => inF_at q rep rx ry go⟩
theorem od_notInF : ODok X (compareOp .NotIn) (oInF not) := ⟨_, op_notIn_seq, fun x y S P H vx vy Q q rep rx ry go => inF_at q rep rx ry go⟩
def oInS (k : Bool → Bool) : QO := fun x y S P => ∃ (c : Nat) (z : Str), x = .str ⟨#[c]⟩ ∧ y = .str z ∧ P (.bl (k (decide (c ∈ z.cps.toList)))) S
theorem od_inS : ODok X (compareOp .In) (oInS id) := ⟨_, op_in_sign, fun x y S P H vx vy Q q rep rx ry go => by
  obtain ⟨c, z, rfl, rfl, p⟩ := q
  exact ⟨c, z, rv_str rx, rv_str ry, go.now p rep rv_ofB⟩⟩
theorem od_notInS : ODok X (compareOp .NotIn) (oInS not) := ⟨_, op_notIn_sign, fun x y S P H vx vy Q q rep rx ry go => by
  obtain ⟨c, z, rfl, rfl, p⟩ := q
  exact ⟨c, z, rv_str rx, rv_str ry, go.now p rep rv_ofB⟩⟩
/-- x in y of all sorts -/
def oInX (k : Bool → Bool) : QO := fun x y S P => (oInL k x y S P ∨ oInF k x y S P) ∨ oInS k x y S P
theorem od_inX (hu : X.A.units + 65 < cLine) : ODok X (compareOp .In) (oInX id) := ((od_inL hu).or od_inF).or od_inS
theorem od_notInX (hu : X.A.units + 65 < cLine) : ODok X (compareOp .NotIn) (oInX not) := ((od_notInL hu).or od_notInF).or od_notInS
def isNon : D → Bool
  | .non => true
  | _ => false
theorem rv_isNon {K : PySem.W.Frag} {H : Hp} {d : D} {v : V} (r : RV K H d v) : decide (v = .non) = isNon d := by
  cases d <;> unfold RV at r <;> first
    | (subst r; rfl)
    | (obtain ⟨a, vs, e, _⟩ := r; subst e; rfl)
def oIs (k : Bool → Bool) : QO := fun x y S P => y = .non ∧ P (.bl (k (isNon x))) S
theorem od_is : ODok X (compareOp .Is) (oIs id) := ⟨_, op_isN, fun x y S P H vx vy Q q rep rx ry go => by
  obtain ⟨rfl, p⟩ := q
  exact ⟨rv_non ry, by rw [rv_isNon rx]; exact go.now p rep rv_ofB⟩⟩
theorem od_isNot : ODok X (compareOp .IsNot) (oIs not) := ⟨_, op_notN, fun x y S P H vx vy Q q rep rx ry go => by
  obtain ⟨rfl, p⟩ := q
  exact ⟨rv_non ry, by rw [rv_isNon rx]; exact go.now p rep rv_ofB⟩⟩
/-! ## many times a sequence -/
def strRep (k : Int) (x : Str) : Str := ⟨((List.replicate k.toNat x.cps.toList).flatten).toArray⟩
def oMulS : QO := fun x y S P => ∃ z k, x = .str z ∧ y = .int k ∧ -1000000 ≤ k ∧ k ≤ 1000000 ∧ z.length * k.toNat ≤ 1000000 ∧ P (.str (strRep k z)) S
theorem foldl_flat (m : Nat) (a : Array Nat) : (List.replicate m a).foldl (· ++ ·) #[] = ((List.replicate m a.toList).flatten).toArray := by
  have key : ∀ (m : Nat) (acc : Array Nat), (List.replicate m a).foldl (· ++ ·) acc = (acc.toList ++ (List.replicate m a.toList).flatten).toArray := by
    intro m
    induction m with
    | zero => intro acc; simp
    | succ n ih =>
      intro acc
      rw [List.replicate_succ, List.foldl_cons, ih, List.replicate_succ, List.flatten_cons]
      simp
  simpa using key m #[]
theorem op_mulS : OpR X (binaryOp .Mult) (fun x y H Q => ∃ z k, x = .str z ∧ y = .int k ∧ -1000000 ≤ k ∧ k ≤ 1000000 ∧ z.length * k.toNat ≤ 1000000 ∧ Q (.str (strRep k z)) H) := by
  intro pins s σ H x y v u Q I rx ry h
  obtain ⟨z, k, rfl, rfl, h1, h2, h3, q⟩ := h
  obtain ⟨t, rfl⟩ := rx
  obtain ⟨t', rfl⟩ := ry
  refine PySem.P.mul_str (by rw [decide_eq_false (by omega), decide_eq_false (by omega)]; rfl) (fun a b => ?_) (fun a b => ?_) ?_
  · have hk : 1 ≤ k := by omega
    have h5 : (z.length : Int) ≤ 1000000 := by
      have h6 : z.length * 1 ≤ z.length * k.toNat := Nat.mul_le_mul_left _ (by omega)
      omega
    have h7 : (1000000 : Int) ≤ (2 ^ 63 - 1) / k := by
      refine Int.le_ediv_of_mul_le (by omega) ?_
      have : (1000000 : Int) * k ≤ 1000000 * 1000000 := Int.mul_le_mul_of_nonneg_left h2 (by omega)
      omega
    omega
  · unfold Builtin.Str.tooLong
    have e : sizeLine = 16777216 := by decide
    exact decide_eq_false (by omega)
  · by_cases hk : k < 1
    · rw [if_pos hk]
      have e : strRep k z = Str.empty := by
        unfold strRep
        rw [show k.toNat = 0 by omega]
        rfl
      exact ⟨by decide, .str _, H, I.tok _, ⟨_, rfl⟩, by rw [← e]; exact q⟩
    · rw [if_neg hk]
      by_cases hb : (k == 1 || z.length == 0) = true
      · rw [if_pos hb]
        have e : strRep k z = z := by
          unfold strRep
          rcases Bool.or_eq_true_iff.mp hb with e | e
          · rw [eq_of_beq e]
            simp
          · have e0 : z.cps.toList = [] := by
              have : z.cps.size = 0 := eq_of_beq e
              simpa using this
            obtain ⟨cps⟩ := z
            simp only at e0
            rw [e0]
            simp at e0
            subst e0
            simp
        exact ⟨.str _, H, I, ⟨_, rfl⟩, by rw [← e]; exact q⟩
      · rw [if_neg hb]
        have e : (⟨(List.replicate k.toNat z.cps).foldl (· ++ ·) #[]⟩ : Str) = strRep k z := by
          unfold strRep
          rw [foldl_flat]
        rw [e]
        refine ⟨?_, .str _, H, I.tok _, ⟨_, rfl⟩, q⟩
        have e2 : sizeLine = 16777216 := by decide
        have e3 : (strRep k z).length = k.toNat * z.length := by
          unfold strRep
          show (List.flatten (List.replicate k.toNat z.cps.toList)).toArray.size = _
          rw [List.size_toArray, PyProof.Rows.lm_len_rep_flat]
          simp [Str.length]
        rw [e3, e2, Nat.mul_comm]
        omega
theorem od_mulS : ODok X (binaryOp .Mult) oMulS := ⟨_, op_mulS, fun x y S P H vx vy Q q rep rx ry go => by
  obtain ⟨z, k, rfl, rfl, h1, h2, h3, p⟩ := q
  exact ⟨z, k, rv_str rx, rv_int ry, h1, h2, h3, go.now p rep rv_ofS⟩⟩
theorem RVs.rep {K : PySem.W.Frag} {H : Hp} {ds : List D} {vs : List V} (r : RVs K H ds vs) : ∀ n : Nat, RVs K H (List.replicate n ds).flatten (List.replicate n vs).flatten
  | 0 => RVs.nil_iff.mpr rfl
  | n + 1 => by
    rw [List.replicate_succ, List.replicate_succ, List.flatten_cons, List.flatten_cons]
    exact r.append (RVs.rep r n)
def oMulT : QO := fun x y S P => ∃ ds k, x = .tup ds ∧ y = .int k ∧ ds ≠ [] ∧ 2 ≤ k ∧ k ≤ 1000 ∧ ds.length ≤ 1000 ∧ P (.tup (List.replicate k.toNat ds).flatten) S
theorem od_mulT : ODok X (binaryOp .Mult) oMulT := ⟨_, op_repT, fun x y S P H vx vy Q q rep rx ry go => by
  obtain ⟨ds, k, rfl, rfl, h0, h1, h2, h3, p⟩ := q
  obtain ⟨a, vs, e, s, r⟩ := rv_tup rx
  refine ⟨a, k, vs, e, rv_int ry, s, fun z => h0 ?_, h1, h2, by rw [← r.length]; exact h3, fun l n => go _ _ _ _ p (Keep.new n) (rep.same (same_new n)) (rv_newT n (r.rep _))⟩
  have := r.length
  rw [z] at this
  exact List.eq_nil_of_length_eq_zero this⟩
def oMulX : QO := fun x y S P => (oMul x y S P ∨ oMulS x y S P) ∨ oMulT x y S P
theorem od_mulX : ODok X (binaryOp .Mult) oMulX := (od_mul.or od_mulS).or od_mulT
end
end PL

namespace PL
open PySem PySem.Spec PyProof.Rows L2 -- the layers
theorem vals_of_get : ∀ {xs : List V} {us : List Value}, xs.length = us.length → (∀ (i : Nat) (v : V) (u : Value), xs[i]? = some v → us[i]? = some u → RelV v u) → Vals xs us
  | [], [], _, _ => .nil
  | [], _ :: _, e, _ => by cases e
  | _ :: _, [], e, _ => by cases e
  | x :: xs, u :: us, e, h => .cons (h 0 x u rfl rfl) (vals_of_get (by simpa using e) fun i v w a b => h (i + 1) v w a b)
section
variable {X : Cx}
/-! ## repr of lists, tuples; list(text); sorted -/
def cRepr2 : QC := fun ds S P => ∃ d p, ds = [d] ∧ ((∃ a, d = .ref a) ∨ (∃ xs, d = .tup xs) ∨ ∃ xs, d = .rol xs) ∧ Dat S d p ∧ good p ∧ P (.str p.shown) S
theorem cd_repr2 (hG : X.A.guards = some []) (hu : X.A.units + 64 < cLine) : CDok X (.builtin "repr") cRepr2 := by
  refine ⟨fun vs H Q => ∃ a p, vs = [.ref a] ∧ Dp X.K H (.ref a) p ∧ good p ∧ Q (.str p.shown) H, fun pins s σ H xs us Q I r h => ?_, fun ds S P H vs Q q rep r go => ?_⟩
  · obtain ⟨a, p, rfl, hd, ⟨g1, g2, g3, g4⟩, hq⟩ := h
    obtain ⟨u, rfl, ru⟩ := vals1 r
    cases ru
    obtain ⟨as, hr⟩ := Dp.reads I p _ _ hd rfl
    refine repr_of_reads' hr g1 (fun z => by rw [g2] at z; cases z) hG (by omega) (fun _ _ z => z) (fun h' u tk hk => ?_) g3
    exact ⟨.str p.shown, H, I.kept hk, ⟨_, rfl⟩, hq⟩
  · obtain ⟨d, p, rfl, hd0, hd, hg, hp⟩ := q
    obtain ⟨v, rfl, rv⟩ := rvs_one r
    obtain ⟨a, ea⟩ : ∃ a, v = V.ref a := by
      rcases hd0 with ⟨a, rfl⟩ | ⟨xs, rfl⟩ | ⟨xs, rfl⟩
      · exact ⟨a, rv_ref rv⟩
      · obtain ⟨a, vs, e, _⟩ := rv_tup rv
        exact ⟨a, e⟩
      · unfold RV at rv
        obtain ⟨a, vs, e, _⟩ := rv
        exact ⟨a, e⟩
    subst ea
    exact ⟨a, p, rfl, Dat.dp rep _ _ _ hd rv, hg, go.now hp rep rv_ofS⟩
theorem call_listS : CallR X (.type "list") (fun xs H Q => X.calm = true ∧ ∃ z : Str, xs = [.str z] ∧ z.length ≤ sizeLine ∧ ∀ l, H l = none → Q (.ref l) (upd H l (.lst (z.cps.toList.map fun c => V.str ⟨#[c]⟩)))) := by
  intro pins s σ H xs us Q I r h
  obtain ⟨hc, z, rfl, hz, q⟩ := h
  obtain ⟨u, rfl, rx⟩ := vals1 r
  obtain ⟨t, rfl⟩ := rx
  refine call_list_str (hn := hz) (I.ok.hd hc) z t fun h' tk acc' c' hk hS hacc => ?_
  have hv : Vals (z.cps.toList.map fun c => V.str ⟨#[c]⟩) acc'.toList := by
    refine vals_of_get (by rw [List.length_map]; simp [hacc.1]) fun i v u e1 e2 => ?_
    rw [List.getElem?_map] at e1
    obtain ⟨c, e3, rfl⟩ := Option.map_eq_some_iff.mp e1
    have e2' : acc'[i]? = some u := by simpa using e2
    obtain ⟨c2, u2, e4, rfl⟩ := hacc.2 i u e2'
    have e5 : z.cps[i]? = some c := by simpa using e3
    rw [e5] at e4
    cases e4
    exact ⟨u2, rfl⟩
  refine ⟨.ref s.heap.objs.size, _, I.laid (t' := tk) (o := .lst (z.cps.toList.map fun c => V.str ⟨#[c]⟩)) (fun b o q => hk b o q) (Nat.le_refl _) ?_, rfl, q _ (I.hok.fresh (Nat.le_refl _))⟩
  exact ⟨by rw [List.length_map]; exact hz, acc'.toList, c', hv, by simpa using hS⟩
theorem rvs_chars {K : PySem.W.Frag} {H : Hp} {z : Str} : RVs K H (chars z) (z.cps.toList.map fun c => V.str ⟨#[c]⟩) := by
  unfold chars
  generalize z.cps.toList = l
  induction l with
  | nil => exact RVs.nil_iff.mpr rfl
  | cons c r ih =>
    show RVs K H (D.str ⟨#[c]⟩ :: r.map fun c => D.str ⟨#[c]⟩) (V.str ⟨#[c]⟩ :: r.map fun c => V.str ⟨#[c]⟩)
    unfold RVs
    exact ⟨_, _, rfl, rv_ofS, ih⟩
def cListX : QC := fun ds S P => cList ds S P ∨ ∃ z : Str, ds = [.str z] ∧ z.length ≤ sizeLine ∧ ∀ p, S p = none → P (.ref p) (ups S p (.lst (chars z)))
theorem CDok.or {f : Value} {q q' : QC} (h : CDok X f q) (h' : CDok X f q') : CDok X f (fun ds S P => q ds S P ∨ q' ds S P) := by
  obtain ⟨r, o, i⟩ := h
  obtain ⟨r', o', i'⟩ := h'
  refine ⟨fun vs H Q => r vs H Q ∨ r' vs H Q, fun pins s σ H xs us Q I rv z => ?_, fun ds S P H vs Q z rep rv go => ?_⟩
  · rcases z with z | z
    · exact o pins s σ H xs us Q I rv z
    · exact o' pins s σ H xs us Q I rv z
  · rcases z with z | z
    · exact .inl (i ds S P H vs Q z rep rv go)
    · exact .inr (i' ds S P H vs Q z rep rv go)
theorem cd_listX (hc : X.calm = true) : CDok X (.type "list") cListX := cd_list.or ⟨_, call_listS, fun ds S P H vs Q q rep r go => by
  obtain ⟨z, rfl, hz, hp⟩ := q
  obtain ⟨v, rfl, rv⟩ := rvs_one r
  exact ⟨hc, z, by rw [rv_str rv], hz, fun l n => go _ _ _ _ (hp l (rep.free n)) (Keep.new n) (rep.newL n rvs_chars) rv_ofR⟩⟩
theorem rvs_ofInts {K : PySem.W.Frag} {H : Hp} (ns : List Int) : RVs K H (ns.map D.int) (ns.map V.int) := rvs_intsOf ns
theorem rvs_ofStrs {K : PySem.W.Frag} {H : Hp} : ∀ ns : List Str, RVs K H (ns.map D.str) (ns.map V.str)
  | [] => RVs.nil_iff.mpr rfl
  | n :: ns => by
    show RVs K H (D.str n :: ns.map D.str) (V.str n :: ns.map V.str)
    unfold RVs
    exact ⟨_, _, rfl, rv_ofS, rvs_ofStrs ns⟩
def cSorted : QC := fun ds S P => (∃ d ns, ds = [d] ∧ LsAt S d (ns.map D.int) ∧ ∀ (ns' : List Int) p, ns'.Perm ns → ns'.Pairwise (· ≤ ·) → S p = none → P (.ref p) (ups S p (.lst (ns'.map D.int)))) ∨
  ∃ d ns, ds = [d] ∧ LsAt S d (ns.map D.str) ∧ ns.length < 64 ∧ ∀ (ns' : List Str) p, ns'.Perm ns → sortedS ns' = true → S p = none → P (.ref p) (ups S p (.lst (ns'.map D.str)))
theorem cd_sorted : CDok X (.builtin "sorted") cSorted := by
  refine CDok.or ⟨_, cr_sortedI, fun ds S P H vs Q q rep r go => ?_⟩ ⟨_, cr_sortedS, fun ds S P H vs Q q rep r go => ?_⟩
  · obtain ⟨d, ns, rfl, hl, hp⟩ := q
    obtain ⟨v, rfl, rv⟩ := rvs_one r
    obtain ⟨a, ws, e, s, r2⟩ := hl.sq rep rv
    subst e
    rw [rvs_ints r2] at s
    exact ⟨a, ns, rfl, s, fun ns' p h1 h2 n => go _ _ _ _ (hp ns' p h1 h2 (rep.free n)) (Keep.new n) (rep.newL n (rvs_ofInts _)) rv_ofR⟩
  · obtain ⟨d, ns, rfl, hl, h64, hp⟩ := q
    obtain ⟨v, rfl, rv⟩ := rvs_one r
    obtain ⟨a, ws, e, s, r2⟩ := hl.sq rep rv
    subst e
    rw [rvs_strs r2] at s
    exact ⟨a, ns, rfl, s, h64, fun ns' p h1 h2 n => go _ _ _ _ (hp ns' p h1 h2 (rep.free n)) (Keep.new n) (rep.newL n (rvs_ofStrs _)) rv_ofR⟩
/-! ## methods of lists -/
def mPopAt : QM := fun a xs ds S P => ∃ i j y, ds = [.int i] ∧ -1000000000 ≤ i ∧ i ≤ 1000000000 ∧ ixN xs.length i = some j ∧ xs[j]? = some y ∧ P y (ups S a (.lst (xs.eraseIdx j)))
theorem RVs.erase {K : PySem.W.Frag} {H : Hp} : ∀ {ds : List D} {vs : List V} (n : Nat), RVs K H ds vs → RVs K H (ds.eraseIdx n) (vs.eraseIdx n)
  | [], vs, n, h => by
    rw [RVs.nil_iff.mp h]
    exact RVs.nil_iff.mpr rfl
  | d :: ds, vs, 0, h => by
    unfold RVs at h
    obtain ⟨v, r, e, _, h2⟩ := h
    subst e
    exact h2
  | d :: ds, vs, n + 1, h => by
    unfold RVs at h
    obtain ⟨v, r, e, h1, h2⟩ := h
    subst e
    show RVs K H (d :: ds.eraseIdx n) (v :: r.eraseIdx n)
    unfold RVs
    exact ⟨v, _, rfl, h1, RVs.erase n h2⟩
theorem md_popAt : MDok X "list.pop" mPopAt := by
  refine ⟨_, mt_popAt, fun a xs ds S P H us vs Q q rep e f rx rd go => ?_⟩
  obtain ⟨i, j, y, rfl, h1, h2, hj, hy, hp⟩ := q
  obtain ⟨v, rfl, rv⟩ := rvs_one rd
  obtain ⟨vy, ey, ry⟩ := RVs.get rx hy
  refine ⟨a, us, i, j, vy, rfl, by rw [rv_int rv], f, by omega, by omega, by rw [← rx.length]; exact (ixN_seq hj).1, ey, ?_⟩
  exact go _ _ _ _ hp (keepL f) (rep.setL f (RVs.erase j rx)) (RV.keep (keepL f) _ _ ry)
def mExtend : QM := fun a xs ds S P => ∃ b zs, ds = [.ref b] ∧ S b = some (.lst zs) ∧ xs.length + zs.length ≤ sizeLine ∧ P .non (ups S a (.lst (xs ++ zs)))
theorem md_extend : MDok X "list.extend" mExtend := by
  refine ⟨_, mt_extend, fun a xs ds S P H us vs Q q rep e f rx rd go => ?_⟩
  obtain ⟨b, zs, rfl, hb, hz, hp⟩ := q
  obtain ⟨v, rfl, rv⟩ := rvs_one rd
  obtain ⟨ws, f2, r2⟩ := rep _ _ hb
  refine ⟨a, b, us, ws, rfl, by rw [rv_ref rv], f, f2, by rw [← rx.length, ← r2.length]; exact hz, ?_⟩
  exact go _ _ _ _ hp (keepL f) (rep.setL f (rx.append r2)) rv_ofN
def mPop0 : QM := fun a xs ds S P => ds = [] ∧ ∃ y, xs[xs.length - 1]? = some y ∧ P y (ups S a (.lst xs.dropLast))
theorem RVs.dropLast {K : PySem.W.Frag} {H : Hp} {ds : List D} {vs : List V} (r : RVs K H ds vs) : RVs K H ds.dropLast vs.dropLast := by
  rw [List.dropLast_eq_take, List.dropLast_eq_take, r.length]
  exact RVs.take _ r
theorem md_pop0 : MDok X "list.pop" mPop0 := by
  refine ⟨_, mt_pop, fun a xs ds S P H us vs Q q rep e f rx rd go => ?_⟩
  obtain ⟨rfl, y, hy, hp⟩ := q
  obtain ⟨vy, ey, ry⟩ := RVs.get rx hy
  refine ⟨a, us, vy, rfl, RVs.nil_iff.mp rd, f, by rw [← rx.length]; exact ey, ?_⟩
  exact go _ _ _ _ hp (keepL f) (rep.setL f rx.dropLast) (RV.keep (keepL f) _ _ ry)
variable {e : Expr} {es : List Expr} {qa : QA}
theorem de_popAt {o : Expr} {q : QE} {apos cpos : Pos} (ho : DE X o q) (ha : DA X (e :: es) qa)
    (hbase : attributeBase o "pop" X.env (eval o X.env) = eval o X.env := by rfl)
    (hfew : ((backTo cpos (starEach (e :: es) X.env)).all (fun x => !x.1) && (backToKw cpos (keywordEach [] X.env)).all (fun x => x.1.isSome)
      && decide ((e :: es).length + ([] : List Keyword).length + (if ([] : List Keyword).isEmpty then 0 else 1) < 30)) = true := by rfl)
    (hline : (apos.endLine == cpos.line) = true := by rfl) (hs : starEach (e :: es) X.env = (false, eval e X.env) :: starEach es X.env := by rfl) (hplain : (backTo cpos (starEach es X.env)).any (·.1) = false := by rfl) :
    DE X (.Call (.Attribute o "pop" apos) (e :: es) [] cpos) (qMeth mPopAt q qa) := de_meth PySem.F.slot_list_pop PySem.F.type_list_pop md_popAt ho ha hbase hfew hline hs hplain
theorem de_pop0 {o : Expr} {q : QE} {apos cpos : Pos} (ho : DE X o q) (hbase : attributeBase o "pop" X.env (eval o X.env) = eval o X.env := by rfl) (hline : (apos.endLine == cpos.line) = true := by rfl) :
    DE X (.Call (.Attribute o "pop" apos) [] [] cpos) (qMeth0 mPop0 q) := de_meth0 PySem.F.slot_list_pop PySem.F.type_list_pop md_pop0 ho hbase hline
theorem de_extend {o : Expr} {q : QE} {apos cpos : Pos} (ho : DE X o q) (ha : DA X (e :: es) qa)
    (hbase : attributeBase o "extend" X.env (eval o X.env) = eval o X.env := by rfl)
    (hfew : ((backTo cpos (starEach (e :: es) X.env)).all (fun x => !x.1) && (backToKw cpos (keywordEach [] X.env)).all (fun x => x.1.isSome)
      && decide ((e :: es).length + ([] : List Keyword).length + (if ([] : List Keyword).isEmpty then 0 else 1) < 30)) = true := by rfl)
    (hline : (apos.endLine == cpos.line) = true := by rfl) (hs : starEach (e :: es) X.env = (false, eval e X.env) :: starEach es X.env := by rfl) (hplain : (backTo cpos (starEach es X.env)).any (·.1) = false := by rfl) :
    DE X (.Call (.Attribute o "extend" apos) (e :: es) [] cpos) (qMeth mExtend q qa) := de_meth PySem.F.slot_list_extend PySem.F.type_list_extend md_extend ho ha hbase hfew hline hs hplain
/-! ## methods of texts -/
abbrev QMS := Str → List D → Sto → PD → Prop
def qMethS (f : QMS) (q : QE) (qa : QA) : QE := fun loc S P E => q loc S (fun d S1 => match d with
  | .str z => qa loc S1 (fun ds S2 => f z ds S2 P) E
  | _ => False) E
def qMethS0 (f : QMS) (q : QE) : QE := fun loc S P E => q loc S (fun d S1 => match d with
  | .str z => f z [] S1 P
  | _ => False) E
def MSok (X : Cx) (id : String) (f : QMS) : Prop := ∃ r, MtR X id r ∧ ∀ z ds S P H vs Q, f z ds S P → Rep X.K S H → RVs X.K H ds vs → GoD X.K H P Q → r (.str z) vs H Q
theorem de_methS {o : Expr} {q : QE} {f : QMS} {id : String} {name : Str} {apos cpos : Pos} (slot : Slot "str" name id) (hty : typeOf (.builtin id) = pure (.type "method_descriptor")) (hm : MSok X id f) (ho : DE X o q) (ha : DA X (e :: es) qa)
    (hbase : attributeBase o name X.env (eval o X.env) = eval o X.env := by rfl)
    (hfew : ((backTo cpos (starEach (e :: es) X.env)).all (fun x => !x.1) && (backToKw cpos (keywordEach [] X.env)).all (fun x => x.1.isSome)
      && decide ((e :: es).length + ([] : List Keyword).length + (if ([] : List Keyword).isEmpty then 0 else 1) < 30)) = true := by rfl)
    (hline : (apos.endLine == cpos.line) = true := by rfl) (hs : starEach (e :: es) X.env = (false, eval e X.env) :: starEach es X.env := by rfl) (hplain : (backTo cpos (starEach es X.env)).any (·.1) = false := by rfl) :
    DE X (.Call (.Attribute o name apos) (e :: es) [] cpos) (qMethS f q qa) := fun W tk => by
  obtain ⟨r, hr, hi⟩ := hm
  refine PE.imp (pe_bm PySem.F.plainAttrs_str slot hty hr (ho W tk) (ha W tk) hbase hfew hline hs hplain) fun σ H Q h => ?_
  obtain ⟨loc, S, P, E, rl, rep, hq, g, gx⟩ := h
  refine ⟨loc, S, _, E, rl, rep, hq, fun d S1 v H1 q1 k1 rep1 r1 => ?_, gx⟩
  cases d with
  | str z =>
    rw [rv_str r1]
    refine ⟨rfl, loc, S1, _, E, rl.keep k1, rep1, q1, fun ds S2 vs H2 q2 k2 rep2 r2 => ?_, gx.keep k1⟩
    exact hi z ds S2 P H2 vs Q q2 rep2 r2 (g.keep (k1.trans k2))
  | _ => exact (show False from q1).elim
theorem de_methS0 {o : Expr} {q : QE} {f : QMS} {id : String} {name : Str} {apos cpos : Pos} (slot : Slot "str" name id) (hty : typeOf (.builtin id) = pure (.type "method_descriptor")) (hm : MSok X id f) (ho : DE X o q)
    (hbase : attributeBase o name X.env (eval o X.env) = eval o X.env := by rfl) (hline : (apos.endLine == cpos.line) = true := by rfl) : DE X (.Call (.Attribute o name apos) [] [] cpos) (qMethS0 f q) := fun W tk => by
  obtain ⟨r, hr, hi⟩ := hm
  refine PE.imp (pe_bm0 PySem.F.plainAttrs_str slot hty hr (ho W tk) hbase hline) fun σ H Q h => ?_
  obtain ⟨loc, S, P, E, rl, rep, hq, g, gx⟩ := h
  refine ⟨loc, S, _, E, rl, rep, hq, fun d S1 v H1 q1 k1 rep1 r1 => ?_, gx⟩
  cases d with
  | str z =>
    rw [rv_str r1]
    exact ⟨rfl, hi z [] S1 P H1 [] Q q1 rep1 (RVs.nil_iff.mpr rfl) (g.keep k1)⟩
  | _ => exact (show False from q1).elim
def mJoin : QMS := fun z ds S P => ∃ d ys, ds = [d] ∧ (LsAt S d (ys.map D.str) ∨ d = .tup (ys.map D.str)) ∧ (ys.map (·.length)).sum + ys.length * z.length ≤ 16777216 ∧ P (.str (Txt.join z ys)) S
theorem ms_join : MSok X "str.join" mJoin := by
  refine ⟨_, mt_join, fun z ds S P H vs Q q rep r go => ?_⟩
  obtain ⟨d, ys, rfl, hd, hz, hp⟩ := q
  obtain ⟨v, rfl, rv⟩ := rvs_one r
  rcases hd with hl | rfl
  · obtain ⟨a, ws, e, s, r2⟩ := hl.sq rep rv
    subst e
    rw [rvs_strs r2] at s
    exact ⟨z, a, ys, rfl, rfl, .inl s, hz, go.now hp rep rv_ofS⟩
  · obtain ⟨a, ws, e, s, r2⟩ := rv_tup rv
    subst e
    rw [rvs_strs r2] at s
    exact ⟨z, a, ys, rfl, rfl, .inr s, hz, go.now hp rep rv_ofS⟩
def mUpper : QMS := fun z ds S P => ds = [] ∧ z.length ≤ 5592405 ∧ P (.str (Txt.upper z)) S
theorem ms_upper : MSok X "str.upper" mUpper := by
  refine ⟨_, mt_upper, fun z ds S P H vs Q q rep r go => ?_⟩
  obtain ⟨rfl, hz, hp⟩ := q
  exact ⟨z, rfl, RVs.nil_iff.mp r, hz, go.now hp rep rv_ofS⟩
/-- the place of a sign that is there -/
theorem occ_sign {x : Str} {c : Nat} (h : c ∈ x.cps.toList) : ∃ i rest, Builtin.Str.occurrences x ⟨#[c]⟩ 0 x.length 1 = i :: rest ∧ x.cps.toList[i]? = some c := by
  have h1 := PySem.StrLaws.found_one x c
  rw [decide_eq_true h] at h1
  cases e : Builtin.Str.occurrences x ⟨#[c]⟩ 0 x.length 1 with
  | nil => rw [e] at h1; cases h1
  | cons i rest =>
    obtain ⟨h2, h3⟩ := PySem.StrLaws.occ_spec x ⟨#[c]⟩ 0 x.length 1 i (by rw [e]; exact List.mem_cons_self ..)
    exact ⟨i, rest, rfl, (PySem.StrLaws.subAt_one x c i).mp ⟨h2, h3⟩⟩
def mIndexS : QMS := fun z ds S P => ∃ c, ds = [.str ⟨#[c]⟩] ∧ c ∈ z.cps.toList ∧ ∀ i : Nat, z.cps.toList[i]? = some c → P (.int i) S
theorem ms_index : MSok X "str.index" mIndexS := by
  refine ⟨_, mt_sindex, fun z ds S P H vs Q q rep r go => ?_⟩
  obtain ⟨c, rfl, hc, hp⟩ := q
  obtain ⟨v, rfl, rv⟩ := rvs_one r
  obtain ⟨i, rest, e1, e2⟩ := occ_sign hc
  exact ⟨z, ⟨#[c]⟩, i, rest, rfl, by rw [rv_str rv], e1, go.now (hp i e2) rep rv_ofI⟩
end
end PL

namespace PL
open PySem PySem.Spec PyProof.Rows L2 PySem.W PySem.Calls
section
variable {X : Cx}
/-! ## a text from behind -/
theorem rev_pick (z : Str) (k : Tok) : (slicePicked z none none (some (-1, k))).filterMap (z.cps[·]?) = z.cps.toList.reverse := by
  show ((sliceRange ((z.length : Int) - 1) (-1) (-1)).filterMap (z.cps[·]?)) = _
  rw [PySem.W.krv_sliceRange, PySem.W.krv_range, List.filterMap_reverse]
  exact congrArg List.reverse (PySem.W.krv_all z.cps)
def tRevS (te : TE) : TE := fun σ H Q => te σ H fun x H1 => ∃ z, x = .str z ∧ z.length ≤ sizeLine ∧ Q (.str ⟨z.cps.toList.reverse.toArray⟩) H1
theorem pe_revS {e : Expr} {te : TE} {k : Nat} {p1 p2 p3 pos : Pos} (he : PE X e te) : PE X (.Subscript e (.Slice none none (some (.UnaryOp .USub (.Constant (.int 1) k p1) p2)) p3) pos) (tRevS te) := by
  refine ⟨fun pins s σ H Q I h => ?_⟩
  refine Subscript_ (thn (he.run pins s σ H _ I h) fun v s1 ⟨x, H1, I1, r1, q1⟩ => ?_)
  obtain ⟨z, ex, hz, q⟩ := q1
  subst ex
  obtain ⟨tz, rfl⟩ := r1
  have part : PO X (some (.UnaryOp .USub (.Constant (.int 1) k p1) p2)) (tPart (tUn (rU fun i => .int (-i)) (tC (.int 1)))) := po_some (pe_un un_neg pe_int)
  refine wpAny_Slice (thn (po_none.run pins s1 σ H1 (fun o H2 => o = none ∧ H2 = H1) I1 ⟨rfl, rfl⟩) fun vl s2 ⟨l, H2, I2, pl, el, e2⟩ => ?_)
  subst el e2
  refine thn (po_none.run pins s2 σ H2 (fun o H3 => o = none ∧ H3 = H2) I2 ⟨rfl, rfl⟩) fun vu s3 ⟨u, H3, I3, pu, eu, e3⟩ => ?_
  subst eu e3
  refine thn (part.run pins s3 σ H3 (fun o H4 => o = some (-1) ∧ H4 = H3) I3 ⟨1, rfl, -1, rfl, rfl, rfl⟩) fun vs s4 ⟨o, H4, I4, ps, eo, e4⟩ => ?_
  subst eo e4
  have I5 : Inv X pins σ H4 { s4 with heap := s4.heap.push { cls := .type "slice", data := .fields #[vl, vu, vs] } } := I4.kept (t' := s4.toks) fun b ob w => Heap.get?_push_of_some _ w
  obtain ⟨l', rfl, hl⟩ := IsPart.raw pl
  obtain ⟨u', rfl, hu⟩ := IsPart.raw pu
  obtain ⟨st, rfl, hst⟩ := IsPart.raw ps
  obtain ⟨⟨m, tk⟩, rfl, rfl⟩ := Option.map_eq_some_iff.mp hst
  obtain rfl := Option.map_eq_none_iff.mp hl
  obtain rfl := Option.map_eq_none_iff.mp hu
  refine tail_any (ops := [.str z tz, .ref s4.heap.objs.size]) (typeIs_str _ _ _) F.slot_str_getitem.lookup ?_ (by with_unfolding_all rfl)
  refine wpAny_getItem_str_slice (l := none) (u := none) (st := some (-1, tk)) ⟨_, Heap.get?_push_size _ rfl, rfl, rfl⟩ rfl ?_
  have e1 : sliceMade z tz none none (some (-1, tk)) = Made.str ⟨z.cps.toList.reverse.toArray⟩ := by
    unfold sliceMade
    rw [rev_pick]
    rfl
  rw [e1]
  refine ⟨?_, .str _, H4, I5.tok _, ⟨_, rfl⟩, q⟩
  show (z.cps.toList.reverse.toArray).size ≤ sizeLine
  have hz' : z.cps.size ≤ sizeLine := hz
  simpa using hz'
def qRevS (q : QE) : QE := fun loc S P E => q loc S (fun d S1 => match d with
  | .str z => z.length ≤ sizeLine ∧ P (.str ⟨z.cps.toList.reverse.toArray⟩) S1
  | _ => False) E
theorem de_revS {e : Expr} {q : QE} {k : Nat} {p1 p2 p3 pos : Pos} (he : DE X e q) : DE X (.Subscript e (.Slice none none (some (.UnaryOp .USub (.Constant (.int 1) k p1) p2)) p3) pos) (qRevS q) := fun W tk => by
  refine PE.imp (pe_revS (he W tk)) fun σ H Q h => ?_
  obtain ⟨loc, S, P, E, rl, rep, hq, g, gx⟩ := h
  refine ⟨loc, S, _, E, rl, rep, hq, fun d S1 v H1 q1 k1 rep1 r1 => ?_, gx⟩
  cases d with
  | str z => exact ⟨z, rv_str r1, q1.1, g _ _ _ _ q1.2 k1 rep1 rv_ofS⟩
  | _ => exact (show False from q1).elim
end
end PL

namespace PL
open PySem PySem.Spec PyProof.Rows L2 -- the layers
/-! ## zip of two: texts, tuples, lists that stay -/
inductive ZK where
  | txt (z : Str) (t : Tok)
  | tup (a : Addr) (vs : List V)
  | lst (a : Addr) (vs : List V)
namespace ZK
def v : ZK → Value
  | .txt z t => .str z t
  | .tup a _ => .ref a
  | .lst a _ => .ref a
def items : ZK → List V
  | .txt z _ => z.cps.toList.map fun c => V.str ⟨#[c]⟩
  | .tup _ vs => vs
  | .lst _ vs => vs
def ok (K : PySem.W.Frag) (H : Hp) : ZK → Prop
  | .txt _ _ => True
  | .tup a vs => SqT K H a vs
  | .lst a vs => SqL K H a vs
def bs : ZK → List Addr
  | .txt _ _ => []
  | .tup a _ => [a]
  | .lst a _ => [a]
def st (it : Addr) (i : Nat) (h : Heap) : ZK → Prop
  | .txt z t => h.IsStrIter it (strIterType z) z t i
  | .tup a _ => h.IsTupleIter it a i
  | .lst a _ => h.IsListIter it a i
def base (its : List Value) (h : Heap) : ZK → Prop
  | .txt _ _ => True
  | .tup a _ => h.IsTuple a its.toArray
  | .lst a _ => h.IsList a its.toArray
def ob : ZK → Obj
  | .txt z t => { cls := .type (strIterType z), data := .fields #[.str z t, .int 0 0] }
  | .tup a _ => { cls := .type "tuple_iterator", data := .fields #[.ref a, .int 0 0] }
  | .lst a _ => { cls := .type "list_iterator", data := .fields #[.ref a, .int 0 0] }
theorem begins (k : ZK) (its : List Value) : Begins k.v k.ob (fun h => k.base its h) := by
  cases k with
  | txt z t => exact begins_text z t
  | tup a vs => exact begins_tuple a its.toArray
  | lst a vs => exact begins_list a its.toArray
theorem st0 (k : ZK) {it : Addr} {h : Heap} (e : h.get? it = some k.ob) : k.st it 0 h := by
  cases k with
  | txt z t => exact ⟨_, e, rfl, rfl⟩
  | tup a vs => exact ⟨_, e, rfl, rfl⟩
  | lst a vs => exact ⟨_, e, rfl, rfl⟩
theorem st_at (k : ZK) {it : Addr} {i : Nat} {h h' : Heap} (s : k.st it i h) (f : ∀ o, h.get? it = some o → h'.get? it = some o) : k.st it i h' := by
  cases k with
  | txt z t =>
    obtain ⟨o, e, r⟩ := s
    exact ⟨o, f o e, r⟩
  | tup a vs =>
    obtain ⟨o, e, r⟩ := s
    exact ⟨o, f o e, r⟩
  | lst a vs =>
    obtain ⟨o, e, r⟩ := s
    exact ⟨o, f o e, r⟩
theorem st_ob (k : ZK) {it : Addr} {i : Nat} {h : Heap} (s : k.st it i h) : ∃ o, h.get? it = some o ∧ ∀ v, o.data ≠ .cell v := by
  cases k with
  | txt z t =>
    obtain ⟨o, e, _, d⟩ := s
    exact ⟨o, e, fun v q => by rw [d] at q; cases q⟩
  | tup a vs =>
    obtain ⟨o, e, _, d⟩ := s
    exact ⟨o, e, fun v q => by rw [d] at q; cases q⟩
  | lst a vs =>
    obtain ⟨o, e, _, d⟩ := s
    exact ⟨o, e, fun v q => by rw [d] at q; cases q⟩
theorem now {X : Cx} {pins : List (Addr × Obj)} {σ : L2.St} {H : Hp} {s : Shared} (k : ZK) (I : L2.Inv X pins σ H s) (ok : k.ok X.K H) : ∃ its, Vals k.items its ∧ k.base its s.heap ∧ ∀ a ∈ k.bs, a < s.heap.objs.size := by
  cases k with
  | txt z t =>
    refine ⟨z.cps.toList.map fun c => .str ⟨#[c]⟩ 0, vals_of_get (by simp [items]) fun i v u e1 e2 => ?_, trivial, fun a h => by cases h⟩
    have e1' : (z.cps.toList.map fun c => V.str ⟨#[c]⟩)[i]? = some v := e1
    rw [List.getElem?_map] at e1' e2
    obtain ⟨c, e3, rfl⟩ := Option.map_eq_some_iff.mp e1'
    rw [e3] at e2
    cases e2
    exact ⟨0, rfl⟩
  | tup a vs =>
    obtain ⟨its, r, p, _⟩ := I.tuple (show SqT X.K H a vs from ok)
    obtain ⟨o, e, _⟩ := id p
    exact ⟨its, r, p, fun b h => by rw [List.mem_singleton.mp h]; exact Heap.lt_size e⟩
  | lst a vs =>
    obtain ⟨its, r, p, _⟩ := I.list (show SqL X.K H a vs from ok)
    exact ⟨its, r, p.isList, fun b h => by rw [List.mem_singleton.mp h]; exact p.lt⟩
theorem draws {prog : Program} {w : World} {A : Around} (hh : A.handled = none) (k : ZK) (its : List Value) (r : Vals k.items its) (it : Addr) (hn : it ∉ k.bs) :
    ∃ P : Nat → Value → Prop, Draws prog w A it (it :: k.bs) k.items.length P (fun i h => k.st it i h ∧ k.base its h) ∧ ∀ i u, P i u → ∃ x, k.items[i]? = some x ∧ RelV x u := by
  cases k with
  | txt z t =>
    have D := Draws.text (prog := prog) (w := w) hh it z t
    refine ⟨_, ⟨fun i h s => D.live i h s.1, fun i h h' s f => ⟨D.frame i h h' s.1 f, trivial⟩, fun i s Q E hi hs q => D.item i s Q E (by simpa [items] using hi) hs.1 fun x h' tk p s' sb => q x h' tk p ⟨s', trivial⟩ sb, fun s Q E hs q => D.done s Q E (by have e : (ZK.txt z t).items.length = z.cps.size := (by simp [items]); have q1 := hs.1; rw [e] at q1; exact q1) q⟩, fun i u p => ?_⟩
    obtain ⟨c, t2, e, rfl⟩ := p
    refine ⟨V.str ⟨#[c]⟩, ?_, t2, rfl⟩
    show (z.cps.toList.map fun c => V.str ⟨#[c]⟩)[i]? = _
    rw [List.getElem?_map, Array.getElem?_toList, e]
    rfl
  | tup a vs =>
    have hl : its.toArray.size = vs.length := by rw [List.size_toArray]; exact r.length.symm
    have D := Draws.tuple (prog := prog) (w := w) hh it a (fun e => hn (by rw [e]; exact List.mem_singleton.mpr rfl)) its.toArray
    rw [hl] at D
    refine ⟨_, D, fun i u p => ?_⟩
    have p' : its[i]? = some u := by simpa using p
    have hi : i < vs.length := by
      have := (List.getElem?_eq_some_iff.mp p').1
      rw [← r.length] at this
      exact this
    obtain ⟨u', e, rl⟩ := r.get (List.getElem?_eq_getElem (l := vs) hi)
    rw [p'] at e
    cases e
    exact ⟨vs[i], List.getElem?_eq_getElem hi, rl⟩
  | lst a vs =>
    have hl : its.toArray.size = vs.length := by rw [List.size_toArray]; exact r.length.symm
    have D := Draws.list (prog := prog) (w := w) hh it a (fun e => hn (by rw [e]; exact List.mem_singleton.mpr rfl)) its.toArray
    rw [hl] at D
    refine ⟨_, D, fun i u p => ?_⟩
    have p' : its[i]? = some u := by simpa using p
    have hi : i < vs.length := by
      have := (List.getElem?_eq_some_iff.mp p').1
      rw [← r.length] at this
      exact this
    obtain ⟨u', e, rl⟩ := r.get (List.getElem?_eq_getElem (l := vs) hi)
    rw [p'] at e
    cases e
    exact ⟨vs[i], List.getElem?_eq_getElem hi, rl⟩
end ZK
/-- the pairs of both -/
def ItZ (K : PySem.W.Frag) (k k' : ZK) : It :=
  ⟨fun i H => k.ok K H ∧ k'.ok K H ∧ i < k.items.length ∧ i < k'.items.length,
    fun i H v H' => ∃ T x y, v = .ref T ∧ H T = none ∧ H' = upd H T (.tup [x, y]) ∧ k.items[i]? = some x ∧ k'.items[i]? = some y,
    fun i H => k.ok K H ∧ k'.ok K H ∧ i ≤ k.items.length ∧ i ≤ k'.items.length ∧ (i = k.items.length ∨ i = k'.items.length)⟩
theorem ane {a b : Nat} (h : a ≠ b) : @Ne Addr a b := h
theorem znot {n m : Nat} {b : Nat} {l : List Addr} (h : ∀ a ∈ l, a < n) (h1 : b ≠ m) (h2 : n ≤ b) : (b : Addr) ∉ ((m : Addr) :: l) := fun z => by
  rcases List.mem_cons.mp z with e | e
  · exact h1 e
  · exact Nat.lt_irrefl _ (Nat.lt_of_lt_of_le (h _ e) h2)
theorem zsep {n : Nat} {k k' : ZK} (h : ∀ a ∈ k.bs, a < n) (h' : ∀ a ∈ k'.bs, a < n) : ZipSep2 (n + 4) (n + 2) (n + 3) n (n + 1) (n :: k.bs) ((n + 1) :: k'.bs) where
  TIz := ane (by omega)
  TOz := ane (by omega)
  TITO := ane (by omega)
  TIi1 := ane (by omega)
  mem1 := List.mem_cons_self ..
  zf1 := znot h (by omega) (by omega)
  Tf1 := znot h (by omega) (by omega)
  TIi2 := ane (by omega)
  mem2 := List.mem_cons_self ..
  zf2 := znot h' (by omega) (by omega)
  Tf2 := znot h' (by omega) (by omega)
  sep1_2 := znot h' (by omega) (by omega)
  sep2_1 := znot h (by omega) (by omega)
theorem mem5 {n c : Nat} (h : c ∈ [n + 4, n + 2, n + 3, n, n + 1]) : c = n + 4 ∨ c = n + 2 ∨ c = n + 3 ∨ c = n ∨ c = n + 1 := by simpa using h
def zcells (n : Nat) (k k' : ZK) (i : Nat) (h : Heap) : Prop := IsZip h (n + 4) (n + 2) (n + 3) .none ∧ IsTupOf2 h (n + 2) (.ref n) (.ref (n + 1)) ∧ (∃ x y, IsTupOf2 h (n + 3) x y) ∧ k.st n i h ∧ k'.st (n + 1) i h
theorem turnZ {P : Program} {w : World} {K : PySem.W.Frag} {elts : List Expr} {kk : Nat} {tpos : Pos} {n : Nat} {k k' : ZK} (hb : ∀ a ∈ k.bs, a < n) (hb' : ∀ a ∈ k'.bs, a < n) :
    Turn P w K (.Tuple elts kk tpos) (ItZ K k k') [n + 4, n + 2, n + 3, n, n + 1] (n + 4) (zcells n k k') where
  mem := List.mem_cons_self ..
  obj := fun i h ⟨hz, hTI, ⟨x, y, hTO⟩, s1, s2⟩ c hc => by
    rcases mem5 hc with rfl | rfl | rfl | rfl | rfl
    · exact ⟨_, hz, fun v q => nomatch q⟩
    · exact ⟨_, hTI, fun v q => nomatch q⟩
    · exact ⟨_, hTO, fun v q => nomatch q⟩
    · exact k.st_ob s1
    · exact k'.st_ob s2
  keep := fun i h h' ⟨hz, hTI, ⟨x, y, hTO⟩, s1, s2⟩ f => by
    refine ⟨f _ (by simp) _ hz, f _ (by simp) _ hTI, ⟨x, y, f _ (by simp) _ hTO⟩, k.st_at s1 fun o e => f _ (by simp) o e, k'.st_at s2 fun o e => f _ (by simp) o e⟩
  item := by
    intro X hP hw hK hc i pins s σ H E I hf ⟨hz, hTI, ⟨x0, y0, hTO⟩, s1, s2⟩ ⟨ok1, ok2, hi1, hi2⟩
    subst hP hw hK
    have hh : X.A.in1.handled = none := I.ok.hd hc
    obtain ⟨its1, r1, b1, _⟩ := k.now I ok1
    obtain ⟨its2, r2, b2, _⟩ := k'.now I ok2
    obtain ⟨P1, D1, f1⟩ := ZK.draws (prog := X.prog) (w := X.w) hh k its1 r1 n (fun z => Nat.lt_irrefl _ (hb _ z))
    obtain ⟨P2, D2, f2⟩ := ZK.draws (prog := X.prog) (w := X.w) hh k' its2 r2 (n + 1) (fun z => Nat.lt_irrefl _ (Nat.lt_of_le_of_lt (Nat.le_succ _) (hb' _ z)))
    have low : ∀ {c o}, s.heap.get? c = some o → c < s.heap.objs.size := fun e => Heap.lt_size e
    refine wpAny_pyNext_zipD2_item (zsep hb hb') D1 D2 hz hTI hTO ⟨s1, b1⟩ ⟨s2, b2⟩ hi1 hi2 fun u u' h' tk p1 p2 c1 c2 d1 d2 c5 c6 kp => ?_
    obtain ⟨x, ex, rx⟩ := f1 i u p1
    obtain ⟨y, ey, ry⟩ := f2 i u' p2
    refine ⟨_, rfl, wpAny_letOwnedTupleGo_zip (s := { s with heap := h', toks := tk }) c1 fun h2 c1' sb => ?_⟩
    have apart : ∀ c, c ∉ [n + 4, n + 2, n + 3, n, n + 1] → ∀ o, s.heap.get? c = some o → h2.get? c = some o := fun c hcn o e => by
      simp only [List.mem_cons, List.not_mem_nil, or_false, not_or] at hcn
      exact (sb.2 c hcn.1).trans (kp c o hcn.1 hcn.2.2.1 hcn.2.2.2.1 hcn.2.2.2.2 e)
    have hT : h2.get? s.heap.objs.size = some { cls := .type "tuple", data := .seq #[u, u'] } := (sb.2 _ (Nat.ne_of_gt (low hz))).trans c5
    have made : ObjOk X.prog X.w (upd H s.heap.objs.size (.tup [x, y])) h2 s.heap.objs.size (.tup [x, y]) := ⟨by show 2 ≤ sizeLine; decide, [u, u'], .cons rx (.cons ry .nil), ⟨_, hT, rfl, _, rfl⟩⟩
    have I1 := I.turnedNew (t' := tk) (ch := [n + 4, n + 2, n + 3, n, n + 1]) (fun c o hcn e => apart c hcn o e) hf (Nat.le_refl _) made
    refine ⟨.ref s.heap.objs.size, _, I1, rfl, ⟨_, x, y, rfl, I.hok.fresh (Nat.le_refl _), rfl, ex, ey⟩, ⟨c1', ?_, ⟨u, u', ?_⟩, ?_, ?_⟩, fun c hcm => ?_⟩
    · exact (sb.2 _ (ane (by omega))).trans (kp _ _ (ane (by omega)) (ane (by omega)) (ane (by omega)) (ane (by omega)) hTI)
    · exact (sb.2 _ (ane (by omega))).trans c2
    · exact k.st_at d1.1 fun o e => (sb.2 _ (ane (by omega))).trans e
    · exact k'.st_at d2.1 fun o e => (sb.2 _ (ane (by omega))).trans e
    · have hlt : c < s.heap.objs.size := by
        rcases mem5 hcm with rfl | rfl | rfl | rfl | rfl
        · exact low hz
        · exact low hTI
        · exact low hTO
        · obtain ⟨o, e, _⟩ := k.st_ob s1
          exact low e
        · obtain ⟨o, e, _⟩ := k'.st_ob s2
          exact low e
      rw [upd_ne (Nat.ne_of_lt hlt)]
      exact (hf c hcm).1
  done := by
    intro X hP hw hK hc i pins s σ H E I hf ⟨hz, hTI, ⟨x0, y0, hTO⟩, s1, s2⟩ ⟨ok1, ok2, hi1, hi2, hend⟩
    subst hP hw hK
    have hh : X.A.in1.handled = none := I.ok.hd hc
    obtain ⟨its1, r1, b1, _⟩ := k.now I ok1
    obtain ⟨its2, r2, b2, _⟩ := k'.now I ok2
    obtain ⟨P1, D1, f1⟩ := ZK.draws (prog := X.prog) (w := X.w) hh k its1 r1 n (fun z => Nat.lt_irrefl _ (hb _ z))
    obtain ⟨P2, D2, f2⟩ := ZK.draws (prog := X.prog) (w := X.w) hh k' its2 r2 (n + 1) (fun z => Nat.lt_irrefl _ (Nat.lt_of_le_of_lt (Nat.le_succ _) (hb' _ z)))
    refine wpAny_pyNext_zipD2_end (zsep hb hb') D1 D2 hz hTI hTO ⟨s1, b1⟩ ⟨s2, b2⟩ hi1 hi2 hend fun h' tk kp => ⟨rfl, I.turnedL (t' := tk) (ch := [n + 4, n + 2, n + 3, n, n + 1]) (fun c o hcn e => ?_) hf⟩
    simp only [List.mem_cons, List.not_mem_nil, or_false, not_or] at hcn
    exact kp c o hcn.1 hcn.2.2.1 hcn.2.2.2.1 hcn.2.2.2.2 e
  self := fun A i s Q E st q => wpAny_pyIter_zip st.1 q
def tZip (K : PySem.W.Frag) (ta : TA) : TI := fun σ H R => ta σ H fun vs H1 => ∃ x y, vs = [x, y] ∧ ∀ u u', RelV x u → RelV y u' → ∃ k k' : ZK, k.v = u ∧ k'.v = u' ∧ k.ok K H1 ∧ k'.ok K H1 ∧ R (ItZ K k k') H1
section
variable {X : Cx}
theorem pi_zipZ {e e2 : Expr} {ta : TA} {p pos tpos : Pos} {elts : List Expr} {kk : Nat} (hg : Gl X "zip") (hm : X.mg "zip" = none) (ha : PA X [e, e2] ta)
    (hs : starEach [e, e2] X.env = (false, eval e X.env) :: starEach [e2] X.env := by rfl) (hpl : (backTo pos (starEach [e2] X.env)).any (·.1) = false := by rfl) : PI X (.Tuple elts kk tpos) (.Call (.Name "zip" p) [e, e2] [] pos) (tZip X.K ta) := by
  refine ⟨fun pins s σ H R I h => ?_⟩
  refine Call_ (ld_blt I hg hm PyProof.Rows.boot_zip (PyProof.Rows.callWith_type1 (thn (ha.run pos pins s σ H _ I h) fun us s1 hh => ?_) hs hpl))
  obtain ⟨vs, H1, I1, r1, x, y, rfl, q⟩ := hh
  cases r1 with
  | cons r rr =>
    cases rr with
    | cons r' rr =>
      cases rr
      obtain ⟨k, k', rfl, rfl, ok, ok', q⟩ := q _ _ r r'
      obtain ⟨its1, r1, b1, l1⟩ := k.now I1 ok
      obtain ⟨its2, r2, b2, l2⟩ := k'.now I1 ok'
      refine zip_begins2 (k.begins its1) (k'.begins its2) b1 b2 fun h' hz hTI hTO h1 h2 hsz hk => wpAny_pyIter_zip hz ?_
      have I2 : L2.Inv X pins σ H1 { s1 with heap := h' } := I1.kept (t' := s1.toks) hk
      refine ⟨s1.heap.objs.size + 4, _, _, _, H1, rfl, I2, turnZ l1 l2, ⟨hz, hTI, ⟨_, _, hTO⟩, k.st0 h1, k'.st0 h2⟩, fun c hcm => ?_, q⟩
      have hle : s1.heap.objs.size ≤ c := by
        rcases mem5 hcm with rfl | rfl | rfl | rfl | rfl <;> first | exact Nat.le_add_right _ _ | exact Nat.le_refl _
      exact I1.fpOk hle (I1.hok.fresh hle)
/-- what may be zipped: its items -/
def zSeq (S : Sto) (d : D) (xs : List D) : Prop := d = .tup xs ∨ d = .rol xs ∨ (∃ z, d = .str z ∧ xs = chars z) ∨ ∃ a, d = .ref a ∧ S a = some (.lst xs) ∧ xs.all fl = true
theorem zSeq.kind {K : PySem.W.Frag} {S : Sto} {H : Hp} {d : D} {xs : List D} {v : V} {u : Value} (h : zSeq S d xs) (rep : Rep K S H) (r : RV K H d v) (ru : RelV v u) :
    ∃ k : ZK, k.v = u ∧ k.ok K H ∧ RVs K H xs k.items ∧ ∀ S' H', zSeq S' d xs → Keep K H H' → Rep K S' H' → k.ok K H' := by
  rcases h with rfl | rfl | ⟨z, rfl, rfl⟩ | ⟨a, rfl, e, f⟩
  · obtain ⟨a, vs, rfl, s, r⟩ := rv_tup r
    cases ru
    exact ⟨.tup a vs, rfl, s, r, fun S' H' _ kp _ => kp.tup _ _ s⟩
  · unfold RV at r
    obtain ⟨a, vs, rfl, s, r⟩ := r
    cases ru
    exact ⟨.lst a vs, rfl, s.sq, r, fun S' H' _ kp _ => (kp.rol s).sq⟩
  · rw [rv_str r] at ru
    obtain ⟨t, rfl⟩ := ru
    exact ⟨.txt z t, rfl, trivial, rvs_chars, fun _ _ _ _ _ => trivial⟩
  · rw [rv_ref r] at ru
    cases ru
    obtain ⟨vs, e1, r1⟩ := rep _ _ e
    refine ⟨.lst a vs, rfl, SqL.of e1, r1, fun S' H' h' kp rep' => ?_⟩
    rcases h' with h' | h' | ⟨z, h', _⟩ | ⟨a', h', e', f'⟩
    · cases h'
    · cases h'
    · cases h'
    · cases h'
      obtain ⟨vs', e2, r2⟩ := rep' _ _ e'
      have q1 := (rvs_fl f r1).1
      have q2 := (rvs_fl f r2).1
      rw [q2, ← q1] at e2
      exact SqL.of e2
def pairsD (xs ys : List D) : List D := (xs.zip ys).map fun p => D.tup [p.1, p.2]
def iZipQ (qa : QA) : QI := fun loc S P E => qa loc S (fun ds S1 => ∃ x y xs ys, ds = [x, y] ∧ zSeq S1 x xs ∧ zSeq S1 y ys ∧ P (.on (fun S' => zSeq S' x xs ∧ zSeq S' y ys) (pairsD xs ys)) S1) E
theorem di_zip {e e2 : Expr} {qa : QA} {p pos tpos : Pos} {elts : List Expr} {kk : Nat} (hg : Gl X "zip") (hm : X.mg "zip" = none) (ha : DA X [e, e2] qa)
    (hs : starEach [e, e2] X.env = (false, eval e X.env) :: starEach [e2] X.env := by rfl) (hpl : (backTo pos (starEach [e2] X.env)).any (·.1) = false := by rfl) : DI X (.Tuple elts kk tpos) (.Call (.Name "zip" p) [e, e2] [] pos) (iZipQ qa) := fun W tk => by
  refine PI.imp (pi_zipZ hg hm (ha W tk) hs hpl) fun σ H R h => ?_
  obtain ⟨loc, S, P, E, rl, rep, hq, g, gx⟩ := h
  refine ⟨loc, S, _, E, rl, rep, hq, fun ds S1 vs H1 q1 k1 rep1 r1 => ?_, gx⟩
  obtain ⟨x, y, xs, ys, rfl, hx, hy, hp⟩ := q1
  obtain ⟨vx, vy, rfl, rx, ry⟩ := rvs_two r1
  refine ⟨vx, vy, rfl, fun u u' ru ru' => ?_⟩
  obtain ⟨k, e1, o1, i1, f1⟩ := hx.kind rep1 rx ru
  obtain ⟨k', e2, o2, i2, f2⟩ := hy.kind rep1 ry ru'
  refine ⟨k, k', e1, e2, o1, o2, g _ _ _ _ hp k1 rep1 ?_⟩
  have l1 := i1.length
  have l2 := i2.length
  have lp : (pairsD xs ys).length = min k.items.length k'.items.length := by unfold pairsD; rw [List.length_map, List.length_zip, l1, l2]
  have get : ∀ {i : Nat} {d : D}, (pairsD xs ys)[i]? = some d → ∃ a b, xs[i]? = some a ∧ ys[i]? = some b ∧ d = D.tup [a, b] := fun {i d} e => by
    unfold pairsD at e
    rw [List.getElem?_map] at e
    obtain ⟨q, e3, rfl⟩ := Option.map_eq_some_iff.mp e
    obtain ⟨h1, h2⟩ := List.getElem?_zip_eq_some.mp e3
    exact ⟨q.1, q.2, h1, h2, rfl⟩
  refine ⟨fun i d S' H' hi ok kp rep' => ?_, fun i S' H' hi ok kp rep' => ?_, fun i d S' H' v H2 hi ok kp rep' yl => ?_⟩
  · obtain ⟨a, b, ea, eb, _⟩ := get hi
    have h1 := (List.getElem?_eq_some_iff.mp ea).1
    have h2 := (List.getElem?_eq_some_iff.mp eb).1
    exact ⟨f1 _ _ ok.1 kp rep', f2 _ _ ok.2 kp rep', by omega, by omega⟩
  · have hi' : (pairsD xs ys).length = i := hi
    exact ⟨f1 _ _ ok.1 kp rep', f2 _ _ ok.2 kp rep', by omega, by omega, by omega⟩
  · obtain ⟨a, b, ea, eb, rfl⟩ := get hi
    obtain ⟨T, v1, v2, rfl, nT, rfl, e3, e4⟩ := yl
    obtain ⟨w1, g1, rw1⟩ := RVs.get i1 ea
    obtain ⟨w2, g2, rw2⟩ := RVs.get i2 eb
    obtain rfl := Option.some.inj (e3.symm.trans g1)
    obtain rfl := Option.some.inj (e4.symm.trans g2)
    have kk := Keep.new (K := X.K) (o := HO.tup [v1, v2]) nT
    refine ⟨kk, rep'.same (same_new nT), ?_⟩
    have r2 : RVs X.K H' [a, b] [v1, v2] := by
      unfold RVs
      exact ⟨_, _, rfl, RV.keep kp _ _ rw1, RVs.one (RV.keep kp _ _ rw2)⟩
    exact rv_newT nT r2
end
end PL

namespace PL
open PySem PySem.Spec PyProof.Rows L2 PySem.W
/-! ## a lambda with one parameter that has a number as default -/
abbrev fnD (qual : Str) (params : Arguments) (body : Expr) (scope : Scope) (cl : List (Str × Addr)) (pm cdv ct : Value) (dV : Value) : FuncData := { kla_fn "<lambda>" qual params body scope cl pm cdv ct with defaults := dV }
abbrev obD (qual : Str) (params : Arguments) (body : Expr) (scope : Scope) (cl : List (Str × Addr)) (pm cdv ct : Value) (dV : Value) : Obj := { cls := .type "function", data := .func (fnD qual params body scope cl pm cdv ct dV) }
section
variable {M : Model} {A : Around} {E : Value → Shared → Prop} {s : Shared} {qual : Str} {params : Arguments} {body : Expr} {scope : Scope} {env : Env} {c P : Addr} {ps : Array Value} {pos : Pos} {mg : Str → Option Value} {clos : List (Str × Addr)} {Q : Value → Shared → Prop} {dV : Value}
theorem mkTail_new (hcl : closureFor scope env = pure clos) (hge0 : env.globals = mainGlobals) (hg : s.heap.Ns mainGlobals mg) (hcode : env.code = .ref c) (C : CodeHd s.heap c P) (hP : s.heap.get? P = some (PySem.W.tabObj ps)) (ht : TriplesOk ps.toList) (hnf : codeAmong pos ps.toList = none) (hgP : mainGlobals ≠ P) (hb : s.heap.BuiltinsAt mg P)
    (h : ∀ c' ctv h' tk, Heap.ExtBut P s.heap h' → s.heap.objs.size ≤ c' → c' < h'.objs.size → h'.CodeRec (.ref c') qual → h'.get? P = some (PySem.W.tabObj (ps ++ #[rawInt pos.line, rawInt pos.col, .ref c'])) → Q (.ref h'.objs.size) { s with heap := h'.push (obD qual params body scope clos ((mg "__name__").getD .none) (.ref c') ctv dV), toks := tk }) :
    wpAny M A (makeTail "<lambda>" qual params (.expr body) scope env dV .none none pos pos.line) Q E s := by
  obtain ⟨bm, ob, hbm, hne0, _, hneP, hbo, hcls, hdict, hdata⟩ := hb
  unfold makeTail
  rw [hcl, hge0]
  refine wpAny_bind (wpAny_pure ?_)
  cases clos with
  | nil =>
    simp only [List.isEmpty_nil, if_true]
    refine wpAny_bind (wpAny_pure (wpAny_bind (wpAny_functionCodeX hcode (C.code hP ht) (C.tab hP) hnf fun c' h' tk hx hge hlt _ hrec htb _ => ?_)))
    have g1 := hg.extBut hx hgP
    exact wpAny_bind (wpAny_builtinsFor g1 hbm hne0 (hx _ _ hneP hbo) hcls hdict hdata (wpAny_bind (wpAny_nsGet g1 (wpAny_bind (wpAny_pure (wpAny_newObj_type (h c' .none h' tk hx hge hlt hrec htb.2) (by size_fits)))))))
  | cons q r =>
    simp only [List.isEmpty_cons, Bool.false_eq_true, if_false]
    refine wpAny_bind (wpAny_newTextTuple (wpAny_bind (wpAny_functionCodeX hcode ((C.keeps fun b o e => Heap.get?_push_of_some _ e).code (Heap.get?_push_of_some _ hP) ht) ((C.keeps fun b o e => Heap.get?_push_of_some _ e).tab (Heap.get?_push_of_some _ hP)) hnf fun c' h' tk hx hge hlt _ hrec htb _ => ?_)))
    have g1 := (hg.push _).extBut hx hgP
    have hx' : Heap.ExtBut P s.heap h' := fun b o hb' e => hx b o hb' (Heap.get?_push_of_some _ e)
    have ge' : s.heap.objs.size ≤ c' := Nat.le_trans (by rw [Heap.size_push]; exact Nat.le_succ _) hge
    exact wpAny_bind (wpAny_builtinsFor g1 hbm hne0 (hx' _ _ hneP hbo) hcls hdict hdata (wpAny_bind (wpAny_nsGet g1 (wpAny_bind (wpAny_pure (wpAny_newObj_type (h c' _ h' tk hx' ge' hlt hrec htb.2) (by size_fits)))))))
theorem mkTail_hit {cv : Value} (hcl : closureFor scope env = pure clos) (hge0 : env.globals = mainGlobals) (hg : s.heap.Ns mainGlobals mg) (hcode : env.code = .ref c) (C : CodeHd s.heap c P) (hP : s.heap.get? P = some (PySem.W.tabObj ps)) (ht : TriplesOk ps.toList) (hf : codeAmong pos ps.toList = some cv) (hb : s.heap.BuiltinsAt mg P)
    (h : ∀ (ctv : Value) (h' : Heap) (tk : Tok), (∀ b o, s.heap.get? b = some o → h'.get? b = some o) → s.heap.objs.size ≤ h'.objs.size → Q (.ref h'.objs.size) { s with heap := h'.push (obD qual params body scope clos ((mg "__name__").getD .none) cv ctv dV), toks := tk }) :
    wpAny M A (makeTail "<lambda>" qual params (.expr body) scope env dV .none none pos pos.line) Q E s := by
  obtain ⟨bm, ob, hbm, hne0, _, hneP, hbo, hcls, hdict, hdata⟩ := hb
  unfold makeTail
  rw [hcl, hge0]
  refine wpAny_bind (wpAny_pure ?_)
  cases clos with
  | nil =>
    simp only [List.isEmpty_nil, if_true]
    exact wpAny_bind (wpAny_pure (wpAny_bind (wpAny_functionCode_hit hcode (C.code hP ht) hf (wpAny_bind (wpAny_builtinsFor hg hbm hne0 hbo hcls hdict hdata (wpAny_bind (wpAny_nsGet hg (wpAny_bind (wpAny_pure (wpAny_newObj_type (h .none s.heap s.toks (fun _ _ e => e) (Nat.le_refl _)) (by size_fits)))))))))))
  | cons q r =>
    simp only [List.isEmpty_cons, Bool.false_eq_true, if_false]
    have hsz : ∀ oT : Obj, s.heap.objs.size ≤ (s.heap.push oT).objs.size := fun oT => by rw [Heap.size_push]; exact Nat.le_succ _
    exact wpAny_bind (wpAny_newTextTuple (wpAny_bind (wpAny_functionCode_hit hcode ((C.keeps fun b o e => Heap.get?_push_of_some _ e).code (Heap.get?_push_of_some _ hP) ht) hf (wpAny_bind (wpAny_builtinsFor (hg.push _) hbm hne0 (Heap.get?_push_of_some _ hbo) hcls hdict hdata (wpAny_bind (wpAny_nsGet (hg.push _) (wpAny_bind (wpAny_pure (wpAny_newObj_type (h _ _ s.toks (fun b o e => Heap.get?_push_of_some _ e) (hsz _)) (by size_fits)))))))))))
theorem mkFn_eq {d : Value} : makeFunction "<lambda>" qual params (.expr body) scope env [d] [] [] pos pos.line = (newTextTuple [d] >>= fun dV => makeTail "<lambda>" qual params (.expr body) scope env dV .none none pos pos.line) := by
  rw [makeFunction_eq]
  simp only [List.zip_nil_right, List.filterMap_nil, List.isEmpty_nil, List.isEmpty_cons, Bool.false_eq_true, if_true, if_false, pure_bind]
theorem eval_lamD {i : Int} {j : Nat} {p1 : Pos} (hd : params.defaults = [.Constant (.int i) j p1]) (hk : params.kw_defaults = []) (h : ∀ t tk, wpAny M A (makeFunction "<lambda>" (env.qual ++ "<lambda>") params (.expr body) scope env [.int i t] [] [] pos pos.line) Q E { s with toks := tk }) :
    wpAny M A (eval (.Lambda params body scope pos) env) Q E s := by
  rw [arm_eval_Lambda]
  have e : defaultsOf params env = ([eval (.Constant (.int i) j p1) env], []) := by
    obtain ⟨a, b, c, d, k, f, g⟩ := params
    simp only at hd hk
    subst hd hk
    rfl
  rw [e]
  show wpAny M A (do let dv ← evalAll [eval (.Constant (.int i) j p1) env]; let kdv ← holding dv (evalAllOpt []); makeFunction "<lambda>" (env.qual ++ "<lambda>") params (.expr body) scope env dv kdv [] pos pos.line) Q E s
  exact wpAny_bind (wpAny_evalAll_cons (wpAny_Constant_int (wpAny_evalAll_nil (wpAny_bind (wpAny_holding (wpAny_pure (h s.toks (s.toks + 1))))))))
end
/-- the lambda's names: its parameter x, captured ones, globals -/
structure LamSD (x : Str) (N : List Str) (sc scope : Scope) : Prop where
  kind : scope.kind = .function
  co : scope.isCoroutine = false
  gen : scope.isGenerator = false
  par : scope.names.lookup x = some .local
  out : x ∉ N
  own : ∀ y ∈ scope.names, y.2 ≠ .cell ∧ (y.2 = .local → y.1 = x)
  free : ∀ y ∈ scope.names, y.2 = .free → sc.names.lookup y.1 = some .cell ∨ sc.names.lookup y.1 = some .free
def lamSDB (x : Str) (N : List Str) (sc scope : Scope) : Bool :=
  decide (scope.kind = .function) && (!scope.isCoroutine && (!scope.isGenerator && (decide (scope.names.lookup x = some .local) && (decide (x ∉ N) && scope.names.all fun y => !decide (y.2 = .cell) && (!decide (y.2 = .local) || decide (y.1 = x)) && (!decide (y.2 = .free) || decide (sc.names.lookup y.1 = some .cell) || decide (sc.names.lookup y.1 = some .free))))))
theorem lamSD_by {x : Str} {N : List Str} {sc scope : Scope} (h : lamSDB x N sc scope = true) : LamSD x N sc scope := by
  unfold lamSDB at h
  simp only [Bool.and_eq_true, Bool.or_eq_true, Bool.not_eq_true', decide_eq_true_eq, decide_eq_false_iff_not, List.all_eq_true] at h
  obtain ⟨h1, h2, h3, h4, h5, h6⟩ := h
  refine ⟨h1, h2, h3, h4, h5, fun y hy => ⟨(h6 y hy).1.1, fun e => ?_⟩, fun y hy e => ?_⟩
  · rcases (h6 y hy).1.2 with z | z
    · exact absurd e z
    · exact z
  · rcases (h6 y hy).2 with (z | z) | z
    · exact absurd e z
    · exact .inl z
    · exact .inr z
theorem cod_sub {X : Cx} {pins : List (Addr × Obj)} {σ : L2.St} {H1 : Hp} {s' : Shared} {T : List (Addr × Str)} {S : Sto} {c' : Addr} {nm : Str} (tok : TabOk T S) (rep0 : Rep X.K S H1) (hco : H1 c' = some (LamX.CodeO c' nm)) (I1 : L2.Inv X pins σ H1 s') : Sub S (ups S c' (.cod nm)) ∧ TabOk T (ups S c' (.cod nm)) := by
  have sub1 : Sub S (ups S c' (.cod nm)) := fun b o e => by
    by_cases hb : b = c'
    · subst hb
      have z := rep0 _ _ e
      cases o with
      | lst ds =>
        obtain ⟨vs, z, _⟩ := z
        rw [hco] at z
        unfold LamX.CodeO at z
        cases z
      | tab nm =>
        obtain ⟨vs, z, _⟩ := z
        rw [hco] at z
        unfold LamX.CodeO at z
        cases z
      | cod n2 =>
        have z : H1 b = some (LamX.CodeO b n2) := z
        have o1 := I1.hok b _ hco
        have o2 := I1.hok b _ z
        obtain ⟨⟨oc1, vs1, t1, a1, a2, a3⟩, _, _⟩ := o1
        obtain ⟨⟨oc2, vs2, t2, b1, b2, b3⟩, _, _⟩ := o2
        rw [a1] at b1
        cases b1
        rw [a2] at b2
        cases b2
        rw [a3] at b3
        have e3 : n2 = nm := by
          injection Option.some.inj b3 with e5 _
          exact e5.symm
        rw [e3, ups_same]
    · rw [ups_ne hb]
      exact e
  refine ⟨sub1, fun q hq => sub1 _ _ (tok.1 q hq), fun b o e => ?_⟩
  by_cases hb : b = c'
  · subst hb
    rw [ups_same] at e
    cases e
  · rw [ups_ne hb] at e
    exact tok.2 b o e
section
variable {X : Cx} {pins : List (Addr × Obj)} {σ : L2.St} {H HZ : Hp} {s s1 : Shared} {x : Str} {scope : Scope}
theorem LamSD.has (L : LamSD x X.N X.env.scope scope) (ok : X.Ok) : ∀ y ∈ scope.names, y.2 = .free → ∃ c, X.env.cells.lookup y.1 = some c := fun y hy e => by
  rcases L.free y hy e with k | k
  · exact ok.has _ (.inl k)
  · exact ok.has _ (.inr k)
theorem lam_startD {A : Around} {outer : List Env} {E : XK} {f c' : Addr} {h₁ : Heap} {tk : Nat} {v : Value} (I : L2.Inv X pins σ H s) (L : LamSD x X.N X.env.scope scope) (e0 : Env0 X.prog X.w X.K X.mg X.base A outer s1 HZ) (hd : A.handled = none)
    (un : Un (frs X.stack) [] H HZ s.heap s1.heap) (hns : h₁.Ns s1.heap.objs.size fun y => ([(x, v)] : List (Str × Value)).reverse.lookup y) (kp : ∀ b o, s1.heap.get? b = some o → h₁.get? b = some o) :
    L2.Inv (LamX.lamCx X A outer s1 HZ E scope f c') [] σ HZ { s1 with heap := h₁, toks := tk } := by
  have hfree := L.has I.ok
  have cm : ∀ {y c}, (cloFrom X.env.cells scope.names []).lookup y = some c → X.env.cells.lookup y = some c := fun {y c} e => by
    rcases cloFrom_mem (PySem.mem_of_lookup e) with hm | ⟨h1, h2⟩
    · cases hm
    · obtain ⟨c1, hc⟩ := hfree _ h1 rfl
      have hc' : X.env.cells.lookup y = some c1 := hc
      have e2 : c = c1 := by rw [h2, hc']; rfl
      rw [e2]
      exact hc'
  have look : ∀ {y}, scope.names.lookup y = some .free → ∃ c, (cloFrom X.env.cells scope.names []).lookup y = some c := fun {y} hl =>
    mem_lookup (cloFrom_has (cells := X.env.cells) (acc := []) (show (y, NameKind.free) ∈ scope.names from PySem.mem_of_lookup hl))
  have cellK : ∀ {c : Addr} {u : Option Value}, H c = none → s.heap.IsCell c u → h₁.IsCell c u := fun {c u} n ⟨o, ho, hdt⟩ => by
    obtain ⟨sl, q⟩ := un.any ho n (by simp)
    exact ⟨_, kp _ _ q, hdt⟩
  have noA : ∀ b : Addr, b ∉ (LamX.lamCx X A outer s1 HZ E scope f c').ex := fun b z => absurd (show b ∈ ([] : List Addr) from z) (by simp)
  have hasC : ∀ y, (scope.names.lookup y = some .cell ∨ scope.names.lookup y = some .free) → ∃ c, (cloFrom X.env.cells scope.names []).lookup y = some c := fun y hy => by
    rcases hy with hy | hy
    · exact absurd rfl (L.own _ (PySem.mem_of_lookup hy)).1
    · exact look hy
  refine ⟨⟨e0.mod, L.kind, rfl, rfl, Nat.le_refl _, fun y z c e1 e2 => I.ok.inj y z c (cm e1) (cm e2), hasC, fun y c z _ => (Bool.false_ne_true z).elim, fun _ => hd, Around.frames_deeper e0.frames, .inr ⟨rfl, rfl⟩, fun b z => absurd z (noA b), e0.bs, e0.bsz, fun b _ _ => noA b, fun b z => absurd z (noA b), e0.funs, e0.frf⟩,
    rfl, e0.bare, Un.kept kp, ⟨_, hns, fun i y u e1 e2 e3 => ?_⟩, fun y c e => ?_, e0.hok.fresh (Nat.le_refl _), fun y c e => ?_, fun q hq => absurd (show q ∈ ([] : List (Addr × Obj)) ++ [] from hq) (by simp), e0.hok.kept kp, I.len⟩
  · have e3' : Vis scope y := e3
    rcases e3' with k | k | k
    · have ex := (L.own _ (PySem.mem_of_lookup k)).2 rfl
      have ex' : y = x := ex
      exact absurd (List.mem_of_getElem? e1) (by rw [ex']; exact L.out)
    · exact absurd rfl (L.own _ (PySem.mem_of_lookup k)).1
    · obtain ⟨m, hn, hl⟩ := I.loc
      have hvis : Vis X.env.scope y := (L.free _ (PySem.mem_of_lookup k) rfl).elim (fun k => .inr (.inl k)) (fun k => .inr (.inr k))
      obtain ⟨w', r, q⟩ := hl i y u e1 e2 hvis
      obtain ⟨c2, h2⟩ := look k
      have c1 := cm h2
      refine ⟨w', r, .inr ⟨.inr k, c2, h2, ?_⟩⟩
      rcases q with ⟨k', _⟩ | ⟨_, c3, e', z⟩
      · have k1 : X.env.scope.names.lookup y = some .local := k'
        rcases L.free _ (PySem.mem_of_lookup k) rfl with k2 | k2 <;> rw [show X.env.scope.names.lookup y = _ from k2] at k1 <;> cases k1
      · rw [c1] at e'
        cases e'
        exact cellK (I.freeC y _ c1) z
  · obtain ⟨w', z⟩ := I.cell y c (cm e)
    exact ⟨w', cellK (I.freeC y c (cm e)) z⟩
  · obtain ⟨w, o, ho, hdt⟩ := I.cell y c (cm e)
    exact un.free c o ho (I.freeC y c (cm e)) (by simp)
theorem lam_makeD {T : List (Addr × Str)} {c P : Addr} {params : Arguments} {body : Expr} {pos : Pos} {E : Value → Shared → Prop} {Q : Value → Shared → Prop} {i : Int} {j : Nat} {p1 : Pos} (I : L2.Inv X pins σ H s) (TB : LamX.TabB X.base X.mg c P) (hcode : X.env.code = .ref c)
    (hm : (P, X.env.qual ++ "<lambda>") ∈ T) (hu : ∀ p ∈ T, p.1 = P → p.2 = X.env.qual ++ "<lambda>") (hT : LamX.Tabs T H) (hd : params.defaults = [.Constant (.int i) j p1]) (hk : params.kw_defaults = []) (hfree : ∀ y ∈ scope.names, y.2 = .free → ∃ c, X.env.cells.lookup y.1 = some c)
    (h : ∀ (f c' dt : Addr) (t : Tok) (pm ctv : Value) (H1 : Hp) (s' : Shared), L2.Inv X pins σ H1 s' → LamX.ExtN H H1 → LamX.Tabs T H1 → s'.heap.get? f = some (obD (X.env.qual ++ "<lambda>") params body scope (cloFrom X.env.cells scope.names []) pm (.ref c') ctv (.ref dt)) →
      s'.heap.get? dt = some { cls := .type "tuple", data := .seq #[.int i t] } → H1 f = none → H1 dt = none → f ∉ frs X.stack → dt ∉ frs X.stack → H1 c' = some (LamX.CodeO c' (X.env.qual ++ "<lambda>")) → Q (.ref f) s') :
    wpAny (model X.prog X.w) X.A (eval (.Lambda params body scope pos) X.env) Q E s := by
  refine eval_lamD hd hk fun t tk0 => ?_
  rw [mkFn_eq]
  refine wpAny_bind (wpAny_newTextTuple ?_)
  obtain ⟨s0, hs0⟩ : ∃ s0 : Shared, s0 = { s with toks := tk0, heap := s.heap.push { cls := .type "tuple", data := .seq ([Value.int i t] : List Value).toArray } } := ⟨_, rfl⟩
  have I0 : L2.Inv X pins σ H s0 := by
    rw [hs0]
    exact I.kept (t' := tk0) fun b o e => Heap.get?_push_of_some _ e
  have ht0 : s0.heap.get? s.heap.objs.size = some { cls := .type "tuple", data := .seq #[.int i t] } := by
    rw [hs0]
    exact Heap.get?_push_size _ rfl
  show wpAny _ _ _ _ _ { s with toks := tk0, heap := s.heap.push { cls := .type "tuple", data := .seq ([Value.int i t] : List Value).toArray } }
  rw [← hs0]
  have nofr : ∀ f, s.heap.objs.size ≤ f → f ∉ frs X.stack := fun f hf z => by
    rcases List.mem_cons.mp (I.stkSub _ z) with e | e
    · have h1 := I.lt
      rw [← e] at h1
      exact Nat.lt_irrefl _ (Nat.lt_of_lt_of_le h1 hf)
    · exact I.nofs hf e
  have le0 : s.heap.objs.size ≤ s0.heap.objs.size := by
    rw [hs0]
    show _ ≤ (s.heap.push _).objs.size
    rw [Heap.size_push]
    exact Nat.le_succ _
  have nT : H s.heap.objs.size = none := I.hok.fresh (Nat.le_refl _)
  clear hs0
  obtain ⟨ps, hP, hps, ha⟩ := hT _ hm
  have bP : s0.heap.BuiltinsAt X.mg P := TB.bm.keeps I0.bk
  have hP' : s0.heap.get? P = some (PySem.W.tabObj ps) := I0.hok P _ hP
  have nTP : s.heap.objs.size ≠ P := fun z => by
    rw [z, hP] at nT
    cases nT
  cases hc : codeAmong pos ps.toList with
  | none =>
    refine mkTail_new (mg := X.mg) (c := c) (P := P) (ps := ps) (closure_ok hfree) I0.ok.glob (I0.mod.glob.keeps I0.bk) hcode (TB.code.keeps I0.bk) hP' hps hc TB.gP bP fun c' ctv h' tk hx hge hlt hrec htb => ?_
    obtain ⟨c2, oc, vs, t2, e2, hoc, hdt, hv⟩ := hrec
    cases e2
    have hsz : s0.heap.objs.size ≤ h'.objs.size := Nat.le_trans hge (Nat.le_of_lt hlt)
    have nC : H c' = none := I0.hok.fresh hge
    have I1 := LamX.inv_table (t' := tk) (more := #[rawInt pos.line, rawInt pos.col, .ref c']) (h' := h'.push (obD (X.env.qual ++ "<lambda>") params body scope (cloFrom X.env.cells scope.names []) ((X.mg "__name__").getD .none) (.ref c') ctv (.ref s.heap.objs.size))) I0 hP
      (fun b o hb e => Heap.get?_push_of_some _ (hx b o hb e)) (Heap.get?_push_of_some _ htb) hge ⟨oc, vs, t2, Heap.get?_push_of_some _ hoc, hdt, hv⟩
    have eL : (ps ++ #[rawInt pos.line, rawInt pos.col, .ref c']).toList = ps.toList ++ [rawInt pos.line, rawInt pos.col, .ref c'] := by simp
    have hE : LamX.ExtN H (upd (upd H P (.tbl (ps ++ #[rawInt pos.line, rawInt pos.col, .ref c']))) c' (LamX.CodeO c' (X.env.qual ++ "<lambda>"))) := fun b o e n => by
      rw [upd_ne (ne_of_none e nC), upd_ne (fun z => n ps (Option.some.inj (e.symm.trans (by rw [z]; exact hP))))]
      exact e
    have n1 : h'.objs.size ≠ c' := Nat.ne_of_gt hlt
    have n2 : h'.objs.size ≠ P := Nat.ne_of_gt (Nat.lt_of_lt_of_le (Heap.lt_size hP') hsz)
    have n3 : s.heap.objs.size ≠ c' := Nat.ne_of_lt (Nat.lt_of_lt_of_le (Heap.lt_size ht0) hge)
    refine h h'.objs.size c' s.heap.objs.size t ((X.mg "__name__").getD .none) ctv _ _ I1 hE (fun p hp => ?_) (Heap.get?_push_size _ rfl) (Heap.get?_push_of_some _ (hx _ _ nTP ht0)) ?_ ?_ (nofr _ (Nat.le_trans le0 hsz)) (nofr _ (Nat.le_refl _)) upd_same
    · by_cases hb : p.1 = P
      · rw [hu p hp hb, hb]
        refine ⟨_, by rw [upd_ne (ne_of_none hP nC), upd_same], by rw [eL]; exact PySem.TriplesOk_snoc _ _ _ _ hps, fun p' cv hcv => ?_⟩
        rw [eL] at hcv
        rcases LamX.among_app _ hps hcv with z | z
        · obtain ⟨c0, e1, e2⟩ := ha p' cv z
          exact ⟨c0, e1, hE _ _ e2 LamX.codeO_ne⟩
        · exact ⟨c', z, upd_same⟩
      · obtain ⟨ps', a1, a2, a3⟩ := hT p hp
        refine ⟨ps', by rw [upd_ne (ne_of_none a1 nC), upd_ne hb]; exact a1, a2, fun p' cv hcv => ?_⟩
        obtain ⟨c0, e1, e2⟩ := a3 p' cv hcv
        exact ⟨c0, e1, hE _ _ e2 LamX.codeO_ne⟩
    · rw [upd_ne n1, upd_ne n2]
      exact I0.hok.fresh hsz
    · rw [upd_ne n3, upd_ne nTP]
      exact nT
  | some cv =>
    obtain ⟨c', e, hco⟩ := ha pos cv hc
    subst e
    refine mkTail_hit (mg := X.mg) (c := c) (P := P) (ps := ps) (closure_ok hfree) I0.ok.glob (I0.mod.glob.keeps I0.bk) hcode (TB.code.keeps I0.bk) hP' hps hc bP fun ctv h' tk hx hsz => ?_
    have I1 : L2.Inv X pins σ H { s0 with heap := h'.push (obD (X.env.qual ++ "<lambda>") params body scope (cloFrom X.env.cells scope.names []) ((X.mg "__name__").getD .none) (.ref c') ctv (.ref s.heap.objs.size)), toks := tk } := I0.kept fun b o e => Heap.get?_push_of_some _ (hx b o e)
    exact h h'.objs.size c' s.heap.objs.size t ((X.mg "__name__").getD .none) ctv H _ I1 (LamX.ExtN.refl H) hT (Heap.get?_push_size _ rfl) (Heap.get?_push_of_some _ (hx _ _ ht0)) (I0.hok.fresh hsz) nT (nofr _ (Nat.le_trans le0 hsz)) (nofr _ (Nat.le_refl _)) hco
theorem de_actD {Eg : XK} {Ng : List Str} {qg : Str} {sg : Scope} {g f c' dt : Addr} {t : Tok} {i : Int} {cdg pm ctv : Value} {params : Arguments} {body : Expr} {k : Nat} {a : Str} {pn : List (Addr × Obj)} {xe : Value → Shared → Prop} {q : QE} {loc : PL.Loc} {p1 p2 : Pos}
    (I : L2.Inv X pins σ H s) (L : LamSD x X.N X.env.scope scope) (hf : s.heap.get? f = some (obD (X.env.qual ++ "<lambda>") params body scope (cloFrom X.env.cells scope.names []) pm (.ref c') ctv (.ref dt))) (hdt : s.heap.get? dt = some { cls := .type "tuple", data := .seq #[.int i t] })
    (hfn : H f = none) (hdn : H dt = none) (hfr : f ∉ frs X.stack) (hdr : dt ∉ frs X.stack) (rl : RL X.K H loc σ)
    (hbind : ∀ T : Addr, ∃ kk, bindArgs (fnD (X.env.qual ++ "<lambda>") params body scope (cloFrom X.env.cells scope.names []) pm (.ref c') ctv (.ref T)) ⟨[], []⟩ = seqItems? (.ref T) >>= kk ∧ ∀ v, kk (some #[v]) = pure [(x, v)])
    (hr : Room (k + 1) (X.A.deeper (envOfC qg sg s.heap.objs.size g cdg)))
    (hbody : ∀ (A : Around) (outer : List Env) (s : Shared) (H : Hp) (E : XK), Room k (A.deeper (LamX.lamEnv X scope s.heap.objs.size f c')) → DE (lamN X A outer s H E scope f c') body q)
    (hN : Ng[0]? = some a) (hv : Vis sg a) (hd : (a == ("__debug__" : Str)) = false := by decide) (hcd : (a == ("__classdict__" : Str)) = false := by decide) :
    DE ((gotCx X Ng qg sg g cdg X.A X.stack s H Eg).tr pn xe) (.Call (.Name a p1) [] [] p2) (qAct f c' (X.env.qual ++ "<lambda>") loc q) := fun W tk => by
  refine ⟨fun pinsZ sZ σZ HZ Q IZ h => ?_⟩
  obtain ⟨locZ, SZ, P, E, rlZ, repZ, ⟨h0, hcod, hq⟩, go, gx⟩ := h
  obtain ⟨vf, e0, rvf⟩ := rlZ.at_ 0 _ h0
  rw [rv_ref rvf] at e0
  refine wpAny_Call_Name_kw (thn ((pe_var (pos := p1) (i := 0) hN hv hd hcd).run pinsZ sZ σZ HZ (fun v H1 => v = .ref f ∧ H1 = HZ) IZ ⟨.ref f, e0, rfl, rfl⟩) fun u s1 hu => ?_)
  obtain ⟨v, H1, I1, r1, ev, eH⟩ := hu
  subst ev
  rw [eH] at I1
  obtain rfl : u = Value.ref f := r1
  have un : Un (frs X.stack) [] H HZ s.heap s1.heap := I1.base
  have kZ : Keep X.K H HZ := Un.keepP un
  have of1 := un.keep f _ hf hfn hfr (by simp)
  have of2 := un.keep dt _ hdt hdn hdr (by simp)
  refine PySem.W.callWith_F0 ⟨_, _, _, _, of1⟩ ?_
  have hco : HZ c' = some (LamX.CodeO c' (X.env.qual ++ "<lambda>")) := repZ c' _ hcod
  obtain ⟨⟨oc, vs, t2, hoc, hdc, hvc⟩, _, _⟩ := I1.hok c' _ hco
  have rc : codeAny (model X.prog X.w) (X.A.deeper (envOfC qg sg s.heap.objs.size g cdg)) (.call (.ref f) ⟨[], []⟩) (CR (L2N.CX X.prog X.w) (envOfC qg sg s.heap.objs.size g cdg :: X.stack) X.prog X.w HZ s1 Q (WE W σZ)) s1 := by
    refine PySem.W.kla_callFunE hr.depth of1 rfl L.co L.gen rfl ⟨c', oc, vs, t2, rfl, hoc, hdc, hvc⟩ ?_
    obtain ⟨kk, e1, e2⟩ := hbind dt
    rw [e1]
    refine wpAny_bind (wpAny_seqItems of2 rfl ?_)
    rw [e2]
    refine wpAny_pure (wpAny_newFunctionEnv (fun y hy => (L.own y hy).1) (fun y hy => ?_) (fun h₁ hns hsb => ⟨I1.nolimit.fresh _ hsb, ?_⟩) L.kind)
    · obtain rfl : y = (x, Value.int i t) := List.mem_singleton.mp hy
      exact L.par
    · show codeAny _ _ (.expr body (LamX.lamEnv X scope s1.heap.objs.size f c')) _ _
      have kp : ∀ b o, s1.heap.get? b = some o → h₁.get? b = some o := fun b o e => hsb.extBut b o (Nat.ne_of_lt (Heap.lt_size e)) (Heap.get?_push_of_some _ e)
      have J0 := lam_startD (A := X.A.deeper (envOfC qg sg s.heap.objs.size g cdg)) (outer := envOfC qg sg s.heap.objs.size g cdg :: X.stack) (f := f) (c' := c') (tk := s1.toks + ([(x, Value.int i t)] : List (Str × Value)).length) (E := WE W σZ) I L I1.env0 hr.hd un hns kp
      have J : L2.Inv (lamN X (X.A.deeper (envOfC qg sg s.heap.objs.size g cdg)) (envOfC qg sg s.heap.objs.size g cdg :: X.stack) s1 HZ (WE W σZ) scope f c') [] σ HZ { s1 with heap := h₁, toks := s1.toks + ([(x, Value.int i t)] : List (Str × Value)).length } := J0.wish _
      have pb := hbody (X.A.deeper (envOfC qg sg s.heap.objs.size g cdg)) (envOfC qg sg s.heap.objs.size g cdg :: X.stack) s1 HZ (WE W σZ) (hr.deeper _) (fun c d _ H' => WE W σZ c d H') (L2N.takes_of rfl rfl rfl rfl)
      refine PySem.W.kla_codeExpr (wpAny_mono (pb.run [] _ σ HZ Q J ⟨loc, SZ, P, E, rl.keep kZ, repZ, hq, go, fun x S' H' c d ex k rep rx => gx x S' H' c d ex k rep rx⟩) (fun v s' hq => ?_) fun e s' hq => hq)
      obtain ⟨w', H', J', rv, q⟩ := hq
      exact ⟨w', H', J'.os, J'.bare, J'.base, J'.hok, rv, q⟩
  refine wpAny_call (codeAny_mono rc fun r s' hq => ?_)
  match r, hq with
  | .error e, hq => exact L2N.passAt tk σZ pinsZ HZ s1 e s' I1 hq
  | .ok (.ret u), hq => exact I1.after hq
  | .ok .next, hq => exact False.elim hq
  | .ok .brk, hq => exact False.elim hq
  | .ok .cont, hq => exact False.elim hq
/-- x(lambda y=1: ..) -/
theorem de_lamD {T : List (Addr × Str)} {qB : QE → QS} {xg a : Str} {g c P : Addr} {k : Nat} {pg : Arguments} {bg : List Stmt} {sg : Scope} {dV kV doc pm cdv ct oc : Value} {an od : Option Addr} {osl : Array (Option Value)} {Ng : List Str} {i : Int} {j : Nat} {pc : Pos}
    {params : Arguments} {body : Expr} {q : QE} {p lpos pos : Pos} (hg : Gl X xg) (hm : X.mg xg = some (.ref g)) (hk : PySem.W.keepIn X.K (.ref g) = true)
    (lk : X.K.lookup g = some ⟨oc, od, .func (PySem.W.fnOf xg xg pg bg sg dV kV doc pm an cdv ct), osl⟩) (hcg : PySem.W.codeIn X.K cdv xg = true) (hb : L2.Binds X.K (PySem.W.fnOf xg xg pg bg sg dV kV doc pm an cdv ct) [a] []) (Sg : FnScope Ng [a] sg) (hNg : Ng[0]? = some a) (hva : Vis sg a)
    (hB : ∀ (s : Shared) (H : Hp) (qc : QE), Room (k + 1) (X.A.deeper (envOfC xg sg s.heap.objs.size g cdv)) → (∀ (pn : List (Addr × Obj)) (xe : Value → Shared → Prop) (p1 p2 : Pos), DE ((gotCx X Ng xg sg g cdv X.A X.stack s H fun _ _ _ => False).tr pn xe) (.Call (.Name a p1) [] [] p2) qc) →
      DB (gotCx X Ng xg sg g cdv X.A X.stack s H fun _ _ _ => False) bg (qB qc))
    (TB : LamX.TabB X.base X.mg c P) (hcode : X.env.code = .ref c) (hmT : (P, X.env.qual ++ "<lambda>") ∈ T) (hu : ∀ p ∈ T, p.1 = P → p.2 = X.env.qual ++ "<lambda>") (hr : Room (k + 2) X.A) (L : LamSD x X.N X.env.scope scope) (hdef : params.defaults = [.Constant (.int i) j pc]) (hkw : params.kw_defaults = [])
    (hbind : ∀ (q : Str) (cl : List (Str × Addr)) (pm cv ctv : Value) (T : Addr), ∃ kk, bindArgs (fnD q params body scope cl pm cv ctv (.ref T)) ⟨[], []⟩ = seqItems? (.ref T) >>= kk ∧ ∀ v, kk (some #[v]) = pure [(x, v)])
    (hbody : ∀ (A : Around) (outer : List Env) (s : Shared) (H : Hp) (E : XK) (f c' : Addr), Room k (A.deeper (LamX.lamEnv X scope s.heap.objs.size f c')) → DE (lamN X A outer s H E scope f c') body q)
    (hdb : (xg == ("__debug__" : Str)) = false := by decide) (hd : (a == ("__debug__" : Str)) = false := by decide) (hcd : (a == ("__classdict__" : Str)) = false := by decide) :
    DE X (.Call (.Name xg p) [.Lambda params body scope lpos] [] pos) (qLam T Ng (X.env.qual ++ "<lambda>") qB q) := fun W _ => by
  refine ⟨fun pins s σ H Q I h => ?_⟩
  obtain ⟨loc, S, Pd, E, rl, rep, ⟨tok, hq⟩, go, _⟩ := h
  refine wpAny_Call_Name_kw (ld_glob I hg hm ?_ hdb)
  refine PySem.W.callWith_K (h₀ := X.base) I.ok.mod.kin hk ?_ (by rfl) (by rfl)
  show wpAny _ _ (spliced ((false, eval (.Lambda params body scope lpos) X.env) :: backTo pos (starEach [] X.env))) _ _ s
  refine Calls.spliced_cons (lam_makeD I TB hcode hmT hu (rep.tabs tok) hdef hkw (L.has I.ok) fun f c' dt t pm' ctv H1 s' I1 eN T1 hf hdt hfn hdn hfr hdr hco => ?_)
  refine Calls.spliced_nil ⟨I1.kIn, ?_⟩
  have k1 : Keep X.K H H1 := ExtN.keep eN
  have rep0 : Rep X.K S H1 := rep.extN tok eN T1
  have rep1 : Rep X.K (ups S c' (.cod (X.env.qual ++ "<lambda>"))) H1 := fun b o e => by
    by_cases hb : b = c'
    · subst hb
      rw [ups_same] at e
      cases e
      exact hco
    · rw [ups_ne hb] at e
      exact rep0 b o e
  obtain ⟨sub1, tok1⟩ := cod_sub tok rep0 hco I1
  have rf : RVs X.K H1 [D.ref f] [V.ref f] := RVs.one rv_ofR
  have rc : codeAny (model X.prog X.w) X.A (.call (.ref g) ⟨[.ref f], []⟩) (CR (L2N.CX X.prog X.w) X.stack X.prog X.w H1 s' Q fun _ _ _ => False) s' := by
    refine LamX.run_ofS (N := Ng) (ps := [a]) (us := [.ref f]) (vs := [.ref f]) lk hcg Sg hr I1.env0 (hb s' [.ref f] I1.kIn rfl) (.cons rfl .nil) rfl fun hr' => ?_
    have db := hB s' H1 (qAct f c' (X.env.qual ++ "<lambda>") loc q) hr' fun pn xe p1 p2 => de_actD I1 L hf hdt hfn hdn hfr hdr (rl.keep k1) (fun T => hbind _ _ _ _ _ T) hr' (fun A outer s H E hr2 => hbody A outer s H E f c' hr2) hNg hva hd hcd
    refine ⟨_, db (fun c d _ H' => False) (L2N.takes_of rfl rfl rfl rfl), ?_⟩
    exact ⟨startD Ng [.ref f], _, endsF Pd fun _ _ => False, startD_len rf, rep1, hq f c' _ sub1 ups_same tok1, endsF_go (E := fun _ _ _ => False) (go.keep k1) fun _ _ _ _ _ z => z.elim⟩
  refine wpAny_call (codeAny_mono rc fun r s2 hq => ?_)
  match r, hq with
  | .error e, hq =>
    obtain ⟨_, _, _, _, _, _, _, _, _, _, _, _, z⟩ := hq
    exact z.elim
  | .ok (.ret u), hq => exact I1.after hq
  | .ok .next, hq => exact False.elim hq
  | .ok .brk, hq => exact False.elim hq
  | .ok .cont, hq => exact False.elim hq
/-- _law_told(lambda y=1: ..) -/
theorem de_toldD {T : List (Addr × Str)} {qB : QE → QS} {c P : Addr} {k : Nat} {st : Stmt} {a : Str} {Ng : List Str} {params : Arguments} {body : Expr} {q : QE} {p lpos pos pc : Pos} {i : Int} {j : Nat} (TL : ToldT X.K X.mg st [a]) (hg : Gl X "_law_told") (Sg : FnScope Ng [a] (defScope st)) (hNg : Ng[0]? = some a) (hva : Vis (defScope st) a)
    (hB : ∀ (g : Addr) (cdv : Value) (s : Shared) (H : Hp) (qc : QE), Room (k + 1) (X.A.deeper (envOfC "_law_told" (defScope st) s.heap.objs.size g cdv)) → (∀ (pn : List (Addr × Obj)) (xe : Value → Shared → Prop) (p1 p2 : Pos), DE ((gotCx X Ng "_law_told" (defScope st) g cdv X.A X.stack s H fun _ _ _ => False).tr pn xe) (.Call (.Name a p1) [] [] p2) qc) →
      DB (gotCx X Ng "_law_told" (defScope st) g cdv X.A X.stack s H fun _ _ _ => False) (defBody st) (qB qc))
    (TB : LamX.TabB X.base X.mg c P) (hcode : X.env.code = .ref c) (hmT : (P, X.env.qual ++ "<lambda>") ∈ T) (hu : ∀ p ∈ T, p.1 = P → p.2 = X.env.qual ++ "<lambda>") (hr : Room (k + 2) X.A) (L : LamSD x X.N X.env.scope scope) (hdef : params.defaults = [.Constant (.int i) j pc]) (hkw : params.kw_defaults = [])
    (hbind : ∀ (q : Str) (cl : List (Str × Addr)) (pm cv ctv : Value) (T : Addr), ∃ kk, bindArgs (fnD q params body scope cl pm cv ctv (.ref T)) ⟨[], []⟩ = seqItems? (.ref T) >>= kk ∧ ∀ v, kk (some #[v]) = pure [(x, v)])
    (hbody : ∀ (A : Around) (outer : List Env) (s : Shared) (H : Hp) (E : XK) (f c' : Addr), Room k (A.deeper (LamX.lamEnv X scope s.heap.objs.size f c')) → DE (lamN X A outer s H E scope f c') body q)
    (hd : (a == ("__debug__" : Str)) = false := by decide) (hcd : (a == ("__classdict__" : Str)) = false := by decide) : DE X (.Call (.Name "_law_told" p) [.Lambda params body scope lpos] [] pos) (qLam T Ng (X.env.qual ++ "<lambda>") qB q) := by
  obtain ⟨g, fd, hm, F, hb⟩ := TL
  obtain ⟨oc, od, dV, kV, doc, pm, an, cdv, ct, osl, rfl, lk, hcg, _, _⟩ := F.ex
  exact de_lamD hg hm F.kp lk hcg hb Sg hNg hva (hB g cdv) TB hcode hmT hu hr L hdef hkw hbind hbody (by decide) hd hcd
end
end PL

namespace PL
open PySem PySem.Spec PyProof.Rows
/-! ## set(x), x a text, a tuple, a list -/
def stepDed {K : Type} [DecidableEq K] (acc : List K) (k : K) : List K := if k ∈ acc then acc else acc ++ [k]
/-- each key once, in the order in which they come -/
def ded {K : Type} [DecidableEq K] (ks : List K) : List K := ks.foldl stepDed []
theorem ded_snoc {K : Type} [DecidableEq K] (ks : List K) (k : K) : ded (ks ++ [k]) = stepDed (ded ks) k := by unfold ded; rw [List.foldl_append]; rfl
theorem ded_len {K : Type} [DecidableEq K] : ∀ n (ks : List K), ks.length = n → (ded ks).length ≤ n
  | 0, ks, h => by
    obtain rfl := List.eq_nil_of_length_eq_zero h
    exact Nat.le_refl _
  | n + 1, ks, h => by
    have hne : ks ≠ [] := fun e => by rw [e] at h; cases h
    rw [← List.dropLast_concat_getLast hne, ded_snoc]
    have ih := ded_len n ks.dropLast (by rw [List.length_dropLast, h]; rfl)
    unfold stepDed
    split
    · omega
    · rw [List.length_append, List.length_singleton]; omega
section
variable {prog : Program} {w : World} {A : Around} {R : Result → Shared → Prop} {I : Addr} {fp wr : List Addr} {G : Array GenState → Array GenState → Prop} {n : Nat} {P : Nat → Value → Prop} {St : Nat → Shared → Prop} {K : Type} [DecidableEq K]
theorem setLoop (knd : KeyKind prog w K) (W : WalksS prog w A.in1 I fp wr G n P St) (S : Addr) (hSf : S ∉ fp) (ks : List K) (hl : ks.length = n) (hroom : n + 1 < scanBound)
    (hval : ∀ i v, P i v → ∃ k, ks[i]? = some k ∧ knd.is k v = true ∧ v.scannable = true) :
    ∀ (m i : Nat) (s : Shared), n - i = m → i ≤ n → St i s → s.heap.SetOf knd S (fun k => decide (k ∈ ded (ks.take i))) (ded (ks.take i)).length →
      (∀ s', Moved (S :: wr) G s s' → s'.heap.SetOf knd S (fun k => decide (k ∈ ded ks)) (ded ks).length → R (.ok (.ret .none)) s') → codeAny (model prog w) A (.builtin "set.update.loop" ⟨[.ref S, .ref I], []⟩) R s := by
  have notW : S ∉ wr := fun h => hSf (W.sub _ h)
  have wider : ∀ b ∈ wr, b ∈ S :: wr := fun b hb => List.mem_cons_of_mem _ hb
  have carry : ∀ {s s' : Shared} {T : K → Bool} {c : Nat}, s.heap.SetOf knd S T c → Moved wr G s s' → s'.heap.SetOf knd S T c := fun {s s' T c} ⟨o, es, ep, t, ho, rest⟩ hm => ⟨o, es, ep, t, hm.heap S _ notW ho, rest⟩
  intro m
  induction m with
  | zero =>
    intro i s hk hi hst hS hR
    obtain rfl : i = n := by omega
    rw [← hl, List.take_length] at hS
    refine codeAny_builtin PyProof.Rows.F.entry_set_update_loop ?_
    rw [Around.under_plainId PyProof.Rows.F.plain_set_update_loop _]
    show wpAny _ A.in1 (pyNext (.ref I) >>= _) _ _ s
    exact wpAny_bind (W.done s _ _ hst fun s' hm => wpAny_pure (hR s' (hm.mono wider) (carry hS hm)))
  | succ m ih =>
    intro i s hk hi hst hS hR
    have hlt : i < n := by omega
    refine codeAny_builtin PyProof.Rows.F.entry_set_update_loop ?_
    rw [Around.under_plainId PyProof.Rows.F.plain_set_update_loop _]
    show wpAny _ A.in1 (pyNext (.ref I) >>= _) _ _ s
    refine wpAny_bind (W.item i s _ _ hlt hst fun v s' hP hst' hm => ?_)
    obtain ⟨k, ek, hkv, hsc⟩ := hval i v hP
    show wpAny _ A.in1 (holding [v] (setAdd S v) >>= _) _ _ s'
    refine wpAny_bind (wpAny_holding ?_)
    unfold setAdd
    have hS1 := carry hS hm
    have few : (ded (ks.take i)).length ≤ i := ded_len i _ (by rw [List.length_take]; omega)
    refine wpAny_holding (wpAny_bind (knd.pyHash hkv (wpAny_setAddHashed_of (knd := knd) (s := { s' with toks := s'.toks + 1 }) hkv hsc hS1 (by omega) fun h' hsb hS2 => ?_)))
    have et : ks.take (i + 1) = ks.take i ++ [k] := by
      rw [List.take_succ, ek]
      rfl
    have next : h'.SetOf knd S (fun k' => decide (k' ∈ ded (ks.take (i + 1)))) (ded (ks.take (i + 1))).length := by
      rw [et, ded_snoc]
      unfold stepDed
      by_cases hin : k ∈ ded (ks.take i)
      · rw [if_pos hin]
        refine PyProof.Rows.SetOf_congr hS2 (fun k' => ?_) (by rw [if_pos (decide_eq_true hin)])
        by_cases e : k' = k
        · rw [e, decide_eq_true hin]; rfl
        · rw [decide_eq_false (p := k' = k) e, Bool.or_false]
      · rw [if_neg hin]
        refine PyProof.Rows.SetOf_congr hS2 (fun k' => ?_) (by rw [if_neg (by simpa using hin), List.length_append]; rfl)
        rw [← Bool.decide_or]
        exact decide_eq_decide.mpr (by simp [List.mem_append])
    refine wpAny_pure ⟨plainId_quiet PyProof.Rows.F.plain_set_update_loop _, ih (i + 1) _ (by omega) hlt (W.frame _ s' _ _ hst' (Nat.le_succ _) fun b hb o e => ?_) next fun s'' hm'' hS'' => ?_⟩
    · rw [hsb.2 b (fun z : b = S => hSf (by rw [← z]; exact hb))]
      exact e
    · refine hR s'' (Moved.trans W.gtrans ((hm.mono wider).then_heap (Nat.le_succ _) fun b o hb e => ?_) hm'') hS''
      rw [hsb.2 b (fun z : b = S => hb (by rw [z]; exact List.mem_cons_self))]
      exact e
end
/-- what a set may be made of -/
structure Feeds {K : Type} [DecidableEq K] (prog : Program) (w : World) (knd : KeyKind prog w K) (s : Shared) (v : Value) (ks : List K) (T : String) (o : Obj) (Hb : Heap → Prop) (fp0 : List Addr) : Prop where
  ty : ∀ s' : Shared, (∀ b o, s.heap.get? b = some o → s'.heap.get? b = some o) → s'.TypeIs v T
  noSet : isSubtype (.type T) (.type "set") = pure false
  noFroz : isSubtype (.type T) (.type "frozenset") = pure false
  noDict : (Value.type T == Value.type "dict") = false
  it : Begins v o Hb
  here : Hb s.heap
  low : ∀ b ∈ fp0, b < s.heap.objs.size
  few : ks.length + 1 < scanBound
  walk : ∀ (A : Around) (it : Addr), A.handled = none → it ∉ fp0 → ∃ (P : Nat → Value → Prop) (St : Nat → Heap → Prop), Walks prog w A it (it :: fp0) [it] ks.length P St ∧ (∀ h, h.get? it = some o → Hb h → St 0 h) ∧ ∀ i v, P i v → ∃ k, ks[i]? = some k ∧ knd.is k v = true ∧ v.scannable = true
section
variable {prog : Program} {w : World} {A : Around} {E : Value → Shared → Prop} {s : Shared} {K : Type} [DecidableEq K]
theorem call_set_any {knd : KeyKind prog w K} {v : Value} {ks : List K} {T : String} {o : Obj} {Hb : Heap → Prop} {fp0 : List Addr} {Q : Value → Shared → Prop} (F : Feeds prog w knd s v ks T o Hb fp0) (hh : A.handled = none)
    (h : ∀ (h' : Heap) (tk : Nat), h'.SetOf knd s.heap.objs.size (fun k => decide (k ∈ ded ks)) (ded ks).length → (∀ b o, b < s.heap.objs.size → s.heap.get? b = some o → h'.get? b = some o) → Q (.ref s.heap.objs.size) { s with heap := h', toks := tk }) :
    wpAny (model prog w) A (call (.type "set") [v]) Q E s := by
  obtain ⟨c0, tl0, mro0⟩ := PySem.F.called_set.mro
  have made0 := PySem.F.called_set.made
  have sub0 := PySem.F.called_set.sub
  refine wpAny_call (codeAny_of_tree ?_)
  show wpAny _ _ (callAny (.type "set") _) _ _ _
  refine wpAny_pure ⟨Code.quiet_builtin _ (by decide +kernel), codeAny_builtin PySem.F.entry_type_call ?_⟩
  rw [Around.under_plain (weight_type_call_type "set" [v] []) rfl]
  have nt0 := PySem.F.called_set.notType
  have cc0 := PySem.F.called_set.canCreate
  have ct0 := PySem.F.typeCall_set_1 v
  repeat (any_goals (first | assumption | wp_step))
  refine codeAny_mono (code_set_new_1 v (E := E) (Q₁ := fun ob s₁ => ∃ led : Bool, ob = .ref s.heap.objs.size ∧ s₁ = { s with heap := s.heap.push { cls := .type "set", dict := none, data := .set #[] 0 (.fresh 0 0 led) } }) fun led => ⟨led, rfl, rfl⟩) fun r s₁ hr => ?_
  cases r with
  | error e => exact hr
  | ok fl =>
    cases fl with
    | ret ob =>
      obtain ⟨led, rfl, rfl⟩ := hr
      obtain ⟨h1, eh1⟩ : ∃ h1, h1 = s.heap.push { cls := .type "set", dict := none, data := .set #[] 0 (.fresh 0 0 led) } := ⟨_, rfl⟩
      have z1 : h1.objs.size = s.heap.objs.size + 1 := by rw [eh1, Heap.size_push]
      have up1 : ∀ b o, s.heap.get? b = some o → h1.get? b = some o := fun b o e => by
        rw [eh1]
        exact Heap.get?_push_of_some _ e
      have new1 : h1.get? s.heap.objs.size = some { cls := .type "set", dict := none, data := .set #[] 0 (.fresh 0 0 led) } := by
        rw [eh1]
        exact Heap.get?_push_size _ rfl
      rw [← eh1]
      clear eh1
      have isSet : Shared.TypeIs { s with heap := h1 } (.ref s.heap.objs.size) "set" := ⟨_, new1, rfl⟩
      have il0 := PySem.F.called_set.init.lookup
      have ib0 := PySem.F.called_set.init.bind (.ref s.heap.objs.size)
      repeat (any_goals (first | assumption | wp_step))
      refine codeAny_mono (codeAny_call_builtin (R := wants (fun r s₂ => r = .none ∧ ∃ h' tk, s₂ = { s with heap := h', toks := tk } ∧ h'.SetOf knd s.heap.objs.size (fun k => decide (k ∈ ded ks)) (ded ks).length ∧ ∀ b o, b < s.heap.objs.size → s.heap.get? b = some o → h'.get? b = some o) E)
        PySem.F.called_set.init.plain PySem.F.entry_set_init (check_set_init_1 isSet ?_)) fun r₂ s₂ hr₂ => ?_
      · have tv : Shared.TypeIs { s with heap := h1 } v T := F.ty _ up1
        have q1 : ∀ {A' : Around} {E' : Value → Shared → Prop} {Q' : Bool → Shared → Prop}, Q' false { s with heap := h1 } → wpAny (model prog w) A' (isInstance v (.type "set")) Q' E' { s with heap := h1 } := fun q => wpAny_isInstance tv F.noSet q
        have q2 : ∀ {A' : Around} {E' : Value → Shared → Prop} {Q' : Bool → Shared → Prop}, Q' false { s with heap := h1 } → wpAny (model prog w) A' (isInstance v (.type "frozenset")) Q' E' { s with heap := h1 } := fun q => wpAny_isInstance tv F.noFroz q
        have q3 : ∀ {A' : Around} {E' : Value → Shared → Prop} {Q' : Value → Shared → Prop}, Q' (.type T) { s with heap := h1 } → wpAny (model prog w) A' (typeOf v) Q' E' { s with heap := h1 } := fun q => wpAny_typeOf tv q
        have nd := F.noDict
        unfold Builtin.«set.__init__» noKeywords Builtin.Frozenset.updateFrom
        generalize hPI : pyIter = PI
        wp_walk using q1, q2, q3
        subst hPI
        refine F.it.iter prog w _ _ { s with heap := h1 } _ (F.it.keeps _ _ F.here up1) ?_
        refine wpAny_bind (wpAny_runValue ?_)
        have hh3 : A.in1.in1.in1.handled = none := by simp [hh]
        have lowI : ∀ b ∈ fp0, b < h1.objs.size := fun b hb => by
          rw [z1]
          exact Nat.lt_succ_of_lt (F.low b hb)
        obtain ⟨Pw, Sw, W, start, hval⟩ := F.walk A.in1.in1.in1 h1.objs.size hh3 (fun z => Nat.lt_irrefl _ (lowI _ z))
        have apart : s.heap.objs.size ∉ h1.objs.size :: fp0 := fun z => by
          rcases List.mem_cons.mp z with e | e
          · rw [z1] at e
            exact Nat.ne_of_lt (Nat.lt_succ_self _) e
          · exact Nat.lt_irrefl _ (F.low _ e)
        refine setLoop knd W.toS s.heap.objs.size apart ks rfl F.few hval (ks.length - 0) 0 _ rfl (Nat.zero_le _) (start _ (Heap.get?_push_size _ F.it.free) (F.it.keeps _ _ (F.it.keeps _ _ F.here up1) fun b o e => Heap.get?_push_of_some _ e)) ?_ ?_
        · have hg : (h1.push o).get? s.heap.objs.size = some { cls := .type "set", dict := none, data := .set #[] 0 (.fresh 0 0 led) } := Heap.get?_push_of_some _ new1
          exact PyProof.Rows.SetOf_congr ((PyProof.Rows.setObjOf_fresh (knd := knd) led).setOf hg (by unfold scanBound; decide)) (fun k => by simp [ded]) rfl
        · intro s' hm hS'
          obtain ⟨h', g', d', tk', os'⟩ := s'
          obtain rfl : g' = s.gens := hm.gens
          obtain rfl : d' = s.drawn := hm.drawn
          obtain rfl : os' = s.os := hm.os
          show wpAny _ _ _ _ _ _
          refine wpAny_pure ?_
          show wpAny _ _ (ret Value.none) _ _ _
          refine wpAny_pure ⟨rfl, h', tk', rfl, hS', fun b o hb e => hm.heap b o (fun z => ?_) (Heap.get?_push_of_some _ (up1 _ _ e))⟩
          rcases List.mem_cons.mp z with e1 | e1
          · exact Nat.ne_of_lt hb e1
          · have e2 := List.mem_singleton.mp e1
            rw [z1] at e2
            exact Nat.ne_of_lt (Nat.lt_succ_of_lt hb) e2
      · cases r₂ with
        | error e => exact hr₂
        | ok fl₂ =>
          cases fl₂ with
          | ret r =>
            obtain ⟨rfl, h', tk, rfl, hS', hk'⟩ := hr₂
            repeat (any_goals (first | assumption | wp_step))
            exact h _ _ hS' hk'
          | _ => exact hr₂.elim
    | _ => exact hr.elim
end
end PL

namespace PL
open PySem PySem.Spec PyProof.Rows L2 -- the layers
section
variable {prog : Program} {w : World} {s : Shared} {K : Type} [DecidableEq K] {knd : KeyKind prog w K} {ks : List K}
theorem sub_tuple_set0 : isSubtype (.type "tuple") (.type "set") = pure false := by rw [isSubtype_type]; kernel_rfl
theorem sub_tuple_froz0 : isSubtype (.type "tuple") (.type "frozenset") = pure false := by rw [isSubtype_type]; kernel_rfl
theorem sub_str_set0 : isSubtype (.type "str") (.type "set") = pure false := by rw [isSubtype_type]; kernel_rfl
theorem sub_str_froz0 : isSubtype (.type "str") (.type "frozenset") = pure false := by rw [isSubtype_type]; kernel_rfl
def KeysAre (knd : KeyKind prog w K) (its : List Value) (ks : List K) : Prop := its.length = ks.length ∧ ∀ (i : Nat) (v : Value), its[i]? = some v → ∃ k, ks[i]? = some k ∧ knd.is k v = true ∧ v.scannable = true
theorem feeds_list {l : Addr} {its : List Value} (hl : s.heap.IsList l its.toArray) (h : KeysAre knd its ks) (hb : ks.length + 1 < scanBound) : Feeds prog w knd s (.ref l) ks "list" { cls := .type "list_iterator", data := .fields #[.ref l, .int 0 0] } (fun h => h.IsList l its.toArray) [l] where
  ty := fun s' k => by
    obtain ⟨o, e, c, _⟩ := hl
    exact ⟨o, k _ _ e, c⟩
  noSet := PySem.F.sub_list_set
  noFroz := PySem.F.sub_list_frozenset
  noDict := by decide
  it := begins_list l its.toArray
  here := hl
  low := fun b hb => by
    obtain ⟨o, e, _⟩ := hl
    rw [List.mem_singleton.mp hb]
    exact Heap.lt_size e
  few := hb
  walk := fun A it hh hn => by
    have hs : its.toArray.size = ks.length := by rw [List.size_toArray]; exact h.1
    have W := Walks.list (prog := prog) (w := w) hh it l (fun e => hn (by rw [e]; exact List.mem_singleton.mpr rfl)) its.toArray
    rw [hs] at W
    exact ⟨_, _, W, fun h' e b => ⟨⟨_, e, rfl, rfl⟩, b⟩, fun i v p => h.2 i v (by simpa using p)⟩
theorem feeds_tuple {l : Addr} {its : List Value} (hl : s.heap.IsTuple l its.toArray) (h : KeysAre knd its ks) (hb : ks.length + 1 < scanBound) : Feeds prog w knd s (.ref l) ks "tuple" { cls := .type "tuple_iterator", data := .fields #[.ref l, .int 0 0] } (fun h => h.IsTuple l its.toArray) [l] where
  ty := fun s' k => by
    obtain ⟨o, e, c, _⟩ := hl
    exact ⟨o, k _ _ e, c⟩
  noSet := sub_tuple_set0
  noFroz := sub_tuple_froz0
  noDict := by decide
  it := begins_tuple l its.toArray
  here := hl
  low := fun b hb => by
    obtain ⟨o, e, _⟩ := hl
    rw [List.mem_singleton.mp hb]
    exact Heap.lt_size e
  few := hb
  walk := fun A it hh hn => by
    have hs : its.toArray.size = ks.length := by rw [List.size_toArray]; exact h.1
    have W := Walks.tuple (prog := prog) (w := w) hh it l (fun e => hn (by rw [e]; exact List.mem_singleton.mpr rfl)) its.toArray
    rw [hs] at W
    exact ⟨_, _, W, fun h' e b => ⟨⟨_, e, rfl, rfl⟩, b⟩, fun i v p => h.2 i v (by simpa using p)⟩
theorem keys_ints {its : List Value} {ns : List Int} (r : Vals (ns.map V.int) its) : KeysAre (intKind prog w) its ns := by
  refine ⟨by rw [← r.length, List.length_map], fun i v e => ?_⟩
  have hi : i < ns.length := by
    have := (List.getElem?_eq_some_iff.mp e).1
    rw [← r.length, List.length_map] at this
    exact this
  obtain ⟨u, e2, t, e3⟩ := r.get (i := i) (x := V.int ns[i]) (by simp [hi])
  rw [e] at e2
  cases e2
  subst e3
  exact ⟨ns[i], List.getElem?_eq_getElem hi, intKind_is prog w _ _, rfl⟩
theorem keys_strs {its : List Value} {ns : List Str} (r : Vals (ns.map V.str) its) : KeysAre (strKind prog w) its ns := by
  refine ⟨by rw [← r.length, List.length_map], fun i v e => ?_⟩
  have hi : i < ns.length := by
    have := (List.getElem?_eq_some_iff.mp e).1
    rw [← r.length, List.length_map] at this
    exact this
  obtain ⟨u, e2, t, e3⟩ := r.get (i := i) (x := V.str ns[i]) (by simp [hi])
  rw [e] at e2
  cases e2
  subst e3
  exact ⟨ns[i], List.getElem?_eq_getElem hi, strKind_is prog w _ _, rfl⟩
end
section
variable {X : Cx}
def tLenSet (K : PySem.W.Frag) (ta : TE) : TE := fun σ H Q => ta σ H fun x H1 => ∃ (l : Addr) (n : Nat), x = .ref l ∧ Q (.int n) H1 ∧
  ((∃ ns : List Int, n = (ded ns).length ∧ ns.length ≤ 4000 ∧ (SqL K H1 l (ns.map V.int) ∨ SqT K H1 l (ns.map V.int))) ∨ ∃ ns : List Str, n = (ded ns).length ∧ ns.length ≤ 4000 ∧ (SqL K H1 l (ns.map V.str) ∨ SqT K H1 l (ns.map V.str)))
theorem pe_lenSet {a : Expr} {ta : TE} {p p2 q pos : Pos} (hg : Gl X "len") (hm : X.mg "len" = none) (hg2 : Gl X "set") (hm2 : X.mg "set" = none) (ha : PE X a ta) (hc : X.calm = true := by rfl)
    (na : starEach [a] X.env = (false, eval a X.env) :: starEach [] X.env := by rfl) : PE X (.Call (.Name "len" p) [.Call (.Name "set" p2) [a] [] q] [] pos) (tLenSet X.K ta) := by
  refine ⟨fun pins s σ H Q I h => ?_⟩
  refine Call_ (ld_blt I hg hm boot_len (PyProof.Rows.callWith_builtin1 (PyProof.Rows.args_cons ?_ rfl) rfl rfl))
  refine Call_ (ld_blt I hg2 hm2 boot_set (PyProof.Rows.callWith_type1 (PyProof.Rows.args_cons (thn (ha.run pins s σ H _ I h) fun v s1 hh => PyProof.Rows.args_nil ?_) na) na rfl))
  obtain ⟨x, H1, I1, r1, l, n, rfl, q1, src⟩ := hh
  cases r1
  have hh := I1.ok.hd hc
  rcases src with ⟨ns, rfl, hl, hq | hq⟩ | ⟨ns, rfl, hl, hq | hq⟩
  · obtain ⟨its, r, pl, hz⟩ := I1.list hq
    refine call_set_any (feeds_list (knd := intKind X.prog X.w) pl.isList (keys_ints r) (by unfold scanBound; omega)) hh fun h' tk hS hk => PyProof.Rows.args_nil ?_
    obtain ⟨o, es, ep, t, ho, hex, hd, _, _, _, hf, hn⟩ := hS
    have I2 : L2.Inv X pins σ H1 { s1 with heap := h', toks := tk } := I1.kept fun b o e => hk b o (Heap.lt_size e) e
    have few := ded_len _ ns rfl
    exact call_len_set ho hex hd hf (by rw [hn]; omega) ⟨.int _, H1, I2.tok _, ⟨_, by rw [hn]⟩, q1⟩
  · obtain ⟨its, r, pl, hz⟩ := I1.tuple hq
    refine call_set_any (feeds_tuple (knd := intKind X.prog X.w) pl (keys_ints r) (by unfold scanBound; omega)) hh fun h' tk hS hk => PyProof.Rows.args_nil ?_
    obtain ⟨o, es, ep, t, ho, hex, hd, _, _, _, hf, hn⟩ := hS
    have I2 : L2.Inv X pins σ H1 { s1 with heap := h', toks := tk } := I1.kept fun b o e => hk b o (Heap.lt_size e) e
    have few := ded_len _ ns rfl
    exact call_len_set ho hex hd hf (by rw [hn]; omega) ⟨.int _, H1, I2.tok _, ⟨_, by rw [hn]⟩, q1⟩
  · obtain ⟨its, r, pl, hz⟩ := I1.list hq
    refine call_set_any (feeds_list (knd := strKind X.prog X.w) pl.isList (keys_strs r) (by unfold scanBound; omega)) hh fun h' tk hS hk => PyProof.Rows.args_nil ?_
    obtain ⟨o, es, ep, t, ho, hex, hd, _, _, _, hf, hn⟩ := hS
    have I2 : L2.Inv X pins σ H1 { s1 with heap := h', toks := tk } := I1.kept fun b o e => hk b o (Heap.lt_size e) e
    have few := ded_len _ ns rfl
    exact call_len_set ho hex hd hf (by rw [hn]; omega) ⟨.int _, H1, I2.tok _, ⟨_, by rw [hn]⟩, q1⟩
  · obtain ⟨its, r, pl, hz⟩ := I1.tuple hq
    refine call_set_any (feeds_tuple (knd := strKind X.prog X.w) pl (keys_strs r) (by unfold scanBound; omega)) hh fun h' tk hS hk => PyProof.Rows.args_nil ?_
    obtain ⟨o, es, ep, t, ho, hex, hd, _, _, _, hf, hn⟩ := hS
    have I2 : L2.Inv X pins σ H1 { s1 with heap := h', toks := tk } := I1.kept fun b o e => hk b o (Heap.lt_size e) e
    have few := ded_len _ ns rfl
    exact call_len_set ho hex hd hf (by rw [hn]; omega) ⟨.int _, H1, I2.tok _, ⟨_, by rw [hn]⟩, q1⟩
/-- len(set(x)), x of ints, of texts -/
def qLenSet (q : QE) : QE := fun loc S P E => q loc S (fun d S1 => (∃ ns : List Int, (LsAt S1 d (ns.map D.int) ∨ d = .tup (ns.map D.int)) ∧ ns.length ≤ 4000 ∧ P (.int (ded ns).length) S1) ∨ ∃ ns : List Str, (LsAt S1 d (ns.map D.str) ∨ d = .tup (ns.map D.str)) ∧ ns.length ≤ 4000 ∧ P (.int (ded ns).length) S1) E
theorem de_lenSet {a : Expr} {qa : QE} {p p2 q pos : Pos} (hg : Gl X "len") (hm : X.mg "len" = none) (hg2 : Gl X "set") (hm2 : X.mg "set" = none) (ha : DE X a qa) (hc : X.calm = true := by rfl)
    (na : starEach [a] X.env = (false, eval a X.env) :: starEach [] X.env := by rfl) : DE X (.Call (.Name "len" p) [.Call (.Name "set" p2) [a] [] q] [] pos) (qLenSet qa) := fun W tk => by
  refine PE.imp (pe_lenSet hg hm hg2 hm2 (ha W tk) hc na) fun σ H Q h => ?_
  obtain ⟨loc, S, P, E, rl, rep, hq, g, gx⟩ := h
  refine ⟨loc, S, _, E, rl, rep, hq, fun d S1 v H1 q1 k1 rep1 r1 => ?_, gx⟩
  rcases q1 with ⟨ns, hd, hl, hp⟩ | ⟨ns, hd, hl, hp⟩
  · rcases hd with hd | rfl
    · obtain ⟨l, vs, e, s, r⟩ := hd.sq rep1 r1
      rw [rvs_ints r] at s
      exact ⟨l, _, e, g _ _ _ _ hp k1 rep1 rv_ofI, .inl ⟨ns, rfl, hl, .inl s⟩⟩
    · obtain ⟨l, vs, e, s, r⟩ := rv_tup r1
      rw [rvs_ints r] at s
      exact ⟨l, _, e, g _ _ _ _ hp k1 rep1 rv_ofI, .inl ⟨ns, rfl, hl, .inr s⟩⟩
  · rcases hd with hd | rfl
    · obtain ⟨l, vs, e, s, r⟩ := hd.sq rep1 r1
      rw [rvs_strs r] at s
      exact ⟨l, _, e, g _ _ _ _ hp k1 rep1 rv_ofI, .inr ⟨ns, rfl, hl, .inl s⟩⟩
    · obtain ⟨l, vs, e, s, r⟩ := rv_tup r1
      rw [rvs_strs r] at s
      exact ⟨l, _, e, g _ _ _ _ hp k1 rep1 rv_ofI, .inr ⟨ns, rfl, hl, .inr s⟩⟩
end
end PL

namespace PL
open PySem PySem.Spec PyProof.Rows L2 -- the layers
section
variable {X : Cx}
/-! ## tuple(x) as a tuple whose object is known; its index -/
theorem call_tupleP : CallR X (.type "tuple") (fun xs H Q => ∃ p ys, xs = [.ref p] ∧ SqL X.K H p ys ∧ ∀ l o, H l = none → o.cls = .type "tuple" → o.dict = none → Q (.ref l) (upd H l (.frz o (.tup ys)))) := by
  intro pins s σ H xs us Q I r h
  obtain ⟨p, ys, rfl, hq, q⟩ := h
  obtain ⟨u, rfl, rx⟩ := vals1 r
  cases rx
  obtain ⟨its, r', pl, hz⟩ := I.list hq
  have hlen := r'.length
  refine call_tuple_list pl.isList (fun h' kp => ?_) (by simp only [List.size_toArray] <;> omega)
  have I1 : L2.Inv X pins σ H { s with heap := h' } := I.kept (t' := s.toks) kp
  have I2 := I1.laid (t' := s.toks) (a := h'.objs.size) (o := .frz { cls := .type "tuple", data := .seq its.toArray } (.tup ys)) (h' := h'.push { cls := .type "tuple", data := .seq its.toArray }) (fun b o e => Heap.get?_push_of_some _ e) (Nat.le_refl _) ⟨Heap.get?_push_size _ rfl, hz, its, r', IsTup.new _ _⟩
  exact ⟨.ref h'.objs.size, _, I2, rfl, q _ _ (I1.hok.fresh (Nat.le_refl _)) rfl rfl⟩
def cTupleP : QC := fun ds S P => ∃ d xs, ds = [d] ∧ LsAt S d xs ∧ P (.ptup xs) S
theorem cd_tupleP : CDok X (.type "tuple") cTupleP := ⟨_, call_tupleP, fun ds S P H vs Q q rep r go => by
  obtain ⟨d, xs, rfl, hd, hp⟩ := q
  obtain ⟨v, rfl, rv⟩ := rvs_one r
  obtain ⟨a, ws, e, s, r2⟩ := hd.sq rep rv
  subst e
  refine ⟨a, ws, rfl, s, fun l o n h1 h2 => go _ _ _ _ hp (Keep.new n) (rep.same (same_new n)) ?_⟩
  unfold RV
  exact ⟨l, ws, rfl, ⟨o, upd_same, h1, h2⟩, RVs.keep (Keep.new n) _ _ r2⟩⟩
theorem mt_tupI : MtR X "tuple.index" (fun x xs H Q => ∃ p, ∃ ys : List Int, ∃ z j, x = .ref p ∧ xs = [.int z] ∧ SqT X.K H p (ys.map V.int) ∧ ys[j]? = some z ∧ (∀ m, m < j → ys[m]? ≠ some z) ∧ Q (.int (j : Nat)) H) := by
  intro pins s σ H x xs v us Q I rx rs h
  obtain ⟨p, ys, z, j, rfl, rfl, hq, hy, hno, q⟩ := h
  cases rx
  obtain ⟨u, rfl, t, rfl⟩ := vals1 rs
  obtain ⟨its, r, pl, hz⟩ := I.tuple hq
  obtain ⟨⟨cls, dd, dt, sl⟩, ho, hc, n, hd⟩ := pl
  simp only at hc hd
  subst hc hd
  have hl : its.toArray.size = ys.length := by rw [List.size_toArray, ← r.length, List.length_map]
  have hj : j < its.toArray.size := by rw [hl]; exact (List.getElem?_eq_some_iff.mp hy).1
  have item : ∀ (m : Nat) (hm : m < its.toArray.size), ∃ y t', ys[m]? = some y ∧ its.toArray[m] = Value.int y t' := fun m hm => by
    have hm' : m < ys.length := by rw [← hl]; exact hm
    obtain ⟨w, hw, t', hw'⟩ := r.get (i := m) (x := .int ys[m]) (by simp [hm'])
    refine ⟨ys[m], t', List.getElem?_eq_getElem hm', ?_⟩
    have e := (List.getElem?_eq_some_iff.mp hw).2
    rw [← hw', ← e]
    simp
  have flat : (ys.map V.int).all L2.flatV = true := by simp [L2.flatV]
  refine call_meets PySem.F.slot_tuple_index ⟨_, ho, rfl⟩ PySem.F.entry_tuple_index (PySem.F.args_tuple_index_2 _ _) (TI.tuple_indexAt p its.toArray n dd sl (.int z t) (eqU (.int z)) j hj ?_ ?_)
    ⟨ho, fun w hw => mem_eqAt (x := .int z) ⟨t, rfl⟩ rfl r flat w (by simpa using hw), ⟨.int (j : Nat), H, I.tok _, ⟨_, rfl⟩, q⟩⟩
  · obtain ⟨y, t', h1, h2⟩ := item j hj
    obtain rfl := Option.some.inj (hy.symm.trans h1)
    rw [h2]
    exact beq_self_eq_true z
  · intro m hm hmj
    obtain ⟨y, t', h1, h2⟩ := item m hm
    rw [h2]
    show (y == z) = false
    exact beq_eq_false_iff_ne.mpr fun e => hno m hmj (by rw [h1, e])
variable {o e : Expr} {name : Str} {apos cpos : Pos} {id : String} {r : V → List V → Hp → VK → Prop} {to : TE} {t : TA}
theorem pe_bmP (slot : Slot "tuple" name id) (hty : typeOf (.builtin id) = pure (.type "method_descriptor")) (hm : MtR X id r) (ho : PE X o to) (ha : PA X [e] t)
    (hbase : attributeBase o name X.env (eval o X.env) = eval o X.env := by rfl)
    (hfew : ((backTo cpos (starEach [e] X.env)).all (fun x => !x.1) && (backToKw cpos (keywordEach [] X.env)).all (fun x => x.1.isSome)
      && decide ([e].length + ([] : List Keyword).length + (if ([] : List Keyword).isEmpty then 0 else 1) < 30)) = true := by rfl)
    (hline : (apos.endLine == cpos.line) = true := by rfl) (hs : starEach [e] X.env = (false, eval e X.env) :: starEach [] X.env := by rfl) (hplain : (backTo cpos (starEach [] X.env)).any (·.1) = false := by rfl) :
    PE X (.Call (.Attribute o name apos) [e] [] cpos) (fun σ H Q => to σ H fun x H1 => (∃ p vs, x = .ref p ∧ PTup H1 p vs) ∧ t σ H1 fun xs H2 => r x xs H2 Q) := by
  refine ⟨fun pins s σ H Q I h => ?_⟩
  refine wpAny_Call_method_late hbase hfew hline rfl (thn (ho.run pins s σ H _ I h) fun v s1 hh => ?_)
  obtain ⟨x, H1, I1, r1, ⟨p, vs, rfl, ob, hf, hc, hd⟩, q1⟩ := hh
  cases r1
  have he := (I1.hok p _ hf).1
  refine ⟨"tuple", id, PySem.F.plainAttrs_tuple, slot, hty, ⟨ob, he, hc⟩, fun a e => ?_, ?_⟩
  · cases e
    exact ⟨ob, he, hd⟩
  · have hA := ha.run cpos pins s1 σ H1 _ I1 q1
    rw [hs] at hA ⊢
    refine Calls.callWith_builtin (by show (false || (backTo cpos (starEach [] X.env)).any (·.1)) = false; rw [hplain]; rfl) (Calls.evalArgs_plain (thn hA fun us s2 hu => ?_))
    obtain ⟨vs2, H2, I2, r2, q2⟩ := hu
    exact hm pins s2 σ H2 (.ref p) vs2 (.ref p) us Q I2 rfl r2 q2
def qTupIx (q : QE) (qa : QA) : QE := fun loc S P E => q loc S (fun d S1 => ∃ ys : List Int, d = .ptup (ys.map D.int) ∧ qa loc S1 (fun ds S2 => ∃ z j, ds = [.int z] ∧ ys[j]? = some z ∧ (∀ m, m < j → ys[m]? ≠ some z) ∧ P (.int (j : Nat)) S2) E) E
theorem de_tupIx {q : QE} {qa : QA} (ho : DE X o q) (ha : DA X [e] qa)
    (hbase : attributeBase o "index" X.env (eval o X.env) = eval o X.env := by rfl)
    (hfew : ((backTo cpos (starEach [e] X.env)).all (fun x => !x.1) && (backToKw cpos (keywordEach [] X.env)).all (fun x => x.1.isSome)
      && decide ([e].length + ([] : List Keyword).length + (if ([] : List Keyword).isEmpty then 0 else 1) < 30)) = true := by rfl)
    (hline : (apos.endLine == cpos.line) = true := by rfl) (hs : starEach [e] X.env = (false, eval e X.env) :: starEach [] X.env := by rfl) (hplain : (backTo cpos (starEach [] X.env)).any (·.1) = false := by rfl) :
    DE X (.Call (.Attribute o "index" apos) [e] [] cpos) (qTupIx q qa) := fun W tk => by
  refine PE.imp (pe_bmP PySem.F.slot_tuple_index PySem.F.type_tuple_index mt_tupI (ho W tk) (ha W tk) hbase hfew hline hs hplain) fun σ H Q h => ?_
  obtain ⟨loc, S, P, E, rl, rep, hq, g, gx⟩ := h
  refine ⟨loc, S, _, E, rl, rep, hq, fun d S1 v H1 q1 k1 rep1 r1 => ?_, gx⟩
  obtain ⟨ys, rfl, q1⟩ := q1
  unfold RV at r1
  obtain ⟨a, vs, rfl, pt, r2⟩ := r1
  rw [rvs_ints r2] at pt
  refine ⟨⟨a, _, rfl, pt⟩, loc, S1, _, E, rl.keep k1, rep1, q1, fun ds S2 ws H2 q2 k2 rep2 r3 => ?_, gx.keep k1⟩
  obtain ⟨z, j, rfl, h1, h2, hp⟩ := q2
  obtain ⟨w, rfl, rw1⟩ := rvs_one r3
  obtain ⟨ob, hf, _⟩ := pt
  exact ⟨a, ys, z, j, rfl, by rw [rv_int rw1], .inl (.inr ⟨ob, k2.frz _ _ _ hf⟩), h1, h2, g _ _ _ _ hp (k1.trans k2) rep2 rv_ofI⟩
end
end PL

namespace PL
open PySem PySem.Spec PyProof.Rows L2 -- the layers
section
variable {X : Cx} {W : WX}
/-! ## [elt for x in .. for y in ..] -/
abbrev noP : PX := fun _ _ => False
def qLc2 (it : QI) (g : QG) (tt : QT) (it1 : QI) (g1 : QG) (tt1 : QT) (te : QE) (own own1 : List Nat) : QE := fun loc S P E => it loc S (fun src S1 => ∀ p, S1 p = none → ∃ V : Nat → List D → Sto → Prop, V 0 [] (ups S1 p (.lst [])) ∧
  (∀ i d acc S, src.items[i]? = some d → V i acc S → src.ok S ∧ g d (wipeD loc own) S (fun loc2 S2 => tt loc2 S2 (fun b S3 => if b = true then
    it1 loc2 S3 (fun src1 S4 => ∃ V1 : Nat → List D → Sto → Prop, V1 0 acc S4 ∧
      (∀ j d acc S, src1.items[j]? = some d → V1 j acc S → src1.ok S ∧ g1 d (wipeD loc2 own1) S (fun loc5 S5 => tt1 loc5 S5 (fun b S6 => if b = true then
        te loc5 S6 (fun y S7 => S7 p = some (.lst acc) ∧ acc.length < sizeLine ∧ V1 (j + 1) (acc ++ [y]) (ups S7 p (.lst (acc ++ [y])))) noP else V1 (j + 1) acc S6) noP) noP) ∧
      ∀ acc S, V1 src1.items.length acc S → src1.ok S ∧ V (i + 1) acc S) noP
    else V (i + 1) acc S3) noP) noP) ∧
  ∀ acc S, V src.items.length acc S → src.ok S ∧ P (.ref p) S) E
theorem lc2_imp {it it1 : QI} {g g1 : QG} {tt tt1 : QT} {te : QE} {own own1 : List Nat} {σ : L2.St} {H : Hp} {Q : VK} (h : lift X.K W (qLc2 it g tt it1 g1 tt1 te own own1) σ H Q) :
    tLc2 (liftI X.K W it) (liftGo X.K own g) (liftT X.K (fun _ _ _ _ => False) tt) (liftI X.K (fun _ _ _ _ => False) it1) (liftGo X.K own1 g1) (liftT X.K (fun _ _ _ _ => False) tt1) (lift X.K (fun _ _ _ _ => False) te) own own1 σ H Q := by
  obtain ⟨loc, S, P, E, rl, rep, hq, go, gx⟩ := h
  refine ⟨loc, S, _, E, rl, rep, hq, fun src S1 H1 J q1 k1 rep1 rel p np => ?_, gx⟩
  obtain ⟨V, v0, turn, done⟩ := q1 p (rep1.free np)
  refine ⟨fun i m H' => m = src.items.length - i ∧ i ≤ src.items.length ∧ ∃ acc S', Keep X.K H1 H' ∧ Rep X.K S' H' ∧ V i acc S', ⟨src.items.length, by simp, Nat.zero_le _, [], _, Keep.new np, rep1.newL np (RVs.nil_iff.mpr rfl), v0⟩, ?_⟩
  rintro i m H2 ⟨rfl, hle, acc, S2, k2, rep2, v2⟩
  by_cases hlt : i < src.items.length
  · have hd : src.items[i]? = some src.items[i] := List.getElem?_eq_getElem hlt
    obtain ⟨ok, t⟩ := turn i _ acc S2 hd v2
    refine .inr ⟨rel.go i _ S2 H2 hd ok k2 rep2, fun H' => ∃ acc S', Keep X.K H1 H' ∧ Rep X.K S' H' ∧ V (i + 1) acc S', fun H' z => ⟨src.items.length - (i + 1), by omega, rfl, hlt, z⟩, fun x H3 y => ?_⟩
    obtain ⟨k3, rep3, rv3⟩ := rel.yld i _ S2 H2 x H3 hd ok k2 rep2 y
    refine ⟨src.items[i], wipeD loc own, S2, _, rv3, (rl.keep (k1.trans (k2.trans k3))).wipe own, rep3, t, fun loc4 S4 σ4 H4 q4 k4 rl4 rep4 hw => ?_⟩
    refine ⟨by rw [hw, wipe_wipe], loc4, S4, _, _, rl4, rep4, q4, fun b S5 H5 q5 k5 rep5 => ?_, noX⟩
    have kk : Keep X.K H1 H5 := k2.trans (k3.trans (k4.trans k5))
    cases b with
    | false =>
      refine iteF ?_
      exact ⟨acc, S5, kk, rep5, q5⟩
    | true =>
      refine iteT ?_
      have rl5 := rl4.keep k5
      refine ⟨loc4, S5, _, _, rl5, rep5, q5, fun src1 S6 H6 J1 q6 k6 rep6 rel1 => ?_, noX⟩
      obtain ⟨V1, w0, turn1, done1⟩ := q6
      refine ⟨fun j n H' => n = src1.items.length - j ∧ j ≤ src1.items.length ∧ ∃ acc S', Keep X.K H6 H' ∧ Rep X.K S' H' ∧ V1 j acc S', ⟨src1.items.length, by simp, Nat.zero_le _, acc, _, Keep.refl, rep6, w0⟩, ?_⟩
      rintro j n H7 ⟨rfl, hle1, acc1, S7, k7, rep7, v7⟩
      by_cases hlt1 : j < src1.items.length
      · have hd1 : src1.items[j]? = some src1.items[j] := List.getElem?_eq_getElem hlt1
        obtain ⟨ok1, t1⟩ := turn1 j _ acc1 S7 hd1 v7
        refine .inr ⟨rel1.go j _ S7 H7 hd1 ok1 k7 rep7, fun H' => ∃ acc S', Keep X.K H6 H' ∧ Rep X.K S' H' ∧ V1 (j + 1) acc S', fun H' z => ⟨src1.items.length - (j + 1), by omega, rfl, hlt1, z⟩, fun x1 H8 y1 => ?_⟩
        obtain ⟨k8, rep8, rv8⟩ := rel1.yld j _ S7 H7 x1 H8 hd1 ok1 k7 rep7 y1
        refine ⟨src1.items[j], wipeD loc4 own1, S7, _, rv8, (rl5.keep (k6.trans (k7.trans k8))).wipe own1, rep8, t1, fun loc9 S9 σ9 H9 q9 k9 rl9 rep9 hw9 => ?_⟩
        refine ⟨by rw [hw9, wipe_wipe], loc9, S9, _, _, rl9, rep9, q9, fun b1 S10 H10 q10 k10 rep10 => ?_, noX⟩
        cases b1 with
        | true =>
          refine iteT ⟨loc9, S10, _, _, rl9.keep k10, rep10, q10, fun yd S11 yv H11 q11 k11 rep11 ry => ?_, noX⟩
          obtain ⟨e11, hz, v11⟩ := q11
          obtain ⟨us, f11, ru⟩ := rep11 _ _ e11
          refine ⟨us, f11, by rw [← ru.length]; exact hz, acc1 ++ [yd], _, ?_, rep11.setL f11 (ru.append (RVs.one ry)), v11⟩
          exact k7.trans (k8.trans (k9.trans (k10.trans (k11.trans (keepL f11)))))
        | false =>
          refine iteF ?_
          exact ⟨acc1, S10, k7.trans (k8.trans (k9.trans k10)), rep10, q10⟩
      · have e : j = src1.items.length := by omega
        subst e
        obtain ⟨ok1, n1⟩ := done1 acc1 S7 v7
        exact .inl ⟨rel1.stop _ S7 H7 rfl ok1 k7 rep7, acc1, S7, kk.trans (k6.trans k7), rep7, n1⟩
  · have e : i = src.items.length := by omega
    subst e
    obtain ⟨ok, n⟩ := done acc S2 v2
    exact .inl ⟨rel.stop _ S2 H2 rfl ok k2 rep2, go _ _ _ _ n (k1.trans k2) rep2 rv_ofR⟩
theorem de_lc2 {elt tg iter tg1 iter1 : Expr} {ifs ifs1 : List Expr} {scope : Scope} {own : List (Str × Nat)} {own1 : List Nat} {pos : Pos} {it it1 : QI} {g g1 : QG} {tt tt1 : QT} {te : QE} (hc : X.calm = true) (hN : X.N.Nodup) (hi : DI X tg iter it) (ok : BlkOk X.N X.env.scope scope own) (hv : ∀ i ∈ own1, i ∈ own.map (·.2))
    (hg : ∀ (s : Shared) (H : Hp) (C : Addr) (cl : List (Str × Addr)) (fp : List Addr), DGo (X.blk s H scope (compEnvC scope cl C X.env) fp) tg (own.map (·.2)) g) (ht : ∀ (s : Shared) (H : Hp) (C : Addr) (cl : List (Str × Addr)) (fp : List Addr), DTs (X.blk s H scope (compEnvC scope cl C X.env) fp) ifs tt)
    (hi1 : ∀ (s : Shared) (H : Hp) (C : Addr) (cl : List (Str × Addr)) (fp : List Addr), DI (X.blk s H scope (compEnvC scope cl C X.env) fp) tg1 iter1 it1)
    (hg1 : ∀ (s : Shared) (H : Hp) (C : Addr) (cl : List (Str × Addr)) (fp : List Addr), DGo (X.blk s H scope (compEnvC scope cl C X.env) fp) tg1 own1 g1) (ht1 : ∀ (s : Shared) (H : Hp) (C : Addr) (cl : List (Str × Addr)) (fp : List Addr), DTs (X.blk s H scope (compEnvC scope cl C X.env) fp) ifs1 tt1)
    (he : ∀ (s : Shared) (H : Hp) (C : Addr) (cl : List (Str × Addr)) (fp : List Addr), DE (X.blk s H scope (compEnvC scope cl C X.env) fp) elt te) (hs : ∀ x, foldedSetIterable iter X.env x = pure x := by intro _; rfl) (hs1 : ∀ env x, foldedSetIterable iter1 env x = pure x := by intro _ _; rfl) :
    DE X (.ListComp elt [⟨tg, iter, ifs, 0⟩, ⟨tg1, iter1, ifs1, 0⟩] scope pos) (qLc2 it g tt it1 g1 tt1 te (own.map (·.2)) own1) := fun W tk =>
  PE.imp (pe_lc2 (vs1 := own1) (g := liftGo X.K (own.map fun (x : Str × Nat) => x.2) g) (tt := liftT X.K (fun _ _ _ _ => False) tt) (wi1 := liftI X.K (fun _ _ _ _ => False) it1) (g1 := liftGo X.K own1 g1) (tt1 := liftT X.K (fun _ _ _ _ => False) tt1) (te := lift X.K (fun _ _ _ _ => False) te) hc hN (hi W tk) ok hv hg (fun s H C cl fp => ht s H C cl fp _ takes0)
    (fun s H C cl fp => hi1 s H C cl fp _ takes0) hg1 (fun s H C cl fp => ht1 s H C cl fp _ takes0) (fun s H C cl fp => he s H C cl fp _ takes0) hs hs1) fun σ H Q h => lc2_imp h
/-! ## a global tuple; few times a tuple -/
theorem de_globT {x : Str} {a : Addr} {ds : List D} {vs : List V} {pos : Pos} (hg : Gl X x) (hm : X.mg x = some (.ref a)) (hs : ∀ H, SqT X.K H a vs) (hr : ∀ H, RVs X.K H ds vs) (hd : (x == ("__debug__" : Str)) = false := by decide) : DE X (.Name x pos) (qC (.tup ds)) :=
  de_const (pe_glob (v := .ref a) hg hm rfl hd) fun H => by
    unfold RV
    exact ⟨a, vs, rfl, hs H, hr H⟩
end
end PL

namespace PL
open PySem PySem.Spec PyProof.Rows L2 -- the layers
/-! ## once, no times a tuple -/
theorem tuple_mul1 (l : Addr) (items : Array Value) (n : Nat) (dd : Option Addr) (sl : Array (Option Value)) (u : Tok) :
    Meets (Builtin.«tuple.__mul__» ⟨[.ref l, .int 1 u], []⟩) (fun _ R s => s.heap.get? l = some { cls := .type "tuple", dict := dd, data := .seq items n, slots := sl } ∧ R (.ok (.ret (Value.ref l))) s) :=
  .of_wp fun prog w A R s h => by
    obtain ⟨hp, g, d, tk, os⟩ := s
    obtain ⟨hl, h⟩ := h
    have f1 := AutoSeq1.idx_int
    have c1 : (items.isEmpty || (1 : Int) == 1) = true := by simp
    wp_walk using wpAny_loadPart' hl
    exact ⟨_, rfl, h⟩
theorem tuple_mul0 (l : Addr) (items : Array Value) (n : Nat) (dd : Option Addr) (sl : Array (Option Value)) (u : Tok) (c1 : (items.isEmpty || (0 : Int) == 1) = false) :
    Meets (Builtin.«tuple.__mul__» ⟨[.ref l, .int 0 u], []⟩) (fun _ R s => s.heap.get? l = some { cls := .type "tuple", dict := dd, data := .seq items n, slots := sl } ∧ R (.ok (.ret (Value.ref s.heap.objs.size))) { s with heap := s.heap.push { cls := Value.type "tuple", data := Data.seq #[] }, toks := s.toks }) :=
  .of_wp fun prog w A R s h => by
    obtain ⟨hp, g, d, tk, os⟩ := s
    obtain ⟨hl, h⟩ := h
    have f1 := AutoSeq1.idx_int
    wp_walk using wpAny_loadPart' hl
    refine wpAny_ite_false (decide_eq_false (by rw [c1]; exact Bool.false_ne_true)) ?_
    wp_walk using wpAny_loadPart' hl
    exact ⟨_, rfl, h⟩
section
variable {X : Cx}
def rMul01 (K : PySem.W.Frag) : R2 := fun x y H Q => ∃ l k xs, x = .ref l ∧ y = .int k ∧ SqT K H l xs ∧ xs ≠ [] ∧ ((k = 1 ∧ Q (.ref l) H) ∨ (k = 0 ∧ ∀ p, H p = none → Q (.ref p) (upd H p (.tup []))))
theorem op_mul01 : OpR X (binaryOp .Mult) (rMul01 X.K) := by
  intro pins s σ H x y v u Q I rx ry h
  obtain ⟨l, k, xs, rfl, rfl, hT, hne, q⟩ := h
  cases rx
  obtain ⟨t, rfl⟩ := ry
  obtain ⟨its, r, ⟨⟨cls, dd, data, sl⟩, ho, hc, n, hd⟩, hs⟩ := I.tuple hT
  simp only at hc hd
  subst hc hd
  have hle : its.length = xs.length := r.length.symm
  have hn : its ≠ [] := fun e => hne (by
    rw [e] at hle
    exact List.eq_nil_of_length_eq_zero hle.symm)
  have hi : its.toArray.isEmpty = false := by
    cases its with
    | nil => exact absurd rfl hn
    | cons a b => rfl
  rcases q with ⟨rfl, q⟩ | ⟨rfl, q⟩
  · refine wpAny_binaryOp_repeat_ref (T := "tuple") (U := "int") (by decide) ⟨_, ho, rfl⟩ (fun s' => typeIs_int s' 1 t) noFill_tuple_mul F.fills_int_mul F.slot_int_rmul repeat_tuple F.slot_int_index.lookup
      (call_meets F.slot_int_rmul (typeIs_int s 1 t) F.entry_int_rmul (F.args_int_rmul_2 _ _) (int_rmul_tuple 1 t l its.toArray n dd sl)
        ⟨ho, rfl, ⟨_, ho, rfl⟩, call_meets F.slot_tuple_mul ⟨_, ho, rfl⟩ F.entry_tuple_mul (F.args_tuple_mul_2 _ _) (tuple_mul1 l its.toArray n dd sl t) ⟨ho, ?_⟩⟩)
    exact ⟨.ref l, H, I, rfl, q⟩
  · refine wpAny_binaryOp_repeat_ref (T := "tuple") (U := "int") (by decide) ⟨_, ho, rfl⟩ (fun s' => typeIs_int s' 0 t) noFill_tuple_mul F.fills_int_mul F.slot_int_rmul repeat_tuple F.slot_int_index.lookup
      (call_meets F.slot_int_rmul (typeIs_int s 0 t) F.entry_int_rmul (F.args_int_rmul_2 _ _) (int_rmul_tuple 0 t l its.toArray n dd sl)
        ⟨ho, rfl, ⟨_, ho, rfl⟩, call_meets F.slot_tuple_mul ⟨_, ho, rfl⟩ F.entry_tuple_mul (F.args_tuple_mul_2 _ _) (tuple_mul0 l its.toArray n dd sl t (by rw [hi]; rfl)) ⟨ho, ?_⟩⟩)
    refine ⟨.ref s.heap.objs.size, _, I.laid (t' := s.toks) (o := .tup []) (fun b ob q => Heap.get?_push_of_some _ q) (Nat.le_refl _) ?_, rfl, q _ (I.hok.fresh (Nat.le_refl _))⟩
    exact ⟨by decide, [], .nil, IsTup.new _ _⟩
def oMul01 : QO := fun x y S P => ∃ ds k, x = .tup ds ∧ y = .int k ∧ ds ≠ [] ∧ ((k = 1 ∧ P (.tup ds) S) ∨ (k = 0 ∧ P (.tup []) S))
theorem od_mul01 : ODok X (binaryOp .Mult) oMul01 := ⟨_, op_mul01, fun x y S P H vx vy Q q rep rx ry go => by
  obtain ⟨ds, k, rfl, rfl, h0, q⟩ := q
  obtain ⟨a, vs, e, s, r⟩ := rv_tup rx
  refine ⟨a, k, vs, e, rv_int ry, s, fun z => h0 ?_, ?_⟩
  · have := r.length
    rw [z] at this
    exact List.eq_nil_of_length_eq_zero this
  · rcases q with ⟨rfl, p⟩ | ⟨rfl, p⟩
    · refine .inl ⟨rfl, go.now p rep ?_⟩
      unfold RV
      exact ⟨a, vs, rfl, s, r⟩
    · exact .inr ⟨rfl, fun l n => go _ _ _ _ p (Keep.new n) (rep.same (same_new n)) (rv_newT n (RVs.nil_iff.mpr rfl))⟩⟩
def oMulY : QO := fun x y S P => oMulX x y S P ∨ oMul01 x y S P
theorem od_mulY : ODok X (binaryOp .Mult) oMulY := od_mulX.or od_mul01
theorem oMulY_ii {i j : Int} {S : Sto} {P : PD} (h : oMul (.int i) (.int j) S P) : oMulY (.int i) (.int j) S P := .inl (.inl (.inl h))
end
end PL

namespace K35
open PySem PySem.Spec PyProof.Rows L2 PL
/-! ## tables, wishes -/
abbrev Tb := List (List Int)
def rD (r : List Int) : D := .tup (r.map D.int)
def tD (t : Tb) : D := .tup (t.map rD)
def c (t : Tb) (i j : Nat) : Int := (t.getD i []).getD j 0
structure Sq (t : Tb) (m : Nat) : Prop where
  pos : 1 ≤ m
  le : m ≤ 12
  len : t.length = m
  row : ∀ r ∈ t, r.length = m
  rng : ∀ r ∈ t, ∀ x ∈ r, -1 ≤ x ∧ x < (m : Int)
def Full (t : Tb) : Prop := ∀ r ∈ t, ∀ x ∈ r, 0 ≤ x
def Sz (t : Tb) : Prop := t.length ≤ 100 ∧ ∀ r ∈ t, r.length ≤ 100
def four : List Str := ["latin", "zero", "commuting", "turning"]
noncomputable def dB (p : Prop) : Bool := @decide p (Classical.propDecidable p)
theorem dB_of {p : Prop} {b : Bool} (h : b = true ↔ p) : b = dB p := by
  unfold dB
  by_cases hp : p
  · rw [h.mpr hp]
    exact (@decide_eq_true p (Classical.propDecidable p) hp).symm
  · have : b = false := by
      cases b
      · rfl
      · exact absurd (h.mp rfl) hp
    rw [this]
    exact (@decide_eq_false p (Classical.propDecidable p) hp).symm
theorem dB_iff {p : Prop} : dB p = true ↔ p := by
  unfold dB
  exact @decide_eq_true_iff p (Classical.propDecidable p)
theorem dB_congr {p q : Prop} (h : p ↔ q) : dB p = dB q := dB_of (dB_iff.trans h)
def WOk (ws : List Str) : Prop := ws.Nodup ∧ ∀ w ∈ ws, w ∈ four
def kn (r : List Int) : List Int := r.filter fun x => !decide (x = -1)
def row (t : Tb) (m i : Nat) : List Int := (List.range m).map fun j => c t i j
def col (t : Tb) (m j : Nat) : List Int := (List.range m).map fun i => c t i j
def BLat (t : Tb) (m : Nat) : Prop := (∃ i, i < m ∧ ¬ (kn (row t m i)).Nodup) ∨ ∃ i, i < m ∧ ¬ (kn (col t m i)).Nodup
def BZero (t : Tb) (m : Nat) : Prop := ∃ k, k < m ∧ 0 < c t k k
def BCom (t : Tb) (m : Nat) : Prop := ∃ a b, b < a ∧ a < m ∧ c t a b ≠ -1 ∧ c t a b = c t b a
def bh (t : Tb) (s a b : Nat) : Int := if c t s a = -1 then -1 else c t (c t s a).toNat b
def Tn (t : Tb) (s a b : Nat) : Prop := bh t s a b ≠ -1 ∧ bh t s a b = bh t s b a
def IsFirst (t : Tb) (m : Nat) : Option (Nat × Nat × Nat) → Prop
  | none => ∀ s a b, s < m → a < b → b < m → ¬ Tn t s a b
  | some (s, a, b) => s < m ∧ a < b ∧ b < m ∧ Tn t s a b ∧ ∀ s' a' b', s' < m → a' < b' → b' < m → (s' < s ∨ (s' = s ∧ (a' < a ∨ (a' = a ∧ b' < b)))) → ¬ Tn t s' a' b'
def fD : Option (Nat × Nat × Nat) → D
  | none => .non
  | some (s, a, b) => .tup [.int s, .int a, .int b]
def BTurn (t : Tb) (m : Nat) : Prop := ∃ s a b, s < m ∧ a < b ∧ b < m ∧ Tn t s a b
def B (t : Tb) (m : Nat) (w : Str) : Prop := if w = "latin" then BLat t m else if w = "zero" then BZero t m else if w = "commuting" then BCom t m else BTurn t m
def Le (t' t : Tb) (m : Nat) : Prop := ∀ i j, i < m → j < m → c t' i j = -1 ∨ c t' i j = c t i j
/-! ## promises -/
def sp_check_partial (ad : Ad) : QF := fun ds S P E => ∃ t, ds = [tD t] ∧ Sz t ∧ (∀ m, Sq t m → P .non S) ∧ ((∀ m, ¬ Sq t m) → E { cls := ad.NotAllowed } S)
def sp_check_table (ad : Ad) : QF := fun ds S P E => ∃ t, ds = [tD t] ∧ Sz t ∧ (∀ m, Sq t m → Full t → P .non S) ∧ ((∀ m, ¬ (Sq t m ∧ Full t)) → E { cls := ad.NotAllowed } S)
def sp_check_wishes (ad : Ad) : QF := fun ds S P E => ∃ ws : List Str, ds = [.tup (ws.map D.str)] ∧ ws.length ≤ 100 ∧ (WOk ws → P .non S) ∧ (¬ WOk ws → E { cls := ad.NotAllowed } S)
def sp_repeats (ad : Ad) : QF := fun ds S P E => ∃ (d : D) (xs : List Int), ds = [d] ∧ ((∃ a, d = .ref a ∧ S a = some (.lst (xs.map D.int))) ∨ d = .tup (xs.map D.int)) ∧ xs.length ≤ 100 ∧ P (.bl (dB (¬ (kn xs).Nodup))) S
def sp_breaks_latin (ad : Ad) : QF := fun ds S P E => ∃ t m, ds = [tD t] ∧ Sq t m ∧ P (.bl (dB (BLat t m))) S
def sp_breaks_zero (ad : Ad) : QF := fun ds S P E => ∃ t m, ds = [tD t] ∧ Sq t m ∧ P (.bl (dB (BZero t m))) S
def sp_breaks_commuting (ad : Ad) : QF := fun ds S P E => ∃ t m, ds = [tD t] ∧ Sq t m ∧ P (.bl (dB (BCom t m))) S
def sp_behind (ad : Ad) : QF := fun ds S P E => ∃ (t : Tb) (m s a b : Nat), ds = [tD t, .int s, .int a, .int b] ∧ Sq t m ∧ s < m ∧ a < m ∧ b < m ∧ P (.int (bh t s a b)) S
def sp_turned_pair (ad : Ad) : QF := fun ds S P E => ∃ t m, ds = [tD t] ∧ Sq t m ∧ ∀ r, IsFirst t m r → P (fD r) S
def sp__law_turn (ad : Ad) : QF := sp_turned_pair ad
def sp_is_broken (ad : Ad) : QF := fun ds S P E => ∃ t m w, ds = [tD t, .str w] ∧ Sq t m ∧ w ∈ four ∧ P (.bl (dB (B t m w))) S
def sp__law_breaks (ad : Ad) : QF := sp_is_broken ad
def sp_keeps (ad : Ad) : QF := fun ds S P E => ∃ (t : Tb) (ws : List Str), ds = [tD t, .tup (ws.map D.str)] ∧ Sz t ∧ ws.length ≤ 100 ∧ (∀ m, Sq t m → Full t → WOk ws → P (.bl (!dB (∃ w, w ∈ ws ∧ B t m w))) S) ∧ (((∀ m, ¬ (Sq t m ∧ Full t)) ∨ ¬ WOk ws) → E { cls := ad.NotAllowed } S)
def sp_first_turned (ad : Ad) : QF := fun ds S P E => ∃ t, ds = [tD t] ∧ Sz t ∧ (∀ m, Sq t m → Full t → (∀ x, IsFirst t m (some x) → P (fD (some x)) S) ∧ (IsFirst t m none → E { cls := ad.Missing } S)) ∧ ((∀ m, ¬ (Sq t m ∧ Full t)) → E { cls := ad.NotAllowed } S)
def sp__law_same (ad : Ad) : QF := fun ds S P E => ∃ a b p, ds = [a, b] ∧ Dat S a p ∧ Dat S b p ∧ good (.list [p]) ∧ P (.bl true) S
/-- the stream's numbers -/
structure Nums (xs : List Int) : Prop where
  ne : xs ≠ []
  len : xs.length ≤ 4000
  rng : ∀ x ∈ xs, 0 ≤ x ∧ x < 1009
/-- the law's state -/
structure Strm (S : Sto) (s n : Addr) (xs : List Int) (k : Int) : Prop where
  st : S s = some (.lst [.ref n, .int k])
  nm : S n = some (.lst (xs.map D.int))
  ne : s ≠ n
  ok : Nums xs
  k0 : 0 ≤ k
def stepS (S : Sto) (s n : Addr) (k : Int) : Sto := ups S s (.lst [.ref n, .int k])
def sp__law_stream (ad : Ad) : QF := fun ds S P E => ∃ ns : List Int, ds = [.rol (ns.map D.int)] ∧ ns.length ≤ 63 ∧ ∀ (n : Addr) (xs : List Int) (S' : Sto), S n = none → Sub S S' → (∀ b o, S' b = some o → b = n ∨ S b = some o ∨ ∃ ds, o = .lst ds) → S' n = some (.lst (xs.map D.int)) → Nums xs → P (.ref n) S'
def sp__law_next (ad : Ad) : QF := fun ds S P E => ∃ s n xs k many, ds = [.ref s, .int many] ∧ Strm S s n xs k ∧ 0 < many ∧ k < 1000000000 ∧ ∀ r : Int, 0 ≤ r → r < many → P (.int r) (stepS S s n (k + 1))
def sp__law_great (ad : Ad) : QF := fun ds S P E => ∃ s n xs k many, ds = [.ref s, .int many] ∧ Strm S s n xs k ∧ 0 < many ∧ k < 900000000 ∧ ∀ r : Int, 0 ≤ r → r < many → P (.int r) (stepS S s n (k + 2))
def sp__law_wishes (ad : Ad) : QF := fun ds S P E => ∃ s n xs k, ds = [.ref s] ∧ Strm S s n xs k ∧ k < 500000000 ∧ ∀ (ws : List Str) (j : Int), WOk ws → ws.length ≤ 4 → k ≤ j → j ≤ k + 10 → P (.tup (ws.map D.str)) (stepS S s n j)
def sp__law_ring (ad : Ad) : QF := fun ds S P E => ∃ (m : Nat) (a b : Int), ds = [.int m, .int a, .int b] ∧ 1 ≤ m ∧ m ≤ 12 ∧ (0 ≤ a ∧ a ≤ 12) ∧ (0 ≤ b ∧ b ≤ 12) ∧ ∀ t, Sq t m → Full t → P (tD t) S
def sp__law_order (ad : Ad) : QF := fun ds S P E => ∃ s n xs k, ∃ m : Nat, ds = [.ref s, .int m] ∧ Strm S s n xs k ∧ k < 500000000 ∧ 1 ≤ m ∧ m ≤ 12 ∧ ∀ (o : List Nat) (j : Int), o.Perm (List.range m) → k ≤ j → j ≤ k + 20 → P (.ptup (o.map fun (i : Nat) => D.int i)) (stepS S s n j)
def sp__law_renamed (ad : Ad) : QF := fun ds S P E => ∃ (t : Tb) (m : Nat) (o : List Nat), ds = [tD t, .ptup (o.map fun (i : Nat) => D.int i)] ∧ Sq t m ∧ Full t ∧ o.Perm (List.range m) ∧ ∀ t', Sq t' m → Full t' → P (tD t') S
def sp__law_table (ad : Ad) : QF := fun ds S P E => ∃ s n xs k, ∃ m : Nat, ds = [.ref s, .int m] ∧ Strm S s n xs k ∧ k < 400000000 ∧ 1 ≤ m ∧ m ≤ 12 ∧ ∀ (t : Tb) (m' : Nat) (j : Int), Sq t m' → Full t → k ≤ j → j ≤ k + 100 → P (tD t) (stepS S s n j)
def sp__law_holes (ad : Ad) : QF := fun ds S P E => ∃ s n xs k, ∃ (t : Tb) (m h : Nat), ds = [.ref s, tD t, .int h] ∧ Strm S s n xs k ∧ k < 400000000 ∧ Sq t m ∧ h ≤ 200 ∧ ∀ (t' : Tb) (j : Int), Sq t' m → Le t' t m → (1 ≤ h → ¬ Full t') → k ≤ j → j ≤ k + 400 → P (tD t') (stepS S s n j)
def sp__law_wrong_table (ad : Ad) : QF := fun ds S P E => ∃ s n xs k, ∃ (t : Tb) (m : Nat), ds = [.ref s, tD t] ∧ Strm S s n xs k ∧ k < 400000000 ∧ Sq t m ∧ Full t ∧ ∀ (t' : Tb) (j : Int), Sz t' → (∀ m', ¬ Sq t' m') → k ≤ j → j ≤ k + 3 → P (tD t') (stepS S s n j)
def sp_law (ad : Ad) : QF := fun ds S P E => ∃ ns : List Int, ds = [.rol (ns.map D.int)] ∧ ns.length ≤ 63 ∧ (∀ S', P (.bl true) S')
end K35

/-! printed by gen.py -/
namespace K35
open PySem PySem.Spec PyProof.Rows L2 PL
def topS (i : Nat) : Stmt := PySem.Challenge.pw_slipward_k35_wishes_of_tables.main.body.getD i (.Pass ⟨0, 0, 0, 0⟩)
/-- what the top has written -/
structure Txt (K : PySem.W.Frag) (mg : Str → Option Value) (ad : Ad) : Prop where
  n_abs : mg "abs" = none
  n_all : mg "all" = none
  n_any : mg "any" = none
  n_int : mg "int" = none
  n_isinstance : mg "isinstance" = none
  n_len : mg "len" = none
  n_list : mg "list" = none
  n_range : mg "range" = none
  n_repr : mg "repr" = none
  n_set : mg "set" = none
  n_tuple : mg "tuple" = none
  c_MAX_ORDER : ∃ t, mg "MAX_ORDER" = some (.int 12 t)
  c_NONE : ∃ t, mg "NONE" = some (.int (-1) t)
  t_WISHES : ∃ (a : Addr) (vs : List V), mg "WISHES" = some (.ref a) ∧ (∀ H, SqT K H a vs) ∧ ∀ H, RVs K H [.str "latin", .str "zero", .str "commuting", .str "turning"] vs
  g_BadForm : mg "BadForm" = some (.ref ad.BadForm)
  g_BadPaper : mg "BadPaper" = some (.ref ad.BadPaper)
  g_Broken : mg "Broken" = some (.ref ad.Broken)
  g_Missing : mg "Missing" = some (.ref ad.Missing)
  g_NotAllowed : mg "NotAllowed" = some (.ref ad.NotAllowed)
  g_SlipError : mg "SlipError" = some (.ref ad.SlipError)
  g_TooLarge : mg "TooLarge" = some (.ref ad.TooLarge)
  x_Missing : ExcT K mg "Missing" ad.Missing
  x_NotAllowed : ExcT K mg "NotAllowed" ad.NotAllowed
  exm : ∀ C ∈ ad.six, PySem.W.exmOne K (.ref C) (.ref ad.SlipError) = some true
  exc : ∀ C ∈ ad.six, ExcC K C
  kit : ∀ C ∈ ad.six, ∀ c ∈ ad.six, PySem.W.kitOne K (.ref C) (.ref c) = some (decide (C = c))
section
variable {P : Program} {w : World} {K : PySem.W.Frag} {mg : Str → Option Value} {base : Heap} {ad : Ad}
/-! ## check_partial -/
abbrev s_check_partial : Stmt := topS 12
abbrev N_check_partial : List Str := ["partial", "many", "row", "one"]
theorem sc_check_partial : FnScope N_check_partial ["partial"] (defScope s_check_partial) := ⟨rfl, rfl, rfl, by decide +kernel, rfl, by decide +kernel, by decide +kernel⟩
def r_check_partial (ad : Ad) : QS := (sSeq (sSet 1 (qCB cLen (qCons (qVar 0) qNil)))
    (sSeq (sIf (qOrT (qNotT (qTB (qChain oLe oLe (qC (.int 1)) (qVar 1) (qC (.int 12))))) (qNotT (qTru (qCB (cBools fun bs => bs.all id) (qCons (qLc (iSeq (qVar 0)) (gN 2) qYes (qBin oEq (qCB cLen (qCons (qVar 2) qNil)) (qVar 1)) [2]) qNil))))) (sRaise ad.NotAllowed) sNext)
    (sIf (qNotT (qTru (qCB (cBools fun bs => bs.all id) (qCons (qLc2 (iSeq (qVar 0)) (gN 2) qYes (iSeq (qVar 2)) (gN 3) qYes (qChain oLe oLt (qC (.int (-1))) (qVar 3) (qVar 1)) [2, 3] [3]) qNil)))) (sRaise ad.NotAllowed) sNext)))
theorem d_check_partial (T : Txt K mg ad) (f : Addr) (cdv : Value) (A : Around) (outer : List Env) (s : Shared) (H : Hp) (E : XK) (hr : Room 0 (A.deeper (envOfC "check_partial" (defScope s_check_partial) s.heap.objs.size f cdv))) :
    DB (cxOf (L2N.CX P w) P w K mg base N_check_partial "check_partial" (defScope s_check_partial) f cdv A outer s H E) (defBody s_check_partial) (r_check_partial ad) := by
  have hu := hr.units
  have hu5 := u65 hr
  have hp : PassesOwn (model P w) (A.deeper (envOfC "check_partial" (defScope s_check_partial) s.heap.objs.size f cdv)) (envOfC "check_partial" (defScope s_check_partial) s.heap.objs.size f cdv) (cxOf (L2N.CX P w) P w K mg base N_check_partial "check_partial" (defScope s_check_partial) f cdv A outer s H E).xe := passes_of (X := cxOf (L2N.CX P w) P w K mg base N_check_partial "check_partial" (defScope s_check_partial) f cdv A outer s H E) rfl
  exact (db_cons (ds_set (i := 1) sc_check_partial.nd rfl (by first | exact Or.inl rfl | exact Or.inr rfl) (de_callB cd_len rfl T.n_len bb_len (da_cons (de_var 0) da_nil)))
    (db_cons (ds_if (dw_pt (dw_or (dt_not (dt_chain od_le od_le de_int (de_var 1) (de_globI rfl T.c_MAX_ORDER.choose_spec))) (dw_or1 (dt_not (dt_truth (de_callB (cd_all rfl) rfl T.n_all bb_all (da_cons (de_lc (own := [("row", 2)]) rfl sc_check_partial.nd (di_seq (de_var 0)) (blkOk_by (own := [("row", 2)]) (N := N_check_partial) (sc := defScope s_check_partial) (by decide +kernel)) (fun _ _ _ _ _ => (dgo_name (i := 2) sc_check_partial.nd rfl (by decide) (by first | exact Or.inl rfl | exact Or.inr rfl))) (fun _ _ _ _ _ => dts_nil) (fun _ _ _ _ _ => (de_cmp (od_eq hu) (de_callB cd_len rfl T.n_len bb_len (da_cons (de_var 2) da_nil)) (de_var 1) (nomark _)))) da_nil))))))) (db_one (ds_raise rfl T.x_NotAllowed rfl)) db_nil)
    (db_one (ds_if (dt_not (dt_truth (de_callB (cd_all rfl) rfl T.n_all bb_all (da_cons (de_lc2 (own := [("row", 2), ("one", 3)]) (own1 := [3]) rfl sc_check_partial.nd (di_seq (de_var 0)) (blkOk_by (own := [("row", 2), ("one", 3)]) (N := N_check_partial) (sc := defScope s_check_partial) (by decide +kernel)) (by decide) (fun _ _ _ _ _ => (dgo_name (i := 2) sc_check_partial.nd rfl (by decide) (by first | exact Or.inl rfl | exact Or.inr rfl))) (fun _ _ _ _ _ => dts_nil) (fun _ _ _ _ _ => (di_seq (de_var 2))) (fun _ _ _ _ _ => (dgo_name (i := 3) sc_check_partial.nd rfl (by decide) (by first | exact Or.inl rfl | exact Or.inr rfl))) (fun _ _ _ _ _ => dts_nil) (fun _ _ _ _ _ => (de_chain od_le od_lt (de_globI rfl T.c_NONE.choose_spec) (de_var 3) (de_var 1)))) da_nil)))) (db_one (ds_raise rfl T.x_NotAllowed rfl)) db_nil))))
/-! ## check_table -/
abbrev s_check_table : Stmt := topS 13
abbrev N_check_table : List Str := ["table", "row", "one"]
theorem sc_check_table : FnScope N_check_table ["table"] (defScope s_check_table) := ⟨rfl, rfl, rfl, by decide +kernel, rfl, by decide +kernel, by decide +kernel⟩
def r_check_table (ad : Ad) : QS := (sSeq (sDrop (qCall (sp_check_partial ad) (qCons (qVar 0) qNil)))
    (sIf (qTru (qCB (cBools fun bs => bs.any id) (qCons (qLc2 (iSeq (qVar 0)) (gN 1) qYes (iSeq (qVar 1)) (gN 2) qYes (qBin oEq (qVar 2) (qC (.int (-1)))) [1, 2] [2]) qNil))) (sRaise ad.NotAllowed) sNext))
theorem d_check_table (T : Txt K mg ad) (G_check_partial : GF P w K mg base "check_partial" ["partial"] 1 (sp_check_partial ad)) (f : Addr) (cdv : Value) (A : Around) (outer : List Env) (s : Shared) (H : Hp) (E : XK) (hr : Room 1 (A.deeper (envOfC "check_table" (defScope s_check_table) s.heap.objs.size f cdv))) :
    DB (cxOf (L2N.CX P w) P w K mg base N_check_table "check_table" (defScope s_check_table) f cdv A outer s H E) (defBody s_check_table) (r_check_table ad) := by
  have hu := hr.units
  have hu5 := u65 hr
  have hp : PassesOwn (model P w) (A.deeper (envOfC "check_table" (defScope s_check_table) s.heap.objs.size f cdv)) (envOfC "check_table" (defScope s_check_table) s.heap.objs.size f cdv) (cxOf (L2N.CX P w) P w K mg base N_check_table "check_table" (defScope s_check_table) f cdv A outer s H E).xe := passes_of (X := cxOf (L2N.CX P w) P w K mg base N_check_table "check_table" (defScope s_check_table) f cdv A outer s H E) rfl
  exact (db_cons (ds_expr (de_callF G_check_partial (hr.mono (by decide)) rfl (da_cons (de_var 0) da_nil)))
    (db_one (ds_if (dt_truth (de_callB (cd_any rfl) rfl T.n_any bb_any (da_cons (de_lc2 (own := [("row", 1), ("one", 2)]) (own1 := [2]) rfl sc_check_table.nd (di_seq (de_var 0)) (blkOk_by (own := [("row", 1), ("one", 2)]) (N := N_check_table) (sc := defScope s_check_table) (by decide +kernel)) (by decide) (fun _ _ _ _ _ => (dgo_name (i := 1) sc_check_table.nd rfl (by decide) (by first | exact Or.inl rfl | exact Or.inr rfl))) (fun _ _ _ _ _ => dts_nil) (fun _ _ _ _ _ => (di_seq (de_var 1))) (fun _ _ _ _ _ => (dgo_name (i := 2) sc_check_table.nd rfl (by decide) (by first | exact Or.inl rfl | exact Or.inr rfl))) (fun _ _ _ _ _ => dts_nil) (fun _ _ _ _ _ => (de_cmp (od_eq hu) (de_var 2) (de_globI rfl T.c_NONE.choose_spec) (nomark _)))) da_nil))) (db_one (ds_raise rfl T.x_NotAllowed rfl)) db_nil)))
/-! ## check_wishes -/
abbrev s_check_wishes : Stmt := topS 14
abbrev N_check_wishes : List Str := ["wishes", "wish"]
theorem sc_check_wishes : FnScope N_check_wishes ["wishes"] (defScope s_check_wishes) := ⟨rfl, rfl, rfl, by decide +kernel, rfl, by decide +kernel, by decide +kernel⟩
def r_check_wishes (ad : Ad) : QS := (sIf (qOrT (qTB (qBin oLt (qLenSet (qVar 0)) (qCB cLen (qCons (qVar 0) qNil)))) (qNotT (qTru (qCB (cBools fun bs => bs.all id) (qCons (qLc (iSeq (qVar 0)) (gN 1) qYes (qBin (oInX id) (qVar 1) (qC (.tup [.str "latin", .str "zero", .str "commuting", .str "turning"]))) [1]) qNil))))) (sRaise ad.NotAllowed) sNext)
theorem d_check_wishes (T : Txt K mg ad) (f : Addr) (cdv : Value) (A : Around) (outer : List Env) (s : Shared) (H : Hp) (E : XK) (hr : Room 0 (A.deeper (envOfC "check_wishes" (defScope s_check_wishes) s.heap.objs.size f cdv))) :
    DB (cxOf (L2N.CX P w) P w K mg base N_check_wishes "check_wishes" (defScope s_check_wishes) f cdv A outer s H E) (defBody s_check_wishes) (r_check_wishes ad) := by
  have hu := hr.units
  have hu5 := u65 hr
  have hp : PassesOwn (model P w) (A.deeper (envOfC "check_wishes" (defScope s_check_wishes) s.heap.objs.size f cdv)) (envOfC "check_wishes" (defScope s_check_wishes) s.heap.objs.size f cdv) (cxOf (L2N.CX P w) P w K mg base N_check_wishes "check_wishes" (defScope s_check_wishes) f cdv A outer s H E).xe := passes_of (X := cxOf (L2N.CX P w) P w K mg base N_check_wishes "check_wishes" (defScope s_check_wishes) f cdv A outer s H E) rfl
  exact (db_one (ds_if (dw_pt (dw_or (dt_cmp od_lt (de_lenSet rfl T.n_len rfl T.n_set (de_var 0)) (de_callB cd_len rfl T.n_len bb_len (da_cons (de_var 0) da_nil)) (nomark _)) (dw_or1 (dt_not (dt_truth (de_callB (cd_all rfl) rfl T.n_all bb_all (da_cons (de_lc (own := [("wish", 1)]) rfl sc_check_wishes.nd (di_seq (de_var 0)) (blkOk_by (own := [("wish", 1)]) (N := N_check_wishes) (sc := defScope s_check_wishes) (by decide +kernel)) (fun _ _ _ _ _ => (dgo_name (i := 1) sc_check_wishes.nd rfl (by decide) (by first | exact Or.inl rfl | exact Or.inr rfl))) (fun _ _ _ _ _ => dts_nil) (fun _ _ _ _ _ => (de_cmp (od_inX hu5) (de_var 1) (de_globT rfl T.t_WISHES.choose_spec.choose_spec.1 T.t_WISHES.choose_spec.choose_spec.2.1 T.t_WISHES.choose_spec.choose_spec.2.2) (by rfl)))) da_nil))))))) (db_one (ds_raise rfl T.x_NotAllowed rfl)) db_nil))
/-! ## repeats -/
abbrev s_repeats : Stmt := topS 15
abbrev N_repeats : List Str := ["cells", "known", "one"]
theorem sc_repeats : FnScope N_repeats ["cells"] (defScope s_repeats) := ⟨rfl, rfl, rfl, by decide +kernel, rfl, by decide +kernel, by decide +kernel⟩
def r_repeats (ad : Ad) : QS := (sSeq (sSet 1 (qLc (iSeq (qVar 0)) (gN 2) (qTB (qBin oNe (qVar 2) (qC (.int (-1))))) (qVar 2) [2]))
    (sRet (qBin oLt (qLenSet (qVar 1)) (qCB cLen (qCons (qVar 1) qNil)))))
theorem d_repeats (T : Txt K mg ad) (f : Addr) (cdv : Value) (A : Around) (outer : List Env) (s : Shared) (H : Hp) (E : XK) (hr : Room 0 (A.deeper (envOfC "repeats" (defScope s_repeats) s.heap.objs.size f cdv))) :
    DB (cxOf (L2N.CX P w) P w K mg base N_repeats "repeats" (defScope s_repeats) f cdv A outer s H E) (defBody s_repeats) (r_repeats ad) := by
  have hu := hr.units
  have hu5 := u65 hr
  have hp : PassesOwn (model P w) (A.deeper (envOfC "repeats" (defScope s_repeats) s.heap.objs.size f cdv)) (envOfC "repeats" (defScope s_repeats) s.heap.objs.size f cdv) (cxOf (L2N.CX P w) P w K mg base N_repeats "repeats" (defScope s_repeats) f cdv A outer s H E).xe := passes_of (X := cxOf (L2N.CX P w) P w K mg base N_repeats "repeats" (defScope s_repeats) f cdv A outer s H E) rfl
  exact (db_cons (ds_setLc (i := 1) (own := [("one", 2)]) rfl sc_repeats.nd rfl rfl (sw_true rfl rfl rfl (by decide +kernel)) (di_seq (de_var 0)) (blkOk_by (own := [("one", 2)]) (N := N_repeats) (sc := defScope s_repeats) (by decide +kernel)) (fun _ _ _ _ _ => (dgo_name (i := 2) sc_repeats.nd rfl (by decide) (by first | exact Or.inl rfl | exact Or.inr rfl))) (fun _ _ _ _ _ => (dts_one (dt_cmp (od_ne hu) (de_var 2) (de_globI rfl T.c_NONE.choose_spec) (nomark _)))) (fun _ _ _ _ _ => (de_var 2)))
    (db_one (ds_ret (de_cmp od_lt (de_lenSet rfl T.n_len rfl T.n_set (de_var 1)) (de_callB cd_len rfl T.n_len bb_len (da_cons (de_var 1) da_nil)) (nomark _)))))
/-! ## breaks_latin -/
abbrev s_breaks_latin : Stmt := topS 16
abbrev N_breaks_latin : List Str := ["table", "many", "row", "column"]
theorem sc_breaks_latin : FnScope N_breaks_latin ["table"] (defScope s_breaks_latin) := ⟨rfl, rfl, rfl, by decide +kernel, rfl, by decide +kernel, by decide +kernel⟩
def r_breaks_latin (ad : Ad) : QS := (sSeq (sSet 1 (qCB cLen (qCons (qVar 0) qNil)))
    (sSeq (sIf (qTru (qCB (cBools fun bs => bs.any id) (qCons (qLc (iSeq (qVar 0)) (gN 2) qYes (qCall (sp_repeats ad) (qCons (qVar 2) qNil)) [2]) qNil))) (sRet (qC (.bl true))) sNext)
    (sRet (qCB (cBools fun bs => bs.any id) (qCons (qLc (iRange1 (qCons (qVar 1) qNil)) (gN 3) qYes (qCall (sp_repeats ad) (qCons (qLc (iRange1 (qCons (qVar 1) qNil)) (gN 2) qYes (qBin oIx (qBin oIx (qVar 0) (qVar 2)) (qVar 3)) [2]) qNil)) [3]) qNil)))))
theorem d_breaks_latin (T : Txt K mg ad) (G_repeats : GF P w K mg base "repeats" ["cells"] 1 (sp_repeats ad)) (f : Addr) (cdv : Value) (A : Around) (outer : List Env) (s : Shared) (H : Hp) (E : XK) (hr : Room 1 (A.deeper (envOfC "breaks_latin" (defScope s_breaks_latin) s.heap.objs.size f cdv))) :
    DB (cxOf (L2N.CX P w) P w K mg base N_breaks_latin "breaks_latin" (defScope s_breaks_latin) f cdv A outer s H E) (defBody s_breaks_latin) (r_breaks_latin ad) := by
  have hu := hr.units
  have hu5 := u65 hr
  have hp : PassesOwn (model P w) (A.deeper (envOfC "breaks_latin" (defScope s_breaks_latin) s.heap.objs.size f cdv)) (envOfC "breaks_latin" (defScope s_breaks_latin) s.heap.objs.size f cdv) (cxOf (L2N.CX P w) P w K mg base N_breaks_latin "breaks_latin" (defScope s_breaks_latin) f cdv A outer s H E).xe := passes_of (X := cxOf (L2N.CX P w) P w K mg base N_breaks_latin "breaks_latin" (defScope s_breaks_latin) f cdv A outer s H E) rfl
  exact (db_cons (ds_set (i := 1) sc_breaks_latin.nd rfl (by first | exact Or.inl rfl | exact Or.inr rfl) (de_callB cd_len rfl T.n_len bb_len (da_cons (de_var 0) da_nil)))
    (db_cons (ds_if (dt_truth (de_callB (cd_any rfl) rfl T.n_any bb_any (da_cons (de_lc (own := [("row", 2)]) rfl sc_breaks_latin.nd (di_seq (de_var 0)) (blkOk_by (own := [("row", 2)]) (N := N_breaks_latin) (sc := defScope s_breaks_latin) (by decide +kernel)) (fun _ _ _ _ _ => (dgo_name (i := 2) sc_breaks_latin.nd rfl (by decide) (by first | exact Or.inl rfl | exact Or.inr rfl))) (fun _ _ _ _ _ => dts_nil) (fun _ _ _ _ _ => (de_callF G_repeats (hr.mono (by decide)) rfl (da_cons (de_var 2) da_nil)))) da_nil))) (db_one (ds_ret de_bl)) db_nil)
    (db_one (ds_ret (de_callB (cd_any rfl) rfl T.n_any bb_any (da_cons (de_lc (own := [("column", 3)]) rfl sc_breaks_latin.nd (di_range1 rfl T.n_range (da_cons (de_var 1) da_nil)) (blkOk_by (own := [("column", 3)]) (N := N_breaks_latin) (sc := defScope s_breaks_latin) (by decide +kernel)) (fun _ _ _ _ _ => (dgo_name (i := 3) sc_breaks_latin.nd rfl (by decide) (by first | exact Or.inl rfl | exact Or.inr rfl))) (fun _ _ _ _ _ => dts_nil) (fun _ _ _ _ _ => (de_callF G_repeats (hr.mono (by decide)) rfl (da_cons (de_lc (own := [("row", 2)]) rfl sc_breaks_latin.nd (di_range1 rfl T.n_range (da_cons (de_var 1) da_nil)) (blkOk_by (own := [("row", 2)]) (by kernel_rfl)) (fun _ _ _ _ _ => (dgo_name (i := 2) sc_breaks_latin.nd rfl (by decide) (by first | exact Or.inl rfl | exact Or.inr rfl))) (fun _ _ _ _ _ => dts_nil) (fun _ _ _ _ _ => (de_ix (de_ix (de_var 0) (de_var 2)) (de_var 3)))) da_nil)))) da_nil))))))
/-! ## breaks_zero -/
abbrev s_breaks_zero : Stmt := topS 17
abbrev N_breaks_zero : List Str := ["table", "k"]
theorem sc_breaks_zero : FnScope N_breaks_zero ["table"] (defScope s_breaks_zero) := ⟨rfl, rfl, rfl, by decide +kernel, rfl, by decide +kernel, by decide +kernel⟩
def r_breaks_zero (ad : Ad) : QS := (sRet (qCB (cBools fun bs => bs.any id) (qCons (qLc (iRange1 (qCons (qCB cLen (qCons (qVar 0) qNil)) qNil)) (gN 1) qYes (qBin (oInX not) (qBin oIx (qBin oIx (qVar 0) (qVar 1)) (qVar 1)) (qTup (qCons (qC (.int (-1))) (qCons (qC (.int 0)) qNil)))) [1]) qNil)))
theorem d_breaks_zero (T : Txt K mg ad) (f : Addr) (cdv : Value) (A : Around) (outer : List Env) (s : Shared) (H : Hp) (E : XK) (hr : Room 0 (A.deeper (envOfC "breaks_zero" (defScope s_breaks_zero) s.heap.objs.size f cdv))) :
    DB (cxOf (L2N.CX P w) P w K mg base N_breaks_zero "breaks_zero" (defScope s_breaks_zero) f cdv A outer s H E) (defBody s_breaks_zero) (r_breaks_zero ad) := by
  have hu := hr.units
  have hu5 := u65 hr
  have hp : PassesOwn (model P w) (A.deeper (envOfC "breaks_zero" (defScope s_breaks_zero) s.heap.objs.size f cdv)) (envOfC "breaks_zero" (defScope s_breaks_zero) s.heap.objs.size f cdv) (cxOf (L2N.CX P w) P w K mg base N_breaks_zero "breaks_zero" (defScope s_breaks_zero) f cdv A outer s H E).xe := passes_of (X := cxOf (L2N.CX P w) P w K mg base N_breaks_zero "breaks_zero" (defScope s_breaks_zero) f cdv A outer s H E) rfl
  exact (db_one (ds_ret (de_callB (cd_any rfl) rfl T.n_any bb_any (da_cons (de_lc (own := [("k", 1)]) rfl sc_breaks_zero.nd (di_range1 rfl T.n_range (da_cons (de_callB cd_len rfl T.n_len bb_len (da_cons (de_var 0) da_nil)) da_nil)) (blkOk_by (own := [("k", 1)]) (N := N_breaks_zero) (sc := defScope s_breaks_zero) (by decide +kernel)) (fun _ _ _ _ _ => (dgo_name (i := 1) sc_breaks_zero.nd rfl (by decide) (by first | exact Or.inl rfl | exact Or.inr rfl))) (fun _ _ _ _ _ => dts_nil) (fun _ _ _ _ _ => (de_cmp (od_notInX hu5) (de_ix (de_ix (de_var 0) (de_var 1)) (de_var 1)) (de_tup (da_cons (de_globI rfl T.c_NONE.choose_spec) (da_cons de_int da_nil))) (by rfl)))) da_nil))))
/-! ## breaks_commuting -/
abbrev s_breaks_commuting : Stmt := topS 18
abbrev N_breaks_commuting : List Str := ["table", "many", "one", "other"]
theorem sc_breaks_commuting : FnScope N_breaks_commuting ["table"] (defScope s_breaks_commuting) := ⟨rfl, rfl, rfl, by decide +kernel, rfl, by decide +kernel, by decide +kernel⟩
def r_breaks_commuting_b1 (ad : Ad) : QS := (sIf (qAndT (qTB (qBin oNe (qBin oIx (qBin oIx (qVar 0) (qVar 2)) (qVar 3)) (qC (.int (-1))))) (qTB (qBin oEq (qBin oIx (qBin oIx (qVar 0) (qVar 2)) (qVar 3)) (qBin oIx (qBin oIx (qVar 0) (qVar 3)) (qVar 2))))) (sRet (qC (.bl true))) sNext)
def r_breaks_commuting_b2 (ad : Ad) : QS := (sFor (iRange1 (qCons (qVar 2) qNil)) (gN 3) (r_breaks_commuting_b1 ad))
def r_breaks_commuting (ad : Ad) : QS := (sSeq (sSet 1 (qCB cLen (qCons (qVar 0) qNil)))
    (sSeq (sFor (iRange1 (qCons (qVar 1) qNil)) (gN 2) (r_breaks_commuting_b2 ad))
    (sRet (qC (.bl false)))))
theorem d_breaks_commuting (T : Txt K mg ad) (f : Addr) (cdv : Value) (A : Around) (outer : List Env) (s : Shared) (H : Hp) (E : XK) (hr : Room 0 (A.deeper (envOfC "breaks_commuting" (defScope s_breaks_commuting) s.heap.objs.size f cdv))) :
    DB (cxOf (L2N.CX P w) P w K mg base N_breaks_commuting "breaks_commuting" (defScope s_breaks_commuting) f cdv A outer s H E) (defBody s_breaks_commuting) (r_breaks_commuting ad) := by
  have hu := hr.units
  have hu5 := u65 hr
  have hp : PassesOwn (model P w) (A.deeper (envOfC "breaks_commuting" (defScope s_breaks_commuting) s.heap.objs.size f cdv)) (envOfC "breaks_commuting" (defScope s_breaks_commuting) s.heap.objs.size f cdv) (cxOf (L2N.CX P w) P w K mg base N_breaks_commuting "breaks_commuting" (defScope s_breaks_commuting) f cdv A outer s H E).xe := passes_of (X := cxOf (L2N.CX P w) P w K mg base N_breaks_commuting "breaks_commuting" (defScope s_breaks_commuting) f cdv A outer s H E) rfl
  exact (db_cons (ds_set (i := 1) sc_breaks_commuting.nd rfl (by first | exact Or.inl rfl | exact Or.inr rfl) (de_callB cd_len rfl T.n_len bb_len (da_cons (de_var 0) da_nil)))
    (db_cons (ds_for hp rfl (di_range1 rfl T.n_range (da_cons (de_var 1) da_nil)) (dg_name (i := 2) sc_breaks_commuting.nd rfl (by first | exact Or.inl rfl | exact Or.inr rfl)) (db_one (ds_for hp rfl (di_range1 rfl T.n_range (da_cons (de_var 2) da_nil)) (dg_name (i := 3) sc_breaks_commuting.nd rfl (by first | exact Or.inl rfl | exact Or.inr rfl)) (db_one (ds_if (dw_pt (dw_and (dt_cmp (od_ne hu) (de_ix (de_ix (de_var 0) (de_var 2)) (de_var 3)) (de_globI rfl T.c_NONE.choose_spec) (nomark _)) (dw_and1 (dt_cmp (od_eq hu) (de_ix (de_ix (de_var 0) (de_var 2)) (de_var 3)) (de_ix (de_ix (de_var 0) (de_var 3)) (de_var 2)) (nomark _))))) (db_one (ds_ret de_bl)) db_nil)))))
    (db_one (ds_ret de_bl))))
/-! ## behind -/
abbrev s_behind : Stmt := topS 19
abbrev N_behind : List Str := ["table", "start", "one", "other", "first"]
theorem sc_behind : FnScope N_behind ["table", "start", "one", "other"] (defScope s_behind) := ⟨rfl, rfl, rfl, by decide +kernel, rfl, by decide +kernel, by decide +kernel⟩
def r_behind (ad : Ad) : QS := (sSeq (sSet 4 (qBin oIx (qBin oIx (qVar 0) (qVar 1)) (qVar 2)))
    (sRet (qIf (qTB (qBin oEq (qVar 4) (qC (.int (-1))))) (qC (.int (-1))) (qBin oIx (qBin oIx (qVar 0) (qVar 4)) (qVar 3)))))
theorem d_behind (T : Txt K mg ad) (f : Addr) (cdv : Value) (A : Around) (outer : List Env) (s : Shared) (H : Hp) (E : XK) (hr : Room 0 (A.deeper (envOfC "behind" (defScope s_behind) s.heap.objs.size f cdv))) :
    DB (cxOf (L2N.CX P w) P w K mg base N_behind "behind" (defScope s_behind) f cdv A outer s H E) (defBody s_behind) (r_behind ad) := by
  have hu := hr.units
  have hu5 := u65 hr
  have hp : PassesOwn (model P w) (A.deeper (envOfC "behind" (defScope s_behind) s.heap.objs.size f cdv)) (envOfC "behind" (defScope s_behind) s.heap.objs.size f cdv) (cxOf (L2N.CX P w) P w K mg base N_behind "behind" (defScope s_behind) f cdv A outer s H E).xe := passes_of (X := cxOf (L2N.CX P w) P w K mg base N_behind "behind" (defScope s_behind) f cdv A outer s H E) rfl
  exact (db_cons (ds_set (i := 4) sc_behind.nd rfl (by first | exact Or.inl rfl | exact Or.inr rfl) (de_ix (de_ix (de_var 0) (de_var 1)) (de_var 2)))
    (db_one (ds_ret (de_if (dt_cmp (od_eq hu) (de_var 4) (de_globI rfl T.c_NONE.choose_spec) (nomark _)) (de_globI rfl T.c_NONE.choose_spec) (de_ix (de_ix (de_var 0) (de_var 4)) (de_var 3))))))
/-! ## turned_pair -/
abbrev s_turned_pair : Stmt := topS 20
abbrev N_turned_pair : List Str := ["table", "many", "start", "one", "other", "end"]
theorem sc_turned_pair : FnScope N_turned_pair ["table"] (defScope s_turned_pair) := ⟨rfl, rfl, rfl, by decide +kernel, rfl, by decide +kernel, by decide +kernel⟩
def r_turned_pair_b1 (ad : Ad) : QS := (sSeq (sSet 5 (qCall (sp_behind ad) (qCons (qVar 0) (qCons (qVar 2) (qCons (qVar 3) (qCons (qVar 4) qNil))))))
    (sIf (qAndT (qTB (qBin oNe (qVar 5) (qC (.int (-1))))) (qTB (qBin oEq (qVar 5) (qCall (sp_behind ad) (qCons (qVar 0) (qCons (qVar 2) (qCons (qVar 4) (qCons (qVar 3) qNil)))))))) (sRet (qTup (qCons (qVar 2) (qCons (qVar 3) (qCons (qVar 4) qNil))))) sNext))
def r_turned_pair_b2 (ad : Ad) : QS := (sFor (iRange2 (qCons (qBin oAdd (qVar 3) (qC (.int 1))) (qCons (qVar 1) qNil))) (gN 4) (r_turned_pair_b1 ad))
def r_turned_pair_b3 (ad : Ad) : QS := (sFor (iRange1 (qCons (qVar 1) qNil)) (gN 3) (r_turned_pair_b2 ad))
def r_turned_pair (ad : Ad) : QS := (sSeq (sSet 1 (qCB cLen (qCons (qVar 0) qNil)))
    (sSeq (sFor (iRange1 (qCons (qVar 1) qNil)) (gN 2) (r_turned_pair_b3 ad))
    (sRet (qC .non))))
theorem d_turned_pair (T : Txt K mg ad) (G_behind : GF P w K mg base "behind" ["table", "start", "one", "other"] 1 (sp_behind ad)) (f : Addr) (cdv : Value) (A : Around) (outer : List Env) (s : Shared) (H : Hp) (E : XK) (hr : Room 1 (A.deeper (envOfC "turned_pair" (defScope s_turned_pair) s.heap.objs.size f cdv))) :
    DB (cxOf (L2N.CX P w) P w K mg base N_turned_pair "turned_pair" (defScope s_turned_pair) f cdv A outer s H E) (defBody s_turned_pair) (r_turned_pair ad) := by
  have hu := hr.units
  have hu5 := u65 hr
  have hp : PassesOwn (model P w) (A.deeper (envOfC "turned_pair" (defScope s_turned_pair) s.heap.objs.size f cdv)) (envOfC "turned_pair" (defScope s_turned_pair) s.heap.objs.size f cdv) (cxOf (L2N.CX P w) P w K mg base N_turned_pair "turned_pair" (defScope s_turned_pair) f cdv A outer s H E).xe := passes_of (X := cxOf (L2N.CX P w) P w K mg base N_turned_pair "turned_pair" (defScope s_turned_pair) f cdv A outer s H E) rfl
  exact (db_cons (ds_set (i := 1) sc_turned_pair.nd rfl (by first | exact Or.inl rfl | exact Or.inr rfl) (de_callB cd_len rfl T.n_len bb_len (da_cons (de_var 0) da_nil)))
    (db_cons (ds_for hp rfl (di_range1 rfl T.n_range (da_cons (de_var 1) da_nil)) (dg_name (i := 2) sc_turned_pair.nd rfl (by first | exact Or.inl rfl | exact Or.inr rfl)) (db_one (ds_for hp rfl (di_range1 rfl T.n_range (da_cons (de_var 1) da_nil)) (dg_name (i := 3) sc_turned_pair.nd rfl (by first | exact Or.inl rfl | exact Or.inr rfl)) (db_one (ds_for hp rfl (di_range2 rfl T.n_range (da_cons (de_bin od_add (de_var 3) de_int) (da_cons (de_var 1) da_nil))) (dg_name (i := 4) sc_turned_pair.nd rfl (by first | exact Or.inl rfl | exact Or.inr rfl)) (db_cons (ds_set (i := 5) sc_turned_pair.nd rfl (by first | exact Or.inl rfl | exact Or.inr rfl) (de_callF G_behind (hr.mono (by decide)) rfl (da_cons (de_var 0) (da_cons (de_var 2) (da_cons (de_var 3) (da_cons (de_var 4) da_nil))))))
    (db_one (ds_if (dw_pt (dw_and (dt_cmp (od_ne hu) (de_var 5) (de_globI rfl T.c_NONE.choose_spec) (nomark _)) (dw_and1 (dt_cmp (od_eq hu) (de_var 5) (de_callF G_behind (hr.mono (by decide)) rfl (da_cons (de_var 0) (da_cons (de_var 2) (da_cons (de_var 4) (da_cons (de_var 3) da_nil))))) (nomark _))))) (db_one (ds_ret (de_tup (da_cons (de_var 2) (da_cons (de_var 3) (da_cons (de_var 4) da_nil)))))) db_nil))))))))
    (db_one (ds_ret de_non))))
/-! ## is_broken -/
abbrev s_is_broken : Stmt := topS 21
abbrev N_is_broken : List Str := ["table", "wish"]
theorem sc_is_broken : FnScope N_is_broken ["table", "wish"] (defScope s_is_broken) := ⟨rfl, rfl, rfl, by decide +kernel, rfl, by decide +kernel, by decide +kernel⟩
def r_is_broken (ad : Ad) : QS := (sSeq (sIf (qTB (qBin oEq (qVar 1) (qC (.str "latin")))) (sRet (qCall (sp_breaks_latin ad) (qCons (qVar 0) qNil))) sNext)
    (sSeq (sIf (qTB (qBin oEq (qVar 1) (qC (.str "zero")))) (sRet (qCall (sp_breaks_zero ad) (qCons (qVar 0) qNil))) sNext)
    (sSeq (sIf (qTB (qBin oEq (qVar 1) (qC (.str "commuting")))) (sRet (qCall (sp_breaks_commuting ad) (qCons (qVar 0) qNil))) sNext)
    (sRet (qBin (oIs not) (qCall (sp_turned_pair ad) (qCons (qVar 0) qNil)) (qC .non))))))
theorem d_is_broken (T : Txt K mg ad) (G_breaks_commuting : GF P w K mg base "breaks_commuting" ["table"] 1 (sp_breaks_commuting ad)) (G_breaks_latin : GF P w K mg base "breaks_latin" ["table"] 2 (sp_breaks_latin ad)) (G_breaks_zero : GF P w K mg base "breaks_zero" ["table"] 1 (sp_breaks_zero ad)) (G_turned_pair : GF P w K mg base "turned_pair" ["table"] 2 (sp_turned_pair ad)) (f : Addr) (cdv : Value) (A : Around) (outer : List Env) (s : Shared) (H : Hp) (E : XK) (hr : Room 2 (A.deeper (envOfC "is_broken" (defScope s_is_broken) s.heap.objs.size f cdv))) :
    DB (cxOf (L2N.CX P w) P w K mg base N_is_broken "is_broken" (defScope s_is_broken) f cdv A outer s H E) (defBody s_is_broken) (r_is_broken ad) := by
  have hu := hr.units
  have hu5 := u65 hr
  have hp : PassesOwn (model P w) (A.deeper (envOfC "is_broken" (defScope s_is_broken) s.heap.objs.size f cdv)) (envOfC "is_broken" (defScope s_is_broken) s.heap.objs.size f cdv) (cxOf (L2N.CX P w) P w K mg base N_is_broken "is_broken" (defScope s_is_broken) f cdv A outer s H E).xe := passes_of (X := cxOf (L2N.CX P w) P w K mg base N_is_broken "is_broken" (defScope s_is_broken) f cdv A outer s H E) rfl
  exact (db_cons (ds_if (dt_cmp (od_eq hu) (de_var 1) de_str (nomark _)) (db_one (ds_ret (de_callF G_breaks_latin (hr.mono (by decide)) rfl (da_cons (de_var 0) da_nil)))) db_nil)
    (db_cons (ds_if (dt_cmp (od_eq hu) (de_var 1) de_str (nomark _)) (db_one (ds_ret (de_callF G_breaks_zero (hr.mono (by decide)) rfl (da_cons (de_var 0) da_nil)))) db_nil)
    (db_cons (ds_if (dt_cmp (od_eq hu) (de_var 1) de_str (nomark _)) (db_one (ds_ret (de_callF G_breaks_commuting (hr.mono (by decide)) rfl (da_cons (de_var 0) da_nil)))) db_nil)
    (db_one (ds_ret (de_cmp od_isNot (de_callF G_turned_pair (hr.mono (by decide)) rfl (da_cons (de_var 0) da_nil)) de_non (by rfl)))))))
/-! ## keeps -/
abbrev s_keeps : Stmt := topS 22
abbrev N_keeps : List Str := ["table", "wishes", "wish"]
theorem sc_keeps : FnScope N_keeps ["table", "wishes"] (defScope s_keeps) := ⟨rfl, rfl, rfl, by decide +kernel, rfl, by decide +kernel, by decide +kernel⟩
def r_keeps (ad : Ad) : QS := (sSeq (sDrop (qCall (sp_check_table ad) (qCons (qVar 0) qNil)))
    (sSeq (sDrop (qCall (sp_check_wishes ad) (qCons (qVar 1) qNil)))
    (sRet (qNot (qCB (cBools fun bs => bs.any id) (qCons (qLc (iSeq (qVar 1)) (gN 2) qYes (qCall (sp_is_broken ad) (qCons (qVar 0) (qCons (qVar 2) qNil))) [2]) qNil))))))
theorem d_keeps (T : Txt K mg ad) (G_check_table : GF P w K mg base "check_table" ["table"] 2 (sp_check_table ad)) (G_check_wishes : GF P w K mg base "check_wishes" ["wishes"] 1 (sp_check_wishes ad)) (G_is_broken : GF P w K mg base "is_broken" ["table", "wish"] 3 (sp_is_broken ad)) (f : Addr) (cdv : Value) (A : Around) (outer : List Env) (s : Shared) (H : Hp) (E : XK) (hr : Room 3 (A.deeper (envOfC "keeps" (defScope s_keeps) s.heap.objs.size f cdv))) :
    DB (cxOf (L2N.CX P w) P w K mg base N_keeps "keeps" (defScope s_keeps) f cdv A outer s H E) (defBody s_keeps) (r_keeps ad) := by
  have hu := hr.units
  have hu5 := u65 hr
  have hp : PassesOwn (model P w) (A.deeper (envOfC "keeps" (defScope s_keeps) s.heap.objs.size f cdv)) (envOfC "keeps" (defScope s_keeps) s.heap.objs.size f cdv) (cxOf (L2N.CX P w) P w K mg base N_keeps "keeps" (defScope s_keeps) f cdv A outer s H E).xe := passes_of (X := cxOf (L2N.CX P w) P w K mg base N_keeps "keeps" (defScope s_keeps) f cdv A outer s H E) rfl
  exact (db_cons (ds_expr (de_callF G_check_table (hr.mono (by decide)) rfl (da_cons (de_var 0) da_nil)))
    (db_cons (ds_expr (de_callF G_check_wishes (hr.mono (by decide)) rfl (da_cons (de_var 1) da_nil)))
    (db_one (ds_ret (de_not (de_callB (cd_any rfl) rfl T.n_any bb_any (da_cons (de_lc (own := [("wish", 2)]) rfl sc_keeps.nd (di_seq (de_var 1)) (blkOk_by (own := [("wish", 2)]) (N := N_keeps) (sc := defScope s_keeps) (by decide +kernel)) (fun _ _ _ _ _ => (dgo_name (i := 2) sc_keeps.nd rfl (by decide) (by first | exact Or.inl rfl | exact Or.inr rfl))) (fun _ _ _ _ _ => dts_nil) (fun _ _ _ _ _ => (de_callF G_is_broken (hr.mono (by decide)) rfl (da_cons (de_var 0) (da_cons (de_var 2) da_nil))))) da_nil)))))))
/-! ## first_turned -/
abbrev s_first_turned : Stmt := topS 23
abbrev N_first_turned : List Str := ["table", "found"]
theorem sc_first_turned : FnScope N_first_turned ["table"] (defScope s_first_turned) := ⟨rfl, rfl, rfl, by decide +kernel, rfl, by decide +kernel, by decide +kernel⟩
def r_first_turned (ad : Ad) : QS := (sSeq (sDrop (qCall (sp_check_table ad) (qCons (qVar 0) qNil)))
    (sSeq (sSet 1 (qCall (sp_turned_pair ad) (qCons (qVar 0) qNil)))
    (sSeq (sIf (qTB (qBin (oIs id) (qVar 1) (qC .non))) (sRaise ad.Missing) sNext)
    (sRet (qVar 1)))))
theorem d_first_turned (T : Txt K mg ad) (G_check_table : GF P w K mg base "check_table" ["table"] 2 (sp_check_table ad)) (G_turned_pair : GF P w K mg base "turned_pair" ["table"] 2 (sp_turned_pair ad)) (f : Addr) (cdv : Value) (A : Around) (outer : List Env) (s : Shared) (H : Hp) (E : XK) (hr : Room 2 (A.deeper (envOfC "first_turned" (defScope s_first_turned) s.heap.objs.size f cdv))) :
    DB (cxOf (L2N.CX P w) P w K mg base N_first_turned "first_turned" (defScope s_first_turned) f cdv A outer s H E) (defBody s_first_turned) (r_first_turned ad) := by
  have hu := hr.units
  have hu5 := u65 hr
  have hp : PassesOwn (model P w) (A.deeper (envOfC "first_turned" (defScope s_first_turned) s.heap.objs.size f cdv)) (envOfC "first_turned" (defScope s_first_turned) s.heap.objs.size f cdv) (cxOf (L2N.CX P w) P w K mg base N_first_turned "first_turned" (defScope s_first_turned) f cdv A outer s H E).xe := passes_of (X := cxOf (L2N.CX P w) P w K mg base N_first_turned "first_turned" (defScope s_first_turned) f cdv A outer s H E) rfl
  exact (db_cons (ds_expr (de_callF G_check_table (hr.mono (by decide)) rfl (da_cons (de_var 0) da_nil)))
    (db_cons (ds_set (i := 1) sc_first_turned.nd rfl (by first | exact Or.inl rfl | exact Or.inr rfl) (de_callF G_turned_pair (hr.mono (by decide)) rfl (da_cons (de_var 0) da_nil)))
    (db_cons (ds_if (dt_cmp od_is (de_var 1) de_non (by rfl)) (db_one (ds_raise rfl T.x_Missing rfl)) db_nil)
    (db_one (ds_ret (de_var 1))))))
/-! ## _law_same -/
abbrev s__law_same : Stmt := topS 25
abbrev N__law_same : List Str := ["told", "due"]
theorem sc__law_same : FnScope N__law_same ["told", "due"] (defScope s__law_same) := ⟨rfl, rfl, rfl, by decide +kernel, rfl, by decide +kernel, by decide +kernel⟩
def r__law_same (ad : Ad) : QS := (sRet (qBin oEq (qCB cRepr (qCons (qLst (qCons (qVar 0) qNil)) qNil)) (qCB cRepr (qCons (qLst (qCons (qVar 1) qNil)) qNil))))
theorem d__law_same (T : Txt K mg ad) (f : Addr) (cdv : Value) (A : Around) (outer : List Env) (s : Shared) (H : Hp) (E : XK) (hr : Room 0 (A.deeper (envOfC "_law_same" (defScope s__law_same) s.heap.objs.size f cdv))) (hG : (A.deeper (envOfC "_law_same" (defScope s__law_same) s.heap.objs.size f cdv)).guards = some []) :
    DB (cxOf (L2N.CX P w) P w K mg base N__law_same "_law_same" (defScope s__law_same) f cdv A outer s H E) (defBody s__law_same) (r__law_same ad) := by
  have hu := hr.units
  have hu5 := u65 hr
  have hp : PassesOwn (model P w) (A.deeper (envOfC "_law_same" (defScope s__law_same) s.heap.objs.size f cdv)) (envOfC "_law_same" (defScope s__law_same) s.heap.objs.size f cdv) (cxOf (L2N.CX P w) P w K mg base N__law_same "_law_same" (defScope s__law_same) f cdv A outer s H E).xe := passes_of (X := cxOf (L2N.CX P w) P w K mg base N__law_same "_law_same" (defScope s__law_same) f cdv A outer s H E) rfl
  exact (db_one (ds_ret (de_cmp (od_eq hu) (de_callB (cd_repr hG hu) rfl T.n_repr bb_repr (da_cons (de_lst (da_cons (de_var 0) da_nil)) da_nil)) (de_callB (cd_repr hG hu) rfl T.n_repr bb_repr (da_cons (de_lst (da_cons (de_var 1) da_nil)) da_nil)) (nomark _))))
/-! ## _law_stream -/
abbrev s__law_stream : Stmt := topS 26
abbrev N__law_stream : List Str := ["script", "numbers", "cell", "rest", "k", "stirred"]
theorem sc__law_stream : FnScope N__law_stream ["script"] (defScope s__law_stream) := ⟨rfl, rfl, rfl, by decide +kernel, rfl, by decide +kernel, by decide +kernel⟩
def r__law_stream_b1 (ad : Ad) : QS := (sSeq (sDrop (qMeth mAppend (qVar 1) (qCons (qBin oMod (qCB cToInt (qCons (qVar 3) qNil)) (qC (.int 1009))) qNil)))
    (sSeq (sSet 3 (qBin oDiv (qVar 3) (qC (.int 1009))))
    (sIf (qTB (qBin oEq (qVar 3) (qC (.int 0)))) sBreak sNext)))
def r__law_stream_b2 (ad : Ad) : QS := (sSeq (sSet 5 (qBin oMod (qCB cToInt (qCons (qBin oAdd (qBin oAdd (qBin oMul (qVar 5) (qC (.int 48271))) (qBin oMul (qC (.int 7)) (qVar 4))) (qC (.int 11))) qNil)) (qC (.int 2147483647))))
    (sDrop (qMeth mAppend (qVar 1) (qCons (qBin oMod (qBin oMod (qCB cToInt (qCons (qBin oAdd (qBin oMul (qVar 5) (qC (.int 69621))) (qVar 4)) qNil)) (qC (.int 2147483629))) (qC (.int 1009))) qNil))))
def r__law_stream_b3 (ad : Ad) : QS := (sSeq (sSet 3 (qCB (cInt fun i => .int (if i < 0 then -i else i)) (qCons (qCB cToInt (qCons (qVar 2) qNil)) qNil)))
    (sIf (qTB (qBin oGe (qVar 3) (qBin oPow (qC (.int 10)) (qC (.int 18))))) (sFor (iRange1 (qCons (qC (.int 60)) qNil)) (gN 4) (r__law_stream_b1 ad)) (sSeq (sSet 5 (qBin oMod (qCB cToInt (qCons (qVar 3) qNil)) (qC (.int 2147483647))))
    (sFor (iRange1 (qCons (qC (.int 10)) qNil)) (gN 4) (r__law_stream_b2 ad)))))
def r__law_stream (ad : Ad) : QS := (sSeq (sSet 1 (qLst qNil))
    (sSeq (sFor (iSeq (qSl (qVar 0) qNo (qPart (qC (.int 63))))) (gN 2) (r__law_stream_b3 ad))
    (sSeq (sIf (qTB (qBin oEq (qCB cLen (qCons (qVar 1) qNil)) (qC (.int 0)))) (sDrop (qMeth mAppend (qVar 1) (qCons (qC (.int 0)) qNil))) sNext)
    (sRet (qVar 1)))))
theorem d__law_stream (T : Txt K mg ad) (f : Addr) (cdv : Value) (A : Around) (outer : List Env) (s : Shared) (H : Hp) (E : XK) (hr : Room 0 (A.deeper (envOfC "_law_stream" (defScope s__law_stream) s.heap.objs.size f cdv))) :
    DB (cxOf (L2N.CX P w) P w K mg base N__law_stream "_law_stream" (defScope s__law_stream) f cdv A outer s H E) (defBody s__law_stream) (r__law_stream ad) := by
  have hu := hr.units
  have hu5 := u65 hr
  have hp : PassesOwn (model P w) (A.deeper (envOfC "_law_stream" (defScope s__law_stream) s.heap.objs.size f cdv)) (envOfC "_law_stream" (defScope s__law_stream) s.heap.objs.size f cdv) (cxOf (L2N.CX P w) P w K mg base N__law_stream "_law_stream" (defScope s__law_stream) f cdv A outer s H E).xe := passes_of (X := cxOf (L2N.CX P w) P w K mg base N__law_stream "_law_stream" (defScope s__law_stream) f cdv A outer s H E) rfl
  exact (db_cons (ds_set (i := 1) sc__law_stream.nd rfl (by first | exact Or.inl rfl | exact Or.inr rfl) (de_lst da_nil))
    (db_cons (ds_for hp rfl (di_seq (de_sl (de_var 0) do_none (do_some de_int))) (dg_name (i := 2) sc__law_stream.nd rfl (by first | exact Or.inl rfl | exact Or.inr rfl)) (db_cons (ds_set (i := 3) sc__law_stream.nd rfl (by first | exact Or.inl rfl | exact Or.inr rfl) (de_callB cd_abs rfl T.n_abs bb_abs (da_cons (de_callTy cd_int rfl T.n_int bb_int (da_cons (de_var 2) da_nil)) da_nil)))
    (db_one (ds_if (dt_cmp od_ge (de_var 3) (de_bin od_pow de_int de_int) (nomark _)) (db_one (ds_for hp rfl (di_range1 rfl T.n_range (da_cons de_int da_nil)) (dg_name (i := 4) sc__law_stream.nd rfl (by first | exact Or.inl rfl | exact Or.inr rfl)) (db_cons (ds_expr (de_append (de_var 1) (da_cons (de_bin od_mod (de_callTy cd_int rfl T.n_int bb_int (da_cons (de_var 3) da_nil)) de_int) da_nil)))
    (db_cons (ds_set (i := 3) sc__law_stream.nd rfl (by first | exact Or.inl rfl | exact Or.inr rfl) (de_bin od_div (de_var 3) de_int))
    (db_one (ds_if (dt_cmp (od_eq hu) (de_var 3) de_int (nomark _)) (db_one ds_break) db_nil)))))) (db_cons (ds_set (i := 5) sc__law_stream.nd rfl (by first | exact Or.inl rfl | exact Or.inr rfl) (de_bin od_mod (de_callTy cd_int rfl T.n_int bb_int (da_cons (de_var 3) da_nil)) de_int))
    (db_one (ds_for hp rfl (di_range1 rfl T.n_range (da_cons de_int da_nil)) (dg_name (i := 4) sc__law_stream.nd rfl (by first | exact Or.inl rfl | exact Or.inr rfl)) (db_cons (ds_set (i := 5) sc__law_stream.nd rfl (by first | exact Or.inl rfl | exact Or.inr rfl) (de_bin od_mod (de_callTy cd_int rfl T.n_int bb_int (da_cons (de_bin od_add (de_bin od_add (de_bin od_mul (de_var 5) de_int) (de_bin od_mul de_int (de_var 4))) de_int) da_nil)) de_int))
    (db_one (ds_expr (de_append (de_var 1) (da_cons (de_bin od_mod (de_bin od_mod (de_callTy cd_int rfl T.n_int bb_int (da_cons (de_bin od_add (de_bin od_mul (de_var 5) de_int) (de_var 4)) da_nil)) de_int) de_int) da_nil))))))))))))
    (db_cons (ds_if (dt_cmp (od_eq hu) (de_callB cd_len rfl T.n_len bb_len (da_cons (de_var 1) da_nil)) de_int (nomark _)) (db_one (ds_expr (de_append (de_var 1) (da_cons de_int da_nil)))) db_nil)
    (db_one (ds_ret (de_var 1))))))
/-! ## _law_next -/
abbrev s__law_next : Stmt := topS 27
abbrev N__law_next : List Str := ["state", "many", "turn"]
theorem sc__law_next : FnScope N__law_next ["state", "many"] (defScope s__law_next) := ⟨rfl, rfl, rfl, by decide +kernel, rfl, by decide +kernel, by decide +kernel⟩
def r__law_next (ad : Ad) : QS := (sSeq (sAsg (qBin oAdd (qBin oIx (qVar 0) (qC (.int 1))) (qC (.int 1))) (gS (qVar 0) (qC (.int 1))))
    (sSeq (sSet 2 (qBin oDiv (qBin oIx (qVar 0) (qC (.int 1))) (qCB cLen (qCons (qBin oIx (qVar 0) (qC (.int 0))) qNil))))
    (sRet (qBin oMod (qCB cToInt (qCons (qBin oAdd (qBin oAdd (qBin oIx (qBin oIx (qVar 0) (qC (.int 0))) (qBin oMod (qBin oIx (qVar 0) (qC (.int 1))) (qCB cLen (qCons (qBin oIx (qVar 0) (qC (.int 0))) qNil)))) (qBin oMul (qVar 2) (qC (.int 389)))) (qBin oMul (qBin oMul (qBin oIx (qVar 0) (qC (.int 1))) (qVar 2)) (qC (.int 17)))) qNil)) (qVar 1)))))
theorem d__law_next (T : Txt K mg ad) (f : Addr) (cdv : Value) (A : Around) (outer : List Env) (s : Shared) (H : Hp) (E : XK) (hr : Room 0 (A.deeper (envOfC "_law_next" (defScope s__law_next) s.heap.objs.size f cdv))) :
    DB (cxOf (L2N.CX P w) P w K mg base N__law_next "_law_next" (defScope s__law_next) f cdv A outer s H E) (defBody s__law_next) (r__law_next ad) := by
  have hu := hr.units
  have hu5 := u65 hr
  have hp : PassesOwn (model P w) (A.deeper (envOfC "_law_next" (defScope s__law_next) s.heap.objs.size f cdv)) (envOfC "_law_next" (defScope s__law_next) s.heap.objs.size f cdv) (cxOf (L2N.CX P w) P w K mg base N__law_next "_law_next" (defScope s__law_next) f cdv A outer s H E).xe := passes_of (X := cxOf (L2N.CX P w) P w K mg base N__law_next "_law_next" (defScope s__law_next) f cdv A outer s H E) rfl
  exact (db_cons (ds_asg (de_bin od_add (de_ix (de_var 0) de_int) de_int) (dg_sub (de_var 0) de_int))
    (db_cons (ds_set (i := 2) sc__law_next.nd rfl (by first | exact Or.inl rfl | exact Or.inr rfl) (de_bin od_div (de_ix (de_var 0) de_int) (de_callB cd_len rfl T.n_len bb_len (da_cons (de_ix (de_var 0) de_int) da_nil))))
    (db_one (ds_ret (de_bin od_mod (de_callTy cd_int rfl T.n_int bb_int (da_cons (de_bin od_add (de_bin od_add (de_ix (de_ix (de_var 0) de_int) (de_bin od_mod (de_ix (de_var 0) de_int) (de_callB cd_len rfl T.n_len bb_len (da_cons (de_ix (de_var 0) de_int) da_nil)))) (de_bin od_mul (de_var 2) de_int)) (de_bin od_mul (de_bin od_mul (de_ix (de_var 0) de_int) (de_var 2)) de_int)) da_nil)) (de_var 1))))))
/-! ## _law_great -/
abbrev s__law_great : Stmt := topS 28
abbrev N__law_great : List Str := ["state", "many"]
theorem sc__law_great : FnScope N__law_great ["state", "many"] (defScope s__law_great) := ⟨rfl, rfl, rfl, by decide +kernel, rfl, by decide +kernel, by decide +kernel⟩
def r__law_great (ad : Ad) : QS := (sRet (qBin oMod (qCB cToInt (qCons (qBin oAdd (qBin oMul (qCall (sp__law_next ad) (qCons (qVar 0) (qCons (qC (.int 1009)) qNil))) (qC (.int 1009))) (qCall (sp__law_next ad) (qCons (qVar 0) (qCons (qC (.int 1009)) qNil)))) qNil)) (qVar 1)))
theorem d__law_great (T : Txt K mg ad) (G__law_next : GF P w K mg base "_law_next" ["state", "many"] 1 (sp__law_next ad)) (f : Addr) (cdv : Value) (A : Around) (outer : List Env) (s : Shared) (H : Hp) (E : XK) (hr : Room 1 (A.deeper (envOfC "_law_great" (defScope s__law_great) s.heap.objs.size f cdv))) :
    DB (cxOf (L2N.CX P w) P w K mg base N__law_great "_law_great" (defScope s__law_great) f cdv A outer s H E) (defBody s__law_great) (r__law_great ad) := by
  have hu := hr.units
  have hu5 := u65 hr
  have hp : PassesOwn (model P w) (A.deeper (envOfC "_law_great" (defScope s__law_great) s.heap.objs.size f cdv)) (envOfC "_law_great" (defScope s__law_great) s.heap.objs.size f cdv) (cxOf (L2N.CX P w) P w K mg base N__law_great "_law_great" (defScope s__law_great) f cdv A outer s H E).xe := passes_of (X := cxOf (L2N.CX P w) P w K mg base N__law_great "_law_great" (defScope s__law_great) f cdv A outer s H E) rfl
  exact (db_one (ds_ret (de_bin od_mod (de_callTy cd_int rfl T.n_int bb_int (da_cons (de_bin od_add (de_bin od_mul (de_callF G__law_next (hr.mono (by decide)) rfl (da_cons (de_var 0) (da_cons de_int da_nil))) de_int) (de_callF G__law_next (hr.mono (by decide)) rfl (da_cons (de_var 0) (da_cons de_int da_nil)))) da_nil)) (de_var 1))))
/-! ## _law_told -/
abbrev s__law_told : Stmt := topS 29
abbrev N__law_told : List Str := ["call", "e", "kinds", "names", "k"]
theorem sc__law_told : FnScope N__law_told ["call"] (defScope s__law_told) := ⟨rfl, rfl, rfl, by decide +kernel, rfl, by decide +kernel, by decide +kernel⟩
def r__law_told_s (ad : Ad) (C a : Addr) : QS := (sSeq (sSet 2 (qLst (qCons (qCB (cIsK ad a C) (qCons (qVar 1) (qCons (qC (.ref ad.NotAllowed)) qNil))) (qCons (qCB (cIsK ad a C) (qCons (qVar 1) (qCons (qC (.ref ad.TooLarge)) qNil))) (qCons (qCB (cIsK ad a C) (qCons (qVar 1) (qCons (qC (.ref ad.Missing)) qNil))) (qCons (qCB (cIsK ad a C) (qCons (qVar 1) (qCons (qC (.ref ad.BadPaper)) qNil))) (qCons (qCB (cIsK ad a C) (qCons (qVar 1) (qCons (qC (.ref ad.BadForm)) qNil))) (qCons (qCB (cIsK ad a C) (qCons (qVar 1) (qCons (qC (.ref ad.Broken)) qNil))) qNil))))))))
    (sSeq (sSet 3 (qLc (iRange1 (qCons (qC (.int 6)) qNil)) (gN 4) (qTru (qBin oIx (qVar 2) (qVar 4))) (qBin oIx (qLst (qCons (qC (.str "refused")) (qCons (qC (.str "large")) (qCons (qC (.str "missing")) (qCons (qC (.str "paper")) (qCons (qC (.str "form")) (qCons (qC (.str "broken")) qNil))))))) (qVar 4)) [4]))
    (sRet (qTup (qCons (qBin oIx (qLst (qCons (qC (.str "odd")) (qCons (qBin oIx (qBin oAdd (qVar 3) (qLst (qCons (qC (.str "")) qNil))) (qC (.int 0))) qNil))) (qCB cToInt (qCons (qBin oEq (qCB cLen (qCons (qVar 3) qNil)) (qC (.int 1))) qNil))) qNil)))))
def r__law_told (ad : Ad) (qc : QE) : QS := (sTry ad.six 1 (sRet (qTup (qCons (qC (.str "told")) (qCons qc qNil)))) (r__law_told_s ad))
theorem d__law_told {X : Cx} (T : Txt X.K X.mg ad) {g : Addr} {cdv : Value} {k : Nat} (s : Shared) (H : Hp) (qc : QE) (hr : Room k (X.A.deeper (envOfC "_law_told" (defScope s__law_told) s.heap.objs.size g cdv))) (hq : ∀ (pn : List (Addr × Obj)) (xe : Value → Shared → Prop) (p1 p2 : Pos), DE ((gotCx X N__law_told "_law_told" (defScope s__law_told) g cdv X.A X.stack s H fun _ _ _ => False).tr pn xe) (.Call (.Name "call" p1) [] [] p2) qc) :
    DB (gotCx X N__law_told "_law_told" (defScope s__law_told) g cdv X.A X.stack s H fun _ _ _ => False) (defBody s__law_told) (r__law_told ad qc) := by
  have hu := hr.units
  have hu5 := u65 hr
  exact (db_one (ds_try (Cs := ad.six) (i := 1) (ts := r__law_told_s ad) rfl rfl sc__law_told.nd rfl rfl ⟨rfl, by decide, Or.inl T.g_SlipError⟩ T.exm (fun pn xe hp => by exact (db_one (ds_ret (de_tup (da_cons de_str (da_cons (hq _ _ _ _) da_nil))))))
      (fun a oe C pn hC hz hd => by have TE := T.exc C hC; exact (db_cons (ds_set (i := 2) sc__law_told.nd rfl (by first | exact Or.inl rfl | exact Or.inr rfl) (de_lst (da_cons (de_callB (cd_isK TE (T.kit C hC) hz hd) rfl T.n_isinstance bb_isinstance (da_cons (de_var 1) (da_cons (de_globR rfl T.g_NotAllowed) da_nil))) (da_cons (de_callB (cd_isK TE (T.kit C hC) hz hd) rfl T.n_isinstance bb_isinstance (da_cons (de_var 1) (da_cons (de_globR rfl T.g_TooLarge) da_nil))) (da_cons (de_callB (cd_isK TE (T.kit C hC) hz hd) rfl T.n_isinstance bb_isinstance (da_cons (de_var 1) (da_cons (de_globR rfl T.g_Missing) da_nil))) (da_cons (de_callB (cd_isK TE (T.kit C hC) hz hd) rfl T.n_isinstance bb_isinstance (da_cons (de_var 1) (da_cons (de_globR rfl T.g_BadPaper) da_nil))) (da_cons (de_callB (cd_isK TE (T.kit C hC) hz hd) rfl T.n_isinstance bb_isinstance (da_cons (de_var 1) (da_cons (de_globR rfl T.g_BadForm) da_nil))) (da_cons (de_callB (cd_isK TE (T.kit C hC) hz hd) rfl T.n_isinstance bb_isinstance (da_cons (de_var 1) (da_cons (de_globR rfl T.g_Broken) da_nil))) da_nil))))))))
    (db_cons (ds_setLcH (i := 3) (own := [("k", 4)]) (hot_suite hz hd) (List.mem_cons_self ..) sc__law_told.nd rfl rfl (sw_true rfl rfl rfl (by decide +kernel)) (dih_range1 rfl T.n_range (da_cons de_int da_nil)) (blkOk_by (own := [("k", 4)]) (N := N__law_told) (sc := defScope s__law_told) (by decide +kernel)) (fun _ _ _ _ _ => (dgo_name (i := 4) sc__law_told.nd rfl (by decide) (by first | exact Or.inl rfl | exact Or.inr rfl))) (fun _ _ _ _ _ => (dts_one (dt_truth (de_ix (de_var 2) (de_var 4))))) (fun _ _ _ _ _ => (de_ix (de_lst (da_cons de_str (da_cons de_str (da_cons de_str (da_cons de_str (da_cons de_str (da_cons de_str da_nil))))))) (de_var 4))))
    (db_one (ds_ret (de_tup (da_cons (de_ix (de_lst (da_cons de_str (da_cons (de_ix (de_bin od_add (de_var 3) (de_lst (da_cons de_str da_nil))) de_int) da_nil))) (de_callTy cd_int rfl T.n_int bb_int (da_cons (de_cmp (od_eq hu) (de_callB cd_len rfl T.n_len bb_len (da_cons (de_var 3) da_nil)) de_int (nomark _)) da_nil))) da_nil)))))))))
/-! ## _law_breaks -/
abbrev s__law_breaks : Stmt := topS 30
abbrev N__law_breaks : List Str := ["table", "wish", "many", "lines", "column", "a", "row", "one", "line", "k", "b"]
theorem sc__law_breaks : FnScope N__law_breaks ["table", "wish"] (defScope s__law_breaks) := ⟨rfl, rfl, rfl, by decide +kernel, rfl, by decide +kernel, by decide +kernel⟩
def r__law_breaks_b1 (ad : Ad) : QS := (sIf (qTru (qCB (cBools fun bs => bs.any id) (qCons (qLc (iRange1 (qCons (qVar 2) qNil)) (gN 10) (qTB (qBin oNe (qVar 10) (qVar 5))) (qAnd (qBin oGe (qBin oIx (qBin oIx (qVar 0) (qVar 5)) (qVar 10)) (qC (.int 0))) (qBin oEq (qBin oIx (qBin oIx (qVar 0) (qVar 5)) (qVar 10)) (qBin oIx (qBin oIx (qVar 0) (qVar 10)) (qVar 5)))) [10]) qNil))) (sRet (qC (.bl true))) sNext)
def r__law_breaks_b2 (ad : Ad) : QS := (sDrop (qMeth mAppend (qVar 3) (qCons (qLc (iRange1 (qCons (qVar 2) qNil)) (gN 6) (qTB (qBin oGe (qBin oIx (qBin oIx (qVar 0) (qVar 6)) (qVar 4)) (qC (.int 0)))) (qBin oIx (qBin oIx (qVar 0) (qVar 6)) (qVar 4)) [6]) qNil)))
def r__law_breaks (ad : Ad) : QS := (sSeq (sSet 2 (qCB cLen (qCons (qVar 0) qNil)))
    (sSeq (sIf (qTB (qBin oEq (qVar 1) (qC (.str "latin")))) (sSeq (sSet 3 (qLc (iSeq (qVar 0)) (gN 6) qYes (qLc (iSeq (qVar 6)) (gN 7) (qTB (qBin oGe (qVar 7) (qC (.int 0)))) (qVar 7) [7]) [6]))
    (sSeq (sFor (iRange1 (qCons (qVar 2) qNil)) (gN 4) (r__law_breaks_b2 ad))
    (sRet (qCB (cBools fun bs => bs.any id) (qCons (qLc (iSeq (qVar 3)) (gN 8) qYes (qBin oLt (qLenSet (qVar 8)) (qCB cLen (qCons (qVar 8) qNil))) [8]) qNil))))) sNext)
    (sSeq (sIf (qTB (qBin oEq (qVar 1) (qC (.str "zero")))) (sRet (qCB (cBools fun bs => bs.any id) (qCons (qLc (iRange1 (qCons (qVar 2) qNil)) (gN 9) qYes (qBin oGt (qBin oIx (qBin oIx (qVar 0) (qVar 9)) (qVar 9)) (qC (.int 0))) [9]) qNil))) sNext)
    (sSeq (sIf (qTB (qBin oEq (qVar 1) (qC (.str "commuting")))) (sSeq (sFor (iRange1 (qCons (qVar 2) qNil)) (gN 5) (r__law_breaks_b1 ad))
    (sRet (qC (.bl false)))) sNext)
    (sRet (qBin (oIs not) (qCall (sp__law_turn ad) (qCons (qVar 0) qNil)) (qC .non)))))))
theorem d__law_breaks (T : Txt K mg ad) (G__law_turn : GF P w K mg base "_law_turn" ["table"] 1 (sp__law_turn ad)) (f : Addr) (cdv : Value) (A : Around) (outer : List Env) (s : Shared) (H : Hp) (E : XK) (hr : Room 1 (A.deeper (envOfC "_law_breaks" (defScope s__law_breaks) s.heap.objs.size f cdv))) :
    DB (cxOf (L2N.CX P w) P w K mg base N__law_breaks "_law_breaks" (defScope s__law_breaks) f cdv A outer s H E) (defBody s__law_breaks) (r__law_breaks ad) := by
  have hu := hr.units
  have hu5 := u65 hr
  have hp : PassesOwn (model P w) (A.deeper (envOfC "_law_breaks" (defScope s__law_breaks) s.heap.objs.size f cdv)) (envOfC "_law_breaks" (defScope s__law_breaks) s.heap.objs.size f cdv) (cxOf (L2N.CX P w) P w K mg base N__law_breaks "_law_breaks" (defScope s__law_breaks) f cdv A outer s H E).xe := passes_of (X := cxOf (L2N.CX P w) P w K mg base N__law_breaks "_law_breaks" (defScope s__law_breaks) f cdv A outer s H E) rfl
  exact (db_cons (ds_set (i := 2) sc__law_breaks.nd rfl (by first | exact Or.inl rfl | exact Or.inr rfl) (de_callB cd_len rfl T.n_len bb_len (da_cons (de_var 0) da_nil)))
    (db_cons (ds_if (dt_cmp (od_eq hu) (de_var 1) de_str (nomark _)) (db_cons (ds_setLc (i := 3) (own := [("row", 6)]) rfl sc__law_breaks.nd rfl rfl (sw_true rfl rfl rfl (by decide +kernel)) (di_seq (de_var 0)) (blkOk_by (own := [("row", 6)]) (N := N__law_breaks) (sc := defScope s__law_breaks) (by decide +kernel)) (fun _ _ _ _ _ => (dgo_name (i := 6) sc__law_breaks.nd rfl (by decide) (by first | exact Or.inl rfl | exact Or.inr rfl))) (fun _ _ _ _ _ => dts_nil) (fun _ _ _ _ _ => (de_lc (own := [("one", 7)]) rfl sc__law_breaks.nd (di_seq (de_var 6)) (blkOk_by (own := [("one", 7)]) (by kernel_rfl)) (fun _ _ _ _ _ => (dgo_name (i := 7) sc__law_breaks.nd rfl (by decide) (by first | exact Or.inl rfl | exact Or.inr rfl))) (fun _ _ _ _ _ => (dts_one (dt_cmp od_ge (de_var 7) de_int (nomark _)))) (fun _ _ _ _ _ => (de_var 7)))))
    (db_cons (ds_for hp rfl (di_range1 rfl T.n_range (da_cons (de_var 2) da_nil)) (dg_name (i := 4) sc__law_breaks.nd rfl (by first | exact Or.inl rfl | exact Or.inr rfl)) (db_one (ds_expr (de_append (de_var 3) (da_cons (de_lc (own := [("row", 6)]) rfl sc__law_breaks.nd (di_range1 rfl T.n_range (da_cons (de_var 2) da_nil)) (blkOk_by (own := [("row", 6)]) (N := N__law_breaks) (sc := defScope s__law_breaks) (by decide +kernel)) (fun _ _ _ _ _ => (dgo_name (i := 6) sc__law_breaks.nd rfl (by decide) (by first | exact Or.inl rfl | exact Or.inr rfl))) (fun _ _ _ _ _ => (dts_one (dt_cmp od_ge (de_ix (de_ix (de_var 0) (de_var 6)) (de_var 4)) de_int (nomark _)))) (fun _ _ _ _ _ => (de_ix (de_ix (de_var 0) (de_var 6)) (de_var 4)))) da_nil)))))
    (db_one (ds_ret (de_callB (cd_any rfl) rfl T.n_any bb_any (da_cons (de_lc (own := [("line", 8)]) rfl sc__law_breaks.nd (di_seq (de_var 3)) (blkOk_by (own := [("line", 8)]) (N := N__law_breaks) (sc := defScope s__law_breaks) (by decide +kernel)) (fun _ _ _ _ _ => (dgo_name (i := 8) sc__law_breaks.nd rfl (by decide) (by first | exact Or.inl rfl | exact Or.inr rfl))) (fun _ _ _ _ _ => dts_nil) (fun _ _ _ _ _ => (de_cmp od_lt (de_lenSet rfl T.n_len rfl T.n_set (de_var 8)) (de_callB cd_len rfl T.n_len bb_len (da_cons (de_var 8) da_nil)) (nomark _)))) da_nil)))))) db_nil)
    (db_cons (ds_if (dt_cmp (od_eq hu) (de_var 1) de_str (nomark _)) (db_one (ds_ret (de_callB (cd_any rfl) rfl T.n_any bb_any (da_cons (de_lc (own := [("k", 9)]) rfl sc__law_breaks.nd (di_range1 rfl T.n_range (da_cons (de_var 2) da_nil)) (blkOk_by (own := [("k", 9)]) (N := N__law_breaks) (sc := defScope s__law_breaks) (by decide +kernel)) (fun _ _ _ _ _ => (dgo_name (i := 9) sc__law_breaks.nd rfl (by decide) (by first | exact Or.inl rfl | exact Or.inr rfl))) (fun _ _ _ _ _ => dts_nil) (fun _ _ _ _ _ => (de_cmp od_gt (de_ix (de_ix (de_var 0) (de_var 9)) (de_var 9)) de_int (nomark _)))) da_nil)))) db_nil)
    (db_cons (ds_if (dt_cmp (od_eq hu) (de_var 1) de_str (nomark _)) (db_cons (ds_for hp rfl (di_range1 rfl T.n_range (da_cons (de_var 2) da_nil)) (dg_name (i := 5) sc__law_breaks.nd rfl (by first | exact Or.inl rfl | exact Or.inr rfl)) (db_one (ds_if (dt_truth (de_callB (cd_any rfl) rfl T.n_any bb_any (da_cons (de_lc (own := [("b", 10)]) rfl sc__law_breaks.nd (di_range1 rfl T.n_range (da_cons (de_var 2) da_nil)) (blkOk_by (own := [("b", 10)]) (N := N__law_breaks) (sc := defScope s__law_breaks) (by decide +kernel)) (fun _ _ _ _ _ => (dgo_name (i := 10) sc__law_breaks.nd rfl (by decide) (by first | exact Or.inl rfl | exact Or.inr rfl))) (fun _ _ _ _ _ => (dts_one (dt_cmp (od_ne hu) (de_var 10) (de_var 5) (nomark _)))) (fun _ _ _ _ _ => (de_and (de_cmp od_ge (de_ix (de_ix (de_var 0) (de_var 5)) (de_var 10)) de_int (nomark _)) (de_one (de_cmp (od_eq hu) (de_ix (de_ix (de_var 0) (de_var 5)) (de_var 10)) (de_ix (de_ix (de_var 0) (de_var 10)) (de_var 5)) (nomark _)))))) da_nil))) (db_one (ds_ret de_bl)) db_nil)))
    (db_one (ds_ret de_bl))) db_nil)
    (db_one (ds_ret (de_cmp od_isNot (de_callF G__law_turn (hr.mono (by decide)) rfl (da_cons (de_var 0) da_nil)) de_non (by rfl))))))))
/-! ## _law_turn -/
abbrev s__law_turn : Stmt := topS 31
abbrev N__law_turn : List Str := ["table", "many", "c", "a", "b", "one", "other"]
theorem sc__law_turn : FnScope N__law_turn ["table"] (defScope s__law_turn) := ⟨rfl, rfl, rfl, by decide +kernel, rfl, by decide +kernel, by decide +kernel⟩
def r__law_turn_b1 (ad : Ad) : QS := (sSeq (sSet 5 (qBin oIx (qBin oIx (qVar 0) (qVar 2)) (qVar 3)))
    (sSeq (sSet 6 (qBin oIx (qBin oIx (qVar 0) (qVar 2)) (qVar 4)))
    (sIf (qAndT (qTB (qBin oGe (qVar 5) (qC (.int 0)))) (qAndT (qTB (qBin oGe (qVar 6) (qC (.int 0)))) (qAndT (qTB (qBin oGe (qBin oIx (qBin oIx (qVar 0) (qVar 5)) (qVar 4)) (qC (.int 0)))) (qTB (qBin oEq (qBin oIx (qBin oIx (qVar 0) (qVar 5)) (qVar 4)) (qBin oIx (qBin oIx (qVar 0) (qVar 6)) (qVar 3))))))) (sRet (qTup (qCons (qVar 2) (qCons (qVar 3) (qCons (qVar 4) qNil))))) sNext)))
def r__law_turn_b2 (ad : Ad) : QS := (sFor (iRange2 (qCons (qBin oAdd (qVar 3) (qC (.int 1))) (qCons (qVar 1) qNil))) (gN 4) (r__law_turn_b1 ad))
def r__law_turn_b3 (ad : Ad) : QS := (sFor (iRange1 (qCons (qVar 1) qNil)) (gN 3) (r__law_turn_b2 ad))
def r__law_turn (ad : Ad) : QS := (sSeq (sSet 1 (qCB cLen (qCons (qVar 0) qNil)))
    (sSeq (sFor (iRange1 (qCons (qVar 1) qNil)) (gN 2) (r__law_turn_b3 ad))
    (sRet (qC .non))))
theorem d__law_turn (T : Txt K mg ad) (f : Addr) (cdv : Value) (A : Around) (outer : List Env) (s : Shared) (H : Hp) (E : XK) (hr : Room 0 (A.deeper (envOfC "_law_turn" (defScope s__law_turn) s.heap.objs.size f cdv))) :
    DB (cxOf (L2N.CX P w) P w K mg base N__law_turn "_law_turn" (defScope s__law_turn) f cdv A outer s H E) (defBody s__law_turn) (r__law_turn ad) := by
  have hu := hr.units
  have hu5 := u65 hr
  have hp : PassesOwn (model P w) (A.deeper (envOfC "_law_turn" (defScope s__law_turn) s.heap.objs.size f cdv)) (envOfC "_law_turn" (defScope s__law_turn) s.heap.objs.size f cdv) (cxOf (L2N.CX P w) P w K mg base N__law_turn "_law_turn" (defScope s__law_turn) f cdv A outer s H E).xe := passes_of (X := cxOf (L2N.CX P w) P w K mg base N__law_turn "_law_turn" (defScope s__law_turn) f cdv A outer s H E) rfl
  exact (db_cons (ds_set (i := 1) sc__law_turn.nd rfl (by first | exact Or.inl rfl | exact Or.inr rfl) (de_callB cd_len rfl T.n_len bb_len (da_cons (de_var 0) da_nil)))
    (db_cons (ds_for hp rfl (di_range1 rfl T.n_range (da_cons (de_var 1) da_nil)) (dg_name (i := 2) sc__law_turn.nd rfl (by first | exact Or.inl rfl | exact Or.inr rfl)) (db_one (ds_for hp rfl (di_range1 rfl T.n_range (da_cons (de_var 1) da_nil)) (dg_name (i := 3) sc__law_turn.nd rfl (by first | exact Or.inl rfl | exact Or.inr rfl)) (db_one (ds_for hp rfl (di_range2 rfl T.n_range (da_cons (de_bin od_add (de_var 3) de_int) (da_cons (de_var 1) da_nil))) (dg_name (i := 4) sc__law_turn.nd rfl (by first | exact Or.inl rfl | exact Or.inr rfl)) (db_cons (ds_set (i := 5) sc__law_turn.nd rfl (by first | exact Or.inl rfl | exact Or.inr rfl) (de_ix (de_ix (de_var 0) (de_var 2)) (de_var 3)))
    (db_cons (ds_set (i := 6) sc__law_turn.nd rfl (by first | exact Or.inl rfl | exact Or.inr rfl) (de_ix (de_ix (de_var 0) (de_var 2)) (de_var 4)))
    (db_one (ds_if (dw_pt (dw_and (dt_cmp od_ge (de_var 5) de_int (nomark _)) (dw_and (dt_cmp od_ge (de_var 6) de_int (nomark _)) (dw_and (dt_cmp od_ge (de_ix (de_ix (de_var 0) (de_var 5)) (de_var 4)) de_int (nomark _)) (dw_and1 (dt_cmp (od_eq hu) (de_ix (de_ix (de_var 0) (de_var 5)) (de_var 4)) (de_ix (de_ix (de_var 0) (de_var 6)) (de_var 3)) (nomark _))))))) (db_one (ds_ret (de_tup (da_cons (de_var 2) (da_cons (de_var 3) (da_cons (de_var 4) da_nil)))))) db_nil)))))))))
    (db_one (ds_ret de_non))))
/-! ## _law_wishes -/
abbrev s__law_wishes : Stmt := topS 32
abbrev N__law_wishes : List Str := ["state", "pool", "k"]
theorem sc__law_wishes : FnScope N__law_wishes ["state"] (defScope s__law_wishes) := ⟨rfl, rfl, rfl, by decide +kernel, rfl, by decide +kernel, by decide +kernel⟩
def r__law_wishes (ad : Ad) : QS := (sSeq (sSet 1 (qLst (qCons (qC (.str "latin")) (qCons (qC (.str "zero")) (qCons (qC (.str "commuting")) (qCons (qC (.str "turning")) qNil))))))
    (sRet (qCB cTuple (qCons (qLc (iRange1 (qCons (qCall (sp__law_next ad) (qCons (qVar 0) (qCons (qC (.int 5)) qNil))) qNil)) (gN 2) qYes (qMeth mPopAt (qVar 1) (qCons (qCall (sp__law_next ad) (qCons (qVar 0) (qCons (qCB cLen (qCons (qVar 1) qNil)) qNil))) qNil)) [2]) qNil))))
theorem d__law_wishes (T : Txt K mg ad) (G__law_next : GF P w K mg base "_law_next" ["state", "many"] 1 (sp__law_next ad)) (f : Addr) (cdv : Value) (A : Around) (outer : List Env) (s : Shared) (H : Hp) (E : XK) (hr : Room 1 (A.deeper (envOfC "_law_wishes" (defScope s__law_wishes) s.heap.objs.size f cdv))) :
    DB (cxOf (L2N.CX P w) P w K mg base N__law_wishes "_law_wishes" (defScope s__law_wishes) f cdv A outer s H E) (defBody s__law_wishes) (r__law_wishes ad) := by
  have hu := hr.units
  have hu5 := u65 hr
  have hp : PassesOwn (model P w) (A.deeper (envOfC "_law_wishes" (defScope s__law_wishes) s.heap.objs.size f cdv)) (envOfC "_law_wishes" (defScope s__law_wishes) s.heap.objs.size f cdv) (cxOf (L2N.CX P w) P w K mg base N__law_wishes "_law_wishes" (defScope s__law_wishes) f cdv A outer s H E).xe := passes_of (X := cxOf (L2N.CX P w) P w K mg base N__law_wishes "_law_wishes" (defScope s__law_wishes) f cdv A outer s H E) rfl
  exact (db_cons (ds_set (i := 1) sc__law_wishes.nd rfl (by first | exact Or.inl rfl | exact Or.inr rfl) (de_lst (da_cons de_str (da_cons de_str (da_cons de_str (da_cons de_str da_nil))))))
    (db_one (ds_ret (de_callTy cd_tuple rfl T.n_tuple bb_tuple (da_cons (de_lc (own := [("k", 2)]) rfl sc__law_wishes.nd (di_range1 rfl T.n_range (da_cons (de_callF G__law_next (hr.mono (by decide)) rfl (da_cons (de_var 0) (da_cons de_int da_nil))) da_nil)) (blkOk_by (own := [("k", 2)]) (N := N__law_wishes) (sc := defScope s__law_wishes) (by decide +kernel)) (fun _ _ _ _ _ => (dgo_name (i := 2) sc__law_wishes.nd rfl (by decide) (by first | exact Or.inl rfl | exact Or.inr rfl))) (fun _ _ _ _ _ => dts_nil) (fun _ _ _ _ _ => (de_popAt (de_var 1) (da_cons (de_callF G__law_next (hr.mono (by decide)) rfl (da_cons (de_var 0) (da_cons (de_callB cd_len rfl T.n_len bb_len (da_cons (de_var 1) da_nil)) da_nil))) da_nil)))) da_nil)))))
/-! ## _law_ring -/
abbrev s__law_ring : Stmt := topS 33
abbrev N__law_ring : List Str := ["many", "one", "other", "a", "b"]
theorem sc__law_ring : FnScope N__law_ring ["many", "one", "other"] (defScope s__law_ring) := ⟨rfl, rfl, rfl, by decide +kernel, rfl, by decide +kernel, by decide +kernel⟩
def r__law_ring (ad : Ad) : QS := (sRet (qCB cTuple (qCons (qLc (iRange1 (qCons (qVar 0) qNil)) (gN 3) qYes (qCB cTuple (qCons (qLc (iRange1 (qCons (qVar 0) qNil)) (gN 4) qYes (qBin oMod (qCB cToInt (qCons (qBin oAdd (qBin oMul (qVar 1) (qVar 3)) (qBin oMul (qVar 2) (qVar 4))) qNil)) (qVar 0)) [4]) qNil)) [3]) qNil)))
theorem d__law_ring (T : Txt K mg ad) (f : Addr) (cdv : Value) (A : Around) (outer : List Env) (s : Shared) (H : Hp) (E : XK) (hr : Room 0 (A.deeper (envOfC "_law_ring" (defScope s__law_ring) s.heap.objs.size f cdv))) :
    DB (cxOf (L2N.CX P w) P w K mg base N__law_ring "_law_ring" (defScope s__law_ring) f cdv A outer s H E) (defBody s__law_ring) (r__law_ring ad) := by
  have hu := hr.units
  have hu5 := u65 hr
  have hp : PassesOwn (model P w) (A.deeper (envOfC "_law_ring" (defScope s__law_ring) s.heap.objs.size f cdv)) (envOfC "_law_ring" (defScope s__law_ring) s.heap.objs.size f cdv) (cxOf (L2N.CX P w) P w K mg base N__law_ring "_law_ring" (defScope s__law_ring) f cdv A outer s H E).xe := passes_of (X := cxOf (L2N.CX P w) P w K mg base N__law_ring "_law_ring" (defScope s__law_ring) f cdv A outer s H E) rfl
  exact (db_one (ds_ret (de_callTy cd_tuple rfl T.n_tuple bb_tuple (da_cons (de_lc (own := [("a", 3)]) rfl sc__law_ring.nd (di_range1 rfl T.n_range (da_cons (de_var 0) da_nil)) (blkOk_by (own := [("a", 3)]) (N := N__law_ring) (sc := defScope s__law_ring) (by decide +kernel)) (fun _ _ _ _ _ => (dgo_name (i := 3) sc__law_ring.nd rfl (by decide) (by first | exact Or.inl rfl | exact Or.inr rfl))) (fun _ _ _ _ _ => dts_nil) (fun _ _ _ _ _ => (de_callTy cd_tuple rfl T.n_tuple bb_tuple (da_cons (de_lc (own := [("b", 4)]) rfl sc__law_ring.nd (di_range1 rfl T.n_range (da_cons (de_var 0) da_nil)) (blkOk_by (own := [("b", 4)]) (by kernel_rfl)) (fun _ _ _ _ _ => (dgo_name (i := 4) sc__law_ring.nd rfl (by decide) (by first | exact Or.inl rfl | exact Or.inr rfl))) (fun _ _ _ _ _ => dts_nil) (fun _ _ _ _ _ => (de_bin od_mod (de_callTy cd_int rfl T.n_int bb_int (da_cons (de_bin od_add (de_bin od_mul (de_var 1) (de_var 3)) (de_bin od_mul (de_var 2) (de_var 4))) da_nil)) (de_var 0)))) da_nil)))) da_nil))))
/-! ## _law_order -/
abbrev s__law_order : Stmt := topS 34
abbrev N__law_order : List Str := ["state", "many", "pool", "k"]
theorem sc__law_order : FnScope N__law_order ["state", "many"] (defScope s__law_order) := ⟨rfl, rfl, rfl, by decide +kernel, rfl, by decide +kernel, by decide +kernel⟩
def r__law_order (ad : Ad) : QS := (sSeq (sSet 2 (qLc (iRange1 (qCons (qVar 1) qNil)) (gN 3) qYes (qVar 3) [3]))
    (sRet (qCB cTupleP (qCons (qLc (iRange1 (qCons (qVar 1) qNil)) (gN 3) qYes (qMeth mPopAt (qVar 2) (qCons (qCall (sp__law_next ad) (qCons (qVar 0) (qCons (qCB cLen (qCons (qVar 2) qNil)) qNil))) qNil)) [3]) qNil))))
theorem d__law_order (T : Txt K mg ad) (G__law_next : GF P w K mg base "_law_next" ["state", "many"] 1 (sp__law_next ad)) (f : Addr) (cdv : Value) (A : Around) (outer : List Env) (s : Shared) (H : Hp) (E : XK) (hr : Room 1 (A.deeper (envOfC "_law_order" (defScope s__law_order) s.heap.objs.size f cdv))) :
    DB (cxOf (L2N.CX P w) P w K mg base N__law_order "_law_order" (defScope s__law_order) f cdv A outer s H E) (defBody s__law_order) (r__law_order ad) := by
  have hu := hr.units
  have hu5 := u65 hr
  have hp : PassesOwn (model P w) (A.deeper (envOfC "_law_order" (defScope s__law_order) s.heap.objs.size f cdv)) (envOfC "_law_order" (defScope s__law_order) s.heap.objs.size f cdv) (cxOf (L2N.CX P w) P w K mg base N__law_order "_law_order" (defScope s__law_order) f cdv A outer s H E).xe := passes_of (X := cxOf (L2N.CX P w) P w K mg base N__law_order "_law_order" (defScope s__law_order) f cdv A outer s H E) rfl
  exact (db_cons (ds_set (i := 2) sc__law_order.nd rfl (by first | exact Or.inl rfl | exact Or.inr rfl) (de_lc (own := [("k", 3)]) rfl sc__law_order.nd (di_range1 rfl T.n_range (da_cons (de_var 1) da_nil)) (blkOk_by (own := [("k", 3)]) (N := N__law_order) (sc := defScope s__law_order) (by decide +kernel)) (fun _ _ _ _ _ => (dgo_name (i := 3) sc__law_order.nd rfl (by decide) (by first | exact Or.inl rfl | exact Or.inr rfl))) (fun _ _ _ _ _ => dts_nil) (fun _ _ _ _ _ => (de_var 3))))
    (db_one (ds_ret (de_callTy cd_tupleP rfl T.n_tuple bb_tuple (da_cons (de_lc (own := [("k", 3)]) rfl sc__law_order.nd (di_range1 rfl T.n_range (da_cons (de_var 1) da_nil)) (blkOk_by (own := [("k", 3)]) (N := N__law_order) (sc := defScope s__law_order) (by decide +kernel)) (fun _ _ _ _ _ => (dgo_name (i := 3) sc__law_order.nd rfl (by decide) (by first | exact Or.inl rfl | exact Or.inr rfl))) (fun _ _ _ _ _ => dts_nil) (fun _ _ _ _ _ => (de_popAt (de_var 2) (da_cons (de_callF G__law_next (hr.mono (by decide)) rfl (da_cons (de_var 0) (da_cons (de_callB cd_len rfl T.n_len bb_len (da_cons (de_var 2) da_nil)) da_nil))) da_nil)))) da_nil)))))
/-! ## _law_renamed -/
abbrev s__law_renamed : Stmt := topS 35
abbrev N__law_renamed : List Str := ["table", "order", "many", "places", "k", "a", "b"]
theorem sc__law_renamed : FnScope N__law_renamed ["table", "order"] (defScope s__law_renamed) := ⟨rfl, rfl, rfl, by decide +kernel, rfl, by decide +kernel, by decide +kernel⟩
def r__law_renamed (ad : Ad) : QS := (sSeq (sSet 2 (qCB cLen (qCons (qVar 0) qNil)))
    (sSeq (sSet 3 (qLc (iRange1 (qCons (qVar 2) qNil)) (gN 4) qYes (qTupIx (qVar 1) (qCons (qVar 4) qNil)) [4]))
    (sRet (qCB cTuple (qCons (qLc (iRange1 (qCons (qVar 2) qNil)) (gN 5) qYes (qCB cTuple (qCons (qLc (iRange1 (qCons (qVar 2) qNil)) (gN 6) qYes (qBin oIx (qVar 1) (qBin oIx (qBin oIx (qVar 0) (qBin oIx (qVar 3) (qVar 5))) (qBin oIx (qVar 3) (qVar 6)))) [6]) qNil)) [5]) qNil)))))
theorem d__law_renamed (T : Txt K mg ad) (f : Addr) (cdv : Value) (A : Around) (outer : List Env) (s : Shared) (H : Hp) (E : XK) (hr : Room 0 (A.deeper (envOfC "_law_renamed" (defScope s__law_renamed) s.heap.objs.size f cdv))) :
    DB (cxOf (L2N.CX P w) P w K mg base N__law_renamed "_law_renamed" (defScope s__law_renamed) f cdv A outer s H E) (defBody s__law_renamed) (r__law_renamed ad) := by
  have hu := hr.units
  have hu5 := u65 hr
  have hp : PassesOwn (model P w) (A.deeper (envOfC "_law_renamed" (defScope s__law_renamed) s.heap.objs.size f cdv)) (envOfC "_law_renamed" (defScope s__law_renamed) s.heap.objs.size f cdv) (cxOf (L2N.CX P w) P w K mg base N__law_renamed "_law_renamed" (defScope s__law_renamed) f cdv A outer s H E).xe := passes_of (X := cxOf (L2N.CX P w) P w K mg base N__law_renamed "_law_renamed" (defScope s__law_renamed) f cdv A outer s H E) rfl
  exact (db_cons (ds_set (i := 2) sc__law_renamed.nd rfl (by first | exact Or.inl rfl | exact Or.inr rfl) (de_callB cd_len rfl T.n_len bb_len (da_cons (de_var 0) da_nil)))
    (db_cons (ds_set (i := 3) sc__law_renamed.nd rfl (by first | exact Or.inl rfl | exact Or.inr rfl) (de_lc (own := [("k", 4)]) rfl sc__law_renamed.nd (di_range1 rfl T.n_range (da_cons (de_var 2) da_nil)) (blkOk_by (own := [("k", 4)]) (N := N__law_renamed) (sc := defScope s__law_renamed) (by decide +kernel)) (fun _ _ _ _ _ => (dgo_name (i := 4) sc__law_renamed.nd rfl (by decide) (by first | exact Or.inl rfl | exact Or.inr rfl))) (fun _ _ _ _ _ => dts_nil) (fun _ _ _ _ _ => (de_tupIx (de_var 1) (da_cons (de_var 4) da_nil)))))
    (db_one (ds_ret (de_callTy cd_tuple rfl T.n_tuple bb_tuple (da_cons (de_lc (own := [("a", 5)]) rfl sc__law_renamed.nd (di_range1 rfl T.n_range (da_cons (de_var 2) da_nil)) (blkOk_by (own := [("a", 5)]) (N := N__law_renamed) (sc := defScope s__law_renamed) (by decide +kernel)) (fun _ _ _ _ _ => (dgo_name (i := 5) sc__law_renamed.nd rfl (by decide) (by first | exact Or.inl rfl | exact Or.inr rfl))) (fun _ _ _ _ _ => dts_nil) (fun _ _ _ _ _ => (de_callTy cd_tuple rfl T.n_tuple bb_tuple (da_cons (de_lc (own := [("b", 6)]) rfl sc__law_renamed.nd (di_range1 rfl T.n_range (da_cons (de_var 2) da_nil)) (blkOk_by (own := [("b", 6)]) (by kernel_rfl)) (fun _ _ _ _ _ => (dgo_name (i := 6) sc__law_renamed.nd rfl (by decide) (by first | exact Or.inl rfl | exact Or.inr rfl))) (fun _ _ _ _ _ => dts_nil) (fun _ _ _ _ _ => (de_ix (de_var 1) (de_ix (de_ix (de_var 0) (de_ix (de_var 3) (de_var 5))) (de_ix (de_var 3) (de_var 6)))))) da_nil)))) da_nil))))))
/-! ## _law_table -/
abbrev s__law_table : Stmt := topS 36
abbrev N__law_table : List Str := ["state", "most", "many", "table", "k", "a", "b"]
theorem sc__law_table : FnScope N__law_table ["state", "most"] (defScope s__law_table) := ⟨rfl, rfl, rfl, by decide +kernel, rfl, by decide +kernel, by decide +kernel⟩
def r__law_table_b1 (ad : Ad) : QS := (sSeq (sSet 5 (qCall (sp__law_next ad) (qCons (qVar 0) (qCons (qVar 2) qNil))))
    (sSeq (sSet 6 (qCall (sp__law_next ad) (qCons (qVar 0) (qCons (qVar 2) qNil))))
    (sSet 3 (qBin oAdd (qBin oAdd (qSl (qVar 3) qNo (qPart (qVar 5))) (qTup (qCons (qBin oAdd (qBin oAdd (qSl (qBin oIx (qVar 3) (qVar 5)) qNo (qPart (qVar 6))) (qTup (qCons (qCall (sp__law_next ad) (qCons (qVar 0) (qCons (qVar 2) qNil))) qNil))) (qSl (qBin oIx (qVar 3) (qVar 5)) (qPart (qBin oAdd (qVar 6) (qC (.int 1)))) qNo)) qNil))) (qSl (qVar 3) (qPart (qBin oAdd (qVar 5) (qC (.int 1)))) qNo)))))
def r__law_table (ad : Ad) : QS := (sSeq (sSet 2 (qBin oIx (qLst (qCons (qBin oAdd (qC (.int 1)) (qCall (sp__law_next ad) (qCons (qVar 0) (qCons (qVar 1) qNil)))) (qCons (qVar 1) qNil))) (qCB cToInt (qCons (qBin oEq (qCall (sp__law_next ad) (qCons (qVar 0) (qCons (qC (.int 4)) qNil))) (qC (.int 0))) qNil))))
    (sSeq (sSet 3 (qCall (sp__law_ring ad) (qCons (qVar 2) (qCons (qBin oIx (qLst (qCons (qC (.int 1)) (qCons (qBin oSub (qVar 2) (qC (.int 1))) (qCons (qC (.int 2)) (qCons (qCall (sp__law_next ad) (qCons (qVar 0) (qCons (qVar 2) qNil))) qNil))))) (qCall (sp__law_next ad) (qCons (qVar 0) (qCons (qC (.int 4)) qNil)))) (qCons (qBin oIx (qLst (qCons (qC (.int 1)) (qCons (qC (.int 2)) (qCons (qBin oSub (qVar 2) (qC (.int 1))) (qCons (qCall (sp__law_next ad) (qCons (qVar 0) (qCons (qVar 2) qNil))) qNil))))) (qCall (sp__law_next ad) (qCons (qVar 0) (qCons (qC (.int 4)) qNil)))) qNil)))))
    (sSeq (sIf (qTB (qBin oEq (qCall (sp__law_next ad) (qCons (qVar 0) (qCons (qC (.int 2)) qNil))) (qC (.int 0)))) (sSet 3 (qCall (sp__law_renamed ad) (qCons (qVar 3) (qCons (qCall (sp__law_order ad) (qCons (qVar 0) (qCons (qVar 2) qNil))) qNil)))) sNext)
    (sSeq (sFor (iRange1 (qCons (qBin oIx (qLst (qCons (qC (.int 0)) (qCons (qC (.int 0)) (qCons (qC (.int 1)) (qCons (qC (.int 3)) qNil))))) (qCall (sp__law_next ad) (qCons (qVar 0) (qCons (qC (.int 4)) qNil)))) qNil)) (gN 4) (r__law_table_b1 ad))
    (sRet (qVar 3))))))
theorem d__law_table (T : Txt K mg ad) (G__law_next : GF P w K mg base "_law_next" ["state", "many"] 1 (sp__law_next ad)) (G__law_order : GF P w K mg base "_law_order" ["state", "many"] 2 (sp__law_order ad)) (G__law_renamed : GF P w K mg base "_law_renamed" ["table", "order"] 1 (sp__law_renamed ad)) (G__law_ring : GF P w K mg base "_law_ring" ["many", "one", "other"] 1 (sp__law_ring ad)) (f : Addr) (cdv : Value) (A : Around) (outer : List Env) (s : Shared) (H : Hp) (E : XK) (hr : Room 2 (A.deeper (envOfC "_law_table" (defScope s__law_table) s.heap.objs.size f cdv))) :
    DB (cxOf (L2N.CX P w) P w K mg base N__law_table "_law_table" (defScope s__law_table) f cdv A outer s H E) (defBody s__law_table) (r__law_table ad) := by
  have hu := hr.units
  have hu5 := u65 hr
  have hp : PassesOwn (model P w) (A.deeper (envOfC "_law_table" (defScope s__law_table) s.heap.objs.size f cdv)) (envOfC "_law_table" (defScope s__law_table) s.heap.objs.size f cdv) (cxOf (L2N.CX P w) P w K mg base N__law_table "_law_table" (defScope s__law_table) f cdv A outer s H E).xe := passes_of (X := cxOf (L2N.CX P w) P w K mg base N__law_table "_law_table" (defScope s__law_table) f cdv A outer s H E) rfl
  exact (db_cons (ds_set (i := 2) sc__law_table.nd rfl (by first | exact Or.inl rfl | exact Or.inr rfl) (de_ix (de_lst (da_cons (de_bin od_add de_int (de_callF G__law_next (hr.mono (by decide)) rfl (da_cons (de_var 0) (da_cons (de_var 1) da_nil)))) (da_cons (de_var 1) da_nil))) (de_callTy cd_int rfl T.n_int bb_int (da_cons (de_cmp (od_eq hu) (de_callF G__law_next (hr.mono (by decide)) rfl (da_cons (de_var 0) (da_cons de_int da_nil))) de_int (nomark _)) da_nil))))
    (db_cons (ds_set (i := 3) sc__law_table.nd rfl (by first | exact Or.inl rfl | exact Or.inr rfl) (de_callF G__law_ring (hr.mono (by decide)) rfl (da_cons (de_var 2) (da_cons (de_ix (de_lst (da_cons de_int (da_cons (de_bin od_sub (de_var 2) de_int) (da_cons de_int (da_cons (de_callF G__law_next (hr.mono (by decide)) rfl (da_cons (de_var 0) (da_cons (de_var 2) da_nil))) da_nil))))) (de_callF G__law_next (hr.mono (by decide)) rfl (da_cons (de_var 0) (da_cons de_int da_nil)))) (da_cons (de_ix (de_lst (da_cons de_int (da_cons de_int (da_cons (de_bin od_sub (de_var 2) de_int) (da_cons (de_callF G__law_next (hr.mono (by decide)) rfl (da_cons (de_var 0) (da_cons (de_var 2) da_nil))) da_nil))))) (de_callF G__law_next (hr.mono (by decide)) rfl (da_cons (de_var 0) (da_cons de_int da_nil)))) da_nil)))))
    (db_cons (ds_if (dt_cmp (od_eq hu) (de_callF G__law_next (hr.mono (by decide)) rfl (da_cons (de_var 0) (da_cons de_int da_nil))) de_int (nomark _)) (db_one (ds_set (i := 3) sc__law_table.nd rfl (by first | exact Or.inl rfl | exact Or.inr rfl) (de_callF G__law_renamed (hr.mono (by decide)) rfl (da_cons (de_var 3) (da_cons (de_callF G__law_order (hr.mono (by decide)) rfl (da_cons (de_var 0) (da_cons (de_var 2) da_nil))) da_nil))))) db_nil)
    (db_cons (ds_for hp rfl (di_range1 rfl T.n_range (da_cons (de_ix (de_lst (da_cons de_int (da_cons de_int (da_cons de_int (da_cons de_int da_nil))))) (de_callF G__law_next (hr.mono (by decide)) rfl (da_cons (de_var 0) (da_cons de_int da_nil)))) da_nil)) (dg_name (i := 4) sc__law_table.nd rfl (by first | exact Or.inl rfl | exact Or.inr rfl)) (db_cons (ds_set (i := 5) sc__law_table.nd rfl (by first | exact Or.inl rfl | exact Or.inr rfl) (de_callF G__law_next (hr.mono (by decide)) rfl (da_cons (de_var 0) (da_cons (de_var 2) da_nil))))
    (db_cons (ds_set (i := 6) sc__law_table.nd rfl (by first | exact Or.inl rfl | exact Or.inr rfl) (de_callF G__law_next (hr.mono (by decide)) rfl (da_cons (de_var 0) (da_cons (de_var 2) da_nil))))
    (db_one (ds_set (i := 3) sc__law_table.nd rfl (by first | exact Or.inl rfl | exact Or.inr rfl) (de_bin od_add (de_bin od_add (de_sl (de_var 3) do_none (do_some (de_var 5))) (de_tup (da_cons (de_bin od_add (de_bin od_add (de_sl (de_ix (de_var 3) (de_var 5)) do_none (do_some (de_var 6))) (de_tup (da_cons (de_callF G__law_next (hr.mono (by decide)) rfl (da_cons (de_var 0) (da_cons (de_var 2) da_nil))) da_nil))) (de_sl (de_ix (de_var 3) (de_var 5)) (do_some (de_bin od_add (de_var 6) de_int)) do_none)) da_nil))) (de_sl (de_var 3) (do_some (de_bin od_add (de_var 5) de_int)) do_none)))))))
    (db_one (ds_ret (de_var 3)))))))
/-! ## _law_holes -/
abbrev s__law_holes : Stmt := topS 37
abbrev N__law_holes : List Str := ["state", "table", "many", "order", "rows", "k", "row"]
theorem sc__law_holes : FnScope N__law_holes ["state", "table", "many"] (defScope s__law_holes) := ⟨rfl, rfl, rfl, by decide +kernel, rfl, by decide +kernel, by decide +kernel⟩
def r__law_holes_b1 (ad : Ad) : QS := (sAsg (qNeg (qC (.int 1))) (gS (qBin oIx (qVar 4) (qCall (sp__law_next ad) (qCons (qVar 0) (qCons (qVar 3) qNil)))) (qCall (sp__law_next ad) (qCons (qVar 0) (qCons (qVar 3) qNil)))))
def r__law_holes (ad : Ad) : QS := (sSeq (sSet 3 (qCB cLen (qCons (qVar 1) qNil)))
    (sSeq (sSet 4 (qLc (iSeq (qVar 1)) (gN 6) qYes (qCB cList (qCons (qVar 6) qNil)) [6]))
    (sSeq (sFor (iRange1 (qCons (qVar 2) qNil)) (gN 5) (r__law_holes_b1 ad))
    (sRet (qCB cTuple (qCons (qLc (iSeq (qVar 4)) (gN 6) qYes (qCB cTuple (qCons (qVar 6) qNil)) [6]) qNil))))))
theorem d__law_holes (T : Txt K mg ad) (G__law_next : GF P w K mg base "_law_next" ["state", "many"] 1 (sp__law_next ad)) (f : Addr) (cdv : Value) (A : Around) (outer : List Env) (s : Shared) (H : Hp) (E : XK) (hr : Room 1 (A.deeper (envOfC "_law_holes" (defScope s__law_holes) s.heap.objs.size f cdv))) :
    DB (cxOf (L2N.CX P w) P w K mg base N__law_holes "_law_holes" (defScope s__law_holes) f cdv A outer s H E) (defBody s__law_holes) (r__law_holes ad) := by
  have hu := hr.units
  have hu5 := u65 hr
  have hp : PassesOwn (model P w) (A.deeper (envOfC "_law_holes" (defScope s__law_holes) s.heap.objs.size f cdv)) (envOfC "_law_holes" (defScope s__law_holes) s.heap.objs.size f cdv) (cxOf (L2N.CX P w) P w K mg base N__law_holes "_law_holes" (defScope s__law_holes) f cdv A outer s H E).xe := passes_of (X := cxOf (L2N.CX P w) P w K mg base N__law_holes "_law_holes" (defScope s__law_holes) f cdv A outer s H E) rfl
  exact (db_cons (ds_set (i := 3) sc__law_holes.nd rfl (by first | exact Or.inl rfl | exact Or.inr rfl) (de_callB cd_len rfl T.n_len bb_len (da_cons (de_var 1) da_nil)))
    (db_cons (ds_setLc (i := 4) (own := [("row", 6)]) rfl sc__law_holes.nd rfl rfl (sw_true rfl rfl rfl (by decide +kernel)) (di_seq (de_var 1)) (blkOk_by (own := [("row", 6)]) (N := N__law_holes) (sc := defScope s__law_holes) (by decide +kernel)) (fun _ _ _ _ _ => (dgo_name (i := 6) sc__law_holes.nd rfl (by decide) (by first | exact Or.inl rfl | exact Or.inr rfl))) (fun _ _ _ _ _ => dts_nil) (fun _ _ _ _ _ => (de_callTy cd_list rfl T.n_list bb_list (da_cons (de_var 6) da_nil))))
    (db_cons (ds_for hp rfl (di_range1 rfl T.n_range (da_cons (de_var 2) da_nil)) (dg_name (i := 5) sc__law_holes.nd rfl (by first | exact Or.inl rfl | exact Or.inr rfl)) (db_one (ds_asg (de_neg de_int) (dg_sub (de_ix (de_var 4) (de_callF G__law_next (hr.mono (by decide)) rfl (da_cons (de_var 0) (da_cons (de_var 3) da_nil)))) (de_callF G__law_next (hr.mono (by decide)) rfl (da_cons (de_var 0) (da_cons (de_var 3) da_nil)))))))
    (db_one (ds_ret (de_callTy cd_tuple rfl T.n_tuple bb_tuple (da_cons (de_lc (own := [("row", 6)]) rfl sc__law_holes.nd (di_seq (de_var 4)) (blkOk_by (own := [("row", 6)]) (N := N__law_holes) (sc := defScope s__law_holes) (by decide +kernel)) (fun _ _ _ _ _ => (dgo_name (i := 6) sc__law_holes.nd rfl (by decide) (by first | exact Or.inl rfl | exact Or.inr rfl))) (fun _ _ _ _ _ => dts_nil) (fun _ _ _ _ _ => (de_callTy cd_tuple rfl T.n_tuple bb_tuple (da_cons (de_var 6) da_nil)))) da_nil)))))))
/-! ## _law_wrong_table -/
abbrev s__law_wrong_table : Stmt := topS 38
abbrev N__law_wrong_table : List Str := ["state", "table", "many", "at", "row", "rows"]
theorem sc__law_wrong_table : FnScope N__law_wrong_table ["state", "table"] (defScope s__law_wrong_table) := ⟨rfl, rfl, rfl, by decide +kernel, rfl, by decide +kernel, by decide +kernel⟩
def r__law_wrong_table (ad : Ad) : QS := (sSeq (sSet 2 (qCB cLen (qCons (qVar 1) qNil)))
    (sSeq (sSet 3 (qCall (sp__law_next ad) (qCons (qVar 0) (qCons (qVar 2) qNil))))
    (sSeq (sSet 4 (qBin oIx (qVar 1) (qVar 3)))
    (sSeq (sSet 5 (qLst (qCons (qSl (qVar 4) (qPart (qC (.int 1))) qNo) (qCons (qBin oAdd (qVar 4) (qTup (qCons (qC (.int 0)) qNil))) (qCons (qBin oAdd (qSl (qVar 4) qNo (qPart (qNeg (qC (.int 1))))) (qTup (qCons (qVar 2) qNil))) (qCons (qBin oAdd (qTup (qCons (qNeg (qC (.int 2))) qNil)) (qSl (qVar 4) (qPart (qC (.int 1))) qNo)) qNil))))))
    (sRet (qBin oIx (qLst (qCons (qTup qNil) (qCons (qBin oAdd (qSl (qVar 1) (qPart (qC (.int 1))) qNo) (qBin oMulY (qTup (qCons (qTup qNil) qNil)) (qCB cToInt (qCons (qBin oEq (qVar 2) (qC (.int 1))) qNil)))) (qCons (qBin oAdd (qVar 1) (qSl (qVar 1) qNo (qPart (qC (.int 1))))) (qCons (qBin oAdd (qBin oAdd (qSl (qVar 1) qNo (qPart (qVar 3))) (qTup (qCons (qBin oIx (qVar 5) (qCall (sp__law_next ad) (qCons (qVar 0) (qCons (qC (.int 4)) qNil)))) qNil))) (qSl (qVar 1) (qPart (qBin oAdd (qVar 3) (qC (.int 1)))) qNo)) (qCons (qBin oMulY (qTup (qCons (qBin oMulY (qTup (qCons (qC (.int 0)) qNil)) (qC (.int 13))) qNil)) (qC (.int 13))) qNil)))))) (qCall (sp__law_next ad) (qCons (qVar 0) (qCons (qC (.int 5)) qNil)))))))))
theorem d__law_wrong_table (T : Txt K mg ad) (G__law_next : GF P w K mg base "_law_next" ["state", "many"] 1 (sp__law_next ad)) (f : Addr) (cdv : Value) (A : Around) (outer : List Env) (s : Shared) (H : Hp) (E : XK) (hr : Room 1 (A.deeper (envOfC "_law_wrong_table" (defScope s__law_wrong_table) s.heap.objs.size f cdv))) :
    DB (cxOf (L2N.CX P w) P w K mg base N__law_wrong_table "_law_wrong_table" (defScope s__law_wrong_table) f cdv A outer s H E) (defBody s__law_wrong_table) (r__law_wrong_table ad) := by
  have hu := hr.units
  have hu5 := u65 hr
  have hp : PassesOwn (model P w) (A.deeper (envOfC "_law_wrong_table" (defScope s__law_wrong_table) s.heap.objs.size f cdv)) (envOfC "_law_wrong_table" (defScope s__law_wrong_table) s.heap.objs.size f cdv) (cxOf (L2N.CX P w) P w K mg base N__law_wrong_table "_law_wrong_table" (defScope s__law_wrong_table) f cdv A outer s H E).xe := passes_of (X := cxOf (L2N.CX P w) P w K mg base N__law_wrong_table "_law_wrong_table" (defScope s__law_wrong_table) f cdv A outer s H E) rfl
  exact (db_cons (ds_set (i := 2) sc__law_wrong_table.nd rfl (by first | exact Or.inl rfl | exact Or.inr rfl) (de_callB cd_len rfl T.n_len bb_len (da_cons (de_var 1) da_nil)))
    (db_cons (ds_set (i := 3) sc__law_wrong_table.nd rfl (by first | exact Or.inl rfl | exact Or.inr rfl) (de_callF G__law_next (hr.mono (by decide)) rfl (da_cons (de_var 0) (da_cons (de_var 2) da_nil))))
    (db_cons (ds_set (i := 4) sc__law_wrong_table.nd rfl (by first | exact Or.inl rfl | exact Or.inr rfl) (de_ix (de_var 1) (de_var 3)))
    (db_cons (ds_set (i := 5) sc__law_wrong_table.nd rfl (by first | exact Or.inl rfl | exact Or.inr rfl) (de_lst (da_cons (de_sl (de_var 4) (do_some de_int) do_none) (da_cons (de_bin od_add (de_var 4) (de_tup (da_cons de_int da_nil))) (da_cons (de_bin od_add (de_sl (de_var 4) do_none (do_some (de_neg de_int))) (de_tup (da_cons (de_var 2) da_nil))) (da_cons (de_bin od_add (de_tup (da_cons (de_neg de_int) da_nil)) (de_sl (de_var 4) (do_some de_int) do_none)) da_nil))))))
    (db_one (ds_ret (de_ix (de_lst (da_cons (de_tup da_nil) (da_cons (de_bin od_add (de_sl (de_var 1) (do_some de_int) do_none) (de_bin od_mulY (de_tup (da_cons (de_tup da_nil) da_nil)) (de_callTy cd_int rfl T.n_int bb_int (da_cons (de_cmp (od_eq hu) (de_var 2) de_int (nomark _)) da_nil)))) (da_cons (de_bin od_add (de_var 1) (de_sl (de_var 1) do_none (do_some de_int))) (da_cons (de_bin od_add (de_bin od_add (de_sl (de_var 1) do_none (do_some (de_var 3))) (de_tup (da_cons (de_ix (de_var 5) (de_callF G__law_next (hr.mono (by decide)) rfl (da_cons (de_var 0) (da_cons de_int da_nil)))) da_nil))) (de_sl (de_var 1) (do_some (de_bin od_add (de_var 3) de_int)) do_none)) (da_cons (de_bin od_mulY (de_tup (da_cons (de_bin od_mulY (de_tup (da_cons de_int da_nil)) de_int) da_nil)) de_int) da_nil)))))) (de_callF G__law_next (hr.mono (by decide)) rfl (da_cons (de_var 0) (da_cons de_int da_nil))))))))))
/-! ## law -/
abbrev s_law : Stmt := topS 39
abbrev N_law : List Str := ["script", "state", "turn", "table", "many", "kept", "wishes", "due", "found", "told", "holes", "wrong", "odd", "hole", "bad", "partial", "wish", "broken"]
theorem sc_law : FnScope N_law ["script"] (defScope s_law) := ⟨rfl, rfl, rfl, by decide +kernel, rfl, by decide +kernel, by decide +kernel⟩
def r_law_b1 (ad : Ad) (tb : List (Addr × Str)) (nm : Str) : QS := (sIf (qOrT (qTB (qBin oNe (qLam tb N__law_told nm (r__law_told ad) (qCall (sp_keeps ad) (qCons (qVar 14) (qCons (qVar 6) qNil)))) (qTup (qCons (qC (.str "refused")) qNil)))) (qTB (qBin oNe (qLam tb N__law_told nm (r__law_told ad) (qCall (sp_first_turned ad) (qCons (qVar 14) qNil))) (qTup (qCons (qC (.str "refused")) qNil))))) (sRet (qC (.bl false))) sNext)
def r_law_c1 (ad : Ad) (tb : List (Addr × Str)) (nm : Str) : QS := (sIf (qNotT (qTru (qCall (sp__law_same ad) (qCons (qLam tb N__law_told nm (r__law_told ad) (qCall (sp_is_broken ad) (qCons (qVar 15) (qCons (qVar 16) qNil)))) (qCons (qTup (qCons (qC (.str "told")) (qCons (qVar 17) qNil))) qNil))))) (sRet (qC (.bl false))) sNext)
def r_law_b2 (ad : Ad) (tb : List (Addr × Str)) (nm : Str) : QS := (sSeq (sSet 17 (qCall (sp__law_breaks ad) (qCons (qVar 15) (qCons (qVar 16) qNil))))
    (sSeq (r_law_c1 ad tb nm)
    (sIf (qAndT (qTru (qVar 17)) (qNotT (qTru (qCall (sp__law_breaks ad) (qCons (qVar 3) (qCons (qVar 16) qNil)))))) (sRet (qC (.bl false))) sNext)))
def r_law_b3 (ad : Ad) (tb : List (Addr × Str)) (nm : Str) : QS := (sSeq (sSet 15 (qCall (sp__law_holes ad) (qCons (qVar 1) (qCons (qVar 3) (qCons (qVar 10) qNil)))))
    (sFor (iSeq (qLst (qCons (qC (.str "latin")) (qCons (qC (.str "zero")) (qCons (qC (.str "commuting")) (qCons (qC (.str "turning")) qNil)))))) (gN 16) (r_law_b2 ad tb nm)))
def r_law_c2 (ad : Ad) (tb : List (Addr × Str)) (nm : Str) : QS := (sIf (qNotT (qTru (qCall (sp__law_same ad) (qCons (qLam tb N__law_told nm (r__law_told ad) (qCall (sp_first_turned ad) (qCons (qVar 3) qNil))) (qCons (qVar 9) qNil))))) (sRet (qC (.bl false))) sNext)
def r_law_c3 (ad : Ad) (tb : List (Addr × Str)) (nm : Str) : QS := (sIf (qNotT (qTru (qCall (sp__law_same ad) (qCons (qLam tb N__law_told nm (r__law_told ad) (qCall (sp_keeps ad) (qCons (qVar 3) (qCons (qVar 6) qNil)))) (qCons (qTup (qCons (qC (.str "told")) (qCons (qVar 7) qNil))) qNil))))) (sRet (qC (.bl false))) sNext)
def r_law_b4 (ad : Ad) (tb : List (Addr × Str)) (nm : Str) : QS := (sSeq (sSet 3 (qCall (sp__law_table ad) (qCons (qVar 1) (qCons (qBin oIx (qLst (qCons (qC (.int 4)) (qCons (qC (.int 7)) (qCons (qC (.int 12)) qNil)))) (qCall (sp__law_next ad) (qCons (qVar 1) (qCons (qC (.int 3)) qNil)))) qNil))))
    (sSeq (sSet 4 (qCB cLen (qCons (qVar 3) qNil)))
    (sSeq (sSet 5 (qCB cRepr2 (qCons (qVar 3) qNil)))
    (sSeq (sSet 6 (qCall (sp__law_wishes ad) (qCons (qVar 1) qNil)))
    (sSeq (sSet 7 (qNot (qCB (cBools fun bs => bs.any id) (qCons (qLc (iSeq (qVar 6)) (gN 16) qYes (qCall (sp__law_breaks ad) (qCons (qVar 3) (qCons (qVar 16) qNil))) [16]) qNil))))
    (sSeq (r_law_c3 ad tb nm)
    (sSeq (sSet 8 (qCall (sp__law_turn ad) (qCons (qVar 3) qNil)))
    (sSeq (sSet 9 (qBin oIx (qLst (qCons (qTup (qCons (qC (.str "told")) (qCons (qVar 8) qNil))) (qCons (qTup (qCons (qC (.str "missing")) qNil)) qNil))) (qCB cToInt (qCons (qBin (oIs id) (qVar 8) (qC .non)) qNil))))
    (sSeq (r_law_c2 ad tb nm)
    (sSeq (sFor (iSeq (qLst (qCons (qC (.int 0)) (qCons (qBin oAdd (qC (.int 1)) (qCall (sp__law_next ad) (qCons (qVar 1) (qCons (qC (.int 3)) qNil)))) (qCons (qCall (sp__law_next ad) (qCons (qVar 1) (qCons (qBin oAdd (qBin oMul (qVar 4) (qVar 4)) (qC (.int 1))) qNil))) qNil))))) (gN 10) (r_law_b3 ad tb nm))
    (sSeq (sSet 11 (qCall (sp__law_wrong_table ad) (qCons (qVar 1) (qCons (qVar 3) qNil))))
    (sSeq (sSet 12 (qBin oIx (qLst (qCons (qTup (qCons (qC (.str "latins")) qNil)) (qCons (qTup (qCons (qC (.str "latin")) (qCons (qC (.str "latin")) qNil))) (qCons (qTup (qCons (qC (.str "zero")) (qCons (qC (.str "")) qNil))) (qCons (qTup (qCons (qC (.str "turning")) (qCons (qC (.str "zero")) (qCons (qC (.str "turning")) qNil)))) qNil))))) (qCall (sp__law_next ad) (qCons (qVar 1) (qCons (qC (.int 4)) qNil)))))
    (sSeq (sSet 13 (qCall (sp__law_holes ad) (qCons (qVar 1) (qCons (qVar 3) (qCons (qC (.int 1)) qNil)))))
    (sSeq (sFor (iSeq (qLst (qCons (qVar 11) (qCons (qVar 13) qNil)))) (gN 14) (r_law_b1 ad tb nm))
    (sIf (qOrT (qTB (qBin oNe (qLam tb N__law_told nm (r__law_told ad) (qCall (sp_keeps ad) (qCons (qVar 3) (qCons (qVar 12) qNil)))) (qTup (qCons (qC (.str "refused")) qNil)))) (qTB (qBin oNe (qCB cRepr2 (qCons (qVar 3) qNil)) (qVar 5)))) (sRet (qC (.bl false))) sNext)))))))))))))))
def r_law (ad : Ad) (tb : List (Addr × Str)) (nm : Str) : QS := (sSeq (sSet 1 (qLst (qCons (qCall (sp__law_stream ad) (qCons (qVar 0) qNil)) (qCons (qC (.int 0)) qNil))))
    (sSeq (sFor (iRange1 (qCons (qC (.int 5)) qNil)) (gN 2) (r_law_b4 ad tb nm))
    (sRet (qC (.bl true)))))
theorem d_law {tb : List (Addr × Str)} {c Pt : Addr} (T : Txt K mg ad) (TL : ToldT K mg s__law_told ["call"]) (TB : LamX.TabB base mg c Pt) (G__law_breaks : GF P w K mg base "_law_breaks" ["table", "wish"] 2 (sp__law_breaks ad)) (G__law_holes : GF P w K mg base "_law_holes" ["state", "table", "many"] 2 (sp__law_holes ad)) (G__law_next : GF P w K mg base "_law_next" ["state", "many"] 1 (sp__law_next ad)) (G__law_stream : GF P w K mg base "_law_stream" ["script"] 1 (sp__law_stream ad)) (G__law_table : GF P w K mg base "_law_table" ["state", "most"] 3 (sp__law_table ad)) (G__law_turn : GF P w K mg base "_law_turn" ["table"] 1 (sp__law_turn ad)) (G__law_wishes : GF P w K mg base "_law_wishes" ["state"] 2 (sp__law_wishes ad)) (G__law_wrong_table : GF P w K mg base "_law_wrong_table" ["state", "table"] 2 (sp__law_wrong_table ad)) (G_first_turned : GF P w K mg base "first_turned" ["table"] 3 (sp_first_turned ad)) (G_is_broken : GF P w K mg base "is_broken" ["table", "wish"] 3 (sp_is_broken ad)) (G_keeps : GF P w K mg base "keeps" ["table", "wishes"] 4 (sp_keeps ad)) (G__law_same : GG P w K mg base "_law_same" ["told", "due"] 1 (sp__law_same ad)) (f : Addr) (cdv : Value) (hcv : cdv = .ref c) (A : Around) (outer : List Env) (s : Shared) (H : Hp) (E : XK)
    (hmT : (Pt, (envOfC "law" (defScope s_law) s.heap.objs.size f cdv).qual ++ "<lambda>") ∈ tb) (hu1 : ∀ p ∈ tb, p.1 = Pt → p.2 = (envOfC "law" (defScope s_law) s.heap.objs.size f cdv).qual ++ "<lambda>")
    (hr : Room 6 (A.deeper (envOfC "law" (defScope s_law) s.heap.objs.size f cdv))) (hG : (A.deeper (envOfC "law" (defScope s_law) s.heap.objs.size f cdv)).guards = some []) :
    DB (cxOf (L2N.CX P w) P w K mg base N_law "law" (defScope s_law) f cdv A outer s H E) (defBody s_law) (r_law ad tb ((envOfC "law" (defScope s_law) s.heap.objs.size f cdv).qual ++ "<lambda>")) := by
  have hu := hr.units
  have hu5 := u65 hr
  have hp : PassesOwn (model P w) (A.deeper (envOfC "law" (defScope s_law) s.heap.objs.size f cdv)) (envOfC "law" (defScope s_law) s.heap.objs.size f cdv) (cxOf (L2N.CX P w) P w K mg base N_law "law" (defScope s_law) f cdv A outer s H E).xe := passes_of (X := cxOf (L2N.CX P w) P w K mg base N_law "law" (defScope s_law) f cdv A outer s H E) rfl
  have hcode : (cxOf (L2N.CX P w) P w K mg base N_law "law" (defScope s_law) f cdv A outer s H E).env.code = .ref c := hcv
  have hr0 : Room (4 + 2) (cxOf (L2N.CX P w) P w K mg base N_law "law" (defScope s_law) f cdv A outer s H E).A := hr
  exact (db_cons (ds_set (i := 1) sc_law.nd rfl (by first | exact Or.inl rfl | exact Or.inr rfl) (de_lst (da_cons (de_callF G__law_stream (hr.mono (by decide)) rfl (da_cons (de_var 0) da_nil)) (da_cons de_int da_nil))))
    (db_cons (ds_for hp rfl (di_range1 rfl T.n_range (da_cons de_int da_nil)) (dg_name (i := 2) sc_law.nd rfl (by first | exact Or.inl rfl | exact Or.inr rfl)) (db_cons (ds_set (i := 3) sc_law.nd rfl (by first | exact Or.inl rfl | exact Or.inr rfl) (de_callF G__law_table (hr.mono (by decide)) rfl (da_cons (de_var 1) (da_cons (de_ix (de_lst (da_cons de_int (da_cons de_int (da_cons de_int da_nil)))) (de_callF G__law_next (hr.mono (by decide)) rfl (da_cons (de_var 1) (da_cons de_int da_nil)))) da_nil))))
    (db_cons (ds_set (i := 4) sc_law.nd rfl (by first | exact Or.inl rfl | exact Or.inr rfl) (de_callB cd_len rfl T.n_len bb_len (da_cons (de_var 3) da_nil)))
    (db_cons (ds_set (i := 5) sc_law.nd rfl (by first | exact Or.inl rfl | exact Or.inr rfl) (de_callB (cd_repr2 hG hu) rfl T.n_repr bb_repr (da_cons (de_var 3) da_nil)))
    (db_cons (ds_set (i := 6) sc_law.nd rfl (by first | exact Or.inl rfl | exact Or.inr rfl) (de_callF G__law_wishes (hr.mono (by decide)) rfl (da_cons (de_var 1) da_nil)))
    (db_cons (ds_set (i := 7) sc_law.nd rfl (by first | exact Or.inl rfl | exact Or.inr rfl) (de_not (de_callB (cd_any rfl) rfl T.n_any bb_any (da_cons (de_lc (own := [("wish", 16)]) rfl sc_law.nd (di_seq (de_var 6)) (blkOk_by (own := [("wish", 16)]) (N := N_law) (sc := defScope s_law) (by decide +kernel)) (fun _ _ _ _ _ => (dgo_name (i := 16) sc_law.nd rfl (by decide) (by first | exact Or.inl rfl | exact Or.inr rfl))) (fun _ _ _ _ _ => dts_nil) (fun _ _ _ _ _ => (de_callF G__law_breaks (hr.mono (by decide)) rfl (da_cons (de_var 3) (da_cons (de_var 16) da_nil))))) da_nil))))
    (db_cons (ds_if (dt_not (dt_truth (de_callGG G__law_same (hr.mono (by decide)) hG rfl (da_cons (de_told (T := tb) (Ng := N__law_told) (qB := r__law_told ad) TL rfl sc__law_told rfl (Or.inl rfl) (fun g2 cdv2 s2 H2 qc2 hr2 hq2 => d__law_told T s2 H2 qc2 hr2 hq2) TB hcode hmT hu1 hr0 (LamX.lamS_by (sc := defScope s_law) (by decide +kernel)) rfl (fun _ _ _ _ _ => rfl)
      (fun A2 outer2 s2 H2 E2 f2 c2 hr => by have hu := hr.units; have hu5 := u65 hr; exact (de_callF G_keeps (hr.mono (by decide)) rfl (da_cons (de_var 3) (da_cons (de_var 6) da_nil))))) (da_cons (de_tup (da_cons de_str (da_cons (de_var 7) da_nil))) da_nil))))) (db_one (ds_ret de_bl)) db_nil)
    (db_cons (ds_set (i := 8) sc_law.nd rfl (by first | exact Or.inl rfl | exact Or.inr rfl) (de_callF G__law_turn (hr.mono (by decide)) rfl (da_cons (de_var 3) da_nil)))
    (db_cons (ds_set (i := 9) sc_law.nd rfl (by first | exact Or.inl rfl | exact Or.inr rfl) (de_ix (de_lst (da_cons (de_tup (da_cons de_str (da_cons (de_var 8) da_nil))) (da_cons (de_tup (da_cons de_str da_nil)) da_nil))) (de_callTy cd_int rfl T.n_int bb_int (da_cons (de_cmp od_is (de_var 8) de_non (by rfl)) da_nil))))
    (db_cons (ds_if (dt_not (dt_truth (de_callGG G__law_same (hr.mono (by decide)) hG rfl (da_cons (de_told (T := tb) (Ng := N__law_told) (qB := r__law_told ad) TL rfl sc__law_told rfl (Or.inl rfl) (fun g2 cdv2 s2 H2 qc2 hr2 hq2 => d__law_told T s2 H2 qc2 hr2 hq2) TB hcode hmT hu1 hr0 (LamX.lamS_by (sc := defScope s_law) (by decide +kernel)) rfl (fun _ _ _ _ _ => rfl)
      (fun A2 outer2 s2 H2 E2 f2 c2 hr => by have hu := hr.units; have hu5 := u65 hr; exact (de_callF G_first_turned (hr.mono (by decide)) rfl (da_cons (de_var 3) da_nil)))) (da_cons (de_var 9) da_nil))))) (db_one (ds_ret de_bl)) db_nil)
    (db_cons (ds_for hp rfl (di_seq (de_lst (da_cons de_int (da_cons (de_bin od_add de_int (de_callF G__law_next (hr.mono (by decide)) rfl (da_cons (de_var 1) (da_cons de_int da_nil)))) (da_cons (de_callF G__law_next (hr.mono (by decide)) rfl (da_cons (de_var 1) (da_cons (de_bin od_add (de_bin od_mul (de_var 4) (de_var 4)) de_int) da_nil))) da_nil))))) (dg_name (i := 10) sc_law.nd rfl (by first | exact Or.inl rfl | exact Or.inr rfl)) (db_cons (ds_set (i := 15) sc_law.nd rfl (by first | exact Or.inl rfl | exact Or.inr rfl) (de_callF G__law_holes (hr.mono (by decide)) rfl (da_cons (de_var 1) (da_cons (de_var 3) (da_cons (de_var 10) da_nil)))))
    (db_one (ds_for hp rfl (di_seq (de_lst (da_cons de_str (da_cons de_str (da_cons de_str (da_cons de_str da_nil)))))) (dg_name (i := 16) sc_law.nd rfl (by first | exact Or.inl rfl | exact Or.inr rfl)) (db_cons (ds_set (i := 17) sc_law.nd rfl (by first | exact Or.inl rfl | exact Or.inr rfl) (de_callF G__law_breaks (hr.mono (by decide)) rfl (da_cons (de_var 15) (da_cons (de_var 16) da_nil))))
    (db_cons (ds_if (dt_not (dt_truth (de_callGG G__law_same (hr.mono (by decide)) hG rfl (da_cons (de_told (T := tb) (Ng := N__law_told) (qB := r__law_told ad) TL rfl sc__law_told rfl (Or.inl rfl) (fun g2 cdv2 s2 H2 qc2 hr2 hq2 => d__law_told T s2 H2 qc2 hr2 hq2) TB hcode hmT hu1 hr0 (LamX.lamS_by (sc := defScope s_law) (by decide +kernel)) rfl (fun _ _ _ _ _ => rfl)
      (fun A2 outer2 s2 H2 E2 f2 c2 hr => by have hu := hr.units; have hu5 := u65 hr; exact (de_callF G_is_broken (hr.mono (by decide)) rfl (da_cons (de_var 15) (da_cons (de_var 16) da_nil))))) (da_cons (de_tup (da_cons de_str (da_cons (de_var 17) da_nil))) da_nil))))) (db_one (ds_ret de_bl)) db_nil)
    (db_one (ds_if (dw_pt (dw_and (dt_truth (de_var 17)) (dw_and1 (dt_not (dt_truth (de_callF G__law_breaks (hr.mono (by decide)) rfl (da_cons (de_var 3) (da_cons (de_var 16) da_nil)))))))) (db_one (ds_ret de_bl)) db_nil))))))))
    (db_cons (ds_set (i := 11) sc_law.nd rfl (by first | exact Or.inl rfl | exact Or.inr rfl) (de_callF G__law_wrong_table (hr.mono (by decide)) rfl (da_cons (de_var 1) (da_cons (de_var 3) da_nil))))
    (db_cons (ds_set (i := 12) sc_law.nd rfl (by first | exact Or.inl rfl | exact Or.inr rfl) (de_ix (de_lst (da_cons (de_tup (da_cons de_str da_nil)) (da_cons (de_tup (da_cons de_str (da_cons de_str da_nil))) (da_cons (de_tup (da_cons de_str (da_cons de_str da_nil))) (da_cons (de_tup (da_cons de_str (da_cons de_str (da_cons de_str da_nil)))) da_nil))))) (de_callF G__law_next (hr.mono (by decide)) rfl (da_cons (de_var 1) (da_cons de_int da_nil)))))
    (db_cons (ds_set (i := 13) sc_law.nd rfl (by first | exact Or.inl rfl | exact Or.inr rfl) (de_callF G__law_holes (hr.mono (by decide)) rfl (da_cons (de_var 1) (da_cons (de_var 3) (da_cons de_int da_nil)))))
    (db_cons (ds_for hp rfl (di_seq (de_lst (da_cons (de_var 11) (da_cons (de_var 13) da_nil)))) (dg_name (i := 14) sc_law.nd rfl (by first | exact Or.inl rfl | exact Or.inr rfl)) (db_one (ds_if (dw_pt (dw_or (dt_cmp (od_ne hu) (de_told (T := tb) (Ng := N__law_told) (qB := r__law_told ad) TL rfl sc__law_told rfl (Or.inl rfl) (fun g2 cdv2 s2 H2 qc2 hr2 hq2 => d__law_told T s2 H2 qc2 hr2 hq2) TB hcode hmT hu1 hr0 (LamX.lamS_by (sc := defScope s_law) (by decide +kernel)) rfl (fun _ _ _ _ _ => rfl)
      (fun A2 outer2 s2 H2 E2 f2 c2 hr => by have hu := hr.units; have hu5 := u65 hr; exact (de_callF G_keeps (hr.mono (by decide)) rfl (da_cons (de_var 14) (da_cons (de_var 6) da_nil))))) (de_tup (da_cons de_str da_nil)) (nomark _)) (dw_or1 (dt_cmp (od_ne hu) (de_toldD (T := tb) (Ng := N__law_told) (qB := r__law_told ad) TL rfl sc__law_told rfl (Or.inl rfl) (fun g2 cdv2 s2 H2 qc2 hr2 hq2 => d__law_told T s2 H2 qc2 hr2 hq2) TB hcode hmT hu1 hr0 (lamSD_by (N := N_law) (sc := defScope s_law) (by decide +kernel)) rfl rfl (fun _ _ _ _ _ _ => ⟨_, rfl, fun _ => rfl⟩)
      (fun A2 outer2 s2 H2 E2 f2 c2 hr => by have hu := hr.units; have hu5 := u65 hr; exact (de_callF G_first_turned (hr.mono (by decide)) rfl (da_cons (de_var 14) da_nil)))) (de_tup (da_cons de_str da_nil)) (nomark _))))) (db_one (ds_ret de_bl)) db_nil)))
    (db_one (ds_if (dw_pt (dw_or (dt_cmp (od_ne hu) (de_told (T := tb) (Ng := N__law_told) (qB := r__law_told ad) TL rfl sc__law_told rfl (Or.inl rfl) (fun g2 cdv2 s2 H2 qc2 hr2 hq2 => d__law_told T s2 H2 qc2 hr2 hq2) TB hcode hmT hu1 hr0 (LamX.lamS_by (sc := defScope s_law) (by decide +kernel)) rfl (fun _ _ _ _ _ => rfl)
      (fun A2 outer2 s2 H2 E2 f2 c2 hr => by have hu := hr.units; have hu5 := u65 hr; exact (de_callF G_keeps (hr.mono (by decide)) rfl (da_cons (de_var 3) (da_cons (de_var 12) da_nil))))) (de_tup (da_cons de_str da_nil)) (nomark _)) (dw_or1 (dt_cmp (od_ne hu) (de_callB (cd_repr2 hG hu) rfl T.n_repr bb_repr (da_cons (de_var 3) da_nil)) (de_var 5) (nomark _))))) (db_one (ds_ret de_bl)) db_nil)))))))))))))))))
    (db_one (ds_ret de_bl))))
end
end K35

namespace K35
open PySem PySem.Spec PyProof.Rows L2 PL
variable {ad : Ad}
theorem fmod_pos {a b : Int} (h : 0 < b) : 0 ≤ a.fmod b ∧ a.fmod b < b := ⟨Int.fmod_nonneg_of_pos a h, Int.fmod_lt_of_pos a h⟩
theorem sz1 : (1 : Nat) ≤ sizeLine := by decide
theorem sz2 : (2 : Nat) ≤ sizeLine := by decide
theorem szB {n : Nat} (h : n < 16000000) : n < sizeLine := by
  have e : sizeLine = 16777216 := by decide
  omega
theorem szL {n : Nat} (h : n < 16000000) : n ≤ sizeLine := Nat.le_of_lt (szB h)
def src_ok (src : Src) (S1 : Sto) : Prop := ∀ S, Sub S1 S → src.ok S
theorem ok_vals {xs : List D} {S : Sto} : src_ok (.vals xs) S := fun _ _ => trivial
theorem ok_live {a : Addr} {xs : List D} {S : Sto} (h : S a = some (.lst xs)) : src_ok (.live a xs) S := fun _ s => s _ _ h
theorem filterMap_snoc {α : Type} {f : Nat → Option α} {i : Nat} : (List.range (i + 1)).filterMap f = (List.range i).filterMap f ++ (f i).toList := by
  rw [List.range_succ, List.filterMap_append]
  cases h : f i <;> simp [h]
theorem len_fm {α : Type} (f : Nat → Option α) (i : Nat) : ((List.range i).filterMap f).length ≤ i := by
  have := List.length_filterMap_le f (List.range i)
  simpa using this
/-- a comprehension that writes nothing -/
theorem lc_go {it : QI} {g : QG} {tt : QT} {te : QE} {own : List Nat} {loc : PL.Loc} {S S1 : Sto} {P : PD} {E : PX} (src : Src) (f : Nat → Option D) (hit : ∀ Q : Src → Sto → Prop, Q src S1 → it loc S Q E) (hok : src_ok src S1) (hl : src.items.length ≤ 100000)
    (hb : ∀ i d S' (C : Option D → Sto → Prop), src.items[i]? = some d → Sub S1 S' → (∀ y S2, f i = y → Sub S' S2 → C y S2) → g d (wipeD loc own) S' (fun loc2 S2 => tt loc2 S2 (fun b S3 => if b = true then te loc2 S3 (fun y S4 => C (some y) S4) fun _ _ => False else C none S3) fun _ _ => False) fun _ _ => False)
    (hP : ∀ p S', S1 p = none → Sub S1 S' → S' p = some (.lst ((List.range src.items.length).filterMap f)) → P (.ref p) S') : qLc it g tt te own loc S P E := by
  unfold qLc
  refine hit _ fun p hp => ⟨fun i acc S' => acc = (List.range i).filterMap f ∧ Sub S1 S' ∧ S' p = some (.lst acc), ⟨rfl, (Sub.refl S1).new hp, ups_same⟩, ?_, ?_⟩
  · rintro i d acc S' hi ⟨rfl, sub, hacc⟩
    refine ⟨hok _ sub, ?_⟩
    have hi2 : i < src.items.length := (List.getElem?_eq_some_iff.mp hi).1
    refine hb i d S' (fun y S4 => match y with
      | some y => S4 p = some (.lst ((List.range i).filterMap f)) ∧ ((List.range i).filterMap f).length < sizeLine ∧ ((List.range i).filterMap f ++ [y] = (List.range (i + 1)).filterMap f ∧ Sub S1 (ups S4 p (.lst ((List.range i).filterMap f ++ [y]))) ∧ ups S4 p (.lst ((List.range i).filterMap f ++ [y])) p = some (.lst ((List.range i).filterMap f ++ [y])))
      | none => (List.range i).filterMap f = (List.range (i + 1)).filterMap f ∧ Sub S1 S4 ∧ S4 p = some (.lst ((List.range i).filterMap f))) hi sub fun y S4 hy s4 => ?_
    have hs := filterMap_snoc (f := f) (i := i)
    cases y with
    | some y =>
      rw [hy] at hs
      exact ⟨s4 _ _ hacc, szB (Nat.lt_of_le_of_lt (len_fm f i) (by omega)), by rw [hs]; rfl, (sub.trans s4).at hp, ups_same⟩
    | none =>
      rw [hy] at hs
      exact ⟨by rw [hs]; simp, sub.trans s4, s4 _ _ hacc⟩
  · rintro acc S' ⟨rfl, sub, hacc⟩
    exact ⟨hok _ sub, hP p S' hp sub hacc⟩
theorem fm_map {α β : Type} (xs : List α) (h : α → β) : (List.range xs.length).filterMap (fun i => xs[i]?.map h) = xs.map h := by
  have key : ∀ n, n ≤ xs.length → (List.range n).filterMap (fun i => xs[i]?.map h) = (xs.take n).map h := by
    intro n
    induction n with
    | zero => intro _; simp
    | succ n ih =>
      intro hn
      have e : xs[n]? = some xs[n] := List.getElem?_eq_getElem (by omega)
      rw [filterMap_snoc, ih (by omega), List.take_succ, List.map_append, e]
      rfl
  rw [key _ (Nat.le_refl _), List.take_length]
/-- a list of all items' values -/
theorem lc_map {it : QI} {g : QG} {te : QE} {own : List Nat} {loc : PL.Loc} {S S1 : Sto} {P : PD} {E : PX} (src : Src) (h : D → D) (hit : ∀ Q : Src → Sto → Prop, Q src S1 → it loc S Q E) (hok : src_ok src S1) (hl : src.items.length ≤ 100000)
    (hb : ∀ d S' (C : D → Sto → Prop), d ∈ src.items → Sub S1 S' → (∀ S2, Sub S' S2 → C (h d) S2) → g d (wipeD loc own) S' (fun loc2 S2 => te loc2 S2 (fun y S4 => C y S4) fun _ _ => False) fun _ _ => False)
    (hP : ∀ p S', S1 p = none → Sub S1 S' → S' p = some (.lst (src.items.map h)) → P (.ref p) S') : qLc it g qYes te own loc S P E := by
  refine lc_go src (fun i => src.items[i]?.map h) hit hok hl (fun i d S' C hi sub hC => ?_) fun p S' hp sub e => hP p S' hp sub (by rw [e, fm_map])
  unfold qYes
  simp only [if_true]
  exact hb d S' (fun y S4 => C (some y) S4) (List.mem_of_getElem? hi) sub fun S2 s2 => hC _ S2 (by rw [hi]; rfl) s2
theorem fm_filt {α β : Type} (xs : List α) (p : α → Bool) (h : α → β) : (List.range xs.length).filterMap (fun i => xs[i]?.bind fun x => if p x = true then some (h x) else none) = (xs.filter p).map h := by
  have key : ∀ n, n ≤ xs.length → (List.range n).filterMap (fun i => xs[i]?.bind fun x => if p x = true then some (h x) else none) = ((xs.take n).filter p).map h := by
    intro n
    induction n with
    | zero => intro _; simp
    | succ n ih =>
      intro hn
      have e : xs[n]? = some xs[n] := List.getElem?_eq_getElem (by omega)
      rw [filterMap_snoc, ih (by omega), List.take_succ, List.filter_append, List.map_append, e]
      by_cases hp : p xs[n] = true <;> simp [hp]
  rw [key _ (Nat.le_refl _), List.take_length]
/-- a list of some items' values -/
theorem lc_filt {it : QI} {g : QG} {tt : QT} {te : QE} {own : List Nat} {loc : PL.Loc} {S S1 : Sto} {P : PD} {E : PX} (src : Src) (q : D → Bool) (h : D → D) (hit : ∀ Q : Src → Sto → Prop, Q src S1 → it loc S Q E) (hok : src_ok src S1) (hl : src.items.length ≤ 100000)
    (hb : ∀ d S' (C : Option D → Sto → Prop), d ∈ src.items → Sub S1 S' → (∀ S2, Sub S' S2 → C (if q d = true then some (h d) else none) S2) → g d (wipeD loc own) S' (fun loc2 S2 => tt loc2 S2 (fun b S3 => if b = true then te loc2 S3 (fun y S4 => C (some y) S4) fun _ _ => False else C none S3) fun _ _ => False) fun _ _ => False)
    (hP : ∀ p S', S1 p = none → Sub S1 S' → S' p = some (.lst ((src.items.filter q).map h)) → P (.ref p) S') : qLc it g tt te own loc S P E := by
  refine lc_go src (fun i => src.items[i]?.bind fun x => if q x = true then some (h x) else none) hit hok hl (fun i d S' C hi sub hC => ?_) fun p S' hp sub e => hP p S' hp sub (by rw [e, fm_filt])
  exact hb d S' C (List.mem_of_getElem? hi) sub fun S2 s2 => hC _ S2 (by rw [hi]; rfl) s2
/-- two clauses -/
theorem lc2_map {it it1 : QI} {g g1 : QG} {te : QE} {own own1 : List Nat} {loc : PL.Loc} {S S1 : Sto} {P : PD} {E : PX} (xs : List D) (inn : D → List D) (h : D → D) (L2 : D → PL.Loc) (hit : ∀ Q : Src → Sto → Prop, Q (.vals xs) S1 → it loc S Q E) (hl : ∀ n, ((xs.take n).flatMap inn).length ≤ 100000)
    (hb : ∀ d S' (R : PL.Loc → Src → Sto → Prop), d ∈ xs → Sub S1 S' → R (L2 d) (.vals (inn d)) S' → g d (wipeD loc own) S' (fun loc2 S2 => it1 loc2 S2 (fun src1 S4 => R loc2 src1 S4) fun _ _ => False) fun _ _ => False)
    (hb1 : ∀ d x S' (C : D → Sto → Prop), d ∈ xs → x ∈ inn d → Sub S1 S' → (∀ S2, Sub S' S2 → C (h x) S2) → g1 x (wipeD (L2 d) own1) S' (fun loc5 S5 => te loc5 S5 (fun y S6 => C y S6) fun _ _ => False) fun _ _ => False)
    (hP : ∀ p S', S1 p = none → Sub S1 S' → S' p = some (.lst ((xs.flatMap inn).map h)) → P (.ref p) S') : qLc2 it g qYes it1 g1 qYes te own own1 loc S P E := by
  unfold qLc2
  refine hit _ fun p hp => ⟨fun i acc S' => acc = ((xs.take i).flatMap inn).map h ∧ Sub S1 S' ∧ S' p = some (.lst acc), ⟨by simp, (Sub.refl S1).new hp, ups_same⟩, ?_, ?_⟩
  · rintro i d acc S' hi ⟨rfl, sub, hacc⟩
    refine ⟨trivial, ?_⟩
    have hi0 : xs[i]? = some d := hi
    have hd : d ∈ xs := List.mem_of_getElem? hi0
    have et : (xs.take (i + 1)).flatMap inn = (xs.take i).flatMap inn ++ inn d := by
      rw [List.take_succ, hi0, List.flatMap_append]
      simp
    have hl1 := hl (i + 1)
    rw [et] at hl1
    simp only [qYes, if_true]
    refine hb d S' _ hd sub ?_
    refine ⟨fun j acc S'' => acc = ((xs.take i).flatMap inn).map h ++ ((inn d).take j).map h ∧ Sub S1 S'' ∧ S'' p = some (.lst acc), ⟨by simp, sub, hacc⟩, ?_, ?_⟩
    · rintro j x acc S2 hj ⟨rfl, sub2, hacc2⟩
      refine ⟨trivial, ?_⟩
      have hj0 : (inn d)[j]? = some x := hj
      refine hb1 d x S2 (fun y S7 => _) hd (List.mem_of_getElem? hj0) sub2 fun S7 s7 => ⟨s7 _ _ hacc2, ?_, ?_, (sub2.trans s7).at hp, ups_same⟩
      · refine szB ?_
        rw [List.length_append, List.length_map, List.length_map]
        rw [List.length_append] at hl1
        have := List.length_take_le j (inn d)
        have h2 : ((inn d).take j).length ≤ (inn d).length := by rw [List.length_take]; omega
        omega
      · rw [List.take_succ, hj0, List.map_append, List.append_assoc]
        rfl
    · rintro acc S2 ⟨rfl, sub2, hacc2⟩
      refine ⟨trivial, ?_, sub2, hacc2⟩
      show _ ++ ((inn d).take (inn d).length).map h = _
      rw [et, List.take_length, List.map_append]
  · rintro acc S' ⟨rfl, sub, hacc⟩
    refine ⟨trivial, hP p S' hp sub ?_⟩
    rw [hacc]
    show some (O.lst (((xs.take xs.length).flatMap inn).map h)) = _
    rw [List.take_length]
end K35

namespace K35
open PySem PySem.Spec PyProof.Rows L2 PL
variable {ad : Ad}
theorem stepS_stepS {S : Sto} {s n : Addr} {j k : Int} : stepS (stepS S s n j) s n k = stepS S s n k := ups_ups
theorem stepS_sub {S S' : Sto} {s n : Addr} {k : Int} (h : Sub S S') : Sub (stepS S s n k) (stepS S' s n k) := fun a o e => by
  unfold stepS at *
  by_cases z : a = s
  · subst z
    rw [ups_same] at e ⊢
    exact e
  · rw [ups_ne z] at e ⊢
    exact h a o e
theorem Strm.next {S : Sto} {s n : Addr} {xs : List Int} {k j : Int} (h : Strm S s n xs k) (hj : 0 ≤ j) : Strm (stepS S s n j) s n xs j :=
  ⟨ups_same, by unfold stepS; rw [ups_ne (Ne.symm h.ne)]; exact h.nm, h.ne, h.ok, hj⟩
theorem Strm.sub {S S' : Sto} {s n : Addr} {xs : List Int} {k : Int} (h : Strm S s n xs k) (b : Sub S S') : Strm S' s n xs k := ⟨b _ _ h.st, b _ _ h.nm, h.ne, h.ok, h.k0⟩
theorem Nums.get {xs : List Int} (h : Nums xs) {i : Int} (h0 : 0 ≤ i) (h1 : i < xs.length) : ∃ z, atI (xs.map D.int) i = some (.int z) ∧ 0 ≤ z ∧ z < 1009 := by
  obtain ⟨j, rfl⟩ := Int.eq_ofNat_of_zero_le h0
  have hj : j < xs.length := by omega
  refine ⟨xs[j], ?_, (h.rng _ (List.getElem_mem hj)).1, (h.rng _ (List.getElem_mem hj)).2⟩
  unfold atI ixN
  rw [if_pos (by omega), if_pos (by rw [List.length_map]; omega)]
  simp [hj]
theorem p__law_next : ∀ ds S Q E, sp__law_next ad ds S Q E → r__law_next ad (endsF Q E) (startD N__law_next ds) S := by
  rintro ds S Q E ⟨s, n, xs, k, many, rfl, h, hm, hk, q⟩
  have hl : 0 < xs.length := by
    have := h.ok.ne
    cases xs with
    | nil => exact absurd rfl this
    | cons => simp
  have hl2 := h.ok.len
  have hk0 := h.k0
  have f := fmod_pos (a := k + 1) (b := (xs.length : Int)) (by omega)
  obtain ⟨z, e, z0, z1⟩ := h.ok.get f.1 f.2
  have f2 : 0 ≤ (k + 1).fdiv xs.length ∧ (k + 1).fdiv xs.length ≤ k + 1 := by
    refine ⟨Int.fdiv_nonneg (by omega) (by omega), ?_⟩
    rw [Int.fdiv_eq_ediv_of_nonneg _ (by omega)]
    exact Int.ediv_le_self _ (by omega)
  simp only [r__law_next, sSeq, sNext, sBreak, sCont, sDrop, sRet, sRetN, sIf, sSet, sPar, sAsg, sRaise, gN, gE, gC, gU, gS, qVar, qC, qBin, qTB, qChain, qNot, qAnd, qOr, bd_bl, qNotT, qAndT, qOrT, qTru, tru_non, tru_bl, tru_int, tru_str, tru_tup, tru_rol, tru_ref, qIf, qNil, qCons, qTup, qLst, qCB, cInt_i, cInt2_ii, cToInt_i, cToInt_b, cLen_s, cLen_t, cLen_r, cLen_l, cTuple_t, cTuple_r, cTuple_l, cList_t, cList_r, cList_l, qNeg, oI_ii, oAdd_ii, oSub, oMul, oDiv, oMod, oPow, oEq, oNe, oEqW_ii, oEqW_ss, oEqW_bb, oLt, oLe, oGt, oGe, oOrd_ii, oOrd_ss, oIx_t, oIx_r, oIx_l, oIx_s, qNo, qPart, qSl, oSl_t, oSl_r, oSl_l, oSl_s, qMeth, mAppend_1, iSeq, iRange1, iRange2, qCall, endsF, startD, List.map_cons, List.map_nil, List.length_cons, List.length_nil, List.length_map, List.cons_append, List.nil_append, List.replicate, List.getElem?_cons_zero, List.getElem?_cons_succ, List.set_cons_zero, List.set_cons_succ, Nat.reduceAdd, Nat.reduceSub, if_true, if_false, id, ups_same, ex_lst, ex_lst2, ex_some, atI_0, atI_1, atI_2, atI_3, ixN_0, ixN_1, ixN_21, h.st, ups_ne (Ne.symm h.ne), h.nm, e]
  refine ⟨CDivA.small (by omega) (by omega), by omega, CMul.ofL (by omega), CMul.ofL (by omega), CMul.ofR (by omega), by omega, stepS S s n (k + 1), Sub.refl _, ?_⟩
  exact q _ (fmod_pos hm).1 (fmod_pos hm).2
theorem p__law_great : ∀ ds S Q E, sp__law_great ad ds S Q E → r__law_great ad (endsF Q E) (startD N__law_great ds) S := by
  rintro ds S Q E ⟨s, n, xs, k, many, rfl, h, hm, hk, q⟩
  have hk0 := h.k0
  simp only [r__law_great, sp__law_next, sSeq, sNext, sBreak, sCont, sDrop, sRet, sRetN, sIf, sSet, sPar, sAsg, sRaise, gN, gE, gC, gU, gS, qVar, qC, qBin, qTB, qChain, qNot, qAnd, qOr, bd_bl, qNotT, qAndT, qOrT, qTru, tru_non, tru_bl, tru_int, tru_str, tru_tup, tru_rol, tru_ref, qIf, qNil, qCons, qTup, qLst, qCB, cInt_i, cInt2_ii, cToInt_i, cToInt_b, cLen_s, cLen_t, cLen_r, cLen_l, cTuple_t, cTuple_r, cTuple_l, cList_t, cList_r, cList_l, qNeg, oI_ii, oAdd_ii, oSub, oMul, oDiv, oMod, oPow, oEq, oNe, oEqW_ii, oEqW_ss, oEqW_bb, oLt, oLe, oGt, oGe, oOrd_ii, oOrd_ss, oIx_t, oIx_r, oIx_l, oIx_s, qNo, qPart, qSl, oSl_t, oSl_r, oSl_l, oSl_s, qMeth, mAppend_1, iSeq, iRange1, iRange2, qCall, endsF, startD, List.map_cons, List.map_nil, List.length_cons, List.length_nil, List.length_map, List.cons_append, List.nil_append, List.replicate, List.getElem?_cons_zero, List.getElem?_cons_succ, List.set_cons_zero, List.set_cons_succ, Nat.reduceAdd, Nat.reduceSub, if_true, if_false, id, ups_same, ex_lst, ex_lst2, ex_some, atI_0, atI_1, atI_2, atI_3, ixN_0, ixN_1, ixN_21]
  refine ⟨s, n, xs, k, 1009, rfl, h, by omega, by omega, fun r h0 h1 => ⟨CMul.ofL (by omega), s, n, xs, k + 1, 1009, rfl, h.next (by omega), by omega, by omega, fun r' h0' h1' => ⟨by omega, _, Sub.refl _, ?_⟩⟩⟩
  rw [stepS_stepS, show k + 1 + 1 = k + 2 by omega]
  exact q _ (fmod_pos hm).1 (fmod_pos hm).2
theorem Strm.fresh {S : Sto} {s n p : Addr} {xs : List Int} {k : Int} (h : Strm S s n xs k) (hp : S p = none) {o : O} : Strm (ups S p o) s n xs k := h.sub ((Sub.refl S).new hp)
/-- of four numbers one -/
theorem at4 {a b c d : D} {r : Int} (h0 : 0 ≤ r) (h1 : r < 4) : ∃ x, atI [a, b, c, d] r = some x ∧ (x = a ∨ x = b ∨ x = c ∨ x = d) := by
  obtain ⟨j, rfl⟩ := Int.eq_ofNat_of_zero_le h0
  match j, h1 with
  | 0, _ => exact ⟨a, rfl, .inl rfl⟩
  | 1, _ => exact ⟨b, rfl, .inr (.inl rfl)⟩
  | 2, _ => exact ⟨c, rfl, .inr (.inr (.inl rfl))⟩
  | 3, _ => exact ⟨d, rfl, .inr (.inr (.inr rfl))⟩
  | n + 4, h => exact absurd h (by omega)
theorem at2 {a b : D} {r : Int} (h0 : 0 ≤ r) (h1 : r < 2) : ∃ x, atI [a, b] r = some x ∧ (x = a ∨ x = b) := by
  obtain ⟨j, rfl⟩ := Int.eq_ofNat_of_zero_le h0
  match j, h1 with
  | 0, _ => exact ⟨a, rfl, .inl rfl⟩
  | 1, _ => exact ⟨b, rfl, .inr rfl⟩
  | n + 2, h => exact absurd h (by omega)
theorem stepS_ne {S : Sto} {s n p : Addr} {k : Int} (h : p ≠ s) : stepS S s n k p = S p := ups_ne h
theorem Strm.ne_s {S : Sto} {s n p : Addr} {xs : List Int} {k : Int} (h : Strm S s n xs k) (hp : S p = none) : p ≠ s := Ne.symm (sto_ne h.st hp)
end K35

namespace K35
open PySem PySem.Spec PyProof.Rows L2 PL
variable {ad : Ad}
def Rg (zs : List Int) : Prop := ∀ x ∈ zs, 0 ≤ x ∧ x < 1009
theorem Rg.snoc {zs : List Int} (h : Rg zs) {z : Int} (hz : 0 ≤ z ∧ z < 1009) : Rg (zs ++ [z]) := fun x hx => by
  rcases List.mem_append.mp hx with h' | h'
  · exact h x h'
  · obtain rfl : x = z := by simpa using h'
    exact hz
theorem rangeD_get {lo : Int} {n i : Nat} {d : D} (h : (rangeD lo n)[i]? = some d) : i < n ∧ d = .int (lo + i) := by
  unfold rangeD at h
  rw [List.getElem?_map] at h
  by_cases hi : i < n
  · rw [List.getElem?_range hi] at h
    exact ⟨hi, (Option.some.inj h).symm⟩
  · rw [List.getElem?_eq_none (by simpa using hi)] at h
    cases h
theorem rangeD_len {lo : Int} {n : Nat} : (rangeD lo n).length = n := by simp [rangeD]
theorem map_snoc {zs : List Int} {z : Int} : zs.map D.int ++ [D.int z] = (zs ++ [z]).map D.int := by simp
theorem szBig {n : Nat} (h : n < 16000000) : n < sizeLine := by
  have e : sizeLine = 16777216 := by decide
  omega
theorem loop1 {P : QN} {T : Sto} {p : Addr} {x0 x2 x4 x5 : Option D} {zs : List Int} {rest : Int} (hz : Rg zs) (hl : zs.length ≤ 10000)
    (hn : ∀ (zs' : List Int) (y3 y4 : Option D), Rg zs' → zs'.length ≤ zs.length + 60 → P.nx [x0, some (.ref p), x2, y3, y4, x5] (ups T p (.lst (zs'.map D.int)))) :
    sFor (iRange1 (qCons (qC (.int 60)) qNil)) (gN 4) (r__law_stream_b1 ad) P [x0, some (.ref p), x2, some (.int rest), x4, x5] (ups T p (.lst (zs.map D.int))) := by
  unfold sFor
  simp only [sSeq, sNext, sBreak, sCont, sDrop, sRet, sRetN, sIf, sSet, sPar, sAsg, sRaise, gN, gE, gC, gU, gS, qVar, qC, qBin, qTB, qChain, qNot, qAnd, qOr, bd_bl, qNotT, qAndT, qOrT, qTru, tru_non, tru_bl, tru_int, tru_str, tru_tup, tru_rol, tru_ref, qIf, qNil, qCons, qTup, qLst, qCB, cInt_i, cInt2_ii, cToInt_i, cToInt_b, cLen_s, cLen_t, cLen_r, cLen_l, cTuple_t, cTuple_r, cTuple_l, cList_t, cList_r, cList_l, qNeg, oI_ii, oAdd_ii, oSub, oMul, oDiv, oMod, oPow, oEq, oNe, oEqW_ii, oEqW_ss, oEqW_bb, oLt, oLe, oGt, oGe, oOrd_ii, oOrd_ss, oIx_t, oIx_r, oIx_l, oIx_s, qNo, qPart, qSl, oSl_t, oSl_r, oSl_l, oSl_s, qMeth, mAppend_1, iSeq, iRange1, iRange2, qCall, endsF, startD, List.map_cons, List.map_nil, List.length_cons, List.length_nil, List.length_map, List.cons_append, List.nil_append, List.replicate, List.getElem?_cons_zero, List.getElem?_cons_succ, List.set_cons_zero, List.set_cons_succ, Nat.reduceAdd, Nat.reduceSub, if_true, if_false, id, ups_same, ex_lst, ex_lst2, ex_some, atI_0, atI_1, atI_2, atI_3, ixN_0, ixN_1, ixN_21]
  refine ⟨by decide, by decide, fun i loc S => ∃ (zs' : List Int) (r : Int) (y4 : Option D), loc = [x0, some (.ref p), x2, some (.int r), y4, x5] ∧ S = ups T p (.lst (zs'.map D.int)) ∧ Rg zs' ∧ zs'.length ≤ zs.length + i, ⟨zs, rest, x4, rfl, rfl, hz, by omega⟩, ?_, ?_⟩
  · rintro i d loc S hi ⟨zs', r, y4, rfl, rfl, hz', hl'⟩
    obtain ⟨hi1, rfl⟩ := rangeD_get hi
    have hi2 : i < 60 := hi1
    simp only [r__law_stream_b1, sSeq, sNext, sBreak, sCont, sDrop, sRet, sRetN, sIf, sSet, sPar, sAsg, sRaise, gN, gE, gC, gU, gS, qVar, qC, qBin, qTB, qChain, qNot, qAnd, qOr, bd_bl, qNotT, qAndT, qOrT, qTru, tru_non, tru_bl, tru_int, tru_str, tru_tup, tru_rol, tru_ref, qIf, qNil, qCons, qTup, qLst, qCB, cInt_i, cInt2_ii, cToInt_i, cToInt_b, cLen_s, cLen_t, cLen_r, cLen_l, cTuple_t, cTuple_r, cTuple_l, cList_t, cList_r, cList_l, qNeg, oI_ii, oAdd_ii, oSub, oMul, oDiv, oMod, oPow, oEq, oNe, oEqW_ii, oEqW_ss, oEqW_bb, oLt, oLe, oGt, oGe, oOrd_ii, oOrd_ss, oIx_t, oIx_r, oIx_l, oIx_s, qNo, qPart, qSl, oSl_t, oSl_r, oSl_l, oSl_s, qMeth, mAppend_1, iSeq, iRange1, iRange2, qCall, endsF, startD, List.map_cons, List.map_nil, List.length_cons, List.length_nil, List.length_map, List.cons_append, List.nil_append, List.replicate, List.getElem?_cons_zero, List.getElem?_cons_succ, List.set_cons_zero, List.set_cons_succ, Nat.reduceAdd, Nat.reduceSub, if_true, if_false, id, ups_same, ex_lst, ex_lst2, ex_some, atI_0, atI_1, atI_2, atI_3, ixN_0, ixN_1, ixN_21, map_snoc, ups_ups]
    have h9 := fmod_pos (a := r) (b := 1009) (by decide)
    refine ⟨trivial, ⟨_, rfl⟩, by decide, szBig (by omega), CDivA.small (by decide) (by decide), ?_⟩
    split
    · exact hn _ _ _ (hz'.snoc h9) (by simp; omega)
    · exact ⟨_, _, _, rfl, rfl, hz'.snoc h9, by simp; omega⟩
  · rintro loc S ⟨zs', r, y4, rfl, rfl, hz', hl'⟩
    refine ⟨trivial, hn _ _ _ hz' ?_⟩
    have : (Src.vals (rangeD 0 (60 : Int).toNat)).items.length = 60 := rangeD_len
    omega
theorem loop2 {P : QN} {T : Sto} {p : Addr} {x0 x2 x3 x4 : Option D} {zs : List Int} {st : Int} (hz : Rg zs) (hl : zs.length ≤ 10000) (hs : 0 ≤ st ∧ st < 2147483647)
    (hn : ∀ (zs' : List Int) (y4 y5 : Option D), Rg zs' → zs'.length ≤ zs.length + 60 → P.nx [x0, some (.ref p), x2, x3, y4, y5] (ups T p (.lst (zs'.map D.int)))) :
    sFor (iRange1 (qCons (qC (.int 10)) qNil)) (gN 4) (r__law_stream_b2 ad) P [x0, some (.ref p), x2, x3, x4, some (.int st)] (ups T p (.lst (zs.map D.int))) := by
  unfold sFor
  simp only [sSeq, sNext, sBreak, sCont, sDrop, sRet, sRetN, sIf, sSet, sPar, sAsg, sRaise, gN, gE, gC, gU, gS, qVar, qC, qBin, qTB, qChain, qNot, qAnd, qOr, bd_bl, qNotT, qAndT, qOrT, qTru, tru_non, tru_bl, tru_int, tru_str, tru_tup, tru_rol, tru_ref, qIf, qNil, qCons, qTup, qLst, qCB, cInt_i, cInt2_ii, cToInt_i, cToInt_b, cLen_s, cLen_t, cLen_r, cLen_l, cTuple_t, cTuple_r, cTuple_l, cList_t, cList_r, cList_l, qNeg, oI_ii, oAdd_ii, oSub, oMul, oDiv, oMod, oPow, oEq, oNe, oEqW_ii, oEqW_ss, oEqW_bb, oLt, oLe, oGt, oGe, oOrd_ii, oOrd_ss, oIx_t, oIx_r, oIx_l, oIx_s, qNo, qPart, qSl, oSl_t, oSl_r, oSl_l, oSl_s, qMeth, mAppend_1, iSeq, iRange1, iRange2, qCall, endsF, startD, List.map_cons, List.map_nil, List.length_cons, List.length_nil, List.length_map, List.cons_append, List.nil_append, List.replicate, List.getElem?_cons_zero, List.getElem?_cons_succ, List.set_cons_zero, List.set_cons_succ, Nat.reduceAdd, Nat.reduceSub, if_true, if_false, id, ups_same, ex_lst, ex_lst2, ex_some, atI_0, atI_1, atI_2, atI_3, ixN_0, ixN_1, ixN_21]
  refine ⟨by decide, by decide, fun i loc S => ∃ (zs' : List Int) (r : Int) (y4 : Option D), loc = [x0, some (.ref p), x2, x3, y4, some (.int r)] ∧ S = ups T p (.lst (zs'.map D.int)) ∧ Rg zs' ∧ zs'.length ≤ zs.length + i ∧ 0 ≤ r ∧ r < 2147483647, ⟨zs, st, x4, rfl, rfl, hz, by omega, hs⟩, ?_, ?_⟩
  · rintro i d loc S hi ⟨zs', r, y4, rfl, rfl, hz', hl', hr⟩
    obtain ⟨hi1, rfl⟩ := rangeD_get hi
    have hi2 : i < 10 := hi1
    simp only [r__law_stream_b2, sSeq, sNext, sBreak, sCont, sDrop, sRet, sRetN, sIf, sSet, sPar, sAsg, sRaise, gN, gE, gC, gU, gS, qVar, qC, qBin, qTB, qChain, qNot, qAnd, qOr, bd_bl, qNotT, qAndT, qOrT, qTru, tru_non, tru_bl, tru_int, tru_str, tru_tup, tru_rol, tru_ref, qIf, qNil, qCons, qTup, qLst, qCB, cInt_i, cInt2_ii, cToInt_i, cToInt_b, cLen_s, cLen_t, cLen_r, cLen_l, cTuple_t, cTuple_r, cTuple_l, cList_t, cList_r, cList_l, qNeg, oI_ii, oAdd_ii, oSub, oMul, oDiv, oMod, oPow, oEq, oNe, oEqW_ii, oEqW_ss, oEqW_bb, oLt, oLe, oGt, oGe, oOrd_ii, oOrd_ss, oIx_t, oIx_r, oIx_l, oIx_s, qNo, qPart, qSl, oSl_t, oSl_r, oSl_l, oSl_s, qMeth, mAppend_1, iSeq, iRange1, iRange2, qCall, endsF, startD, List.map_cons, List.map_nil, List.length_cons, List.length_nil, List.length_map, List.cons_append, List.nil_append, List.replicate, List.getElem?_cons_zero, List.getElem?_cons_succ, List.set_cons_zero, List.set_cons_succ, Nat.reduceAdd, Nat.reduceSub, if_true, if_false, id, ups_same, ex_lst, ex_lst2, ex_some, atI_0, atI_1, atI_2, atI_3, ixN_0, ixN_1, ixN_21, map_snoc, ups_ups]
    have h8 := fmod_pos (a := r * 48271 + 7 * (0 + (i : Int)) + 11) (b := 2147483647) (by decide)
    have h9 := fun z : Int => fmod_pos (a := z) (b := 1009) (by decide)
    refine ⟨trivial, CMul.ofL (by omega), CMul.ofL (by omega), by decide, ⟨_, rfl⟩, CMul.ofL (by omega), by decide, by decide, szBig (by omega), ?_⟩
    exact ⟨_, _, _, rfl, rfl, hz'.snoc (h9 _), by simp; omega, h8⟩
  · rintro loc S ⟨zs', r, y4, rfl, rfl, hz', hl', hr⟩
    refine ⟨trivial, hn _ _ _ hz' ?_⟩
    have : (Src.vals (rangeD 0 (10 : Int).toNat)).items.length = 10 := rangeD_len
    omega
theorem ups_id {S : Sto} {a : Addr} {o : O} (h : S a = some o) : ups S a o = S := by
  funext b
  unfold ups
  split
  · rename_i e
    rw [e, h]
  · rfl
theorem cut_get {ns : List Int} {lo hi : Option Int} {i : Nat} {d : D} (h : (cutL (ns.map D.int) lo hi)[i]? = some d) : ∃ n, d = .int n := by
  have h1 := List.mem_of_getElem? h
  unfold cutL at h1
  obtain ⟨n, _, e⟩ := List.mem_map.mp (List.mem_of_mem_drop (List.mem_of_mem_take h1))
  exact ⟨n, e.symm⟩
theorem cut_len {α : Type} {xs : List α} {lo hi : Option Int} : (cutL xs lo hi).length ≤ xs.length := by
  unfold cutL
  have h1 := List.length_take_le (HT.sIx xs.length xs.length hi - HT.sIx xs.length 0 lo) (xs.drop (HT.sIx xs.length 0 lo))
  have h2 : (xs.drop (HT.sIx xs.length 0 lo)).length ≤ xs.length := by simp
  have h3 : ((xs.drop (HT.sIx xs.length 0 lo)).take (HT.sIx xs.length xs.length hi - HT.sIx xs.length 0 lo)).length ≤ (xs.drop (HT.sIx xs.length 0 lo)).length := by simp; omega
  omega
theorem p__law_stream : ∀ ds S Q E, sp__law_stream ad ds S Q E → r__law_stream ad (endsF Q E) (startD N__law_stream ds) S := by
  rintro ds S Q E ⟨ns, rfl, hl, q⟩
  simp only [r__law_stream, sSeq, sNext, sBreak, sCont, sDrop, sRet, sRetN, sIf, sSet, sPar, sAsg, sRaise, gN, gE, gC, gU, gS, qVar, qC, qBin, qTB, qChain, qNot, qAnd, qOr, bd_bl, qNotT, qAndT, qOrT, qTru, tru_non, tru_bl, tru_int, tru_str, tru_tup, tru_rol, tru_ref, qIf, qNil, qCons, qTup, qLst, qCB, cInt_i, cInt2_ii, cToInt_i, cToInt_b, cLen_s, cLen_t, cLen_r, cLen_l, cTuple_t, cTuple_r, cTuple_l, cList_t, cList_r, cList_l, qNeg, oI_ii, oAdd_ii, oSub, oMul, oDiv, oMod, oPow, oEq, oNe, oEqW_ii, oEqW_ss, oEqW_bb, oLt, oLe, oGt, oGe, oOrd_ii, oOrd_ss, oIx_t, oIx_r, oIx_l, oIx_s, qNo, qPart, qSl, oSl_t, oSl_r, oSl_l, oSl_s, qMeth, mAppend_1, iSeq, iRange1, iRange2, qCall, endsF, startD, List.map_cons, List.map_nil, List.length_cons, List.length_nil, List.length_map, List.cons_append, List.nil_append, List.replicate, List.getElem?_cons_zero, List.getElem?_cons_succ, List.set_cons_zero, List.set_cons_succ, Nat.reduceAdd, Nat.reduceSub, if_true, if_false, id, ups_same, ex_lst, ex_lst2, ex_some, atI_0, atI_1, atI_2, atI_3, ixN_0, ixN_1, ixN_21]
  refine ⟨by decide, fun p hp => ?_⟩
  unfold sFor
  simp only [sSeq, sNext, sBreak, sCont, sDrop, sRet, sRetN, sIf, sSet, sPar, sAsg, sRaise, gN, gE, gC, gU, gS, qVar, qC, qBin, qTB, qChain, qNot, qAnd, qOr, bd_bl, qNotT, qAndT, qOrT, qTru, tru_non, tru_bl, tru_int, tru_str, tru_tup, tru_rol, tru_ref, qIf, qNil, qCons, qTup, qLst, qCB, cInt_i, cInt2_ii, cToInt_i, cToInt_b, cLen_s, cLen_t, cLen_r, cLen_l, cTuple_t, cTuple_r, cTuple_l, cList_t, cList_r, cList_l, qNeg, oI_ii, oAdd_ii, oSub, oMul, oDiv, oMod, oPow, oEq, oNe, oEqW_ii, oEqW_ss, oEqW_bb, oLt, oLe, oGt, oGe, oOrd_ii, oOrd_ss, oIx_t, oIx_r, oIx_l, oIx_s, qNo, qPart, qSl, oSl_t, oSl_r, oSl_l, oSl_s, qMeth, mAppend_1, iSeq, iRange1, iRange2, qCall, endsF, startD, List.map_cons, List.map_nil, List.length_cons, List.length_nil, List.length_map, List.cons_append, List.nil_append, List.replicate, List.getElem?_cons_zero, List.getElem?_cons_succ, List.set_cons_zero, List.set_cons_succ, Nat.reduceAdd, Nat.reduceSub, if_true, if_false, id, ups_same, ex_lst, ex_lst2, ex_some, atI_0, atI_1, atI_2, atI_3, ixN_0, ixN_1, ixN_21]
  intro t ht
  have tp : t ≠ p := Ne.symm (sto_ne ups_same ht)
  have lenL : (cutL (ns.map D.int) none (some 63)).length ≤ 63 := Nat.le_trans cut_len (by simpa using hl)
  have e0 : ups (ups (ups S p (.lst [])) t (.lst (cutL (ns.map D.int) none (some 63)))) p (.lst (([] : List Int).map D.int)) = ups (ups S p (.lst [])) t (.lst (cutL (ns.map D.int) none (some 63))) := ups_id (by rw [ups_ne (Ne.symm tp)]; exact ups_same)
  refine ⟨fun i loc S' => ∃ (zs : List Int) (a b c d : Option D), loc = [some (.rol (ns.map D.int)), some (.ref p), a, b, c, d] ∧ S' = ups (ups (ups S p (.lst [])) t (.lst (cutL (ns.map D.int) none (some 63)))) p (.lst (zs.map D.int)) ∧ Rg zs ∧ zs.length ≤ 60 * i, ?_, ?_, ?_⟩
  · exact ⟨[], none, none, none, none, rfl, e0.symm, (fun _ z => by cases z), by simp⟩
  · rintro i d loc S' hi ⟨zs, a, b, c, d', rfl, rfl, hz, hzl⟩
    obtain ⟨cell, rfl⟩ := cut_get hi
    have hil : i < 63 := Nat.lt_of_lt_of_le (List.getElem?_eq_some_iff.mp hi).1 lenL
    refine ⟨by show ups _ _ _ t = _; rw [ups_ne tp]; exact ups_same, ?_⟩
    simp only [r__law_stream_b3, sSeq, sNext, sBreak, sCont, sDrop, sRet, sRetN, sIf, sSet, sPar, sAsg, sRaise, gN, gE, gC, gU, gS, qVar, qC, qBin, qTB, qChain, qNot, qAnd, qOr, bd_bl, qNotT, qAndT, qOrT, qTru, tru_non, tru_bl, tru_int, tru_str, tru_tup, tru_rol, tru_ref, qIf, qNil, qCons, qTup, qLst, qCB, cInt_i, cInt2_ii, cToInt_i, cToInt_b, cLen_s, cLen_t, cLen_r, cLen_l, cTuple_t, cTuple_r, cTuple_l, cList_t, cList_r, cList_l, qNeg, oI_ii, oAdd_ii, oSub, oMul, oDiv, oMod, oPow, oEq, oNe, oEqW_ii, oEqW_ss, oEqW_bb, oLt, oLe, oGt, oGe, oOrd_ii, oOrd_ss, oIx_t, oIx_r, oIx_l, oIx_s, qNo, qPart, qSl, oSl_t, oSl_r, oSl_l, oSl_s, qMeth, mAppend_1, iSeq, iRange1, iRange2, qCall, endsF, startD, List.map_cons, List.map_nil, List.length_cons, List.length_nil, List.length_map, List.cons_append, List.nil_append, List.replicate, List.getElem?_cons_zero, List.getElem?_cons_succ, List.set_cons_zero, List.set_cons_succ, Nat.reduceAdd, Nat.reduceSub, if_true, if_false, id, ups_same, ex_lst, ex_lst2, ex_some, atI_0, atI_1, atI_2, atI_3, ixN_0, ixN_1, ixN_21]
    generalize (if cell < 0 then -cell else cell) = r
    refine ⟨by unfold CPow; omega, ?_⟩
    by_cases h : (10 : Int) ^ (18 : Int).toNat ≤ r
    · refine ifT (decide_eq_true h) (loop1 hz (by omega) ?_)
      intro zs' y3 y4 hz' hl'
      exact ⟨zs', _, _, _, _, rfl, rfl, hz', by omega⟩
    · refine ifF (decide_eq_false h) ⟨by decide, loop2 hz (by omega) (fmod_pos (by decide)) ?_⟩
      intro zs' y4 y5 hz' hl'
      exact ⟨zs', _, _, _, _, rfl, rfl, hz', by omega⟩
  · rintro loc S' ⟨zs, a, b, c, d', rfl, rfl, hz, hzl⟩
    have hl3 : zs.length ≤ 60 * 63 := Nat.le_trans hzl (Nat.mul_le_mul_left _ lenL)
    refine ⟨by show ups _ _ _ t = _; rw [ups_ne tp]; exact ups_same, ?_⟩
    have sub : ∀ zs : List Int, Sub S (ups (ups (ups S p (.lst [])) t (.lst (cutL (ns.map D.int) none (some 63)))) p (.lst (zs.map D.int))) := fun zs => (((Sub.refl S).new hp).new ht).at hp
    have oth : ∀ (zs : List Int) (b : Addr) (o : O), ups (ups (ups S p (.lst [])) t (.lst (cutL (ns.map D.int) none (some 63)))) p (.lst (zs.map D.int)) b = some o → b = p ∨ S b = some o ∨ ∃ ds, o = .lst ds := fun zs b o e => by
      by_cases h1 : b = p
      · exact .inl h1
      · rw [ups_ne h1] at e
        by_cases h2 : b = t
        · subst h2
          rw [ups_same] at e
          exact .inr (.inr ⟨_, (Option.some.inj e).symm⟩)
        · rw [ups_ne h2, ups_ne h1] at e
          exact .inr (.inl e)
    simp only [sSeq, sNext, sBreak, sCont, sDrop, sRet, sRetN, sIf, sSet, sPar, sAsg, sRaise, gN, gE, gC, gU, gS, qVar, qC, qBin, qTB, qChain, qNot, qAnd, qOr, bd_bl, qNotT, qAndT, qOrT, qTru, tru_non, tru_bl, tru_int, tru_str, tru_tup, tru_rol, tru_ref, qIf, qNil, qCons, qTup, qLst, qCB, cInt_i, cInt2_ii, cToInt_i, cToInt_b, cLen_s, cLen_t, cLen_r, cLen_l, cTuple_t, cTuple_r, cTuple_l, cList_t, cList_r, cList_l, qNeg, oI_ii, oAdd_ii, oSub, oMul, oDiv, oMod, oPow, oEq, oNe, oEqW_ii, oEqW_ss, oEqW_bb, oLt, oLe, oGt, oGe, oOrd_ii, oOrd_ss, oIx_t, oIx_r, oIx_l, oIx_s, qNo, qPart, qSl, oSl_t, oSl_r, oSl_l, oSl_s, qMeth, mAppend_1, iSeq, iRange1, iRange2, qCall, endsF, startD, List.map_cons, List.map_nil, List.length_cons, List.length_nil, List.length_map, List.cons_append, List.nil_append, List.replicate, List.getElem?_cons_zero, List.getElem?_cons_succ, List.set_cons_zero, List.set_cons_succ, Nat.reduceAdd, Nat.reduceSub, if_true, if_false, id, ups_same, ex_lst, ex_lst2, ex_some, atI_0, atI_1, atI_2, atI_3, ixN_0, ixN_1, ixN_21]
    split
    · rename_i h0
      have hz0 : zs = [] := by
        cases zs with
        | nil => rfl
        | cons x r => simp at h0; omega
      subst hz0
      refine ⟨⟨_, rfl⟩, by decide, _, Sub.refl _, ?_⟩
      rw [ups_ups]
      exact q p [0] _ hp (sub [0]) (oth [0]) ups_same ⟨by simp, by simp, fun x hx => by
        obtain rfl : x = 0 := by simpa using hx
        omega⟩
    · rename_i h0
      refine ⟨_, Sub.refl _, q p zs _ hp (sub zs) (oth zs) ups_same ⟨fun z => ?_, by omega, hz⟩⟩
      subst z
      exact h0 rfl
end K35

namespace K35
open PySem PySem.Spec PyProof.Rows L2 PL
variable {ad : Ad}
def nmk (k : Nat) : Str := (["refused", "large", "missing", "paper", "form", "broken"] : List Str).getD k ""
theorem kinds_of (nd : ad.six.Nodup) {k : Nat} (hk : k < 6) : [D.bl (decide (ad.row k = ad.NotAllowed)), D.bl (decide (ad.row k = ad.TooLarge)), D.bl (decide (ad.row k = ad.Missing)), D.bl (decide (ad.row k = ad.BadPaper)), D.bl (decide (ad.row k = ad.BadForm)), D.bl (decide (ad.row k = ad.Broken))] = (List.range 6).map fun j => D.bl (decide (k = j)) := by
  have key : ∀ j, j < 6 → decide (ad.row k = ad.row j) = decide (k = j) := fun j hj => by
    have e : ∀ i, i < 6 → ∃ h : i < ad.six.length, ad.row i = ad.six[i] := fun i hi => ⟨hi, by
      have hi' : i < ad.six.length := hi
      unfold Ad.row
      rw [List.getD_eq_getElem?_getD, List.getElem?_eq_getElem hi']
      rfl⟩
    obtain ⟨h1, e1⟩ := e k hk
    obtain ⟨h2, e2⟩ := e j hj
    rw [e1, e2]
    have nd2 := List.pairwise_iff_getElem.mp nd
    refine decide_eq_decide.mpr ⟨fun z => ?_, fun z => by subst z; rfl⟩
    rcases Nat.lt_trichotomy k j with h | h | h
    · exact absurd z (nd2 k j h1 h2 h)
    · exact h
    · exact absurd z.symm (nd2 j k h2 h1 h)
  have h0 := key 0 (by decide)
  have h1 := key 1 (by decide)
  have h2 := key 2 (by decide)
  have h3 := key 3 (by decide)
  have h4 := key 4 (by decide)
  have h5 := key 5 (by decide)
  have e0 : ad.row 0 = ad.NotAllowed := rfl
  have e1 : ad.row 1 = ad.TooLarge := rfl
  have e2 : ad.row 2 = ad.Missing := rfl
  have e3 : ad.row 3 = ad.BadPaper := rfl
  have e4 : ad.row 4 = ad.BadForm := rfl
  have e5 : ad.row 5 = ad.Broken := rfl
  rw [e0] at h0
  rw [e1] at h1
  rw [e2] at h2
  rw [e3] at h3
  rw [e4] at h4
  rw [e5] at h5
  rw [h0, h1, h2, h3, h4, h5]
  rfl
theorem told_s (nd : ad.six.Nodup) {k : Nat} (hk : k < 6) {P : QN} {a : Addr} {S : Sto} {x0 x2 x3 x4 : Option D} (h : ∀ S', Sub S S' → P.rt (.tup [.str (nmk k)]) S') :
    r__law_told_s ad (ad.row k) a P [x0, some (.ref a), x2, x3, x4] S := by
  have m0 : ad.NotAllowed ∈ ad.six := by simp [Ad.six]
  have m1 : ad.TooLarge ∈ ad.six := by simp [Ad.six]
  have m2 : ad.Missing ∈ ad.six := by simp [Ad.six]
  have m3 : ad.BadPaper ∈ ad.six := by simp [Ad.six]
  have m4 : ad.BadForm ∈ ad.six := by simp [Ad.six]
  have m5 : ad.Broken ∈ ad.six := by simp [Ad.six]
  simp only [r__law_told_s, cIsK, sSeq, sNext, sBreak, sCont, sDrop, sRet, sRetN, sIf, sSet, sPar, sAsg, sRaise, gN, gE, gC, gU, gS, qVar, qC, qBin, qTB, qChain, qNot, qAnd, qOr, bd_bl, qNotT, qAndT, qOrT, qTru, tru_non, tru_bl, tru_int, tru_str, tru_tup, tru_rol, tru_ref, qIf, qNil, qCons, qTup, qLst, qCB, cInt_i, cInt2_ii, cToInt_i, cToInt_b, cLen_s, cLen_t, cLen_r, cLen_l, cTuple_t, cTuple_r, cTuple_l, cList_t, cList_r, cList_l, qNeg, oI_ii, oAdd_ii, oSub, oMul, oDiv, oMod, oPow, oEq, oNe, oEqW_ii, oEqW_ss, oEqW_bb, oLt, oLe, oGt, oGe, oOrd_ii, oOrd_ss, oIx_t, oIx_r, oIx_l, oIx_s, qNo, qPart, qSl, oSl_t, oSl_r, oSl_l, oSl_s, qMeth, mAppend_1, iSeq, iRange1, iRange2, qCall, endsF, startD, List.map_cons, List.map_nil, List.length_cons, List.length_nil, List.length_map, List.cons_append, List.nil_append, List.replicate, List.getElem?_cons_zero, List.getElem?_cons_succ, List.set_cons_zero, List.set_cons_succ, Nat.reduceAdd, Nat.reduceSub, if_true, if_false, id, ups_same, ex_lst, ex_lst2, ex_some, atI_0, atI_1, atI_2, atI_3, ixN_0, ixN_1, ixN_21]
  refine ⟨_, m0, rfl, _, m1, rfl, _, m2, rfl, _, m3, rfl, _, m4, rfl, _, m5, rfl, by decide, fun q hq => ?_⟩
  rw [kinds_of nd hk]
  unfold qLc
  simp only [sSeq, sNext, sBreak, sCont, sDrop, sRet, sRetN, sIf, sSet, sPar, sAsg, sRaise, gN, gE, gC, gU, gS, qVar, qC, qBin, qTB, qChain, qNot, qAnd, qOr, bd_bl, qNotT, qAndT, qOrT, qTru, tru_non, tru_bl, tru_int, tru_str, tru_tup, tru_rol, tru_ref, qIf, qNil, qCons, qTup, qLst, qCB, cInt_i, cInt2_ii, cToInt_i, cToInt_b, cLen_s, cLen_t, cLen_r, cLen_l, cTuple_t, cTuple_r, cTuple_l, cList_t, cList_r, cList_l, qNeg, oI_ii, oAdd_ii, oSub, oMul, oDiv, oMod, oPow, oEq, oNe, oEqW_ii, oEqW_ss, oEqW_bb, oLt, oLe, oGt, oGe, oOrd_ii, oOrd_ss, oIx_t, oIx_r, oIx_l, oIx_s, qNo, qPart, qSl, oSl_t, oSl_r, oSl_l, oSl_s, qMeth, mAppend_1, iSeq, iRange1, iRange2, qCall, endsF, startD, List.map_cons, List.map_nil, List.length_cons, List.length_nil, List.length_map, List.cons_append, List.nil_append, List.replicate, List.getElem?_cons_zero, List.getElem?_cons_succ, List.set_cons_zero, List.set_cons_succ, Nat.reduceAdd, Nat.reduceSub, if_true, if_false, id, ups_same, ex_lst, ex_lst2, ex_some, atI_0, atI_1, atI_2, atI_3, ixN_0, ixN_1, ixN_21, wipeD]
  refine ⟨by decide, by decide, fun p hp => ?_⟩
  have hpq : p ≠ q := Ne.symm (sto_ne ups_same hp)
  refine ⟨fun i acc S' => acc = (if k < i then [D.str (nmk k)] else []) ∧ Sub (ups S q (.lst ((List.range 6).map fun j => D.bl (decide (k = j))))) S' ∧ S' p = some (.lst acc), ⟨rfl, (Sub.refl _).new hp, ups_same⟩, ?_, ?_⟩
  · rintro i d acc S' hi ⟨rfl, sub, hacc⟩
    obtain ⟨hi1, rfl⟩ := rangeD_get hi
    have hi6 : i < 6 := hi1
    have e1 : S' q = some (.lst ((List.range 6).map fun j => D.bl (decide (k = j)))) := sub q _ ups_same
    have e2 : ((List.range 6).map fun j => D.bl (decide (k = j)))[i]? = some (D.bl (decide (k = i))) := by rw [List.getElem?_map, List.getElem?_range hi6]; rfl
    have e3 : [D.str "refused", D.str "large", D.str "missing", D.str "paper", D.str "form", D.str "broken"][i]? = some (D.str (nmk i)) := by
      match i, hi6 with
      | 0, _ => rfl
      | 1, _ => rfl
      | 2, _ => rfl
      | 3, _ => rfl
      | 4, _ => rfl
      | 5, _ => rfl
    simp only [sSeq, sNext, sBreak, sCont, sDrop, sRet, sRetN, sIf, sSet, sPar, sAsg, sRaise, gN, gE, gC, gU, gS, qVar, qC, qBin, qTB, qChain, qNot, qAnd, qOr, bd_bl, qNotT, qAndT, qOrT, qTru, tru_non, tru_bl, tru_int, tru_str, tru_tup, tru_rol, tru_ref, qIf, qNil, qCons, qTup, qLst, qCB, cInt_i, cInt2_ii, cToInt_i, cToInt_b, cLen_s, cLen_t, cLen_r, cLen_l, cTuple_t, cTuple_r, cTuple_l, cList_t, cList_r, cList_l, qNeg, oI_ii, oAdd_ii, oSub, oMul, oDiv, oMod, oPow, oEq, oNe, oEqW_ii, oEqW_ss, oEqW_bb, oLt, oLe, oGt, oGe, oOrd_ii, oOrd_ss, oIx_t, oIx_r, oIx_l, oIx_s, qNo, qPart, qSl, oSl_t, oSl_r, oSl_l, oSl_s, qMeth, mAppend_1, iSeq, iRange1, iRange2, qCall, endsF, startD, List.map_cons, List.map_nil, List.length_cons, List.length_nil, List.length_map, List.cons_append, List.nil_append, List.replicate, List.getElem?_cons_zero, List.getElem?_cons_succ, List.set_cons_zero, List.set_cons_succ, Nat.reduceAdd, Nat.reduceSub, if_true, if_false, id, ups_same, ex_lst, ex_lst2, ex_some, atI_0, atI_1, atI_2, atI_3, ixN_0, ixN_1, ixN_21, Int.zero_add, e1, atI_lt, e2, e3]
    refine ⟨trivial, ?_⟩
    by_cases hki : k = i
    · refine ifT (decide_eq_true hki) ⟨by decide, fun p1 hp1 => ?_⟩
      have hpp : p ≠ p1 := sto_ne hacc hp1
      subst hki
      rw [if_neg (by omega), if_pos (by omega)]
      rw [if_neg (by omega)] at hacc
      exact ⟨by rw [ups_ne hpp]; exact hacc, szBig (by simp), rfl, (sub.new hp1).at hp, trivial⟩
    · refine ifF (decide_eq_false hki) ?_
      have e4 : (if k < i + 1 then [D.str (nmk k)] else []) = if k < i then [D.str (nmk k)] else [] := by
        by_cases h : k < i
        · rw [if_pos h, if_pos (by omega)]
        · rw [if_neg h, if_neg (by omega)]
      rw [e4]
      exact ⟨rfl, sub, hacc⟩
  · rintro acc S' ⟨hac, sub, hacc⟩
    have : (Src.vals (rangeD 0 (6 : Int).toNat)).items.length = 6 := rangeD_len
    rw [this, if_pos hk] at hac
    subst hac
    refine ⟨trivial, by decide, fun p1 hp1 => ?_⟩
    have hpp : p ≠ p1 := sto_ne hacc hp1
    have oAdd_ll : ∀ (i j : Addr) (S : Sto) (P : PD), oAdd (.ref i) (.ref j) S P = ∃ xs ys, S i = some (.lst xs) ∧ S j = some (.lst ys) ∧ xs.length + ys.length ≤ sizeLine ∧ ∀ p, S p = none → P (.ref p) (ups S p (.lst (xs ++ ys))) := fun _ _ _ _ => rfl
    rw [oAdd_ll]
    refine ⟨[D.str (nmk k)], _, by rw [ups_ne hpp]; exact hacc, ups_same, sz2, fun p2 hp2 => ?_⟩
    have hs1 : Sub S' (ups (ups S' p1 (.lst [D.str ""])) p2 (.lst ([D.str (nmk k)] ++ [D.str ""]))) := ((Sub.refl _).new hp1).new hp2
    simp only [sSeq, sNext, sBreak, sCont, sDrop, sRet, sRetN, sIf, sSet, sPar, sAsg, sRaise, gN, gE, gC, gU, gS, qVar, qC, qBin, qTB, qChain, qNot, qAnd, qOr, bd_bl, qNotT, qAndT, qOrT, qTru, tru_non, tru_bl, tru_int, tru_str, tru_tup, tru_rol, tru_ref, qIf, qNil, qCons, qTup, qLst, qCB, cInt_i, cInt2_ii, cToInt_i, cToInt_b, cLen_s, cLen_t, cLen_r, cLen_l, cTuple_t, cTuple_r, cTuple_l, cList_t, cList_r, cList_l, qNeg, oI_ii, oAdd_ii, oSub, oMul, oDiv, oMod, oPow, oEq, oNe, oEqW_ii, oEqW_ss, oEqW_bb, oLt, oLe, oGt, oGe, oOrd_ii, oOrd_ss, oIx_t, oIx_r, oIx_l, oIx_s, qNo, qPart, qSl, oSl_t, oSl_r, oSl_l, oSl_s, qMeth, mAppend_1, iSeq, iRange1, iRange2, qCall, endsF, startD, List.map_cons, List.map_nil, List.length_cons, List.length_nil, List.length_map, List.cons_append, List.nil_append, List.replicate, List.getElem?_cons_zero, List.getElem?_cons_succ, List.set_cons_zero, List.set_cons_succ, Nat.reduceAdd, Nat.reduceSub, if_true, if_false, id, ups_same, ex_lst, ex_lst2, ex_some, atI_0, atI_1, atI_2, atI_3, ixN_0, ixN_1, ixN_21]
    refine ⟨by decide, fun p3 hp3 => ?_⟩
    have e5 : ups (ups (ups S' p1 (.lst [D.str ""])) p2 (.lst ([D.str (nmk k)] ++ [D.str ""]))) p3 (.lst [D.str "odd", D.str (nmk k)]) p = some (.lst [D.str (nmk k)]) := by
      rw [ups_ne (sto_ne (hs1 _ _ hacc) hp3)]
      exact hs1 _ _ hacc
    simp only [List.cons_append, List.nil_append] at e5
    simp only [sSeq, sNext, sBreak, sCont, sDrop, sRet, sRetN, sIf, sSet, sPar, sAsg, sRaise, gN, gE, gC, gU, gS, qVar, qC, qBin, qTB, qChain, qNot, qAnd, qOr, bd_bl, qNotT, qAndT, qOrT, qTru, tru_non, tru_bl, tru_int, tru_str, tru_tup, tru_rol, tru_ref, qIf, qNil, qCons, qTup, qLst, qCB, cInt_i, cInt2_ii, cToInt_i, cToInt_b, cLen_s, cLen_t, cLen_r, cLen_l, cTuple_t, cTuple_r, cTuple_l, cList_t, cList_r, cList_l, qNeg, oI_ii, oAdd_ii, oSub, oMul, oDiv, oMod, oPow, oEq, oNe, oEqW_ii, oEqW_ss, oEqW_bb, oLt, oLe, oGt, oGe, oOrd_ii, oOrd_ss, oIx_t, oIx_r, oIx_l, oIx_s, qNo, qPart, qSl, oSl_t, oSl_r, oSl_l, oSl_s, qMeth, mAppend_1, iSeq, iRange1, iRange2, qCall, endsF, startD, List.map_cons, List.map_nil, List.length_cons, List.length_nil, List.length_map, List.cons_append, List.nil_append, List.replicate, List.getElem?_cons_zero, List.getElem?_cons_succ, List.set_cons_zero, List.set_cons_succ, Nat.reduceAdd, Nat.reduceSub, if_true, if_false, id, ups_same, ex_lst, ex_lst2, ex_some, atI_0, atI_1, atI_2, atI_3, ixN_0, ixN_1, ixN_21, e5]
    refine ⟨_, rfl, by decide, h _ ?_⟩
    exact ((Sub.refl S).new hq).trans (sub.trans (hs1.new hp3))
theorem TabOk.of {tb : List (Addr × Str)} {S S' : Sto} (t : TabOk tb S) (h : Sub S S') (h2 : ∀ b o, S' b = some o → S b = some o ∨ ∃ ds, o = .lst ds) : TabOk tb S' :=
  ⟨fun p hp => h _ _ (t.1 p hp), fun a q e => by
    rcases h2 _ _ e with z | ⟨ds, z⟩
    · exact t.2 a q z
    · cases z⟩
/-- what _law_told(lambda: ..) is -/
theorem told_ok (nd : ad.six.Nodup) {tb : List (Addr × Str)} {nm : Str} {loc : PL.Loc} {S : Sto} {P : PD} {E : PX} {q : QE} (tok : TabOk tb S)
    (h : ∀ (S1 : Sto) (P1 : PD) (E1 : PX), Sub S S1 → TabOk tb S1 → (∀ d S2, Sub S S2 → P (.tup [.str "told", d]) S → P1 d S2) → (∀ k S2, k < 6 → Sub S S2 → P (.tup [.str (nmk k)]) S → E1 { cls := ad.row k } S2) → q loc S1 P1 E1) :
    qLam tb N__law_told nm (r__law_told ad) q loc S P E := by
  refine ⟨tok, fun f c' S1 sub hc tok1 => ?_⟩
  unfold r__law_told sTry
  simp only [sSeq, sNext, sBreak, sCont, sDrop, sRet, sRetN, sIf, sSet, sPar, sAsg, sRaise, gN, gE, gC, gU, gS, qVar, qC, qBin, qTB, qChain, qNot, qAnd, qOr, bd_bl, qNotT, qAndT, qOrT, qTru, tru_non, tru_bl, tru_int, tru_str, tru_tup, tru_rol, tru_ref, qIf, qNil, qCons, qTup, qLst, qCB, cInt_i, cInt2_ii, cToInt_i, cToInt_b, cLen_s, cLen_t, cLen_r, cLen_l, cTuple_t, cTuple_r, cTuple_l, cList_t, cList_r, cList_l, qNeg, oI_ii, oAdd_ii, oSub, oMul, oDiv, oMod, oPow, oEq, oNe, oEqW_ii, oEqW_ss, oEqW_bb, oLt, oLe, oGt, oGe, oOrd_ii, oOrd_ss, oIx_t, oIx_r, oIx_l, oIx_s, qNo, qPart, qSl, oSl_t, oSl_r, oSl_l, oSl_s, qMeth, mAppend_1, iSeq, iRange1, iRange2, qCall, endsF, startD, List.map_cons, List.map_nil, List.length_cons, List.length_nil, List.length_map, List.cons_append, List.nil_append, List.replicate, List.getElem?_cons_zero, List.getElem?_cons_succ, List.set_cons_zero, List.set_cons_succ, Nat.reduceAdd, Nat.reduceSub, if_true, if_false, id, ups_same, ex_lst, ex_lst2, ex_some, atI_0, atI_1, atI_2, atI_3, ixN_0, ixN_1, ixN_21, qAct]
  refine ⟨trivial, hc, h S1 _ _ sub tok1 (fun d S2 s2 hp => ⟨sz2, S, s2, hp⟩) fun k S2 hk s2 hp => ⟨rfl, ?_, fun a ha => ?_⟩⟩
  · unfold Ad.row
    rw [List.getD_eq_getElem?_getD, List.getElem?_eq_getElem (show k < ad.six.length from hk)]
    exact List.getElem_mem _
  · exact told_s nd hk fun S' s' => ⟨S, s2.trans s', hp⟩
end K35

namespace K35
open PySem PySem.Spec PyProof.Rows L2 PL
variable {ad : Ad}
/-! ## comprehensions over typed items -/
theorem get_emb {α : Type} {xs : List α} {emb : α → D} {i : Nat} {d : D} (h : (xs.map emb)[i]? = some d) : ∃ a, xs[i]? = some a ∧ d = emb a := by
  rw [List.getElem?_map] at h
  obtain ⟨a, h1, h2⟩ := Option.map_eq_some_iff.mp h
  exact ⟨a, h1, h2.symm⟩
theorem lc_filtT {α : Type} {it : QI} {g : QG} {tt : QT} {te : QE} {own : List Nat} {loc : PL.Loc} {S S1 : Sto} {P : PD} {E : PX} (src : Src) (xs : List α) (emb : α → D) (q : α → Bool) (h : α → D) (hit : ∀ Q : Src → Sto → Prop, Q src S1 → it loc S Q E) (hok : src_ok src S1) (hx : src.items = xs.map emb) (hl : xs.length ≤ 100000)
    (hb : ∀ a S' (C : Option D → Sto → Prop), a ∈ xs → Sub S1 S' → (∀ S2, Sub S' S2 → C (if q a = true then some (h a) else none) S2) → g (emb a) (wipeD loc own) S' (fun loc2 S2 => tt loc2 S2 (fun b S3 => if b = true then te loc2 S3 (fun y S4 => C (some y) S4) fun _ _ => False else C none S3) fun _ _ => False) fun _ _ => False)
    (hP : ∀ p S', S1 p = none → Sub S1 S' → S' p = some (.lst ((xs.filter q).map h)) → P (.ref p) S') : qLc it g tt te own loc S P E := by
  have e : src.items.length = xs.length := by rw [hx, List.length_map]
  refine lc_go src (fun i => xs[i]?.bind fun x => if q x = true then some (h x) else none) hit hok (by rw [e]; exact hl) (fun i d S' C hi sub hC => ?_) fun p S' hp sub e' => hP p S' hp sub (by rw [e', e, fm_filt])
  rw [hx] at hi
  obtain ⟨a, ha, rfl⟩ := get_emb hi
  exact hb a S' C (List.mem_of_getElem? ha) sub fun S2 s2 => hC _ S2 (by rw [ha]; rfl) s2
theorem lc_mapT {α : Type} {it : QI} {g : QG} {te : QE} {own : List Nat} {loc : PL.Loc} {S S1 : Sto} {P : PD} {E : PX} (src : Src) (xs : List α) (emb : α → D) (h : α → D) (hit : ∀ Q : Src → Sto → Prop, Q src S1 → it loc S Q E) (hok : src_ok src S1) (hx : src.items = xs.map emb) (hl : xs.length ≤ 100000)
    (hb : ∀ a S' (C : D → Sto → Prop), a ∈ xs → Sub S1 S' → (∀ S2, Sub S' S2 → C (h a) S2) → g (emb a) (wipeD loc own) S' (fun loc2 S2 => te loc2 S2 (fun y S4 => C y S4) fun _ _ => False) fun _ _ => False)
    (hP : ∀ p S', S1 p = none → Sub S1 S' → S' p = some (.lst (xs.map h)) → P (.ref p) S') : qLc it g qYes te own loc S P E := by
  have e : src.items.length = xs.length := by rw [hx, List.length_map]
  refine lc_go src (fun i => xs[i]?.map h) hit hok (by rw [e]; exact hl) (fun i d S' C hi sub hC => ?_) fun p S' hp sub e' => hP p S' hp sub (by rw [e', e, fm_map])
  rw [hx] at hi
  obtain ⟨a, ha, rfl⟩ := get_emb hi
  unfold qYes
  simp only [if_true]
  exact hb a S' (fun y S4 => C (some y) S4) (List.mem_of_getElem? ha) sub fun S2 s2 => hC _ S2 (by rw [ha]; rfl) s2
/-- bools, their list -/
theorem lc_boolsT {α : Type} {it : QI} {g : QG} {te : QE} {own : List Nat} {loc : PL.Loc} {S S1 : Sto} {P : PD} {E : PX} (src : Src) (xs : List α) (emb : α → D) (h : α → Bool) (hit : ∀ Q : Src → Sto → Prop, Q src S1 → it loc S Q E) (hok : src_ok src S1) (hx : src.items = xs.map emb) (hl : xs.length ≤ 100000)
    (hb : ∀ a S' (C : D → Sto → Prop), a ∈ xs → Sub S1 S' → (∀ S2, Sub S' S2 → C (.bl (h a)) S2) → g (emb a) (wipeD loc own) S' (fun loc2 S2 => te loc2 S2 (fun y S4 => C y S4) fun _ _ => False) fun _ _ => False)
    (hP : ∀ p S', S1 p = none → Sub S1 S' → LsAt S' (.ref p) ((xs.map h).map D.bl) → P (.ref p) S') : qLc it g qYes te own loc S P E := by
  refine lc_mapT src xs emb (fun a => .bl (h a)) hit hok hx hl hb fun p S' hp sub e => hP p S' hp sub (.inr ⟨p, rfl, ?_⟩)
  rw [e, List.map_map]
  rfl
theorem lc2_mapT {α β : Type} {it it1 : QI} {g g1 : QG} {te : QE} {own own1 : List Nat} {loc : PL.Loc} {S S1 : Sto} {P : PD} {E : PX} (xs : List α) (emb : α → D) (inn : α → List β) (emb1 : β → D) (h : β → Bool) (L2 : α → PL.Loc) (hit : ∀ Q : Src → Sto → Prop, Q (.vals (xs.map emb)) S1 → it loc S Q E) (hl : ∀ n, ((xs.take n).flatMap inn).length ≤ 100000)
    (hb : ∀ a S' (R : PL.Loc → Src → Sto → Prop), a ∈ xs → Sub S1 S' → R (L2 a) (.vals ((inn a).map emb1)) S' → g (emb a) (wipeD loc own) S' (fun loc2 S2 => it1 loc2 S2 (fun src1 S4 => R loc2 src1 S4) fun _ _ => False) fun _ _ => False)
    (hb1 : ∀ a x S' (C : D → Sto → Prop), a ∈ xs → x ∈ inn a → Sub S1 S' → (∀ S2, Sub S' S2 → C (.bl (h x)) S2) → g1 (emb1 x) (wipeD (L2 a) own1) S' (fun loc5 S5 => te loc5 S5 (fun y S6 => C y S6) fun _ _ => False) fun _ _ => False)
    (hP : ∀ p S', S1 p = none → Sub S1 S' → LsAt S' (.ref p) (((xs.flatMap inn).map h).map D.bl) → P (.ref p) S') : qLc2 it g qYes it1 g1 qYes te own own1 loc S P E := by
  unfold qLc2
  refine hit _ fun p hp => ⟨fun i acc S' => acc = ((xs.take i).flatMap inn).map (fun x => D.bl (h x)) ∧ Sub S1 S' ∧ S' p = some (.lst acc), ⟨by simp, (Sub.refl S1).new hp, ups_same⟩, ?_, ?_⟩
  · rintro i d acc S' hi ⟨rfl, sub, hacc⟩
    refine ⟨trivial, ?_⟩
    obtain ⟨a, hi0, rfl⟩ := get_emb (show (xs.map emb)[i]? = some d from hi)
    have hd : a ∈ xs := List.mem_of_getElem? hi0
    have et : (xs.take (i + 1)).flatMap inn = (xs.take i).flatMap inn ++ inn a := by
      rw [List.take_succ, hi0, List.flatMap_append]
      simp
    have hl1 := hl (i + 1)
    rw [et] at hl1
    simp only [qYes, if_true]
    refine hb a S' _ hd sub ?_
    refine ⟨fun j acc S'' => acc = ((xs.take i).flatMap inn).map (fun x => D.bl (h x)) ++ ((inn a).take j).map (fun x => D.bl (h x)) ∧ Sub S1 S'' ∧ S'' p = some (.lst acc), ⟨by simp, sub, hacc⟩, ?_, ?_⟩
    · rintro j d1 acc S2 hj ⟨rfl, sub2, hacc2⟩
      refine ⟨trivial, ?_⟩
      obtain ⟨x, hj0, rfl⟩ := get_emb (show ((inn a).map emb1)[j]? = some d1 from hj)
      refine hb1 a x S2 (fun y S7 => _) hd (List.mem_of_getElem? hj0) sub2 fun S7 s7 => ⟨s7 _ _ hacc2, ?_, ?_, (sub2.trans s7).at hp, ups_same⟩
      · refine szB ?_
        rw [List.length_append, List.length_map, List.length_map]
        rw [List.length_append] at hl1
        have h2 : ((inn a).take j).length ≤ (inn a).length := by rw [List.length_take]; omega
        omega
      · rw [List.take_succ, hj0, List.map_append, List.append_assoc]
        rfl
    · rintro acc S2 ⟨rfl, sub2, hacc2⟩
      refine ⟨trivial, ?_, sub2, hacc2⟩
      show _ ++ ((inn a).take ((inn a).map emb1).length).map _ = _
      rw [et, List.length_map, List.take_length, List.map_append]
  · rintro acc S' ⟨rfl, sub, hacc⟩
    refine ⟨trivial, hP p S' hp sub (.inr ⟨p, rfl, ?_⟩)⟩
    rw [hacc]
    show some (O.lst (((xs.take (xs.map emb).length).flatMap inn).map _)) = _
    rw [List.length_map, List.take_length, List.map_map]
    rfl
theorem rangeD_0 {n : Nat} : (Src.vals (rangeD 0 (n : Int).toNat)).items = (List.range n).map fun (i : Nat) => D.int i := by
  show rangeD 0 (n : Int).toNat = _
  unfold rangeD
  simp
/-! ## cells -/
variable {t : Tb} {m : Nat}
theorem getD_mem {α : Type} {xs : List α} {i : Nat} {d : α} (h : i < xs.length) : xs.getD i d ∈ xs := by
  rw [List.getD_eq_getElem?_getD, List.getElem?_eq_getElem h]
  exact List.getElem_mem h
theorem Sq.row_len (h : Sq t m) {i : Nat} (hi : i < m) : (t.getD i []).length = m := h.row _ (getD_mem (by rw [h.len]; exact hi))
theorem Sq.atr (h : Sq t m) {i : Nat} (hi : i < m) : atI (t.map rD) (i : Int) = some (rD (t.getD i [])) := by
  rw [atI_lt, List.getElem?_map, List.getD_eq_getElem?_getD, List.getElem?_eq_getElem (by rw [h.len]; exact hi)]
  rfl
theorem Sq.atc (h : Sq t m) {i j : Nat} (hi : i < m) (hj : j < m) : atI ((t.getD i []).map D.int) (j : Int) = some (.int (c t i j)) := by
  have := h.row_len hi
  rw [atI_lt, List.getElem?_map, List.getElem?_eq_getElem (by omega)]
  unfold c
  rw [List.getD_eq_getElem?_getD (l := t.getD i []), List.getElem?_eq_getElem (by omega)]
  rfl
theorem Sq.crng (h : Sq t m) {i j : Nat} (hi : i < m) (hj : j < m) : -1 ≤ c t i j ∧ c t i j < m := by
  have := h.row_len hi
  exact h.rng _ (getD_mem (by rw [h.len]; exact hi)) _ (getD_mem (by omega))
theorem list_getD {α : Type} {xs : List α} {d : α} : (List.range xs.length).map (fun i => xs.getD i d) = xs := by
  refine List.ext_getElem (by simp) fun i h1 h2 => ?_
  rw [List.getElem_map, List.getElem_range, List.getD_eq_getElem?_getD, List.getElem?_eq_getElem h2]
  rfl
theorem Sq.rowE (h : Sq t m) {i : Nat} (hi : i < m) : K35.row t m i = t.getD i [] := by
  have e := list_getD (xs := t.getD i []) (d := 0)
  rw [h.row_len hi] at e
  exact e
theorem Sq.rows (h : Sq t m) : (List.range m).map (fun i => K35.row t m i) = t := by
  have e := list_getD (xs := t) (d := [])
  rw [h.len] at e
  refine Eq.trans (List.map_congr_left fun i hi => ?_) e
  exact h.rowE (List.mem_range.mp hi)
theorem Sq.c0 (h : Sq t m) {i j : Nat} (hi : i < m) (hj : j < m) (h1 : c t i j ≠ -1) : ∃ n : Nat, c t i j = n ∧ n < m := by
  have := h.crng hi hj
  exact ⟨(c t i j).toNat, by omega, by omega⟩
/-! ## sets by their number -/
theorem step_len {K : Type} [DecidableEq K] : ∀ (ks acc : List K), (ks.foldl stepDed acc).length ≤ acc.length + ks.length
  | [], acc => by simp
  | k :: ks, acc => by
    rw [List.foldl_cons]
    have := step_len ks (stepDed acc k)
    have h2 : (stepDed acc k).length ≤ acc.length + 1 := by
      unfold stepDed
      split <;> simp
    rw [List.length_cons]
    omega
theorem step_nodup {K : Type} [DecidableEq K] : ∀ (ks acc : List K), acc.Nodup → ((ks.foldl stepDed acc).length = acc.length + ks.length ↔ (acc ++ ks).Nodup)
  | [], acc, h => by simp [h]
  | k :: ks, acc, h => by
    rw [List.foldl_cons]
    by_cases hk : k ∈ acc
    · have e : stepDed acc k = acc := by unfold stepDed; rw [if_pos hk]
      rw [e]
      have := step_len ks acc
      refine ⟨fun z => ?_, fun z => ?_⟩
      · rw [List.length_cons] at z
        omega
      · exact absurd rfl ((List.nodup_append.mp z).2.2 k hk k (List.mem_cons_self ..))
    · have e : stepDed acc k = acc ++ [k] := by unfold stepDed; rw [if_neg hk]
      rw [e]
      have n2 : (acc ++ [k]).Nodup := List.nodup_append.mpr ⟨h, by simp, fun a ha b hb z => by
        rw [List.mem_singleton.mp hb] at z
        exact hk (z ▸ ha)⟩
      have ih := step_nodup ks (acc ++ [k]) n2
      rw [List.append_assoc, List.length_append] at ih
      show _ ↔ (acc ++ ([k] ++ ks)).Nodup
      rw [← ih, List.length_cons, List.length_singleton]
      omega
theorem ded_lt {K : Type} [DecidableEq K] (ks : List K) : ((ded ks).length : Int) < ks.length ↔ ¬ ks.Nodup := by
  have h1 := step_len ks []
  have h2 := step_nodup ks [] List.nodup_nil
  rw [List.nil_append] at h2
  rw [← h2]
  unfold ded
  simp only [List.length_nil] at *
  omega
end K35

namespace K35
open PySem PySem.Spec PyProof.Rows L2 PL
variable {ad : Ad} {t : Tb} {m : Nat}
theorem sq_of {t : Tb} (h1 : 1 ≤ t.length) (h2 : t.length ≤ 12) (h3 : (t.map fun r => decide ((r.length : Int) = t.length)).all id = true) (h4 : ((t.flatMap id).map fun x => decide (-1 ≤ x) && decide (x < (t.length : Int))).all id = true) : Sq t t.length := by
  refine ⟨h1, h2, rfl, fun r hr => ?_, fun r hr x hx => ?_⟩
  · rw [List.all_map] at h3
    have := of_decide_eq_true (List.all_eq_true.mp h3 r hr)
    omega
  · rw [List.all_map] at h4
    have := List.all_eq_true.mp h4 x (List.mem_flatMap.mpr ⟨r, hr, hx⟩)
    simp only [Function.comp, id, Bool.and_eq_true, decide_eq_true_eq] at this
    exact this
theorem of_sq {t : Tb} (h : Sq t m) : m = t.length ∧ (t.map fun r => decide ((r.length : Int) = t.length)).all id = true ∧ ((t.flatMap id).map fun x => decide (-1 ≤ x) && decide (x < (t.length : Int))).all id = true := by
  obtain ⟨h1, h2, rfl, h4, h5⟩ := h
  refine ⟨rfl, ?_, ?_⟩
  · rw [List.all_map]
    exact List.all_eq_true.mpr fun r hr => decide_eq_true (by rw [h4 r hr])
  · rw [List.all_map]
    refine List.all_eq_true.mpr fun x hx => ?_
    obtain ⟨r, hr, hx⟩ := List.mem_flatMap.mp hx
    have := h5 r hr x hx
    simp only [Function.comp, id, Bool.and_eq_true, decide_eq_true_eq]
    exact this
theorem flat_len {t : Tb} (hz : Sz t) (n : Nat) : ((t.take n).flatMap id).length ≤ 100000 := by
  have key : ∀ l : Tb, (∀ r ∈ l, r.length ≤ 100) → (l.flatMap id).length ≤ 100 * l.length := by
    intro l
    induction l with
    | nil => intro _; simp
    | cons r l ih =>
      intro h
      have h1 := h r (List.mem_cons_self ..)
      have h2 := ih fun r hr => h r (List.mem_cons_of_mem _ hr)
      rw [List.flatMap_cons, List.length_append, List.length_cons]
      show r.length + _ ≤ _
      omega
  have h1 := key (t.take n) fun r hr => hz.2 r (List.mem_of_mem_take hr)
  have h2 : (t.take n).length ≤ t.length := by rw [List.length_take]; omega
  have h3 := hz.1
  omega
theorem p_check_partial : ∀ ds S Q E, sp_check_partial ad ds S Q E → r_check_partial ad (endsF Q E) (startD N_check_partial ds) S := by
  rintro ds S Q E ⟨t, rfl, hz, h1, h2⟩
  have no : ∀ {S'}, Sub S S' → (∀ m, ¬ Sq t m) → ∃ S2, Sub S2 S' ∧ E { cls := ad.NotAllowed } S2 := fun s h => ⟨S, s, h2 h⟩
  simp only [r_check_partial, tD, sSeq, sNext, sBreak, sCont, sDrop, sRet, sRetN, sIf, sSet, sPar, sAsg, sRaise, gN, gE, gC, gU, gS, qVar, qC, qBin, qTB, qChain, qNot, qAnd, qOr, bd_bl, qNotT, qAndT, qOrT, qTru, tru_non, tru_bl, tru_int, tru_str, tru_tup, tru_rol, tru_ref, qIf, qNil, qCons, qTup, qLst, qCB, cInt_i, cInt2_ii, cToInt_i, cToInt_b, cLen_s, cLen_t, cLen_r, cLen_l, cTuple_t, cTuple_r, cTuple_l, cList_t, cList_r, cList_l, qNeg, oI_ii, oAdd_ii, oSub, oMul, oDiv, oMod, oPow, oEq, oNe, oEqW_ii, oEqW_ss, oEqW_bb, oLt, oLe, oGt, oGe, oOrd_ii, oOrd_ss, oIx_t, oIx_r, oIx_l, oIx_s, qNo, qPart, qSl, oSl_t, oSl_r, oSl_l, oSl_s, qMeth, mAppend_1, iSeq, iRange1, iRange2, qCall, endsF, startD, List.map_cons, List.map_nil, List.length_cons, List.length_nil, List.length_map, List.cons_append, List.nil_append, List.replicate, List.getElem?_cons_zero, List.getElem?_cons_succ, List.set_cons_zero, List.set_cons_succ, Nat.reduceAdd, Nat.reduceSub, if_true, if_false, id, ups_same, ex_lst, ex_lst2, ex_some, atI_0, atI_1, atI_2, atI_3, ixN_0, ixN_1, ixN_21, oIx_p]
  by_cases c1 : (1 : Int) ≤ t.length
  · rw [decide_eq_true c1]
    dsimp only
    by_cases c2 : (t.length : Int) ≤ 12
    · rw [decide_eq_true c2]
      refine ifF rfl ?_
      refine lc_boolsT (.vals (t.map rD)) t rD (fun r => decide ((r.length : Int) = t.length)) (fun Q q => by simp only [sSeq, sNext, sBreak, sCont, sDrop, sRet, sRetN, sIf, sSet, sPar, sAsg, sRaise, gN, gE, gC, gU, gS, qVar, qC, qBin, qTB, qChain, qNot, qAnd, qOr, bd_bl, qNotT, qAndT, qOrT, qTru, tru_non, tru_bl, tru_int, tru_str, tru_tup, tru_rol, tru_ref, qIf, qNil, qCons, qTup, qLst, qCB, cInt_i, cInt2_ii, cToInt_i, cToInt_b, cLen_s, cLen_t, cLen_r, cLen_l, cTuple_t, cTuple_r, cTuple_l, cList_t, cList_r, cList_l, qNeg, oI_ii, oAdd_ii, oSub, oMul, oDiv, oMod, oPow, oEq, oNe, oEqW_ii, oEqW_ss, oEqW_bb, oLt, oLe, oGt, oGe, oOrd_ii, oOrd_ss, oIx_t, oIx_r, oIx_l, oIx_s, qNo, qPart, qSl, oSl_t, oSl_r, oSl_l, oSl_s, qMeth, mAppend_1, iSeq, iRange1, iRange2, qCall, endsF, startD, List.map_cons, List.map_nil, List.length_cons, List.length_nil, List.length_map, List.cons_append, List.nil_append, List.replicate, List.getElem?_cons_zero, List.getElem?_cons_succ, List.set_cons_zero, List.set_cons_succ, Nat.reduceAdd, Nat.reduceSub, if_true, if_false, id, ups_same, ex_lst, ex_lst2, ex_some, atI_0, atI_1, atI_2, atI_3, ixN_0, ixN_1, ixN_21, oIx_p]; exact q) ok_vals rfl (by have := hz.1; omega) ?_ ?_
      · intro r S' C hr sub hC
        simp only [wipeD, rD, sSeq, sNext, sBreak, sCont, sDrop, sRet, sRetN, sIf, sSet, sPar, sAsg, sRaise, gN, gE, gC, gU, gS, qVar, qC, qBin, qTB, qChain, qNot, qAnd, qOr, bd_bl, qNotT, qAndT, qOrT, qTru, tru_non, tru_bl, tru_int, tru_str, tru_tup, tru_rol, tru_ref, qIf, qNil, qCons, qTup, qLst, qCB, cInt_i, cInt2_ii, cToInt_i, cToInt_b, cLen_s, cLen_t, cLen_r, cLen_l, cTuple_t, cTuple_r, cTuple_l, cList_t, cList_r, cList_l, qNeg, oI_ii, oAdd_ii, oSub, oMul, oDiv, oMod, oPow, oEq, oNe, oEqW_ii, oEqW_ss, oEqW_bb, oLt, oLe, oGt, oGe, oOrd_ii, oOrd_ss, oIx_t, oIx_r, oIx_l, oIx_s, qNo, qPart, qSl, oSl_t, oSl_r, oSl_l, oSl_s, qMeth, mAppend_1, iSeq, iRange1, iRange2, qCall, endsF, startD, List.map_cons, List.map_nil, List.length_cons, List.length_nil, List.length_map, List.cons_append, List.nil_append, List.replicate, List.getElem?_cons_zero, List.getElem?_cons_succ, List.set_cons_zero, List.set_cons_succ, Nat.reduceAdd, Nat.reduceSub, if_true, if_false, id, ups_same, ex_lst, ex_lst2, ex_some, atI_0, atI_1, atI_2, atI_3, ixN_0, ixN_1, ixN_21, oIx_p]
        exact hC S' (Sub.refl _)
      · intro p S' hp sub hL
        refine ⟨_, _, rfl, hL, ?_⟩
        simp only [tru_bl]
        cases c3 : (t.map fun r => decide ((r.length : Int) = t.length)).all id with
        | false =>
          refine ifT rfl (no sub fun m h => ?_)
          rw [(of_sq h).2.1] at c3
          cases c3
        | true =>
          refine ifF rfl ?_
          refine lc2_mapT t rD id D.int (fun x => decide (-1 ≤ x) && decide (x < (t.length : Int))) (fun r => [some (.tup (t.map rD)), some (.int t.length), some (rD r), none]) (fun Q q => by simp only [sSeq, sNext, sBreak, sCont, sDrop, sRet, sRetN, sIf, sSet, sPar, sAsg, sRaise, gN, gE, gC, gU, gS, qVar, qC, qBin, qTB, qChain, qNot, qAnd, qOr, bd_bl, qNotT, qAndT, qOrT, qTru, tru_non, tru_bl, tru_int, tru_str, tru_tup, tru_rol, tru_ref, qIf, qNil, qCons, qTup, qLst, qCB, cInt_i, cInt2_ii, cToInt_i, cToInt_b, cLen_s, cLen_t, cLen_r, cLen_l, cTuple_t, cTuple_r, cTuple_l, cList_t, cList_r, cList_l, qNeg, oI_ii, oAdd_ii, oSub, oMul, oDiv, oMod, oPow, oEq, oNe, oEqW_ii, oEqW_ss, oEqW_bb, oLt, oLe, oGt, oGe, oOrd_ii, oOrd_ss, oIx_t, oIx_r, oIx_l, oIx_s, qNo, qPart, qSl, oSl_t, oSl_r, oSl_l, oSl_s, qMeth, mAppend_1, iSeq, iRange1, iRange2, qCall, endsF, startD, List.map_cons, List.map_nil, List.length_cons, List.length_nil, List.length_map, List.cons_append, List.nil_append, List.replicate, List.getElem?_cons_zero, List.getElem?_cons_succ, List.set_cons_zero, List.set_cons_succ, Nat.reduceAdd, Nat.reduceSub, if_true, if_false, id, ups_same, ex_lst, ex_lst2, ex_some, atI_0, atI_1, atI_2, atI_3, ixN_0, ixN_1, ixN_21, oIx_p]; exact q) (flat_len hz) ?_ ?_ ?_
          · intro r S' R hr sub hR
            simp only [wipeD, rD, sSeq, sNext, sBreak, sCont, sDrop, sRet, sRetN, sIf, sSet, sPar, sAsg, sRaise, gN, gE, gC, gU, gS, qVar, qC, qBin, qTB, qChain, qNot, qAnd, qOr, bd_bl, qNotT, qAndT, qOrT, qTru, tru_non, tru_bl, tru_int, tru_str, tru_tup, tru_rol, tru_ref, qIf, qNil, qCons, qTup, qLst, qCB, cInt_i, cInt2_ii, cToInt_i, cToInt_b, cLen_s, cLen_t, cLen_r, cLen_l, cTuple_t, cTuple_r, cTuple_l, cList_t, cList_r, cList_l, qNeg, oI_ii, oAdd_ii, oSub, oMul, oDiv, oMod, oPow, oEq, oNe, oEqW_ii, oEqW_ss, oEqW_bb, oLt, oLe, oGt, oGe, oOrd_ii, oOrd_ss, oIx_t, oIx_r, oIx_l, oIx_s, qNo, qPart, qSl, oSl_t, oSl_r, oSl_l, oSl_s, qMeth, mAppend_1, iSeq, iRange1, iRange2, qCall, endsF, startD, List.map_cons, List.map_nil, List.length_cons, List.length_nil, List.length_map, List.cons_append, List.nil_append, List.replicate, List.getElem?_cons_zero, List.getElem?_cons_succ, List.set_cons_zero, List.set_cons_succ, Nat.reduceAdd, Nat.reduceSub, if_true, if_false, id, ups_same, ex_lst, ex_lst2, ex_some, atI_0, atI_1, atI_2, atI_3, ixN_0, ixN_1, ixN_21, oIx_p]
            exact hR
          · intro r x S' C hr hx sub hC
            simp only [wipeD, sSeq, sNext, sBreak, sCont, sDrop, sRet, sRetN, sIf, sSet, sPar, sAsg, sRaise, gN, gE, gC, gU, gS, qVar, qC, qBin, qTB, qChain, qNot, qAnd, qOr, bd_bl, qNotT, qAndT, qOrT, qTru, tru_non, tru_bl, tru_int, tru_str, tru_tup, tru_rol, tru_ref, qIf, qNil, qCons, qTup, qLst, qCB, cInt_i, cInt2_ii, cToInt_i, cToInt_b, cLen_s, cLen_t, cLen_r, cLen_l, cTuple_t, cTuple_r, cTuple_l, cList_t, cList_r, cList_l, qNeg, oI_ii, oAdd_ii, oSub, oMul, oDiv, oMod, oPow, oEq, oNe, oEqW_ii, oEqW_ss, oEqW_bb, oLt, oLe, oGt, oGe, oOrd_ii, oOrd_ss, oIx_t, oIx_r, oIx_l, oIx_s, qNo, qPart, qSl, oSl_t, oSl_r, oSl_l, oSl_s, qMeth, mAppend_1, iSeq, iRange1, iRange2, qCall, endsF, startD, List.map_cons, List.map_nil, List.length_cons, List.length_nil, List.length_map, List.cons_append, List.nil_append, List.replicate, List.getElem?_cons_zero, List.getElem?_cons_succ, List.set_cons_zero, List.set_cons_succ, Nat.reduceAdd, Nat.reduceSub, if_true, if_false, id, ups_same, ex_lst, ex_lst2, ex_some, atI_0, atI_1, atI_2, atI_3, ixN_0, ixN_1, ixN_21, oIx_p]
            have := hC S' (Sub.refl _)
            by_cases d1 : (-1 : Int) ≤ x
            · rw [decide_eq_true d1] at this ⊢
              exact this
            · rw [decide_eq_false d1] at this ⊢
              exact this
          · intro p2 S2 hp2 sub2 hL2
            refine ⟨_, _, rfl, hL2, ?_⟩
            simp only [tru_bl]
            cases c4 : ((t.flatMap id).map fun x => decide (-1 ≤ x) && decide (x < (t.length : Int))).all id with
            | false =>
              refine ifT rfl (no (sub.trans sub2) fun m h => ?_)
              rw [(of_sq h).2.2] at c4
              cases c4
            | true => exact ifF rfl ⟨S, sub.trans sub2, h1 _ (sq_of (by omega) (by omega) c3 c4)⟩
    · rw [decide_eq_false c2]
      refine ifT rfl (no (Sub.refl S) fun m h => ?_)
      have := (of_sq h).1
      have := h.le
      omega
  · rw [decide_eq_false c1]
    dsimp only
    refine ifT rfl (no (Sub.refl S) fun m h => ?_)
    have := (of_sq h).1
    have := h.pos
    omega
theorem p_check_table : ∀ ds S Q E, sp_check_table ad ds S Q E → r_check_table ad (endsF Q E) (startD N_check_table ds) S := by
  rintro ds S Q E ⟨t, rfl, hz, h1, h2⟩
  simp only [r_check_table, sp_check_partial, sSeq, sNext, sBreak, sCont, sDrop, sRet, sRetN, sIf, sSet, sPar, sAsg, sRaise, gN, gE, gC, gU, gS, qVar, qC, qBin, qTB, qChain, qNot, qAnd, qOr, bd_bl, qNotT, qAndT, qOrT, qTru, tru_non, tru_bl, tru_int, tru_str, tru_tup, tru_rol, tru_ref, qIf, qNil, qCons, qTup, qLst, qCB, cInt_i, cInt2_ii, cToInt_i, cToInt_b, cLen_s, cLen_t, cLen_r, cLen_l, cTuple_t, cTuple_r, cTuple_l, cList_t, cList_r, cList_l, qNeg, oI_ii, oAdd_ii, oSub, oMul, oDiv, oMod, oPow, oEq, oNe, oEqW_ii, oEqW_ss, oEqW_bb, oLt, oLe, oGt, oGe, oOrd_ii, oOrd_ss, oIx_t, oIx_r, oIx_l, oIx_s, qNo, qPart, qSl, oSl_t, oSl_r, oSl_l, oSl_s, qMeth, mAppend_1, iSeq, iRange1, iRange2, qCall, endsF, startD, List.map_cons, List.map_nil, List.length_cons, List.length_nil, List.length_map, List.cons_append, List.nil_append, List.replicate, List.getElem?_cons_zero, List.getElem?_cons_succ, List.set_cons_zero, List.set_cons_succ, Nat.reduceAdd, Nat.reduceSub, if_true, if_false, id, ups_same, ex_lst, ex_lst2, ex_some, atI_0, atI_1, atI_2, atI_3, ixN_0, ixN_1, ixN_21, oIx_p]
  refine ⟨t, rfl, hz, fun m h => ?_, fun h => ⟨S, Sub.refl S, h2 fun m z => h m z.1⟩⟩
  refine lc2_mapT t rD id D.int (fun x => decide (x = -1)) (fun r => [some (tD t), some (rD r), none]) (fun Q q => by simp only [tD, sSeq, sNext, sBreak, sCont, sDrop, sRet, sRetN, sIf, sSet, sPar, sAsg, sRaise, gN, gE, gC, gU, gS, qVar, qC, qBin, qTB, qChain, qNot, qAnd, qOr, bd_bl, qNotT, qAndT, qOrT, qTru, tru_non, tru_bl, tru_int, tru_str, tru_tup, tru_rol, tru_ref, qIf, qNil, qCons, qTup, qLst, qCB, cInt_i, cInt2_ii, cToInt_i, cToInt_b, cLen_s, cLen_t, cLen_r, cLen_l, cTuple_t, cTuple_r, cTuple_l, cList_t, cList_r, cList_l, qNeg, oI_ii, oAdd_ii, oSub, oMul, oDiv, oMod, oPow, oEq, oNe, oEqW_ii, oEqW_ss, oEqW_bb, oLt, oLe, oGt, oGe, oOrd_ii, oOrd_ss, oIx_t, oIx_r, oIx_l, oIx_s, qNo, qPart, qSl, oSl_t, oSl_r, oSl_l, oSl_s, qMeth, mAppend_1, iSeq, iRange1, iRange2, qCall, endsF, startD, List.map_cons, List.map_nil, List.length_cons, List.length_nil, List.length_map, List.cons_append, List.nil_append, List.replicate, List.getElem?_cons_zero, List.getElem?_cons_succ, List.set_cons_zero, List.set_cons_succ, Nat.reduceAdd, Nat.reduceSub, if_true, if_false, id, ups_same, ex_lst, ex_lst2, ex_some, atI_0, atI_1, atI_2, atI_3, ixN_0, ixN_1, ixN_21, oIx_p]; exact q) (flat_len hz) ?_ ?_ ?_
  · intro r S' R hr sub hR
    simp only [wipeD, rD, sSeq, sNext, sBreak, sCont, sDrop, sRet, sRetN, sIf, sSet, sPar, sAsg, sRaise, gN, gE, gC, gU, gS, qVar, qC, qBin, qTB, qChain, qNot, qAnd, qOr, bd_bl, qNotT, qAndT, qOrT, qTru, tru_non, tru_bl, tru_int, tru_str, tru_tup, tru_rol, tru_ref, qIf, qNil, qCons, qTup, qLst, qCB, cInt_i, cInt2_ii, cToInt_i, cToInt_b, cLen_s, cLen_t, cLen_r, cLen_l, cTuple_t, cTuple_r, cTuple_l, cList_t, cList_r, cList_l, qNeg, oI_ii, oAdd_ii, oSub, oMul, oDiv, oMod, oPow, oEq, oNe, oEqW_ii, oEqW_ss, oEqW_bb, oLt, oLe, oGt, oGe, oOrd_ii, oOrd_ss, oIx_t, oIx_r, oIx_l, oIx_s, qNo, qPart, qSl, oSl_t, oSl_r, oSl_l, oSl_s, qMeth, mAppend_1, iSeq, iRange1, iRange2, qCall, endsF, startD, List.map_cons, List.map_nil, List.length_cons, List.length_nil, List.length_map, List.cons_append, List.nil_append, List.replicate, List.getElem?_cons_zero, List.getElem?_cons_succ, List.set_cons_zero, List.set_cons_succ, Nat.reduceAdd, Nat.reduceSub, if_true, if_false, id, ups_same, ex_lst, ex_lst2, ex_some, atI_0, atI_1, atI_2, atI_3, ixN_0, ixN_1, ixN_21, oIx_p]
    exact hR
  · intro r x S' C hr hx sub hC
    simp only [wipeD, sSeq, sNext, sBreak, sCont, sDrop, sRet, sRetN, sIf, sSet, sPar, sAsg, sRaise, gN, gE, gC, gU, gS, qVar, qC, qBin, qTB, qChain, qNot, qAnd, qOr, bd_bl, qNotT, qAndT, qOrT, qTru, tru_non, tru_bl, tru_int, tru_str, tru_tup, tru_rol, tru_ref, qIf, qNil, qCons, qTup, qLst, qCB, cInt_i, cInt2_ii, cToInt_i, cToInt_b, cLen_s, cLen_t, cLen_r, cLen_l, cTuple_t, cTuple_r, cTuple_l, cList_t, cList_r, cList_l, qNeg, oI_ii, oAdd_ii, oSub, oMul, oDiv, oMod, oPow, oEq, oNe, oEqW_ii, oEqW_ss, oEqW_bb, oLt, oLe, oGt, oGe, oOrd_ii, oOrd_ss, oIx_t, oIx_r, oIx_l, oIx_s, qNo, qPart, qSl, oSl_t, oSl_r, oSl_l, oSl_s, qMeth, mAppend_1, iSeq, iRange1, iRange2, qCall, endsF, startD, List.map_cons, List.map_nil, List.length_cons, List.length_nil, List.length_map, List.cons_append, List.nil_append, List.replicate, List.getElem?_cons_zero, List.getElem?_cons_succ, List.set_cons_zero, List.set_cons_succ, Nat.reduceAdd, Nat.reduceSub, if_true, if_false, id, ups_same, ex_lst, ex_lst2, ex_some, atI_0, atI_1, atI_2, atI_3, ixN_0, ixN_1, ixN_21, oIx_p]
    exact hC S' (Sub.refl _)
  · intro p2 S2 hp2 sub2 hL2
    refine ⟨_, _, rfl, hL2, ?_⟩
    simp only [tru_bl]
    cases c4 : ((t.flatMap id).map fun x => decide (x = -1)).any id with
    | true =>
      refine ifT rfl ⟨S, sub2, h2 fun m' z => ?_⟩
      rw [List.any_map] at c4
      obtain ⟨x, hx, e⟩ := List.any_eq_true.mp c4
      obtain ⟨r, hr, hx⟩ := List.mem_flatMap.mp hx
      have := z.2 r hr x hx
      have := of_decide_eq_true e
      omega
    | false =>
      refine ifF rfl ⟨S, sub2, h1 m h fun r hr x hx => ?_⟩
      rw [List.any_map] at c4
      have e := List.any_eq_false.mp c4 x (List.mem_flatMap.mpr ⟨r, hr, hx⟩)
      have e2 : x ≠ -1 := fun z => e (decide_eq_true z)
      have := (h.rng r hr x hx).1
      omega
theorem fl_str (ws : List Str) : (ws.map D.str).all fl = true := by simp [fl]
theorem eqF_str {x y : Str} : eqF (.str x) (.str y) = decide (x = y) := by
  unfold eqF vD L2.eqV
  by_cases h : x = y <;> simp [h]
theorem p_check_wishes : ∀ ds S Q E, sp_check_wishes ad ds S Q E → r_check_wishes ad (endsF Q E) (startD N_check_wishes ds) S := by
  rintro ds S Q E ⟨ws, rfl, hz, h1, h2⟩
  simp only [r_check_wishes, qLenSet, sSeq, sNext, sBreak, sCont, sDrop, sRet, sRetN, sIf, sSet, sPar, sAsg, sRaise, gN, gE, gC, gU, gS, qVar, qC, qBin, qTB, qChain, qNot, qAnd, qOr, bd_bl, qNotT, qAndT, qOrT, qTru, tru_non, tru_bl, tru_int, tru_str, tru_tup, tru_rol, tru_ref, qIf, qNil, qCons, qTup, qLst, qCB, cInt_i, cInt2_ii, cToInt_i, cToInt_b, cLen_s, cLen_t, cLen_r, cLen_l, cTuple_t, cTuple_r, cTuple_l, cList_t, cList_r, cList_l, qNeg, oI_ii, oAdd_ii, oSub, oMul, oDiv, oMod, oPow, oEq, oNe, oEqW_ii, oEqW_ss, oEqW_bb, oLt, oLe, oGt, oGe, oOrd_ii, oOrd_ss, oIx_t, oIx_r, oIx_l, oIx_s, qNo, qPart, qSl, oSl_t, oSl_r, oSl_l, oSl_s, qMeth, mAppend_1, iSeq, iRange1, iRange2, qCall, endsF, startD, List.map_cons, List.map_nil, List.length_cons, List.length_nil, List.length_map, List.cons_append, List.nil_append, List.replicate, List.getElem?_cons_zero, List.getElem?_cons_succ, List.set_cons_zero, List.set_cons_succ, Nat.reduceAdd, Nat.reduceSub, if_true, if_false, id, ups_same, ex_lst, ex_lst2, ex_some, atI_0, atI_1, atI_2, atI_3, ixN_0, ixN_1, ixN_21, oIx_p]
  refine .inr ⟨ws, .inr rfl, by omega, ?_⟩
  by_cases c1 : ((ded ws).length : Int) < ws.length
  · refine ifT (decide_eq_true c1) ⟨S, Sub.refl S, h2 fun z => ?_⟩
    exact (ded_lt ws).mp c1 z.1
  · refine ifF (decide_eq_false c1) ?_
    have nd : ws.Nodup := Classical.byContradiction fun z => c1 ((ded_lt ws).mpr z)
    refine lc_boolsT (.vals (ws.map D.str)) ws D.str (fun w => four.any fun y => decide (y = w)) (fun Q q => by simp only [sSeq, sNext, sBreak, sCont, sDrop, sRet, sRetN, sIf, sSet, sPar, sAsg, sRaise, gN, gE, gC, gU, gS, qVar, qC, qBin, qTB, qChain, qNot, qAnd, qOr, bd_bl, qNotT, qAndT, qOrT, qTru, tru_non, tru_bl, tru_int, tru_str, tru_tup, tru_rol, tru_ref, qIf, qNil, qCons, qTup, qLst, qCB, cInt_i, cInt2_ii, cToInt_i, cToInt_b, cLen_s, cLen_t, cLen_r, cLen_l, cTuple_t, cTuple_r, cTuple_l, cList_t, cList_r, cList_l, qNeg, oI_ii, oAdd_ii, oSub, oMul, oDiv, oMod, oPow, oEq, oNe, oEqW_ii, oEqW_ss, oEqW_bb, oLt, oLe, oGt, oGe, oOrd_ii, oOrd_ss, oIx_t, oIx_r, oIx_l, oIx_s, qNo, qPart, qSl, oSl_t, oSl_r, oSl_l, oSl_s, qMeth, mAppend_1, iSeq, iRange1, iRange2, qCall, endsF, startD, List.map_cons, List.map_nil, List.length_cons, List.length_nil, List.length_map, List.cons_append, List.nil_append, List.replicate, List.getElem?_cons_zero, List.getElem?_cons_succ, List.set_cons_zero, List.set_cons_succ, Nat.reduceAdd, Nat.reduceSub, if_true, if_false, id, ups_same, ex_lst, ex_lst2, ex_some, atI_0, atI_1, atI_2, atI_3, ixN_0, ixN_1, ixN_21, oIx_p]; exact q) ok_vals rfl (by omega) ?_ ?_
    · intro r S' C hr sub hC
      simp only [wipeD, oInX, oInF, sSeq, sNext, sBreak, sCont, sDrop, sRet, sRetN, sIf, sSet, sPar, sAsg, sRaise, gN, gE, gC, gU, gS, qVar, qC, qBin, qTB, qChain, qNot, qAnd, qOr, bd_bl, qNotT, qAndT, qOrT, qTru, tru_non, tru_bl, tru_int, tru_str, tru_tup, tru_rol, tru_ref, qIf, qNil, qCons, qTup, qLst, qCB, cInt_i, cInt2_ii, cToInt_i, cToInt_b, cLen_s, cLen_t, cLen_r, cLen_l, cTuple_t, cTuple_r, cTuple_l, cList_t, cList_r, cList_l, qNeg, oI_ii, oAdd_ii, oSub, oMul, oDiv, oMod, oPow, oEq, oNe, oEqW_ii, oEqW_ss, oEqW_bb, oLt, oLe, oGt, oGe, oOrd_ii, oOrd_ss, oIx_t, oIx_r, oIx_l, oIx_s, qNo, qPart, qSl, oSl_t, oSl_r, oSl_l, oSl_s, qMeth, mAppend_1, iSeq, iRange1, iRange2, qCall, endsF, startD, List.map_cons, List.map_nil, List.length_cons, List.length_nil, List.length_map, List.cons_append, List.nil_append, List.replicate, List.getElem?_cons_zero, List.getElem?_cons_succ, List.set_cons_zero, List.set_cons_succ, Nat.reduceAdd, Nat.reduceSub, if_true, if_false, id, ups_same, ex_lst, ex_lst2, ex_some, atI_0, atI_1, atI_2, atI_3, ixN_0, ixN_1, ixN_21, oIx_p]
      refine .inl (.inr ⟨_, .inl rfl, rfl, rfl, ?_⟩)
      have := hC S' (Sub.refl _)
      simpa only [eqF_str, four, List.any_cons, List.any_nil] using this
    · intro p S' hp sub hL
      refine ⟨_, _, rfl, hL, ?_⟩
      simp only [tru_bl]
      have key : (ws.map fun w => four.any fun y => decide (y = w)).all id = true ↔ ∀ w ∈ ws, w ∈ four := by
        rw [List.all_map, List.all_eq_true]
        refine forall_congr' fun w => forall_congr' fun hw => ?_
        show (four.any fun y => decide (y = w)) = true ↔ _
        rw [List.any_eq_true]
        exact ⟨fun ⟨y, hy, e⟩ => (of_decide_eq_true e) ▸ hy, fun h => ⟨w, h, decide_eq_true rfl⟩⟩
      cases c3 : (ws.map fun w => four.any fun y => decide (y = w)).all id with
      | false =>
        refine ifT rfl ⟨S, sub, h2 fun z => ?_⟩
        rw [key.mpr z.2] at c3
        cases c3
      | true => exact ifF rfl ⟨S, sub, h1 ⟨nd, key.mp c3⟩⟩
theorem p_repeats : ∀ ds S Q E, sp_repeats ad ds S Q E → r_repeats ad (endsF Q E) (startD N_repeats ds) S := by
  rintro ds S Q E ⟨d, xs, rfl, hd, hl, q⟩
  obtain ⟨src, ok, hx, hit⟩ : ∃ src : Src, src_ok src S ∧ src.items = xs.map D.int ∧ ∀ Q : Src → Sto → Prop, Q src S → iSeq (qVar 0) [some d, none, none] S Q fun x S1 => ∃ S2, Sub S2 S1 ∧ E x S2 := by
    rcases hd with ⟨a, rfl, ha⟩ | rfl
    · refine ⟨.live a (xs.map D.int), ok_live ha, rfl, fun Q q => ?_⟩
      simp only [sSeq, sNext, sBreak, sCont, sDrop, sRet, sRetN, sIf, sSet, sPar, sAsg, sRaise, gN, gE, gC, gU, gS, qVar, qC, qBin, qTB, qChain, qNot, qAnd, qOr, bd_bl, qNotT, qAndT, qOrT, qTru, tru_non, tru_bl, tru_int, tru_str, tru_tup, tru_rol, tru_ref, qIf, qNil, qCons, qTup, qLst, qCB, cInt_i, cInt2_ii, cToInt_i, cToInt_b, cLen_s, cLen_t, cLen_r, cLen_l, cTuple_t, cTuple_r, cTuple_l, cList_t, cList_r, cList_l, qNeg, oI_ii, oAdd_ii, oSub, oMul, oDiv, oMod, oPow, oEq, oNe, oEqW_ii, oEqW_ss, oEqW_bb, oLt, oLe, oGt, oGe, oOrd_ii, oOrd_ss, oIx_t, oIx_r, oIx_l, oIx_s, qNo, qPart, qSl, oSl_t, oSl_r, oSl_l, oSl_s, qMeth, mAppend_1, iSeq, iRange1, iRange2, qCall, endsF, startD, List.map_cons, List.map_nil, List.length_cons, List.length_nil, List.length_map, List.cons_append, List.nil_append, List.replicate, List.getElem?_cons_zero, List.getElem?_cons_succ, List.set_cons_zero, List.set_cons_succ, Nat.reduceAdd, Nat.reduceSub, if_true, if_false, id, ups_same, ex_lst, ex_lst2, ex_some, atI_0, atI_1, atI_2, atI_3, ixN_0, ixN_1, ixN_21, oIx_p]
      exact ⟨_, ha, q⟩
    · refine ⟨.vals (xs.map D.int), ok_vals, rfl, fun Q q => ?_⟩
      simp only [sSeq, sNext, sBreak, sCont, sDrop, sRet, sRetN, sIf, sSet, sPar, sAsg, sRaise, gN, gE, gC, gU, gS, qVar, qC, qBin, qTB, qChain, qNot, qAnd, qOr, bd_bl, qNotT, qAndT, qOrT, qTru, tru_non, tru_bl, tru_int, tru_str, tru_tup, tru_rol, tru_ref, qIf, qNil, qCons, qTup, qLst, qCB, cInt_i, cInt2_ii, cToInt_i, cToInt_b, cLen_s, cLen_t, cLen_r, cLen_l, cTuple_t, cTuple_r, cTuple_l, cList_t, cList_r, cList_l, qNeg, oI_ii, oAdd_ii, oSub, oMul, oDiv, oMod, oPow, oEq, oNe, oEqW_ii, oEqW_ss, oEqW_bb, oLt, oLe, oGt, oGe, oOrd_ii, oOrd_ss, oIx_t, oIx_r, oIx_l, oIx_s, qNo, qPart, qSl, oSl_t, oSl_r, oSl_l, oSl_s, qMeth, mAppend_1, iSeq, iRange1, iRange2, qCall, endsF, startD, List.map_cons, List.map_nil, List.length_cons, List.length_nil, List.length_map, List.cons_append, List.nil_append, List.replicate, List.getElem?_cons_zero, List.getElem?_cons_succ, List.set_cons_zero, List.set_cons_succ, Nat.reduceAdd, Nat.reduceSub, if_true, if_false, id, ups_same, ex_lst, ex_lst2, ex_some, atI_0, atI_1, atI_2, atI_3, ixN_0, ixN_1, ixN_21, oIx_p]
      exact q
  simp only [r_repeats, qLenSet, sSeq, sNext, sBreak, sCont, sDrop, sRet, sRetN, sIf, sSet, sPar, sAsg, sRaise, gN, gE, gC, gU, gS, qVar, qC, qBin, qTB, qChain, qNot, qAnd, qOr, bd_bl, qNotT, qAndT, qOrT, qTru, tru_non, tru_bl, tru_int, tru_str, tru_tup, tru_rol, tru_ref, qIf, qNil, qCons, qTup, qLst, qCB, cInt_i, cInt2_ii, cToInt_i, cToInt_b, cLen_s, cLen_t, cLen_r, cLen_l, cTuple_t, cTuple_r, cTuple_l, cList_t, cList_r, cList_l, qNeg, oI_ii, oAdd_ii, oSub, oMul, oDiv, oMod, oPow, oEq, oNe, oEqW_ii, oEqW_ss, oEqW_bb, oLt, oLe, oGt, oGe, oOrd_ii, oOrd_ss, oIx_t, oIx_r, oIx_l, oIx_s, qNo, qPart, qSl, oSl_t, oSl_r, oSl_l, oSl_s, qMeth, mAppend_1, iSeq, iRange1, iRange2, qCall, endsF, startD, List.map_cons, List.map_nil, List.length_cons, List.length_nil, List.length_map, List.cons_append, List.nil_append, List.replicate, List.getElem?_cons_zero, List.getElem?_cons_succ, List.set_cons_zero, List.set_cons_succ, Nat.reduceAdd, Nat.reduceSub, if_true, if_false, id, ups_same, ex_lst, ex_lst2, ex_some, atI_0, atI_1, atI_2, atI_3, ixN_0, ixN_1, ixN_21, oIx_p]
  refine lc_filtT src xs D.int (fun x => !decide (x = -1)) D.int hit ok hx (by omega) ?_ ?_
  · intro x S' C hx sub hC
    simp only [wipeD, sSeq, sNext, sBreak, sCont, sDrop, sRet, sRetN, sIf, sSet, sPar, sAsg, sRaise, gN, gE, gC, gU, gS, qVar, qC, qBin, qTB, qChain, qNot, qAnd, qOr, bd_bl, qNotT, qAndT, qOrT, qTru, tru_non, tru_bl, tru_int, tru_str, tru_tup, tru_rol, tru_ref, qIf, qNil, qCons, qTup, qLst, qCB, cInt_i, cInt2_ii, cToInt_i, cToInt_b, cLen_s, cLen_t, cLen_r, cLen_l, cTuple_t, cTuple_r, cTuple_l, cList_t, cList_r, cList_l, qNeg, oI_ii, oAdd_ii, oSub, oMul, oDiv, oMod, oPow, oEq, oNe, oEqW_ii, oEqW_ss, oEqW_bb, oLt, oLe, oGt, oGe, oOrd_ii, oOrd_ss, oIx_t, oIx_r, oIx_l, oIx_s, qNo, qPart, qSl, oSl_t, oSl_r, oSl_l, oSl_s, qMeth, mAppend_1, iSeq, iRange1, iRange2, qCall, endsF, startD, List.map_cons, List.map_nil, List.length_cons, List.length_nil, List.length_map, List.cons_append, List.nil_append, List.replicate, List.getElem?_cons_zero, List.getElem?_cons_succ, List.set_cons_zero, List.set_cons_succ, Nat.reduceAdd, Nat.reduceSub, if_true, if_false, id, ups_same, ex_lst, ex_lst2, ex_some, atI_0, atI_1, atI_2, atI_3, ixN_0, ixN_1, ixN_21, oIx_p]
    by_cases h : x = -1
    · refine ifF (by simp [h]) ?_
      have := hC S' (Sub.refl _)
      simpa [h] using this
    · refine ifT (by simp [h]) ?_
      have := hC S' (Sub.refl _)
      simpa [h] using this
  · intro p S' hp sub e
    have hl2 : (kn xs).length ≤ xs.length := List.length_filter_le ..
    refine .inl ⟨kn xs, .inl (.inr ⟨p, rfl, e⟩), by omega, ?_⟩
    rw [cLen_l]
    refine ⟨_, e, ?_⟩
    rw [oOrd_ii]
    refine ⟨S, sub, ?_⟩
    rw [List.length_map]
    have : decide (((ded (kn xs)).length : Int) < (List.filter (fun x => !decide (x = -1)) xs).length) = dB (¬ (kn xs).Nodup) := dB_of (by rw [decide_eq_true_eq]; exact ded_lt (kn xs))
    rw [this]
    exact q
theorem p_breaks_latin : ∀ ds S Q E, sp_breaks_latin ad ds S Q E → r_breaks_latin ad (endsF Q E) (startD N_breaks_latin ds) S := by
  rintro ds S Q E ⟨t, m, rfl, hs, q⟩
  have hle := hs.le
  have hlen := hs.len
  simp only [r_breaks_latin, sp_repeats, tD, sSeq, sNext, sBreak, sCont, sDrop, sRet, sRetN, sIf, sSet, sPar, sAsg, sRaise, gN, gE, gC, gU, gS, qVar, qC, qBin, qTB, qChain, qNot, qAnd, qOr, bd_bl, qNotT, qAndT, qOrT, qTru, tru_non, tru_bl, tru_int, tru_str, tru_tup, tru_rol, tru_ref, qIf, qNil, qCons, qTup, qLst, qCB, cInt_i, cInt2_ii, cToInt_i, cToInt_b, cLen_s, cLen_t, cLen_r, cLen_l, cTuple_t, cTuple_r, cTuple_l, cList_t, cList_r, cList_l, qNeg, oI_ii, oAdd_ii, oSub, oMul, oDiv, oMod, oPow, oEq, oNe, oEqW_ii, oEqW_ss, oEqW_bb, oLt, oLe, oGt, oGe, oOrd_ii, oOrd_ss, oIx_t, oIx_r, oIx_l, oIx_s, qNo, qPart, qSl, oSl_t, oSl_r, oSl_l, oSl_s, qMeth, mAppend_1, iSeq, iRange1, iRange2, qCall, endsF, startD, List.map_cons, List.map_nil, List.length_cons, List.length_nil, List.length_map, List.cons_append, List.nil_append, List.replicate, List.getElem?_cons_zero, List.getElem?_cons_succ, List.set_cons_zero, List.set_cons_succ, Nat.reduceAdd, Nat.reduceSub, if_true, if_false, id, ups_same, ex_lst, ex_lst2, ex_some, atI_0, atI_1, atI_2, atI_3, ixN_0, ixN_1, ixN_21, oIx_p]
  refine lc_boolsT (.vals (t.map rD)) t rD (fun r => dB (¬ (kn r).Nodup)) (fun Q q => by simp only [sSeq, sNext, sBreak, sCont, sDrop, sRet, sRetN, sIf, sSet, sPar, sAsg, sRaise, gN, gE, gC, gU, gS, qVar, qC, qBin, qTB, qChain, qNot, qAnd, qOr, bd_bl, qNotT, qAndT, qOrT, qTru, tru_non, tru_bl, tru_int, tru_str, tru_tup, tru_rol, tru_ref, qIf, qNil, qCons, qTup, qLst, qCB, cInt_i, cInt2_ii, cToInt_i, cToInt_b, cLen_s, cLen_t, cLen_r, cLen_l, cTuple_t, cTuple_r, cTuple_l, cList_t, cList_r, cList_l, qNeg, oI_ii, oAdd_ii, oSub, oMul, oDiv, oMod, oPow, oEq, oNe, oEqW_ii, oEqW_ss, oEqW_bb, oLt, oLe, oGt, oGe, oOrd_ii, oOrd_ss, oIx_t, oIx_r, oIx_l, oIx_s, qNo, qPart, qSl, oSl_t, oSl_r, oSl_l, oSl_s, qMeth, mAppend_1, iSeq, iRange1, iRange2, qCall, endsF, startD, List.map_cons, List.map_nil, List.length_cons, List.length_nil, List.length_map, List.cons_append, List.nil_append, List.replicate, List.getElem?_cons_zero, List.getElem?_cons_succ, List.set_cons_zero, List.set_cons_succ, Nat.reduceAdd, Nat.reduceSub, if_true, if_false, id, ups_same, ex_lst, ex_lst2, ex_some, atI_0, atI_1, atI_2, atI_3, ixN_0, ixN_1, ixN_21, oIx_p]; exact q) ok_vals rfl (by omega) ?_ ?_
  · intro r S' C hr sub hC
    simp only [wipeD, rD, sSeq, sNext, sBreak, sCont, sDrop, sRet, sRetN, sIf, sSet, sPar, sAsg, sRaise, gN, gE, gC, gU, gS, qVar, qC, qBin, qTB, qChain, qNot, qAnd, qOr, bd_bl, qNotT, qAndT, qOrT, qTru, tru_non, tru_bl, tru_int, tru_str, tru_tup, tru_rol, tru_ref, qIf, qNil, qCons, qTup, qLst, qCB, cInt_i, cInt2_ii, cToInt_i, cToInt_b, cLen_s, cLen_t, cLen_r, cLen_l, cTuple_t, cTuple_r, cTuple_l, cList_t, cList_r, cList_l, qNeg, oI_ii, oAdd_ii, oSub, oMul, oDiv, oMod, oPow, oEq, oNe, oEqW_ii, oEqW_ss, oEqW_bb, oLt, oLe, oGt, oGe, oOrd_ii, oOrd_ss, oIx_t, oIx_r, oIx_l, oIx_s, qNo, qPart, qSl, oSl_t, oSl_r, oSl_l, oSl_s, qMeth, mAppend_1, iSeq, iRange1, iRange2, qCall, endsF, startD, List.map_cons, List.map_nil, List.length_cons, List.length_nil, List.length_map, List.cons_append, List.nil_append, List.replicate, List.getElem?_cons_zero, List.getElem?_cons_succ, List.set_cons_zero, List.set_cons_succ, Nat.reduceAdd, Nat.reduceSub, if_true, if_false, id, ups_same, ex_lst, ex_lst2, ex_some, atI_0, atI_1, atI_2, atI_3, ixN_0, ixN_1, ixN_21, oIx_p]
    exact ⟨_, r, rfl, .inr rfl, by rw [hs.row r hr]; omega, hC S' (Sub.refl _)⟩
  · intro p S' hp sub hL
    refine ⟨_, _, rfl, hL, ?_⟩
    simp only [tru_bl]
    have k1 : (t.map fun r => dB (¬ (kn r).Nodup)).any id = true ↔ ∃ i, i < m ∧ ¬ (kn (K35.row t m i)).Nodup := by
      rw [List.any_map, List.any_eq_true]
      constructor
      · rintro ⟨r, hr, e⟩
        obtain ⟨i, hi, e2⟩ := List.mem_iff_getElem.mp hr
        refine ⟨i, by omega, ?_⟩
        rw [hs.rowE (by omega), List.getD_eq_getElem?_getD, List.getElem?_eq_getElem hi]
        show ¬ (kn t[i]).Nodup
        rw [e2]
        exact dB_iff.mp e
      · rintro ⟨i, hi, e⟩
        rw [hs.rowE hi] at e
        exact ⟨_, getD_mem (by omega), dB_iff.mpr e⟩
    cases c1 : (t.map fun r => dB (¬ (kn r).Nodup)).any id with
    | true =>
      refine ifT rfl ⟨S, sub, ?_⟩
      rw [← dB_of (b := true) (p := BLat t m) ⟨fun _ => .inl (k1.mp c1), fun _ => rfl⟩] at q
      exact q
    | false =>
      refine ifF rfl ?_
      refine lc_boolsT (.vals (rangeD 0 (t.length : Int).toNat)) (List.range m) (fun (i : Nat) => D.int i) (fun j => dB (¬ (kn (K35.col t m j)).Nodup)) (fun Q q => by simp only [sSeq, sNext, sBreak, sCont, sDrop, sRet, sRetN, sIf, sSet, sPar, sAsg, sRaise, gN, gE, gC, gU, gS, qVar, qC, qBin, qTB, qChain, qNot, qAnd, qOr, bd_bl, qNotT, qAndT, qOrT, qTru, tru_non, tru_bl, tru_int, tru_str, tru_tup, tru_rol, tru_ref, qIf, qNil, qCons, qTup, qLst, qCB, cInt_i, cInt2_ii, cToInt_i, cToInt_b, cLen_s, cLen_t, cLen_r, cLen_l, cTuple_t, cTuple_r, cTuple_l, cList_t, cList_r, cList_l, qNeg, oI_ii, oAdd_ii, oSub, oMul, oDiv, oMod, oPow, oEq, oNe, oEqW_ii, oEqW_ss, oEqW_bb, oLt, oLe, oGt, oGe, oOrd_ii, oOrd_ss, oIx_t, oIx_r, oIx_l, oIx_s, qNo, qPart, qSl, oSl_t, oSl_r, oSl_l, oSl_s, qMeth, mAppend_1, iSeq, iRange1, iRange2, qCall, endsF, startD, List.map_cons, List.map_nil, List.length_cons, List.length_nil, List.length_map, List.cons_append, List.nil_append, List.replicate, List.getElem?_cons_zero, List.getElem?_cons_succ, List.set_cons_zero, List.set_cons_succ, Nat.reduceAdd, Nat.reduceSub, if_true, if_false, id, ups_same, ex_lst, ex_lst2, ex_some, atI_0, atI_1, atI_2, atI_3, ixN_0, ixN_1, ixN_21, oIx_p]; exact ⟨by omega, by omega, q⟩) ok_vals (by rw [hlen]; exact rangeD_0) (by simp; omega) ?_ ?_
      · intro j S2 C hj sub2 hC
        have hj := List.mem_range.mp hj
        simp only [wipeD, sSeq, sNext, sBreak, sCont, sDrop, sRet, sRetN, sIf, sSet, sPar, sAsg, sRaise, gN, gE, gC, gU, gS, qVar, qC, qBin, qTB, qChain, qNot, qAnd, qOr, bd_bl, qNotT, qAndT, qOrT, qTru, tru_non, tru_bl, tru_int, tru_str, tru_tup, tru_rol, tru_ref, qIf, qNil, qCons, qTup, qLst, qCB, cInt_i, cInt2_ii, cToInt_i, cToInt_b, cLen_s, cLen_t, cLen_r, cLen_l, cTuple_t, cTuple_r, cTuple_l, cList_t, cList_r, cList_l, qNeg, oI_ii, oAdd_ii, oSub, oMul, oDiv, oMod, oPow, oEq, oNe, oEqW_ii, oEqW_ss, oEqW_bb, oLt, oLe, oGt, oGe, oOrd_ii, oOrd_ss, oIx_t, oIx_r, oIx_l, oIx_s, qNo, qPart, qSl, oSl_t, oSl_r, oSl_l, oSl_s, qMeth, mAppend_1, iSeq, iRange1, iRange2, qCall, endsF, startD, List.map_cons, List.map_nil, List.length_cons, List.length_nil, List.length_map, List.cons_append, List.nil_append, List.replicate, List.getElem?_cons_zero, List.getElem?_cons_succ, List.set_cons_zero, List.set_cons_succ, Nat.reduceAdd, Nat.reduceSub, if_true, if_false, id, ups_same, ex_lst, ex_lst2, ex_some, atI_0, atI_1, atI_2, atI_3, ixN_0, ixN_1, ixN_21, oIx_p]
        refine lc_mapT (.vals (rangeD 0 (t.length : Int).toNat)) (List.range m) (fun (i : Nat) => D.int i) (fun i => .int (c t i j)) (fun Q q => by simp only [sSeq, sNext, sBreak, sCont, sDrop, sRet, sRetN, sIf, sSet, sPar, sAsg, sRaise, gN, gE, gC, gU, gS, qVar, qC, qBin, qTB, qChain, qNot, qAnd, qOr, bd_bl, qNotT, qAndT, qOrT, qTru, tru_non, tru_bl, tru_int, tru_str, tru_tup, tru_rol, tru_ref, qIf, qNil, qCons, qTup, qLst, qCB, cInt_i, cInt2_ii, cToInt_i, cToInt_b, cLen_s, cLen_t, cLen_r, cLen_l, cTuple_t, cTuple_r, cTuple_l, cList_t, cList_r, cList_l, qNeg, oI_ii, oAdd_ii, oSub, oMul, oDiv, oMod, oPow, oEq, oNe, oEqW_ii, oEqW_ss, oEqW_bb, oLt, oLe, oGt, oGe, oOrd_ii, oOrd_ss, oIx_t, oIx_r, oIx_l, oIx_s, qNo, qPart, qSl, oSl_t, oSl_r, oSl_l, oSl_s, qMeth, mAppend_1, iSeq, iRange1, iRange2, qCall, endsF, startD, List.map_cons, List.map_nil, List.length_cons, List.length_nil, List.length_map, List.cons_append, List.nil_append, List.replicate, List.getElem?_cons_zero, List.getElem?_cons_succ, List.set_cons_zero, List.set_cons_succ, Nat.reduceAdd, Nat.reduceSub, if_true, if_false, id, ups_same, ex_lst, ex_lst2, ex_some, atI_0, atI_1, atI_2, atI_3, ixN_0, ixN_1, ixN_21, oIx_p]; exact ⟨by omega, by omega, q⟩) ok_vals (by rw [hlen]; exact rangeD_0) (by simp; omega) ?_ ?_
        · intro i S3 C3 hi sub3 hC3
          have hi := List.mem_range.mp hi
          simp only [wipeD, sSeq, sNext, sBreak, sCont, sDrop, sRet, sRetN, sIf, sSet, sPar, sAsg, sRaise, gN, gE, gC, gU, gS, qVar, qC, qBin, qTB, qChain, qNot, qAnd, qOr, bd_bl, qNotT, qAndT, qOrT, qTru, tru_non, tru_bl, tru_int, tru_str, tru_tup, tru_rol, tru_ref, qIf, qNil, qCons, qTup, qLst, qCB, cInt_i, cInt2_ii, cToInt_i, cToInt_b, cLen_s, cLen_t, cLen_r, cLen_l, cTuple_t, cTuple_r, cTuple_l, cList_t, cList_r, cList_l, qNeg, oI_ii, oAdd_ii, oSub, oMul, oDiv, oMod, oPow, oEq, oNe, oEqW_ii, oEqW_ss, oEqW_bb, oLt, oLe, oGt, oGe, oOrd_ii, oOrd_ss, oIx_t, oIx_r, oIx_l, oIx_s, qNo, qPart, qSl, oSl_t, oSl_r, oSl_l, oSl_s, qMeth, mAppend_1, iSeq, iRange1, iRange2, qCall, endsF, startD, List.map_cons, List.map_nil, List.length_cons, List.length_nil, List.length_map, List.cons_append, List.nil_append, List.replicate, List.getElem?_cons_zero, List.getElem?_cons_succ, List.set_cons_zero, List.set_cons_succ, Nat.reduceAdd, Nat.reduceSub, if_true, if_false, id, ups_same, ex_lst, ex_lst2, ex_some, atI_0, atI_1, atI_2, atI_3, ixN_0, ixN_1, ixN_21, oIx_p, hs.atr hi, rD, hs.atc hi hj]
          exact hC3 S3 (Sub.refl _)
        · intro p2 S3 hp2 sub3 e3
          refine ⟨_, K35.col t m j, rfl, .inl ⟨p2, rfl, ?_⟩, by simp [K35.col]; omega, hC S3 sub3⟩
          rw [e3]
          unfold K35.col
          rw [List.map_map]
          rfl
      · intro p2 S2 hp2 sub2 hL2
        refine ⟨_, _, rfl, hL2, S, sub.trans sub2, ?_⟩
        rw [← dB_of (b := ((List.range m).map fun j => dB (¬ (kn (K35.col t m j)).Nodup)).any id) (p := BLat t m) ?_] at q
        · exact q
        · rw [List.any_map, List.any_eq_true]
          constructor
          · rintro ⟨j, hj, e⟩
            exact .inr ⟨j, List.mem_range.mp hj, dB_iff.mp e⟩
          · rintro (h | ⟨j, hj, e⟩)
            · rw [k1.mpr h] at c1
              cases c1
            · exact ⟨j, List.mem_range.mpr hj, dB_iff.mpr e⟩
theorem p_breaks_zero : ∀ ds S Q E, sp_breaks_zero ad ds S Q E → r_breaks_zero ad (endsF Q E) (startD N_breaks_zero ds) S := by
  rintro ds S Q E ⟨t, m, rfl, hs, q⟩
  have hle := hs.le
  have hlen := hs.len
  simp only [r_breaks_zero, tD, sSeq, sNext, sBreak, sCont, sDrop, sRet, sRetN, sIf, sSet, sPar, sAsg, sRaise, gN, gE, gC, gU, gS, qVar, qC, qBin, qTB, qChain, qNot, qAnd, qOr, bd_bl, qNotT, qAndT, qOrT, qTru, tru_non, tru_bl, tru_int, tru_str, tru_tup, tru_rol, tru_ref, qIf, qNil, qCons, qTup, qLst, qCB, cInt_i, cInt2_ii, cToInt_i, cToInt_b, cLen_s, cLen_t, cLen_r, cLen_l, cTuple_t, cTuple_r, cTuple_l, cList_t, cList_r, cList_l, qNeg, oI_ii, oAdd_ii, oSub, oMul, oDiv, oMod, oPow, oEq, oNe, oEqW_ii, oEqW_ss, oEqW_bb, oLt, oLe, oGt, oGe, oOrd_ii, oOrd_ss, oIx_t, oIx_r, oIx_l, oIx_s, qNo, qPart, qSl, oSl_t, oSl_r, oSl_l, oSl_s, qMeth, mAppend_1, iSeq, iRange1, iRange2, qCall, endsF, startD, List.map_cons, List.map_nil, List.length_cons, List.length_nil, List.length_map, List.cons_append, List.nil_append, List.replicate, List.getElem?_cons_zero, List.getElem?_cons_succ, List.set_cons_zero, List.set_cons_succ, Nat.reduceAdd, Nat.reduceSub, if_true, if_false, id, ups_same, ex_lst, ex_lst2, ex_some, atI_0, atI_1, atI_2, atI_3, ixN_0, ixN_1, ixN_21, oIx_p]
  refine lc_boolsT (.vals (rangeD 0 (t.length : Int).toNat)) (List.range m) (fun (i : Nat) => D.int i) (fun k => decide (0 < c t k k)) (fun Q q => by simp only [sSeq, sNext, sBreak, sCont, sDrop, sRet, sRetN, sIf, sSet, sPar, sAsg, sRaise, gN, gE, gC, gU, gS, qVar, qC, qBin, qTB, qChain, qNot, qAnd, qOr, bd_bl, qNotT, qAndT, qOrT, qTru, tru_non, tru_bl, tru_int, tru_str, tru_tup, tru_rol, tru_ref, qIf, qNil, qCons, qTup, qLst, qCB, cInt_i, cInt2_ii, cToInt_i, cToInt_b, cLen_s, cLen_t, cLen_r, cLen_l, cTuple_t, cTuple_r, cTuple_l, cList_t, cList_r, cList_l, qNeg, oI_ii, oAdd_ii, oSub, oMul, oDiv, oMod, oPow, oEq, oNe, oEqW_ii, oEqW_ss, oEqW_bb, oLt, oLe, oGt, oGe, oOrd_ii, oOrd_ss, oIx_t, oIx_r, oIx_l, oIx_s, qNo, qPart, qSl, oSl_t, oSl_r, oSl_l, oSl_s, qMeth, mAppend_1, iSeq, iRange1, iRange2, qCall, endsF, startD, List.map_cons, List.map_nil, List.length_cons, List.length_nil, List.length_map, List.cons_append, List.nil_append, List.replicate, List.getElem?_cons_zero, List.getElem?_cons_succ, List.set_cons_zero, List.set_cons_succ, Nat.reduceAdd, Nat.reduceSub, if_true, if_false, id, ups_same, ex_lst, ex_lst2, ex_some, atI_0, atI_1, atI_2, atI_3, ixN_0, ixN_1, ixN_21, oIx_p]; exact ⟨by omega, by omega, q⟩) ok_vals (by rw [hlen]; exact rangeD_0) (by simp; omega) ?_ ?_
  · intro i S3 C3 hi sub3 hC3
    have hi := List.mem_range.mp hi
    have hr := hs.crng hi hi
    simp only [wipeD, sSeq, sNext, sBreak, sCont, sDrop, sRet, sRetN, sIf, sSet, sPar, sAsg, sRaise, gN, gE, gC, gU, gS, qVar, qC, qBin, qTB, qChain, qNot, qAnd, qOr, bd_bl, qNotT, qAndT, qOrT, qTru, tru_non, tru_bl, tru_int, tru_str, tru_tup, tru_rol, tru_ref, qIf, qNil, qCons, qTup, qLst, qCB, cInt_i, cInt2_ii, cToInt_i, cToInt_b, cLen_s, cLen_t, cLen_r, cLen_l, cTuple_t, cTuple_r, cTuple_l, cList_t, cList_r, cList_l, qNeg, oI_ii, oAdd_ii, oSub, oMul, oDiv, oMod, oPow, oEq, oNe, oEqW_ii, oEqW_ss, oEqW_bb, oLt, oLe, oGt, oGe, oOrd_ii, oOrd_ss, oIx_t, oIx_r, oIx_l, oIx_s, qNo, qPart, qSl, oSl_t, oSl_r, oSl_l, oSl_s, qMeth, mAppend_1, iSeq, iRange1, iRange2, qCall, endsF, startD, List.map_cons, List.map_nil, List.length_cons, List.length_nil, List.length_map, List.cons_append, List.nil_append, List.replicate, List.getElem?_cons_zero, List.getElem?_cons_succ, List.set_cons_zero, List.set_cons_succ, Nat.reduceAdd, Nat.reduceSub, if_true, if_false, id, ups_same, ex_lst, ex_lst2, ex_some, atI_0, atI_1, atI_2, atI_3, ixN_0, ixN_1, ixN_21, oIx_p, hs.atr hi, rD, hs.atc hi hi, oInX, oInF]
    refine ⟨sz2, .inl (.inr ⟨_, .inl rfl, rfl, rfl, ?_⟩)⟩
    have e : (!List.any [D.int (-1), D.int 0] fun y => eqF y (D.int (c t i i))) = decide (0 < c t i i) := by
      have e1 : ∀ x y : Int, eqF (.int x) (.int y) = decide (x = y) := fun x y => by
        unfold eqF vD L2.eqV
        by_cases h : x = y <;> simp [h]
      simp only [List.any_cons, List.any_nil, e1, Bool.or_false]
      by_cases h1 : -1 = c t i i
      · have e2 : decide (0 < c t i i) = false := decide_eq_false (by omega)
        rw [e2, decide_eq_true h1]
        rfl
      · by_cases h2 : 0 = c t i i
        · have e2 : decide (0 < c t i i) = false := decide_eq_false (by omega)
          rw [e2, decide_eq_true h2]
          simp
        · have e2 : decide (0 < c t i i) = true := decide_eq_true (by omega)
          rw [e2, decide_eq_false h1, decide_eq_false h2]
          rfl
    rw [e]
    exact hC3 S3 (Sub.refl _)
  · intro p2 S2 hp2 sub2 hL2
    refine ⟨_, _, rfl, hL2, S, sub2, ?_⟩
    rw [← dB_of (b := ((List.range m).map fun k => decide (0 < c t k k)).any id) (p := BZero t m) ?_] at q
    · exact q
    · rw [List.any_map, List.any_eq_true]
      exact ⟨fun ⟨k, hk, e⟩ => ⟨k, List.mem_range.mp hk, of_decide_eq_true e⟩, fun ⟨k, hk, e⟩ => ⟨k, List.mem_range.mpr hk, decide_eq_true e⟩⟩
theorem p_behind : ∀ ds S Q E, sp_behind ad ds S Q E → r_behind ad (endsF Q E) (startD N_behind ds) S := by
  rintro ds S Q E ⟨t, m, s, a, b, rfl, hs, hs1, ha, hb, q⟩
  simp only [r_behind, tD, sSeq, sNext, sBreak, sCont, sDrop, sRet, sRetN, sIf, sSet, sPar, sAsg, sRaise, gN, gE, gC, gU, gS, qVar, qC, qBin, qTB, qChain, qNot, qAnd, qOr, bd_bl, qNotT, qAndT, qOrT, qTru, tru_non, tru_bl, tru_int, tru_str, tru_tup, tru_rol, tru_ref, qIf, qNil, qCons, qTup, qLst, qCB, cInt_i, cInt2_ii, cToInt_i, cToInt_b, cLen_s, cLen_t, cLen_r, cLen_l, cTuple_t, cTuple_r, cTuple_l, cList_t, cList_r, cList_l, qNeg, oI_ii, oAdd_ii, oSub, oMul, oDiv, oMod, oPow, oEq, oNe, oEqW_ii, oEqW_ss, oEqW_bb, oLt, oLe, oGt, oGe, oOrd_ii, oOrd_ss, oIx_t, oIx_r, oIx_l, oIx_s, qNo, qPart, qSl, oSl_t, oSl_r, oSl_l, oSl_s, qMeth, mAppend_1, iSeq, iRange1, iRange2, qCall, endsF, startD, List.map_cons, List.map_nil, List.length_cons, List.length_nil, List.length_map, List.cons_append, List.nil_append, List.replicate, List.getElem?_cons_zero, List.getElem?_cons_succ, List.set_cons_zero, List.set_cons_succ, Nat.reduceAdd, Nat.reduceSub, if_true, if_false, id, ups_same, ex_lst, ex_lst2, ex_some, atI_0, atI_1, atI_2, atI_3, ixN_0, ixN_1, ixN_21, oIx_p, hs.atr hs1, rD, hs.atc hs1 ha]
  unfold bh at q
  by_cases h : c t s a = -1
  · rw [if_pos h] at q
    exact ifT (decide_eq_true h) ⟨S, Sub.refl S, q⟩
  · rw [if_neg h] at q
    refine ifF (decide_eq_false h) ?_
    obtain ⟨n, e, hn⟩ := hs.c0 hs1 ha h
    rw [e] at q ⊢
    simp only [sSeq, sNext, sBreak, sCont, sDrop, sRet, sRetN, sIf, sSet, sPar, sAsg, sRaise, gN, gE, gC, gU, gS, qVar, qC, qBin, qTB, qChain, qNot, qAnd, qOr, bd_bl, qNotT, qAndT, qOrT, qTru, tru_non, tru_bl, tru_int, tru_str, tru_tup, tru_rol, tru_ref, qIf, qNil, qCons, qTup, qLst, qCB, cInt_i, cInt2_ii, cToInt_i, cToInt_b, cLen_s, cLen_t, cLen_r, cLen_l, cTuple_t, cTuple_r, cTuple_l, cList_t, cList_r, cList_l, qNeg, oI_ii, oAdd_ii, oSub, oMul, oDiv, oMod, oPow, oEq, oNe, oEqW_ii, oEqW_ss, oEqW_bb, oLt, oLe, oGt, oGe, oOrd_ii, oOrd_ss, oIx_t, oIx_r, oIx_l, oIx_s, qNo, qPart, qSl, oSl_t, oSl_r, oSl_l, oSl_s, qMeth, mAppend_1, iSeq, iRange1, iRange2, qCall, endsF, startD, List.map_cons, List.map_nil, List.length_cons, List.length_nil, List.length_map, List.cons_append, List.nil_append, List.replicate, List.getElem?_cons_zero, List.getElem?_cons_succ, List.set_cons_zero, List.set_cons_succ, Nat.reduceAdd, Nat.reduceSub, if_true, if_false, id, ups_same, ex_lst, ex_lst2, ex_some, atI_0, atI_1, atI_2, atI_3, ixN_0, ixN_1, ixN_21, oIx_p, hs.atr hn, rD, hs.atc hn hb]
    rw [Int.toNat_natCast] at q
    exact ⟨S, Sub.refl S, q⟩
end K35

namespace K35
open PySem PySem.Spec PyProof.Rows L2 PL
variable {ad : Ad} {t : Tb} {m : Nat}
/-- a walk over numbers that looks for one with X, writes nothing -/
theorem search {P : QN} {S : Sto} {it : QI} {g : QG} {tb : QS} {loc : PL.Loc} (lo n : Nat) (hit : ∀ Q : Src → Sto → Prop, Q (.vals (rangeD (lo : Int) n)) S → it loc S Q fun x S1 => P.ex x loc S1) (L : PL.Loc → Prop) (hL : L loc) (X : Nat → Prop)
    (hb : ∀ (i : Nat) (loc' : PL.Loc) (S' : Sto) (P' : QN), i < n → L loc' → Sub S S' → (∀ j, j < i → ¬ X (lo + j)) → P'.rt = P.rt → (∀ loc2 S2, L loc2 → Sub S S2 → ¬ X (lo + i) → P'.nx loc2 S2) → g (.int ((lo + i : Nat) : Int)) loc' S' (fun l2 S2 => tb P' l2 S2) fun x S' => P.ex x loc' S')
    (hn : ∀ loc' S', L loc' → Sub S S' → (∀ j, j < n → ¬ X (lo + j)) → P.nx loc' S') : sFor it g tb P loc S := by
  unfold sFor
  refine hit _ ⟨fun i loc' S' => L loc' ∧ Sub S S' ∧ ∀ j, j < i → ¬ X (lo + j), ⟨hL, Sub.refl S, fun j h => absurd h (by omega)⟩, ?_, ?_⟩
  · rintro i d loc' S' hi ⟨h1, h2, h3⟩
    obtain ⟨hi1, rfl⟩ := rangeD_get (show (rangeD (lo : Int) n)[i]? = some d from hi)
    refine ⟨trivial, ?_⟩
    rw [show (lo : Int) + (i : Int) = ((lo + i : Nat) : Int) by omega]
    refine hb i loc' S' _ hi1 h1 h2 h3 rfl fun loc2 S2 a b e => ⟨a, b, fun j hj => ?_⟩
    by_cases hji : j = i
    · rw [hji]
      exact e
    · exact h3 j (by omega)
  · rintro loc' S' ⟨h1, h2, h3⟩
    have e : (Src.vals (rangeD (lo : Int) n)).items.length = n := rangeD_len
    rw [e] at h3
    exact ⟨trivial, hn loc' S' h1 h2 h3⟩
def XC (t : Tb) (a b : Nat) : Prop := c t a b ≠ -1 ∧ c t a b = c t b a
theorem p_breaks_commuting : ∀ ds S Q E, sp_breaks_commuting ad ds S Q E → r_breaks_commuting ad (endsF Q E) (startD N_breaks_commuting ds) S := by
  rintro ds S Q E ⟨t, m, rfl, hs, q⟩
  have hle := hs.le
  have hlen := hs.len
  simp only [r_breaks_commuting, tD, sSeq, sNext, sBreak, sCont, sDrop, sRet, sRetN, sIf, sSet, sPar, sAsg, sRaise, gN, gE, gC, gU, gS, qVar, qC, qBin, qTB, qChain, qNot, qAnd, qOr, bd_bl, qNotT, qAndT, qOrT, qTru, tru_non, tru_bl, tru_int, tru_str, tru_tup, tru_rol, tru_ref, qIf, qNil, qCons, qTup, qLst, qCB, cInt_i, cInt2_ii, cToInt_i, cToInt_b, cLen_s, cLen_t, cLen_r, cLen_l, cTuple_t, cTuple_r, cTuple_l, cList_t, cList_r, cList_l, qNeg, oI_ii, oAdd_ii, oSub, oMul, oDiv, oMod, oPow, oEq, oNe, oEqW_ii, oEqW_ss, oEqW_bb, oLt, oLe, oGt, oGe, oOrd_ii, oOrd_ss, oIx_t, oIx_r, oIx_l, oIx_s, qNo, qPart, qSl, oSl_t, oSl_r, oSl_l, oSl_s, qMeth, mAppend_1, iSeq, iRange1, iRange2, qCall, endsF, startD, List.map_cons, List.map_nil, List.length_cons, List.length_nil, List.length_map, List.cons_append, List.nil_append, List.replicate, List.getElem?_cons_zero, List.getElem?_cons_succ, List.set_cons_zero, List.set_cons_succ, Nat.reduceAdd, Nat.reduceSub, if_true, if_false, id, ups_same, ex_lst, ex_lst2, ex_some, atI_0, atI_1, atI_2, atI_3, ixN_0, ixN_1, ixN_21, oIx_p]
  rw [hlen]
  refine search 0 m (fun Q q => by simp only [sSeq, sNext, sBreak, sCont, sDrop, sRet, sRetN, sIf, sSet, sPar, sAsg, sRaise, gN, gE, gC, gU, gS, qVar, qC, qBin, qTB, qChain, qNot, qAnd, qOr, bd_bl, qNotT, qAndT, qOrT, qTru, tru_non, tru_bl, tru_int, tru_str, tru_tup, tru_rol, tru_ref, qIf, qNil, qCons, qTup, qLst, qCB, cInt_i, cInt2_ii, cToInt_i, cToInt_b, cLen_s, cLen_t, cLen_r, cLen_l, cTuple_t, cTuple_r, cTuple_l, cList_t, cList_r, cList_l, qNeg, oI_ii, oAdd_ii, oSub, oMul, oDiv, oMod, oPow, oEq, oNe, oEqW_ii, oEqW_ss, oEqW_bb, oLt, oLe, oGt, oGe, oOrd_ii, oOrd_ss, oIx_t, oIx_r, oIx_l, oIx_s, qNo, qPart, qSl, oSl_t, oSl_r, oSl_l, oSl_s, qMeth, mAppend_1, iSeq, iRange1, iRange2, qCall, endsF, startD, List.map_cons, List.map_nil, List.length_cons, List.length_nil, List.length_map, List.cons_append, List.nil_append, List.replicate, List.getElem?_cons_zero, List.getElem?_cons_succ, List.set_cons_zero, List.set_cons_succ, Nat.reduceAdd, Nat.reduceSub, if_true, if_false, id, ups_same, ex_lst, ex_lst2, ex_some, atI_0, atI_1, atI_2, atI_3, ixN_0, ixN_1, ixN_21, oIx_p]; exact ⟨by omega, by omega, q⟩) (fun loc => ∃ z2 z3, loc = [some (.tup (t.map rD)), some (.int m), z2, z3]) ⟨_, _, rfl⟩ (fun a => ∃ b, b < a ∧ XC t a b) ?_ ?_
  · rintro a _ S1 P1 ha ⟨z2, z3, rfl⟩ sub1 no1 rt1 nx1
    rw [Nat.zero_add] at nx1 ⊢
    simp only [r_breaks_commuting_b2, sSeq, sNext, sBreak, sCont, sDrop, sRet, sRetN, sIf, sSet, sPar, sAsg, sRaise, gN, gE, gC, gU, gS, qVar, qC, qBin, qTB, qChain, qNot, qAnd, qOr, bd_bl, qNotT, qAndT, qOrT, qTru, tru_non, tru_bl, tru_int, tru_str, tru_tup, tru_rol, tru_ref, qIf, qNil, qCons, qTup, qLst, qCB, cInt_i, cInt2_ii, cToInt_i, cToInt_b, cLen_s, cLen_t, cLen_r, cLen_l, cTuple_t, cTuple_r, cTuple_l, cList_t, cList_r, cList_l, qNeg, oI_ii, oAdd_ii, oSub, oMul, oDiv, oMod, oPow, oEq, oNe, oEqW_ii, oEqW_ss, oEqW_bb, oLt, oLe, oGt, oGe, oOrd_ii, oOrd_ss, oIx_t, oIx_r, oIx_l, oIx_s, qNo, qPart, qSl, oSl_t, oSl_r, oSl_l, oSl_s, qMeth, mAppend_1, iSeq, iRange1, iRange2, qCall, endsF, startD, List.map_cons, List.map_nil, List.length_cons, List.length_nil, List.length_map, List.cons_append, List.nil_append, List.replicate, List.getElem?_cons_zero, List.getElem?_cons_succ, List.set_cons_zero, List.set_cons_succ, Nat.reduceAdd, Nat.reduceSub, if_true, if_false, id, ups_same, ex_lst, ex_lst2, ex_some, atI_0, atI_1, atI_2, atI_3, ixN_0, ixN_1, ixN_21, oIx_p]
    refine search 0 a (fun Q q => by simp only [sSeq, sNext, sBreak, sCont, sDrop, sRet, sRetN, sIf, sSet, sPar, sAsg, sRaise, gN, gE, gC, gU, gS, qVar, qC, qBin, qTB, qChain, qNot, qAnd, qOr, bd_bl, qNotT, qAndT, qOrT, qTru, tru_non, tru_bl, tru_int, tru_str, tru_tup, tru_rol, tru_ref, qIf, qNil, qCons, qTup, qLst, qCB, cInt_i, cInt2_ii, cToInt_i, cToInt_b, cLen_s, cLen_t, cLen_r, cLen_l, cTuple_t, cTuple_r, cTuple_l, cList_t, cList_r, cList_l, qNeg, oI_ii, oAdd_ii, oSub, oMul, oDiv, oMod, oPow, oEq, oNe, oEqW_ii, oEqW_ss, oEqW_bb, oLt, oLe, oGt, oGe, oOrd_ii, oOrd_ss, oIx_t, oIx_r, oIx_l, oIx_s, qNo, qPart, qSl, oSl_t, oSl_r, oSl_l, oSl_s, qMeth, mAppend_1, iSeq, iRange1, iRange2, qCall, endsF, startD, List.map_cons, List.map_nil, List.length_cons, List.length_nil, List.length_map, List.cons_append, List.nil_append, List.replicate, List.getElem?_cons_zero, List.getElem?_cons_succ, List.set_cons_zero, List.set_cons_succ, Nat.reduceAdd, Nat.reduceSub, if_true, if_false, id, ups_same, ex_lst, ex_lst2, ex_some, atI_0, atI_1, atI_2, atI_3, ixN_0, ixN_1, ixN_21, oIx_p]; exact ⟨by omega, by omega, q⟩) (fun loc => ∃ z3, loc = [some (.tup (t.map rD)), some (.int m), some (.int a), z3]) ⟨_, rfl⟩ (fun b => XC t a b) ?_ ?_
    · rintro b _ S2 P2 hb ⟨z3, rfl⟩ sub2 no2 rt2 nx2
      have hbm : b < m := by omega
      rw [Nat.zero_add] at nx2 ⊢
      simp only [r_breaks_commuting_b1, sSeq, sNext, sBreak, sCont, sDrop, sRet, sRetN, sIf, sSet, sPar, sAsg, sRaise, gN, gE, gC, gU, gS, qVar, qC, qBin, qTB, qChain, qNot, qAnd, qOr, bd_bl, qNotT, qAndT, qOrT, qTru, tru_non, tru_bl, tru_int, tru_str, tru_tup, tru_rol, tru_ref, qIf, qNil, qCons, qTup, qLst, qCB, cInt_i, cInt2_ii, cToInt_i, cToInt_b, cLen_s, cLen_t, cLen_r, cLen_l, cTuple_t, cTuple_r, cTuple_l, cList_t, cList_r, cList_l, qNeg, oI_ii, oAdd_ii, oSub, oMul, oDiv, oMod, oPow, oEq, oNe, oEqW_ii, oEqW_ss, oEqW_bb, oLt, oLe, oGt, oGe, oOrd_ii, oOrd_ss, oIx_t, oIx_r, oIx_l, oIx_s, qNo, qPart, qSl, oSl_t, oSl_r, oSl_l, oSl_s, qMeth, mAppend_1, iSeq, iRange1, iRange2, qCall, endsF, startD, List.map_cons, List.map_nil, List.length_cons, List.length_nil, List.length_map, List.cons_append, List.nil_append, List.replicate, List.getElem?_cons_zero, List.getElem?_cons_succ, List.set_cons_zero, List.set_cons_succ, Nat.reduceAdd, Nat.reduceSub, if_true, if_false, id, ups_same, ex_lst, ex_lst2, ex_some, atI_0, atI_1, atI_2, atI_3, ixN_0, ixN_1, ixN_21, oIx_p, hs.atr ha, rD, hs.atc ha hbm]
      by_cases h1 : c t a b = -1
      · exact ifF (by rw [decide_eq_true h1]; rfl) (nx2 _ _ ⟨_, rfl⟩ sub2 fun z => z.1 h1)
      · refine ifT (by rw [decide_eq_false h1]; rfl) ?_
        simp only [hs.atr hbm, rD, sSeq, sNext, sBreak, sCont, sDrop, sRet, sRetN, sIf, sSet, sPar, sAsg, sRaise, gN, gE, gC, gU, gS, qVar, qC, qBin, qTB, qChain, qNot, qAnd, qOr, bd_bl, qNotT, qAndT, qOrT, qTru, tru_non, tru_bl, tru_int, tru_str, tru_tup, tru_rol, tru_ref, qIf, qNil, qCons, qTup, qLst, qCB, cInt_i, cInt2_ii, cToInt_i, cToInt_b, cLen_s, cLen_t, cLen_r, cLen_l, cTuple_t, cTuple_r, cTuple_l, cList_t, cList_r, cList_l, qNeg, oI_ii, oAdd_ii, oSub, oMul, oDiv, oMod, oPow, oEq, oNe, oEqW_ii, oEqW_ss, oEqW_bb, oLt, oLe, oGt, oGe, oOrd_ii, oOrd_ss, oIx_t, oIx_r, oIx_l, oIx_s, qNo, qPart, qSl, oSl_t, oSl_r, oSl_l, oSl_s, qMeth, mAppend_1, iSeq, iRange1, iRange2, qCall, endsF, startD, List.map_cons, List.map_nil, List.length_cons, List.length_nil, List.length_map, List.cons_append, List.nil_append, List.replicate, List.getElem?_cons_zero, List.getElem?_cons_succ, List.set_cons_zero, List.set_cons_succ, Nat.reduceAdd, Nat.reduceSub, if_true, if_false, id, ups_same, ex_lst, ex_lst2, ex_some, atI_0, atI_1, atI_2, atI_3, ixN_0, ixN_1, ixN_21, oIx_p, hs.atc hbm ha]
        by_cases h2 : c t a b = c t b a
        · refine ifT (decide_eq_true h2) ?_
          rw [rt2, rt1]
          refine ⟨S, sub1.trans sub2, ?_⟩
          rw [← dB_of (b := true) (p := BCom t m) ⟨fun _ => ⟨a, b, hb, ha, h1, h2⟩, fun _ => rfl⟩] at q
          exact q
        · exact ifF (decide_eq_false h2) (nx2 _ _ ⟨_, rfl⟩ sub2 fun z => h2 z.2)
    · rintro _ S2 ⟨z3, rfl⟩ sub2 no
      exact nx1 _ _ ⟨_, _, rfl⟩ (sub1.trans sub2) fun ⟨b, hb, x⟩ => no b hb (by rw [Nat.zero_add]; exact x)
  · rintro _ S1 ⟨z2, z3, rfl⟩ sub1 no
    refine ⟨S, sub1, ?_⟩
    rw [← dB_of (b := false) (p := BCom t m) ⟨fun z => (by cases z), fun ⟨a, b, h1, h2, h3, h4⟩ => absurd (show ∃ b', b' < a ∧ XC t a b' from ⟨b, h1, h3, h4⟩) (by have := no a h2; rw [Nat.zero_add] at this; exact this)⟩] at q
    exact q
theorem p_turned_pair : ∀ ds S Q E, sp_turned_pair ad ds S Q E → r_turned_pair ad (endsF Q E) (startD N_turned_pair ds) S := by
  rintro ds S Q E ⟨t, m, rfl, hs, q⟩
  have hle := hs.le
  have hlen := hs.len
  simp only [r_turned_pair, sSeq, sNext, sBreak, sCont, sDrop, sRet, sRetN, sIf, sSet, sPar, sAsg, sRaise, gN, gE, gC, gU, gS, qVar, qC, qBin, qTB, qChain, qNot, qAnd, qOr, bd_bl, qNotT, qAndT, qOrT, qTru, tru_non, tru_bl, tru_int, tru_str, tru_tup, tru_rol, tru_ref, qIf, qNil, qCons, qTup, qLst, qCB, cInt_i, cInt2_ii, cToInt_i, cToInt_b, cLen_s, cLen_t, cLen_r, cLen_l, cTuple_t, cTuple_r, cTuple_l, cList_t, cList_r, cList_l, qNeg, oI_ii, oAdd_ii, oSub, oMul, oDiv, oMod, oPow, oEq, oNe, oEqW_ii, oEqW_ss, oEqW_bb, oLt, oLe, oGt, oGe, oOrd_ii, oOrd_ss, oIx_t, oIx_r, oIx_l, oIx_s, qNo, qPart, qSl, oSl_t, oSl_r, oSl_l, oSl_s, qMeth, mAppend_1, iSeq, iRange1, iRange2, qCall, endsF, startD, List.map_cons, List.map_nil, List.length_cons, List.length_nil, List.length_map, List.cons_append, List.nil_append, List.replicate, List.getElem?_cons_zero, List.getElem?_cons_succ, List.set_cons_zero, List.set_cons_succ, Nat.reduceAdd, Nat.reduceSub, if_true, if_false, id, ups_same, ex_lst, ex_lst2, ex_some, atI_0, atI_1, atI_2, atI_3, ixN_0, ixN_1, ixN_21, oIx_p]
  unfold tD
  simp only [sSeq, sNext, sBreak, sCont, sDrop, sRet, sRetN, sIf, sSet, sPar, sAsg, sRaise, gN, gE, gC, gU, gS, qVar, qC, qBin, qTB, qChain, qNot, qAnd, qOr, bd_bl, qNotT, qAndT, qOrT, qTru, tru_non, tru_bl, tru_int, tru_str, tru_tup, tru_rol, tru_ref, qIf, qNil, qCons, qTup, qLst, qCB, cInt_i, cInt2_ii, cToInt_i, cToInt_b, cLen_s, cLen_t, cLen_r, cLen_l, cTuple_t, cTuple_r, cTuple_l, cList_t, cList_r, cList_l, qNeg, oI_ii, oAdd_ii, oSub, oMul, oDiv, oMod, oPow, oEq, oNe, oEqW_ii, oEqW_ss, oEqW_bb, oLt, oLe, oGt, oGe, oOrd_ii, oOrd_ss, oIx_t, oIx_r, oIx_l, oIx_s, qNo, qPart, qSl, oSl_t, oSl_r, oSl_l, oSl_s, qMeth, mAppend_1, iSeq, iRange1, iRange2, qCall, endsF, startD, List.map_cons, List.map_nil, List.length_cons, List.length_nil, List.length_map, List.cons_append, List.nil_append, List.replicate, List.getElem?_cons_zero, List.getElem?_cons_succ, List.set_cons_zero, List.set_cons_succ, Nat.reduceAdd, Nat.reduceSub, if_true, if_false, id, ups_same, ex_lst, ex_lst2, ex_some, atI_0, atI_1, atI_2, atI_3, ixN_0, ixN_1, ixN_21, oIx_p]
  rw [hlen]
  refine search 0 m (fun Q q => by simp only [sSeq, sNext, sBreak, sCont, sDrop, sRet, sRetN, sIf, sSet, sPar, sAsg, sRaise, gN, gE, gC, gU, gS, qVar, qC, qBin, qTB, qChain, qNot, qAnd, qOr, bd_bl, qNotT, qAndT, qOrT, qTru, tru_non, tru_bl, tru_int, tru_str, tru_tup, tru_rol, tru_ref, qIf, qNil, qCons, qTup, qLst, qCB, cInt_i, cInt2_ii, cToInt_i, cToInt_b, cLen_s, cLen_t, cLen_r, cLen_l, cTuple_t, cTuple_r, cTuple_l, cList_t, cList_r, cList_l, qNeg, oI_ii, oAdd_ii, oSub, oMul, oDiv, oMod, oPow, oEq, oNe, oEqW_ii, oEqW_ss, oEqW_bb, oLt, oLe, oGt, oGe, oOrd_ii, oOrd_ss, oIx_t, oIx_r, oIx_l, oIx_s, qNo, qPart, qSl, oSl_t, oSl_r, oSl_l, oSl_s, qMeth, mAppend_1, iSeq, iRange1, iRange2, qCall, endsF, startD, List.map_cons, List.map_nil, List.length_cons, List.length_nil, List.length_map, List.cons_append, List.nil_append, List.replicate, List.getElem?_cons_zero, List.getElem?_cons_succ, List.set_cons_zero, List.set_cons_succ, Nat.reduceAdd, Nat.reduceSub, if_true, if_false, id, ups_same, ex_lst, ex_lst2, ex_some, atI_0, atI_1, atI_2, atI_3, ixN_0, ixN_1, ixN_21, oIx_p]; exact ⟨by omega, by omega, q⟩) (fun loc => ∃ z2 z3 z4 z5, loc = [some (.tup (t.map rD)), some (.int m), z2, z3, z4, z5]) ⟨_, _, _, _, rfl⟩ (fun s => ∃ a b, a < b ∧ b < m ∧ Tn t s a b) ?_ ?_
  · rintro s _ S1 P1 hs1 ⟨z2, z3, z4, z5, rfl⟩ sub1 no1 rt1 nx1
    rw [Nat.zero_add] at nx1 ⊢
    simp only [r_turned_pair_b3, sSeq, sNext, sBreak, sCont, sDrop, sRet, sRetN, sIf, sSet, sPar, sAsg, sRaise, gN, gE, gC, gU, gS, qVar, qC, qBin, qTB, qChain, qNot, qAnd, qOr, bd_bl, qNotT, qAndT, qOrT, qTru, tru_non, tru_bl, tru_int, tru_str, tru_tup, tru_rol, tru_ref, qIf, qNil, qCons, qTup, qLst, qCB, cInt_i, cInt2_ii, cToInt_i, cToInt_b, cLen_s, cLen_t, cLen_r, cLen_l, cTuple_t, cTuple_r, cTuple_l, cList_t, cList_r, cList_l, qNeg, oI_ii, oAdd_ii, oSub, oMul, oDiv, oMod, oPow, oEq, oNe, oEqW_ii, oEqW_ss, oEqW_bb, oLt, oLe, oGt, oGe, oOrd_ii, oOrd_ss, oIx_t, oIx_r, oIx_l, oIx_s, qNo, qPart, qSl, oSl_t, oSl_r, oSl_l, oSl_s, qMeth, mAppend_1, iSeq, iRange1, iRange2, qCall, endsF, startD, List.map_cons, List.map_nil, List.length_cons, List.length_nil, List.length_map, List.cons_append, List.nil_append, List.replicate, List.getElem?_cons_zero, List.getElem?_cons_succ, List.set_cons_zero, List.set_cons_succ, Nat.reduceAdd, Nat.reduceSub, if_true, if_false, id, ups_same, ex_lst, ex_lst2, ex_some, atI_0, atI_1, atI_2, atI_3, ixN_0, ixN_1, ixN_21, oIx_p]
    refine search 0 m (fun Q q => by simp only [sSeq, sNext, sBreak, sCont, sDrop, sRet, sRetN, sIf, sSet, sPar, sAsg, sRaise, gN, gE, gC, gU, gS, qVar, qC, qBin, qTB, qChain, qNot, qAnd, qOr, bd_bl, qNotT, qAndT, qOrT, qTru, tru_non, tru_bl, tru_int, tru_str, tru_tup, tru_rol, tru_ref, qIf, qNil, qCons, qTup, qLst, qCB, cInt_i, cInt2_ii, cToInt_i, cToInt_b, cLen_s, cLen_t, cLen_r, cLen_l, cTuple_t, cTuple_r, cTuple_l, cList_t, cList_r, cList_l, qNeg, oI_ii, oAdd_ii, oSub, oMul, oDiv, oMod, oPow, oEq, oNe, oEqW_ii, oEqW_ss, oEqW_bb, oLt, oLe, oGt, oGe, oOrd_ii, oOrd_ss, oIx_t, oIx_r, oIx_l, oIx_s, qNo, qPart, qSl, oSl_t, oSl_r, oSl_l, oSl_s, qMeth, mAppend_1, iSeq, iRange1, iRange2, qCall, endsF, startD, List.map_cons, List.map_nil, List.length_cons, List.length_nil, List.length_map, List.cons_append, List.nil_append, List.replicate, List.getElem?_cons_zero, List.getElem?_cons_succ, List.set_cons_zero, List.set_cons_succ, Nat.reduceAdd, Nat.reduceSub, if_true, if_false, id, ups_same, ex_lst, ex_lst2, ex_some, atI_0, atI_1, atI_2, atI_3, ixN_0, ixN_1, ixN_21, oIx_p]; exact ⟨by omega, by omega, q⟩) (fun loc => ∃ z3 z4 z5, loc = [some (.tup (t.map rD)), some (.int m), some (.int s), z3, z4, z5]) ⟨_, _, _, rfl⟩ (fun a => ∃ b, a < b ∧ b < m ∧ Tn t s a b) ?_ ?_
    · rintro a _ S2 P2 ha ⟨z3, z4, z5, rfl⟩ sub2 no2 rt2 nx2
      rw [Nat.zero_add] at nx2 ⊢
      simp only [r_turned_pair_b2, sSeq, sNext, sBreak, sCont, sDrop, sRet, sRetN, sIf, sSet, sPar, sAsg, sRaise, gN, gE, gC, gU, gS, qVar, qC, qBin, qTB, qChain, qNot, qAnd, qOr, bd_bl, qNotT, qAndT, qOrT, qTru, tru_non, tru_bl, tru_int, tru_str, tru_tup, tru_rol, tru_ref, qIf, qNil, qCons, qTup, qLst, qCB, cInt_i, cInt2_ii, cToInt_i, cToInt_b, cLen_s, cLen_t, cLen_r, cLen_l, cTuple_t, cTuple_r, cTuple_l, cList_t, cList_r, cList_l, qNeg, oI_ii, oAdd_ii, oSub, oMul, oDiv, oMod, oPow, oEq, oNe, oEqW_ii, oEqW_ss, oEqW_bb, oLt, oLe, oGt, oGe, oOrd_ii, oOrd_ss, oIx_t, oIx_r, oIx_l, oIx_s, qNo, qPart, qSl, oSl_t, oSl_r, oSl_l, oSl_s, qMeth, mAppend_1, iSeq, iRange1, iRange2, qCall, endsF, startD, List.map_cons, List.map_nil, List.length_cons, List.length_nil, List.length_map, List.cons_append, List.nil_append, List.replicate, List.getElem?_cons_zero, List.getElem?_cons_succ, List.set_cons_zero, List.set_cons_succ, Nat.reduceAdd, Nat.reduceSub, if_true, if_false, id, ups_same, ex_lst, ex_lst2, ex_some, atI_0, atI_1, atI_2, atI_3, ixN_0, ixN_1, ixN_21, oIx_p]
      refine search (a + 1) (m - (a + 1)) (fun Q q => by simp only [sSeq, sNext, sBreak, sCont, sDrop, sRet, sRetN, sIf, sSet, sPar, sAsg, sRaise, gN, gE, gC, gU, gS, qVar, qC, qBin, qTB, qChain, qNot, qAnd, qOr, bd_bl, qNotT, qAndT, qOrT, qTru, tru_non, tru_bl, tru_int, tru_str, tru_tup, tru_rol, tru_ref, qIf, qNil, qCons, qTup, qLst, qCB, cInt_i, cInt2_ii, cToInt_i, cToInt_b, cLen_s, cLen_t, cLen_r, cLen_l, cTuple_t, cTuple_r, cTuple_l, cList_t, cList_r, cList_l, qNeg, oI_ii, oAdd_ii, oSub, oMul, oDiv, oMod, oPow, oEq, oNe, oEqW_ii, oEqW_ss, oEqW_bb, oLt, oLe, oGt, oGe, oOrd_ii, oOrd_ss, oIx_t, oIx_r, oIx_l, oIx_s, qNo, qPart, qSl, oSl_t, oSl_r, oSl_l, oSl_s, qMeth, mAppend_1, iSeq, iRange1, iRange2, qCall, endsF, startD, List.map_cons, List.map_nil, List.length_cons, List.length_nil, List.length_map, List.cons_append, List.nil_append, List.replicate, List.getElem?_cons_zero, List.getElem?_cons_succ, List.set_cons_zero, List.set_cons_succ, Nat.reduceAdd, Nat.reduceSub, if_true, if_false, id, ups_same, ex_lst, ex_lst2, ex_some, atI_0, atI_1, atI_2, atI_3, ixN_0, ixN_1, ixN_21, oIx_p]; exact ⟨by omega, by rw [show ((m : Int) - ((a : Int) + 1)).toNat = m - (a + 1) by omega]; exact q⟩) (fun loc => ∃ z4 z5, loc = [some (.tup (t.map rD)), some (.int m), some (.int s), some (.int a), z4, z5]) ⟨_, _, rfl⟩ (fun b => Tn t s a b) ?_ ?_
      · rintro i _ S3 P3 hi ⟨z4, z5, rfl⟩ sub3 no3 rt3 nx3
        obtain ⟨b, hb⟩ : ∃ b, a + 1 + i = b := ⟨_, rfl⟩
        rw [hb] at nx3 ⊢
        have hbm : b < m := by omega
        simp only [r_turned_pair_b1, sp_behind, sSeq, sNext, sBreak, sCont, sDrop, sRet, sRetN, sIf, sSet, sPar, sAsg, sRaise, gN, gE, gC, gU, gS, qVar, qC, qBin, qTB, qChain, qNot, qAnd, qOr, bd_bl, qNotT, qAndT, qOrT, qTru, tru_non, tru_bl, tru_int, tru_str, tru_tup, tru_rol, tru_ref, qIf, qNil, qCons, qTup, qLst, qCB, cInt_i, cInt2_ii, cToInt_i, cToInt_b, cLen_s, cLen_t, cLen_r, cLen_l, cTuple_t, cTuple_r, cTuple_l, cList_t, cList_r, cList_l, qNeg, oI_ii, oAdd_ii, oSub, oMul, oDiv, oMod, oPow, oEq, oNe, oEqW_ii, oEqW_ss, oEqW_bb, oLt, oLe, oGt, oGe, oOrd_ii, oOrd_ss, oIx_t, oIx_r, oIx_l, oIx_s, qNo, qPart, qSl, oSl_t, oSl_r, oSl_l, oSl_s, qMeth, mAppend_1, iSeq, iRange1, iRange2, qCall, endsF, startD, List.map_cons, List.map_nil, List.length_cons, List.length_nil, List.length_map, List.cons_append, List.nil_append, List.replicate, List.getElem?_cons_zero, List.getElem?_cons_succ, List.set_cons_zero, List.set_cons_succ, Nat.reduceAdd, Nat.reduceSub, if_true, if_false, id, ups_same, ex_lst, ex_lst2, ex_some, atI_0, atI_1, atI_2, atI_3, ixN_0, ixN_1, ixN_21, oIx_p]
        refine ⟨t, m, s, a, b, rfl, hs, hs1, ha, hbm, ?_⟩
        by_cases h1 : bh t s a b = -1
        · exact ifF (by rw [decide_eq_true h1]; rfl) (nx3 _ _ ⟨_, _, rfl⟩ sub3 fun z => z.1 h1)
        · refine ifT (by rw [decide_eq_false h1]; rfl) ⟨t, m, s, b, a, rfl, hs, hs1, hbm, ha, ?_⟩
          by_cases h2 : bh t s a b = bh t s b a
          · refine ifT (decide_eq_true h2) ⟨by decide, ?_⟩
            rw [rt3, rt2, rt1]
            refine ⟨S, (sub1.trans sub2).trans sub3, q (some (s, a, b)) ⟨hs1, by omega, hbm, ⟨h1, h2⟩, ?_⟩⟩
            rintro s' a' b' hs' ha' hb' (h | ⟨rfl, h | ⟨rfl, h⟩⟩) x
            · exact no1 s' h (by rw [Nat.zero_add]; exact ⟨a', b', ha', hb', x⟩)
            · exact no2 a' h (by rw [Nat.zero_add]; exact ⟨b', ha', hb', x⟩)
            · have := no3 (b' - (a' + 1)) (by omega)
              rw [show a' + 1 + (b' - (a' + 1)) = b' by omega] at this
              exact this x
          · exact ifF (decide_eq_false h2) (nx3 _ _ ⟨_, _, rfl⟩ sub3 fun z => h2 z.2)
      · rintro _ S3 ⟨z4, z5, rfl⟩ sub3 no
        refine nx2 _ _ ⟨_, _, _, rfl⟩ (sub2.trans sub3) fun ⟨b, hab, hbm, x⟩ => ?_
        have := no (b - (a + 1)) (by omega)
        rw [show a + 1 + (b - (a + 1)) = b by omega] at this
        exact this x
    · rintro _ S2 ⟨z3, z4, z5, rfl⟩ sub2 no
      refine nx1 _ _ ⟨_, _, _, _, rfl⟩ (sub1.trans sub2) fun ⟨a, b, hab, hbm, x⟩ => ?_
      have := no a (by omega)
      rw [Nat.zero_add] at this
      exact this ⟨b, hab, hbm, x⟩
  · rintro _ S1 ⟨z2, z3, z4, z5, rfl⟩ sub1 no
    refine ⟨S, sub1, q none fun s a b h1 h2 h3 x => ?_⟩
    have := no s h1
    rw [Nat.zero_add] at this
    exact this ⟨a, b, h2, h3, x⟩
theorem tn_iff (hs : Sq t m) {s a b : Nat} (h1 : s < m) (h2 : a < m) (h3 : b < m) : Tn t s a b ↔ 0 ≤ c t s a ∧ 0 ≤ c t s b ∧ 0 ≤ c t (c t s a).toNat b ∧ c t (c t s a).toNat b = c t (c t s b).toNat a := by
  have r1 := hs.crng h1 h2
  have r2 := hs.crng h1 h3
  unfold Tn bh
  by_cases e1 : c t s a = -1
  · rw [if_pos e1]
    exact ⟨fun z => absurd rfl z.1, fun z => by omega⟩
  · rw [if_neg e1]
    have r3 := hs.crng (i := (c t s a).toNat) (j := b) (by omega) h3
    by_cases e2 : c t s b = -1
    · rw [if_pos e2]
      exact ⟨fun z => absurd z.2 z.1, fun z => by omega⟩
    · rw [if_neg e2]
      exact ⟨fun z => ⟨by omega, by omega, by omega, z.2⟩, fun z => ⟨by omega, z.2.2.2⟩⟩
theorem p__law_turn : ∀ ds S Q E, sp__law_turn ad ds S Q E → r__law_turn ad (endsF Q E) (startD N__law_turn ds) S := by
  rintro ds S Q E ⟨t, m, rfl, hs, q⟩
  have hle := hs.le
  have hlen := hs.len
  simp only [r__law_turn, sSeq, sNext, sBreak, sCont, sDrop, sRet, sRetN, sIf, sSet, sPar, sAsg, sRaise, gN, gE, gC, gU, gS, qVar, qC, qBin, qTB, qChain, qNot, qAnd, qOr, bd_bl, qNotT, qAndT, qOrT, qTru, tru_non, tru_bl, tru_int, tru_str, tru_tup, tru_rol, tru_ref, qIf, qNil, qCons, qTup, qLst, qCB, cInt_i, cInt2_ii, cToInt_i, cToInt_b, cLen_s, cLen_t, cLen_r, cLen_l, cTuple_t, cTuple_r, cTuple_l, cList_t, cList_r, cList_l, qNeg, oI_ii, oAdd_ii, oSub, oMul, oDiv, oMod, oPow, oEq, oNe, oEqW_ii, oEqW_ss, oEqW_bb, oLt, oLe, oGt, oGe, oOrd_ii, oOrd_ss, oIx_t, oIx_r, oIx_l, oIx_s, qNo, qPart, qSl, oSl_t, oSl_r, oSl_l, oSl_s, qMeth, mAppend_1, iSeq, iRange1, iRange2, qCall, endsF, startD, List.map_cons, List.map_nil, List.length_cons, List.length_nil, List.length_map, List.cons_append, List.nil_append, List.replicate, List.getElem?_cons_zero, List.getElem?_cons_succ, List.set_cons_zero, List.set_cons_succ, Nat.reduceAdd, Nat.reduceSub, if_true, if_false, id, ups_same, ex_lst, ex_lst2, ex_some, atI_0, atI_1, atI_2, atI_3, ixN_0, ixN_1, ixN_21, oIx_p]
  unfold tD
  simp only [sSeq, sNext, sBreak, sCont, sDrop, sRet, sRetN, sIf, sSet, sPar, sAsg, sRaise, gN, gE, gC, gU, gS, qVar, qC, qBin, qTB, qChain, qNot, qAnd, qOr, bd_bl, qNotT, qAndT, qOrT, qTru, tru_non, tru_bl, tru_int, tru_str, tru_tup, tru_rol, tru_ref, qIf, qNil, qCons, qTup, qLst, qCB, cInt_i, cInt2_ii, cToInt_i, cToInt_b, cLen_s, cLen_t, cLen_r, cLen_l, cTuple_t, cTuple_r, cTuple_l, cList_t, cList_r, cList_l, qNeg, oI_ii, oAdd_ii, oSub, oMul, oDiv, oMod, oPow, oEq, oNe, oEqW_ii, oEqW_ss, oEqW_bb, oLt, oLe, oGt, oGe, oOrd_ii, oOrd_ss, oIx_t, oIx_r, oIx_l, oIx_s, qNo, qPart, qSl, oSl_t, oSl_r, oSl_l, oSl_s, qMeth, mAppend_1, iSeq, iRange1, iRange2, qCall, endsF, startD, List.map_cons, List.map_nil, List.length_cons, List.length_nil, List.length_map, List.cons_append, List.nil_append, List.replicate, List.getElem?_cons_zero, List.getElem?_cons_succ, List.set_cons_zero, List.set_cons_succ, Nat.reduceAdd, Nat.reduceSub, if_true, if_false, id, ups_same, ex_lst, ex_lst2, ex_some, atI_0, atI_1, atI_2, atI_3, ixN_0, ixN_1, ixN_21, oIx_p]
  rw [hlen]
  refine search 0 m (fun Q q => by simp only [sSeq, sNext, sBreak, sCont, sDrop, sRet, sRetN, sIf, sSet, sPar, sAsg, sRaise, gN, gE, gC, gU, gS, qVar, qC, qBin, qTB, qChain, qNot, qAnd, qOr, bd_bl, qNotT, qAndT, qOrT, qTru, tru_non, tru_bl, tru_int, tru_str, tru_tup, tru_rol, tru_ref, qIf, qNil, qCons, qTup, qLst, qCB, cInt_i, cInt2_ii, cToInt_i, cToInt_b, cLen_s, cLen_t, cLen_r, cLen_l, cTuple_t, cTuple_r, cTuple_l, cList_t, cList_r, cList_l, qNeg, oI_ii, oAdd_ii, oSub, oMul, oDiv, oMod, oPow, oEq, oNe, oEqW_ii, oEqW_ss, oEqW_bb, oLt, oLe, oGt, oGe, oOrd_ii, oOrd_ss, oIx_t, oIx_r, oIx_l, oIx_s, qNo, qPart, qSl, oSl_t, oSl_r, oSl_l, oSl_s, qMeth, mAppend_1, iSeq, iRange1, iRange2, qCall, endsF, startD, List.map_cons, List.map_nil, List.length_cons, List.length_nil, List.length_map, List.cons_append, List.nil_append, List.replicate, List.getElem?_cons_zero, List.getElem?_cons_succ, List.set_cons_zero, List.set_cons_succ, Nat.reduceAdd, Nat.reduceSub, if_true, if_false, id, ups_same, ex_lst, ex_lst2, ex_some, atI_0, atI_1, atI_2, atI_3, ixN_0, ixN_1, ixN_21, oIx_p]; exact ⟨by omega, by omega, q⟩) (fun loc => ∃ z2 z3 z4 z5 z6, loc = [some (.tup (t.map rD)), some (.int m), z2, z3, z4, z5, z6]) ⟨_, _, _, _, _, rfl⟩ (fun s => ∃ a b, a < b ∧ b < m ∧ Tn t s a b) ?_ ?_
  · rintro s _ S1 P1 hs1 ⟨z2, z3, z4, z5, z6, rfl⟩ sub1 no1 rt1 nx1
    rw [Nat.zero_add] at nx1 ⊢
    simp only [r__law_turn_b3, sSeq, sNext, sBreak, sCont, sDrop, sRet, sRetN, sIf, sSet, sPar, sAsg, sRaise, gN, gE, gC, gU, gS, qVar, qC, qBin, qTB, qChain, qNot, qAnd, qOr, bd_bl, qNotT, qAndT, qOrT, qTru, tru_non, tru_bl, tru_int, tru_str, tru_tup, tru_rol, tru_ref, qIf, qNil, qCons, qTup, qLst, qCB, cInt_i, cInt2_ii, cToInt_i, cToInt_b, cLen_s, cLen_t, cLen_r, cLen_l, cTuple_t, cTuple_r, cTuple_l, cList_t, cList_r, cList_l, qNeg, oI_ii, oAdd_ii, oSub, oMul, oDiv, oMod, oPow, oEq, oNe, oEqW_ii, oEqW_ss, oEqW_bb, oLt, oLe, oGt, oGe, oOrd_ii, oOrd_ss, oIx_t, oIx_r, oIx_l, oIx_s, qNo, qPart, qSl, oSl_t, oSl_r, oSl_l, oSl_s, qMeth, mAppend_1, iSeq, iRange1, iRange2, qCall, endsF, startD, List.map_cons, List.map_nil, List.length_cons, List.length_nil, List.length_map, List.cons_append, List.nil_append, List.replicate, List.getElem?_cons_zero, List.getElem?_cons_succ, List.set_cons_zero, List.set_cons_succ, Nat.reduceAdd, Nat.reduceSub, if_true, if_false, id, ups_same, ex_lst, ex_lst2, ex_some, atI_0, atI_1, atI_2, atI_3, ixN_0, ixN_1, ixN_21, oIx_p]
    refine search 0 m (fun Q q => by simp only [sSeq, sNext, sBreak, sCont, sDrop, sRet, sRetN, sIf, sSet, sPar, sAsg, sRaise, gN, gE, gC, gU, gS, qVar, qC, qBin, qTB, qChain, qNot, qAnd, qOr, bd_bl, qNotT, qAndT, qOrT, qTru, tru_non, tru_bl, tru_int, tru_str, tru_tup, tru_rol, tru_ref, qIf, qNil, qCons, qTup, qLst, qCB, cInt_i, cInt2_ii, cToInt_i, cToInt_b, cLen_s, cLen_t, cLen_r, cLen_l, cTuple_t, cTuple_r, cTuple_l, cList_t, cList_r, cList_l, qNeg, oI_ii, oAdd_ii, oSub, oMul, oDiv, oMod, oPow, oEq, oNe, oEqW_ii, oEqW_ss, oEqW_bb, oLt, oLe, oGt, oGe, oOrd_ii, oOrd_ss, oIx_t, oIx_r, oIx_l, oIx_s, qNo, qPart, qSl, oSl_t, oSl_r, oSl_l, oSl_s, qMeth, mAppend_1, iSeq, iRange1, iRange2, qCall, endsF, startD, List.map_cons, List.map_nil, List.length_cons, List.length_nil, List.length_map, List.cons_append, List.nil_append, List.replicate, List.getElem?_cons_zero, List.getElem?_cons_succ, List.set_cons_zero, List.set_cons_succ, Nat.reduceAdd, Nat.reduceSub, if_true, if_false, id, ups_same, ex_lst, ex_lst2, ex_some, atI_0, atI_1, atI_2, atI_3, ixN_0, ixN_1, ixN_21, oIx_p]; exact ⟨by omega, by omega, q⟩) (fun loc => ∃ z3 z4 z5 z6, loc = [some (.tup (t.map rD)), some (.int m), some (.int s), z3, z4, z5, z6]) ⟨_, _, _, _, rfl⟩ (fun a => ∃ b, a < b ∧ b < m ∧ Tn t s a b) ?_ ?_
    · rintro a _ S2 P2 ha ⟨z3, z4, z5, z6, rfl⟩ sub2 no2 rt2 nx2
      rw [Nat.zero_add] at nx2 ⊢
      simp only [r__law_turn_b2, sSeq, sNext, sBreak, sCont, sDrop, sRet, sRetN, sIf, sSet, sPar, sAsg, sRaise, gN, gE, gC, gU, gS, qVar, qC, qBin, qTB, qChain, qNot, qAnd, qOr, bd_bl, qNotT, qAndT, qOrT, qTru, tru_non, tru_bl, tru_int, tru_str, tru_tup, tru_rol, tru_ref, qIf, qNil, qCons, qTup, qLst, qCB, cInt_i, cInt2_ii, cToInt_i, cToInt_b, cLen_s, cLen_t, cLen_r, cLen_l, cTuple_t, cTuple_r, cTuple_l, cList_t, cList_r, cList_l, qNeg, oI_ii, oAdd_ii, oSub, oMul, oDiv, oMod, oPow, oEq, oNe, oEqW_ii, oEqW_ss, oEqW_bb, oLt, oLe, oGt, oGe, oOrd_ii, oOrd_ss, oIx_t, oIx_r, oIx_l, oIx_s, qNo, qPart, qSl, oSl_t, oSl_r, oSl_l, oSl_s, qMeth, mAppend_1, iSeq, iRange1, iRange2, qCall, endsF, startD, List.map_cons, List.map_nil, List.length_cons, List.length_nil, List.length_map, List.cons_append, List.nil_append, List.replicate, List.getElem?_cons_zero, List.getElem?_cons_succ, List.set_cons_zero, List.set_cons_succ, Nat.reduceAdd, Nat.reduceSub, if_true, if_false, id, ups_same, ex_lst, ex_lst2, ex_some, atI_0, atI_1, atI_2, atI_3, ixN_0, ixN_1, ixN_21, oIx_p]
      refine search (a + 1) (m - (a + 1)) (fun Q q => by simp only [sSeq, sNext, sBreak, sCont, sDrop, sRet, sRetN, sIf, sSet, sPar, sAsg, sRaise, gN, gE, gC, gU, gS, qVar, qC, qBin, qTB, qChain, qNot, qAnd, qOr, bd_bl, qNotT, qAndT, qOrT, qTru, tru_non, tru_bl, tru_int, tru_str, tru_tup, tru_rol, tru_ref, qIf, qNil, qCons, qTup, qLst, qCB, cInt_i, cInt2_ii, cToInt_i, cToInt_b, cLen_s, cLen_t, cLen_r, cLen_l, cTuple_t, cTuple_r, cTuple_l, cList_t, cList_r, cList_l, qNeg, oI_ii, oAdd_ii, oSub, oMul, oDiv, oMod, oPow, oEq, oNe, oEqW_ii, oEqW_ss, oEqW_bb, oLt, oLe, oGt, oGe, oOrd_ii, oOrd_ss, oIx_t, oIx_r, oIx_l, oIx_s, qNo, qPart, qSl, oSl_t, oSl_r, oSl_l, oSl_s, qMeth, mAppend_1, iSeq, iRange1, iRange2, qCall, endsF, startD, List.map_cons, List.map_nil, List.length_cons, List.length_nil, List.length_map, List.cons_append, List.nil_append, List.replicate, List.getElem?_cons_zero, List.getElem?_cons_succ, List.set_cons_zero, List.set_cons_succ, Nat.reduceAdd, Nat.reduceSub, if_true, if_false, id, ups_same, ex_lst, ex_lst2, ex_some, atI_0, atI_1, atI_2, atI_3, ixN_0, ixN_1, ixN_21, oIx_p]; exact ⟨by omega, by rw [show ((m : Int) - ((a : Int) + 1)).toNat = m - (a + 1) by omega]; exact q⟩) (fun loc => ∃ z4 z5 z6, loc = [some (.tup (t.map rD)), some (.int m), some (.int s), some (.int a), z4, z5, z6]) ⟨_, _, _, rfl⟩ (fun b => Tn t s a b) ?_ ?_
      · rintro i _ S3 P3 hi ⟨z4, z5, z6, rfl⟩ sub3 no3 rt3 nx3
        obtain ⟨b, hb⟩ : ∃ b, a + 1 + i = b := ⟨_, rfl⟩
        rw [hb] at nx3 ⊢
        have hbm : b < m := by omega
        have T := tn_iff hs hs1 ha hbm
        have nx4 : ∀ x y, ¬ (0 ≤ c t s a ∧ 0 ≤ c t s b ∧ 0 ≤ c t (c t s a).toNat b ∧ c t (c t s a).toNat b = c t (c t s b).toNat a) → P3.nx [some (.tup (t.map rD)), some (.int m), some (.int s), some (.int a), some (.int b), x, y] S3 := fun x y z => nx3 _ _ ⟨_, _, _, rfl⟩ sub3 fun w => z (T.mp w)
        simp only [r__law_turn_b1, sSeq, sNext, sBreak, sCont, sDrop, sRet, sRetN, sIf, sSet, sPar, sAsg, sRaise, gN, gE, gC, gU, gS, qVar, qC, qBin, qTB, qChain, qNot, qAnd, qOr, bd_bl, qNotT, qAndT, qOrT, qTru, tru_non, tru_bl, tru_int, tru_str, tru_tup, tru_rol, tru_ref, qIf, qNil, qCons, qTup, qLst, qCB, cInt_i, cInt2_ii, cToInt_i, cToInt_b, cLen_s, cLen_t, cLen_r, cLen_l, cTuple_t, cTuple_r, cTuple_l, cList_t, cList_r, cList_l, qNeg, oI_ii, oAdd_ii, oSub, oMul, oDiv, oMod, oPow, oEq, oNe, oEqW_ii, oEqW_ss, oEqW_bb, oLt, oLe, oGt, oGe, oOrd_ii, oOrd_ss, oIx_t, oIx_r, oIx_l, oIx_s, qNo, qPart, qSl, oSl_t, oSl_r, oSl_l, oSl_s, qMeth, mAppend_1, iSeq, iRange1, iRange2, qCall, endsF, startD, List.map_cons, List.map_nil, List.length_cons, List.length_nil, List.length_map, List.cons_append, List.nil_append, List.replicate, List.getElem?_cons_zero, List.getElem?_cons_succ, List.set_cons_zero, List.set_cons_succ, Nat.reduceAdd, Nat.reduceSub, if_true, if_false, id, ups_same, ex_lst, ex_lst2, ex_some, atI_0, atI_1, atI_2, atI_3, ixN_0, ixN_1, ixN_21, oIx_p, hs.atr hs1, rD, hs.atc hs1 ha, hs.atc hs1 hbm]
        by_cases h1 : 0 ≤ c t s a
        · refine ifT (decide_eq_true h1) ?_
          by_cases h2 : 0 ≤ c t s b
          · refine ifT (decide_eq_true h2) ?_
            obtain ⟨x, ex, hx⟩ := hs.c0 hs1 ha (by omega)
            obtain ⟨y, ey, hy⟩ := hs.c0 hs1 hbm (by omega)
            rw [ex, ey, Int.toNat_natCast, Int.toNat_natCast] at T
            rw [ex, ey, Int.toNat_natCast, Int.toNat_natCast] at nx4
            rw [ex, ey]
            simp only [sSeq, sNext, sBreak, sCont, sDrop, sRet, sRetN, sIf, sSet, sPar, sAsg, sRaise, gN, gE, gC, gU, gS, qVar, qC, qBin, qTB, qChain, qNot, qAnd, qOr, bd_bl, qNotT, qAndT, qOrT, qTru, tru_non, tru_bl, tru_int, tru_str, tru_tup, tru_rol, tru_ref, qIf, qNil, qCons, qTup, qLst, qCB, cInt_i, cInt2_ii, cToInt_i, cToInt_b, cLen_s, cLen_t, cLen_r, cLen_l, cTuple_t, cTuple_r, cTuple_l, cList_t, cList_r, cList_l, qNeg, oI_ii, oAdd_ii, oSub, oMul, oDiv, oMod, oPow, oEq, oNe, oEqW_ii, oEqW_ss, oEqW_bb, oLt, oLe, oGt, oGe, oOrd_ii, oOrd_ss, oIx_t, oIx_r, oIx_l, oIx_s, qNo, qPart, qSl, oSl_t, oSl_r, oSl_l, oSl_s, qMeth, mAppend_1, iSeq, iRange1, iRange2, qCall, endsF, startD, List.map_cons, List.map_nil, List.length_cons, List.length_nil, List.length_map, List.cons_append, List.nil_append, List.replicate, List.getElem?_cons_zero, List.getElem?_cons_succ, List.set_cons_zero, List.set_cons_succ, Nat.reduceAdd, Nat.reduceSub, if_true, if_false, id, ups_same, ex_lst, ex_lst2, ex_some, atI_0, atI_1, atI_2, atI_3, ixN_0, ixN_1, ixN_21, oIx_p, hs.atr hx, rD, hs.atc hx hbm]
            by_cases h3 : 0 ≤ c t x b
            · refine ifT (decide_eq_true h3) ?_
              simp only [sSeq, sNext, sBreak, sCont, sDrop, sRet, sRetN, sIf, sSet, sPar, sAsg, sRaise, gN, gE, gC, gU, gS, qVar, qC, qBin, qTB, qChain, qNot, qAnd, qOr, bd_bl, qNotT, qAndT, qOrT, qTru, tru_non, tru_bl, tru_int, tru_str, tru_tup, tru_rol, tru_ref, qIf, qNil, qCons, qTup, qLst, qCB, cInt_i, cInt2_ii, cToInt_i, cToInt_b, cLen_s, cLen_t, cLen_r, cLen_l, cTuple_t, cTuple_r, cTuple_l, cList_t, cList_r, cList_l, qNeg, oI_ii, oAdd_ii, oSub, oMul, oDiv, oMod, oPow, oEq, oNe, oEqW_ii, oEqW_ss, oEqW_bb, oLt, oLe, oGt, oGe, oOrd_ii, oOrd_ss, oIx_t, oIx_r, oIx_l, oIx_s, qNo, qPart, qSl, oSl_t, oSl_r, oSl_l, oSl_s, qMeth, mAppend_1, iSeq, iRange1, iRange2, qCall, endsF, startD, List.map_cons, List.map_nil, List.length_cons, List.length_nil, List.length_map, List.cons_append, List.nil_append, List.replicate, List.getElem?_cons_zero, List.getElem?_cons_succ, List.set_cons_zero, List.set_cons_succ, Nat.reduceAdd, Nat.reduceSub, if_true, if_false, id, ups_same, ex_lst, ex_lst2, ex_some, atI_0, atI_1, atI_2, atI_3, ixN_0, ixN_1, ixN_21, oIx_p, hs.atr hy, rD, hs.atc hy ha]
              by_cases h4 : c t x b = c t y a
              · refine ifT (decide_eq_true h4) ⟨by decide, ?_⟩
                rw [rt3, rt2, rt1]
                refine ⟨S, (sub1.trans sub2).trans sub3, q (some (s, a, b)) ⟨hs1, by omega, hbm, T.mpr ⟨by omega, by omega, h3, h4⟩, ?_⟩⟩
                rintro s' a' b' hs' ha' hb' (h | ⟨rfl, h | ⟨rfl, h⟩⟩) x
                · exact no1 s' h (by rw [Nat.zero_add]; exact ⟨a', b', ha', hb', x⟩)
                · exact no2 a' h (by rw [Nat.zero_add]; exact ⟨b', ha', hb', x⟩)
                · have := no3 (b' - (a' + 1)) (by omega)
                  rw [show a' + 1 + (b' - (a' + 1)) = b' by omega] at this
                  exact this x
              · exact ifF (decide_eq_false h4) (nx4 _ _ fun z => h4 z.2.2.2)
            · exact ifF (decide_eq_false h3) (nx4 _ _ fun z => h3 z.2.2.1)
          · exact ifF (decide_eq_false h2) (nx4 _ _ fun z => h2 z.2.1)
        · exact ifF (decide_eq_false h1) (nx4 _ _ fun z => h1 z.1)
      · rintro _ S3 ⟨z4, z5, z6, rfl⟩ sub3 no
        refine nx2 _ _ ⟨_, _, _, _, rfl⟩ (sub2.trans sub3) fun ⟨b, hab, hbm, x⟩ => ?_
        have := no (b - (a + 1)) (by omega)
        rw [show a + 1 + (b - (a + 1)) = b by omega] at this
        exact this x
    · rintro _ S2 ⟨z3, z4, z5, z6, rfl⟩ sub2 no
      refine nx1 _ _ ⟨_, _, _, _, _, rfl⟩ (sub1.trans sub2) fun ⟨a, b, hab, hbm, x⟩ => ?_
      have := no a (by omega)
      rw [Nat.zero_add] at this
      exact this ⟨b, hab, hbm, x⟩
  · rintro _ S1 ⟨z2, z3, z4, z5, z6, rfl⟩ sub1 no
    refine ⟨S, sub1, q none fun s a b h1 h2 h3 x => ?_⟩
    have := no s h1
    rw [Nat.zero_add] at this
    exact this ⟨a, b, h2, h3, x⟩
end K35

namespace K35
open PySem PySem.Spec PyProof.Rows L2 PL
variable {ad : Ad} {t : Tb} {m : Nat}
theorem first_iff {r : Option (Nat × Nat × Nat)} (h : IsFirst t m r) : (!isNon (fD r)) = dB (BTurn t m) := by
  refine dB_of ?_
  match r, h with
  | none, h => exact ⟨fun z => (by cases z), fun ⟨s, a, b, h1, h2, h3, h4⟩ => absurd h4 (h s a b h1 h2 h3)⟩
  | some (s, a, b), h => exact ⟨fun _ => ⟨s, a, b, h.1, h.2.1, h.2.2.1, h.2.2.2.1⟩, fun _ => rfl⟩
theorem first_some {x : Nat × Nat × Nat} : isNon (fD (some x)) = false := by
  obtain ⟨s, a, b⟩ := x
  rfl
theorem first_uniq {r r' : Option (Nat × Nat × Nat)} (h : IsFirst t m r) (h' : IsFirst t m r') : r = r' := by
  match r, r', h, h' with
  | none, none, _, _ => rfl
  | none, some (s, a, b), h, h' => exact absurd h'.2.2.2.1 (h s a b h'.1 h'.2.1 h'.2.2.1)
  | some (s, a, b), none, h, h' => exact absurd h.2.2.2.1 (h' s a b h.1 h.2.1 h.2.2.1)
  | some (s, a, b), some (s', a', b'), h, h' =>
    obtain ⟨h1, h2, h3, h4, h5⟩ := h
    obtain ⟨g1, g2, g3, g4, g5⟩ := h'
    have n1 : ¬ (s' < s ∨ (s' = s ∧ (a' < a ∨ (a' = a ∧ b' < b)))) := fun z => h5 s' a' b' g1 g2 g3 z g4
    have n2 : ¬ (s < s' ∨ (s = s' ∧ (a < a' ∨ (a = a' ∧ b < b')))) := fun z => g5 s a b h1 h2 h3 z h4
    have e1 : s = s' := by omega
    have e2 : a = a' := by omega
    have e3 : b = b' := by omega
    rw [e1, e2, e3]
theorem p_is_broken : ∀ ds S Q E, sp_is_broken ad ds S Q E → r_is_broken ad (endsF Q E) (startD N_is_broken ds) S := by
  rintro ds S Q E ⟨t, m, w, rfl, hs, hw, q⟩
  simp only [r_is_broken, sp_breaks_latin, sp_breaks_zero, sp_breaks_commuting, sp_turned_pair, sSeq, sNext, sBreak, sCont, sDrop, sRet, sRetN, sIf, sSet, sPar, sAsg, sRaise, gN, gE, gC, gU, gS, qVar, qC, qBin, qTB, qChain, qNot, qAnd, qOr, bd_bl, qNotT, qAndT, qOrT, qTru, tru_non, tru_bl, tru_int, tru_str, tru_tup, tru_rol, tru_ref, qIf, qNil, qCons, qTup, qLst, qCB, cInt_i, cInt2_ii, cToInt_i, cToInt_b, cLen_s, cLen_t, cLen_r, cLen_l, cTuple_t, cTuple_r, cTuple_l, cList_t, cList_r, cList_l, qNeg, oI_ii, oAdd_ii, oSub, oMul, oDiv, oMod, oPow, oEq, oNe, oEqW_ii, oEqW_ss, oEqW_bb, oLt, oLe, oGt, oGe, oOrd_ii, oOrd_ss, oIx_t, oIx_r, oIx_l, oIx_s, qNo, qPart, qSl, oSl_t, oSl_r, oSl_l, oSl_s, qMeth, mAppend_1, iSeq, iRange1, iRange2, qCall, endsF, startD, List.map_cons, List.map_nil, List.length_cons, List.length_nil, List.length_map, List.cons_append, List.nil_append, List.replicate, List.getElem?_cons_zero, List.getElem?_cons_succ, List.set_cons_zero, List.set_cons_succ, Nat.reduceAdd, Nat.reduceSub, if_true, if_false, id, ups_same, ex_lst, ex_lst2, ex_some, atI_0, atI_1, atI_2, atI_3, ixN_0, ixN_1, ixN_21, oIx_p]
  unfold B at q
  by_cases h1 : w = "latin"
  · rw [if_pos h1] at q
    exact ifT (decide_eq_true h1) ⟨t, m, rfl, hs, S, Sub.refl S, q⟩
  · rw [if_neg h1] at q
    refine ifF (decide_eq_false h1) ?_
    by_cases h2 : w = "zero"
    · rw [if_pos h2] at q
      exact ifT (decide_eq_true h2) ⟨t, m, rfl, hs, S, Sub.refl S, q⟩
    · rw [if_neg h2] at q
      refine ifF (decide_eq_false h2) ?_
      by_cases h3 : w = "commuting"
      · rw [if_pos h3] at q
        exact ifT (decide_eq_true h3) ⟨t, m, rfl, hs, S, Sub.refl S, q⟩
      · rw [if_neg h3] at q
        refine ifF (decide_eq_false h3) ⟨t, m, rfl, hs, fun r hr => ⟨rfl, S, Sub.refl S, ?_⟩⟩
        show Q (.bl (!isNon (fD r))) S
        rw [first_iff hr]
        exact q
theorem p_keeps : ∀ ds S Q E, sp_keeps ad ds S Q E → r_keeps ad (endsF Q E) (startD N_keeps ds) S := by
  rintro ds S Q E ⟨t, ws, rfl, hz, hl, h1, h2⟩
  simp only [r_keeps, sp_check_table, sp_check_wishes, sSeq, sNext, sBreak, sCont, sDrop, sRet, sRetN, sIf, sSet, sPar, sAsg, sRaise, gN, gE, gC, gU, gS, qVar, qC, qBin, qTB, qChain, qNot, qAnd, qOr, bd_bl, qNotT, qAndT, qOrT, qTru, tru_non, tru_bl, tru_int, tru_str, tru_tup, tru_rol, tru_ref, qIf, qNil, qCons, qTup, qLst, qCB, cInt_i, cInt2_ii, cToInt_i, cToInt_b, cLen_s, cLen_t, cLen_r, cLen_l, cTuple_t, cTuple_r, cTuple_l, cList_t, cList_r, cList_l, qNeg, oI_ii, oAdd_ii, oSub, oMul, oDiv, oMod, oPow, oEq, oNe, oEqW_ii, oEqW_ss, oEqW_bb, oLt, oLe, oGt, oGe, oOrd_ii, oOrd_ss, oIx_t, oIx_r, oIx_l, oIx_s, qNo, qPart, qSl, oSl_t, oSl_r, oSl_l, oSl_s, qMeth, mAppend_1, iSeq, iRange1, iRange2, qCall, endsF, startD, List.map_cons, List.map_nil, List.length_cons, List.length_nil, List.length_map, List.cons_append, List.nil_append, List.replicate, List.getElem?_cons_zero, List.getElem?_cons_succ, List.set_cons_zero, List.set_cons_succ, Nat.reduceAdd, Nat.reduceSub, if_true, if_false, id, ups_same, ex_lst, ex_lst2, ex_some, atI_0, atI_1, atI_2, atI_3, ixN_0, ixN_1, ixN_21, oIx_p]
  refine ⟨t, rfl, hz, fun m hs hf => ⟨ws, rfl, hl, fun hw => ?_, fun hw => ⟨S, Sub.refl S, h2 (.inr hw)⟩⟩, fun h => ⟨S, Sub.refl S, h2 (.inl h)⟩⟩
  refine lc_boolsT (.vals (ws.map D.str)) ws D.str (fun w => dB (B t m w)) (fun Q q => by simp only [sSeq, sNext, sBreak, sCont, sDrop, sRet, sRetN, sIf, sSet, sPar, sAsg, sRaise, gN, gE, gC, gU, gS, qVar, qC, qBin, qTB, qChain, qNot, qAnd, qOr, bd_bl, qNotT, qAndT, qOrT, qTru, tru_non, tru_bl, tru_int, tru_str, tru_tup, tru_rol, tru_ref, qIf, qNil, qCons, qTup, qLst, qCB, cInt_i, cInt2_ii, cToInt_i, cToInt_b, cLen_s, cLen_t, cLen_r, cLen_l, cTuple_t, cTuple_r, cTuple_l, cList_t, cList_r, cList_l, qNeg, oI_ii, oAdd_ii, oSub, oMul, oDiv, oMod, oPow, oEq, oNe, oEqW_ii, oEqW_ss, oEqW_bb, oLt, oLe, oGt, oGe, oOrd_ii, oOrd_ss, oIx_t, oIx_r, oIx_l, oIx_s, qNo, qPart, qSl, oSl_t, oSl_r, oSl_l, oSl_s, qMeth, mAppend_1, iSeq, iRange1, iRange2, qCall, endsF, startD, List.map_cons, List.map_nil, List.length_cons, List.length_nil, List.length_map, List.cons_append, List.nil_append, List.replicate, List.getElem?_cons_zero, List.getElem?_cons_succ, List.set_cons_zero, List.set_cons_succ, Nat.reduceAdd, Nat.reduceSub, if_true, if_false, id, ups_same, ex_lst, ex_lst2, ex_some, atI_0, atI_1, atI_2, atI_3, ixN_0, ixN_1, ixN_21, oIx_p]; exact q) ok_vals rfl (by omega) ?_ ?_
  · intro w S' C hr sub hC
    simp only [wipeD, sp_is_broken, sSeq, sNext, sBreak, sCont, sDrop, sRet, sRetN, sIf, sSet, sPar, sAsg, sRaise, gN, gE, gC, gU, gS, qVar, qC, qBin, qTB, qChain, qNot, qAnd, qOr, bd_bl, qNotT, qAndT, qOrT, qTru, tru_non, tru_bl, tru_int, tru_str, tru_tup, tru_rol, tru_ref, qIf, qNil, qCons, qTup, qLst, qCB, cInt_i, cInt2_ii, cToInt_i, cToInt_b, cLen_s, cLen_t, cLen_r, cLen_l, cTuple_t, cTuple_r, cTuple_l, cList_t, cList_r, cList_l, qNeg, oI_ii, oAdd_ii, oSub, oMul, oDiv, oMod, oPow, oEq, oNe, oEqW_ii, oEqW_ss, oEqW_bb, oLt, oLe, oGt, oGe, oOrd_ii, oOrd_ss, oIx_t, oIx_r, oIx_l, oIx_s, qNo, qPart, qSl, oSl_t, oSl_r, oSl_l, oSl_s, qMeth, mAppend_1, iSeq, iRange1, iRange2, qCall, endsF, startD, List.map_cons, List.map_nil, List.length_cons, List.length_nil, List.length_map, List.cons_append, List.nil_append, List.replicate, List.getElem?_cons_zero, List.getElem?_cons_succ, List.set_cons_zero, List.set_cons_succ, Nat.reduceAdd, Nat.reduceSub, if_true, if_false, id, ups_same, ex_lst, ex_lst2, ex_some, atI_0, atI_1, atI_2, atI_3, ixN_0, ixN_1, ixN_21, oIx_p]
    exact ⟨t, m, w, rfl, hs, hw.2 w hr, hC S' (Sub.refl _)⟩
  · intro p S' hp sub hL
    refine ⟨_, _, rfl, hL, ?_⟩
    simp only [bd_bl]
    refine ⟨S, sub, ?_⟩
    have e : (ws.map fun w => dB (B t m w)).any id = dB (∃ w, w ∈ ws ∧ B t m w) := dB_of (by
      rw [List.any_map, List.any_eq_true]
      exact ⟨fun ⟨w, h, x⟩ => ⟨w, h, dB_iff.mp x⟩, fun ⟨w, h, x⟩ => ⟨w, h, dB_iff.mpr x⟩⟩)
    rw [e]
    exact h1 m hs hf hw
theorem p_first_turned : ∀ ds S Q E, sp_first_turned ad ds S Q E → r_first_turned ad (endsF Q E) (startD N_first_turned ds) S := by
  rintro ds S Q E ⟨t, rfl, hz, h1, h2⟩
  simp only [r_first_turned, sp_check_table, sp_turned_pair, sSeq, sNext, sBreak, sCont, sDrop, sRet, sRetN, sIf, sSet, sPar, sAsg, sRaise, gN, gE, gC, gU, gS, qVar, qC, qBin, qTB, qChain, qNot, qAnd, qOr, bd_bl, qNotT, qAndT, qOrT, qTru, tru_non, tru_bl, tru_int, tru_str, tru_tup, tru_rol, tru_ref, qIf, qNil, qCons, qTup, qLst, qCB, cInt_i, cInt2_ii, cToInt_i, cToInt_b, cLen_s, cLen_t, cLen_r, cLen_l, cTuple_t, cTuple_r, cTuple_l, cList_t, cList_r, cList_l, qNeg, oI_ii, oAdd_ii, oSub, oMul, oDiv, oMod, oPow, oEq, oNe, oEqW_ii, oEqW_ss, oEqW_bb, oLt, oLe, oGt, oGe, oOrd_ii, oOrd_ss, oIx_t, oIx_r, oIx_l, oIx_s, qNo, qPart, qSl, oSl_t, oSl_r, oSl_l, oSl_s, qMeth, mAppend_1, iSeq, iRange1, iRange2, qCall, endsF, startD, List.map_cons, List.map_nil, List.length_cons, List.length_nil, List.length_map, List.cons_append, List.nil_append, List.replicate, List.getElem?_cons_zero, List.getElem?_cons_succ, List.set_cons_zero, List.set_cons_succ, Nat.reduceAdd, Nat.reduceSub, if_true, if_false, id, ups_same, ex_lst, ex_lst2, ex_some, atI_0, atI_1, atI_2, atI_3, ixN_0, ixN_1, ixN_21, oIx_p]
  refine ⟨t, rfl, hz, fun m hs hf => ⟨t, m, rfl, hs, fun r hr => ⟨rfl, ?_⟩⟩, fun h => ⟨S, Sub.refl S, h2 h⟩⟩
  match r, hr with
  | none, hr => exact ifT rfl ⟨S, Sub.refl S, (h1 m hs hf).2 hr⟩
  | some x, hr => exact ifF first_some ⟨S, Sub.refl S, (h1 m hs hf).1 x hr⟩
/-! ## the law's own -/
/-- lists by their addresses -/
def Refs (p : Addr) (S : Sto) (acc : List D) (rs : List (List Int)) : Prop := acc.length = rs.length ∧ ∀ (j : Nat) (r : List Int), rs[j]? = some r → ∃ a : Addr, a ≠ p ∧ acc[j]? = some (.ref a) ∧ S a = some (.lst (r.map D.int))
theorem Refs.snoc {p a : Addr} {S S' : Sto} {acc : List D} {rs : List (List Int)} {r : List Int} {o : O} (h : Refs p S acc rs) (s : Sub S S') (ha : a ≠ p) (e : S' a = some (.lst (r.map D.int))) : Refs p (ups S' p o) (acc ++ [.ref a]) (rs ++ [r]) := by
  refine ⟨by rw [List.length_append, List.length_append, h.1]; rfl, fun j r' hj => ?_⟩
  by_cases hl : j < rs.length
  · rw [List.getElem?_append_left hl] at hj
    obtain ⟨b, h1, h2, h3⟩ := h.2 j r' hj
    exact ⟨b, h1, by rw [List.getElem?_append_left (by rw [h.1]; exact hl)]; exact h2, by rw [ups_ne h1]; exact s _ _ h3⟩
  · have hl2 := (List.getElem?_eq_some_iff.mp hj).1
    rw [List.length_append, List.length_singleton] at hl2
    obtain rfl : j = rs.length := by omega
    rw [List.getElem?_append_right (Nat.le_refl _), Nat.sub_self] at hj
    obtain rfl := Option.some.inj hj
    refine ⟨a, ha, ?_, by rw [ups_ne ha]; exact e⟩
    rw [← h.1, List.getElem?_append_right (Nat.le_refl _), Nat.sub_self]
    rfl
theorem Refs.sub {p : Addr} {S S' : Sto} {acc : List D} {rs : List (List Int)} (h : Refs p S acc rs) (s : Sub S S') : Refs p S' acc rs :=
  ⟨h.1, fun j r hj => by
    obtain ⟨b, h1, h2, h3⟩ := h.2 j r hj
    exact ⟨b, h1, h2, s _ _ h3⟩⟩
def kp (r : List Int) : List Int := r.filter fun x => decide (0 ≤ x)
theorem kp_kn {r : List Int} (h : ∀ x ∈ r, -1 ≤ x) : kp r = kn r := by
  unfold kp kn
  refine List.filter_congr fun x hx => ?_
  have := h x hx
  by_cases e : x = -1
  · rw [decide_eq_true e, decide_eq_false (by omega)]
    rfl
  · rw [decide_eq_false e, decide_eq_true (by omega)]
    rfl
theorem Sq.kcol (hs : Sq t m) {j : Nat} (hj : j < m) : kp (K35.col t m j) = kn (K35.col t m j) := kp_kn fun x hx => by
  obtain ⟨i, hi, rfl⟩ := List.mem_map.mp hx
  exact (hs.crng (List.mem_range.mp hi) hj).1
theorem Sq.krow (hs : Sq t m) {i : Nat} (hi : i < m) : kp (K35.row t m i) = kn (K35.row t m i) := kp_kn fun x hx => by
  obtain ⟨j, hj, rfl⟩ := List.mem_map.mp hx
  exact (hs.crng hi (List.mem_range.mp hj)).1
theorem filter_cells {f : Nat → Int} {n : Nat} : ((List.range n).filter fun i => decide (0 ≤ f i)).map (fun i => D.int (f i)) = (kp ((List.range n).map f)).map D.int := by
  unfold kp
  rw [List.filter_map, List.map_map]
  rfl
theorem lat_any (hs : Sq t m) : ((t.map kp ++ (List.range m).map fun j => kp (K35.col t m j)).map fun r => dB (¬ r.Nodup)).any id = dB (BLat t m) := dB_of (by
  have hlen := hs.len
  rw [List.any_map, List.any_eq_true]
  constructor
  · rintro ⟨r, hr, e⟩
    have e := dB_iff.mp e
    rcases List.mem_append.mp hr with h | h
    · obtain ⟨r0, h0, rfl⟩ := List.mem_map.mp h
      obtain ⟨i, hi, e2⟩ := List.mem_iff_getElem.mp h0
      refine .inl ⟨i, by omega, ?_⟩
      rw [← hs.krow (by omega), hs.rowE (by omega), List.getD_eq_getElem?_getD, List.getElem?_eq_getElem hi]
      show ¬ (kp t[i]).Nodup
      rw [e2]
      exact e
    · obtain ⟨j, hj, rfl⟩ := List.mem_map.mp h
      have hj := List.mem_range.mp hj
      exact .inr ⟨j, hj, by rw [← hs.kcol hj]; exact e⟩
  · rintro (⟨i, hi, e⟩ | ⟨j, hj, e⟩)
    · rw [← hs.krow hi, hs.rowE hi] at e
      exact ⟨_, List.mem_append_left _ (List.mem_map.mpr ⟨_, getD_mem (by omega), rfl⟩), dB_iff.mpr e⟩
    · rw [← hs.kcol hj] at e
      exact ⟨_, List.mem_append_right _ (List.mem_map.mpr ⟨j, List.mem_range.mpr hj, rfl⟩), dB_iff.mpr e⟩)
theorem lc_intro {it : QI} {g : QG} {tt : QT} {te : QE} {own : List Nat} {loc : PL.Loc} {S : Sto} {P : PD} {E : PX} (h : it loc S (fun src S1 => ∀ p, S1 p = none → ∃ V : Nat → List D → Sto → Prop, V 0 [] (ups S1 p (.lst [])) ∧
  (∀ i d acc S, src.items[i]? = some d → V i acc S → src.ok S ∧ g d (wipeD loc own) S (fun loc' S' => tt loc' S' (fun b S2 => if b = true then
    te loc' S2 (fun y S3 => S3 p = some (.lst acc) ∧ acc.length < sizeLine ∧ V (i + 1) (acc ++ [y]) (ups S3 p (.lst (acc ++ [y])))) fun _ _ => False else V (i + 1) acc S2) fun _ _ => False) fun _ _ => False) ∧
  ∀ acc S, V src.items.length acc S → src.ok S ∧ P (.ref p) S) E) : qLc it g tt te own loc S P E := h
theorem p__law_breaks : ∀ ds S Q E, sp__law_breaks ad ds S Q E → r__law_breaks ad (endsF Q E) (startD N__law_breaks ds) S := by
  rintro ds S Q E ⟨t, m, w, rfl, hs, hw, q⟩
  have hle := hs.le
  have hlen := hs.len
  simp only [r__law_breaks, sp__law_turn, sp_turned_pair, sSeq, sNext, sBreak, sCont, sDrop, sRet, sRetN, sIf, sSet, sPar, sAsg, sRaise, gN, gE, gC, gU, gS, qVar, qC, qBin, qTB, qChain, qNot, qAnd, qOr, bd_bl, qNotT, qAndT, qOrT, qTru, tru_non, tru_bl, tru_int, tru_str, tru_tup, tru_rol, tru_ref, qIf, qNil, qCons, qTup, qLst, qCB, cInt_i, cInt2_ii, cToInt_i, cToInt_b, cLen_s, cLen_t, cLen_r, cLen_l, cTuple_t, cTuple_r, cTuple_l, cList_t, cList_r, cList_l, qNeg, oI_ii, oAdd_ii, oSub, oMul, oDiv, oMod, oPow, oEq, oNe, oEqW_ii, oEqW_ss, oEqW_bb, oLt, oLe, oGt, oGe, oOrd_ii, oOrd_ss, oIx_t, oIx_r, oIx_l, oIx_s, qNo, qPart, qSl, oSl_t, oSl_r, oSl_l, oSl_s, qMeth, mAppend_1, iSeq, iRange1, iRange2, qCall, endsF, startD, List.map_cons, List.map_nil, List.length_cons, List.length_nil, List.length_map, List.cons_append, List.nil_append, List.replicate, List.getElem?_cons_zero, List.getElem?_cons_succ, List.set_cons_zero, List.set_cons_succ, Nat.reduceAdd, Nat.reduceSub, if_true, if_false, id, ups_same, ex_lst, ex_lst2, ex_some, atI_0, atI_1, atI_2, atI_3, ixN_0, ixN_1, ixN_21, oIx_p]
  unfold tD
  simp only [sSeq, sNext, sBreak, sCont, sDrop, sRet, sRetN, sIf, sSet, sPar, sAsg, sRaise, gN, gE, gC, gU, gS, qVar, qC, qBin, qTB, qChain, qNot, qAnd, qOr, bd_bl, qNotT, qAndT, qOrT, qTru, tru_non, tru_bl, tru_int, tru_str, tru_tup, tru_rol, tru_ref, qIf, qNil, qCons, qTup, qLst, qCB, cInt_i, cInt2_ii, cToInt_i, cToInt_b, cLen_s, cLen_t, cLen_r, cLen_l, cTuple_t, cTuple_r, cTuple_l, cList_t, cList_r, cList_l, qNeg, oI_ii, oAdd_ii, oSub, oMul, oDiv, oMod, oPow, oEq, oNe, oEqW_ii, oEqW_ss, oEqW_bb, oLt, oLe, oGt, oGe, oOrd_ii, oOrd_ss, oIx_t, oIx_r, oIx_l, oIx_s, qNo, qPart, qSl, oSl_t, oSl_r, oSl_l, oSl_s, qMeth, mAppend_1, iSeq, iRange1, iRange2, qCall, endsF, startD, List.map_cons, List.map_nil, List.length_cons, List.length_nil, List.length_map, List.cons_append, List.nil_append, List.replicate, List.getElem?_cons_zero, List.getElem?_cons_succ, List.set_cons_zero, List.set_cons_succ, Nat.reduceAdd, Nat.reduceSub, if_true, if_false, id, ups_same, ex_lst, ex_lst2, ex_some, atI_0, atI_1, atI_2, atI_3, ixN_0, ixN_1, ixN_21, oIx_p]
  rw [hlen]
  unfold B at q
  by_cases h1 : w = "latin"
  · rw [if_pos h1] at q
    refine ifT (decide_eq_true h1) ?_
    refine lc_intro ?_
    simp only [sSeq, sNext, sBreak, sCont, sDrop, sRet, sRetN, sIf, sSet, sPar, sAsg, sRaise, gN, gE, gC, gU, gS, qVar, qC, qBin, qTB, qChain, qNot, qAnd, qOr, bd_bl, qNotT, qAndT, qOrT, qTru, tru_non, tru_bl, tru_int, tru_str, tru_tup, tru_rol, tru_ref, qIf, qNil, qCons, qTup, qLst, qCB, cInt_i, cInt2_ii, cToInt_i, cToInt_b, cLen_s, cLen_t, cLen_r, cLen_l, cTuple_t, cTuple_r, cTuple_l, cList_t, cList_r, cList_l, qNeg, oI_ii, oAdd_ii, oSub, oMul, oDiv, oMod, oPow, oEq, oNe, oEqW_ii, oEqW_ss, oEqW_bb, oLt, oLe, oGt, oGe, oOrd_ii, oOrd_ss, oIx_t, oIx_r, oIx_l, oIx_s, qNo, qPart, qSl, oSl_t, oSl_r, oSl_l, oSl_s, qMeth, mAppend_1, iSeq, iRange1, iRange2, qCall, endsF, startD, List.map_cons, List.map_nil, List.length_cons, List.length_nil, List.length_map, List.cons_append, List.nil_append, List.replicate, List.getElem?_cons_zero, List.getElem?_cons_succ, List.set_cons_zero, List.set_cons_succ, Nat.reduceAdd, Nat.reduceSub, if_true, if_false, id, ups_same, ex_lst, ex_lst2, ex_some, atI_0, atI_1, atI_2, atI_3, ixN_0, ixN_1, ixN_21, oIx_p]
    intro p hp
    refine ⟨fun i acc S' => Sub S S' ∧ S' p = some (.lst acc) ∧ i ≤ m ∧ Refs p S' acc ((t.take i).map kp), ⟨(Sub.refl S).new hp, ups_same, Nat.zero_le _, by simp [Refs]⟩, ?_, ?_⟩
    · rintro i d acc S' hi ⟨sub, hacc, him, hR⟩
      refine ⟨trivial, ?_⟩
      obtain ⟨r, hi0, rfl⟩ := get_emb (show (t.map rD)[i]? = some d from hi)
      have hil := (List.getElem?_eq_some_iff.mp hi0).1
      have hrm := hs.row r (List.mem_of_getElem? hi0)
      simp only [wipeD, rD, qYes, sSeq, sNext, sBreak, sCont, sDrop, sRet, sRetN, sIf, sSet, sPar, sAsg, sRaise, gN, gE, gC, gU, gS, qVar, qC, qBin, qTB, qChain, qNot, qAnd, qOr, bd_bl, qNotT, qAndT, qOrT, qTru, tru_non, tru_bl, tru_int, tru_str, tru_tup, tru_rol, tru_ref, qIf, qNil, qCons, qTup, qLst, qCB, cInt_i, cInt2_ii, cToInt_i, cToInt_b, cLen_s, cLen_t, cLen_r, cLen_l, cTuple_t, cTuple_r, cTuple_l, cList_t, cList_r, cList_l, qNeg, oI_ii, oAdd_ii, oSub, oMul, oDiv, oMod, oPow, oEq, oNe, oEqW_ii, oEqW_ss, oEqW_bb, oLt, oLe, oGt, oGe, oOrd_ii, oOrd_ss, oIx_t, oIx_r, oIx_l, oIx_s, qNo, qPart, qSl, oSl_t, oSl_r, oSl_l, oSl_s, qMeth, mAppend_1, iSeq, iRange1, iRange2, qCall, endsF, startD, List.map_cons, List.map_nil, List.length_cons, List.length_nil, List.length_map, List.cons_append, List.nil_append, List.replicate, List.getElem?_cons_zero, List.getElem?_cons_succ, List.set_cons_zero, List.set_cons_succ, Nat.reduceAdd, Nat.reduceSub, if_true, if_false, id, ups_same, ex_lst, ex_lst2, ex_some, atI_0, atI_1, atI_2, atI_3, ixN_0, ixN_1, ixN_21, oIx_p]
      refine lc_filtT (.vals (r.map D.int)) r D.int (fun x => decide (0 ≤ x)) D.int (fun Q q => by simp only [sSeq, sNext, sBreak, sCont, sDrop, sRet, sRetN, sIf, sSet, sPar, sAsg, sRaise, gN, gE, gC, gU, gS, qVar, qC, qBin, qTB, qChain, qNot, qAnd, qOr, bd_bl, qNotT, qAndT, qOrT, qTru, tru_non, tru_bl, tru_int, tru_str, tru_tup, tru_rol, tru_ref, qIf, qNil, qCons, qTup, qLst, qCB, cInt_i, cInt2_ii, cToInt_i, cToInt_b, cLen_s, cLen_t, cLen_r, cLen_l, cTuple_t, cTuple_r, cTuple_l, cList_t, cList_r, cList_l, qNeg, oI_ii, oAdd_ii, oSub, oMul, oDiv, oMod, oPow, oEq, oNe, oEqW_ii, oEqW_ss, oEqW_bb, oLt, oLe, oGt, oGe, oOrd_ii, oOrd_ss, oIx_t, oIx_r, oIx_l, oIx_s, qNo, qPart, qSl, oSl_t, oSl_r, oSl_l, oSl_s, qMeth, mAppend_1, iSeq, iRange1, iRange2, qCall, endsF, startD, List.map_cons, List.map_nil, List.length_cons, List.length_nil, List.length_map, List.cons_append, List.nil_append, List.replicate, List.getElem?_cons_zero, List.getElem?_cons_succ, List.set_cons_zero, List.set_cons_succ, Nat.reduceAdd, Nat.reduceSub, if_true, if_false, id, ups_same, ex_lst, ex_lst2, ex_some, atI_0, atI_1, atI_2, atI_3, ixN_0, ixN_1, ixN_21, oIx_p]; exact q) ok_vals rfl (by omega) ?_ ?_
      · intro x S2 C hx sub2 hC
        simp only [wipeD, sSeq, sNext, sBreak, sCont, sDrop, sRet, sRetN, sIf, sSet, sPar, sAsg, sRaise, gN, gE, gC, gU, gS, qVar, qC, qBin, qTB, qChain, qNot, qAnd, qOr, bd_bl, qNotT, qAndT, qOrT, qTru, tru_non, tru_bl, tru_int, tru_str, tru_tup, tru_rol, tru_ref, qIf, qNil, qCons, qTup, qLst, qCB, cInt_i, cInt2_ii, cToInt_i, cToInt_b, cLen_s, cLen_t, cLen_r, cLen_l, cTuple_t, cTuple_r, cTuple_l, cList_t, cList_r, cList_l, qNeg, oI_ii, oAdd_ii, oSub, oMul, oDiv, oMod, oPow, oEq, oNe, oEqW_ii, oEqW_ss, oEqW_bb, oLt, oLe, oGt, oGe, oOrd_ii, oOrd_ss, oIx_t, oIx_r, oIx_l, oIx_s, qNo, qPart, qSl, oSl_t, oSl_r, oSl_l, oSl_s, qMeth, mAppend_1, iSeq, iRange1, iRange2, qCall, endsF, startD, List.map_cons, List.map_nil, List.length_cons, List.length_nil, List.length_map, List.cons_append, List.nil_append, List.replicate, List.getElem?_cons_zero, List.getElem?_cons_succ, List.set_cons_zero, List.set_cons_succ, Nat.reduceAdd, Nat.reduceSub, if_true, if_false, id, ups_same, ex_lst, ex_lst2, ex_some, atI_0, atI_1, atI_2, atI_3, ixN_0, ixN_1, ixN_21, oIx_p]
        have := hC S2 (Sub.refl _)
        by_cases h : 0 ≤ x
        · refine ifT (by simp [h]) ?_
          simpa [h] using this
        · refine ifF (by simp [h]) ?_
          simpa [h] using this
      · intro a S2 ha sub2 e
        have hap : a ≠ p := fun z => by
          rw [z, hacc] at ha
          cases ha
        refine ⟨sub2 _ _ hacc, szB (by rw [hR.1, List.length_map, List.length_take]; omega), (sub.trans sub2).at hp, trivial, by omega, ?_⟩
        have := hR.snoc (o := .lst (acc ++ [.ref a])) sub2 hap (r := kp r) e
        rw [List.take_succ, hi0, List.map_append]
        exact this
    · rintro acc S1 ⟨sub, hacc, _, hR⟩
      refine ⟨trivial, ?_⟩
      have hR : Refs p S1 acc (t.map kp) := by
        have e : (Src.vals (t.map rD)).items.length = t.length := by simp [Src.items]
        rw [e, List.take_length] at hR
        exact hR
      have hal : acc.length = m := by rw [hR.1, List.length_map, hlen]
      unfold sFor
      simp only [sSeq, sNext, sBreak, sCont, sDrop, sRet, sRetN, sIf, sSet, sPar, sAsg, sRaise, gN, gE, gC, gU, gS, qVar, qC, qBin, qTB, qChain, qNot, qAnd, qOr, bd_bl, qNotT, qAndT, qOrT, qTru, tru_non, tru_bl, tru_int, tru_str, tru_tup, tru_rol, tru_ref, qIf, qNil, qCons, qTup, qLst, qCB, cInt_i, cInt2_ii, cToInt_i, cToInt_b, cLen_s, cLen_t, cLen_r, cLen_l, cTuple_t, cTuple_r, cTuple_l, cList_t, cList_r, cList_l, qNeg, oI_ii, oAdd_ii, oSub, oMul, oDiv, oMod, oPow, oEq, oNe, oEqW_ii, oEqW_ss, oEqW_bb, oLt, oLe, oGt, oGe, oOrd_ii, oOrd_ss, oIx_t, oIx_r, oIx_l, oIx_s, qNo, qPart, qSl, oSl_t, oSl_r, oSl_l, oSl_s, qMeth, mAppend_1, iSeq, iRange1, iRange2, qCall, endsF, startD, List.map_cons, List.map_nil, List.length_cons, List.length_nil, List.length_map, List.cons_append, List.nil_append, List.replicate, List.getElem?_cons_zero, List.getElem?_cons_succ, List.set_cons_zero, List.set_cons_succ, Nat.reduceAdd, Nat.reduceSub, if_true, if_false, id, ups_same, ex_lst, ex_lst2, ex_some, atI_0, atI_1, atI_2, atI_3, ixN_0, ixN_1, ixN_21, oIx_p]
      refine ⟨by omega, by omega, fun i loc S' => (∃ z4, loc = [some (.tup (t.map rD)), some (.str w), some (.int m), some (.ref p), z4, none, none, none, none, none, none]) ∧ Sub S S' ∧ ∃ acc, S' p = some (.lst acc) ∧ Refs p S' acc (t.map kp ++ (List.range i).map fun j => kp (K35.col t m j)), ⟨⟨_, rfl⟩, sub, acc, hacc, by simpa using hR⟩, ?_, ?_⟩
      · rintro j d _ S' hj ⟨⟨z4, rfl⟩, sub1, acc1, hacc1, hR1⟩
        obtain ⟨hj1, rfl⟩ := rangeD_get hj
        have hjm : j < m := by omega
        refine ⟨trivial, ?_⟩
        rw [Int.zero_add]
        have hal1 : acc1.length = m + j := by rw [hR1.1, List.length_append, List.length_map, List.length_map, List.length_range, hlen]
        simp only [r__law_breaks_b2, sSeq, sNext, sBreak, sCont, sDrop, sRet, sRetN, sIf, sSet, sPar, sAsg, sRaise, gN, gE, gC, gU, gS, qVar, qC, qBin, qTB, qChain, qNot, qAnd, qOr, bd_bl, qNotT, qAndT, qOrT, qTru, tru_non, tru_bl, tru_int, tru_str, tru_tup, tru_rol, tru_ref, qIf, qNil, qCons, qTup, qLst, qCB, cInt_i, cInt2_ii, cToInt_i, cToInt_b, cLen_s, cLen_t, cLen_r, cLen_l, cTuple_t, cTuple_r, cTuple_l, cList_t, cList_r, cList_l, qNeg, oI_ii, oAdd_ii, oSub, oMul, oDiv, oMod, oPow, oEq, oNe, oEqW_ii, oEqW_ss, oEqW_bb, oLt, oLe, oGt, oGe, oOrd_ii, oOrd_ss, oIx_t, oIx_r, oIx_l, oIx_s, qNo, qPart, qSl, oSl_t, oSl_r, oSl_l, oSl_s, qMeth, mAppend_1, iSeq, iRange1, iRange2, qCall, endsF, startD, List.map_cons, List.map_nil, List.length_cons, List.length_nil, List.length_map, List.cons_append, List.nil_append, List.replicate, List.getElem?_cons_zero, List.getElem?_cons_succ, List.set_cons_zero, List.set_cons_succ, Nat.reduceAdd, Nat.reduceSub, if_true, if_false, id, ups_same, ex_lst, ex_lst2, ex_some, atI_0, atI_1, atI_2, atI_3, ixN_0, ixN_1, ixN_21, oIx_p]
        refine ⟨⟨_, hacc1⟩, ?_⟩
        refine lc_filtT (.vals (rangeD 0 (m : Int).toNat)) (List.range m) (fun (i : Nat) => D.int i) (fun i => decide (0 ≤ c t i j)) (fun i => .int (c t i j)) (fun Q q => by simp only [sSeq, sNext, sBreak, sCont, sDrop, sRet, sRetN, sIf, sSet, sPar, sAsg, sRaise, gN, gE, gC, gU, gS, qVar, qC, qBin, qTB, qChain, qNot, qAnd, qOr, bd_bl, qNotT, qAndT, qOrT, qTru, tru_non, tru_bl, tru_int, tru_str, tru_tup, tru_rol, tru_ref, qIf, qNil, qCons, qTup, qLst, qCB, cInt_i, cInt2_ii, cToInt_i, cToInt_b, cLen_s, cLen_t, cLen_r, cLen_l, cTuple_t, cTuple_r, cTuple_l, cList_t, cList_r, cList_l, qNeg, oI_ii, oAdd_ii, oSub, oMul, oDiv, oMod, oPow, oEq, oNe, oEqW_ii, oEqW_ss, oEqW_bb, oLt, oLe, oGt, oGe, oOrd_ii, oOrd_ss, oIx_t, oIx_r, oIx_l, oIx_s, qNo, qPart, qSl, oSl_t, oSl_r, oSl_l, oSl_s, qMeth, mAppend_1, iSeq, iRange1, iRange2, qCall, endsF, startD, List.map_cons, List.map_nil, List.length_cons, List.length_nil, List.length_map, List.cons_append, List.nil_append, List.replicate, List.getElem?_cons_zero, List.getElem?_cons_succ, List.set_cons_zero, List.set_cons_succ, Nat.reduceAdd, Nat.reduceSub, if_true, if_false, id, ups_same, ex_lst, ex_lst2, ex_some, atI_0, atI_1, atI_2, atI_3, ixN_0, ixN_1, ixN_21, oIx_p]; exact ⟨by omega, by omega, q⟩) ok_vals rangeD_0 (by simp; omega) ?_ ?_
        · intro i S2 C hi sub2 hC
          have hi := List.mem_range.mp hi
          simp only [wipeD, sSeq, sNext, sBreak, sCont, sDrop, sRet, sRetN, sIf, sSet, sPar, sAsg, sRaise, gN, gE, gC, gU, gS, qVar, qC, qBin, qTB, qChain, qNot, qAnd, qOr, bd_bl, qNotT, qAndT, qOrT, qTru, tru_non, tru_bl, tru_int, tru_str, tru_tup, tru_rol, tru_ref, qIf, qNil, qCons, qTup, qLst, qCB, cInt_i, cInt2_ii, cToInt_i, cToInt_b, cLen_s, cLen_t, cLen_r, cLen_l, cTuple_t, cTuple_r, cTuple_l, cList_t, cList_r, cList_l, qNeg, oI_ii, oAdd_ii, oSub, oMul, oDiv, oMod, oPow, oEq, oNe, oEqW_ii, oEqW_ss, oEqW_bb, oLt, oLe, oGt, oGe, oOrd_ii, oOrd_ss, oIx_t, oIx_r, oIx_l, oIx_s, qNo, qPart, qSl, oSl_t, oSl_r, oSl_l, oSl_s, qMeth, mAppend_1, iSeq, iRange1, iRange2, qCall, endsF, startD, List.map_cons, List.map_nil, List.length_cons, List.length_nil, List.length_map, List.cons_append, List.nil_append, List.replicate, List.getElem?_cons_zero, List.getElem?_cons_succ, List.set_cons_zero, List.set_cons_succ, Nat.reduceAdd, Nat.reduceSub, if_true, if_false, id, ups_same, ex_lst, ex_lst2, ex_some, atI_0, atI_1, atI_2, atI_3, ixN_0, ixN_1, ixN_21, oIx_p, hs.atr hi, rD, hs.atc hi hjm]
          have := hC S2 (Sub.refl _)
          by_cases h : 0 ≤ c t i j
          · refine ifT (by simp [h]) ?_
            simpa [h] using this
          · refine ifF (by simp [h]) ?_
            simpa [h] using this
        · intro a S2 ha sub2 e
          have hap : a ≠ p := fun z => by
            rw [z, hacc1] at ha
            cases ha
          refine ⟨acc1, sub2 _ _ hacc1, szB (by omega), ⟨_, rfl⟩, (sub1.trans sub2).at hp, ?_⟩
          rw [filter_cells] at e
          have := hR1.snoc (o := .lst (acc1 ++ [.ref a])) sub2 hap e
          rw [List.range_succ, List.map_append, ← List.append_assoc]
          exact this
      · rintro _ S' ⟨⟨z4, rfl⟩, sub1, acc1, hacc1, hR1⟩
        refine ⟨trivial, ?_⟩
        have e0 : (Src.vals (rangeD 0 (m : Int).toNat)).items.length = m := by
          have := rangeD_len (lo := 0) (n := (m : Int).toNat)
          rw [Int.toNat_natCast] at this
          exact this
        rw [e0] at hR1
        have hal1 : acc1.length = m + m := by rw [hR1.1, List.length_append, List.length_map, List.length_map, List.length_range, hlen]
        have eitems : (Src.live p acc1).items.length = (t.map kp ++ (List.range m).map fun j => kp (K35.col t m j)).length := hR1.1
        refine lc_go (.live p acc1) (fun i => (t.map kp ++ (List.range m).map fun j => kp (K35.col t m j))[i]?.map fun r => .bl (dB (¬ r.Nodup))) (fun Q q => by simp only [sSeq, sNext, sBreak, sCont, sDrop, sRet, sRetN, sIf, sSet, sPar, sAsg, sRaise, gN, gE, gC, gU, gS, qVar, qC, qBin, qTB, qChain, qNot, qAnd, qOr, bd_bl, qNotT, qAndT, qOrT, qTru, tru_non, tru_bl, tru_int, tru_str, tru_tup, tru_rol, tru_ref, qIf, qNil, qCons, qTup, qLst, qCB, cInt_i, cInt2_ii, cToInt_i, cToInt_b, cLen_s, cLen_t, cLen_r, cLen_l, cTuple_t, cTuple_r, cTuple_l, cList_t, cList_r, cList_l, qNeg, oI_ii, oAdd_ii, oSub, oMul, oDiv, oMod, oPow, oEq, oNe, oEqW_ii, oEqW_ss, oEqW_bb, oLt, oLe, oGt, oGe, oOrd_ii, oOrd_ss, oIx_t, oIx_r, oIx_l, oIx_s, qNo, qPart, qSl, oSl_t, oSl_r, oSl_l, oSl_s, qMeth, mAppend_1, iSeq, iRange1, iRange2, qCall, endsF, startD, List.map_cons, List.map_nil, List.length_cons, List.length_nil, List.length_map, List.cons_append, List.nil_append, List.replicate, List.getElem?_cons_zero, List.getElem?_cons_succ, List.set_cons_zero, List.set_cons_succ, Nat.reduceAdd, Nat.reduceSub, if_true, if_false, id, ups_same, ex_lst, ex_lst2, ex_some, atI_0, atI_1, atI_2, atI_3, ixN_0, ixN_1, ixN_21, oIx_p]; exact ⟨_, hacc1, q⟩) (ok_live hacc1) (by show acc1.length ≤ _; omega) ?_ ?_
        · intro i d S2 C hi sub2 hC
          have hi1 : i < acc1.length := (List.getElem?_eq_some_iff.mp hi).1
          have hi2 : i < (t.map kp ++ (List.range m).map fun j => kp (K35.col t m j)).length := by rw [← hR1.1]; exact hi1
          obtain ⟨a, h1, h2, h3⟩ := hR1.2 i _ (List.getElem?_eq_getElem hi2)
          have hi3 : acc1[i]? = some d := hi
          rw [h2] at hi3
          obtain rfl := Option.some.inj hi3
          rw [List.getElem?_eq_getElem hi2] at hC
          have hr4 : (t.map kp ++ (List.range m).map fun j => kp (K35.col t m j))[i].length ≤ 12 := by
            have hm := List.getElem_mem hi2
            rcases List.mem_append.mp hm with h | h
            · obtain ⟨r0, h0, e⟩ := List.mem_map.mp h
              rw [← e]
              have := hs.row r0 h0
              have h9 : (kp r0).length ≤ r0.length := List.length_filter_le ..
              omega
            · obtain ⟨j, h0, e⟩ := List.mem_map.mp h
              rw [← e]
              have h9 : (kp (K35.col t m j)).length ≤ (K35.col t m j).length := List.length_filter_le ..
              have h8 : (K35.col t m j).length = m := by simp [K35.col]
              omega
          generalize (t.map kp ++ (List.range m).map fun j => kp (K35.col t m j))[i] = r at h3 hC hr4
          simp only [wipeD, qYes, qLenSet, sSeq, sNext, sBreak, sCont, sDrop, sRet, sRetN, sIf, sSet, sPar, sAsg, sRaise, gN, gE, gC, gU, gS, qVar, qC, qBin, qTB, qChain, qNot, qAnd, qOr, bd_bl, qNotT, qAndT, qOrT, qTru, tru_non, tru_bl, tru_int, tru_str, tru_tup, tru_rol, tru_ref, qIf, qNil, qCons, qTup, qLst, qCB, cInt_i, cInt2_ii, cToInt_i, cToInt_b, cLen_s, cLen_t, cLen_r, cLen_l, cTuple_t, cTuple_r, cTuple_l, cList_t, cList_r, cList_l, qNeg, oI_ii, oAdd_ii, oSub, oMul, oDiv, oMod, oPow, oEq, oNe, oEqW_ii, oEqW_ss, oEqW_bb, oLt, oLe, oGt, oGe, oOrd_ii, oOrd_ss, oIx_t, oIx_r, oIx_l, oIx_s, qNo, qPart, qSl, oSl_t, oSl_r, oSl_l, oSl_s, qMeth, mAppend_1, iSeq, iRange1, iRange2, qCall, endsF, startD, List.map_cons, List.map_nil, List.length_cons, List.length_nil, List.length_map, List.cons_append, List.nil_append, List.replicate, List.getElem?_cons_zero, List.getElem?_cons_succ, List.set_cons_zero, List.set_cons_succ, Nat.reduceAdd, Nat.reduceSub, if_true, if_false, id, ups_same, ex_lst, ex_lst2, ex_some, atI_0, atI_1, atI_2, atI_3, ixN_0, ixN_1, ixN_21, oIx_p]
          refine .inl ⟨r, .inl (.inr ⟨a, rfl, sub2 _ _ h3⟩), by omega, _, sub2 _ _ h3, ?_⟩
          rw [List.length_map]
          have e : decide (((ded r).length : Int) < r.length) = dB (¬ r.Nodup) := dB_of (by rw [decide_eq_true_eq]; exact ded_lt r)
          rw [e]
          exact hC _ S2 rfl (Sub.refl _)
        · intro p2 S2 hp2 sub2 e
          refine ⟨_, ((t.map kp ++ (List.range m).map fun j => kp (K35.col t m j)).map fun r => dB (¬ r.Nodup)), rfl, .inr ⟨p2, rfl, ?_⟩, S, sub1.trans sub2, ?_⟩
          · rw [e, eitems, fm_map, List.map_map]
            rfl
          · show Q (.bl (List.any _ id)) S
            rw [lat_any hs]
            exact q
  · rw [if_neg h1] at q
    refine ifF (decide_eq_false h1) ?_
    by_cases h2 : w = "zero"
    · rw [if_pos h2] at q
      refine ifT (decide_eq_true h2) ?_
      refine lc_boolsT (.vals (rangeD 0 (m : Int).toNat)) (List.range m) (fun (i : Nat) => D.int i) (fun k => decide (0 < c t k k)) (fun Q q => by simp only [sSeq, sNext, sBreak, sCont, sDrop, sRet, sRetN, sIf, sSet, sPar, sAsg, sRaise, gN, gE, gC, gU, gS, qVar, qC, qBin, qTB, qChain, qNot, qAnd, qOr, bd_bl, qNotT, qAndT, qOrT, qTru, tru_non, tru_bl, tru_int, tru_str, tru_tup, tru_rol, tru_ref, qIf, qNil, qCons, qTup, qLst, qCB, cInt_i, cInt2_ii, cToInt_i, cToInt_b, cLen_s, cLen_t, cLen_r, cLen_l, cTuple_t, cTuple_r, cTuple_l, cList_t, cList_r, cList_l, qNeg, oI_ii, oAdd_ii, oSub, oMul, oDiv, oMod, oPow, oEq, oNe, oEqW_ii, oEqW_ss, oEqW_bb, oLt, oLe, oGt, oGe, oOrd_ii, oOrd_ss, oIx_t, oIx_r, oIx_l, oIx_s, qNo, qPart, qSl, oSl_t, oSl_r, oSl_l, oSl_s, qMeth, mAppend_1, iSeq, iRange1, iRange2, qCall, endsF, startD, List.map_cons, List.map_nil, List.length_cons, List.length_nil, List.length_map, List.cons_append, List.nil_append, List.replicate, List.getElem?_cons_zero, List.getElem?_cons_succ, List.set_cons_zero, List.set_cons_succ, Nat.reduceAdd, Nat.reduceSub, if_true, if_false, id, ups_same, ex_lst, ex_lst2, ex_some, atI_0, atI_1, atI_2, atI_3, ixN_0, ixN_1, ixN_21, oIx_p]; exact ⟨by omega, by omega, q⟩) ok_vals rangeD_0 (by simp; omega) ?_ ?_
      · intro i S3 C3 hi sub3 hC3
        have hi := List.mem_range.mp hi
        simp only [wipeD, sSeq, sNext, sBreak, sCont, sDrop, sRet, sRetN, sIf, sSet, sPar, sAsg, sRaise, gN, gE, gC, gU, gS, qVar, qC, qBin, qTB, qChain, qNot, qAnd, qOr, bd_bl, qNotT, qAndT, qOrT, qTru, tru_non, tru_bl, tru_int, tru_str, tru_tup, tru_rol, tru_ref, qIf, qNil, qCons, qTup, qLst, qCB, cInt_i, cInt2_ii, cToInt_i, cToInt_b, cLen_s, cLen_t, cLen_r, cLen_l, cTuple_t, cTuple_r, cTuple_l, cList_t, cList_r, cList_l, qNeg, oI_ii, oAdd_ii, oSub, oMul, oDiv, oMod, oPow, oEq, oNe, oEqW_ii, oEqW_ss, oEqW_bb, oLt, oLe, oGt, oGe, oOrd_ii, oOrd_ss, oIx_t, oIx_r, oIx_l, oIx_s, qNo, qPart, qSl, oSl_t, oSl_r, oSl_l, oSl_s, qMeth, mAppend_1, iSeq, iRange1, iRange2, qCall, endsF, startD, List.map_cons, List.map_nil, List.length_cons, List.length_nil, List.length_map, List.cons_append, List.nil_append, List.replicate, List.getElem?_cons_zero, List.getElem?_cons_succ, List.set_cons_zero, List.set_cons_succ, Nat.reduceAdd, Nat.reduceSub, if_true, if_false, id, ups_same, ex_lst, ex_lst2, ex_some, atI_0, atI_1, atI_2, atI_3, ixN_0, ixN_1, ixN_21, oIx_p, hs.atr hi, rD, hs.atc hi hi]
        exact hC3 S3 (Sub.refl _)
      · intro p2 S2 hp2 sub2 hL2
        refine ⟨_, _, rfl, hL2, S, sub2, ?_⟩
        rw [← dB_of (b := ((List.range m).map fun k => decide (0 < c t k k)).any id) (p := BZero t m) ?_] at q
        · exact q
        · rw [List.any_map, List.any_eq_true]
          exact ⟨fun ⟨k, hk, e⟩ => ⟨k, List.mem_range.mp hk, of_decide_eq_true e⟩, fun ⟨k, hk, e⟩ => ⟨k, List.mem_range.mpr hk, decide_eq_true e⟩⟩
    · rw [if_neg h2] at q
      refine ifF (decide_eq_false h2) ?_
      by_cases h3 : w = "commuting"
      · rw [if_pos h3] at q
        refine ifT (decide_eq_true h3) ?_
        refine search 0 m (fun Q q => by simp only [sSeq, sNext, sBreak, sCont, sDrop, sRet, sRetN, sIf, sSet, sPar, sAsg, sRaise, gN, gE, gC, gU, gS, qVar, qC, qBin, qTB, qChain, qNot, qAnd, qOr, bd_bl, qNotT, qAndT, qOrT, qTru, tru_non, tru_bl, tru_int, tru_str, tru_tup, tru_rol, tru_ref, qIf, qNil, qCons, qTup, qLst, qCB, cInt_i, cInt2_ii, cToInt_i, cToInt_b, cLen_s, cLen_t, cLen_r, cLen_l, cTuple_t, cTuple_r, cTuple_l, cList_t, cList_r, cList_l, qNeg, oI_ii, oAdd_ii, oSub, oMul, oDiv, oMod, oPow, oEq, oNe, oEqW_ii, oEqW_ss, oEqW_bb, oLt, oLe, oGt, oGe, oOrd_ii, oOrd_ss, oIx_t, oIx_r, oIx_l, oIx_s, qNo, qPart, qSl, oSl_t, oSl_r, oSl_l, oSl_s, qMeth, mAppend_1, iSeq, iRange1, iRange2, qCall, endsF, startD, List.map_cons, List.map_nil, List.length_cons, List.length_nil, List.length_map, List.cons_append, List.nil_append, List.replicate, List.getElem?_cons_zero, List.getElem?_cons_succ, List.set_cons_zero, List.set_cons_succ, Nat.reduceAdd, Nat.reduceSub, if_true, if_false, id, ups_same, ex_lst, ex_lst2, ex_some, atI_0, atI_1, atI_2, atI_3, ixN_0, ixN_1, ixN_21, oIx_p]; exact ⟨by omega, by omega, q⟩) (fun loc => ∃ z5, loc = [some (.tup (t.map rD)), some (.str w), some (.int m), none, none, z5, none, none, none, none, none]) ⟨_, rfl⟩ (fun a => ∃ b, b < m ∧ b ≠ a ∧ 0 ≤ c t a b ∧ c t a b = c t b a) ?_ ?_
        · rintro a _ S1 P1 ha ⟨z5, rfl⟩ sub1 no1 rt1 nx1
          rw [Nat.zero_add] at nx1 ⊢
          simp only [r__law_breaks_b1, sSeq, sNext, sBreak, sCont, sDrop, sRet, sRetN, sIf, sSet, sPar, sAsg, sRaise, gN, gE, gC, gU, gS, qVar, qC, qBin, qTB, qChain, qNot, qAnd, qOr, bd_bl, qNotT, qAndT, qOrT, qTru, tru_non, tru_bl, tru_int, tru_str, tru_tup, tru_rol, tru_ref, qIf, qNil, qCons, qTup, qLst, qCB, cInt_i, cInt2_ii, cToInt_i, cToInt_b, cLen_s, cLen_t, cLen_r, cLen_l, cTuple_t, cTuple_r, cTuple_l, cList_t, cList_r, cList_l, qNeg, oI_ii, oAdd_ii, oSub, oMul, oDiv, oMod, oPow, oEq, oNe, oEqW_ii, oEqW_ss, oEqW_bb, oLt, oLe, oGt, oGe, oOrd_ii, oOrd_ss, oIx_t, oIx_r, oIx_l, oIx_s, qNo, qPart, qSl, oSl_t, oSl_r, oSl_l, oSl_s, qMeth, mAppend_1, iSeq, iRange1, iRange2, qCall, endsF, startD, List.map_cons, List.map_nil, List.length_cons, List.length_nil, List.length_map, List.cons_append, List.nil_append, List.replicate, List.getElem?_cons_zero, List.getElem?_cons_succ, List.set_cons_zero, List.set_cons_succ, Nat.reduceAdd, Nat.reduceSub, if_true, if_false, id, ups_same, ex_lst, ex_lst2, ex_some, atI_0, atI_1, atI_2, atI_3, ixN_0, ixN_1, ixN_21, oIx_p]
          refine lc_filtT (.vals (rangeD 0 (m : Int).toNat)) (List.range m) (fun (i : Nat) => D.int i) (fun b => !decide ((b : Int) = a)) (fun b => .bl (decide (0 ≤ c t a b) && decide (c t a b = c t b a))) (fun Q q => by simp only [sSeq, sNext, sBreak, sCont, sDrop, sRet, sRetN, sIf, sSet, sPar, sAsg, sRaise, gN, gE, gC, gU, gS, qVar, qC, qBin, qTB, qChain, qNot, qAnd, qOr, bd_bl, qNotT, qAndT, qOrT, qTru, tru_non, tru_bl, tru_int, tru_str, tru_tup, tru_rol, tru_ref, qIf, qNil, qCons, qTup, qLst, qCB, cInt_i, cInt2_ii, cToInt_i, cToInt_b, cLen_s, cLen_t, cLen_r, cLen_l, cTuple_t, cTuple_r, cTuple_l, cList_t, cList_r, cList_l, qNeg, oI_ii, oAdd_ii, oSub, oMul, oDiv, oMod, oPow, oEq, oNe, oEqW_ii, oEqW_ss, oEqW_bb, oLt, oLe, oGt, oGe, oOrd_ii, oOrd_ss, oIx_t, oIx_r, oIx_l, oIx_s, qNo, qPart, qSl, oSl_t, oSl_r, oSl_l, oSl_s, qMeth, mAppend_1, iSeq, iRange1, iRange2, qCall, endsF, startD, List.map_cons, List.map_nil, List.length_cons, List.length_nil, List.length_map, List.cons_append, List.nil_append, List.replicate, List.getElem?_cons_zero, List.getElem?_cons_succ, List.set_cons_zero, List.set_cons_succ, Nat.reduceAdd, Nat.reduceSub, if_true, if_false, id, ups_same, ex_lst, ex_lst2, ex_some, atI_0, atI_1, atI_2, atI_3, ixN_0, ixN_1, ixN_21, oIx_p]; exact ⟨by omega, by omega, q⟩) ok_vals rangeD_0 (by simp; omega) ?_ ?_
          · intro b S2 C hb sub2 hC
            have hb := List.mem_range.mp hb
            simp only [wipeD, sSeq, sNext, sBreak, sCont, sDrop, sRet, sRetN, sIf, sSet, sPar, sAsg, sRaise, gN, gE, gC, gU, gS, qVar, qC, qBin, qTB, qChain, qNot, qAnd, qOr, bd_bl, qNotT, qAndT, qOrT, qTru, tru_non, tru_bl, tru_int, tru_str, tru_tup, tru_rol, tru_ref, qIf, qNil, qCons, qTup, qLst, qCB, cInt_i, cInt2_ii, cToInt_i, cToInt_b, cLen_s, cLen_t, cLen_r, cLen_l, cTuple_t, cTuple_r, cTuple_l, cList_t, cList_r, cList_l, qNeg, oI_ii, oAdd_ii, oSub, oMul, oDiv, oMod, oPow, oEq, oNe, oEqW_ii, oEqW_ss, oEqW_bb, oLt, oLe, oGt, oGe, oOrd_ii, oOrd_ss, oIx_t, oIx_r, oIx_l, oIx_s, qNo, qPart, qSl, oSl_t, oSl_r, oSl_l, oSl_s, qMeth, mAppend_1, iSeq, iRange1, iRange2, qCall, endsF, startD, List.map_cons, List.map_nil, List.length_cons, List.length_nil, List.length_map, List.cons_append, List.nil_append, List.replicate, List.getElem?_cons_zero, List.getElem?_cons_succ, List.set_cons_zero, List.set_cons_succ, Nat.reduceAdd, Nat.reduceSub, if_true, if_false, id, ups_same, ex_lst, ex_lst2, ex_some, atI_0, atI_1, atI_2, atI_3, ixN_0, ixN_1, ixN_21, oIx_p, hs.atr ha, hs.atr hb, rD, hs.atc ha hb, hs.atc hb ha]
            have := hC S2 (Sub.refl _)
            by_cases h : (b : Int) = a
            · refine ifF (by simp [h]) ?_
              simpa [h] using this
            · refine ifT (by simp [h]) ?_
              rw [if_pos (by simp [h])] at this
              by_cases g : 0 ≤ c t a b
              · rw [decide_eq_true g] at this ⊢
                exact this
              · rw [decide_eq_false g] at this ⊢
                exact this
          · intro p2 S2 hp2 sub2 e2
            refine ⟨_, ((List.range m).filter fun b => !decide (((b : Nat) : Int) = a)).map (fun b => decide (0 ≤ c t a b) && decide (c t a b = c t b a)), rfl, .inr ⟨p2, rfl, by rw [e2, List.map_map]; rfl⟩, ?_⟩
            simp only [tru_bl]
            have K : (((List.range m).filter fun b => !decide (((b : Nat) : Int) = a)).map (fun b => decide (0 ≤ c t a b) && decide (c t a b = c t b a))).any id = true ↔ ∃ b, b < m ∧ b ≠ a ∧ 0 ≤ c t a b ∧ c t a b = c t b a := by
              rw [List.any_map, List.any_eq_true]
              constructor
              · rintro ⟨b, hb, e⟩
                obtain ⟨h4, h5⟩ := List.mem_filter.mp hb
                obtain ⟨h6, h7⟩ := Bool.and_eq_true_iff.mp e
                refine ⟨b, List.mem_range.mp h4, fun z => ?_, of_decide_eq_true h6, of_decide_eq_true h7⟩
                rw [z] at h5
                simp at h5
              · rintro ⟨b, hb, hne, h6, h7⟩
                refine ⟨b, List.mem_filter.mpr ⟨List.mem_range.mpr hb, ?_⟩, Bool.and_eq_true_iff.mpr ⟨decide_eq_true h6, decide_eq_true h7⟩⟩
                rw [decide_eq_false (by omega)]
                rfl
            cases c1 : (((List.range m).filter fun b => !decide (((b : Nat) : Int) = a)).map (fun b => decide (0 ≤ c t a b) && decide (c t a b = c t b a))).any id with
            | true =>
              refine ifT rfl ?_
              rw [rt1]
              obtain ⟨b, hb, hne, h6, h7⟩ := K.mp c1
              refine ⟨S, sub1.trans sub2, ?_⟩
              rw [← dB_of (b := true) (p := BCom t m) ⟨fun _ => ?_, fun _ => rfl⟩] at q
              · exact q
              · by_cases hba : b < a
                · exact ⟨a, b, hba, ha, by omega, h7⟩
                · exact ⟨b, a, by omega, hb, by omega, h7.symm⟩
            | false =>
              refine ifF rfl (nx1 _ _ ⟨_, rfl⟩ (sub1.trans sub2) fun z => ?_)
              rw [K.mpr z] at c1
              cases c1
        · rintro _ S1 ⟨z5, rfl⟩ sub1 no
          refine ⟨S, sub1, ?_⟩
          rw [← dB_of (b := false) (p := BCom t m) ⟨fun z => (by cases z), fun ⟨a, b, h4, h5, h6, h7⟩ => ?_⟩] at q
          · exact q
          · have := no a h5
            rw [Nat.zero_add] at this
            have r := (hs.crng h5 (show b < m by omega)).1
            exact absurd ⟨b, by omega, by omega, by omega, h7⟩ this
      · rw [if_neg h3] at q
        refine ifF (decide_eq_false h3) ⟨t, m, rfl, hs, fun r hr => ⟨rfl, S, Sub.refl S, ?_⟩⟩
        show Q (.bl (!isNon (fD r))) S
        rw [first_iff hr]
        exact q
end K35

namespace K35
open PySem PySem.Spec PyProof.Rows L2 PL
variable {ad : Ad} {t : Tb} {m : Nat}
/-- the stream at its place j, all else that stood before still stands -/
structure St (S0 S : Sto) (s n : Addr) (xs : List Int) (j : Int) : Prop where
  st : Strm S s n xs j
  at_ : Sub (stepS S0 s n j) S
  s0 : ∃ o, S0 s = some o
  n0 : ∃ o, S0 n = some o
section
variable {S0 S S' : Sto} {s n p : Addr} {xs : List Int} {j : Int} {o : O}
theorem St.start (h : Strm S s n xs j) : St S S s n xs j := ⟨h, by unfold stepS; rw [ups_id h.st]; exact Sub.refl S, ⟨_, h.st⟩, ⟨_, h.nm⟩⟩
theorem St.step (h : St S0 S s n xs j) {i : Int} (hi : 0 ≤ i) : St S0 (stepS S s n i) s n xs i := ⟨h.st.next hi, by
  have := stepS_sub (s := s) (n := n) (k := i) h.at_
  rw [stepS_stepS] at this
  exact this, h.s0, h.n0⟩
theorem St.sub (h : St S0 S s n xs j) (b : Sub S S') : St S0 S' s n xs j := ⟨h.st.sub b, h.at_.trans b, h.s0, h.n0⟩
theorem St.new (h : St S0 S s n xs j) (hp : S p = none) : St S0 (ups S p o) s n xs j := h.sub ((Sub.refl S).new hp)
theorem St.ns (h : St S0 S s n xs j) (hp : S0 p = none) : p ≠ s := by
  obtain ⟨o, e⟩ := h.s0
  exact Ne.symm (sto_ne e hp)
theorem St.nn (h : St S0 S s n xs j) (hp : S0 p = none) : p ≠ n := by
  obtain ⟨o, e⟩ := h.n0
  exact Ne.symm (sto_ne e hp)
theorem St.set (h : St S0 S s n xs j) (hp : S0 p = none) : St S0 (ups S p o) s n xs j := by
  have h1 := h.ns hp
  have h2 := h.nn hp
  refine ⟨⟨by rw [ups_ne (Ne.symm h1)]; exact h.st.st, by rw [ups_ne (Ne.symm h2)]; exact h.st.nm, h.st.ne, h.st.ok, h.st.k0⟩, h.at_.at ?_, h.s0, h.n0⟩
  rw [stepS_ne h1]
  exact hp
end
theorem erase_map {α β : Type} {f : α → β} : ∀ (l : List α) (i : Nat), (l.map f).eraseIdx i = (l.eraseIdx i).map f
  | [], _ => rfl
  | _ :: _, 0 => rfl
  | x :: l, i + 1 => by
    show f x :: (l.map f).eraseIdx i = f x :: (l.eraseIdx i).map f
    rw [erase_map l i]
theorem get_erase_perm {α : Type} : ∀ (l : List α) (i : Nat) (x : α), l[i]? = some x → (x :: l.eraseIdx i).Perm l
  | [], _, _, h => by cases h
  | y :: l, 0, x, h => by
    obtain rfl := Option.some.inj h
    exact List.Perm.refl _
  | y :: l, i + 1, x, h => by
    have ih := get_erase_perm l i x h
    show (x :: y :: l.eraseIdx i).Perm (y :: l)
    exact (List.Perm.swap y x _).trans (ih.cons y)
theorem four_nd : four.Nodup := by decide +kernel
theorem p__law_wishes : ∀ ds S Q E, sp__law_wishes ad ds S Q E → r__law_wishes ad (endsF Q E) (startD N__law_wishes ds) S := by
  rintro ds S Q E ⟨s, n, xs, k, rfl, h, hk, q⟩
  have hk0 := h.k0
  simp only [r__law_wishes, sp__law_next, sSeq, sNext, sBreak, sCont, sDrop, sRet, sRetN, sIf, sSet, sPar, sAsg, sRaise, gN, gE, gC, gU, gS, qVar, qC, qBin, qTB, qChain, qNot, qAnd, qOr, bd_bl, qNotT, qAndT, qOrT, qTru, tru_non, tru_bl, tru_int, tru_str, tru_tup, tru_rol, tru_ref, qIf, qNil, qCons, qTup, qLst, qCB, cInt_i, cInt2_ii, cToInt_i, cToInt_b, cLen_s, cLen_t, cLen_r, cLen_l, cTuple_t, cTuple_r, cTuple_l, cList_t, cList_r, cList_l, qNeg, oI_ii, oAdd_ii, oSub, oMul, oDiv, oMod, oPow, oEq, oNe, oEqW_ii, oEqW_ss, oEqW_bb, oLt, oLe, oGt, oGe, oOrd_ii, oOrd_ss, oIx_t, oIx_r, oIx_l, oIx_s, qNo, qPart, qSl, oSl_t, oSl_r, oSl_l, oSl_s, qMeth, mAppend_1, iSeq, iRange1, iRange2, qCall, endsF, startD, List.map_cons, List.map_nil, List.length_cons, List.length_nil, List.length_map, List.cons_append, List.nil_append, List.replicate, List.getElem?_cons_zero, List.getElem?_cons_succ, List.set_cons_zero, List.set_cons_succ, Nat.reduceAdd, Nat.reduceSub, if_true, if_false, id, ups_same, ex_lst, ex_lst2, ex_some, atI_0, atI_1, atI_2, atI_3, ixN_0, ixN_1, ixN_21, oIx_p]
  refine ⟨by decide, fun p0 hp0 => ?_⟩
  have I0 := (St.start h).new hp0 (o := .lst [D.str "latin", D.str "zero", D.str "commuting", D.str "turning"])
  refine lc_intro ?_
  simp only [sSeq, sNext, sBreak, sCont, sDrop, sRet, sRetN, sIf, sSet, sPar, sAsg, sRaise, gN, gE, gC, gU, gS, qVar, qC, qBin, qTB, qChain, qNot, qAnd, qOr, bd_bl, qNotT, qAndT, qOrT, qTru, tru_non, tru_bl, tru_int, tru_str, tru_tup, tru_rol, tru_ref, qIf, qNil, qCons, qTup, qLst, qCB, cInt_i, cInt2_ii, cToInt_i, cToInt_b, cLen_s, cLen_t, cLen_r, cLen_l, cTuple_t, cTuple_r, cTuple_l, cList_t, cList_r, cList_l, qNeg, oI_ii, oAdd_ii, oSub, oMul, oDiv, oMod, oPow, oEq, oNe, oEqW_ii, oEqW_ss, oEqW_bb, oLt, oLe, oGt, oGe, oOrd_ii, oOrd_ss, oIx_t, oIx_r, oIx_l, oIx_s, qNo, qPart, qSl, oSl_t, oSl_r, oSl_l, oSl_s, qMeth, mAppend_1, iSeq, iRange1, iRange2, qCall, endsF, startD, List.map_cons, List.map_nil, List.length_cons, List.length_nil, List.length_map, List.cons_append, List.nil_append, List.replicate, List.getElem?_cons_zero, List.getElem?_cons_succ, List.set_cons_zero, List.set_cons_succ, Nat.reduceAdd, Nat.reduceSub, if_true, if_false, id, ups_same, ex_lst, ex_lst2, ex_some, atI_0, atI_1, atI_2, atI_3, ixN_0, ixN_1, ixN_21, oIx_p]
  refine ⟨s, n, xs, k, 5, rfl, I0.st, by omega, by omega, fun r h0 h5 => ⟨by omega, by omega, fun p hp => ?_⟩⟩
  have I1 := I0.step (i := k + 1) (by omega)
  have e0 : stepS (ups S p0 (.lst [D.str "latin", D.str "zero", D.str "commuting", D.str "turning"])) s n (k + 1) p0 = some (.lst (four.map D.str)) := by
    rw [stepS_ne (I0.ns hp0)]
    exact ups_same
  have hpp : p0 ≠ p := sto_ne e0 hp
  have hSp : S p = none := by
    have hps : p ≠ s := Ne.symm (sto_ne I1.st.st hp)
    rw [stepS_ne hps, ups_ne (Ne.symm hpp)] at hp
    exact hp
  refine ⟨fun i acc S' => ∃ (ws rest : List Str), acc = ws.map D.str ∧ ws.length = i ∧ (ws ++ rest).Perm four ∧ S' p0 = some (.lst (rest.map D.str)) ∧ S' p = some (.lst acc) ∧ St S S' s n xs (k + 1 + i), ⟨[], four, rfl, rfl, List.Perm.refl _, by rw [ups_ne hpp]; exact e0, ups_same, by simpa using I1.new hp⟩, ?_, ?_⟩
  · rintro i d acc S' hi ⟨ws, rest, rfl, hw, hpm, e1, e2, I⟩
    obtain ⟨hi1, rfl⟩ := rangeD_get hi
    have hlen := hpm.length_eq
    rw [List.length_append, show four.length = 4 from rfl] at hlen
    refine ⟨trivial, ?_⟩
    simp only [wipeD, qYes, sSeq, sNext, sBreak, sCont, sDrop, sRet, sRetN, sIf, sSet, sPar, sAsg, sRaise, gN, gE, gC, gU, gS, qVar, qC, qBin, qTB, qChain, qNot, qAnd, qOr, bd_bl, qNotT, qAndT, qOrT, qTru, tru_non, tru_bl, tru_int, tru_str, tru_tup, tru_rol, tru_ref, qIf, qNil, qCons, qTup, qLst, qCB, cInt_i, cInt2_ii, cToInt_i, cToInt_b, cLen_s, cLen_t, cLen_r, cLen_l, cTuple_t, cTuple_r, cTuple_l, cList_t, cList_r, cList_l, qNeg, oI_ii, oAdd_ii, oSub, oMul, oDiv, oMod, oPow, oEq, oNe, oEqW_ii, oEqW_ss, oEqW_bb, oLt, oLe, oGt, oGe, oOrd_ii, oOrd_ss, oIx_t, oIx_r, oIx_l, oIx_s, qNo, qPart, qSl, oSl_t, oSl_r, oSl_l, oSl_s, qMeth, mAppend_1, iSeq, iRange1, iRange2, qCall, endsF, startD, List.map_cons, List.map_nil, List.length_cons, List.length_nil, List.length_map, List.cons_append, List.nil_append, List.replicate, List.getElem?_cons_zero, List.getElem?_cons_succ, List.set_cons_zero, List.set_cons_succ, Nat.reduceAdd, Nat.reduceSub, if_true, if_false, id, ups_same, ex_lst, ex_lst2, ex_some, atI_0, atI_1, atI_2, atI_3, ixN_0, ixN_1, ixN_21, oIx_p, e1]
    refine ⟨⟨_, rfl⟩, s, n, xs, _, _, rfl, I.st, by omega, by omega, fun r2 g0 g1 => ⟨rest.map D.str, ?_⟩⟩
    obtain ⟨u, rfl⟩ := Int.eq_ofNat_of_zero_le g0
    have hu : u < rest.length := by omega
    rw [stepS_ne (I.ns hp0)]
    refine ⟨e1, u, u, .str rest[u], rfl, by omega, by omega, ixN_lt (by rw [List.length_map]; exact hu), by rw [List.getElem?_map, List.getElem?_eq_getElem hu]; rfl, ?_⟩
    have e3 : stepS S' s n (k + 1 + i + 1) p = some (.lst (ws.map D.str)) := by
      rw [stepS_ne (I.ns hSp)]
      exact e2
    refine ⟨by rw [ups_ne (Ne.symm hpp)]; exact e3, szB (by omega), ws ++ [rest[u]], rest.eraseIdx u, by rw [List.map_append]; rfl, by rw [List.length_append, hw]; rfl, ?_, ?_, trivial, ?_⟩
    · have := get_erase_perm rest u _ (List.getElem?_eq_getElem hu)
      have h2 := (this.append_left ws).trans hpm
      rw [List.append_assoc]
      exact h2
    · rw [ups_ne hpp, ups_same, erase_map]
    · have I2 := I.step (i := k + 1 + i + 1) (by omega)
      have I3 := (I2.set hp0 (o := .lst ((rest.map D.str).eraseIdx u))).set hSp (o := .lst (ws.map D.str ++ [D.str rest[u]]))
      have e : k + 1 + (i : Int) + 1 = k + 1 + ((i + 1 : Nat) : Int) := by omega
      rw [← e]
      exact I3
  · rintro acc S' ⟨ws, rest, rfl, hw, hpm, e1, e2, I⟩
    have hlen := hpm.length_eq
    rw [List.length_append, show four.length = 4 from rfl] at hlen
    refine ⟨trivial, ?_⟩
    simp only [sSeq, sNext, sBreak, sCont, sDrop, sRet, sRetN, sIf, sSet, sPar, sAsg, sRaise, gN, gE, gC, gU, gS, qVar, qC, qBin, qTB, qChain, qNot, qAnd, qOr, bd_bl, qNotT, qAndT, qOrT, qTru, tru_non, tru_bl, tru_int, tru_str, tru_tup, tru_rol, tru_ref, qIf, qNil, qCons, qTup, qLst, qCB, cInt_i, cInt2_ii, cToInt_i, cToInt_b, cLen_s, cLen_t, cLen_r, cLen_l, cTuple_t, cTuple_r, cTuple_l, cList_t, cList_r, cList_l, qNeg, oI_ii, oAdd_ii, oSub, oMul, oDiv, oMod, oPow, oEq, oNe, oEqW_ii, oEqW_ss, oEqW_bb, oLt, oLe, oGt, oGe, oOrd_ii, oOrd_ss, oIx_t, oIx_r, oIx_l, oIx_s, qNo, qPart, qSl, oSl_t, oSl_r, oSl_l, oSl_s, qMeth, mAppend_1, iSeq, iRange1, iRange2, qCall, endsF, startD, List.map_cons, List.map_nil, List.length_cons, List.length_nil, List.length_map, List.cons_append, List.nil_append, List.replicate, List.getElem?_cons_zero, List.getElem?_cons_succ, List.set_cons_zero, List.set_cons_succ, Nat.reduceAdd, Nat.reduceSub, if_true, if_false, id, ups_same, ex_lst, ex_lst2, ex_some, atI_0, atI_1, atI_2, atI_3, ixN_0, ixN_1, ixN_21, oIx_p, e2]
    have nd := hpm.nodup_iff.mpr four_nd
    refine ⟨_, I.at_, q ws _ ⟨(List.nodup_append.mp nd).1, fun w hw => hpm.mem_iff.mp (List.mem_append_left _ hw)⟩ (by omega) (by omega) (by omega)⟩
theorem p__law_order : ∀ ds S Q E, sp__law_order ad ds S Q E → r__law_order ad (endsF Q E) (startD N__law_order ds) S := by
  rintro ds S Q E ⟨s, n, xs, k, m, rfl, h, hk, hm1, hm2, q⟩
  have hk0 := h.k0
  simp only [r__law_order, sp__law_next, sSeq, sNext, sBreak, sCont, sDrop, sRet, sRetN, sIf, sSet, sPar, sAsg, sRaise, gN, gE, gC, gU, gS, qVar, qC, qBin, qTB, qChain, qNot, qAnd, qOr, bd_bl, qNotT, qAndT, qOrT, qTru, tru_non, tru_bl, tru_int, tru_str, tru_tup, tru_rol, tru_ref, qIf, qNil, qCons, qTup, qLst, qCB, cInt_i, cInt2_ii, cToInt_i, cToInt_b, cLen_s, cLen_t, cLen_r, cLen_l, cTuple_t, cTuple_r, cTuple_l, cList_t, cList_r, cList_l, qNeg, oI_ii, oAdd_ii, oSub, oMul, oDiv, oMod, oPow, oEq, oNe, oEqW_ii, oEqW_ss, oEqW_bb, oLt, oLe, oGt, oGe, oOrd_ii, oOrd_ss, oIx_t, oIx_r, oIx_l, oIx_s, qNo, qPart, qSl, oSl_t, oSl_r, oSl_l, oSl_s, qMeth, mAppend_1, iSeq, iRange1, iRange2, qCall, endsF, startD, List.map_cons, List.map_nil, List.length_cons, List.length_nil, List.length_map, List.cons_append, List.nil_append, List.replicate, List.getElem?_cons_zero, List.getElem?_cons_succ, List.set_cons_zero, List.set_cons_succ, Nat.reduceAdd, Nat.reduceSub, if_true, if_false, id, ups_same, ex_lst, ex_lst2, ex_some, atI_0, atI_1, atI_2, atI_3, ixN_0, ixN_1, ixN_21, oIx_p]
  refine lc_mapT (.vals (rangeD 0 (m : Int).toNat)) (List.range m) (fun (i : Nat) => D.int i) (fun i => .int i) (fun Q q => by simp only [sSeq, sNext, sBreak, sCont, sDrop, sRet, sRetN, sIf, sSet, sPar, sAsg, sRaise, gN, gE, gC, gU, gS, qVar, qC, qBin, qTB, qChain, qNot, qAnd, qOr, bd_bl, qNotT, qAndT, qOrT, qTru, tru_non, tru_bl, tru_int, tru_str, tru_tup, tru_rol, tru_ref, qIf, qNil, qCons, qTup, qLst, qCB, cInt_i, cInt2_ii, cToInt_i, cToInt_b, cLen_s, cLen_t, cLen_r, cLen_l, cTuple_t, cTuple_r, cTuple_l, cList_t, cList_r, cList_l, qNeg, oI_ii, oAdd_ii, oSub, oMul, oDiv, oMod, oPow, oEq, oNe, oEqW_ii, oEqW_ss, oEqW_bb, oLt, oLe, oGt, oGe, oOrd_ii, oOrd_ss, oIx_t, oIx_r, oIx_l, oIx_s, qNo, qPart, qSl, oSl_t, oSl_r, oSl_l, oSl_s, qMeth, mAppend_1, iSeq, iRange1, iRange2, qCall, endsF, startD, List.map_cons, List.map_nil, List.length_cons, List.length_nil, List.length_map, List.cons_append, List.nil_append, List.replicate, List.getElem?_cons_zero, List.getElem?_cons_succ, List.set_cons_zero, List.set_cons_succ, Nat.reduceAdd, Nat.reduceSub, if_true, if_false, id, ups_same, ex_lst, ex_lst2, ex_some, atI_0, atI_1, atI_2, atI_3, ixN_0, ixN_1, ixN_21, oIx_p]; exact ⟨by omega, by omega, q⟩) ok_vals rangeD_0 (by simp; omega) ?_ ?_
  · intro i S2 C hi sub2 hC
    simp only [wipeD, sSeq, sNext, sBreak, sCont, sDrop, sRet, sRetN, sIf, sSet, sPar, sAsg, sRaise, gN, gE, gC, gU, gS, qVar, qC, qBin, qTB, qChain, qNot, qAnd, qOr, bd_bl, qNotT, qAndT, qOrT, qTru, tru_non, tru_bl, tru_int, tru_str, tru_tup, tru_rol, tru_ref, qIf, qNil, qCons, qTup, qLst, qCB, cInt_i, cInt2_ii, cToInt_i, cToInt_b, cLen_s, cLen_t, cLen_r, cLen_l, cTuple_t, cTuple_r, cTuple_l, cList_t, cList_r, cList_l, qNeg, oI_ii, oAdd_ii, oSub, oMul, oDiv, oMod, oPow, oEq, oNe, oEqW_ii, oEqW_ss, oEqW_bb, oLt, oLe, oGt, oGe, oOrd_ii, oOrd_ss, oIx_t, oIx_r, oIx_l, oIx_s, qNo, qPart, qSl, oSl_t, oSl_r, oSl_l, oSl_s, qMeth, mAppend_1, iSeq, iRange1, iRange2, qCall, endsF, startD, List.map_cons, List.map_nil, List.length_cons, List.length_nil, List.length_map, List.cons_append, List.nil_append, List.replicate, List.getElem?_cons_zero, List.getElem?_cons_succ, List.set_cons_zero, List.set_cons_succ, Nat.reduceAdd, Nat.reduceSub, if_true, if_false, id, ups_same, ex_lst, ex_lst2, ex_some, atI_0, atI_1, atI_2, atI_3, ixN_0, ixN_1, ixN_21, oIx_p]
    exact hC S2 (Sub.refl _)
  · intro p0 S1 hp0 sub1 e0
    have I1 := (St.start h).sub sub1
    refine lc_intro ?_
    simp only [sSeq, sNext, sBreak, sCont, sDrop, sRet, sRetN, sIf, sSet, sPar, sAsg, sRaise, gN, gE, gC, gU, gS, qVar, qC, qBin, qTB, qChain, qNot, qAnd, qOr, bd_bl, qNotT, qAndT, qOrT, qTru, tru_non, tru_bl, tru_int, tru_str, tru_tup, tru_rol, tru_ref, qIf, qNil, qCons, qTup, qLst, qCB, cInt_i, cInt2_ii, cToInt_i, cToInt_b, cLen_s, cLen_t, cLen_r, cLen_l, cTuple_t, cTuple_r, cTuple_l, cList_t, cList_r, cList_l, qNeg, oI_ii, oAdd_ii, oSub, oMul, oDiv, oMod, oPow, oEq, oNe, oEqW_ii, oEqW_ss, oEqW_bb, oLt, oLe, oGt, oGe, oOrd_ii, oOrd_ss, oIx_t, oIx_r, oIx_l, oIx_s, qNo, qPart, qSl, oSl_t, oSl_r, oSl_l, oSl_s, qMeth, mAppend_1, iSeq, iRange1, iRange2, qCall, endsF, startD, List.map_cons, List.map_nil, List.length_cons, List.length_nil, List.length_map, List.cons_append, List.nil_append, List.replicate, List.getElem?_cons_zero, List.getElem?_cons_succ, List.set_cons_zero, List.set_cons_succ, Nat.reduceAdd, Nat.reduceSub, if_true, if_false, id, ups_same, ex_lst, ex_lst2, ex_some, atI_0, atI_1, atI_2, atI_3, ixN_0, ixN_1, ixN_21, oIx_p]
    refine ⟨by omega, by omega, fun p hp => ?_⟩
    have hpp : p0 ≠ p := sto_ne e0 hp
    have hSp : S p = none := sub1.none hp
    refine ⟨fun i acc S' => ∃ (ws rest : List Nat), acc = ws.map (fun (i : Nat) => D.int i) ∧ ws.length = i ∧ (ws ++ rest).Perm (List.range m) ∧ S' p0 = some (.lst (rest.map fun (i : Nat) => D.int i)) ∧ S' p = some (.lst acc) ∧ St S S' s n xs (k + i), ⟨[], List.range m, rfl, rfl, List.Perm.refl _, by rw [ups_ne hpp]; exact e0, ups_same, by simpa using I1.new hp⟩, ?_, ?_⟩
    · rintro i d acc S' hi ⟨ws, rest, rfl, hw, hpm, e1, e2, I⟩
      obtain ⟨hi1, rfl⟩ := rangeD_get hi
      have hlen := hpm.length_eq
      rw [List.length_append, List.length_range] at hlen
      refine ⟨trivial, ?_⟩
      simp only [wipeD, qYes, sSeq, sNext, sBreak, sCont, sDrop, sRet, sRetN, sIf, sSet, sPar, sAsg, sRaise, gN, gE, gC, gU, gS, qVar, qC, qBin, qTB, qChain, qNot, qAnd, qOr, bd_bl, qNotT, qAndT, qOrT, qTru, tru_non, tru_bl, tru_int, tru_str, tru_tup, tru_rol, tru_ref, qIf, qNil, qCons, qTup, qLst, qCB, cInt_i, cInt2_ii, cToInt_i, cToInt_b, cLen_s, cLen_t, cLen_r, cLen_l, cTuple_t, cTuple_r, cTuple_l, cList_t, cList_r, cList_l, qNeg, oI_ii, oAdd_ii, oSub, oMul, oDiv, oMod, oPow, oEq, oNe, oEqW_ii, oEqW_ss, oEqW_bb, oLt, oLe, oGt, oGe, oOrd_ii, oOrd_ss, oIx_t, oIx_r, oIx_l, oIx_s, qNo, qPart, qSl, oSl_t, oSl_r, oSl_l, oSl_s, qMeth, mAppend_1, iSeq, iRange1, iRange2, qCall, endsF, startD, List.map_cons, List.map_nil, List.length_cons, List.length_nil, List.length_map, List.cons_append, List.nil_append, List.replicate, List.getElem?_cons_zero, List.getElem?_cons_succ, List.set_cons_zero, List.set_cons_succ, Nat.reduceAdd, Nat.reduceSub, if_true, if_false, id, ups_same, ex_lst, ex_lst2, ex_some, atI_0, atI_1, atI_2, atI_3, ixN_0, ixN_1, ixN_21, oIx_p, e1]
      refine ⟨⟨_, rfl⟩, s, n, xs, _, _, rfl, I.st, by omega, by omega, fun r2 g0 g1 => ⟨rest.map (fun (i : Nat) => D.int i), ?_⟩⟩
      obtain ⟨u, rfl⟩ := Int.eq_ofNat_of_zero_le g0
      have hu : u < rest.length := by omega
      rw [stepS_ne (I.ns hp0)]
      refine ⟨e1, u, u, .int (rest[u] : Nat), rfl, by omega, by omega, ixN_lt (by rw [List.length_map]; exact hu), by rw [List.getElem?_map, List.getElem?_eq_getElem hu]; rfl, ?_⟩
      have e3 : stepS S' s n (k + i + 1) p = some (.lst (ws.map fun (i : Nat) => D.int i)) := by
        rw [stepS_ne (I.ns hSp)]
        exact e2
      refine ⟨by rw [ups_ne (Ne.symm hpp)]; exact e3, szB (by omega), ws ++ [rest[u]], rest.eraseIdx u, by rw [List.map_append]; rfl, by rw [List.length_append, hw]; rfl, ?_, ?_, trivial, ?_⟩
      · have := get_erase_perm rest u _ (List.getElem?_eq_getElem hu)
        have h2 := (this.append_left ws).trans hpm
        rw [List.append_assoc]
        exact h2
      · rw [ups_ne hpp, ups_same, erase_map]
      · have I2 := I.step (i := k + i + 1) (by omega)
        have I3 := (I2.set hp0 (o := .lst ((rest.map fun (i : Nat) => D.int i).eraseIdx u))).set hSp (o := .lst (ws.map (fun (i : Nat) => D.int i) ++ [D.int (rest[u] : Nat)]))
        have e : k + (i : Int) + 1 = k + ((i + 1 : Nat) : Int) := by omega
        rw [← e]
        exact I3
    · rintro acc S' ⟨ws, rest, rfl, hw, hpm, e1, e2, I⟩
      have e9 : (Src.vals (rangeD 0 (m : Int).toNat)).items.length = m := by
        have := rangeD_len (lo := 0) (n := (m : Int).toNat)
        rw [Int.toNat_natCast] at this
        exact this
      rw [e9] at hw I
      have hlen := hpm.length_eq
      rw [List.length_append, List.length_range] at hlen
      have hr : rest = [] := List.eq_nil_of_length_eq_zero (by omega)
      rw [hr, List.append_nil] at hpm
      refine ⟨trivial, _, _, rfl, .inr ⟨p, rfl, e2⟩, _, I.at_, q ws _ hpm (by omega) (by omega)⟩
theorem mkSq {m : Nat} {f : Nat → Nat → Int} (h1 : 1 ≤ m) (h2 : m ≤ 12) (h : ∀ a b, a < m → b < m → 0 ≤ f a b ∧ f a b < m) : Sq ((List.range m).map fun a => (List.range m).map fun b => f a b) m ∧ Full ((List.range m).map fun a => (List.range m).map fun b => f a b) := by
  have key : ∀ r ∈ (List.range m).map (fun a => (List.range m).map fun b => f a b), r.length = m ∧ ∀ x ∈ r, 0 ≤ x ∧ x < m := fun r hr => by
    obtain ⟨a, ha, rfl⟩ := List.mem_map.mp hr
    refine ⟨by simp, fun x hx => ?_⟩
    obtain ⟨b, hb, rfl⟩ := List.mem_map.mp hx
    exact h a b (List.mem_range.mp ha) (List.mem_range.mp hb)
  exact ⟨⟨h1, h2, by simp, fun r hr => (key r hr).1, fun r hr x hx => by have := (key r hr).2 x hx; omega⟩, fun r hr x hx => ((key r hr).2 x hx).1⟩
theorem tD_of {m : Nat} {f : Nat → Nat → Int} : D.tup ((List.range m).map fun a => D.tup ((List.range m).map fun b => D.int (f a b))) = tD ((List.range m).map fun a => (List.range m).map fun b => f a b) := by
  unfold tD
  rw [List.map_map]
  congr 1
  refine List.map_congr_left fun a _ => ?_
  show D.tup _ = D.tup (((List.range m).map fun b => f a b).map D.int)
  rw [List.map_map]
  rfl
theorem p__law_ring : ∀ ds S Q E, sp__law_ring ad ds S Q E → r__law_ring ad (endsF Q E) (startD N__law_ring ds) S := by
  rintro ds S Q E ⟨m, x, y, rfl, hm1, hm2, hx, hy, q⟩
  simp only [r__law_ring, sSeq, sNext, sBreak, sCont, sDrop, sRet, sRetN, sIf, sSet, sPar, sAsg, sRaise, gN, gE, gC, gU, gS, qVar, qC, qBin, qTB, qChain, qNot, qAnd, qOr, bd_bl, qNotT, qAndT, qOrT, qTru, tru_non, tru_bl, tru_int, tru_str, tru_tup, tru_rol, tru_ref, qIf, qNil, qCons, qTup, qLst, qCB, cInt_i, cInt2_ii, cToInt_i, cToInt_b, cLen_s, cLen_t, cLen_r, cLen_l, cTuple_t, cTuple_r, cTuple_l, cList_t, cList_r, cList_l, qNeg, oI_ii, oAdd_ii, oSub, oMul, oDiv, oMod, oPow, oEq, oNe, oEqW_ii, oEqW_ss, oEqW_bb, oLt, oLe, oGt, oGe, oOrd_ii, oOrd_ss, oIx_t, oIx_r, oIx_l, oIx_s, qNo, qPart, qSl, oSl_t, oSl_r, oSl_l, oSl_s, qMeth, mAppend_1, iSeq, iRange1, iRange2, qCall, endsF, startD, List.map_cons, List.map_nil, List.length_cons, List.length_nil, List.length_map, List.cons_append, List.nil_append, List.replicate, List.getElem?_cons_zero, List.getElem?_cons_succ, List.set_cons_zero, List.set_cons_succ, Nat.reduceAdd, Nat.reduceSub, if_true, if_false, id, ups_same, ex_lst, ex_lst2, ex_some, atI_0, atI_1, atI_2, atI_3, ixN_0, ixN_1, ixN_21, oIx_p]
  refine lc_mapT (.vals (rangeD 0 (m : Int).toNat)) (List.range m) (fun (i : Nat) => D.int i) (fun a => .tup ((List.range m).map fun (b : Nat) => .int ((x * (a : Int) + y * (b : Int)).fmod m))) (fun Q q => by simp only [sSeq, sNext, sBreak, sCont, sDrop, sRet, sRetN, sIf, sSet, sPar, sAsg, sRaise, gN, gE, gC, gU, gS, qVar, qC, qBin, qTB, qChain, qNot, qAnd, qOr, bd_bl, qNotT, qAndT, qOrT, qTru, tru_non, tru_bl, tru_int, tru_str, tru_tup, tru_rol, tru_ref, qIf, qNil, qCons, qTup, qLst, qCB, cInt_i, cInt2_ii, cToInt_i, cToInt_b, cLen_s, cLen_t, cLen_r, cLen_l, cTuple_t, cTuple_r, cTuple_l, cList_t, cList_r, cList_l, qNeg, oI_ii, oAdd_ii, oSub, oMul, oDiv, oMod, oPow, oEq, oNe, oEqW_ii, oEqW_ss, oEqW_bb, oLt, oLe, oGt, oGe, oOrd_ii, oOrd_ss, oIx_t, oIx_r, oIx_l, oIx_s, qNo, qPart, qSl, oSl_t, oSl_r, oSl_l, oSl_s, qMeth, mAppend_1, iSeq, iRange1, iRange2, qCall, endsF, startD, List.map_cons, List.map_nil, List.length_cons, List.length_nil, List.length_map, List.cons_append, List.nil_append, List.replicate, List.getElem?_cons_zero, List.getElem?_cons_succ, List.set_cons_zero, List.set_cons_succ, Nat.reduceAdd, Nat.reduceSub, if_true, if_false, id, ups_same, ex_lst, ex_lst2, ex_some, atI_0, atI_1, atI_2, atI_3, ixN_0, ixN_1, ixN_21, oIx_p]; exact ⟨by omega, by omega, q⟩) ok_vals rangeD_0 (by simp; omega) ?_ ?_
  · intro a S2 C ha sub2 hC
    have ha := List.mem_range.mp ha
    simp only [wipeD, sSeq, sNext, sBreak, sCont, sDrop, sRet, sRetN, sIf, sSet, sPar, sAsg, sRaise, gN, gE, gC, gU, gS, qVar, qC, qBin, qTB, qChain, qNot, qAnd, qOr, bd_bl, qNotT, qAndT, qOrT, qTru, tru_non, tru_bl, tru_int, tru_str, tru_tup, tru_rol, tru_ref, qIf, qNil, qCons, qTup, qLst, qCB, cInt_i, cInt2_ii, cToInt_i, cToInt_b, cLen_s, cLen_t, cLen_r, cLen_l, cTuple_t, cTuple_r, cTuple_l, cList_t, cList_r, cList_l, qNeg, oI_ii, oAdd_ii, oSub, oMul, oDiv, oMod, oPow, oEq, oNe, oEqW_ii, oEqW_ss, oEqW_bb, oLt, oLe, oGt, oGe, oOrd_ii, oOrd_ss, oIx_t, oIx_r, oIx_l, oIx_s, qNo, qPart, qSl, oSl_t, oSl_r, oSl_l, oSl_s, qMeth, mAppend_1, iSeq, iRange1, iRange2, qCall, endsF, startD, List.map_cons, List.map_nil, List.length_cons, List.length_nil, List.length_map, List.cons_append, List.nil_append, List.replicate, List.getElem?_cons_zero, List.getElem?_cons_succ, List.set_cons_zero, List.set_cons_succ, Nat.reduceAdd, Nat.reduceSub, if_true, if_false, id, ups_same, ex_lst, ex_lst2, ex_some, atI_0, atI_1, atI_2, atI_3, ixN_0, ixN_1, ixN_21, oIx_p]
    refine lc_mapT (.vals (rangeD 0 (m : Int).toNat)) (List.range m) (fun (i : Nat) => D.int i) (fun (b : Nat) => .int ((x * (a : Int) + y * (b : Int)).fmod m)) (fun Q q => by simp only [sSeq, sNext, sBreak, sCont, sDrop, sRet, sRetN, sIf, sSet, sPar, sAsg, sRaise, gN, gE, gC, gU, gS, qVar, qC, qBin, qTB, qChain, qNot, qAnd, qOr, bd_bl, qNotT, qAndT, qOrT, qTru, tru_non, tru_bl, tru_int, tru_str, tru_tup, tru_rol, tru_ref, qIf, qNil, qCons, qTup, qLst, qCB, cInt_i, cInt2_ii, cToInt_i, cToInt_b, cLen_s, cLen_t, cLen_r, cLen_l, cTuple_t, cTuple_r, cTuple_l, cList_t, cList_r, cList_l, qNeg, oI_ii, oAdd_ii, oSub, oMul, oDiv, oMod, oPow, oEq, oNe, oEqW_ii, oEqW_ss, oEqW_bb, oLt, oLe, oGt, oGe, oOrd_ii, oOrd_ss, oIx_t, oIx_r, oIx_l, oIx_s, qNo, qPart, qSl, oSl_t, oSl_r, oSl_l, oSl_s, qMeth, mAppend_1, iSeq, iRange1, iRange2, qCall, endsF, startD, List.map_cons, List.map_nil, List.length_cons, List.length_nil, List.length_map, List.cons_append, List.nil_append, List.replicate, List.getElem?_cons_zero, List.getElem?_cons_succ, List.set_cons_zero, List.set_cons_succ, Nat.reduceAdd, Nat.reduceSub, if_true, if_false, id, ups_same, ex_lst, ex_lst2, ex_some, atI_0, atI_1, atI_2, atI_3, ixN_0, ixN_1, ixN_21, oIx_p]; exact ⟨by omega, by omega, q⟩) ok_vals rangeD_0 (by simp; omega) ?_ ?_
    · intro b S3 C3 hb sub3 hC3
      have hb := List.mem_range.mp hb
      simp only [wipeD, sSeq, sNext, sBreak, sCont, sDrop, sRet, sRetN, sIf, sSet, sPar, sAsg, sRaise, gN, gE, gC, gU, gS, qVar, qC, qBin, qTB, qChain, qNot, qAnd, qOr, bd_bl, qNotT, qAndT, qOrT, qTru, tru_non, tru_bl, tru_int, tru_str, tru_tup, tru_rol, tru_ref, qIf, qNil, qCons, qTup, qLst, qCB, cInt_i, cInt2_ii, cToInt_i, cToInt_b, cLen_s, cLen_t, cLen_r, cLen_l, cTuple_t, cTuple_r, cTuple_l, cList_t, cList_r, cList_l, qNeg, oI_ii, oAdd_ii, oSub, oMul, oDiv, oMod, oPow, oEq, oNe, oEqW_ii, oEqW_ss, oEqW_bb, oLt, oLe, oGt, oGe, oOrd_ii, oOrd_ss, oIx_t, oIx_r, oIx_l, oIx_s, qNo, qPart, qSl, oSl_t, oSl_r, oSl_l, oSl_s, qMeth, mAppend_1, iSeq, iRange1, iRange2, qCall, endsF, startD, List.map_cons, List.map_nil, List.length_cons, List.length_nil, List.length_map, List.cons_append, List.nil_append, List.replicate, List.getElem?_cons_zero, List.getElem?_cons_succ, List.set_cons_zero, List.set_cons_succ, Nat.reduceAdd, Nat.reduceSub, if_true, if_false, id, ups_same, ex_lst, ex_lst2, ex_some, atI_0, atI_1, atI_2, atI_3, ixN_0, ixN_1, ixN_21, oIx_p]
      exact ⟨CMul.ofL (by omega), CMul.ofL (by omega), by omega, hC3 S3 (Sub.refl _)⟩
    · intro p S3 hp sub3 e
      simp only [sSeq, sNext, sBreak, sCont, sDrop, sRet, sRetN, sIf, sSet, sPar, sAsg, sRaise, gN, gE, gC, gU, gS, qVar, qC, qBin, qTB, qChain, qNot, qAnd, qOr, bd_bl, qNotT, qAndT, qOrT, qTru, tru_non, tru_bl, tru_int, tru_str, tru_tup, tru_rol, tru_ref, qIf, qNil, qCons, qTup, qLst, qCB, cInt_i, cInt2_ii, cToInt_i, cToInt_b, cLen_s, cLen_t, cLen_r, cLen_l, cTuple_t, cTuple_r, cTuple_l, cList_t, cList_r, cList_l, qNeg, oI_ii, oAdd_ii, oSub, oMul, oDiv, oMod, oPow, oEq, oNe, oEqW_ii, oEqW_ss, oEqW_bb, oLt, oLe, oGt, oGe, oOrd_ii, oOrd_ss, oIx_t, oIx_r, oIx_l, oIx_s, qNo, qPart, qSl, oSl_t, oSl_r, oSl_l, oSl_s, qMeth, mAppend_1, iSeq, iRange1, iRange2, qCall, endsF, startD, List.map_cons, List.map_nil, List.length_cons, List.length_nil, List.length_map, List.cons_append, List.nil_append, List.replicate, List.getElem?_cons_zero, List.getElem?_cons_succ, List.set_cons_zero, List.set_cons_succ, Nat.reduceAdd, Nat.reduceSub, if_true, if_false, id, ups_same, ex_lst, ex_lst2, ex_some, atI_0, atI_1, atI_2, atI_3, ixN_0, ixN_1, ixN_21, oIx_p, e]
      exact hC S3 sub3
  · intro p S2 hp sub2 e
    simp only [sSeq, sNext, sBreak, sCont, sDrop, sRet, sRetN, sIf, sSet, sPar, sAsg, sRaise, gN, gE, gC, gU, gS, qVar, qC, qBin, qTB, qChain, qNot, qAnd, qOr, bd_bl, qNotT, qAndT, qOrT, qTru, tru_non, tru_bl, tru_int, tru_str, tru_tup, tru_rol, tru_ref, qIf, qNil, qCons, qTup, qLst, qCB, cInt_i, cInt2_ii, cToInt_i, cToInt_b, cLen_s, cLen_t, cLen_r, cLen_l, cTuple_t, cTuple_r, cTuple_l, cList_t, cList_r, cList_l, qNeg, oI_ii, oAdd_ii, oSub, oMul, oDiv, oMod, oPow, oEq, oNe, oEqW_ii, oEqW_ss, oEqW_bb, oLt, oLe, oGt, oGe, oOrd_ii, oOrd_ss, oIx_t, oIx_r, oIx_l, oIx_s, qNo, qPart, qSl, oSl_t, oSl_r, oSl_l, oSl_s, qMeth, mAppend_1, iSeq, iRange1, iRange2, qCall, endsF, startD, List.map_cons, List.map_nil, List.length_cons, List.length_nil, List.length_map, List.cons_append, List.nil_append, List.replicate, List.getElem?_cons_zero, List.getElem?_cons_succ, List.set_cons_zero, List.set_cons_succ, Nat.reduceAdd, Nat.reduceSub, if_true, if_false, id, ups_same, ex_lst, ex_lst2, ex_some, atI_0, atI_1, atI_2, atI_3, ixN_0, ixN_1, ixN_21, oIx_p, e]
    have hf : ∀ a b : Nat, a < m → b < m → 0 ≤ (x * (a : Int) + y * (b : Int)).fmod m ∧ (x * (a : Int) + y * (b : Int)).fmod m < m := fun a b _ _ => fmod_pos (by omega)
    have z := mkSq hm1 hm2 hf
    refine ⟨S, sub2, ?_⟩
    rw [tD_of (f := fun a b => (x * (a : Int) + y * (b : Int)).fmod m)]
    exact q _ z.1 z.2
def pl (o : List Nat) (k : Nat) : Nat := o.findIdx fun x => x == k
theorem pl_ok {o : List Nat} {m k : Nat} (h : o.Perm (List.range m)) (hk : k < m) : pl o k < m ∧ o[pl o k]? = some k ∧ ∀ j, j < pl o k → o[j]? ≠ some k := by
  have hl : o.length = m := by rw [h.length_eq, List.length_range]
  have hm : k ∈ o := h.mem_iff.mpr (List.mem_range.mpr hk)
  have h1 : pl o k < o.length := List.findIdx_lt_length_of_exists ⟨k, hm, by simp⟩
  refine ⟨by omega, ?_, fun j hj e => ?_⟩
  · rw [List.getElem?_eq_getElem h1]
    have := List.findIdx_getElem (w := h1)
    exact congrArg some (eq_of_beq this)
  · have h2 := List.not_of_lt_findIdx hj
    obtain ⟨h3, h4⟩ := List.getElem?_eq_some_iff.mp e
    rw [h4] at h2
    simp at h2
theorem p__law_renamed : ∀ ds S Q E, sp__law_renamed ad ds S Q E → r__law_renamed ad (endsF Q E) (startD N__law_renamed ds) S := by
  rintro ds S Q E ⟨t, m, o, rfl, hs, hf, hpm, q⟩
  have hle := hs.le
  have hlen := hs.len
  have ho : o.length = m := by rw [hpm.length_eq, List.length_range]
  simp only [r__law_renamed, qTupIx, sSeq, sNext, sBreak, sCont, sDrop, sRet, sRetN, sIf, sSet, sPar, sAsg, sRaise, gN, gE, gC, gU, gS, qVar, qC, qBin, qTB, qChain, qNot, qAnd, qOr, bd_bl, qNotT, qAndT, qOrT, qTru, tru_non, tru_bl, tru_int, tru_str, tru_tup, tru_rol, tru_ref, qIf, qNil, qCons, qTup, qLst, qCB, cInt_i, cInt2_ii, cToInt_i, cToInt_b, cLen_s, cLen_t, cLen_r, cLen_l, cTuple_t, cTuple_r, cTuple_l, cList_t, cList_r, cList_l, qNeg, oI_ii, oAdd_ii, oSub, oMul, oDiv, oMod, oPow, oEq, oNe, oEqW_ii, oEqW_ss, oEqW_bb, oLt, oLe, oGt, oGe, oOrd_ii, oOrd_ss, oIx_t, oIx_r, oIx_l, oIx_s, qNo, qPart, qSl, oSl_t, oSl_r, oSl_l, oSl_s, qMeth, mAppend_1, iSeq, iRange1, iRange2, qCall, endsF, startD, List.map_cons, List.map_nil, List.length_cons, List.length_nil, List.length_map, List.cons_append, List.nil_append, List.replicate, List.getElem?_cons_zero, List.getElem?_cons_succ, List.set_cons_zero, List.set_cons_succ, Nat.reduceAdd, Nat.reduceSub, if_true, if_false, id, ups_same, ex_lst, ex_lst2, ex_some, atI_0, atI_1, atI_2, atI_3, ixN_0, ixN_1, ixN_21, oIx_p]
  unfold tD
  simp only [sSeq, sNext, sBreak, sCont, sDrop, sRet, sRetN, sIf, sSet, sPar, sAsg, sRaise, gN, gE, gC, gU, gS, qVar, qC, qBin, qTB, qChain, qNot, qAnd, qOr, bd_bl, qNotT, qAndT, qOrT, qTru, tru_non, tru_bl, tru_int, tru_str, tru_tup, tru_rol, tru_ref, qIf, qNil, qCons, qTup, qLst, qCB, cInt_i, cInt2_ii, cToInt_i, cToInt_b, cLen_s, cLen_t, cLen_r, cLen_l, cTuple_t, cTuple_r, cTuple_l, cList_t, cList_r, cList_l, qNeg, oI_ii, oAdd_ii, oSub, oMul, oDiv, oMod, oPow, oEq, oNe, oEqW_ii, oEqW_ss, oEqW_bb, oLt, oLe, oGt, oGe, oOrd_ii, oOrd_ss, oIx_t, oIx_r, oIx_l, oIx_s, qNo, qPart, qSl, oSl_t, oSl_r, oSl_l, oSl_s, qMeth, mAppend_1, iSeq, iRange1, iRange2, qCall, endsF, startD, List.map_cons, List.map_nil, List.length_cons, List.length_nil, List.length_map, List.cons_append, List.nil_append, List.replicate, List.getElem?_cons_zero, List.getElem?_cons_succ, List.set_cons_zero, List.set_cons_succ, Nat.reduceAdd, Nat.reduceSub, if_true, if_false, id, ups_same, ex_lst, ex_lst2, ex_some, atI_0, atI_1, atI_2, atI_3, ixN_0, ixN_1, ixN_21, oIx_p]
  rw [hlen]
  refine lc_mapT (.vals (rangeD 0 (m : Int).toNat)) (List.range m) (fun (i : Nat) => D.int i) (fun k => .int (pl o k : Nat)) (fun Q q => by simp only [sSeq, sNext, sBreak, sCont, sDrop, sRet, sRetN, sIf, sSet, sPar, sAsg, sRaise, gN, gE, gC, gU, gS, qVar, qC, qBin, qTB, qChain, qNot, qAnd, qOr, bd_bl, qNotT, qAndT, qOrT, qTru, tru_non, tru_bl, tru_int, tru_str, tru_tup, tru_rol, tru_ref, qIf, qNil, qCons, qTup, qLst, qCB, cInt_i, cInt2_ii, cToInt_i, cToInt_b, cLen_s, cLen_t, cLen_r, cLen_l, cTuple_t, cTuple_r, cTuple_l, cList_t, cList_r, cList_l, qNeg, oI_ii, oAdd_ii, oSub, oMul, oDiv, oMod, oPow, oEq, oNe, oEqW_ii, oEqW_ss, oEqW_bb, oLt, oLe, oGt, oGe, oOrd_ii, oOrd_ss, oIx_t, oIx_r, oIx_l, oIx_s, qNo, qPart, qSl, oSl_t, oSl_r, oSl_l, oSl_s, qMeth, mAppend_1, iSeq, iRange1, iRange2, qCall, endsF, startD, List.map_cons, List.map_nil, List.length_cons, List.length_nil, List.length_map, List.cons_append, List.nil_append, List.replicate, List.getElem?_cons_zero, List.getElem?_cons_succ, List.set_cons_zero, List.set_cons_succ, Nat.reduceAdd, Nat.reduceSub, if_true, if_false, id, ups_same, ex_lst, ex_lst2, ex_some, atI_0, atI_1, atI_2, atI_3, ixN_0, ixN_1, ixN_21, oIx_p]; exact ⟨by omega, by omega, q⟩) ok_vals rangeD_0 (by simp; omega) ?_ ?_
  · intro k S2 C hk sub2 hC
    have hk := List.mem_range.mp hk
    obtain ⟨p1, p2, p3⟩ := pl_ok hpm hk
    simp only [wipeD, sSeq, sNext, sBreak, sCont, sDrop, sRet, sRetN, sIf, sSet, sPar, sAsg, sRaise, gN, gE, gC, gU, gS, qVar, qC, qBin, qTB, qChain, qNot, qAnd, qOr, bd_bl, qNotT, qAndT, qOrT, qTru, tru_non, tru_bl, tru_int, tru_str, tru_tup, tru_rol, tru_ref, qIf, qNil, qCons, qTup, qLst, qCB, cInt_i, cInt2_ii, cToInt_i, cToInt_b, cLen_s, cLen_t, cLen_r, cLen_l, cTuple_t, cTuple_r, cTuple_l, cList_t, cList_r, cList_l, qNeg, oI_ii, oAdd_ii, oSub, oMul, oDiv, oMod, oPow, oEq, oNe, oEqW_ii, oEqW_ss, oEqW_bb, oLt, oLe, oGt, oGe, oOrd_ii, oOrd_ss, oIx_t, oIx_r, oIx_l, oIx_s, qNo, qPart, qSl, oSl_t, oSl_r, oSl_l, oSl_s, qMeth, mAppend_1, iSeq, iRange1, iRange2, qCall, endsF, startD, List.map_cons, List.map_nil, List.length_cons, List.length_nil, List.length_map, List.cons_append, List.nil_append, List.replicate, List.getElem?_cons_zero, List.getElem?_cons_succ, List.set_cons_zero, List.set_cons_succ, Nat.reduceAdd, Nat.reduceSub, if_true, if_false, id, ups_same, ex_lst, ex_lst2, ex_some, atI_0, atI_1, atI_2, atI_3, ixN_0, ixN_1, ixN_21, oIx_p]
    refine ⟨o.map fun (i : Nat) => (i : Int), by rw [List.map_map]; rfl, k, pl o k, rfl, by rw [List.getElem?_map, p2]; rfl, fun j hj e => ?_, hC S2 (Sub.refl _)⟩
    rw [List.getElem?_map] at e
    obtain ⟨a, ha, e⟩ := Option.map_eq_some_iff.mp e
    obtain rfl : a = k := by omega
    exact p3 j hj ha
  · intro p0 S1 hp0 sub1 e0
    have epl : ∀ a, a < m → atI ((List.range m).map fun k => D.int (pl o k : Nat)) (a : Int) = some (.int (pl o a : Nat)) := fun a ha => by
      rw [atI_lt, List.getElem?_map, List.getElem?_range ha]
      rfl
    have cell : ∀ a b, a < m → b < m → ∃ u : Nat, c t (pl o a) (pl o b) = u ∧ u < m ∧ atI (o.map fun (i : Nat) => D.int i) (u : Int) = some (.int (o.getD u 0 : Nat)) ∧ o.getD u 0 < m := fun a b ha hb => by
      have h1 := (pl_ok hpm ha).1
      have h2 := (pl_ok hpm hb).1
      have hr := hs.crng h1 h2
      have h0 : 0 ≤ c t (pl o a) (pl o b) := hf _ (getD_mem (by rw [hlen]; exact h1)) _ (getD_mem (by rw [hs.row_len h1]; exact h2))
      obtain ⟨u, hu⟩ := Int.eq_ofNat_of_zero_le h0
      have hum : u < m := by omega
      refine ⟨u, hu, hum, ?_, List.mem_range.mp (hpm.mem_iff.mp (getD_mem (by omega)))⟩
      rw [atI_lt, List.getElem?_map, List.getD_eq_getElem?_getD, List.getElem?_eq_getElem (show u < o.length by omega)]
      rfl
    refine lc_mapT (.vals (rangeD 0 (m : Int).toNat)) (List.range m) (fun (i : Nat) => D.int i) (fun a => .tup ((List.range m).map fun (b : Nat) => .int (o.getD (c t (pl o a) (pl o b)).toNat 0 : Nat))) (fun Q q => by simp only [sSeq, sNext, sBreak, sCont, sDrop, sRet, sRetN, sIf, sSet, sPar, sAsg, sRaise, gN, gE, gC, gU, gS, qVar, qC, qBin, qTB, qChain, qNot, qAnd, qOr, bd_bl, qNotT, qAndT, qOrT, qTru, tru_non, tru_bl, tru_int, tru_str, tru_tup, tru_rol, tru_ref, qIf, qNil, qCons, qTup, qLst, qCB, cInt_i, cInt2_ii, cToInt_i, cToInt_b, cLen_s, cLen_t, cLen_r, cLen_l, cTuple_t, cTuple_r, cTuple_l, cList_t, cList_r, cList_l, qNeg, oI_ii, oAdd_ii, oSub, oMul, oDiv, oMod, oPow, oEq, oNe, oEqW_ii, oEqW_ss, oEqW_bb, oLt, oLe, oGt, oGe, oOrd_ii, oOrd_ss, oIx_t, oIx_r, oIx_l, oIx_s, qNo, qPart, qSl, oSl_t, oSl_r, oSl_l, oSl_s, qMeth, mAppend_1, iSeq, iRange1, iRange2, qCall, endsF, startD, List.map_cons, List.map_nil, List.length_cons, List.length_nil, List.length_map, List.cons_append, List.nil_append, List.replicate, List.getElem?_cons_zero, List.getElem?_cons_succ, List.set_cons_zero, List.set_cons_succ, Nat.reduceAdd, Nat.reduceSub, if_true, if_false, id, ups_same, ex_lst, ex_lst2, ex_some, atI_0, atI_1, atI_2, atI_3, ixN_0, ixN_1, ixN_21, oIx_p]; exact ⟨by omega, by omega, q⟩) ok_vals rangeD_0 (by simp; omega) ?_ ?_
    · intro a S2 C ha sub2 hC
      have ha := List.mem_range.mp ha
      simp only [wipeD, sSeq, sNext, sBreak, sCont, sDrop, sRet, sRetN, sIf, sSet, sPar, sAsg, sRaise, gN, gE, gC, gU, gS, qVar, qC, qBin, qTB, qChain, qNot, qAnd, qOr, bd_bl, qNotT, qAndT, qOrT, qTru, tru_non, tru_bl, tru_int, tru_str, tru_tup, tru_rol, tru_ref, qIf, qNil, qCons, qTup, qLst, qCB, cInt_i, cInt2_ii, cToInt_i, cToInt_b, cLen_s, cLen_t, cLen_r, cLen_l, cTuple_t, cTuple_r, cTuple_l, cList_t, cList_r, cList_l, qNeg, oI_ii, oAdd_ii, oSub, oMul, oDiv, oMod, oPow, oEq, oNe, oEqW_ii, oEqW_ss, oEqW_bb, oLt, oLe, oGt, oGe, oOrd_ii, oOrd_ss, oIx_t, oIx_r, oIx_l, oIx_s, qNo, qPart, qSl, oSl_t, oSl_r, oSl_l, oSl_s, qMeth, mAppend_1, iSeq, iRange1, iRange2, qCall, endsF, startD, List.map_cons, List.map_nil, List.length_cons, List.length_nil, List.length_map, List.cons_append, List.nil_append, List.replicate, List.getElem?_cons_zero, List.getElem?_cons_succ, List.set_cons_zero, List.set_cons_succ, Nat.reduceAdd, Nat.reduceSub, if_true, if_false, id, ups_same, ex_lst, ex_lst2, ex_some, atI_0, atI_1, atI_2, atI_3, ixN_0, ixN_1, ixN_21, oIx_p]
      refine lc_mapT (.vals (rangeD 0 (m : Int).toNat)) (List.range m) (fun (i : Nat) => D.int i) (fun (b : Nat) => .int (o.getD (c t (pl o a) (pl o b)).toNat 0 : Nat)) (fun Q q => by simp only [sSeq, sNext, sBreak, sCont, sDrop, sRet, sRetN, sIf, sSet, sPar, sAsg, sRaise, gN, gE, gC, gU, gS, qVar, qC, qBin, qTB, qChain, qNot, qAnd, qOr, bd_bl, qNotT, qAndT, qOrT, qTru, tru_non, tru_bl, tru_int, tru_str, tru_tup, tru_rol, tru_ref, qIf, qNil, qCons, qTup, qLst, qCB, cInt_i, cInt2_ii, cToInt_i, cToInt_b, cLen_s, cLen_t, cLen_r, cLen_l, cTuple_t, cTuple_r, cTuple_l, cList_t, cList_r, cList_l, qNeg, oI_ii, oAdd_ii, oSub, oMul, oDiv, oMod, oPow, oEq, oNe, oEqW_ii, oEqW_ss, oEqW_bb, oLt, oLe, oGt, oGe, oOrd_ii, oOrd_ss, oIx_t, oIx_r, oIx_l, oIx_s, qNo, qPart, qSl, oSl_t, oSl_r, oSl_l, oSl_s, qMeth, mAppend_1, iSeq, iRange1, iRange2, qCall, endsF, startD, List.map_cons, List.map_nil, List.length_cons, List.length_nil, List.length_map, List.cons_append, List.nil_append, List.replicate, List.getElem?_cons_zero, List.getElem?_cons_succ, List.set_cons_zero, List.set_cons_succ, Nat.reduceAdd, Nat.reduceSub, if_true, if_false, id, ups_same, ex_lst, ex_lst2, ex_some, atI_0, atI_1, atI_2, atI_3, ixN_0, ixN_1, ixN_21, oIx_p]; exact ⟨by omega, by omega, q⟩) ok_vals rangeD_0 (by simp; omega) ?_ ?_
      · intro b S3 C3 hb sub3 hC3
        have hb := List.mem_range.mp hb
        have h1 := (pl_ok hpm ha).1
        have h2 := (pl_ok hpm hb).1
        obtain ⟨u, hu, hum, hat, _⟩ := cell a b ha hb
        have e3 := sub3 _ _ (sub2 _ _ e0)
        have hC4 := hC3 S3 (Sub.refl _)
        rw [hu, Int.toNat_natCast] at hC4
        simp only [wipeD, sSeq, sNext, sBreak, sCont, sDrop, sRet, sRetN, sIf, sSet, sPar, sAsg, sRaise, gN, gE, gC, gU, gS, qVar, qC, qBin, qTB, qChain, qNot, qAnd, qOr, bd_bl, qNotT, qAndT, qOrT, qTru, tru_non, tru_bl, tru_int, tru_str, tru_tup, tru_rol, tru_ref, qIf, qNil, qCons, qTup, qLst, qCB, cInt_i, cInt2_ii, cToInt_i, cToInt_b, cLen_s, cLen_t, cLen_r, cLen_l, cTuple_t, cTuple_r, cTuple_l, cList_t, cList_r, cList_l, qNeg, oI_ii, oAdd_ii, oSub, oMul, oDiv, oMod, oPow, oEq, oNe, oEqW_ii, oEqW_ss, oEqW_bb, oLt, oLe, oGt, oGe, oOrd_ii, oOrd_ss, oIx_t, oIx_r, oIx_l, oIx_s, qNo, qPart, qSl, oSl_t, oSl_r, oSl_l, oSl_s, qMeth, mAppend_1, iSeq, iRange1, iRange2, qCall, endsF, startD, List.map_cons, List.map_nil, List.length_cons, List.length_nil, List.length_map, List.cons_append, List.nil_append, List.replicate, List.getElem?_cons_zero, List.getElem?_cons_succ, List.set_cons_zero, List.set_cons_succ, Nat.reduceAdd, Nat.reduceSub, if_true, if_false, id, ups_same, ex_lst, ex_lst2, ex_some, atI_0, atI_1, atI_2, atI_3, ixN_0, ixN_1, ixN_21, oIx_p, e3, epl a ha, epl b hb, hs.atr h1, rD, hs.atc h1 h2, hu, hat]
        exact hC4
      · intro p S3 hp sub3 e
        simp only [sSeq, sNext, sBreak, sCont, sDrop, sRet, sRetN, sIf, sSet, sPar, sAsg, sRaise, gN, gE, gC, gU, gS, qVar, qC, qBin, qTB, qChain, qNot, qAnd, qOr, bd_bl, qNotT, qAndT, qOrT, qTru, tru_non, tru_bl, tru_int, tru_str, tru_tup, tru_rol, tru_ref, qIf, qNil, qCons, qTup, qLst, qCB, cInt_i, cInt2_ii, cToInt_i, cToInt_b, cLen_s, cLen_t, cLen_r, cLen_l, cTuple_t, cTuple_r, cTuple_l, cList_t, cList_r, cList_l, qNeg, oI_ii, oAdd_ii, oSub, oMul, oDiv, oMod, oPow, oEq, oNe, oEqW_ii, oEqW_ss, oEqW_bb, oLt, oLe, oGt, oGe, oOrd_ii, oOrd_ss, oIx_t, oIx_r, oIx_l, oIx_s, qNo, qPart, qSl, oSl_t, oSl_r, oSl_l, oSl_s, qMeth, mAppend_1, iSeq, iRange1, iRange2, qCall, endsF, startD, List.map_cons, List.map_nil, List.length_cons, List.length_nil, List.length_map, List.cons_append, List.nil_append, List.replicate, List.getElem?_cons_zero, List.getElem?_cons_succ, List.set_cons_zero, List.set_cons_succ, Nat.reduceAdd, Nat.reduceSub, if_true, if_false, id, ups_same, ex_lst, ex_lst2, ex_some, atI_0, atI_1, atI_2, atI_3, ixN_0, ixN_1, ixN_21, oIx_p, e]
        exact hC S3 sub3
    · intro p S2 hp sub2 e
      simp only [sSeq, sNext, sBreak, sCont, sDrop, sRet, sRetN, sIf, sSet, sPar, sAsg, sRaise, gN, gE, gC, gU, gS, qVar, qC, qBin, qTB, qChain, qNot, qAnd, qOr, bd_bl, qNotT, qAndT, qOrT, qTru, tru_non, tru_bl, tru_int, tru_str, tru_tup, tru_rol, tru_ref, qIf, qNil, qCons, qTup, qLst, qCB, cInt_i, cInt2_ii, cToInt_i, cToInt_b, cLen_s, cLen_t, cLen_r, cLen_l, cTuple_t, cTuple_r, cTuple_l, cList_t, cList_r, cList_l, qNeg, oI_ii, oAdd_ii, oSub, oMul, oDiv, oMod, oPow, oEq, oNe, oEqW_ii, oEqW_ss, oEqW_bb, oLt, oLe, oGt, oGe, oOrd_ii, oOrd_ss, oIx_t, oIx_r, oIx_l, oIx_s, qNo, qPart, qSl, oSl_t, oSl_r, oSl_l, oSl_s, qMeth, mAppend_1, iSeq, iRange1, iRange2, qCall, endsF, startD, List.map_cons, List.map_nil, List.length_cons, List.length_nil, List.length_map, List.cons_append, List.nil_append, List.replicate, List.getElem?_cons_zero, List.getElem?_cons_succ, List.set_cons_zero, List.set_cons_succ, Nat.reduceAdd, Nat.reduceSub, if_true, if_false, id, ups_same, ex_lst, ex_lst2, ex_some, atI_0, atI_1, atI_2, atI_3, ixN_0, ixN_1, ixN_21, oIx_p, e]
      have hfn : ∀ a b : Nat, a < m → b < m → 0 ≤ ((o.getD (c t (pl o a) (pl o b)).toNat 0 : Nat) : Int) ∧ ((o.getD (c t (pl o a) (pl o b)).toNat 0 : Nat) : Int) < m := fun a b ha hb => by
        obtain ⟨u, hu, _, _, hl⟩ := cell a b ha hb
        rw [hu, Int.toNat_natCast]
        omega
      have z := mkSq hs.pos hle hfn
      refine ⟨S, sub1.trans sub2, ?_⟩
      rw [tD_of (f := fun a b => ((o.getD (c t (pl o a) (pl o b)).toNat 0 : Nat) : Int))]
      exact q _ z.1 z.2
end K35

namespace K35
open PySem PySem.Spec PyProof.Rows L2 PL
variable {ad : Ad} {t : Tb} {m : Nat}
theorem cut_take {α : Type} {xs : List α} {a : Nat} (h : a ≤ xs.length) : cutL xs none (some (a : Int)) = xs.take a := by
  unfold cutL
  rw [HT.sIx_none, HT.sIx_nat, Nat.min_eq_left h]
  simp
theorem cut_drop {α : Type} {xs : List α} {a : Nat} (h : a ≤ xs.length) : cutL xs (some (a : Int)) none = xs.drop a := by
  unfold cutL
  rw [HT.sIx_none, HT.sIx_nat, Nat.min_eq_left h]
  exact List.take_of_length_le (by simp)
theorem oAdd_tt {xs ys : List D} {S : Sto} {P : PD} : oAdd (.tup xs) (.tup ys) S P = (xs.length + ys.length ≤ sizeLine ∧ P (.tup (xs ++ ys)) S) := rfl
/-- a table with its row a another one -/
def setR (t : Tb) (a : Nat) (r : List Int) : Tb := t.take a ++ [r] ++ t.drop (a + 1)
theorem setR_len {a : Nat} {r : List Int} (h : a < t.length) : (setR t a r).length = t.length := by
  unfold setR
  simp
  omega
theorem setR_mem {a : Nat} {r x : List Int} (h : x ∈ setR t a r) : x = r ∨ x ∈ t := by
  unfold setR at h
  rcases List.mem_append.mp h with h | h
  · rcases List.mem_append.mp h with h | h
    · exact .inr (List.mem_of_mem_take h)
    · exact .inl (List.mem_singleton.mp h)
  · exact .inr (List.mem_of_mem_drop h)
theorem setR_in {a : Nat} {r : List Int} : r ∈ setR t a r := by
  unfold setR
  simp
theorem setR_sq (hs : Sq t m) {a : Nat} (ha : a < m) {r : List Int} (h1 : r.length = m) (h2 : ∀ x ∈ r, -1 ≤ x ∧ x < (m : Int)) : Sq (setR t a r) m := by
  refine ⟨hs.pos, hs.le, by rw [setR_len (by rw [hs.len]; exact ha)]; exact hs.len, fun x hx => ?_, fun x hx => ?_⟩
  · rcases setR_mem hx with rfl | h
    · exact h1
    · exact hs.row x h
  · rcases setR_mem hx with rfl | h
    · exact h2
    · exact hs.rng x h
def setC (r : List Int) (b : Nat) (v : Int) : List Int := r.take b ++ [v] ++ r.drop (b + 1)
theorem setC_len {r : List Int} {b : Nat} {v : Int} (h : b < r.length) : (setC r b v).length = r.length := by
  unfold setC
  simp
  omega
theorem setC_mem {r : List Int} {b : Nat} {v x : Int} (h : x ∈ setC r b v) : x = v ∨ x ∈ r := by
  unfold setC at h
  rcases List.mem_append.mp h with h | h
  · rcases List.mem_append.mp h with h | h
    · exact .inr (List.mem_of_mem_take h)
    · exact .inl (List.mem_singleton.mp h)
  · exact .inr (List.mem_of_mem_drop h)
theorem rD_setC {r : List Int} {b : Nat} {v : Int} (h : b < r.length) : D.tup (cutL (r.map D.int) none (some (b : Int)) ++ [D.int v] ++ cutL (r.map D.int) (some ((b : Int) + 1)) none) = rD (setC r b v) := by
  rw [cut_take (by rw [List.length_map]; omega), show (b : Int) + 1 = ((b + 1 : Nat) : Int) by omega, cut_drop (by rw [List.length_map]; omega)]
  unfold rD setC
  simp
theorem tD_setR {a : Nat} {r : List Int} (h : a < t.length) : D.tup (cutL (t.map rD) none (some (a : Int)) ++ [rD r] ++ cutL (t.map rD) (some ((a : Int) + 1)) none) = tD (setR t a r) := by
  rw [cut_take (by rw [List.length_map]; omega), show (a : Int) + 1 = ((a + 1 : Nat) : Int) by omega, cut_drop (by rw [List.length_map]; omega)]
  unfold tD setR
  simp
theorem len_cut {xs : List D} {lo hi : Option Int} : (cutL xs lo hi).length ≤ xs.length := cut_len
section
variable {s n : Addr} {xs : List Int} {S0 S : Sto} {j : Int} {P : QN} {y4 y5 y6 : Option D} {most : D}
theorem tb1_ok (I : St S0 S s n xs j) (hj : j < 450000000) (hs : Sq t m) (hf : Full t) (hn : ∀ t' S' z5 z6, Sq t' m → Full t' → St S0 S' s n xs (j + 3) → P.nx [some (.ref s), some most, some (.int m), some (tD t'), y4, z5, z6] S') :
    r__law_table_b1 ad P [some (.ref s), some most, some (.int m), some (tD t), y4, y5, y6] S := by
  have hj0 := I.st.k0
  have hle := hs.le
  have hpos := hs.pos
  have hlen := hs.len
  simp only [r__law_table_b1, sp__law_next, sSeq, sNext, sBreak, sCont, sDrop, sRet, sRetN, sIf, sSet, sPar, sAsg, sRaise, gN, gE, gC, gU, gS, qVar, qC, qBin, qTB, qChain, qNot, qAnd, qOr, bd_bl, qNotT, qAndT, qOrT, qTru, tru_non, tru_bl, tru_int, tru_str, tru_tup, tru_rol, tru_ref, qIf, qNil, qCons, qTup, qLst, qCB, cInt_i, cInt2_ii, cToInt_i, cToInt_b, cLen_s, cLen_t, cLen_r, cLen_l, cTuple_t, cTuple_r, cTuple_l, cList_t, cList_r, cList_l, qNeg, oI_ii, oAdd_ii, oSub, oMul, oDiv, oMod, oPow, oEq, oNe, oEqW_ii, oEqW_ss, oEqW_bb, oLt, oLe, oGt, oGe, oOrd_ii, oOrd_ss, oIx_t, oIx_r, oIx_l, oIx_s, qNo, qPart, qSl, oSl_t, oSl_r, oSl_l, oSl_s, qMeth, mAppend_1, iSeq, iRange1, iRange2, qCall, endsF, startD, List.map_cons, List.map_nil, List.length_cons, List.length_nil, List.length_map, List.cons_append, List.nil_append, List.replicate, List.getElem?_cons_zero, List.getElem?_cons_succ, List.set_cons_zero, List.set_cons_succ, Nat.reduceAdd, Nat.reduceSub, if_true, if_false, id, ups_same, ex_lst, ex_lst2, ex_some, atI_0, atI_1, atI_2, atI_3, ixN_0, ixN_1, ixN_21, oIx_p]
  refine ⟨s, n, xs, j, m, rfl, I.st, by omega, by omega, fun a a0 a1 => ?_⟩
  obtain ⟨a, rfl⟩ := Int.eq_ofNat_of_zero_le a0
  have ha : a < m := by omega
  have I1 := I.step (i := j + 1) (by omega)
  refine ⟨s, n, xs, _, m, rfl, I1.st, by omega, by omega, fun b b0 b1 => ?_⟩
  obtain ⟨b, rfl⟩ := Int.eq_ofNat_of_zero_le b0
  have hb : b < m := by omega
  have I2 := I1.step (i := j + 1 + 1) (by omega)
  unfold tD
  simp only [sSeq, sNext, sBreak, sCont, sDrop, sRet, sRetN, sIf, sSet, sPar, sAsg, sRaise, gN, gE, gC, gU, gS, qVar, qC, qBin, qTB, qChain, qNot, qAnd, qOr, bd_bl, qNotT, qAndT, qOrT, qTru, tru_non, tru_bl, tru_int, tru_str, tru_tup, tru_rol, tru_ref, qIf, qNil, qCons, qTup, qLst, qCB, cInt_i, cInt2_ii, cToInt_i, cToInt_b, cLen_s, cLen_t, cLen_r, cLen_l, cTuple_t, cTuple_r, cTuple_l, cList_t, cList_r, cList_l, qNeg, oI_ii, oAdd_ii, oSub, oMul, oDiv, oMod, oPow, oEq, oNe, oEqW_ii, oEqW_ss, oEqW_bb, oLt, oLe, oGt, oGe, oOrd_ii, oOrd_ss, oIx_t, oIx_r, oIx_l, oIx_s, qNo, qPart, qSl, oSl_t, oSl_r, oSl_l, oSl_s, qMeth, mAppend_1, iSeq, iRange1, iRange2, qCall, endsF, startD, List.map_cons, List.map_nil, List.length_cons, List.length_nil, List.length_map, List.cons_append, List.nil_append, List.replicate, List.getElem?_cons_zero, List.getElem?_cons_succ, List.set_cons_zero, List.set_cons_succ, Nat.reduceAdd, Nat.reduceSub, if_true, if_false, id, ups_same, ex_lst, ex_lst2, ex_some, atI_0, atI_1, atI_2, atI_3, ixN_0, ixN_1, ixN_21, oIx_p, hs.atr ha]
  unfold rD
  simp only [sSeq, sNext, sBreak, sCont, sDrop, sRet, sRetN, sIf, sSet, sPar, sAsg, sRaise, gN, gE, gC, gU, gS, qVar, qC, qBin, qTB, qChain, qNot, qAnd, qOr, bd_bl, qNotT, qAndT, qOrT, qTru, tru_non, tru_bl, tru_int, tru_str, tru_tup, tru_rol, tru_ref, qIf, qNil, qCons, qTup, qLst, qCB, cInt_i, cInt2_ii, cToInt_i, cToInt_b, cLen_s, cLen_t, cLen_r, cLen_l, cTuple_t, cTuple_r, cTuple_l, cList_t, cList_r, cList_l, qNeg, oI_ii, oAdd_ii, oSub, oMul, oDiv, oMod, oPow, oEq, oNe, oEqW_ii, oEqW_ss, oEqW_bb, oLt, oLe, oGt, oGe, oOrd_ii, oOrd_ss, oIx_t, oIx_r, oIx_l, oIx_s, qNo, qPart, qSl, oSl_t, oSl_r, oSl_l, oSl_s, qMeth, mAppend_1, iSeq, iRange1, iRange2, qCall, endsF, startD, List.map_cons, List.map_nil, List.length_cons, List.length_nil, List.length_map, List.cons_append, List.nil_append, List.replicate, List.getElem?_cons_zero, List.getElem?_cons_succ, List.set_cons_zero, List.set_cons_succ, Nat.reduceAdd, Nat.reduceSub, if_true, if_false, id, ups_same, ex_lst, ex_lst2, ex_some, atI_0, atI_1, atI_2, atI_3, ixN_0, ixN_1, ixN_21, oIx_p]
  refine ⟨s, n, xs, _, m, rfl, I2.st, by omega, by omega, fun v v0 v1 => ?_⟩
  have I3 := I2.step (i := j + 1 + 1 + 1) (by omega)
  have hrl := hs.row_len ha
  have l1 := len_cut (xs := (t.getD a []).map D.int) (lo := none) (hi := some (b : Int))
  have l2 := len_cut (xs := (t.getD a []).map D.int) (lo := some ((b : Int) + 1)) (hi := none)
  have l3 := len_cut (xs := t.map rD) (lo := none) (hi := some (a : Int))
  have l4 := len_cut (xs := t.map rD) (lo := some ((a : Int) + 1)) (hi := none)
  rw [List.length_map] at l1 l2 l3 l4
  simp only [oAdd_tt, sSeq, sNext, sBreak, sCont, sDrop, sRet, sRetN, sIf, sSet, sPar, sAsg, sRaise, gN, gE, gC, gU, gS, qVar, qC, qBin, qTB, qChain, qNot, qAnd, qOr, bd_bl, qNotT, qAndT, qOrT, qTru, tru_non, tru_bl, tru_int, tru_str, tru_tup, tru_rol, tru_ref, qIf, qNil, qCons, qTup, qLst, qCB, cInt_i, cInt2_ii, cToInt_i, cToInt_b, cLen_s, cLen_t, cLen_r, cLen_l, cTuple_t, cTuple_r, cTuple_l, cList_t, cList_r, cList_l, qNeg, oI_ii, oAdd_ii, oSub, oMul, oDiv, oMod, oPow, oEq, oNe, oEqW_ii, oEqW_ss, oEqW_bb, oLt, oLe, oGt, oGe, oOrd_ii, oOrd_ss, oIx_t, oIx_r, oIx_l, oIx_s, qNo, qPart, qSl, oSl_t, oSl_r, oSl_l, oSl_s, qMeth, mAppend_1, iSeq, iRange1, iRange2, qCall, endsF, startD, List.map_cons, List.map_nil, List.length_cons, List.length_nil, List.length_map, List.cons_append, List.nil_append, List.replicate, List.getElem?_cons_zero, List.getElem?_cons_succ, List.set_cons_zero, List.set_cons_succ, Nat.reduceAdd, Nat.reduceSub, if_true, if_false, id, ups_same, ex_lst, ex_lst2, ex_some, atI_0, atI_1, atI_2, atI_3, ixN_0, ixN_1, ixN_21, oIx_p, List.length_append]
  rw [show (fun r : List Int => D.tup (List.map D.int r)) = rD from rfl]
  refine ⟨szL (by omega), szL (by omega), szL (by omega), szL (by omega), szL (by omega), szL (by omega), ?_⟩
  rw [rD_setC (by omega), tD_setR (by omega)]
  have hr2 : ∀ x ∈ setC (t.getD a []) b v, 0 ≤ x ∧ x < (m : Int) := fun x hx => by
    rcases setC_mem hx with rfl | h
    · exact ⟨v0, v1⟩
    · have hm := getD_mem (d := []) (show a < t.length by omega)
      exact ⟨hf _ hm x h, (hs.rng _ hm x h).2⟩
  refine hn _ _ _ _ (setR_sq hs ha (by rw [setC_len (by omega)]; exact hrl) fun x hx => by have := hr2 x hx; omega) (fun r hr x hx => ?_) (by rw [show j + 1 + 1 + 1 = j + 3 by omega] at I3 ⊢; exact I3)
  rcases setR_mem hr with rfl | h
  · exact (hr2 x hx).1
  · exact hf r h x hx
theorem lt_ok (I : St S0 S s n xs j) (hj : j < 440000000) (hs : Sq t m) (hf : Full t) (hn : ∀ t' S' j' z4 z5 z6, Sq t' m → Full t' → St S0 S' s n xs j' → j ≤ j' → j' ≤ j + 10 → P.nx [some (.ref s), some most, some (.int m), some (tD t'), z4, z5, z6] S') :
    sFor (iRange1 (qCons (qBin oIx (qLst (qCons (qC (.int 0)) (qCons (qC (.int 0)) (qCons (qC (.int 1)) (qCons (qC (.int 3)) qNil))))) (qCall (sp__law_next ad) (qCons (qVar 0) (qCons (qC (.int 4)) qNil)))) qNil)) (gN 4) (r__law_table_b1 ad) P [some (.ref s), some most, some (.int m), some (tD t), y4, y5, y6] S := by
  have hj0 := I.st.k0
  unfold sFor
  simp only [sp__law_next, sSeq, sNext, sBreak, sCont, sDrop, sRet, sRetN, sIf, sSet, sPar, sAsg, sRaise, gN, gE, gC, gU, gS, qVar, qC, qBin, qTB, qChain, qNot, qAnd, qOr, bd_bl, qNotT, qAndT, qOrT, qTru, tru_non, tru_bl, tru_int, tru_str, tru_tup, tru_rol, tru_ref, qIf, qNil, qCons, qTup, qLst, qCB, cInt_i, cInt2_ii, cToInt_i, cToInt_b, cLen_s, cLen_t, cLen_r, cLen_l, cTuple_t, cTuple_r, cTuple_l, cList_t, cList_r, cList_l, qNeg, oI_ii, oAdd_ii, oSub, oMul, oDiv, oMod, oPow, oEq, oNe, oEqW_ii, oEqW_ss, oEqW_bb, oLt, oLe, oGt, oGe, oOrd_ii, oOrd_ss, oIx_t, oIx_r, oIx_l, oIx_s, qNo, qPart, qSl, oSl_t, oSl_r, oSl_l, oSl_s, qMeth, mAppend_1, iSeq, iRange1, iRange2, qCall, endsF, startD, List.map_cons, List.map_nil, List.length_cons, List.length_nil, List.length_map, List.cons_append, List.nil_append, List.replicate, List.getElem?_cons_zero, List.getElem?_cons_succ, List.set_cons_zero, List.set_cons_succ, Nat.reduceAdd, Nat.reduceSub, if_true, if_false, id, ups_same, ex_lst, ex_lst2, ex_some, atI_0, atI_1, atI_2, atI_3, ixN_0, ixN_1, ixN_21, oIx_p]
  refine ⟨by decide, fun p hp => ?_⟩
  have hps := I.st.ne_s hp
  have I1 := I.new hp (o := .lst [.int 0, .int 0, .int 1, .int 3])
  refine ⟨s, n, xs, j, 4, rfl, I1.st, by omega, by omega, fun r r0 r1 => ?_⟩
  have I2 := I1.step (i := j + 1) (by omega)
  obtain ⟨e, ee, he⟩ : ∃ e : Nat, atI [D.int 0, D.int 0, D.int 1, D.int 3] r = some (.int e) ∧ e ≤ 3 := by
    obtain ⟨x, ex, hx⟩ := at4 (a := .int 0) (b := .int 0) (c := .int 1) (d := .int 3) r0 r1
    rcases hx with rfl | rfl | rfl | rfl
    · exact ⟨0, ex, by omega⟩
    · exact ⟨0, ex, by omega⟩
    · exact ⟨1, ex, by omega⟩
    · exact ⟨3, ex, by omega⟩
  rw [stepS_ne hps]
  simp only [sSeq, sNext, sBreak, sCont, sDrop, sRet, sRetN, sIf, sSet, sPar, sAsg, sRaise, gN, gE, gC, gU, gS, qVar, qC, qBin, qTB, qChain, qNot, qAnd, qOr, bd_bl, qNotT, qAndT, qOrT, qTru, tru_non, tru_bl, tru_int, tru_str, tru_tup, tru_rol, tru_ref, qIf, qNil, qCons, qTup, qLst, qCB, cInt_i, cInt2_ii, cToInt_i, cToInt_b, cLen_s, cLen_t, cLen_r, cLen_l, cTuple_t, cTuple_r, cTuple_l, cList_t, cList_r, cList_l, qNeg, oI_ii, oAdd_ii, oSub, oMul, oDiv, oMod, oPow, oEq, oNe, oEqW_ii, oEqW_ss, oEqW_bb, oLt, oLe, oGt, oGe, oOrd_ii, oOrd_ss, oIx_t, oIx_r, oIx_l, oIx_s, qNo, qPart, qSl, oSl_t, oSl_r, oSl_l, oSl_s, qMeth, mAppend_1, iSeq, iRange1, iRange2, qCall, endsF, startD, List.map_cons, List.map_nil, List.length_cons, List.length_nil, List.length_map, List.cons_append, List.nil_append, List.replicate, List.getElem?_cons_zero, List.getElem?_cons_succ, List.set_cons_zero, List.set_cons_succ, Nat.reduceAdd, Nat.reduceSub, if_true, if_false, id, ups_same, ex_lst, ex_lst2, ex_some, atI_0, atI_1, atI_2, atI_3, ixN_0, ixN_1, ixN_21, oIx_p, ee]
  refine ⟨by omega, by omega, fun i loc S' => ∃ (t' : Tb) (z4 z5 z6 : Option D), loc = [some (.ref s), some most, some (.int m), some (tD t'), z4, z5, z6] ∧ Sq t' m ∧ Full t' ∧ St S0 S' s n xs (j + 1 + 3 * i), ⟨t, _, _, _, rfl, hs, hf, by simpa using I2⟩, ?_, ?_⟩
  · rintro i d loc S' hi ⟨t', z4, z5, z6, rfl, hs', hf', I'⟩
    obtain ⟨hi1, rfl⟩ := rangeD_get hi
    have hi2 : i < 3 := by omega
    refine ⟨trivial, ?_⟩
    simp only [sSeq, sNext, sBreak, sCont, sDrop, sRet, sRetN, sIf, sSet, sPar, sAsg, sRaise, gN, gE, gC, gU, gS, qVar, qC, qBin, qTB, qChain, qNot, qAnd, qOr, bd_bl, qNotT, qAndT, qOrT, qTru, tru_non, tru_bl, tru_int, tru_str, tru_tup, tru_rol, tru_ref, qIf, qNil, qCons, qTup, qLst, qCB, cInt_i, cInt2_ii, cToInt_i, cToInt_b, cLen_s, cLen_t, cLen_r, cLen_l, cTuple_t, cTuple_r, cTuple_l, cList_t, cList_r, cList_l, qNeg, oI_ii, oAdd_ii, oSub, oMul, oDiv, oMod, oPow, oEq, oNe, oEqW_ii, oEqW_ss, oEqW_bb, oLt, oLe, oGt, oGe, oOrd_ii, oOrd_ss, oIx_t, oIx_r, oIx_l, oIx_s, qNo, qPart, qSl, oSl_t, oSl_r, oSl_l, oSl_s, qMeth, mAppend_1, iSeq, iRange1, iRange2, qCall, endsF, startD, List.map_cons, List.map_nil, List.length_cons, List.length_nil, List.length_map, List.cons_append, List.nil_append, List.replicate, List.getElem?_cons_zero, List.getElem?_cons_succ, List.set_cons_zero, List.set_cons_succ, Nat.reduceAdd, Nat.reduceSub, if_true, if_false, id, ups_same, ex_lst, ex_lst2, ex_some, atI_0, atI_1, atI_2, atI_3, ixN_0, ixN_1, ixN_21, oIx_p]
    refine tb1_ok I' (by omega) hs' hf' fun t2 S2 z5 z6 h1 h2 I2 => ⟨t2, _, _, _, rfl, h1, h2, ?_⟩
    have e : j + 1 + 3 * (i : Int) + 3 = j + 1 + 3 * ((i + 1 : Nat) : Int) := by omega
    rw [← e]
    exact I2
  · rintro loc S' ⟨t', z4, z5, z6, rfl, hs', hf', I'⟩
    have e9 : (Src.vals (rangeD 0 (e : Int).toNat)).items.length = e := by
      have := rangeD_len (lo := 0) (n := (e : Int).toNat)
      rw [Int.toNat_natCast] at this
      exact this
    rw [e9] at I'
    exact ⟨trivial, hn t' S' _ _ _ _ hs' hf' I' (by omega) (by omega)⟩
end
theorem pick12 {M : Nat} (h1 : 1 ≤ M) (h2 : M ≤ 12) {a b c d : Int} {u : Int} (u0 : 0 ≤ u) (u1 : u < 4) (ha : 0 ≤ a ∧ a ≤ 12) (hb : 0 ≤ b ∧ b ≤ 12) (hc : 0 ≤ c ∧ c ≤ 12) (hd : 0 ≤ d ∧ d ≤ 12) : ∃ x : Int, atI [D.int a, D.int b, D.int c, D.int d] u = some (.int x) ∧ 0 ≤ x ∧ x ≤ 12 := by
  obtain ⟨x, ex, hx⟩ := at4 (a := .int a) (b := .int b) (c := .int c) (d := .int d) u0 u1
  rcases hx with rfl | rfl | rfl | rfl
  · exact ⟨_, ex, ha⟩
  · exact ⟨_, ex, hb⟩
  · exact ⟨_, ex, hc⟩
  · exact ⟨_, ex, hd⟩
theorem p__law_table : ∀ ds S Q E, sp__law_table ad ds S Q E → r__law_table ad (endsF Q E) (startD N__law_table ds) S := by
  rintro ds S Q E ⟨s, n, xs, k, m, rfl, h, hk, hm1, hm2, q⟩
  have hk0 := h.k0
  have I0 := St.start h
  simp only [r__law_table, sSeq, sNext, sBreak, sCont, sDrop, sRet, sRetN, sIf, sSet, sPar, sAsg, sRaise, gN, gE, gC, gU, gS, qVar, qC, qBin, qTB, qChain, qNot, qAnd, qOr, bd_bl, qNotT, qAndT, qOrT, qTru, tru_non, tru_bl, tru_int, tru_str, tru_tup, tru_rol, tru_ref, qIf, qNil, qCons, qTup, qLst, qCB, cInt_i, cInt2_ii, cToInt_i, cToInt_b, cLen_s, cLen_t, cLen_r, cLen_l, cTuple_t, cTuple_r, cTuple_l, cList_t, cList_r, cList_l, qNeg, oI_ii, oAdd_ii, oSub, oMul, oDiv, oMod, oPow, oEq, oNe, oEqW_ii, oEqW_ss, oEqW_bb, oLt, oLe, oGt, oGe, oOrd_ii, oOrd_ss, oIx_t, oIx_r, oIx_l, oIx_s, qNo, qPart, qSl, oSl_t, oSl_r, oSl_l, oSl_s, qMeth, mAppend_1, iSeq, iRange1, iRange2, qCall, endsF, startD, List.map_cons, List.map_nil, List.length_cons, List.length_nil, List.length_map, List.cons_append, List.nil_append, List.replicate, List.getElem?_cons_zero, List.getElem?_cons_succ, List.set_cons_zero, List.set_cons_succ, Nat.reduceAdd, Nat.reduceSub, if_true, if_false, id, ups_same, ex_lst, ex_lst2, ex_some, atI_0, atI_1, atI_2, atI_3, ixN_0, ixN_1, ixN_21, oIx_p]
  rw [sp__law_next]
  refine ⟨s, n, xs, k, m, rfl, h, by omega, by omega, fun r r0 r1 => ?_⟩
  simp only [sSeq, sNext, sBreak, sCont, sDrop, sRet, sRetN, sIf, sSet, sPar, sAsg, sRaise, gN, gE, gC, gU, gS, qVar, qC, qBin, qTB, qChain, qNot, qAnd, qOr, bd_bl, qNotT, qAndT, qOrT, qTru, tru_non, tru_bl, tru_int, tru_str, tru_tup, tru_rol, tru_ref, qIf, qNil, qCons, qTup, qLst, qCB, cInt_i, cInt2_ii, cToInt_i, cToInt_b, cLen_s, cLen_t, cLen_r, cLen_l, cTuple_t, cTuple_r, cTuple_l, cList_t, cList_r, cList_l, qNeg, oI_ii, oAdd_ii, oSub, oMul, oDiv, oMod, oPow, oEq, oNe, oEqW_ii, oEqW_ss, oEqW_bb, oLt, oLe, oGt, oGe, oOrd_ii, oOrd_ss, oIx_t, oIx_r, oIx_l, oIx_s, qNo, qPart, qSl, oSl_t, oSl_r, oSl_l, oSl_s, qMeth, mAppend_1, iSeq, iRange1, iRange2, qCall, endsF, startD, List.map_cons, List.map_nil, List.length_cons, List.length_nil, List.length_map, List.cons_append, List.nil_append, List.replicate, List.getElem?_cons_zero, List.getElem?_cons_succ, List.set_cons_zero, List.set_cons_succ, Nat.reduceAdd, Nat.reduceSub, if_true, if_false, id, ups_same, ex_lst, ex_lst2, ex_some, atI_0, atI_1, atI_2, atI_3, ixN_0, ixN_1, ixN_21, oIx_p]
  refine ⟨by decide, fun p hp => ?_⟩
  have I1 := I0.step (i := k + 1) (by omega)
  have hps := I1.st.ne_s hp
  have I1 := I1.new hp (o := .lst [.int (1 + r), .int m])
  rw [sp__law_next]
  refine ⟨s, n, xs, _, 4, rfl, I1.st, by omega, by omega, fun u u0 u1 => ?_⟩
  have I2 := I1.step (i := k + 1 + 1) (by omega)
  simp only [sSeq, sNext, sBreak, sCont, sDrop, sRet, sRetN, sIf, sSet, sPar, sAsg, sRaise, gN, gE, gC, gU, gS, qVar, qC, qBin, qTB, qChain, qNot, qAnd, qOr, bd_bl, qNotT, qAndT, qOrT, qTru, tru_non, tru_bl, tru_int, tru_str, tru_tup, tru_rol, tru_ref, qIf, qNil, qCons, qTup, qLst, qCB, cInt_i, cInt2_ii, cToInt_i, cToInt_b, cLen_s, cLen_t, cLen_r, cLen_l, cTuple_t, cTuple_r, cTuple_l, cList_t, cList_r, cList_l, qNeg, oI_ii, oAdd_ii, oSub, oMul, oDiv, oMod, oPow, oEq, oNe, oEqW_ii, oEqW_ss, oEqW_bb, oLt, oLe, oGt, oGe, oOrd_ii, oOrd_ss, oIx_t, oIx_r, oIx_l, oIx_s, qNo, qPart, qSl, oSl_t, oSl_r, oSl_l, oSl_s, qMeth, mAppend_1, iSeq, iRange1, iRange2, qCall, endsF, startD, List.map_cons, List.map_nil, List.length_cons, List.length_nil, List.length_map, List.cons_append, List.nil_append, List.replicate, List.getElem?_cons_zero, List.getElem?_cons_succ, List.set_cons_zero, List.set_cons_succ, Nat.reduceAdd, Nat.reduceSub, if_true, if_false, id, ups_same, ex_lst, ex_lst2, ex_some, atI_0, atI_1, atI_2, atI_3, ixN_0, ixN_1, ixN_21, oIx_p]
  rw [stepS_ne hps]
  simp only [sSeq, sNext, sBreak, sCont, sDrop, sRet, sRetN, sIf, sSet, sPar, sAsg, sRaise, gN, gE, gC, gU, gS, qVar, qC, qBin, qTB, qChain, qNot, qAnd, qOr, bd_bl, qNotT, qAndT, qOrT, qTru, tru_non, tru_bl, tru_int, tru_str, tru_tup, tru_rol, tru_ref, qIf, qNil, qCons, qTup, qLst, qCB, cInt_i, cInt2_ii, cToInt_i, cToInt_b, cLen_s, cLen_t, cLen_r, cLen_l, cTuple_t, cTuple_r, cTuple_l, cList_t, cList_r, cList_l, qNeg, oI_ii, oAdd_ii, oSub, oMul, oDiv, oMod, oPow, oEq, oNe, oEqW_ii, oEqW_ss, oEqW_bb, oLt, oLe, oGt, oGe, oOrd_ii, oOrd_ss, oIx_t, oIx_r, oIx_l, oIx_s, qNo, qPart, qSl, oSl_t, oSl_r, oSl_l, oSl_s, qMeth, mAppend_1, iSeq, iRange1, iRange2, qCall, endsF, startD, List.map_cons, List.map_nil, List.length_cons, List.length_nil, List.length_map, List.cons_append, List.nil_append, List.replicate, List.getElem?_cons_zero, List.getElem?_cons_succ, List.set_cons_zero, List.set_cons_succ, Nat.reduceAdd, Nat.reduceSub, if_true, if_false, id, ups_same, ex_lst, ex_lst2, ex_some, atI_0, atI_1, atI_2, atI_3, ixN_0, ixN_1, ixN_21, oIx_p]
  obtain ⟨M, eM, M1, M2⟩ : ∃ M : Nat, atI [D.int (1 + r), D.int m] (if decide (u = 0) = true then 1 else 0) = some (.int M) ∧ 1 ≤ M ∧ M ≤ 12 := by
    by_cases hu : u = 0
    · rw [if_pos (decide_eq_true hu)]
      exact ⟨m, atI_1, hm1, hm2⟩
    · rw [if_neg (by simpa using hu)]
      exact ⟨(1 + r).toNat, by rw [atI_0, show ((1 + r).toNat : Int) = 1 + r by omega], by omega, by omega⟩
  simp only [sSeq, sNext, sBreak, sCont, sDrop, sRet, sRetN, sIf, sSet, sPar, sAsg, sRaise, gN, gE, gC, gU, gS, qVar, qC, qBin, qTB, qChain, qNot, qAnd, qOr, bd_bl, qNotT, qAndT, qOrT, qTru, tru_non, tru_bl, tru_int, tru_str, tru_tup, tru_rol, tru_ref, qIf, qNil, qCons, qTup, qLst, qCB, cInt_i, cInt2_ii, cToInt_i, cToInt_b, cLen_s, cLen_t, cLen_r, cLen_l, cTuple_t, cTuple_r, cTuple_l, cList_t, cList_r, cList_l, qNeg, oI_ii, oAdd_ii, oSub, oMul, oDiv, oMod, oPow, oEq, oNe, oEqW_ii, oEqW_ss, oEqW_bb, oLt, oLe, oGt, oGe, oOrd_ii, oOrd_ss, oIx_t, oIx_r, oIx_l, oIx_s, qNo, qPart, qSl, oSl_t, oSl_r, oSl_l, oSl_s, qMeth, mAppend_1, iSeq, iRange1, iRange2, qCall, endsF, startD, List.map_cons, List.map_nil, List.length_cons, List.length_nil, List.length_map, List.cons_append, List.nil_append, List.replicate, List.getElem?_cons_zero, List.getElem?_cons_succ, List.set_cons_zero, List.set_cons_succ, Nat.reduceAdd, Nat.reduceSub, if_true, if_false, id, ups_same, ex_lst, ex_lst2, ex_some, atI_0, atI_1, atI_2, atI_3, ixN_0, ixN_1, ixN_21, oIx_p, eM, true_and]
  rw [sp__law_next]
  refine ⟨s, n, xs, _, M, rfl, I2.st, by omega, by omega, fun v v0 v1 => ?_⟩
  have I3 := I2.step (i := k + 1 + 1 + 1) (by omega)
  refine ⟨by decide, fun p2 hp2 => ?_⟩
  have hps2 := I3.st.ne_s hp2
  have I3 := I3.new hp2 (o := .lst [.int 1, .int (M - 1), .int 2, .int v])
  rw [sp__law_next]
  refine ⟨s, n, xs, _, 4, rfl, I3.st, by omega, by omega, fun u2 w0 w1 => ?_⟩
  have I4 := I3.step (i := k + 1 + 1 + 1 + 1) (by omega)
  obtain ⟨x, ex, hx⟩ := pick12 M1 M2 (a := 1) (b := M - 1) (c := 2) (d := v) w0 w1 (by omega) (by omega) (by omega) (by omega)
  simp only [sSeq, sNext, sBreak, sCont, sDrop, sRet, sRetN, sIf, sSet, sPar, sAsg, sRaise, gN, gE, gC, gU, gS, qVar, qC, qBin, qTB, qChain, qNot, qAnd, qOr, bd_bl, qNotT, qAndT, qOrT, qTru, tru_non, tru_bl, tru_int, tru_str, tru_tup, tru_rol, tru_ref, qIf, qNil, qCons, qTup, qLst, qCB, cInt_i, cInt2_ii, cToInt_i, cToInt_b, cLen_s, cLen_t, cLen_r, cLen_l, cTuple_t, cTuple_r, cTuple_l, cList_t, cList_r, cList_l, qNeg, oI_ii, oAdd_ii, oSub, oMul, oDiv, oMod, oPow, oEq, oNe, oEqW_ii, oEqW_ss, oEqW_bb, oLt, oLe, oGt, oGe, oOrd_ii, oOrd_ss, oIx_t, oIx_r, oIx_l, oIx_s, qNo, qPart, qSl, oSl_t, oSl_r, oSl_l, oSl_s, qMeth, mAppend_1, iSeq, iRange1, iRange2, qCall, endsF, startD, List.map_cons, List.map_nil, List.length_cons, List.length_nil, List.length_map, List.cons_append, List.nil_append, List.replicate, List.getElem?_cons_zero, List.getElem?_cons_succ, List.set_cons_zero, List.set_cons_succ, Nat.reduceAdd, Nat.reduceSub, if_true, if_false, id, ups_same, ex_lst, ex_lst2, ex_some, atI_0, atI_1, atI_2, atI_3, ixN_0, ixN_1, ixN_21, oIx_p, stepS_ne hps2, ex, true_and]
  rw [sp__law_next]
  refine ⟨s, n, xs, _, M, rfl, I4.st, by omega, by omega, fun v' v0' v1' => ?_⟩
  have I5 := I4.step (i := k + 1 + 1 + 1 + 1 + 1) (by omega)
  refine ⟨by decide, fun p3 hp3 => ?_⟩
  have hps3 := I5.st.ne_s hp3
  have I5 := I5.new hp3 (o := .lst [.int 1, .int 2, .int (M - 1), .int v'])
  rw [sp__law_next]
  refine ⟨s, n, xs, _, 4, rfl, I5.st, by omega, by omega, fun u3 w0' w1' => ?_⟩
  have I6 := I5.step (i := k + 1 + 1 + 1 + 1 + 1 + 1) (by omega)
  obtain ⟨y, ey, hy⟩ := pick12 M1 M2 (a := 1) (b := 2) (c := M - 1) (d := v') w0' w1' (by omega) (by omega) (by omega) (by omega)
  simp only [sSeq, sNext, sBreak, sCont, sDrop, sRet, sRetN, sIf, sSet, sPar, sAsg, sRaise, gN, gE, gC, gU, gS, qVar, qC, qBin, qTB, qChain, qNot, qAnd, qOr, bd_bl, qNotT, qAndT, qOrT, qTru, tru_non, tru_bl, tru_int, tru_str, tru_tup, tru_rol, tru_ref, qIf, qNil, qCons, qTup, qLst, qCB, cInt_i, cInt2_ii, cToInt_i, cToInt_b, cLen_s, cLen_t, cLen_r, cLen_l, cTuple_t, cTuple_r, cTuple_l, cList_t, cList_r, cList_l, qNeg, oI_ii, oAdd_ii, oSub, oMul, oDiv, oMod, oPow, oEq, oNe, oEqW_ii, oEqW_ss, oEqW_bb, oLt, oLe, oGt, oGe, oOrd_ii, oOrd_ss, oIx_t, oIx_r, oIx_l, oIx_s, qNo, qPart, qSl, oSl_t, oSl_r, oSl_l, oSl_s, qMeth, mAppend_1, iSeq, iRange1, iRange2, qCall, endsF, startD, List.map_cons, List.map_nil, List.length_cons, List.length_nil, List.length_map, List.cons_append, List.nil_append, List.replicate, List.getElem?_cons_zero, List.getElem?_cons_succ, List.set_cons_zero, List.set_cons_succ, Nat.reduceAdd, Nat.reduceSub, if_true, if_false, id, ups_same, ex_lst, ex_lst2, ex_some, atI_0, atI_1, atI_2, atI_3, ixN_0, ixN_1, ixN_21, oIx_p, stepS_ne hps3, ey, true_and]
  rw [sp__law_ring]
  refine ⟨M, x, y, rfl, M1, M2, hx, hy, fun t hs hf => ?_⟩
  rw [sp__law_next]
  refine ⟨s, n, xs, _, 2, rfl, I6.st, by omega, by omega, fun u4 x0 x1 => ?_⟩
  have I7 := I6.step (i := k + 1 + 1 + 1 + 1 + 1 + 1 + 1) (by omega)
  by_cases hu : u4 = 0
  · refine ifT (decide_eq_true hu) ?_
    simp only [sp__law_order, sp__law_renamed]
    refine ⟨s, n, xs, _, M, rfl, I7.st, by omega, M1, M2, fun o j ho j1 j2 => ⟨t, M, o, rfl, hs, hf, ho, fun t' hs' hf' => ?_⟩⟩
    have I8 := I7.step (i := j) (by omega)
    refine lt_ok I8 (by omega) hs' hf' fun t2 S' j' z4 z5 z6 h1 h2 I' i1 i2 => ?_
    exact ⟨_, I'.at_, q t2 M j' h1 h2 (by omega) (by omega)⟩
  · refine ifF (decide_eq_false hu) ?_
    refine lt_ok I7 (by omega) hs hf fun t2 S' j' z4 z5 z6 h1 h2 I' i1 i2 => ?_
    exact ⟨_, I'.at_, q t2 M j' h1 h2 (by omega) (by omega)⟩
end K35

namespace K35
open PySem PySem.Spec PyProof.Rows L2 PL
variable {ad : Ad} {t : Tb} {m : Nat}
/-- rows as lists of their own -/
structure Rows (S0 S : Sto) (p : Addr) (as : List Addr) (rs : Tb) : Prop where
  len : as.length = rs.length
  nd : as.Nodup
  top : S p = some (.lst (as.map D.ref))
  np : p ∉ as
  fresh : ∀ a ∈ as, S0 a = none
  row : ∀ (j : Nat) (a : Addr) (r : List Int), as[j]? = some a → rs[j]? = some r → S a = some (.lst (r.map D.int))
theorem set_row (hs : Sq t m) {i j : Nat} (hi : i < m) (hj : j < m) : Sq (t.set i ((t.getD i []).set j (-1))) m := by
  have hrl := hs.row_len hi
  have hm := getD_mem (xs := t) (d := []) (show i < t.length by rw [hs.len]; exact hi)
  have hpos := hs.pos
  refine ⟨hs.pos, hs.le, by rw [List.length_set]; exact hs.len, fun r hr => ?_, fun r hr => ?_⟩
  · rcases List.mem_or_eq_of_mem_set hr with h | rfl
    · exact hs.row r h
    · rw [List.length_set]
      exact hrl
  · rcases List.mem_or_eq_of_mem_set hr with h | rfl
    · exact hs.rng r h
    · intro x hx
      rcases List.mem_or_eq_of_mem_set hx with h | rfl
      · exact hs.rng _ hm x h
      · omega
theorem set_c (hs : Sq t m) {i j : Nat} (hi : i < m) (hj : j < m) (a b : Nat) (ha : a < m) (hb : b < m) : c (t.set i ((t.getD i []).set j (-1))) a b = if a = i ∧ b = j then -1 else c t a b := by
  have hrl := hs.row_len hi
  have hlen := hs.len
  unfold c
  by_cases e : i = a
  · subst e
    have e1 : (t.set i ((t.getD i []).set j (-1))).getD i [] = (t.getD i []).set j (-1) := by
      rw [List.getD_eq_getElem?_getD, List.getElem?_set_self (by omega)]
      rfl
    rw [e1]
    by_cases e2 : j = b
    · subst e2
      rw [if_pos ⟨rfl, rfl⟩, List.getD_eq_getElem?_getD, List.getElem?_set_self (by omega)]
      rfl
    · rw [if_neg (fun z => e2 z.2.symm), List.getD_eq_getElem?_getD, List.getElem?_set_ne e2, ← List.getD_eq_getElem?_getD]
  · rw [if_neg (fun z => e z.1.symm)]
    have e1 : (t.set i ((t.getD i []).set j (-1))).getD a [] = t.getD a [] := by
      rw [List.getD_eq_getElem?_getD, List.getElem?_set_ne e, ← List.getD_eq_getElem?_getD]
    rw [e1]
theorem p__law_holes : ∀ ds S Q E, sp__law_holes ad ds S Q E → r__law_holes ad (endsF Q E) (startD N__law_holes ds) S := by
  rintro ds S Q E ⟨s, n, xs, k, t, m, h, rfl, hst, hk, hs, hh, q⟩
  have hk0 := hst.k0
  have hle := hs.le
  have hpos := hs.pos
  have hlen := hs.len
  simp only [r__law_holes, sSeq, sNext, sBreak, sCont, sDrop, sRet, sRetN, sIf, sSet, sPar, sAsg, sRaise, gN, gE, gC, gU, gS, qVar, qC, qBin, qTB, qChain, qNot, qAnd, qOr, bd_bl, qNotT, qAndT, qOrT, qTru, tru_non, tru_bl, tru_int, tru_str, tru_tup, tru_rol, tru_ref, qIf, qNil, qCons, qTup, qLst, qCB, cInt_i, cInt2_ii, cToInt_i, cToInt_b, cLen_s, cLen_t, cLen_r, cLen_l, cTuple_t, cTuple_r, cTuple_l, cList_t, cList_r, cList_l, qNeg, oI_ii, oAdd_ii, oSub, oMul, oDiv, oMod, oPow, oEq, oNe, oEqW_ii, oEqW_ss, oEqW_bb, oLt, oLe, oGt, oGe, oOrd_ii, oOrd_ss, oIx_t, oIx_r, oIx_l, oIx_s, qNo, qPart, qSl, oSl_t, oSl_r, oSl_l, oSl_s, qMeth, mAppend_1, iSeq, iRange1, iRange2, qCall, endsF, startD, List.map_cons, List.map_nil, List.length_cons, List.length_nil, List.length_map, List.cons_append, List.nil_append, List.replicate, List.getElem?_cons_zero, List.getElem?_cons_succ, List.set_cons_zero, List.set_cons_succ, Nat.reduceAdd, Nat.reduceSub, if_true, if_false, id, ups_same, ex_lst, ex_lst2, ex_some, atI_0, atI_1, atI_2, atI_3, ixN_0, ixN_1, ixN_21, oIx_p]
  unfold tD
  simp only [sSeq, sNext, sBreak, sCont, sDrop, sRet, sRetN, sIf, sSet, sPar, sAsg, sRaise, gN, gE, gC, gU, gS, qVar, qC, qBin, qTB, qChain, qNot, qAnd, qOr, bd_bl, qNotT, qAndT, qOrT, qTru, tru_non, tru_bl, tru_int, tru_str, tru_tup, tru_rol, tru_ref, qIf, qNil, qCons, qTup, qLst, qCB, cInt_i, cInt2_ii, cToInt_i, cToInt_b, cLen_s, cLen_t, cLen_r, cLen_l, cTuple_t, cTuple_r, cTuple_l, cList_t, cList_r, cList_l, qNeg, oI_ii, oAdd_ii, oSub, oMul, oDiv, oMod, oPow, oEq, oNe, oEqW_ii, oEqW_ss, oEqW_bb, oLt, oLe, oGt, oGe, oOrd_ii, oOrd_ss, oIx_t, oIx_r, oIx_l, oIx_s, qNo, qPart, qSl, oSl_t, oSl_r, oSl_l, oSl_s, qMeth, mAppend_1, iSeq, iRange1, iRange2, qCall, endsF, startD, List.map_cons, List.map_nil, List.length_cons, List.length_nil, List.length_map, List.cons_append, List.nil_append, List.replicate, List.getElem?_cons_zero, List.getElem?_cons_succ, List.set_cons_zero, List.set_cons_succ, Nat.reduceAdd, Nat.reduceSub, if_true, if_false, id, ups_same, ex_lst, ex_lst2, ex_some, atI_0, atI_1, atI_2, atI_3, ixN_0, ixN_1, ixN_21, oIx_p]
  rw [hlen]
  refine lc_intro ?_
  simp only [sSeq, sNext, sBreak, sCont, sDrop, sRet, sRetN, sIf, sSet, sPar, sAsg, sRaise, gN, gE, gC, gU, gS, qVar, qC, qBin, qTB, qChain, qNot, qAnd, qOr, bd_bl, qNotT, qAndT, qOrT, qTru, tru_non, tru_bl, tru_int, tru_str, tru_tup, tru_rol, tru_ref, qIf, qNil, qCons, qTup, qLst, qCB, cInt_i, cInt2_ii, cToInt_i, cToInt_b, cLen_s, cLen_t, cLen_r, cLen_l, cTuple_t, cTuple_r, cTuple_l, cList_t, cList_r, cList_l, qNeg, oI_ii, oAdd_ii, oSub, oMul, oDiv, oMod, oPow, oEq, oNe, oEqW_ii, oEqW_ss, oEqW_bb, oLt, oLe, oGt, oGe, oOrd_ii, oOrd_ss, oIx_t, oIx_r, oIx_l, oIx_s, qNo, qPart, qSl, oSl_t, oSl_r, oSl_l, oSl_s, qMeth, mAppend_1, iSeq, iRange1, iRange2, qCall, endsF, startD, List.map_cons, List.map_nil, List.length_cons, List.length_nil, List.length_map, List.cons_append, List.nil_append, List.replicate, List.getElem?_cons_zero, List.getElem?_cons_succ, List.set_cons_zero, List.set_cons_succ, Nat.reduceAdd, Nat.reduceSub, if_true, if_false, id, ups_same, ex_lst, ex_lst2, ex_some, atI_0, atI_1, atI_2, atI_3, ixN_0, ixN_1, ixN_21, oIx_p]
  intro p hp
  refine ⟨fun i acc S' => ∃ as, acc = as.map D.ref ∧ i ≤ m ∧ Sub S S' ∧ Rows S S' p as (t.take i), ⟨[], rfl, Nat.zero_le _, (Sub.refl S).new hp, ⟨by simp, List.nodup_nil, ups_same, by simp, by simp, fun j a r z => by simp at z⟩⟩, ?_, ?_⟩
  · rintro i d acc S' hi ⟨as, rfl, him, sub, R⟩
    refine ⟨trivial, ?_⟩
    obtain ⟨r, hi0, rfl⟩ := get_emb (show (t.map rD)[i]? = some d from hi)
    have hil := (List.getElem?_eq_some_iff.mp hi0).1
    have hal := R.len
    rw [List.length_take] at hal
    simp only [wipeD, rD, qYes, sSeq, sNext, sBreak, sCont, sDrop, sRet, sRetN, sIf, sSet, sPar, sAsg, sRaise, gN, gE, gC, gU, gS, qVar, qC, qBin, qTB, qChain, qNot, qAnd, qOr, bd_bl, qNotT, qAndT, qOrT, qTru, tru_non, tru_bl, tru_int, tru_str, tru_tup, tru_rol, tru_ref, qIf, qNil, qCons, qTup, qLst, qCB, cInt_i, cInt2_ii, cToInt_i, cToInt_b, cLen_s, cLen_t, cLen_r, cLen_l, cTuple_t, cTuple_r, cTuple_l, cList_t, cList_r, cList_l, qNeg, oI_ii, oAdd_ii, oSub, oMul, oDiv, oMod, oPow, oEq, oNe, oEqW_ii, oEqW_ss, oEqW_bb, oLt, oLe, oGt, oGe, oOrd_ii, oOrd_ss, oIx_t, oIx_r, oIx_l, oIx_s, qNo, qPart, qSl, oSl_t, oSl_r, oSl_l, oSl_s, qMeth, mAppend_1, iSeq, iRange1, iRange2, qCall, endsF, startD, List.map_cons, List.map_nil, List.length_cons, List.length_nil, List.length_map, List.cons_append, List.nil_append, List.replicate, List.getElem?_cons_zero, List.getElem?_cons_succ, List.set_cons_zero, List.set_cons_succ, Nat.reduceAdd, Nat.reduceSub, if_true, if_false, id, ups_same, ex_lst, ex_lst2, ex_some, atI_0, atI_1, atI_2, atI_3, ixN_0, ixN_1, ixN_21, oIx_p]
    intro a ha
    have hap : a ≠ p := fun z => by
      rw [z, R.top] at ha
      cases ha
    have e1 : ups S' a (.lst (r.map D.int)) p = some (.lst (as.map D.ref)) := by
      rw [ups_ne (Ne.symm hap)]
      exact R.top
    refine ⟨e1, szB (by omega), as ++ [a], by rw [List.map_append]; rfl, by omega, (sub.new ha).at hp, ?_⟩
    have has : ∀ b ∈ as, ∃ r : List Int, S' b = some (.lst (r.map D.int)) := fun b hb => by
      obtain ⟨j, hj, e⟩ := List.mem_iff_getElem.mp hb
      have hjt : j < (t.take i).length := by rw [← R.len]; exact hj
      exact ⟨_, R.row j b _ (by rw [List.getElem?_eq_getElem hj, e]) (List.getElem?_eq_getElem hjt)⟩
    have hna : a ∉ as := fun z => by
      obtain ⟨r, e⟩ := has a z
      rw [e] at ha
      cases ha
    refine ⟨?_, ?_, by rw [ups_same, List.map_append]; rfl, ?_, ?_, ?_⟩
    · rw [List.length_append, List.take_succ, hi0, List.length_append, R.len]
      rfl
    · exact List.nodup_append.mpr ⟨R.nd, by simp, fun x hx y hy z => by
        rw [List.mem_singleton.mp hy] at z
        exact hna (z ▸ hx)⟩
    · intro z
      rcases List.mem_append.mp z with z | z
      · exact R.np z
      · exact hap (List.mem_singleton.mp z).symm
    · intro b hb
      rcases List.mem_append.mp hb with z | z
      · exact R.fresh b z
      · rw [List.mem_singleton.mp z]
        exact sub.none ha
    · intro j b r' hj hr
      rw [List.take_succ, hi0] at hr
      by_cases hl : j < as.length
      · rw [List.getElem?_append_left hl] at hj
        rw [List.getElem?_append_left (by rw [← R.len]; exact hl)] at hr
        have e := R.row j b r' hj hr
        have hb : b ∈ as := List.mem_of_getElem? hj
        rw [ups_ne (show b ≠ p from fun z => R.np (by rw [← z]; exact hb)), ups_ne (show b ≠ a from fun z => hna (by rw [← z]; exact hb))]
        exact e
      · have hl2 := (List.getElem?_eq_some_iff.mp hj).1
        rw [List.length_append, List.length_singleton] at hl2
        obtain rfl : j = as.length := by omega
        rw [List.getElem?_append_right (Nat.le_refl _), Nat.sub_self] at hj
        rw [R.len, List.getElem?_append_right (Nat.le_refl _), Nat.sub_self] at hr
        obtain rfl : a = b := by simpa using hj
        obtain rfl : r = r' := by simpa using hr
        rw [ups_ne hap]
        exact ups_same
  · rintro acc S1 ⟨as, rfl, _, sub, R⟩
    refine ⟨trivial, ?_⟩
    have R : Rows S S1 p as t := by
      have e : (Src.vals (t.map rD)).items.length = t.length := by simp [Src.items]
      rw [e, List.take_length] at R
      exact R
    have I1 := (St.start hst).sub sub
    unfold sFor
    simp only [sSeq, sNext, sBreak, sCont, sDrop, sRet, sRetN, sIf, sSet, sPar, sAsg, sRaise, gN, gE, gC, gU, gS, qVar, qC, qBin, qTB, qChain, qNot, qAnd, qOr, bd_bl, qNotT, qAndT, qOrT, qTru, tru_non, tru_bl, tru_int, tru_str, tru_tup, tru_rol, tru_ref, qIf, qNil, qCons, qTup, qLst, qCB, cInt_i, cInt2_ii, cToInt_i, cToInt_b, cLen_s, cLen_t, cLen_r, cLen_l, cTuple_t, cTuple_r, cTuple_l, cList_t, cList_r, cList_l, qNeg, oI_ii, oAdd_ii, oSub, oMul, oDiv, oMod, oPow, oEq, oNe, oEqW_ii, oEqW_ss, oEqW_bb, oLt, oLe, oGt, oGe, oOrd_ii, oOrd_ss, oIx_t, oIx_r, oIx_l, oIx_s, qNo, qPart, qSl, oSl_t, oSl_r, oSl_l, oSl_s, qMeth, mAppend_1, iSeq, iRange1, iRange2, qCall, endsF, startD, List.map_cons, List.map_nil, List.length_cons, List.length_nil, List.length_map, List.cons_append, List.nil_append, List.replicate, List.getElem?_cons_zero, List.getElem?_cons_succ, List.set_cons_zero, List.set_cons_succ, Nat.reduceAdd, Nat.reduceSub, if_true, if_false, id, ups_same, ex_lst, ex_lst2, ex_some, atI_0, atI_1, atI_2, atI_3, ixN_0, ixN_1, ixN_21, oIx_p]
    refine ⟨by omega, by omega, fun i loc S' => ∃ (rs : Tb) (z5 : Option D), loc = [some (.ref s), some (.tup (t.map rD)), some (.int h), some (.int m), some (.ref p), z5, none] ∧ Sq rs m ∧ Le rs t m ∧ (1 ≤ i → ∃ a b, a < m ∧ b < m ∧ c rs a b = -1) ∧ Rows S S' p as rs ∧ St S S' s n xs (k + 2 * i), ⟨t, _, rfl, hs, fun _ _ _ _ => .inr rfl, fun z => absurd z (by omega), R, by simpa using I1⟩, ?_, ?_⟩
    · rintro i d loc S' hi ⟨rs, z5, rfl, hsr, hle2, hex, R2, I⟩
      obtain ⟨hi1, rfl⟩ := rangeD_get hi
      have hrl := hsr.len
      refine ⟨trivial, ?_⟩
      simp only [r__law_holes_b1, sp__law_next, sSeq, sNext, sBreak, sCont, sDrop, sRet, sRetN, sIf, sSet, sPar, sAsg, sRaise, gN, gE, gC, gU, gS, qVar, qC, qBin, qTB, qChain, qNot, qAnd, qOr, bd_bl, qNotT, qAndT, qOrT, qTru, tru_non, tru_bl, tru_int, tru_str, tru_tup, tru_rol, tru_ref, qIf, qNil, qCons, qTup, qLst, qCB, cInt_i, cInt2_ii, cToInt_i, cToInt_b, cLen_s, cLen_t, cLen_r, cLen_l, cTuple_t, cTuple_r, cTuple_l, cList_t, cList_r, cList_l, qNeg, oI_ii, oAdd_ii, oSub, oMul, oDiv, oMod, oPow, oEq, oNe, oEqW_ii, oEqW_ss, oEqW_bb, oLt, oLe, oGt, oGe, oOrd_ii, oOrd_ss, oIx_t, oIx_r, oIx_l, oIx_s, qNo, qPart, qSl, oSl_t, oSl_r, oSl_l, oSl_s, qMeth, mAppend_1, iSeq, iRange1, iRange2, qCall, endsF, startD, List.map_cons, List.map_nil, List.length_cons, List.length_nil, List.length_map, List.cons_append, List.nil_append, List.replicate, List.getElem?_cons_zero, List.getElem?_cons_succ, List.set_cons_zero, List.set_cons_succ, Nat.reduceAdd, Nat.reduceSub, if_true, if_false, id, ups_same, ex_lst, ex_lst2, ex_some, atI_0, atI_1, atI_2, atI_3, ixN_0, ixN_1, ixN_21, oIx_p]
      refine ⟨s, n, xs, _, m, rfl, I.st, by omega, by omega, fun a a0 a1 => ?_⟩
      obtain ⟨a, rfl⟩ := Int.eq_ofNat_of_zero_le a0
      have ha : a < m := by omega
      have hSp : S p = none := hp
      have haa : a < as.length := by rw [R2.len, hrl]; exact ha
      have I2 := I.step (i := k + 2 * i + 1) (by omega)
      refine ⟨as.map D.ref, by rw [stepS_ne (I.ns hSp)]; exact R2.top, .ref as[a], by rw [atI_lt, List.getElem?_map, List.getElem?_eq_getElem haa]; rfl, ?_⟩
      refine ⟨s, n, xs, _, m, rfl, I2.st, by omega, by omega, fun b b0 b1 => ?_⟩
      obtain ⟨b, rfl⟩ := Int.eq_ofNat_of_zero_le b0
      have hb : b < m := by omega
      have I3 := I2.step (i := k + 2 * i + 1 + 1) (by omega)
      have hra : a < rs.length := by omega
      have e1 := R2.row a as[a] rs[a] (List.getElem?_eq_getElem haa) (List.getElem?_eq_getElem hra)
      have hfr : S as[a] = none := R2.fresh _ (List.getElem_mem haa)
      have erow : rs.getD a [] = rs[a] := by rw [List.getD_eq_getElem?_getD, List.getElem?_eq_getElem hra]; rfl
      have hrow := hsr.row_len ha
      rw [erow] at hrow
      have e2 : stepS (stepS S' s n (k + 2 * i + 1)) s n (k + 2 * i + 1 + 1) as[a] = some (.lst (rs[a].map D.int)) := by
        rw [stepS_ne (I.ns hfr), stepS_ne (I.ns hfr)]
        exact e1
      refine ⟨rs[a].map D.int, b, e2, ixN_lt (by rw [List.length_map]; omega), rs.set a (rs[a].set b (-1)), _, rfl, by rw [← erow]; exact set_row hsr ha hb, ?_, fun _ => ⟨a, b, ha, hb, ?_⟩, ?_, ?_⟩
      · intro x y hx hy
        rw [← erow, set_c hsr ha hb x y hx hy]
        split
        · exact .inl rfl
        · exact hle2 x y hx hy
      · rw [← erow, set_c hsr ha hb a b ha hb, if_pos ⟨rfl, rfl⟩]
      · refine ⟨by rw [List.length_set]; exact R2.len, R2.nd, ?_, R2.np, R2.fresh, fun j a' r hj hr => ?_⟩
        · rw [ups_ne (fun z => R2.np (by rw [z]; exact List.getElem_mem haa)), stepS_ne (I.ns hSp), stepS_ne (I.ns hSp)]
          exact R2.top
        · by_cases hja : a = j
          · subst hja
            rw [List.getElem?_set_self hra] at hr
            obtain rfl := Option.some.inj hr
            rw [List.getElem?_eq_getElem haa] at hj
            obtain rfl := Option.some.inj hj
            rw [ups_same, List.map_set]
          · rw [List.getElem?_set_ne hja] at hr
            have e := R2.row j a' r hj hr
            have hne : a' ≠ as[a] := fun z => by
              obtain ⟨hj2, e3⟩ := List.getElem?_eq_some_iff.mp hj
              rw [← e3] at z
              exact hja ((List.getElem_inj R2.nd).mp z).symm
            have hfa : S a' = none := R2.fresh _ (List.mem_of_getElem? hj)
            rw [ups_ne hne, stepS_ne (I.ns hfa), stepS_ne (I.ns hfa)]
            exact e
      · have I4 := I3.set hfr (o := .lst ((rs[a].map D.int).set b (.int (-1))))
        have e : k + 2 * (i : Int) + 1 + 1 = k + 2 * ((i + 1 : Nat) : Int) := by omega
        rw [← e]
        exact I4
    · rintro loc S' ⟨rs, z5, rfl, hsr, hle2, hex, R2, I⟩
      refine ⟨trivial, ?_⟩
      have e9 : (Src.vals (rangeD 0 (h : Int).toNat)).items.length = h := by
        have := rangeD_len (lo := 0) (n := (h : Int).toNat)
        rw [Int.toNat_natCast] at this
        exact this
      rw [e9] at I hex
      have hrl := hsr.len
      refine lc_go (.live p (as.map D.ref)) (fun i => rs[i]?.map rD) (fun Q q => by simp only [sSeq, sNext, sBreak, sCont, sDrop, sRet, sRetN, sIf, sSet, sPar, sAsg, sRaise, gN, gE, gC, gU, gS, qVar, qC, qBin, qTB, qChain, qNot, qAnd, qOr, bd_bl, qNotT, qAndT, qOrT, qTru, tru_non, tru_bl, tru_int, tru_str, tru_tup, tru_rol, tru_ref, qIf, qNil, qCons, qTup, qLst, qCB, cInt_i, cInt2_ii, cToInt_i, cToInt_b, cLen_s, cLen_t, cLen_r, cLen_l, cTuple_t, cTuple_r, cTuple_l, cList_t, cList_r, cList_l, qNeg, oI_ii, oAdd_ii, oSub, oMul, oDiv, oMod, oPow, oEq, oNe, oEqW_ii, oEqW_ss, oEqW_bb, oLt, oLe, oGt, oGe, oOrd_ii, oOrd_ss, oIx_t, oIx_r, oIx_l, oIx_s, qNo, qPart, qSl, oSl_t, oSl_r, oSl_l, oSl_s, qMeth, mAppend_1, iSeq, iRange1, iRange2, qCall, endsF, startD, List.map_cons, List.map_nil, List.length_cons, List.length_nil, List.length_map, List.cons_append, List.nil_append, List.replicate, List.getElem?_cons_zero, List.getElem?_cons_succ, List.set_cons_zero, List.set_cons_succ, Nat.reduceAdd, Nat.reduceSub, if_true, if_false, id, ups_same, ex_lst, ex_lst2, ex_some, atI_0, atI_1, atI_2, atI_3, ixN_0, ixN_1, ixN_21, oIx_p]; exact ⟨_, R2.top, q⟩) (ok_live R2.top) (by simp [Src.items]; rw [R2.len]; omega) ?_ ?_
      · intro i d S2 C hi sub2 hC
        obtain ⟨a, ha, rfl⟩ := get_emb (show (as.map D.ref)[i]? = some d from hi)
        have hia := (List.getElem?_eq_some_iff.mp ha).1
        have hir : i < rs.length := by rw [← R2.len]; exact hia
        have e := sub2 _ _ (R2.row i a rs[i] ha (List.getElem?_eq_getElem hir))
        simp only [wipeD, qYes, sSeq, sNext, sBreak, sCont, sDrop, sRet, sRetN, sIf, sSet, sPar, sAsg, sRaise, gN, gE, gC, gU, gS, qVar, qC, qBin, qTB, qChain, qNot, qAnd, qOr, bd_bl, qNotT, qAndT, qOrT, qTru, tru_non, tru_bl, tru_int, tru_str, tru_tup, tru_rol, tru_ref, qIf, qNil, qCons, qTup, qLst, qCB, cInt_i, cInt2_ii, cToInt_i, cToInt_b, cLen_s, cLen_t, cLen_r, cLen_l, cTuple_t, cTuple_r, cTuple_l, cList_t, cList_r, cList_l, qNeg, oI_ii, oAdd_ii, oSub, oMul, oDiv, oMod, oPow, oEq, oNe, oEqW_ii, oEqW_ss, oEqW_bb, oLt, oLe, oGt, oGe, oOrd_ii, oOrd_ss, oIx_t, oIx_r, oIx_l, oIx_s, qNo, qPart, qSl, oSl_t, oSl_r, oSl_l, oSl_s, qMeth, mAppend_1, iSeq, iRange1, iRange2, qCall, endsF, startD, List.map_cons, List.map_nil, List.length_cons, List.length_nil, List.length_map, List.cons_append, List.nil_append, List.replicate, List.getElem?_cons_zero, List.getElem?_cons_succ, List.set_cons_zero, List.set_cons_succ, Nat.reduceAdd, Nat.reduceSub, if_true, if_false, id, ups_same, ex_lst, ex_lst2, ex_some, atI_0, atI_1, atI_2, atI_3, ixN_0, ixN_1, ixN_21, oIx_p, e]
        exact hC _ S2 (by rw [List.getElem?_eq_getElem hir]; rfl) (Sub.refl _)
      · intro p2 S2 hp2 sub2 e
        have e8 : (Src.live p (as.map D.ref)).items.length = rs.length := by simp [Src.items]; exact R2.len
        rw [e8, fm_map] at e
        simp only [sSeq, sNext, sBreak, sCont, sDrop, sRet, sRetN, sIf, sSet, sPar, sAsg, sRaise, gN, gE, gC, gU, gS, qVar, qC, qBin, qTB, qChain, qNot, qAnd, qOr, bd_bl, qNotT, qAndT, qOrT, qTru, tru_non, tru_bl, tru_int, tru_str, tru_tup, tru_rol, tru_ref, qIf, qNil, qCons, qTup, qLst, qCB, cInt_i, cInt2_ii, cToInt_i, cToInt_b, cLen_s, cLen_t, cLen_r, cLen_l, cTuple_t, cTuple_r, cTuple_l, cList_t, cList_r, cList_l, qNeg, oI_ii, oAdd_ii, oSub, oMul, oDiv, oMod, oPow, oEq, oNe, oEqW_ii, oEqW_ss, oEqW_bb, oLt, oLe, oGt, oGe, oOrd_ii, oOrd_ss, oIx_t, oIx_r, oIx_l, oIx_s, qNo, qPart, qSl, oSl_t, oSl_r, oSl_l, oSl_s, qMeth, mAppend_1, iSeq, iRange1, iRange2, qCall, endsF, startD, List.map_cons, List.map_nil, List.length_cons, List.length_nil, List.length_map, List.cons_append, List.nil_append, List.replicate, List.getElem?_cons_zero, List.getElem?_cons_succ, List.set_cons_zero, List.set_cons_succ, Nat.reduceAdd, Nat.reduceSub, if_true, if_false, id, ups_same, ex_lst, ex_lst2, ex_some, atI_0, atI_1, atI_2, atI_3, ixN_0, ixN_1, ixN_21, oIx_p, e]
        refine ⟨_, I.at_.trans sub2, q rs _ hsr hle2 (fun h1 hf => ?_) (by omega) (by omega)⟩
        obtain ⟨a, b, ha, hb, e⟩ := hex h1
        have := hf _ (getD_mem (d := []) (show a < rs.length by omega)) _ (getD_mem (d := (0 : Int)) (show b < (rs.getD a []).length by rw [hsr.row_len ha]; exact hb))
        unfold c at e
        omega
end K35

namespace K35
open PySem PySem.Spec PyProof.Rows L2 PL
variable {ad : Ad} {t : Tb} {m : Nat}
theorem mul01_go {b : Bool} {S : Sto} {P : PD} (h : P (.tup (if b = true then [.tup []] else [])) S) : oMulY (.tup [.tup []]) (.int (if b = true then 1 else 0)) S P := by
  cases b with
  | true => exact .inr ⟨_, _, rfl, rfl, by simp, .inl ⟨rfl, h⟩⟩
  | false => exact .inr ⟨_, _, rfl, rfl, by simp, .inr ⟨rfl, h⟩⟩
theorem mul13_go {d : D} {S : Sto} {P : PD} (h : P (.tup (List.replicate 13 d)) S) : oMulY (.tup [d]) (.int 13) S P := .inl (.inr ⟨_, _, rfl, rfl, by simp, by decide, by decide, by simp, h⟩)
theorem cut_last {α : Type} {xs : List α} (h : 1 ≤ xs.length) : cutL xs none (some (-1)) = xs.take (xs.length - 1) := by
  unfold cutL
  have e : HT.sIx xs.length xs.length (some (-1)) = xs.length - 1 := by
    show (if (-1 : Int) < 0 then ((-1 : Int) + (xs.length : Int)).toNat else min (-1 : Int).toNat xs.length) = _
    rw [if_pos (by omega)]
    omega
  rw [e, HT.sIx_none]
  simp
theorem at5 {a b c d e : D} {r : Int} (h0 : 0 ≤ r) (h1 : r < 5) : ∃ x, atI [a, b, c, d, e] r = some x ∧ (x = a ∨ x = b ∨ x = c ∨ x = d ∨ x = e) := by
  obtain ⟨j, rfl⟩ := Int.eq_ofNat_of_zero_le h0
  match j, h1 with
  | 0, _ => exact ⟨a, rfl, .inl rfl⟩
  | 1, _ => exact ⟨b, rfl, .inr (.inl rfl)⟩
  | 2, _ => exact ⟨c, rfl, .inr (.inr (.inl rfl))⟩
  | 3, _ => exact ⟨d, rfl, .inr (.inr (.inr (.inl rfl)))⟩
  | 4, _ => exact ⟨e, rfl, .inr (.inr (.inr (.inr rfl)))⟩
  | n + 5, h => exact absurd h (by omega)
def Bad (t' : Tb) : Prop := Sz t' ∧ ∀ m', ¬ Sq t' m'
theorem bad_nil : Bad [] := ⟨⟨by simp, fun _ z => by cases z⟩, fun m' z => by have := z.pos; have := z.len; simp at this; omega⟩
theorem bad_13 : Bad (List.replicate 13 (List.replicate 13 0)) := ⟨⟨by simp, fun r hr => by rw [List.eq_of_mem_replicate hr]; simp⟩, fun m' z => by have := z.le; have := z.len; simp at this; omega⟩
theorem bad_more (hs : Sq t m) : Bad (t ++ t.take 1) := by
  have hlen := hs.len
  have hle := hs.le
  have hpos := hs.pos
  refine ⟨⟨by simp; omega, fun r hr => ?_⟩, fun m' z => ?_⟩
  · rcases List.mem_append.mp hr with h | h
    · rw [hs.row r h]; omega
    · rw [hs.row r (List.mem_of_mem_take h)]; omega
  · have h1 := z.len
    rw [List.length_append, List.length_take] at h1
    have h2 := z.row _ (List.mem_append_left _ (getD_mem (d := []) (show 0 < t.length by omega)))
    rw [hs.row _ (getD_mem (d := []) (show 0 < t.length by omega))] at h2
    omega
theorem bad_less (hs : Sq t m) : Bad (t.drop 1 ++ if m = 1 then [[]] else []) := by
  have hlen := hs.len
  have hle := hs.le
  have hpos := hs.pos
  refine ⟨⟨by split <;> simp <;> omega, fun r hr => ?_⟩, fun m' z => ?_⟩
  · rcases List.mem_append.mp hr with h | h
    · rw [hs.row r (List.mem_of_mem_drop h)]; omega
    · split at h
      · rw [List.mem_singleton.mp h]; simp
      · cases h
  · have h1 := z.len
    rw [List.length_append, List.length_drop] at h1
    by_cases e : m = 1
    · rw [if_pos e] at h1 z
      have h2 := z.row [] (List.mem_append_right _ (List.mem_singleton.mpr rfl))
      simp at h1 h2
      omega
    · rw [if_neg e] at h1 z
      have h3 : (t.getD 1 []) ∈ t.drop 1 := by
        rw [List.getD_eq_getElem?_getD, List.getElem?_eq_getElem (show 1 < t.length by omega)]
        exact List.mem_of_getElem? (i := 0) (by rw [List.getElem?_drop, List.getElem?_eq_getElem (show 1 + 0 < t.length by omega)]; rfl)
      have h2 := z.row _ (List.mem_append_left _ h3)
      rw [hs.row _ (List.mem_of_mem_drop h3)] at h2
      simp at h1
      omega
theorem bad_setR (hs : Sq t m) {a : Nat} (ha : a < m) {r : List Int} (h1 : r.length ≤ 100) (h2 : r.length ≠ m ∨ ∃ x ∈ r, x < -1 ∨ (m : Int) ≤ x) : Bad (setR t a r) := by
  have hlen := hs.len
  have hle := hs.le
  have hl := setR_len (r := r) (show a < t.length by omega)
  refine ⟨⟨by omega, fun x hx => ?_⟩, fun m' z => ?_⟩
  · rcases setR_mem hx with rfl | h
    · exact h1
    · rw [hs.row x h]; omega
  · have h3 := z.len
    have h4 := z.row _ setR_in
    rcases h2 with h2 | ⟨x, hx, h2⟩
    · omega
    · have := z.rng _ setR_in x hx
      omega
theorem p__law_wrong_table : ∀ ds S Q E, sp__law_wrong_table ad ds S Q E → r__law_wrong_table ad (endsF Q E) (startD N__law_wrong_table ds) S := by
  rintro ds S Q E ⟨s, n, xs, k, t, m, rfl, h, hk, hs, hf, q⟩
  have hk0 := h.k0
  have hlen := hs.len
  have hle := hs.le
  have hpos := hs.pos
  have I0 := St.start h
  have q' : ∀ (t' : Tb) (j : Int), Bad t' → k ≤ j → j ≤ k + 3 → Q (tD t') (stepS S s n j) := fun t' j b => q t' j b.1 b.2
  simp only [r__law_wrong_table, tD, sSeq, sNext, sBreak, sCont, sDrop, sRet, sRetN, sIf, sSet, sPar, sAsg, sRaise, gN, gE, gC, gU, gS, qVar, qC, qBin, qTB, qChain, qNot, qAnd, qOr, bd_bl, qNotT, qAndT, qOrT, qTru, tru_non, tru_bl, tru_int, tru_str, tru_tup, tru_rol, tru_ref, qIf, qNil, qCons, qTup, qLst, qCB, cInt_i, cInt2_ii, cToInt_i, cToInt_b, cLen_s, cLen_t, cLen_r, cLen_l, cTuple_t, cTuple_r, cTuple_l, cList_t, cList_r, cList_l, qNeg, oI_ii, oAdd_ii, oSub, oMul, oDiv, oMod, oPow, oEq, oNe, oEqW_ii, oEqW_ss, oEqW_bb, oLt, oLe, oGt, oGe, oOrd_ii, oOrd_ss, oIx_t, oIx_r, oIx_l, oIx_s, qNo, qPart, qSl, oSl_t, oSl_r, oSl_l, oSl_s, qMeth, mAppend_1, iSeq, iRange1, iRange2, qCall, endsF, startD, List.map_cons, List.map_nil, List.length_cons, List.length_nil, List.length_map, List.cons_append, List.nil_append, List.replicate, List.getElem?_cons_zero, List.getElem?_cons_succ, List.set_cons_zero, List.set_cons_succ, Nat.reduceAdd, Nat.reduceSub, if_true, if_false, id, ups_same, ex_lst, ex_lst2, ex_some, atI_0, atI_1, atI_2, atI_3, ixN_0, ixN_1, ixN_21, oIx_p]
  rw [hlen, sp__law_next]
  refine ⟨s, n, xs, k, m, rfl, h, by omega, by omega, fun a a0 a1 => ?_⟩
  obtain ⟨a, rfl⟩ := Int.eq_ofNat_of_zero_le a0
  have ha : a < m := by omega
  have I1 := I0.step (i := k + 1) (by omega)
  have hrl := hs.row_len ha
  have hrm := getD_mem (xs := t) (d := []) (show a < t.length by omega)
  simp only [sSeq, sNext, sBreak, sCont, sDrop, sRet, sRetN, sIf, sSet, sPar, sAsg, sRaise, gN, gE, gC, gU, gS, qVar, qC, qBin, qTB, qChain, qNot, qAnd, qOr, bd_bl, qNotT, qAndT, qOrT, qTru, tru_non, tru_bl, tru_int, tru_str, tru_tup, tru_rol, tru_ref, qIf, qNil, qCons, qTup, qLst, qCB, cInt_i, cInt2_ii, cToInt_i, cToInt_b, cLen_s, cLen_t, cLen_r, cLen_l, cTuple_t, cTuple_r, cTuple_l, cList_t, cList_r, cList_l, qNeg, oI_ii, oAdd_ii, oSub, oMul, oDiv, oMod, oPow, oEq, oNe, oEqW_ii, oEqW_ss, oEqW_bb, oLt, oLe, oGt, oGe, oOrd_ii, oOrd_ss, oIx_t, oIx_r, oIx_l, oIx_s, qNo, qPart, qSl, oSl_t, oSl_r, oSl_l, oSl_s, qMeth, mAppend_1, iSeq, iRange1, iRange2, qCall, endsF, startD, List.map_cons, List.map_nil, List.length_cons, List.length_nil, List.length_map, List.cons_append, List.nil_append, List.replicate, List.getElem?_cons_zero, List.getElem?_cons_succ, List.set_cons_zero, List.set_cons_succ, Nat.reduceAdd, Nat.reduceSub, if_true, if_false, id, ups_same, ex_lst, ex_lst2, ex_some, atI_0, atI_1, atI_2, atI_3, ixN_0, ixN_1, ixN_21, oIx_p, hs.atr ha, rD, oAdd_tt]
  generalize t.getD a [] = r at hrl hrm
  have l1 := len_cut (xs := r.map D.int) (lo := some 1) (hi := none)
  have l2 := len_cut (xs := r.map D.int) (lo := none) (hi := some (-1))
  have l3 := len_cut (xs := t.map rD) (lo := some 1) (hi := none)
  have l4 := len_cut (xs := t.map rD) (lo := none) (hi := some 1)
  have l5 := len_cut (xs := t.map rD) (lo := none) (hi := some (a : Int))
  have l6 := len_cut (xs := t.map rD) (lo := some ((a : Int) + 1)) (hi := none)
  rw [List.length_map] at l1 l2 l3 l4 l5 l6
  refine ⟨szL (by omega), szL (by omega), szL (by omega), szL (by omega), szL (by omega), szL (by omega), szL (by omega), fun p hp => ?_⟩
  have hps := I1.st.ne_s hp
  have I2 := I1.new hp (o := .lst [.tup (cutL (r.map D.int) (some 1) none), .tup (r.map D.int ++ [D.int 0]), .tup (cutL (r.map D.int) none (some (-1)) ++ [D.int m]), .tup (D.int (-2) :: cutL (r.map D.int) (some 1) none)])
  refine ⟨szL (by omega), szL (by omega), szL (by omega), mul01_go ?_⟩
  rw [oAdd_tt]
  refine ⟨szL (by have : (if decide ((m : Int) = 1) = true then [D.tup []] else []).length ≤ 1 := by { split <;> simp }; omega), szL (by omega), ?_⟩
  rw [sp__law_next]
  refine ⟨s, n, xs, _, 4, rfl, I2.st, by omega, by omega, fun u u0 u1 => ?_⟩
  have I3 := I2.step (i := k + 1 + 1) (by omega)
  obtain ⟨x, ex, hx⟩ := at4 (a := .tup (cutL (r.map D.int) (some 1) none)) (b := .tup (r.map D.int ++ [D.int 0])) (c := .tup (cutL (r.map D.int) none (some (-1)) ++ [D.int m])) (d := .tup (D.int (-2) :: cutL (r.map D.int) (some 1) none)) u0 u1
  simp only [sSeq, sNext, sBreak, sCont, sDrop, sRet, sRetN, sIf, sSet, sPar, sAsg, sRaise, gN, gE, gC, gU, gS, qVar, qC, qBin, qTB, qChain, qNot, qAnd, qOr, bd_bl, qNotT, qAndT, qOrT, qTru, tru_non, tru_bl, tru_int, tru_str, tru_tup, tru_rol, tru_ref, qIf, qNil, qCons, qTup, qLst, qCB, cInt_i, cInt2_ii, cToInt_i, cToInt_b, cLen_s, cLen_t, cLen_r, cLen_l, cTuple_t, cTuple_r, cTuple_l, cList_t, cList_r, cList_l, qNeg, oI_ii, oAdd_ii, oSub, oMul, oDiv, oMod, oPow, oEq, oNe, oEqW_ii, oEqW_ss, oEqW_bb, oLt, oLe, oGt, oGe, oOrd_ii, oOrd_ss, oIx_t, oIx_r, oIx_l, oIx_s, qNo, qPart, qSl, oSl_t, oSl_r, oSl_l, oSl_s, qMeth, mAppend_1, iSeq, iRange1, iRange2, qCall, endsF, startD, List.map_cons, List.map_nil, List.length_cons, List.length_nil, List.length_map, List.cons_append, List.nil_append, List.replicate, List.getElem?_cons_zero, List.getElem?_cons_succ, List.set_cons_zero, List.set_cons_succ, Nat.reduceAdd, Nat.reduceSub, if_true, if_false, id, ups_same, ex_lst, ex_lst2, ex_some, atI_0, atI_1, atI_2, atI_3, ixN_0, ixN_1, ixN_21, oIx_p, stepS_ne hps, ex]
  have c1 : cutL (r.map D.int) (some 1) none = (r.drop 1).map D.int := by
    have := cut_drop (xs := r.map D.int) (a := 1) (by rw [List.length_map]; omega)
    rw [List.map_drop]
    exact this
  obtain ⟨r', rfl, hr1, hr2⟩ : ∃ r' : List Int, x = rD r' ∧ r'.length ≤ 100 ∧ (r'.length ≠ m ∨ ∃ x ∈ r', x < -1 ∨ (m : Int) ≤ x) := by
    rcases hx with rfl | rfl | rfl | rfl
    · refine ⟨r.drop 1, by rw [c1]; rfl, by rw [List.length_drop]; omega, .inl (by rw [List.length_drop]; omega)⟩
    · refine ⟨r ++ [0], by unfold rD; rw [List.map_append]; rfl, by rw [List.length_append, List.length_singleton]; omega, .inl (by rw [List.length_append, List.length_singleton]; omega)⟩
    · refine ⟨r.take (m - 1) ++ [(m : Int)], ?_, by rw [List.length_append, List.length_singleton, List.length_take]; omega, .inr ⟨m, List.mem_append_right _ (List.mem_singleton.mpr rfl), .inr (by omega)⟩⟩
      rw [cut_last (by rw [List.length_map]; omega), List.length_map, hrl]
      unfold rD
      rw [List.map_append, List.map_take]
      rfl
    · exact ⟨-2 :: r.drop 1, by rw [c1]; rfl, by rw [List.length_cons, List.length_drop]; omega, .inr ⟨-2, List.mem_cons_self .., .inl (by omega)⟩⟩
  have hbad := bad_setR hs ha hr1 hr2
  refine ⟨szL (by omega), szL (by omega), szL (by rw [List.length_append, List.length_singleton]; omega), szL (by omega), mul13_go ⟨szL (by omega), mul13_go ⟨szL (by omega), fun p2 hp2 => ?_⟩⟩⟩
  have hps2 := I3.st.ne_s hp2
  rw [tD_setR (by omega)]
  have e1 : D.tup (cutL (t.map rD) (some 1) none ++ if decide ((m : Int) = 1) = true then [D.tup []] else []) = tD (t.drop 1 ++ if m = 1 then [[]] else []) := by
    have := cut_drop (xs := t.map rD) (a := 1) (by rw [List.length_map]; omega)
    rw [show (some ((1 : Nat) : Int)) = some (1 : Int) from rfl] at this
    rw [this]
    unfold tD
    rw [List.map_append, List.map_drop]
    by_cases h1 : m = 1
    · rw [if_pos (by simp [h1]), if_pos h1]
      rfl
    · rw [if_neg (by simp; omega), if_neg h1]
      rfl
  have e2 : D.tup (t.map rD ++ cutL (t.map rD) none (some 1)) = tD (t ++ t.take 1) := by
    have := cut_take (xs := t.map rD) (a := 1) (by rw [List.length_map]; omega)
    rw [show (some ((1 : Nat) : Int)) = some (1 : Int) from rfl] at this
    rw [this]
    unfold tD
    rw [List.map_append, List.map_take]
  rw [e1, e2, sp__law_next]
  have I4 := I3.new hp2 (o := .lst [.tup [], tD (t.drop 1 ++ if m = 1 then [[]] else []), tD (t ++ t.take 1), tD (setR t a r'), .tup (List.replicate 13 (.tup (List.replicate 13 (.int 0))))])
  refine ⟨s, n, xs, _, 5, rfl, I4.st, by omega, by omega, fun v v0 v1 => ?_⟩
  have I5 := I4.step (i := k + 1 + 1 + 1) (by omega)
  obtain ⟨y, ey, hy⟩ := at5 (a := .tup []) (b := tD (t.drop 1 ++ if m = 1 then [[]] else [])) (c := tD (t ++ t.take 1)) (d := tD (setR t a r')) (e := .tup (List.replicate 13 (.tup (List.replicate 13 (.int 0))))) v0 v1
  rw [oIx_l, stepS_ne hps2]
  refine ⟨_, ups_same, y, ey, _, I5.at_, ?_⟩
  rcases hy with rfl | rfl | rfl | rfl | rfl
  · exact q' [] _ bad_nil (by omega) (by omega)
  · exact q' _ _ (bad_less hs) (by omega) (by omega)
  · exact q' _ _ (bad_more hs) (by omega) (by omega)
  · exact q' _ _ hbad (by omega) (by omega)
  · exact q' _ _ bad_13 (by omega) (by omega)
end K35

namespace K35
open PySem PySem.Spec PyProof.Rows L2 PL
variable {t t' : Tb} {m : Nat}
/-! ## cells taken out heal alone -/
theorem kn_sub {f f' : Nat → Int} : ∀ l : List Nat, (∀ i ∈ l, f' i = -1 ∨ f' i = f i) → (kn (l.map f')).Sublist (kn (l.map f))
  | [], _ => List.Sublist.refl _
  | i :: l, h => by
    have ih := kn_sub l fun j hj => h j (List.mem_cons_of_mem _ hj)
    unfold kn at ih ⊢
    rw [List.map_cons, List.map_cons]
    rcases h i (List.mem_cons_self ..) with e | e
    · rw [e, List.filter_cons_of_neg (by simp)]
      by_cases h2 : f i = -1
      · rw [h2, List.filter_cons_of_neg (by simp)]
        exact ih
      · rw [List.filter_cons_of_pos (by simp [h2])]
        exact ih.cons _
    · rw [e]
      by_cases h2 : f i = -1
      · rw [h2, List.filter_cons_of_neg (by simp), List.filter_cons_of_neg (by simp)]
        exact ih
      · rw [List.filter_cons_of_pos (by simp [h2]), List.filter_cons_of_pos (by simp [h2])]
        exact ih.cons₂ _
theorem le_lat (h : Le t' t m) : BLat t' m → BLat t m := by
  rintro (⟨i, hi, e⟩ | ⟨i, hi, e⟩)
  · exact .inl ⟨i, hi, fun nd => e (nd.sublist (kn_sub _ fun j hj => h i j hi (List.mem_range.mp hj)))⟩
  · exact .inr ⟨i, hi, fun nd => e (nd.sublist (kn_sub _ fun j hj => h j i (List.mem_range.mp hj) hi))⟩
theorem le_zero (h : Le t' t m) : BZero t' m → BZero t m := by
  rintro ⟨k, hk, e⟩
  refine ⟨k, hk, ?_⟩
  rcases h k k hk hk with z | z <;> omega
theorem le_com (h : Le t' t m) : BCom t' m → BCom t m := by
  rintro ⟨a, b, h1, h2, h3, h4⟩
  have z1 : c t' a b = c t a b := (h a b h2 (by omega)).resolve_left h3
  have z2 : c t' b a = c t b a := (h b a (by omega) h2).resolve_left (by omega)
  exact ⟨a, b, h1, h2, by omega, by omega⟩
theorem le_bh (h : Le t' t m) (hs : ∀ i j, i < m → j < m → -1 ≤ c t' i j ∧ c t' i j < m) {s a b : Nat} (h1 : s < m) (h2 : a < m) (h3 : b < m) (h4 : bh t' s a b ≠ -1) : bh t s a b = bh t' s a b := by
  unfold bh at h4 ⊢
  by_cases e : c t' s a = -1
  · rw [if_pos e] at h4
    exact absurd rfl h4
  · rw [if_neg e] at h4 ⊢
    have z1 : c t' s a = c t s a := (h s a h1 h2).resolve_left e
    rw [← z1, if_neg e]
    have r := hs s a h1 h2
    exact ((h (c t' s a).toNat b (by omega) h3).resolve_left h4).symm
theorem le_turn (h : Le t' t m) (hs : ∀ i j, i < m → j < m → -1 ≤ c t' i j ∧ c t' i j < m) : BTurn t' m → BTurn t m := by
  rintro ⟨s, a, b, h1, h2, h3, h4, h5⟩
  have e1 := le_bh h hs h1 (show a < m by omega) h3 h4
  have e2 := le_bh h hs h1 h3 (show a < m by omega) (by rw [← h5]; exact h4)
  exact ⟨s, a, b, h1, h2, h3, by rw [e1]; exact h4, by rw [e1, e2]; exact h5⟩
theorem le_B (h : Le t' t m) (hs : ∀ i j, i < m → j < m → -1 ≤ c t' i j ∧ c t' i j < m) {w : Str} : B t' m w → B t m w := by
  unfold B
  split
  · exact le_lat h
  · split
    · exact le_zero h
    · split
      · exact le_com h
      · exact le_turn h hs
end K35

namespace K35
open PySem PySem.Spec PyProof.Rows L2 PL
variable {ad : Ad}
/-- a comparison that holds -/
theorem check_ok {tb : List (Addr × Str)} {P : QN} {loc : PL.Loc} {S : Sto} {told due : QE} {a b : D} {p : PyData} (ht : ∀ (Q : PD) (E : PX), Q a S → told loc S Q E) (hd : ∀ (Q : PD) (E : PX), (∀ S', Sub S S' → TabOk tb S' → Q b S') → due loc S Q E)
    (da : Dat S a p) (db : Dat S b p) (hg : good (.list [p])) (hn : ∀ S', Sub S S' → TabOk tb S' → P.nx loc S') :
    sIf (qNotT (qTru (qCall (sp__law_same ad) (qCons told (qCons due qNil))))) (sRet (qC (.bl false))) sNext P loc S := by
  simp only [sp__law_same, sSeq, sNext, sBreak, sCont, sDrop, sRet, sRetN, sIf, sSet, sPar, sAsg, sRaise, gN, gE, gC, gU, gS, qVar, qC, qBin, qTB, qChain, qNot, qAnd, qOr, bd_bl, qNotT, qAndT, qOrT, qTru, tru_non, tru_bl, tru_int, tru_str, tru_tup, tru_rol, tru_ref, qIf, qNil, qCons, qTup, qLst, qCB, cInt_i, cInt2_ii, cToInt_i, cToInt_b, cLen_s, cLen_t, cLen_r, cLen_l, cTuple_t, cTuple_r, cTuple_l, cList_t, cList_r, cList_l, qNeg, oI_ii, oAdd_ii, oSub, oMul, oDiv, oMod, oPow, oEq, oNe, oEqW_ii, oEqW_ss, oEqW_bb, oLt, oLe, oGt, oGe, oOrd_ii, oOrd_ss, oIx_t, oIx_r, oIx_l, oIx_s, qNo, qPart, qSl, oSl_t, oSl_r, oSl_l, oSl_s, qMeth, mAppend_1, iSeq, iRange1, iRange2, qCall, endsF, startD, List.map_cons, List.map_nil, List.length_cons, List.length_nil, List.length_map, List.cons_append, List.nil_append, List.replicate, List.getElem?_cons_zero, List.getElem?_cons_succ, List.set_cons_zero, List.set_cons_succ, Nat.reduceAdd, Nat.reduceSub, if_true, if_false, id, ups_same, ex_lst, ex_lst2, ex_some, atI_0, atI_1, atI_2, atI_3, ixN_0, ixN_1, ixN_21, oIx_p]
  refine ht _ _ (hd _ _ fun S' s' t' => ⟨a, b, p, rfl, Dat.sub s' _ _ da, Dat.sub s' _ _ db, hg, ?_⟩)
  exact hn S' s' t'
structure Inv (tb : List (Addr × Str)) (s n : Addr) (xs : List Int) (k : Int) (S : Sto) : Prop where
  st : Strm S s n xs k
  tok : TabOk tb S
theorem Inv.sub {tb : List (Addr × Str)} {s n : Addr} {xs : List Int} {k : Int} {S S' : Sto} (h : Inv tb s n xs k S) (b : Sub S S') (t : TabOk tb S') : Inv tb s n xs k S' := ⟨h.st.sub b, t⟩
theorem Inv.fresh {tb : List (Addr × Str)} {s n p : Addr} {xs : List Int} {k : Int} {S : Sto} {ds : List D} (h : Inv tb s n xs k S) (hp : S p = none) : Inv tb s n xs k (ups S p (.lst ds)) := ⟨h.st.fresh hp, h.tok.new hp⟩
theorem Inv.step {tb : List (Addr × Str)} {s n : Addr} {xs : List Int} {k j : Int} {S : Sto} (h : Inv tb s n xs k S) (hj : 0 ≤ j) : Inv tb s n xs j (stepS S s n j) := ⟨h.st.next hj, h.tok.set h.st.st⟩
def blP (b : Bool) : PyData := .tuple [.str "told", .bool b]
theorem dat_bl (S : Sto) (b : Bool) : Dat S (.tup [.str "told", .bl b]) (blP b) := Dat.pure (.tup [.str "told", .bl b]) rfl
theorem good_bl (b : Bool) : good (.list [blP b]) := by
  refine good_of ?_ ?_ ?_
  · have e : (("told" : Str).cps.toList.all fun c => decide (c < 16 ^ 8)) = true := by decide +kernel
    simp only [blP, fine, fines, e, Bool.and_true]
  · have e : ("told" : Str).length = 4 := by decide +kernel
    simp only [blP, sz, szs, e]
    omega
  · show 2 ≤ 60
    decide
def oneP (x : Str) : PyData := .tuple [.str x]
theorem dat_one (S : Sto) (x : Str) : Dat S (.tup [.str x]) (oneP x) := Dat.pure (.tup [.str x]) rfl
theorem good_one {x : Str} (hx : (x.cps.toList.all fun c => decide (c < 16 ^ 8)) = true) (hl : x.length ≤ 100) : good (.list [oneP x]) := by
  refine good_of ?_ ?_ ?_
  · simp only [oneP, fine, fines, hx, Bool.and_true]
  · simp only [oneP, sz, szs]
    omega
  · show 2 ≤ 60
    decide
/-! ## data of tables -/
theorem pure_ints (r : List Int) : pureDs (r.map D.int) = true ∧ fines (pyDs (r.map D.int)) = decide (∀ x ∈ r, x.natAbs.log2 < 1920) := by
  induction r with
  | nil => exact ⟨rfl, rfl⟩
  | cons x r ih =>
    refine ⟨?_, ?_⟩
    · show (pureD (.int x) && pureDs (r.map D.int)) = true
      rw [ih.1]
      rfl
    · show (fine (.int x) && fines (pyDs (r.map D.int))) = _
      rw [ih.2]
      simp [fine]
theorem row_data {r : List Int} (h : ∀ x ∈ r, -20 < x ∧ x < 20) (hl : r.length ≤ 12) : pureDs (r.map D.int) = true ∧ fines (pyDs (r.map D.int)) = true ∧ szs (pyDs (r.map D.int)) ≤ 10 * r.length ∧ PyData.depthAll (pyDs (r.map D.int)) = 0 := by
  clear hl
  induction r with
  | nil => exact ⟨rfl, rfl, Nat.le_refl _, rfl⟩
  | cons x r ih =>
    obtain ⟨h1, h2, h3, h4⟩ := ih fun y hy => h y (List.mem_cons_of_mem _ hy)
    have hx := h x (List.mem_cons_self ..)
    have hlog : x.natAbs.log2 < 5 := log_of (k := 5) (by omega) (by decide)
    refine ⟨?_, ?_, ?_, ?_⟩
    · show (pureD (.int x) && pureDs (r.map D.int)) = true
      rw [h1]
      rfl
    · show (fine (.int x) && fines (pyDs (r.map D.int))) = true
      rw [h2]
      simp only [fine, Bool.and_true, decide_eq_true_eq]
      omega
    · show sz (.int x) + 2 + szs (pyDs (r.map D.int)) ≤ _
      simp only [sz, List.length_cons]
      omega
    · show max 0 (PyData.depthAll (pyDs (r.map D.int))) = 0
      rw [h4]
      rfl
theorem tab_data {t : Tb} (h : ∀ r ∈ t, r.length ≤ 12 ∧ ∀ x ∈ r, -20 < x ∧ x < 20) : pureDs (t.map rD) = true ∧ fines (pyDs (t.map rD)) = true ∧ szs (pyDs (t.map rD)) ≤ 130 * t.length ∧ PyData.depthAll (pyDs (t.map rD)) ≤ 1 := by
  induction t with
  | nil => exact ⟨rfl, rfl, Nat.le_refl _, Nat.zero_le _⟩
  | cons r t ih =>
    obtain ⟨h1, h2, h3, h4⟩ := ih fun y hy => h y (List.mem_cons_of_mem _ hy)
    have hr := h r (List.mem_cons_self ..)
    obtain ⟨g1, g2, g3, g4⟩ := row_data hr.2 hr.1
    have hrl := hr.1
    refine ⟨?_, ?_, ?_, ?_⟩
    · show (pureDs (r.map D.int) && pureDs (t.map rD)) = true
      rw [h1, g1]
      rfl
    · show (fines (pyDs (r.map D.int)) && fines (pyDs (t.map rD))) = true
      rw [h2, g2]
      rfl
    · show (szs (pyDs (r.map D.int)) + 3) + 2 + szs (pyDs (t.map rD)) ≤ _
      rw [List.length_cons]
      omega
    · show max (PyData.depthAll (pyDs (r.map D.int)) + 1) (PyData.depthAll (pyDs (t.map rD))) ≤ 1
      rw [g4]
      omega
theorem sq_data {t : Tb} {m : Nat} (hs : Sq t m) (S : Sto) : Dat S (tD t) (pyD (tD t)) ∧ good (pyD (tD t)) := by
  have hle := hs.le
  obtain ⟨h1, h2, h3, h4⟩ := tab_data (t := t) fun r hr => ⟨by rw [hs.row r hr]; exact hle, fun x hx => by have := hs.rng r hr x hx; omega⟩
  refine ⟨Dat.pure _ h1, good_of h2 ?_ ?_⟩
  · show szs (pyDs (t.map rD)) + 3 ≤ _
    rw [hs.len] at h3
    omega
  · show PyData.depthAll (pyDs (t.map rD)) + 1 ≤ 60
    omega
def trP (s a b : Nat) : PyData := .tuple [.str "told", .tuple [.int s, .int a, .int b]]
theorem dat_tr (S : Sto) (s a b : Nat) : Dat S (.tup [.str "told", .tup [.int s, .int a, .int b]]) (trP s a b) := Dat.pure (.tup [.str "told", .tup [.int s, .int a, .int b]]) rfl
theorem good_tr {s a b : Nat} (hs : s < 12) (ha : a < 12) (hb : b < 12) : good (.list [trP s a b]) := by
  refine good_of ?_ ?_ ?_
  · have e : (("told" : Str).cps.toList.all fun c => decide (c < 16 ^ 8)) = true := by decide +kernel
    have l : ∀ x : Nat, x < 12 → (x : Int).natAbs.log2 < 4 := fun x hx => log_of (k := 4) (by omega) (by decide)
    have l1 := l s hs
    have l2 := l a ha
    have l3 := l b hb
    simp only [trP, fine, fines, e, Bool.and_true, Bool.true_and, Bool.and_eq_true, decide_eq_true_eq]
    omega
  · have e : ("told" : Str).length = 4 := by decide +kernel
    have l : ∀ x : Nat, x < 12 → (x : Int).natAbs.log2 < 4 := fun x hx => log_of (k := 4) (by omega) (by decide)
    have l1 := l s hs
    have l2 := l a ha
    have l3 := l b hb
    simp only [trP, sz, szs, e]
    omega
  · show 3 ≤ 60
    decide
theorem ne_ref {S : Sto} {P : PD} (h : P (.bl false) S) : oEqW not (.tup [.str "refused"]) (.tup [.str "refused"]) S P := by
  refine ⟨oneP "refused", oneP "refused", dat_one S _, dat_one S _, by decide +kernel, by decide +kernel, ?_⟩
  have e : PyData.eqv (oneP "refused") (oneP "refused") = true := by decide +kernel
  rw [e]
  exact h
end K35

namespace K35
open PySem PySem.Spec PyProof.Rows L2 PL
variable {ad : Ad} {t : Tb} {m : Nat}
section
variable {tb : List (Addr × Str)} {nm : Str} {s n : Addr} {xs : List Int} {k : Int} {S : Sto} {P : QN} {y0 y1 y2 y3 y4 y5 y6 y7 y8 y9 y10 y11 y12 y13 y14 y15 y16 y17 : Option D}
theorem c1_ok (nd : ad.six.Nodup) (tok : TabOk tb S) {t' : Tb} (hs : Sq t' m) {w : Str} (hw : w ∈ four) (hn : ∀ S', Sub S S' → TabOk tb S' → P.nx [y0, y1, y2, y3, y4, y5, y6, y7, y8, y9, y10, y11, y12, y13, y14, some (tD t'), some (.str w), some (.bl (dB (B t' m w)))] S') :
    r_law_c1 ad tb nm P [y0, y1, y2, y3, y4, y5, y6, y7, y8, y9, y10, y11, y12, y13, y14, some (tD t'), some (.str w), some (.bl (dB (B t' m w)))] S := by
  unfold r_law_c1
  refine check_ok (a := .tup [.str "told", .bl (dB (B t' m w))]) (b := .tup [.str "told", .bl (dB (B t' m w))]) (p := blP _) (fun Q E hQ => told_ok nd tok fun S1 P1 E1 sub tok1 h1 h2 => ?_) (fun Q E hQ => ?_) (dat_bl S _) (dat_bl S _) (good_bl _) hn
  · simp only [sp_is_broken, sSeq, sNext, sBreak, sCont, sDrop, sRet, sRetN, sIf, sSet, sPar, sAsg, sRaise, gN, gE, gC, gU, gS, qVar, qC, qBin, qTB, qChain, qNot, qAnd, qOr, bd_bl, qNotT, qAndT, qOrT, qTru, tru_non, tru_bl, tru_int, tru_str, tru_tup, tru_rol, tru_ref, qIf, qNil, qCons, qTup, qLst, qCB, cInt_i, cInt2_ii, cToInt_i, cToInt_b, cLen_s, cLen_t, cLen_r, cLen_l, cTuple_t, cTuple_r, cTuple_l, cList_t, cList_r, cList_l, qNeg, oI_ii, oAdd_ii, oSub, oMul, oDiv, oMod, oPow, oEq, oNe, oEqW_ii, oEqW_ss, oEqW_bb, oLt, oLe, oGt, oGe, oOrd_ii, oOrd_ss, oIx_t, oIx_r, oIx_l, oIx_s, qNo, qPart, qSl, oSl_t, oSl_r, oSl_l, oSl_s, qMeth, mAppend_1, iSeq, iRange1, iRange2, qCall, endsF, startD, List.map_cons, List.map_nil, List.length_cons, List.length_nil, List.length_map, List.cons_append, List.nil_append, List.replicate, List.getElem?_cons_zero, List.getElem?_cons_succ, List.set_cons_zero, List.set_cons_succ, Nat.reduceAdd, Nat.reduceSub, if_true, if_false, id, ups_same, ex_lst, ex_lst2, ex_some, atI_0, atI_1, atI_2, atI_3, ixN_0, ixN_1, ixN_21, oIx_p]
    exact ⟨t', m, w, rfl, hs, hw, h1 _ _ sub hQ⟩
  · simp only [sSeq, sNext, sBreak, sCont, sDrop, sRet, sRetN, sIf, sSet, sPar, sAsg, sRaise, gN, gE, gC, gU, gS, qVar, qC, qBin, qTB, qChain, qNot, qAnd, qOr, bd_bl, qNotT, qAndT, qOrT, qTru, tru_non, tru_bl, tru_int, tru_str, tru_tup, tru_rol, tru_ref, qIf, qNil, qCons, qTup, qLst, qCB, cInt_i, cInt2_ii, cToInt_i, cToInt_b, cLen_s, cLen_t, cLen_r, cLen_l, cTuple_t, cTuple_r, cTuple_l, cList_t, cList_r, cList_l, qNeg, oI_ii, oAdd_ii, oSub, oMul, oDiv, oMod, oPow, oEq, oNe, oEqW_ii, oEqW_ss, oEqW_bb, oLt, oLe, oGt, oGe, oOrd_ii, oOrd_ss, oIx_t, oIx_r, oIx_l, oIx_s, qNo, qPart, qSl, oSl_t, oSl_r, oSl_l, oSl_s, qMeth, mAppend_1, iSeq, iRange1, iRange2, qCall, endsF, startD, List.map_cons, List.map_nil, List.length_cons, List.length_nil, List.length_map, List.cons_append, List.nil_append, List.replicate, List.getElem?_cons_zero, List.getElem?_cons_succ, List.set_cons_zero, List.set_cons_succ, Nat.reduceAdd, Nat.reduceSub, if_true, if_false, id, ups_same, ex_lst, ex_lst2, ex_some, atI_0, atI_1, atI_2, atI_3, ixN_0, ixN_1, ixN_21, oIx_p]
    exact ⟨sz2, hQ S (Sub.refl _) tok⟩
theorem c3_ok (nd : ad.six.Nodup) (tok : TabOk tb S) (hs : Sq t m) (hf : Full t) {ws : List Str} (hw : WOk ws) (hl : ws.length ≤ 4) (hn : ∀ S', Sub S S' → TabOk tb S' → P.nx [y0, y1, y2, some (tD t), y4, y5, some (.tup (ws.map D.str)), some (.bl (!dB (∃ w, w ∈ ws ∧ B t m w))), y8, y9, y10, y11, y12, y13, y14, y15, y16, y17] S') :
    r_law_c3 ad tb nm P [y0, y1, y2, some (tD t), y4, y5, some (.tup (ws.map D.str)), some (.bl (!dB (∃ w, w ∈ ws ∧ B t m w))), y8, y9, y10, y11, y12, y13, y14, y15, y16, y17] S := by
  unfold r_law_c3
  have hle := hs.le
  have hlen := hs.len
  refine check_ok (a := .tup [.str "told", .bl (!dB (∃ w, w ∈ ws ∧ B t m w))]) (b := .tup [.str "told", .bl (!dB (∃ w, w ∈ ws ∧ B t m w))]) (p := blP _) (fun Q E hQ => told_ok nd tok fun S1 P1 E1 sub tok1 h1 h2 => ?_) (fun Q E hQ => ?_) (dat_bl S _) (dat_bl S _) (good_bl _) hn
  · simp only [sp_keeps, sSeq, sNext, sBreak, sCont, sDrop, sRet, sRetN, sIf, sSet, sPar, sAsg, sRaise, gN, gE, gC, gU, gS, qVar, qC, qBin, qTB, qChain, qNot, qAnd, qOr, bd_bl, qNotT, qAndT, qOrT, qTru, tru_non, tru_bl, tru_int, tru_str, tru_tup, tru_rol, tru_ref, qIf, qNil, qCons, qTup, qLst, qCB, cInt_i, cInt2_ii, cToInt_i, cToInt_b, cLen_s, cLen_t, cLen_r, cLen_l, cTuple_t, cTuple_r, cTuple_l, cList_t, cList_r, cList_l, qNeg, oI_ii, oAdd_ii, oSub, oMul, oDiv, oMod, oPow, oEq, oNe, oEqW_ii, oEqW_ss, oEqW_bb, oLt, oLe, oGt, oGe, oOrd_ii, oOrd_ss, oIx_t, oIx_r, oIx_l, oIx_s, qNo, qPart, qSl, oSl_t, oSl_r, oSl_l, oSl_s, qMeth, mAppend_1, iSeq, iRange1, iRange2, qCall, endsF, startD, List.map_cons, List.map_nil, List.length_cons, List.length_nil, List.length_map, List.cons_append, List.nil_append, List.replicate, List.getElem?_cons_zero, List.getElem?_cons_succ, List.set_cons_zero, List.set_cons_succ, Nat.reduceAdd, Nat.reduceSub, if_true, if_false, id, ups_same, ex_lst, ex_lst2, ex_some, atI_0, atI_1, atI_2, atI_3, ixN_0, ixN_1, ixN_21, oIx_p]
    refine ⟨t, ws, rfl, ⟨by omega, fun r hr => by rw [hs.row r hr]; omega⟩, by omega, fun m' hs' _ _ => ?_, fun z => ?_⟩
    · obtain rfl : m' = m := by rw [← hs'.len, hlen]
      exact h1 _ _ sub hQ
    · rcases z with z | z
      · exact absurd ⟨hs, hf⟩ (z m)
      · exact absurd hw z
  · simp only [sSeq, sNext, sBreak, sCont, sDrop, sRet, sRetN, sIf, sSet, sPar, sAsg, sRaise, gN, gE, gC, gU, gS, qVar, qC, qBin, qTB, qChain, qNot, qAnd, qOr, bd_bl, qNotT, qAndT, qOrT, qTru, tru_non, tru_bl, tru_int, tru_str, tru_tup, tru_rol, tru_ref, qIf, qNil, qCons, qTup, qLst, qCB, cInt_i, cInt2_ii, cToInt_i, cToInt_b, cLen_s, cLen_t, cLen_r, cLen_l, cTuple_t, cTuple_r, cTuple_l, cList_t, cList_r, cList_l, qNeg, oI_ii, oAdd_ii, oSub, oMul, oDiv, oMod, oPow, oEq, oNe, oEqW_ii, oEqW_ss, oEqW_bb, oLt, oLe, oGt, oGe, oOrd_ii, oOrd_ss, oIx_t, oIx_r, oIx_l, oIx_s, qNo, qPart, qSl, oSl_t, oSl_r, oSl_l, oSl_s, qMeth, mAppend_1, iSeq, iRange1, iRange2, qCall, endsF, startD, List.map_cons, List.map_nil, List.length_cons, List.length_nil, List.length_map, List.cons_append, List.nil_append, List.replicate, List.getElem?_cons_zero, List.getElem?_cons_succ, List.set_cons_zero, List.set_cons_succ, Nat.reduceAdd, Nat.reduceSub, if_true, if_false, id, ups_same, ex_lst, ex_lst2, ex_some, atI_0, atI_1, atI_2, atI_3, ixN_0, ixN_1, ixN_21, oIx_p]
    exact ⟨sz2, hQ S (Sub.refl _) tok⟩
def duD : Option (Nat × Nat × Nat) → D
  | none => .tup [.str "missing"]
  | some x => .tup [.str "told", fD (some x)]
theorem c2_ok (nd : ad.six.Nodup) (tok : TabOk tb S) (hs : Sq t m) (hf : Full t) {r : Option (Nat × Nat × Nat)} (hr : IsFirst t m r) (hn : ∀ S', Sub S S' → TabOk tb S' → P.nx [y0, y1, y2, some (tD t), y4, y5, y6, y7, y8, some (duD r), y10, y11, y12, y13, y14, y15, y16, y17] S') :
    r_law_c2 ad tb nm P [y0, y1, y2, some (tD t), y4, y5, y6, y7, y8, some (duD r), y10, y11, y12, y13, y14, y15, y16, y17] S := by
  unfold r_law_c2
  have hle := hs.le
  have hlen := hs.len
  obtain ⟨p, dp, gp⟩ : ∃ p, Dat S (duD r) p ∧ good (.list [p]) := by
    match r, hr with
    | none, _ => exact ⟨_, dat_one S _, good_one (by decide +kernel) (by decide +kernel)⟩
    | some (s, a, b), hr => exact ⟨_, dat_tr S s a b, good_tr (by have := hr.1; omega) (by have := hr.2.1; have := hr.2.2.1; omega) (by have := hr.2.2.1; omega)⟩
  refine check_ok (a := duD r) (b := duD r) (p := p) (fun Q E hQ => told_ok nd tok fun S1 P1 E1 sub tok1 h1 h2 => ?_) (fun Q E hQ => ?_) dp dp gp hn
  · simp only [sp_first_turned, sSeq, sNext, sBreak, sCont, sDrop, sRet, sRetN, sIf, sSet, sPar, sAsg, sRaise, gN, gE, gC, gU, gS, qVar, qC, qBin, qTB, qChain, qNot, qAnd, qOr, bd_bl, qNotT, qAndT, qOrT, qTru, tru_non, tru_bl, tru_int, tru_str, tru_tup, tru_rol, tru_ref, qIf, qNil, qCons, qTup, qLst, qCB, cInt_i, cInt2_ii, cToInt_i, cToInt_b, cLen_s, cLen_t, cLen_r, cLen_l, cTuple_t, cTuple_r, cTuple_l, cList_t, cList_r, cList_l, qNeg, oI_ii, oAdd_ii, oSub, oMul, oDiv, oMod, oPow, oEq, oNe, oEqW_ii, oEqW_ss, oEqW_bb, oLt, oLe, oGt, oGe, oOrd_ii, oOrd_ss, oIx_t, oIx_r, oIx_l, oIx_s, qNo, qPart, qSl, oSl_t, oSl_r, oSl_l, oSl_s, qMeth, mAppend_1, iSeq, iRange1, iRange2, qCall, endsF, startD, List.map_cons, List.map_nil, List.length_cons, List.length_nil, List.length_map, List.cons_append, List.nil_append, List.replicate, List.getElem?_cons_zero, List.getElem?_cons_succ, List.set_cons_zero, List.set_cons_succ, Nat.reduceAdd, Nat.reduceSub, if_true, if_false, id, ups_same, ex_lst, ex_lst2, ex_some, atI_0, atI_1, atI_2, atI_3, ixN_0, ixN_1, ixN_21, oIx_p]
    refine ⟨t, rfl, ⟨by omega, fun r hr => by rw [hs.row r hr]; omega⟩, fun m' hs' _ => ?_, fun z => absurd ⟨hs, hf⟩ (z m)⟩
    obtain rfl : m' = m := by rw [← hs'.len, hlen]
    refine ⟨fun x hx => ?_, fun hx => ?_⟩
    · obtain rfl := first_uniq hr hx
      exact h1 _ _ sub hQ
    · obtain rfl := first_uniq hr hx
      exact h2 2 S1 (by decide) sub hQ
  · simp only [sSeq, sNext, sBreak, sCont, sDrop, sRet, sRetN, sIf, sSet, sPar, sAsg, sRaise, gN, gE, gC, gU, gS, qVar, qC, qBin, qTB, qChain, qNot, qAnd, qOr, bd_bl, qNotT, qAndT, qOrT, qTru, tru_non, tru_bl, tru_int, tru_str, tru_tup, tru_rol, tru_ref, qIf, qNil, qCons, qTup, qLst, qCB, cInt_i, cInt2_ii, cToInt_i, cToInt_b, cLen_s, cLen_t, cLen_r, cLen_l, cTuple_t, cTuple_r, cTuple_l, cList_t, cList_r, cList_l, qNeg, oI_ii, oAdd_ii, oSub, oMul, oDiv, oMod, oPow, oEq, oNe, oEqW_ii, oEqW_ss, oEqW_bb, oLt, oLe, oGt, oGe, oOrd_ii, oOrd_ss, oIx_t, oIx_r, oIx_l, oIx_s, qNo, qPart, qSl, oSl_t, oSl_r, oSl_l, oSl_s, qMeth, mAppend_1, iSeq, iRange1, iRange2, qCall, endsF, startD, List.map_cons, List.map_nil, List.length_cons, List.length_nil, List.length_map, List.cons_append, List.nil_append, List.replicate, List.getElem?_cons_zero, List.getElem?_cons_succ, List.set_cons_zero, List.set_cons_succ, Nat.reduceAdd, Nat.reduceSub, if_true, if_false, id, ups_same, ex_lst, ex_lst2, ex_some, atI_0, atI_1, atI_2, atI_3, ixN_0, ixN_1, ixN_21, oIx_p]
    exact hQ S (Sub.refl _) tok
theorem b1_ok (nd : ad.six.Nodup) (tok : TabOk tb S) {t' : Tb} (hz : Sz t') (hb : ∀ m, ¬ (Sq t' m ∧ Full t')) {ws : List Str} (hl : ws.length ≤ 4) (hn : P.nx [y0, y1, y2, y3, y4, y5, some (.tup (ws.map D.str)), y7, y8, y9, y10, y11, y12, y13, some (tD t'), y15, y16, y17] S) :
    r_law_b1 ad tb nm P [y0, y1, y2, y3, y4, y5, some (.tup (ws.map D.str)), y7, y8, y9, y10, y11, y12, y13, some (tD t'), y15, y16, y17] S := by
  simp only [r_law_b1, sSeq, sNext, sBreak, sCont, sDrop, sRet, sRetN, sIf, sSet, sPar, sAsg, sRaise, gN, gE, gC, gU, gS, qVar, qC, qBin, qTB, qChain, qNot, qAnd, qOr, bd_bl, qNotT, qAndT, qOrT, qTru, tru_non, tru_bl, tru_int, tru_str, tru_tup, tru_rol, tru_ref, qIf, qNil, qCons, qTup, qLst, qCB, cInt_i, cInt2_ii, cToInt_i, cToInt_b, cLen_s, cLen_t, cLen_r, cLen_l, cTuple_t, cTuple_r, cTuple_l, cList_t, cList_r, cList_l, qNeg, oI_ii, oAdd_ii, oSub, oMul, oDiv, oMod, oPow, oEq, oNe, oEqW_ii, oEqW_ss, oEqW_bb, oLt, oLe, oGt, oGe, oOrd_ii, oOrd_ss, oIx_t, oIx_r, oIx_l, oIx_s, qNo, qPart, qSl, oSl_t, oSl_r, oSl_l, oSl_s, qMeth, mAppend_1, iSeq, iRange1, iRange2, qCall, endsF, startD, List.map_cons, List.map_nil, List.length_cons, List.length_nil, List.length_map, List.cons_append, List.nil_append, List.replicate, List.getElem?_cons_zero, List.getElem?_cons_succ, List.set_cons_zero, List.set_cons_succ, Nat.reduceAdd, Nat.reduceSub, if_true, if_false, id, ups_same, ex_lst, ex_lst2, ex_some, atI_0, atI_1, atI_2, atI_3, ixN_0, ixN_1, ixN_21, oIx_p]
  refine told_ok nd tok fun S1 P1 E1 sub tok1 h1 h2 => ?_
  simp only [sp_keeps, sSeq, sNext, sBreak, sCont, sDrop, sRet, sRetN, sIf, sSet, sPar, sAsg, sRaise, gN, gE, gC, gU, gS, qVar, qC, qBin, qTB, qChain, qNot, qAnd, qOr, bd_bl, qNotT, qAndT, qOrT, qTru, tru_non, tru_bl, tru_int, tru_str, tru_tup, tru_rol, tru_ref, qIf, qNil, qCons, qTup, qLst, qCB, cInt_i, cInt2_ii, cToInt_i, cToInt_b, cLen_s, cLen_t, cLen_r, cLen_l, cTuple_t, cTuple_r, cTuple_l, cList_t, cList_r, cList_l, qNeg, oI_ii, oAdd_ii, oSub, oMul, oDiv, oMod, oPow, oEq, oNe, oEqW_ii, oEqW_ss, oEqW_bb, oLt, oLe, oGt, oGe, oOrd_ii, oOrd_ss, oIx_t, oIx_r, oIx_l, oIx_s, qNo, qPart, qSl, oSl_t, oSl_r, oSl_l, oSl_s, qMeth, mAppend_1, iSeq, iRange1, iRange2, qCall, endsF, startD, List.map_cons, List.map_nil, List.length_cons, List.length_nil, List.length_map, List.cons_append, List.nil_append, List.replicate, List.getElem?_cons_zero, List.getElem?_cons_succ, List.set_cons_zero, List.set_cons_succ, Nat.reduceAdd, Nat.reduceSub, if_true, if_false, id, ups_same, ex_lst, ex_lst2, ex_some, atI_0, atI_1, atI_2, atI_3, ixN_0, ixN_1, ixN_21, oIx_p]
  refine ⟨t', ws, rfl, hz, by omega, fun m h1 h2 => absurd ⟨h1, h2⟩ (hb m), fun _ => h2 0 S1 (by decide) sub ?_⟩
  refine ⟨by decide, ne_ref ?_⟩
  refine ifF rfl ?_
  refine told_ok nd tok fun S1 P1 E1 sub tok1 h1 h2 => ?_
  simp only [sp_first_turned, sSeq, sNext, sBreak, sCont, sDrop, sRet, sRetN, sIf, sSet, sPar, sAsg, sRaise, gN, gE, gC, gU, gS, qVar, qC, qBin, qTB, qChain, qNot, qAnd, qOr, bd_bl, qNotT, qAndT, qOrT, qTru, tru_non, tru_bl, tru_int, tru_str, tru_tup, tru_rol, tru_ref, qIf, qNil, qCons, qTup, qLst, qCB, cInt_i, cInt2_ii, cToInt_i, cToInt_b, cLen_s, cLen_t, cLen_r, cLen_l, cTuple_t, cTuple_r, cTuple_l, cList_t, cList_r, cList_l, qNeg, oI_ii, oAdd_ii, oSub, oMul, oDiv, oMod, oPow, oEq, oNe, oEqW_ii, oEqW_ss, oEqW_bb, oLt, oLe, oGt, oGe, oOrd_ii, oOrd_ss, oIx_t, oIx_r, oIx_l, oIx_s, qNo, qPart, qSl, oSl_t, oSl_r, oSl_l, oSl_s, qMeth, mAppend_1, iSeq, iRange1, iRange2, qCall, endsF, startD, List.map_cons, List.map_nil, List.length_cons, List.length_nil, List.length_map, List.cons_append, List.nil_append, List.replicate, List.getElem?_cons_zero, List.getElem?_cons_succ, List.set_cons_zero, List.set_cons_succ, Nat.reduceAdd, Nat.reduceSub, if_true, if_false, id, ups_same, ex_lst, ex_lst2, ex_some, atI_0, atI_1, atI_2, atI_3, ixN_0, ixN_1, ixN_21, oIx_p]
  refine ⟨t', rfl, hz, fun m h1 h2 => absurd ⟨h1, h2⟩ (hb m), fun _ => h2 0 S1 (by decide) sub ?_⟩
  exact ⟨by decide, ne_ref (ifF rfl hn)⟩
theorem b2_ok (nd : ad.six.Nodup) (tok : TabOk tb S) (hs : Sq t m) {t' : Tb} (hs' : Sq t' m) (hL : Le t' t m) {w : Str} (hw : w ∈ four) (hn : ∀ S' z17, Sub S S' → TabOk tb S' → P.nx [y0, y1, y2, some (tD t), y4, y5, y6, y7, y8, y9, y10, y11, y12, y13, y14, some (tD t'), some (.str w), z17] S') :
    r_law_b2 ad tb nm P [y0, y1, y2, some (tD t), y4, y5, y6, y7, y8, y9, y10, y11, y12, y13, y14, some (tD t'), some (.str w), y17] S := by
  simp only [r_law_b2, sp__law_breaks, sp_is_broken, sSeq, sNext, sBreak, sCont, sDrop, sRet, sRetN, sIf, sSet, sPar, sAsg, sRaise, gN, gE, gC, gU, gS, qVar, qC, qBin, qTB, qChain, qNot, qAnd, qOr, bd_bl, qNotT, qAndT, qOrT, qTru, tru_non, tru_bl, tru_int, tru_str, tru_tup, tru_rol, tru_ref, qIf, qNil, qCons, qTup, qLst, qCB, cInt_i, cInt2_ii, cToInt_i, cToInt_b, cLen_s, cLen_t, cLen_r, cLen_l, cTuple_t, cTuple_r, cTuple_l, cList_t, cList_r, cList_l, qNeg, oI_ii, oAdd_ii, oSub, oMul, oDiv, oMod, oPow, oEq, oNe, oEqW_ii, oEqW_ss, oEqW_bb, oLt, oLe, oGt, oGe, oOrd_ii, oOrd_ss, oIx_t, oIx_r, oIx_l, oIx_s, qNo, qPart, qSl, oSl_t, oSl_r, oSl_l, oSl_s, qMeth, mAppend_1, iSeq, iRange1, iRange2, qCall, endsF, startD, List.map_cons, List.map_nil, List.length_cons, List.length_nil, List.length_map, List.cons_append, List.nil_append, List.replicate, List.getElem?_cons_zero, List.getElem?_cons_succ, List.set_cons_zero, List.set_cons_succ, Nat.reduceAdd, Nat.reduceSub, if_true, if_false, id, ups_same, ex_lst, ex_lst2, ex_some, atI_0, atI_1, atI_2, atI_3, ixN_0, ixN_1, ixN_21, oIx_p]
  refine ⟨t', m, w, rfl, hs', hw, c1_ok nd tok hs' hw fun S1 s1 t1 => ?_⟩
  simp only [sSeq, sNext, sBreak, sCont, sDrop, sRet, sRetN, sIf, sSet, sPar, sAsg, sRaise, gN, gE, gC, gU, gS, qVar, qC, qBin, qTB, qChain, qNot, qAnd, qOr, bd_bl, qNotT, qAndT, qOrT, qTru, tru_non, tru_bl, tru_int, tru_str, tru_tup, tru_rol, tru_ref, qIf, qNil, qCons, qTup, qLst, qCB, cInt_i, cInt2_ii, cToInt_i, cToInt_b, cLen_s, cLen_t, cLen_r, cLen_l, cTuple_t, cTuple_r, cTuple_l, cList_t, cList_r, cList_l, qNeg, oI_ii, oAdd_ii, oSub, oMul, oDiv, oMod, oPow, oEq, oNe, oEqW_ii, oEqW_ss, oEqW_bb, oLt, oLe, oGt, oGe, oOrd_ii, oOrd_ss, oIx_t, oIx_r, oIx_l, oIx_s, qNo, qPart, qSl, oSl_t, oSl_r, oSl_l, oSl_s, qMeth, mAppend_1, iSeq, iRange1, iRange2, qCall, endsF, startD, List.map_cons, List.map_nil, List.length_cons, List.length_nil, List.length_map, List.cons_append, List.nil_append, List.replicate, List.getElem?_cons_zero, List.getElem?_cons_succ, List.set_cons_zero, List.set_cons_succ, Nat.reduceAdd, Nat.reduceSub, if_true, if_false, id, ups_same, ex_lst, ex_lst2, ex_some, atI_0, atI_1, atI_2, atI_3, ixN_0, ixN_1, ixN_21, oIx_p]
  cases e : dB (B t' m w) with
  | false =>
    refine ifF rfl ?_
    exact hn S1 _ s1 t1
  | true =>
    refine ifT rfl ⟨t, m, w, rfl, hs, hw, ?_⟩
    have : dB (B t m w) = true := dB_iff.mpr (le_B hL (fun i j hi hj => hs'.crng hi hj) (dB_iff.mp e))
    rw [this]
    exact ifF rfl (hn S1 _ s1 t1)
theorem b3_ok (nd : ad.six.Nodup) (I : Inv tb s n xs k S) (hk : k < 300000000) (hs : Sq t m) {h : Nat} (hh : h ≤ 200) (hn : ∀ S' j z15 z16 z17, Inv tb s n xs j S' → k ≤ j → j ≤ k + 400 → Sub (stepS S s n j) S' → P.nx [y0, some (.ref s), y2, some (tD t), y4, y5, y6, y7, y8, y9, some (.int h), y11, y12, y13, y14, z15, z16, z17] S') :
    r_law_b3 ad tb nm P [y0, some (.ref s), y2, some (tD t), y4, y5, y6, y7, y8, y9, some (.int h), y11, y12, y13, y14, y15, y16, y17] S := by
  simp only [r_law_b3, sp__law_holes, sSeq, sNext, sBreak, sCont, sDrop, sRet, sRetN, sIf, sSet, sPar, sAsg, sRaise, gN, gE, gC, gU, gS, qVar, qC, qBin, qTB, qChain, qNot, qAnd, qOr, bd_bl, qNotT, qAndT, qOrT, qTru, tru_non, tru_bl, tru_int, tru_str, tru_tup, tru_rol, tru_ref, qIf, qNil, qCons, qTup, qLst, qCB, cInt_i, cInt2_ii, cToInt_i, cToInt_b, cLen_s, cLen_t, cLen_r, cLen_l, cTuple_t, cTuple_r, cTuple_l, cList_t, cList_r, cList_l, qNeg, oI_ii, oAdd_ii, oSub, oMul, oDiv, oMod, oPow, oEq, oNe, oEqW_ii, oEqW_ss, oEqW_bb, oLt, oLe, oGt, oGe, oOrd_ii, oOrd_ss, oIx_t, oIx_r, oIx_l, oIx_s, qNo, qPart, qSl, oSl_t, oSl_r, oSl_l, oSl_s, qMeth, mAppend_1, iSeq, iRange1, iRange2, qCall, endsF, startD, List.map_cons, List.map_nil, List.length_cons, List.length_nil, List.length_map, List.cons_append, List.nil_append, List.replicate, List.getElem?_cons_zero, List.getElem?_cons_succ, List.set_cons_zero, List.set_cons_succ, Nat.reduceAdd, Nat.reduceSub, if_true, if_false, id, ups_same, ex_lst, ex_lst2, ex_some, atI_0, atI_1, atI_2, atI_3, ixN_0, ixN_1, ixN_21, oIx_p]
  have hk0 := I.st.k0
  refine ⟨s, n, xs, k, t, m, h, rfl, I.st, by omega, hs, hh, fun t' j hs' hL _ j1 j2 => ?_⟩
  have I1 := I.step (j := j) (by omega)
  unfold sFor
  simp only [sSeq, sNext, sBreak, sCont, sDrop, sRet, sRetN, sIf, sSet, sPar, sAsg, sRaise, gN, gE, gC, gU, gS, qVar, qC, qBin, qTB, qChain, qNot, qAnd, qOr, bd_bl, qNotT, qAndT, qOrT, qTru, tru_non, tru_bl, tru_int, tru_str, tru_tup, tru_rol, tru_ref, qIf, qNil, qCons, qTup, qLst, qCB, cInt_i, cInt2_ii, cToInt_i, cToInt_b, cLen_s, cLen_t, cLen_r, cLen_l, cTuple_t, cTuple_r, cTuple_l, cList_t, cList_r, cList_l, qNeg, oI_ii, oAdd_ii, oSub, oMul, oDiv, oMod, oPow, oEq, oNe, oEqW_ii, oEqW_ss, oEqW_bb, oLt, oLe, oGt, oGe, oOrd_ii, oOrd_ss, oIx_t, oIx_r, oIx_l, oIx_s, qNo, qPart, qSl, oSl_t, oSl_r, oSl_l, oSl_s, qMeth, mAppend_1, iSeq, iRange1, iRange2, qCall, endsF, startD, List.map_cons, List.map_nil, List.length_cons, List.length_nil, List.length_map, List.cons_append, List.nil_append, List.replicate, List.getElem?_cons_zero, List.getElem?_cons_succ, List.set_cons_zero, List.set_cons_succ, Nat.reduceAdd, Nat.reduceSub, if_true, if_false, id, ups_same, ex_lst, ex_lst2, ex_some, atI_0, atI_1, atI_2, atI_3, ixN_0, ixN_1, ixN_21, oIx_p]
  refine ⟨by decide, fun p hp => ?_⟩
  refine ⟨fun i loc S' => (∃ z16 z17, loc = [y0, some (.ref s), y2, some (tD t), y4, y5, y6, y7, y8, y9, some (.int h), y11, y12, y13, y14, some (tD t'), z16, z17]) ∧ Sub (ups (stepS S s n j) p (.lst [D.str "latin", D.str "zero", D.str "commuting", D.str "turning"])) S' ∧ TabOk tb S', ⟨⟨_, _, rfl⟩, Sub.refl _, I1.tok.new hp⟩, ?_, ?_⟩
  · rintro i d loc S' hi ⟨⟨z16, z17, rfl⟩, sub, tok⟩
    refine ⟨sub _ _ ups_same, ?_⟩
    obtain ⟨w, rfl, hw⟩ : ∃ w, d = .str w ∧ w ∈ four := by
      have h2 : (four.map D.str)[i]? = some d := hi
      obtain ⟨w, hw, e⟩ := List.mem_map.mp (List.mem_of_getElem? h2)
      exact ⟨w, e.symm, hw⟩
    simp only [sSeq, sNext, sBreak, sCont, sDrop, sRet, sRetN, sIf, sSet, sPar, sAsg, sRaise, gN, gE, gC, gU, gS, qVar, qC, qBin, qTB, qChain, qNot, qAnd, qOr, bd_bl, qNotT, qAndT, qOrT, qTru, tru_non, tru_bl, tru_int, tru_str, tru_tup, tru_rol, tru_ref, qIf, qNil, qCons, qTup, qLst, qCB, cInt_i, cInt2_ii, cToInt_i, cToInt_b, cLen_s, cLen_t, cLen_r, cLen_l, cTuple_t, cTuple_r, cTuple_l, cList_t, cList_r, cList_l, qNeg, oI_ii, oAdd_ii, oSub, oMul, oDiv, oMod, oPow, oEq, oNe, oEqW_ii, oEqW_ss, oEqW_bb, oLt, oLe, oGt, oGe, oOrd_ii, oOrd_ss, oIx_t, oIx_r, oIx_l, oIx_s, qNo, qPart, qSl, oSl_t, oSl_r, oSl_l, oSl_s, qMeth, mAppend_1, iSeq, iRange1, iRange2, qCall, endsF, startD, List.map_cons, List.map_nil, List.length_cons, List.length_nil, List.length_map, List.cons_append, List.nil_append, List.replicate, List.getElem?_cons_zero, List.getElem?_cons_succ, List.set_cons_zero, List.set_cons_succ, Nat.reduceAdd, Nat.reduceSub, if_true, if_false, id, ups_same, ex_lst, ex_lst2, ex_some, atI_0, atI_1, atI_2, atI_3, ixN_0, ixN_1, ixN_21, oIx_p]
    exact b2_ok nd tok hs hs' hL hw fun S2 z17 s2 t2 => ⟨⟨_, _, rfl⟩, sub.trans s2, t2⟩
  · rintro loc S' ⟨⟨z16, z17, rfl⟩, sub, tok⟩
    have sub1 : Sub (stepS S s n j) S' := ((Sub.refl _).new hp).trans sub
    exact ⟨sub _ _ ups_same, hn S' j _ _ _ (I1.sub sub1 tok) j1 j2 sub1⟩
end
end K35

namespace K35
open PySem PySem.Spec PyProof.Rows L2 PL
variable {ad : Ad} {t : Tb} {m : Nat}
theorem for_intro {it : QI} {g : QG} {tb : QS} {P : QN} {loc : PL.Loc} {S : Sto} (h : it loc S (fun src S1 => ∃ V : Nat → PL.Loc → Sto → Prop, V 0 loc S1 ∧
  (∀ i d loc S, src.items[i]? = some d → V i loc S → src.ok S ∧ g d loc S (fun loc' S' => tb { P with nx := V (i + 1), ct := V (i + 1), bk := P.nx } loc' S') fun x S' => P.ex x loc S') ∧
  ∀ loc S, V src.items.length loc S → src.ok S ∧ P.nx loc S) fun x S1 => P.ex x loc S1) : sFor it g tb P loc S := h
theorem cLen_T {S : Sto} {P : PD} : cLen [tD t] S P = P (.int t.length) S := by
  unfold tD
  rw [cLen_t, List.length_map]
theorem at3 {a b c : D} {r : Int} (h0 : 0 ≤ r) (h1 : r < 3) : ∃ x, atI [a, b, c] r = some x ∧ (x = a ∨ x = b ∨ x = c) := by
  obtain ⟨j, rfl⟩ := Int.eq_ofNat_of_zero_le h0
  match j, h1 with
  | 0, _ => exact ⟨a, rfl, .inl rfl⟩
  | 1, _ => exact ⟨b, rfl, .inr (.inl rfl)⟩
  | 2, _ => exact ⟨c, rfl, .inr (.inr rfl)⟩
  | n + 3, h => exact absurd h (by omega)
theorem odd_no {ws : List Str} (h : ws = (["latins"] : List Str) ∨ ws = (["latin", "latin"] : List Str) ∨ ws = (["zero", ""] : List Str) ∨ ws = (["turning", "zero", "turning"] : List Str)) : ¬ WOk ws := by
  rintro ⟨h1, h2⟩
  have key : ∀ ws : List Str, (decide ws.Nodup && ws.all fun w => decide (w ∈ four)) = false → ws.Nodup → (∀ w ∈ ws, w ∈ four) → False := fun ws e h1 h2 => by
    rw [decide_eq_true h1, List.all_eq_true.mpr fun w hw => decide_eq_true (h2 w hw)] at e
    cases e
  refine key ws ?_ h1 h2
  rcases h with rfl | rfl | rfl | rfl <;> decide +kernel
section
variable {tb : List (Addr × Str)} {nm : Str} {s n : Addr} {xs : List Int} {k : Int} {S : Sto} {P : QN} {y0 y2 y3 y4 y5 y6 y7 y8 y9 y10 y11 y12 y13 y14 y15 y16 y17 : Option D}
theorem Inv.setL {p : Addr} {us ds : List D} (I : Inv tb s n xs k S) (h1 : p ≠ s) (h2 : p ≠ n) (e : S p = some (.lst us)) : Inv tb s n xs k (ups S p (.lst ds)) :=
  ⟨⟨by rw [ups_ne (Ne.symm h1)]; exact I.st.st, by rw [ups_ne (Ne.symm h2)]; exact I.st.nm, I.st.ne, I.st.ok, I.st.k0⟩, I.tok.set e⟩
theorem loopb_ok (nd : ad.six.Nodup) (I : Inv tb s n xs k S) (hk : k < 200000000) (hs : Sq t m)
    (hn : ∀ S' j z10 z15 z16 z17, Inv tb s n xs j S' → k ≤ j → j ≤ k + 1300 → P.nx [y0, some (.ref s), y2, some (tD t), some (.int m), y5, y6, y7, y8, y9, z10, y11, y12, y13, y14, z15, z16, z17] S') :
    sFor (iSeq (qLst (qCons (qC (.int 0)) (qCons (qBin oAdd (qC (.int 1)) (qCall (sp__law_next ad) (qCons (qVar 1) (qCons (qC (.int 3)) qNil)))) (qCons (qCall (sp__law_next ad) (qCons (qVar 1) (qCons (qBin oAdd (qBin oMul (qVar 4) (qVar 4)) (qC (.int 1))) qNil))) qNil))))) (gN 10) (r_law_b3 ad tb nm) P [y0, some (.ref s), y2, some (tD t), some (.int m), y5, y6, y7, y8, y9, y10, y11, y12, y13, y14, y15, y16, y17] S := by
  have hk0 := I.st.k0
  have hle := hs.le
  have hmm : m * m ≤ 144 := Nat.mul_le_mul hle hle
  have hmi : (m : Int) * m = ((m * m : Nat) : Int) := (Int.natCast_mul m m).symm
  unfold sFor
  simp only [sSeq, sNext, sBreak, sCont, sDrop, sRet, sRetN, sIf, sSet, sPar, sAsg, sRaise, gN, gE, gC, gU, gS, qVar, qC, qBin, qTB, qChain, qNot, qAnd, qOr, bd_bl, qNotT, qAndT, qOrT, qTru, tru_non, tru_bl, tru_int, tru_str, tru_tup, tru_rol, tru_ref, qIf, qNil, qCons, qTup, qLst, qCB, cInt_i, cInt2_ii, cToInt_i, cToInt_b, cLen_s, cLen_t, cLen_r, cLen_l, cTuple_t, cTuple_r, cTuple_l, cList_t, cList_r, cList_l, qNeg, oI_ii, oAdd_ii, oSub, oMul, oDiv, oMod, oPow, oEq, oNe, oEqW_ii, oEqW_ss, oEqW_bb, oLt, oLe, oGt, oGe, oOrd_ii, oOrd_ss, oIx_t, oIx_r, oIx_l, oIx_s, qNo, qPart, qSl, oSl_t, oSl_r, oSl_l, oSl_s, qMeth, mAppend_1, iSeq, iRange1, iRange2, qCall, endsF, startD, List.map_cons, List.map_nil, List.length_cons, List.length_nil, List.length_map, List.cons_append, List.nil_append, List.replicate, List.getElem?_cons_zero, List.getElem?_cons_succ, List.set_cons_zero, List.set_cons_succ, Nat.reduceAdd, Nat.reduceSub, if_true, if_false, id, ups_same, ex_lst, ex_lst2, ex_some, atI_0, atI_1, atI_2, atI_3, ixN_0, ixN_1, ixN_21, oIx_p]
  rw [sp__law_next]
  refine ⟨s, n, xs, k, 3, rfl, I.st, by omega, by omega, fun v v0 v1 => ?_⟩
  have I9 := I.step (j := k + 1) (by omega)
  rw [hmi]
  try simp only [sSeq, sNext, sBreak, sCont, sDrop, sRet, sRetN, sIf, sSet, sPar, sAsg, sRaise, gN, gE, gC, gU, gS, qVar, qC, qBin, qTB, qChain, qNot, qAnd, qOr, bd_bl, qNotT, qAndT, qOrT, qTru, tru_non, tru_bl, tru_int, tru_str, tru_tup, tru_rol, tru_ref, qIf, qNil, qCons, qTup, qLst, qCB, cInt_i, cInt2_ii, cToInt_i, cToInt_b, cLen_s, cLen_t, cLen_r, cLen_l, cTuple_t, cTuple_r, cTuple_l, cList_t, cList_r, cList_l, qNeg, oI_ii, oAdd_ii, oSub, oMul, oDiv, oMod, oPow, oEq, oNe, oEqW_ii, oEqW_ss, oEqW_bb, oLt, oLe, oGt, oGe, oOrd_ii, oOrd_ss, oIx_t, oIx_r, oIx_l, oIx_s, qNo, qPart, qSl, oSl_t, oSl_r, oSl_l, oSl_s, qMeth, mAppend_1, iSeq, iRange1, iRange2, qCall, endsF, startD, List.map_cons, List.map_nil, List.length_cons, List.length_nil, List.length_map, List.cons_append, List.nil_append, List.replicate, List.getElem?_cons_zero, List.getElem?_cons_succ, List.set_cons_zero, List.set_cons_succ, Nat.reduceAdd, Nat.reduceSub, if_true, if_false, id, ups_same, ex_lst, ex_lst2, ex_some, atI_0, atI_1, atI_2, atI_3, ixN_0, ixN_1, ixN_21, oIx_p]
  refine ⟨CMul.ofL (by omega), ?_⟩
  rw [sp__law_next]
  refine ⟨s, n, xs, _, _, rfl, I9.st, by omega, by omega, fun v' w0 w1 => ?_⟩
  have I10 := I9.step (j := k + 1 + 1) (by omega)
  refine ⟨by decide, fun p hp => ?_⟩
  obtain ⟨h1, e1⟩ := Int.eq_ofNat_of_zero_le (show 0 ≤ 1 + v by omega)
  obtain ⟨h2, rfl⟩ := Int.eq_ofNat_of_zero_le w0
  have hh1 : h1 ≤ 200 := by omega
  have hh2 : h2 ≤ 200 := by omega
  rw [e1]
  generalize stepS (stepS S s n (k + 1)) s n (k + 1 + 1) = S0 at I10 hp ⊢
  refine ⟨fun i loc S' => ∃ z10 z15 z16 z17, loc = [y0, some (.ref s), y2, some (tD t), some (.int m), y5, y6, y7, y8, y9, z10, y11, y12, y13, y14, z15, z16, z17] ∧ S' p = some (.lst [.int 0, .int h1, .int h2]) ∧ ∃ j, Inv tb s n xs j S' ∧ k ≤ j ∧ j ≤ k + 2 + 400 * i, ⟨_, _, _, _, rfl, ups_same, _, I10.fresh hp, by omega, by omega⟩, ?_, ?_⟩
  · rintro i d loc S' hi ⟨z10, z15, z16, z17, rfl, e, j, I1, j1, j2⟩
    refine ⟨e, ?_⟩
    have hi3 : i < 3 := (List.getElem?_eq_some_iff.mp hi).1
    obtain ⟨h', rfl, hh⟩ : ∃ h' : Nat, d = .int h' ∧ h' ≤ 200 := by
      match i, hi with
      | 0, hi => exact ⟨0, (Option.some.inj hi).symm, by omega⟩
      | 1, hi => exact ⟨h1, (Option.some.inj hi).symm, hh1⟩
      | 2, hi => exact ⟨h2, (Option.some.inj hi).symm, hh2⟩
      | j + 3, hi => cases hi
    have hps : p ≠ s := fun z => by
      rw [z, I1.st.st] at e
      cases e
    try simp only [sSeq, sNext, sBreak, sCont, sDrop, sRet, sRetN, sIf, sSet, sPar, sAsg, sRaise, gN, gE, gC, gU, gS, qVar, qC, qBin, qTB, qChain, qNot, qAnd, qOr, bd_bl, qNotT, qAndT, qOrT, qTru, tru_non, tru_bl, tru_int, tru_str, tru_tup, tru_rol, tru_ref, qIf, qNil, qCons, qTup, qLst, qCB, cInt_i, cInt2_ii, cToInt_i, cToInt_b, cLen_s, cLen_t, cLen_r, cLen_l, cTuple_t, cTuple_r, cTuple_l, cList_t, cList_r, cList_l, qNeg, oI_ii, oAdd_ii, oSub, oMul, oDiv, oMod, oPow, oEq, oNe, oEqW_ii, oEqW_ss, oEqW_bb, oLt, oLe, oGt, oGe, oOrd_ii, oOrd_ss, oIx_t, oIx_r, oIx_l, oIx_s, qNo, qPart, qSl, oSl_t, oSl_r, oSl_l, oSl_s, qMeth, mAppend_1, iSeq, iRange1, iRange2, qCall, endsF, startD, List.map_cons, List.map_nil, List.length_cons, List.length_nil, List.length_map, List.cons_append, List.nil_append, List.replicate, List.getElem?_cons_zero, List.getElem?_cons_succ, List.set_cons_zero, List.set_cons_succ, Nat.reduceAdd, Nat.reduceSub, if_true, if_false, id, ups_same, ex_lst, ex_lst2, ex_some, atI_0, atI_1, atI_2, atI_3, ixN_0, ixN_1, ixN_21, oIx_p]
    refine b3_ok nd I1 (by omega) hs hh fun S2 j3 z15 z16 z17 I2 i1 i2 sub => ⟨_, _, _, _, rfl, sub _ _ (by rw [stepS_ne hps]; exact e), j3, I2, by omega, by omega⟩
  · rintro loc S' ⟨z10, z15, z16, z17, rfl, e, j, I1, j1, j2⟩
    have e3 : (Src.live p [D.int 0, D.int h1, D.int h2]).items.length = 3 := rfl
    rw [e3] at j2
    exact ⟨e, hn S' j _ _ _ _ I1 j1 (by omega)⟩
theorem b4_ok (nd : ad.six.Nodup) (I : Inv tb s n xs k S) (hk : k < 100000000)
    (hn : ∀ S' j z3 z4 z5 z6 z7 z8 z9 z10 z11 z12 z13 z14 z15 z16 z17, Inv tb s n xs j S' → k ≤ j → j ≤ k + 3000 → P.nx [y0, some (.ref s), y2, z3, z4, z5, z6, z7, z8, z9, z10, z11, z12, z13, z14, z15, z16, z17] S') :
    r_law_b4 ad tb nm P [y0, some (.ref s), y2, y3, y4, y5, y6, y7, y8, y9, y10, y11, y12, y13, y14, y15, y16, y17] S := by
  have hk0 := I.st.k0
  simp only [r_law_b4, sSeq, sNext, sBreak, sCont, sDrop, sRet, sRetN, sIf, sSet, sPar, sAsg, sRaise, gN, gE, gC, gU, gS, qVar, qC, qBin, qTB, qChain, qNot, qAnd, qOr, bd_bl, qNotT, qAndT, qOrT, qTru, tru_non, tru_bl, tru_int, tru_str, tru_tup, tru_rol, tru_ref, qIf, qNil, qCons, qTup, qLst, qCB, cInt_i, cInt2_ii, cToInt_i, cToInt_b, cLen_s, cLen_t, cLen_r, cLen_l, cTuple_t, cTuple_r, cTuple_l, cList_t, cList_r, cList_l, qNeg, oI_ii, oAdd_ii, oSub, oMul, oDiv, oMod, oPow, oEq, oNe, oEqW_ii, oEqW_ss, oEqW_bb, oLt, oLe, oGt, oGe, oOrd_ii, oOrd_ss, oIx_t, oIx_r, oIx_l, oIx_s, qNo, qPart, qSl, oSl_t, oSl_r, oSl_l, oSl_s, qMeth, mAppend_1, iSeq, iRange1, iRange2, qCall, endsF, startD, List.map_cons, List.map_nil, List.length_cons, List.length_nil, List.length_map, List.cons_append, List.nil_append, List.replicate, List.getElem?_cons_zero, List.getElem?_cons_succ, List.set_cons_zero, List.set_cons_succ, Nat.reduceAdd, Nat.reduceSub, if_true, if_false, id, ups_same, ex_lst, ex_lst2, ex_some, atI_0, atI_1, atI_2, atI_3, ixN_0, ixN_1, ixN_21, oIx_p]
  refine ⟨by decide, fun p hp => ?_⟩
  have hps := I.st.ne_s hp
  have I1 := I.fresh hp (ds := [.int 4, .int 7, .int 12])
  rw [sp__law_next]
  refine ⟨s, n, xs, k, 3, rfl, I1.st, by omega, by omega, fun r r0 r1 => ?_⟩
  have I2 := I1.step (j := k + 1) (by omega)
  obtain ⟨most, em, m1, m2⟩ : ∃ most : Nat, atI [D.int 4, D.int 7, D.int 12] r = some (.int most) ∧ 1 ≤ most ∧ most ≤ 12 := by
    obtain ⟨x, ex, hx⟩ := at3 (a := .int 4) (b := .int 7) (c := .int 12) r0 r1
    rcases hx with rfl | rfl | rfl
    · exact ⟨4, ex, by omega, by omega⟩
    · exact ⟨7, ex, by omega, by omega⟩
    · exact ⟨12, ex, by omega, by omega⟩
  rw [oIx_l, stepS_ne hps]
  refine ⟨_, ups_same, _, em, ?_⟩
  rw [sp__law_table]
  refine ⟨s, n, xs, _, most, rfl, I2.st, by omega, m1, m2, fun t m j hs hf j1 j2 => ?_⟩
  have hle := hs.le
  have hlen := hs.len
  have hpos := hs.pos
  have I3 := I2.step (j := j) (by omega)
  simp only [sSeq, sNext, sBreak, sCont, sDrop, sRet, sRetN, sIf, sSet, sPar, sAsg, sRaise, gN, gE, gC, gU, gS, qVar, qC, qBin, qTB, qChain, qNot, qAnd, qOr, bd_bl, qNotT, qAndT, qOrT, qTru, tru_non, tru_bl, tru_int, tru_str, tru_tup, tru_rol, tru_ref, qIf, qNil, qCons, qTup, qLst, qCB, cInt_i, cInt2_ii, cToInt_i, cToInt_b, cLen_s, cLen_t, cLen_r, cLen_l, cTuple_t, cTuple_r, cTuple_l, cList_t, cList_r, cList_l, qNeg, oI_ii, oAdd_ii, oSub, oMul, oDiv, oMod, oPow, oEq, oNe, oEqW_ii, oEqW_ss, oEqW_bb, oLt, oLe, oGt, oGe, oOrd_ii, oOrd_ss, oIx_t, oIx_r, oIx_l, oIx_s, qNo, qPart, qSl, oSl_t, oSl_r, oSl_l, oSl_s, qMeth, mAppend_1, iSeq, iRange1, iRange2, qCall, endsF, startD, List.map_cons, List.map_nil, List.length_cons, List.length_nil, List.length_map, List.cons_append, List.nil_append, List.replicate, List.getElem?_cons_zero, List.getElem?_cons_succ, List.set_cons_zero, List.set_cons_succ, Nat.reduceAdd, Nat.reduceSub, if_true, if_false, id, ups_same, ex_lst, ex_lst2, ex_some, atI_0, atI_1, atI_2, atI_3, ixN_0, ixN_1, ixN_21, oIx_p, cLen_T, hlen]
  generalize stepS (stepS (ups S p (.lst [.int 4, .int 7, .int 12])) s n (k + 1)) s n j = S3 at I3
  refine ⟨tD t, pyD (tD t), rfl, .inr (.inl ⟨_, rfl⟩), (sq_data hs S3).1, (sq_data hs S3).2, ?_⟩
  try simp only [sSeq, sNext, sBreak, sCont, sDrop, sRet, sRetN, sIf, sSet, sPar, sAsg, sRaise, gN, gE, gC, gU, gS, qVar, qC, qBin, qTB, qChain, qNot, qAnd, qOr, bd_bl, qNotT, qAndT, qOrT, qTru, tru_non, tru_bl, tru_int, tru_str, tru_tup, tru_rol, tru_ref, qIf, qNil, qCons, qTup, qLst, qCB, cInt_i, cInt2_ii, cToInt_i, cToInt_b, cLen_s, cLen_t, cLen_r, cLen_l, cTuple_t, cTuple_r, cTuple_l, cList_t, cList_r, cList_l, qNeg, oI_ii, oAdd_ii, oSub, oMul, oDiv, oMod, oPow, oEq, oNe, oEqW_ii, oEqW_ss, oEqW_bb, oLt, oLe, oGt, oGe, oOrd_ii, oOrd_ss, oIx_t, oIx_r, oIx_l, oIx_s, qNo, qPart, qSl, oSl_t, oSl_r, oSl_l, oSl_s, qMeth, mAppend_1, iSeq, iRange1, iRange2, qCall, endsF, startD, List.map_cons, List.map_nil, List.length_cons, List.length_nil, List.length_map, List.cons_append, List.nil_append, List.replicate, List.getElem?_cons_zero, List.getElem?_cons_succ, List.set_cons_zero, List.set_cons_succ, Nat.reduceAdd, Nat.reduceSub, if_true, if_false, id, ups_same, ex_lst, ex_lst2, ex_some, atI_0, atI_1, atI_2, atI_3, ixN_0, ixN_1, ixN_21, oIx_p]
  rw [sp__law_wishes]
  refine ⟨s, n, xs, j, rfl, I3.st, by omega, fun ws j4 hw hwl i1 i2 => ?_⟩
  have I4 := I3.step (j := j4) (by omega)
  generalize stepS S3 s n j4 = S4 at I4
  try simp only [sSeq, sNext, sBreak, sCont, sDrop, sRet, sRetN, sIf, sSet, sPar, sAsg, sRaise, gN, gE, gC, gU, gS, qVar, qC, qBin, qTB, qChain, qNot, qAnd, qOr, bd_bl, qNotT, qAndT, qOrT, qTru, tru_non, tru_bl, tru_int, tru_str, tru_tup, tru_rol, tru_ref, qIf, qNil, qCons, qTup, qLst, qCB, cInt_i, cInt2_ii, cToInt_i, cToInt_b, cLen_s, cLen_t, cLen_r, cLen_l, cTuple_t, cTuple_r, cTuple_l, cList_t, cList_r, cList_l, qNeg, oI_ii, oAdd_ii, oSub, oMul, oDiv, oMod, oPow, oEq, oNe, oEqW_ii, oEqW_ss, oEqW_bb, oLt, oLe, oGt, oGe, oOrd_ii, oOrd_ss, oIx_t, oIx_r, oIx_l, oIx_s, qNo, qPart, qSl, oSl_t, oSl_r, oSl_l, oSl_s, qMeth, mAppend_1, iSeq, iRange1, iRange2, qCall, endsF, startD, List.map_cons, List.map_nil, List.length_cons, List.length_nil, List.length_map, List.cons_append, List.nil_append, List.replicate, List.getElem?_cons_zero, List.getElem?_cons_succ, List.set_cons_zero, List.set_cons_succ, Nat.reduceAdd, Nat.reduceSub, if_true, if_false, id, ups_same, ex_lst, ex_lst2, ex_some, atI_0, atI_1, atI_2, atI_3, ixN_0, ixN_1, ixN_21, oIx_p]
  refine lc_intro ?_
  try simp only [sSeq, sNext, sBreak, sCont, sDrop, sRet, sRetN, sIf, sSet, sPar, sAsg, sRaise, gN, gE, gC, gU, gS, qVar, qC, qBin, qTB, qChain, qNot, qAnd, qOr, bd_bl, qNotT, qAndT, qOrT, qTru, tru_non, tru_bl, tru_int, tru_str, tru_tup, tru_rol, tru_ref, qIf, qNil, qCons, qTup, qLst, qCB, cInt_i, cInt2_ii, cToInt_i, cToInt_b, cLen_s, cLen_t, cLen_r, cLen_l, cTuple_t, cTuple_r, cTuple_l, cList_t, cList_r, cList_l, qNeg, oI_ii, oAdd_ii, oSub, oMul, oDiv, oMod, oPow, oEq, oNe, oEqW_ii, oEqW_ss, oEqW_bb, oLt, oLe, oGt, oGe, oOrd_ii, oOrd_ss, oIx_t, oIx_r, oIx_l, oIx_s, qNo, qPart, qSl, oSl_t, oSl_r, oSl_l, oSl_s, qMeth, mAppend_1, iSeq, iRange1, iRange2, qCall, endsF, startD, List.map_cons, List.map_nil, List.length_cons, List.length_nil, List.length_map, List.cons_append, List.nil_append, List.replicate, List.getElem?_cons_zero, List.getElem?_cons_succ, List.set_cons_zero, List.set_cons_succ, Nat.reduceAdd, Nat.reduceSub, if_true, if_false, id, ups_same, ex_lst, ex_lst2, ex_some, atI_0, atI_1, atI_2, atI_3, ixN_0, ixN_1, ixN_21, oIx_p]
  intro p5 hp5
  have h5s := I4.st.ne_s hp5
  have h5n : p5 ≠ n := Ne.symm (sto_ne I4.st.nm hp5)
  refine ⟨fun i acc S' => acc = (ws.take i).map (fun w => D.bl (dB (B t m w))) ∧ Inv tb s n xs j4 S' ∧ S' p5 = some (.lst acc), ⟨by simp, I4.fresh hp5, ups_same⟩, ?_, ?_⟩
  · rintro i d acc S' hi ⟨rfl, I', e5⟩
    obtain ⟨w, hw0, rfl⟩ := get_emb (show (ws.map D.str)[i]? = some d from hi)
    have hwm := List.mem_of_getElem? hw0
    refine ⟨trivial, ?_⟩
    simp only [wipeD, qYes, sp__law_breaks, sp_is_broken, sSeq, sNext, sBreak, sCont, sDrop, sRet, sRetN, sIf, sSet, sPar, sAsg, sRaise, gN, gE, gC, gU, gS, qVar, qC, qBin, qTB, qChain, qNot, qAnd, qOr, bd_bl, qNotT, qAndT, qOrT, qTru, tru_non, tru_bl, tru_int, tru_str, tru_tup, tru_rol, tru_ref, qIf, qNil, qCons, qTup, qLst, qCB, cInt_i, cInt2_ii, cToInt_i, cToInt_b, cLen_s, cLen_t, cLen_r, cLen_l, cTuple_t, cTuple_r, cTuple_l, cList_t, cList_r, cList_l, qNeg, oI_ii, oAdd_ii, oSub, oMul, oDiv, oMod, oPow, oEq, oNe, oEqW_ii, oEqW_ss, oEqW_bb, oLt, oLe, oGt, oGe, oOrd_ii, oOrd_ss, oIx_t, oIx_r, oIx_l, oIx_s, qNo, qPart, qSl, oSl_t, oSl_r, oSl_l, oSl_s, qMeth, mAppend_1, iSeq, iRange1, iRange2, qCall, endsF, startD, List.map_cons, List.map_nil, List.length_cons, List.length_nil, List.length_map, List.cons_append, List.nil_append, List.replicate, List.getElem?_cons_zero, List.getElem?_cons_succ, List.set_cons_zero, List.set_cons_succ, Nat.reduceAdd, Nat.reduceSub, if_true, if_false, id, ups_same, ex_lst, ex_lst2, ex_some, atI_0, atI_1, atI_2, atI_3, ixN_0, ixN_1, ixN_21, oIx_p]
    refine ⟨t, m, w, rfl, hs, hw.2 w hwm, e5, szB (by rw [List.length_take]; omega), ?_, I'.setL h5s h5n e5, trivial⟩
    rw [List.take_succ, hw0, List.map_append]
    rfl
  · rintro acc S5 ⟨rfl, I5, e5⟩
    have e5 : S5 p5 = some (.lst ((ws.map fun w => dB (B t m w)).map D.bl)) := by
      have e : (Src.vals (ws.map D.str)).items.length = ws.length := by simp [Src.items]
      rw [e, List.take_length] at e5
      rw [e5, List.map_map]
      rfl
    refine ⟨trivial, _, _, rfl, .inr ⟨p5, rfl, e5⟩, ?_⟩
    try simp only [sSeq, sNext, sBreak, sCont, sDrop, sRet, sRetN, sIf, sSet, sPar, sAsg, sRaise, gN, gE, gC, gU, gS, qVar, qC, qBin, qTB, qChain, qNot, qAnd, qOr, bd_bl, qNotT, qAndT, qOrT, qTru, tru_non, tru_bl, tru_int, tru_str, tru_tup, tru_rol, tru_ref, qIf, qNil, qCons, qTup, qLst, qCB, cInt_i, cInt2_ii, cToInt_i, cToInt_b, cLen_s, cLen_t, cLen_r, cLen_l, cTuple_t, cTuple_r, cTuple_l, cList_t, cList_r, cList_l, qNeg, oI_ii, oAdd_ii, oSub, oMul, oDiv, oMod, oPow, oEq, oNe, oEqW_ii, oEqW_ss, oEqW_bb, oLt, oLe, oGt, oGe, oOrd_ii, oOrd_ss, oIx_t, oIx_r, oIx_l, oIx_s, qNo, qPart, qSl, oSl_t, oSl_r, oSl_l, oSl_s, qMeth, mAppend_1, iSeq, iRange1, iRange2, qCall, endsF, startD, List.map_cons, List.map_nil, List.length_cons, List.length_nil, List.length_map, List.cons_append, List.nil_append, List.replicate, List.getElem?_cons_zero, List.getElem?_cons_succ, List.set_cons_zero, List.set_cons_succ, Nat.reduceAdd, Nat.reduceSub, if_true, if_false, id, ups_same, ex_lst, ex_lst2, ex_some, atI_0, atI_1, atI_2, atI_3, ixN_0, ixN_1, ixN_21, oIx_p]
    have e : (ws.map fun w => dB (B t m w)).any (fun x => x) = dB (∃ w, w ∈ ws ∧ B t m w) := dB_of (by
      rw [List.any_map, List.any_eq_true]
      exact ⟨fun ⟨w, h, x⟩ => ⟨w, h, dB_iff.mp x⟩, fun ⟨w, h, x⟩ => ⟨w, h, dB_iff.mpr x⟩⟩)
    first | rw [e] | (rw [show (ws.map fun w => dB (B t m w)).any id = dB (∃ w, w ∈ ws ∧ B t m w) from e])
    refine c3_ok nd I5.tok hs hf hw hwl fun S6 s6 t6 => ?_
    have I6 := I5.sub s6 t6
    simp only [sSeq, sNext, sBreak, sCont, sDrop, sRet, sRetN, sIf, sSet, sPar, sAsg, sRaise, gN, gE, gC, gU, gS, qVar, qC, qBin, qTB, qChain, qNot, qAnd, qOr, bd_bl, qNotT, qAndT, qOrT, qTru, tru_non, tru_bl, tru_int, tru_str, tru_tup, tru_rol, tru_ref, qIf, qNil, qCons, qTup, qLst, qCB, cInt_i, cInt2_ii, cToInt_i, cToInt_b, cLen_s, cLen_t, cLen_r, cLen_l, cTuple_t, cTuple_r, cTuple_l, cList_t, cList_r, cList_l, qNeg, oI_ii, oAdd_ii, oSub, oMul, oDiv, oMod, oPow, oEq, oNe, oEqW_ii, oEqW_ss, oEqW_bb, oLt, oLe, oGt, oGe, oOrd_ii, oOrd_ss, oIx_t, oIx_r, oIx_l, oIx_s, qNo, qPart, qSl, oSl_t, oSl_r, oSl_l, oSl_s, qMeth, mAppend_1, iSeq, iRange1, iRange2, qCall, endsF, startD, List.map_cons, List.map_nil, List.length_cons, List.length_nil, List.length_map, List.cons_append, List.nil_append, List.replicate, List.getElem?_cons_zero, List.getElem?_cons_succ, List.set_cons_zero, List.set_cons_succ, Nat.reduceAdd, Nat.reduceSub, if_true, if_false, id, ups_same, ex_lst, ex_lst2, ex_some, atI_0, atI_1, atI_2, atI_3, ixN_0, ixN_1, ixN_21, oIx_p, sp__law_turn, sp_turned_pair]
    refine ⟨t, m, rfl, hs, fun r hr => ?_⟩
    simp only [sSeq, sNext, sBreak, sCont, sDrop, sRet, sRetN, sIf, sSet, sPar, sAsg, sRaise, gN, gE, gC, gU, gS, qVar, qC, qBin, qTB, qChain, qNot, qAnd, qOr, bd_bl, qNotT, qAndT, qOrT, qTru, tru_non, tru_bl, tru_int, tru_str, tru_tup, tru_rol, tru_ref, qIf, qNil, qCons, qTup, qLst, qCB, cInt_i, cInt2_ii, cToInt_i, cToInt_b, cLen_s, cLen_t, cLen_r, cLen_l, cTuple_t, cTuple_r, cTuple_l, cList_t, cList_r, cList_l, qNeg, oI_ii, oAdd_ii, oSub, oMul, oDiv, oMod, oPow, oEq, oNe, oEqW_ii, oEqW_ss, oEqW_bb, oLt, oLe, oGt, oGe, oOrd_ii, oOrd_ss, oIx_t, oIx_r, oIx_l, oIx_s, qNo, qPart, qSl, oSl_t, oSl_r, oSl_l, oSl_s, qMeth, mAppend_1, iSeq, iRange1, iRange2, qCall, endsF, startD, List.map_cons, List.map_nil, List.length_cons, List.length_nil, List.length_map, List.cons_append, List.nil_append, List.replicate, List.getElem?_cons_zero, List.getElem?_cons_succ, List.set_cons_zero, List.set_cons_succ, Nat.reduceAdd, Nat.reduceSub, if_true, if_false, id, ups_same, ex_lst, ex_lst2, ex_some, atI_0, atI_1, atI_2, atI_3, ixN_0, ixN_1, ixN_21, oIx_p, oIs]
    refine ⟨sz2, sz1, sz2, fun p6 hp6 => ⟨trivial, duD r, ?_, ?_⟩⟩
    · cases r with
      | none => exact atI_1
      | some x =>
        rw [first_some]
        exact atI_0
    · have I7 := I6.fresh hp6 (ds := [.tup [.str "told", fD r], .tup [.str "missing"]])
      refine c2_ok nd I7.tok hs hf hr fun S8 s8 t8 => ?_
      have I8 := I7.sub s8 t8
      try simp only [sSeq, sNext, sBreak, sCont, sDrop, sRet, sRetN, sIf, sSet, sPar, sAsg, sRaise, gN, gE, gC, gU, gS, qVar, qC, qBin, qTB, qChain, qNot, qAnd, qOr, bd_bl, qNotT, qAndT, qOrT, qTru, tru_non, tru_bl, tru_int, tru_str, tru_tup, tru_rol, tru_ref, qIf, qNil, qCons, qTup, qLst, qCB, cInt_i, cInt2_ii, cToInt_i, cToInt_b, cLen_s, cLen_t, cLen_r, cLen_l, cTuple_t, cTuple_r, cTuple_l, cList_t, cList_r, cList_l, qNeg, oI_ii, oAdd_ii, oSub, oMul, oDiv, oMod, oPow, oEq, oNe, oEqW_ii, oEqW_ss, oEqW_bb, oLt, oLe, oGt, oGe, oOrd_ii, oOrd_ss, oIx_t, oIx_r, oIx_l, oIx_s, qNo, qPart, qSl, oSl_t, oSl_r, oSl_l, oSl_s, qMeth, mAppend_1, iSeq, iRange1, iRange2, qCall, endsF, startD, List.map_cons, List.map_nil, List.length_cons, List.length_nil, List.length_map, List.cons_append, List.nil_append, List.replicate, List.getElem?_cons_zero, List.getElem?_cons_succ, List.set_cons_zero, List.set_cons_succ, Nat.reduceAdd, Nat.reduceSub, if_true, if_false, id, ups_same, ex_lst, ex_lst2, ex_some, atI_0, atI_1, atI_2, atI_3, ixN_0, ixN_1, ixN_21, oIx_p]
      refine loopb_ok nd I8 (by omega) hs fun S11 j11 z10 z15 z16 z17 I11 i3 i4 => ?_
      try simp only [sSeq, sNext, sBreak, sCont, sDrop, sRet, sRetN, sIf, sSet, sPar, sAsg, sRaise, gN, gE, gC, gU, gS, qVar, qC, qBin, qTB, qChain, qNot, qAnd, qOr, bd_bl, qNotT, qAndT, qOrT, qTru, tru_non, tru_bl, tru_int, tru_str, tru_tup, tru_rol, tru_ref, qIf, qNil, qCons, qTup, qLst, qCB, cInt_i, cInt2_ii, cToInt_i, cToInt_b, cLen_s, cLen_t, cLen_r, cLen_l, cTuple_t, cTuple_r, cTuple_l, cList_t, cList_r, cList_l, qNeg, oI_ii, oAdd_ii, oSub, oMul, oDiv, oMod, oPow, oEq, oNe, oEqW_ii, oEqW_ss, oEqW_bb, oLt, oLe, oGt, oGe, oOrd_ii, oOrd_ss, oIx_t, oIx_r, oIx_l, oIx_s, qNo, qPart, qSl, oSl_t, oSl_r, oSl_l, oSl_s, qMeth, mAppend_1, iSeq, iRange1, iRange2, qCall, endsF, startD, List.map_cons, List.map_nil, List.length_cons, List.length_nil, List.length_map, List.cons_append, List.nil_append, List.replicate, List.getElem?_cons_zero, List.getElem?_cons_succ, List.set_cons_zero, List.set_cons_succ, Nat.reduceAdd, Nat.reduceSub, if_true, if_false, id, ups_same, ex_lst, ex_lst2, ex_some, atI_0, atI_1, atI_2, atI_3, ixN_0, ixN_1, ixN_21, oIx_p]
      rw [sp__law_wrong_table]
      refine ⟨s, n, xs, j11, t, m, rfl, I11.st, by omega, hs, hf, fun tw j12 hz hb i5 i6 => ?_⟩
      have I12 := I11.step (j := j12) (by omega)
      try simp only [sSeq, sNext, sBreak, sCont, sDrop, sRet, sRetN, sIf, sSet, sPar, sAsg, sRaise, gN, gE, gC, gU, gS, qVar, qC, qBin, qTB, qChain, qNot, qAnd, qOr, bd_bl, qNotT, qAndT, qOrT, qTru, tru_non, tru_bl, tru_int, tru_str, tru_tup, tru_rol, tru_ref, qIf, qNil, qCons, qTup, qLst, qCB, cInt_i, cInt2_ii, cToInt_i, cToInt_b, cLen_s, cLen_t, cLen_r, cLen_l, cTuple_t, cTuple_r, cTuple_l, cList_t, cList_r, cList_l, qNeg, oI_ii, oAdd_ii, oSub, oMul, oDiv, oMod, oPow, oEq, oNe, oEqW_ii, oEqW_ss, oEqW_bb, oLt, oLe, oGt, oGe, oOrd_ii, oOrd_ss, oIx_t, oIx_r, oIx_l, oIx_s, qNo, qPart, qSl, oSl_t, oSl_r, oSl_l, oSl_s, qMeth, mAppend_1, iSeq, iRange1, iRange2, qCall, endsF, startD, List.map_cons, List.map_nil, List.length_cons, List.length_nil, List.length_map, List.cons_append, List.nil_append, List.replicate, List.getElem?_cons_zero, List.getElem?_cons_succ, List.set_cons_zero, List.set_cons_succ, Nat.reduceAdd, Nat.reduceSub, if_true, if_false, id, ups_same, ex_lst, ex_lst2, ex_some, atI_0, atI_1, atI_2, atI_3, ixN_0, ixN_1, ixN_21, oIx_p]
      refine ⟨sz1, sz2, sz2, by decide, by decide, fun p13 hp13 => ?_⟩
      have h13 := I12.st.ne_s hp13
      have I13 := I12.fresh hp13 (ds := [.tup [.str "latins"], .tup [.str "latin", .str "latin"], .tup [.str "zero", .str ""], .tup [.str "turning", .str "zero", .str "turning"]])
      rw [sp__law_next]
      refine ⟨s, n, xs, j12, 4, rfl, I13.st, by omega, by omega, fun u u0 u1 => ?_⟩
      have I14 := I13.step (j := j12 + 1) (by omega)
      obtain ⟨ow, eo, ho, hol⟩ : ∃ ow : List Str, atI [D.tup [.str "latins"], .tup [.str "latin", .str "latin"], .tup [.str "zero", .str ""], .tup [.str "turning", .str "zero", .str "turning"]] u = some (.tup (ow.map D.str)) ∧ ¬ WOk ow ∧ ow.length ≤ 4 := by
        obtain ⟨x, ex, hx⟩ := at4 (a := .tup [.str "latins"]) (b := .tup [.str "latin", .str "latin"]) (c := .tup [.str "zero", .str ""]) (d := .tup [.str "turning", .str "zero", .str "turning"]) u0 u1
        rcases hx with rfl | rfl | rfl | rfl
        · exact ⟨["latins"], ex, odd_no (.inl rfl), by decide⟩
        · exact ⟨["latin", "latin"], ex, odd_no (.inr (.inl rfl)), by decide⟩
        · exact ⟨["zero", ""], ex, odd_no (.inr (.inr (.inl rfl))), by decide⟩
        · exact ⟨["turning", "zero", "turning"], ex, odd_no (.inr (.inr (.inr rfl))), by decide⟩
      rw [oIx_l, stepS_ne h13]
      refine ⟨_, ups_same, _, eo, ?_⟩
      try simp only [sSeq, sNext, sBreak, sCont, sDrop, sRet, sRetN, sIf, sSet, sPar, sAsg, sRaise, gN, gE, gC, gU, gS, qVar, qC, qBin, qTB, qChain, qNot, qAnd, qOr, bd_bl, qNotT, qAndT, qOrT, qTru, tru_non, tru_bl, tru_int, tru_str, tru_tup, tru_rol, tru_ref, qIf, qNil, qCons, qTup, qLst, qCB, cInt_i, cInt2_ii, cToInt_i, cToInt_b, cLen_s, cLen_t, cLen_r, cLen_l, cTuple_t, cTuple_r, cTuple_l, cList_t, cList_r, cList_l, qNeg, oI_ii, oAdd_ii, oSub, oMul, oDiv, oMod, oPow, oEq, oNe, oEqW_ii, oEqW_ss, oEqW_bb, oLt, oLe, oGt, oGe, oOrd_ii, oOrd_ss, oIx_t, oIx_r, oIx_l, oIx_s, qNo, qPart, qSl, oSl_t, oSl_r, oSl_l, oSl_s, qMeth, mAppend_1, iSeq, iRange1, iRange2, qCall, endsF, startD, List.map_cons, List.map_nil, List.length_cons, List.length_nil, List.length_map, List.cons_append, List.nil_append, List.replicate, List.getElem?_cons_zero, List.getElem?_cons_succ, List.set_cons_zero, List.set_cons_succ, Nat.reduceAdd, Nat.reduceSub, if_true, if_false, id, ups_same, ex_lst, ex_lst2, ex_some, atI_0, atI_1, atI_2, atI_3, ixN_0, ixN_1, ixN_21, oIx_p]
      rw [sp__law_holes]
      refine ⟨s, n, xs, _, t, m, 1, rfl, I14.st, by omega, hs, by omega, fun th j15 hsh _ hnf i7 i8 => ?_⟩
      have I15 := I14.step (j := j15) (by omega)
      generalize stepS (stepS (ups (stepS S11 s n j12) p13 _) s n (j12 + 1)) s n j15 = S15 at I15 ⊢
      try simp only [sSeq, sNext, sBreak, sCont, sDrop, sRet, sRetN, sIf, sSet, sPar, sAsg, sRaise, gN, gE, gC, gU, gS, qVar, qC, qBin, qTB, qChain, qNot, qAnd, qOr, bd_bl, qNotT, qAndT, qOrT, qTru, tru_non, tru_bl, tru_int, tru_str, tru_tup, tru_rol, tru_ref, qIf, qNil, qCons, qTup, qLst, qCB, cInt_i, cInt2_ii, cToInt_i, cToInt_b, cLen_s, cLen_t, cLen_r, cLen_l, cTuple_t, cTuple_r, cTuple_l, cList_t, cList_r, cList_l, qNeg, oI_ii, oAdd_ii, oSub, oMul, oDiv, oMod, oPow, oEq, oNe, oEqW_ii, oEqW_ss, oEqW_bb, oLt, oLe, oGt, oGe, oOrd_ii, oOrd_ss, oIx_t, oIx_r, oIx_l, oIx_s, qNo, qPart, qSl, oSl_t, oSl_r, oSl_l, oSl_s, qMeth, mAppend_1, iSeq, iRange1, iRange2, qCall, endsF, startD, List.map_cons, List.map_nil, List.length_cons, List.length_nil, List.length_map, List.cons_append, List.nil_append, List.replicate, List.getElem?_cons_zero, List.getElem?_cons_succ, List.set_cons_zero, List.set_cons_succ, Nat.reduceAdd, Nat.reduceSub, if_true, if_false, id, ups_same, ex_lst, ex_lst2, ex_some, atI_0, atI_1, atI_2, atI_3, ixN_0, ixN_1, ixN_21, oIx_p]
      refine for_intro ?_
      simp only [sSeq, sNext, sBreak, sCont, sDrop, sRet, sRetN, sIf, sSet, sPar, sAsg, sRaise, gN, gE, gC, gU, gS, qVar, qC, qBin, qTB, qChain, qNot, qAnd, qOr, bd_bl, qNotT, qAndT, qOrT, qTru, tru_non, tru_bl, tru_int, tru_str, tru_tup, tru_rol, tru_ref, qIf, qNil, qCons, qTup, qLst, qCB, cInt_i, cInt2_ii, cToInt_i, cToInt_b, cLen_s, cLen_t, cLen_r, cLen_l, cTuple_t, cTuple_r, cTuple_l, cList_t, cList_r, cList_l, qNeg, oI_ii, oAdd_ii, oSub, oMul, oDiv, oMod, oPow, oEq, oNe, oEqW_ii, oEqW_ss, oEqW_bb, oLt, oLe, oGt, oGe, oOrd_ii, oOrd_ss, oIx_t, oIx_r, oIx_l, oIx_s, qNo, qPart, qSl, oSl_t, oSl_r, oSl_l, oSl_s, qMeth, mAppend_1, iSeq, iRange1, iRange2, qCall, endsF, startD, List.map_cons, List.map_nil, List.length_cons, List.length_nil, List.length_map, List.cons_append, List.nil_append, List.replicate, List.getElem?_cons_zero, List.getElem?_cons_succ, List.set_cons_zero, List.set_cons_succ, Nat.reduceAdd, Nat.reduceSub, if_true, if_false, id, ups_same, ex_lst, ex_lst2, ex_some, atI_0, atI_1, atI_2, atI_3, ixN_0, ixN_1, ixN_21, oIx_p]
      refine ⟨by decide, fun p16 hp16 => ?_⟩
      have hzh : Sz th := ⟨by rw [hsh.len]; omega, fun r hr => by rw [hsh.row r hr]; omega⟩
      have hbh : ∀ m', ¬ (Sq th m' ∧ Full th) := fun m' z => hnf (Nat.le_refl 1) z.2
      refine ⟨fun i loc S' => (∃ z14, loc = [y0, some (.ref s), y2, some (tD t), some (.int m), some (.str (pyD (tD t)).shown), some (.tup (ws.map D.str)), some (.bl !dB (∃ w, w ∈ ws ∧ B t m w)), some (fD r), some (duD r), z10, some (tD tw), some (.tup (ow.map D.str)), some (tD th), z14, z15, z16, z17]) ∧ S' = ups S15 p16 (.lst [tD tw, tD th]), ⟨⟨_, rfl⟩, rfl⟩, ?_, ?_⟩
      · rintro i d loc S' hi ⟨⟨z14, rfl⟩, rfl⟩
        refine ⟨ups_same, ?_⟩
        obtain ⟨t', rfl, hz', hb'⟩ : ∃ t', d = tD t' ∧ Sz t' ∧ ∀ m', ¬ (Sq t' m' ∧ Full t') := by
          match i, hi with
          | 0, hi => exact ⟨tw, (Option.some.inj hi).symm, hz, fun m' z => hb m' z.1⟩
          | 1, hi => exact ⟨th, (Option.some.inj hi).symm, hzh, hbh⟩
          | j + 2, hi => cases hi
        simp only [sSeq, sNext, sBreak, sCont, sDrop, sRet, sRetN, sIf, sSet, sPar, sAsg, sRaise, gN, gE, gC, gU, gS, qVar, qC, qBin, qTB, qChain, qNot, qAnd, qOr, bd_bl, qNotT, qAndT, qOrT, qTru, tru_non, tru_bl, tru_int, tru_str, tru_tup, tru_rol, tru_ref, qIf, qNil, qCons, qTup, qLst, qCB, cInt_i, cInt2_ii, cToInt_i, cToInt_b, cLen_s, cLen_t, cLen_r, cLen_l, cTuple_t, cTuple_r, cTuple_l, cList_t, cList_r, cList_l, qNeg, oI_ii, oAdd_ii, oSub, oMul, oDiv, oMod, oPow, oEq, oNe, oEqW_ii, oEqW_ss, oEqW_bb, oLt, oLe, oGt, oGe, oOrd_ii, oOrd_ss, oIx_t, oIx_r, oIx_l, oIx_s, qNo, qPart, qSl, oSl_t, oSl_r, oSl_l, oSl_s, qMeth, mAppend_1, iSeq, iRange1, iRange2, qCall, endsF, startD, List.map_cons, List.map_nil, List.length_cons, List.length_nil, List.length_map, List.cons_append, List.nil_append, List.replicate, List.getElem?_cons_zero, List.getElem?_cons_succ, List.set_cons_zero, List.set_cons_succ, Nat.reduceAdd, Nat.reduceSub, if_true, if_false, id, ups_same, ex_lst, ex_lst2, ex_some, atI_0, atI_1, atI_2, atI_3, ixN_0, ixN_1, ixN_21, oIx_p]
        exact b1_ok nd (I15.fresh hp16).tok hz' hb' hwl ⟨⟨_, rfl⟩, rfl⟩
      · rintro loc S' ⟨⟨z14, rfl⟩, rfl⟩
        refine ⟨ups_same, ?_⟩
        have I16 := I15.fresh hp16 (ds := [tD tw, tD th])
        try simp only [sSeq, sNext, sBreak, sCont, sDrop, sRet, sRetN, sIf, sSet, sPar, sAsg, sRaise, gN, gE, gC, gU, gS, qVar, qC, qBin, qTB, qChain, qNot, qAnd, qOr, bd_bl, qNotT, qAndT, qOrT, qTru, tru_non, tru_bl, tru_int, tru_str, tru_tup, tru_rol, tru_ref, qIf, qNil, qCons, qTup, qLst, qCB, cInt_i, cInt2_ii, cToInt_i, cToInt_b, cLen_s, cLen_t, cLen_r, cLen_l, cTuple_t, cTuple_r, cTuple_l, cList_t, cList_r, cList_l, qNeg, oI_ii, oAdd_ii, oSub, oMul, oDiv, oMod, oPow, oEq, oNe, oEqW_ii, oEqW_ss, oEqW_bb, oLt, oLe, oGt, oGe, oOrd_ii, oOrd_ss, oIx_t, oIx_r, oIx_l, oIx_s, qNo, qPart, qSl, oSl_t, oSl_r, oSl_l, oSl_s, qMeth, mAppend_1, iSeq, iRange1, iRange2, qCall, endsF, startD, List.map_cons, List.map_nil, List.length_cons, List.length_nil, List.length_map, List.cons_append, List.nil_append, List.replicate, List.getElem?_cons_zero, List.getElem?_cons_succ, List.set_cons_zero, List.set_cons_succ, Nat.reduceAdd, Nat.reduceSub, if_true, if_false, id, ups_same, ex_lst, ex_lst2, ex_some, atI_0, atI_1, atI_2, atI_3, ixN_0, ixN_1, ixN_21, oIx_p]
        refine told_ok nd I16.tok fun S1 P1 E1 sub tok1 g1 g2 => ?_
        simp only [sp_keeps, sSeq, sNext, sBreak, sCont, sDrop, sRet, sRetN, sIf, sSet, sPar, sAsg, sRaise, gN, gE, gC, gU, gS, qVar, qC, qBin, qTB, qChain, qNot, qAnd, qOr, bd_bl, qNotT, qAndT, qOrT, qTru, tru_non, tru_bl, tru_int, tru_str, tru_tup, tru_rol, tru_ref, qIf, qNil, qCons, qTup, qLst, qCB, cInt_i, cInt2_ii, cToInt_i, cToInt_b, cLen_s, cLen_t, cLen_r, cLen_l, cTuple_t, cTuple_r, cTuple_l, cList_t, cList_r, cList_l, qNeg, oI_ii, oAdd_ii, oSub, oMul, oDiv, oMod, oPow, oEq, oNe, oEqW_ii, oEqW_ss, oEqW_bb, oLt, oLe, oGt, oGe, oOrd_ii, oOrd_ss, oIx_t, oIx_r, oIx_l, oIx_s, qNo, qPart, qSl, oSl_t, oSl_r, oSl_l, oSl_s, qMeth, mAppend_1, iSeq, iRange1, iRange2, qCall, endsF, startD, List.map_cons, List.map_nil, List.length_cons, List.length_nil, List.length_map, List.cons_append, List.nil_append, List.replicate, List.getElem?_cons_zero, List.getElem?_cons_succ, List.set_cons_zero, List.set_cons_succ, Nat.reduceAdd, Nat.reduceSub, if_true, if_false, id, ups_same, ex_lst, ex_lst2, ex_some, atI_0, atI_1, atI_2, atI_3, ixN_0, ixN_1, ixN_21, oIx_p]
        refine ⟨t, ow, rfl, ⟨by omega, fun r hr => by rw [hs.row r hr]; omega⟩, by omega, fun _ _ _ z => absurd z ho, fun _ => g2 0 S1 (by decide) sub ?_⟩
        refine ⟨by decide, ne_ref ?_⟩
        refine ifF rfl ?_
        refine ⟨tD t, pyD (tD t), rfl, .inr (.inl ⟨_, rfl⟩), (sq_data hs _).1, (sq_data hs S).2, ?_⟩
        simp only [sSeq, sNext, sBreak, sCont, sDrop, sRet, sRetN, sIf, sSet, sPar, sAsg, sRaise, gN, gE, gC, gU, gS, qVar, qC, qBin, qTB, qChain, qNot, qAnd, qOr, bd_bl, qNotT, qAndT, qOrT, qTru, tru_non, tru_bl, tru_int, tru_str, tru_tup, tru_rol, tru_ref, qIf, qNil, qCons, qTup, qLst, qCB, cInt_i, cInt2_ii, cToInt_i, cToInt_b, cLen_s, cLen_t, cLen_r, cLen_l, cTuple_t, cTuple_r, cTuple_l, cList_t, cList_r, cList_l, qNeg, oI_ii, oAdd_ii, oSub, oMul, oDiv, oMod, oPow, oEq, oNe, oEqW_ii, oEqW_ss, oEqW_bb, oLt, oLe, oGt, oGe, oOrd_ii, oOrd_ss, oIx_t, oIx_r, oIx_l, oIx_s, qNo, qPart, qSl, oSl_t, oSl_r, oSl_l, oSl_s, qMeth, mAppend_1, iSeq, iRange1, iRange2, qCall, endsF, startD, List.map_cons, List.map_nil, List.length_cons, List.length_nil, List.length_map, List.cons_append, List.nil_append, List.replicate, List.getElem?_cons_zero, List.getElem?_cons_succ, List.set_cons_zero, List.set_cons_succ, Nat.reduceAdd, Nat.reduceSub, if_true, if_false, id, ups_same, ex_lst, ex_lst2, ex_some, atI_0, atI_1, atI_2, atI_3, ixN_0, ixN_1, ixN_21, oIx_p]
        refine ifF (by simp) ?_
        exact hn _ j15 _ _ _ _ _ _ _ _ _ _ _ _ _ _ _ I16 (by omega) (by omega)
end
section
variable {tb : List (Addr × Str)} {nm : Str} {s n : Addr} {xs : List Int} {S : Sto} {P : QN}
theorem p_law {tb : List (Addr × Str)} {nm : Str} (nd : ad.six.Nodup) : ∀ ds S Q E, sp_law ad ds S Q E → TabOk tb S → r_law ad tb nm (endsF Q E) (startD N_law ds) S := by
  rintro ds S Q E ⟨ns, rfl, hl, q⟩ tok
  simp only [r_law, sSeq, sNext, sBreak, sCont, sDrop, sRet, sRetN, sIf, sSet, sPar, sAsg, sRaise, gN, gE, gC, gU, gS, qVar, qC, qBin, qTB, qChain, qNot, qAnd, qOr, bd_bl, qNotT, qAndT, qOrT, qTru, tru_non, tru_bl, tru_int, tru_str, tru_tup, tru_rol, tru_ref, qIf, qNil, qCons, qTup, qLst, qCB, cInt_i, cInt2_ii, cToInt_i, cToInt_b, cLen_s, cLen_t, cLen_r, cLen_l, cTuple_t, cTuple_r, cTuple_l, cList_t, cList_r, cList_l, qNeg, oI_ii, oAdd_ii, oSub, oMul, oDiv, oMod, oPow, oEq, oNe, oEqW_ii, oEqW_ss, oEqW_bb, oLt, oLe, oGt, oGe, oOrd_ii, oOrd_ss, oIx_t, oIx_r, oIx_l, oIx_s, qNo, qPart, qSl, oSl_t, oSl_r, oSl_l, oSl_s, qMeth, mAppend_1, iSeq, iRange1, iRange2, qCall, endsF, startD, List.map_cons, List.map_nil, List.length_cons, List.length_nil, List.length_map, List.cons_append, List.nil_append, List.replicate, List.getElem?_cons_zero, List.getElem?_cons_succ, List.set_cons_zero, List.set_cons_succ, Nat.reduceAdd, Nat.reduceSub, if_true, if_false, id, ups_same, ex_lst, ex_lst2, ex_some, atI_0, atI_1, atI_2, atI_3, ixN_0, ixN_1, ixN_21, oIx_p]
  rw [sp__law_stream]
  refine ⟨ns, rfl, hl, fun n xs S1 hn1 sub1 oth1 e1 ok => ?_⟩
  try simp only [sSeq, sNext, sBreak, sCont, sDrop, sRet, sRetN, sIf, sSet, sPar, sAsg, sRaise, gN, gE, gC, gU, gS, qVar, qC, qBin, qTB, qChain, qNot, qAnd, qOr, bd_bl, qNotT, qAndT, qOrT, qTru, tru_non, tru_bl, tru_int, tru_str, tru_tup, tru_rol, tru_ref, qIf, qNil, qCons, qTup, qLst, qCB, cInt_i, cInt2_ii, cToInt_i, cToInt_b, cLen_s, cLen_t, cLen_r, cLen_l, cTuple_t, cTuple_r, cTuple_l, cList_t, cList_r, cList_l, qNeg, oI_ii, oAdd_ii, oSub, oMul, oDiv, oMod, oPow, oEq, oNe, oEqW_ii, oEqW_ss, oEqW_bb, oLt, oLe, oGt, oGe, oOrd_ii, oOrd_ss, oIx_t, oIx_r, oIx_l, oIx_s, qNo, qPart, qSl, oSl_t, oSl_r, oSl_l, oSl_s, qMeth, mAppend_1, iSeq, iRange1, iRange2, qCall, endsF, startD, List.map_cons, List.map_nil, List.length_cons, List.length_nil, List.length_map, List.cons_append, List.nil_append, List.replicate, List.getElem?_cons_zero, List.getElem?_cons_succ, List.set_cons_zero, List.set_cons_succ, Nat.reduceAdd, Nat.reduceSub, if_true, if_false, id, ups_same, ex_lst, ex_lst2, ex_some, atI_0, atI_1, atI_2, atI_3, ixN_0, ixN_1, ixN_21, oIx_p]
  refine ⟨sz2, fun s hs => ?_⟩
  have tok1 : TabOk tb S1 := ⟨fun p hp => sub1 _ _ (tok.1 p hp), fun a x e => by
    rcases oth1 _ _ e with z | z | ⟨ds, z⟩
    · rw [z, e1] at e
      cases e
    · exact tok.2 a x z
    · cases z⟩
  have I : Inv tb s n xs 0 (ups S1 s (.lst [.ref n, .int 0])) := ⟨⟨ups_same, by rw [ups_ne (sto_ne e1 hs)]; exact e1, Ne.symm (sto_ne e1 hs), ok, by decide⟩, tok1.new hs⟩
  refine for_intro ?_
  simp only [sSeq, sNext, sBreak, sCont, sDrop, sRet, sRetN, sIf, sSet, sPar, sAsg, sRaise, gN, gE, gC, gU, gS, qVar, qC, qBin, qTB, qChain, qNot, qAnd, qOr, bd_bl, qNotT, qAndT, qOrT, qTru, tru_non, tru_bl, tru_int, tru_str, tru_tup, tru_rol, tru_ref, qIf, qNil, qCons, qTup, qLst, qCB, cInt_i, cInt2_ii, cToInt_i, cToInt_b, cLen_s, cLen_t, cLen_r, cLen_l, cTuple_t, cTuple_r, cTuple_l, cList_t, cList_r, cList_l, qNeg, oI_ii, oAdd_ii, oSub, oMul, oDiv, oMod, oPow, oEq, oNe, oEqW_ii, oEqW_ss, oEqW_bb, oLt, oLe, oGt, oGe, oOrd_ii, oOrd_ss, oIx_t, oIx_r, oIx_l, oIx_s, qNo, qPart, qSl, oSl_t, oSl_r, oSl_l, oSl_s, qMeth, mAppend_1, iSeq, iRange1, iRange2, qCall, endsF, startD, List.map_cons, List.map_nil, List.length_cons, List.length_nil, List.length_map, List.cons_append, List.nil_append, List.replicate, List.getElem?_cons_zero, List.getElem?_cons_succ, List.set_cons_zero, List.set_cons_succ, Nat.reduceAdd, Nat.reduceSub, if_true, if_false, id, ups_same, ex_lst, ex_lst2, ex_some, atI_0, atI_1, atI_2, atI_3, ixN_0, ixN_1, ixN_21, oIx_p]
  refine ⟨by decide, by decide, fun i loc S' => (∃ z2 z3 z4 z5 z6 z7 z8 z9 z10 z11 z12 z13 z14 z15 z16 z17, loc = [some (.rol (ns.map D.int)), some (.ref s), z2, z3, z4, z5, z6, z7, z8, z9, z10, z11, z12, z13, z14, z15, z16, z17]) ∧ ∃ j, Inv tb s n xs j S' ∧ 0 ≤ j ∧ j ≤ 3000 * i, ⟨⟨_, _, _, _, _, _, _, _, _, _, _, _, _, _, _, _, rfl⟩, 0, I, by omega, by omega⟩, ?_, ?_⟩
  · rintro i d loc S' hi ⟨⟨z2, z3, z4, z5, z6, z7, z8, z9, z10, z11, z12, z13, z14, z15, z16, z17, rfl⟩, j, I', j1, j2⟩
    obtain ⟨hi1, rfl⟩ := rangeD_get hi
    have hi2 : i < 5 := hi1
    refine ⟨trivial, ?_⟩
    simp only [sSeq, sNext, sBreak, sCont, sDrop, sRet, sRetN, sIf, sSet, sPar, sAsg, sRaise, gN, gE, gC, gU, gS, qVar, qC, qBin, qTB, qChain, qNot, qAnd, qOr, bd_bl, qNotT, qAndT, qOrT, qTru, tru_non, tru_bl, tru_int, tru_str, tru_tup, tru_rol, tru_ref, qIf, qNil, qCons, qTup, qLst, qCB, cInt_i, cInt2_ii, cToInt_i, cToInt_b, cLen_s, cLen_t, cLen_r, cLen_l, cTuple_t, cTuple_r, cTuple_l, cList_t, cList_r, cList_l, qNeg, oI_ii, oAdd_ii, oSub, oMul, oDiv, oMod, oPow, oEq, oNe, oEqW_ii, oEqW_ss, oEqW_bb, oLt, oLe, oGt, oGe, oOrd_ii, oOrd_ss, oIx_t, oIx_r, oIx_l, oIx_s, qNo, qPart, qSl, oSl_t, oSl_r, oSl_l, oSl_s, qMeth, mAppend_1, iSeq, iRange1, iRange2, qCall, endsF, startD, List.map_cons, List.map_nil, List.length_cons, List.length_nil, List.length_map, List.cons_append, List.nil_append, List.replicate, List.getElem?_cons_zero, List.getElem?_cons_succ, List.set_cons_zero, List.set_cons_succ, Nat.reduceAdd, Nat.reduceSub, if_true, if_false, id, ups_same, ex_lst, ex_lst2, ex_some, atI_0, atI_1, atI_2, atI_3, ixN_0, ixN_1, ixN_21, oIx_p]
    refine b4_ok nd I' (by omega) fun S2 j' z3 z4 z5 z6 z7 z8 z9 z10 z11 z12 z13 z14 z15 z16 z17 I2 i1 i2 => ⟨⟨_, _, _, _, _, _, _, _, _, _, _, _, _, _, _, _, rfl⟩, j', I2, by omega, by omega⟩
  · rintro loc S' ⟨⟨z2, z3, z4, z5, z6, z7, z8, z9, z10, z11, z12, z13, z14, z15, z16, z17, rfl⟩, j, I', j1, j2⟩
    exact ⟨trivial, S', Sub.refl _, q S'⟩
theorem law_start {S : Sto} (ns : List Int) (hl : ns.length ≤ 63) (hb : ∀ z ∈ ns, Builtin.Int.intBits z ≤ 1048576) : sp_law ad [.rol (ns.map D.int)] S (fun d _ => d = .bl true) fun _ _ => False := ⟨ns, rfl, hl, fun _ => rfl⟩
end
end K35

namespace K35
open PySem PySem.Spec PyProof.Rows L2 PL
variable {ad : Ad}
theorem p__law_same : ∀ ds S Q E, sp__law_same ad ds S Q E → r__law_same ad (endsF Q E) (startD N__law_same ds) S := by
  rintro ds S Q E ⟨a, b, p, rfl, ha, hb, hg, q⟩
  simp only [r__law_same, cRepr, sSeq, sNext, sBreak, sCont, sDrop, sRet, sRetN, sIf, sSet, sPar, sAsg, sRaise, gN, gE, gC, gU, gS, qVar, qC, qBin, qTB, qChain, qNot, qAnd, qOr, bd_bl, qNotT, qAndT, qOrT, qTru, tru_non, tru_bl, tru_int, tru_str, tru_tup, tru_rol, tru_ref, qIf, qNil, qCons, qTup, qLst, qCB, cInt_i, cInt2_ii, cToInt_i, cToInt_b, cLen_s, cLen_t, cLen_r, cLen_l, cTuple_t, cTuple_r, cTuple_l, cList_t, cList_r, cList_l, qNeg, oI_ii, oAdd_ii, oSub, oMul, oDiv, oMod, oPow, oEq, oNe, oEqW_ii, oEqW_ss, oEqW_bb, oLt, oLe, oGt, oGe, oOrd_ii, oOrd_ss, oIx_t, oIx_r, oIx_l, oIx_s, qNo, qPart, qSl, oSl_t, oSl_r, oSl_l, oSl_s, qMeth, mAppend_1, iSeq, iRange1, iRange2, qCall, endsF, startD, List.map_cons, List.map_nil, List.length_cons, List.length_nil, List.length_map, List.cons_append, List.nil_append, List.replicate, List.getElem?_cons_zero, List.getElem?_cons_succ, List.set_cons_zero, List.set_cons_succ, Nat.reduceAdd, Nat.reduceSub, if_true, if_false, id, ups_same, ex_lst, ex_lst2, ex_some, atI_0, atI_1, atI_2, atI_3, ixN_0, ixN_1, ixN_21, oIx_p]
  refine ⟨sz1, fun x hx => ⟨_, .list [p], rfl, ⟨x, rfl⟩, ?_, hg, ?_⟩⟩
  · exact .lst ups_same (.cons (Dat.sub (fun c o h => (Sub.refl S).new hx c o h) _ _ ha) .nil)
  · refine ⟨sz1, fun y hy => ⟨_, .list [p], rfl, ⟨y, rfl⟩, ?_, hg, ?_⟩⟩
    · exact .lst ups_same (.cons (Dat.sub (((Sub.refl S).new hx).new hy) _ _ hb) .nil)
    · refine ⟨S, ((Sub.refl S).new hx).new hy, ?_⟩
      rw [decide_eq_true rfl]
      exact q
end K35

/-! printed by gen_end.py -/
namespace K35
open PySem PySem.Spec PyProof.Rows L2 PL
section
variable {P : Program} {w : World} {K : PySem.W.Frag} {mg : Str → Option Value} {base : Heap} {ad : Ad} {f : Addr} {fd : FuncData}
abbrev FnD (K : PySem.W.Frag) (x : Str) (st : Stmt) (f : Addr) (fd : FuncData) : Prop := FunD K x x (defArgs st) (defBody st) (defScope st) [] [] f fd
theorem len_check_partial {ds : List D} {S : Sto} {Q : PD} {E : PX} (h : sp_check_partial ad ds S Q E) : ds.length = ["partial"].length := by
  first
  | (obtain ⟨_, rfl, _⟩ := h; rfl)
  | (obtain ⟨_, _, rfl, _⟩ := h; rfl)
  | (obtain ⟨_, _, _, rfl, _⟩ := h; rfl)
  | (obtain ⟨_, _, _, _, rfl, _⟩ := h; rfl)
  | (obtain ⟨_, _, _, _, _, rfl, _⟩ := h; rfl)
  | (obtain ⟨_, _, _, _, _, _, rfl, _⟩ := h; rfl)
  | (obtain ⟨_, _, _, _, _, _, _, rfl, _⟩ := h; rfl)
  | (obtain ⟨_, _, _, _, _, _, _, _, rfl, _⟩ := h; rfl)
theorem ok_check_partial (T : Txt K mg ad) (F : FnD K "check_partial" s_check_partial f fd) (g : mg "check_partial" = some (.ref f)) : GF P w K mg base "check_partial" ["partial"] 1 (sp_check_partial ad) :=
  ⟨f, fd, g, F.kp, F.bindsN (fun _ _ _ _ _ _ us hl => match us, hl with | [_], _ => rfl), FunD.pure F sc_check_partial (fun cdv A outer s H E hr => d_check_partial T f cdv A outer s H E hr) (fun ds S Q E h => len_check_partial h) p_check_partial⟩
theorem len_check_table {ds : List D} {S : Sto} {Q : PD} {E : PX} (h : sp_check_table ad ds S Q E) : ds.length = ["table"].length := by
  first
  | (obtain ⟨_, rfl, _⟩ := h; rfl)
  | (obtain ⟨_, _, rfl, _⟩ := h; rfl)
  | (obtain ⟨_, _, _, rfl, _⟩ := h; rfl)
  | (obtain ⟨_, _, _, _, rfl, _⟩ := h; rfl)
  | (obtain ⟨_, _, _, _, _, rfl, _⟩ := h; rfl)
  | (obtain ⟨_, _, _, _, _, _, rfl, _⟩ := h; rfl)
  | (obtain ⟨_, _, _, _, _, _, _, rfl, _⟩ := h; rfl)
  | (obtain ⟨_, _, _, _, _, _, _, _, rfl, _⟩ := h; rfl)
theorem ok_check_table (T : Txt K mg ad) (G_check_partial : GF P w K mg base "check_partial" ["partial"] 1 (sp_check_partial ad)) (F : FnD K "check_table" s_check_table f fd) (g : mg "check_table" = some (.ref f)) : GF P w K mg base "check_table" ["table"] 2 (sp_check_table ad) :=
  ⟨f, fd, g, F.kp, F.bindsN (fun _ _ _ _ _ _ us hl => match us, hl with | [_], _ => rfl), FunD.pure F sc_check_table (fun cdv A outer s H E hr => d_check_table T G_check_partial f cdv A outer s H E hr) (fun ds S Q E h => len_check_table h) p_check_table⟩
theorem len_check_wishes {ds : List D} {S : Sto} {Q : PD} {E : PX} (h : sp_check_wishes ad ds S Q E) : ds.length = ["wishes"].length := by
  first
  | (obtain ⟨_, rfl, _⟩ := h; rfl)
  | (obtain ⟨_, _, rfl, _⟩ := h; rfl)
  | (obtain ⟨_, _, _, rfl, _⟩ := h; rfl)
  | (obtain ⟨_, _, _, _, rfl, _⟩ := h; rfl)
  | (obtain ⟨_, _, _, _, _, rfl, _⟩ := h; rfl)
  | (obtain ⟨_, _, _, _, _, _, rfl, _⟩ := h; rfl)
  | (obtain ⟨_, _, _, _, _, _, _, rfl, _⟩ := h; rfl)
  | (obtain ⟨_, _, _, _, _, _, _, _, rfl, _⟩ := h; rfl)
theorem ok_check_wishes (T : Txt K mg ad) (F : FnD K "check_wishes" s_check_wishes f fd) (g : mg "check_wishes" = some (.ref f)) : GF P w K mg base "check_wishes" ["wishes"] 1 (sp_check_wishes ad) :=
  ⟨f, fd, g, F.kp, F.bindsN (fun _ _ _ _ _ _ us hl => match us, hl with | [_], _ => rfl), FunD.pure F sc_check_wishes (fun cdv A outer s H E hr => d_check_wishes T f cdv A outer s H E hr) (fun ds S Q E h => len_check_wishes h) p_check_wishes⟩
theorem len_repeats {ds : List D} {S : Sto} {Q : PD} {E : PX} (h : sp_repeats ad ds S Q E) : ds.length = ["cells"].length := by
  first
  | (obtain ⟨_, rfl, _⟩ := h; rfl)
  | (obtain ⟨_, _, rfl, _⟩ := h; rfl)
  | (obtain ⟨_, _, _, rfl, _⟩ := h; rfl)
  | (obtain ⟨_, _, _, _, rfl, _⟩ := h; rfl)
  | (obtain ⟨_, _, _, _, _, rfl, _⟩ := h; rfl)
  | (obtain ⟨_, _, _, _, _, _, rfl, _⟩ := h; rfl)
  | (obtain ⟨_, _, _, _, _, _, _, rfl, _⟩ := h; rfl)
  | (obtain ⟨_, _, _, _, _, _, _, _, rfl, _⟩ := h; rfl)
theorem ok_repeats (T : Txt K mg ad) (F : FnD K "repeats" s_repeats f fd) (g : mg "repeats" = some (.ref f)) : GF P w K mg base "repeats" ["cells"] 1 (sp_repeats ad) :=
  ⟨f, fd, g, F.kp, F.bindsN (fun _ _ _ _ _ _ us hl => match us, hl with | [_], _ => rfl), FunD.pure F sc_repeats (fun cdv A outer s H E hr => d_repeats T f cdv A outer s H E hr) (fun ds S Q E h => len_repeats h) p_repeats⟩
theorem len_breaks_latin {ds : List D} {S : Sto} {Q : PD} {E : PX} (h : sp_breaks_latin ad ds S Q E) : ds.length = ["table"].length := by
  first
  | (obtain ⟨_, rfl, _⟩ := h; rfl)
  | (obtain ⟨_, _, rfl, _⟩ := h; rfl)
  | (obtain ⟨_, _, _, rfl, _⟩ := h; rfl)
  | (obtain ⟨_, _, _, _, rfl, _⟩ := h; rfl)
  | (obtain ⟨_, _, _, _, _, rfl, _⟩ := h; rfl)
  | (obtain ⟨_, _, _, _, _, _, rfl, _⟩ := h; rfl)
  | (obtain ⟨_, _, _, _, _, _, _, rfl, _⟩ := h; rfl)
  | (obtain ⟨_, _, _, _, _, _, _, _, rfl, _⟩ := h; rfl)
theorem ok_breaks_latin (T : Txt K mg ad) (G_repeats : GF P w K mg base "repeats" ["cells"] 1 (sp_repeats ad)) (F : FnD K "breaks_latin" s_breaks_latin f fd) (g : mg "breaks_latin" = some (.ref f)) : GF P w K mg base "breaks_latin" ["table"] 2 (sp_breaks_latin ad) :=
  ⟨f, fd, g, F.kp, F.bindsN (fun _ _ _ _ _ _ us hl => match us, hl with | [_], _ => rfl), FunD.pure F sc_breaks_latin (fun cdv A outer s H E hr => d_breaks_latin T G_repeats f cdv A outer s H E hr) (fun ds S Q E h => len_breaks_latin h) p_breaks_latin⟩
theorem len_breaks_zero {ds : List D} {S : Sto} {Q : PD} {E : PX} (h : sp_breaks_zero ad ds S Q E) : ds.length = ["table"].length := by
  first
  | (obtain ⟨_, rfl, _⟩ := h; rfl)
  | (obtain ⟨_, _, rfl, _⟩ := h; rfl)
  | (obtain ⟨_, _, _, rfl, _⟩ := h; rfl)
  | (obtain ⟨_, _, _, _, rfl, _⟩ := h; rfl)
  | (obtain ⟨_, _, _, _, _, rfl, _⟩ := h; rfl)
  | (obtain ⟨_, _, _, _, _, _, rfl, _⟩ := h; rfl)
  | (obtain ⟨_, _, _, _, _, _, _, rfl, _⟩ := h; rfl)
  | (obtain ⟨_, _, _, _, _, _, _, _, rfl, _⟩ := h; rfl)
theorem ok_breaks_zero (T : Txt K mg ad) (F : FnD K "breaks_zero" s_breaks_zero f fd) (g : mg "breaks_zero" = some (.ref f)) : GF P w K mg base "breaks_zero" ["table"] 1 (sp_breaks_zero ad) :=
  ⟨f, fd, g, F.kp, F.bindsN (fun _ _ _ _ _ _ us hl => match us, hl with | [_], _ => rfl), FunD.pure F sc_breaks_zero (fun cdv A outer s H E hr => d_breaks_zero T f cdv A outer s H E hr) (fun ds S Q E h => len_breaks_zero h) p_breaks_zero⟩
theorem len_breaks_commuting {ds : List D} {S : Sto} {Q : PD} {E : PX} (h : sp_breaks_commuting ad ds S Q E) : ds.length = ["table"].length := by
  first
  | (obtain ⟨_, rfl, _⟩ := h; rfl)
  | (obtain ⟨_, _, rfl, _⟩ := h; rfl)
  | (obtain ⟨_, _, _, rfl, _⟩ := h; rfl)
  | (obtain ⟨_, _, _, _, rfl, _⟩ := h; rfl)
  | (obtain ⟨_, _, _, _, _, rfl, _⟩ := h; rfl)
  | (obtain ⟨_, _, _, _, _, _, rfl, _⟩ := h; rfl)
  | (obtain ⟨_, _, _, _, _, _, _, rfl, _⟩ := h; rfl)
  | (obtain ⟨_, _, _, _, _, _, _, _, rfl, _⟩ := h; rfl)
theorem ok_breaks_commuting (T : Txt K mg ad) (F : FnD K "breaks_commuting" s_breaks_commuting f fd) (g : mg "breaks_commuting" = some (.ref f)) : GF P w K mg base "breaks_commuting" ["table"] 1 (sp_breaks_commuting ad) :=
  ⟨f, fd, g, F.kp, F.bindsN (fun _ _ _ _ _ _ us hl => match us, hl with | [_], _ => rfl), FunD.pure F sc_breaks_commuting (fun cdv A outer s H E hr => d_breaks_commuting T f cdv A outer s H E hr) (fun ds S Q E h => len_breaks_commuting h) p_breaks_commuting⟩
theorem len_behind {ds : List D} {S : Sto} {Q : PD} {E : PX} (h : sp_behind ad ds S Q E) : ds.length = ["table", "start", "one", "other"].length := by
  first
  | (obtain ⟨_, rfl, _⟩ := h; rfl)
  | (obtain ⟨_, _, rfl, _⟩ := h; rfl)
  | (obtain ⟨_, _, _, rfl, _⟩ := h; rfl)
  | (obtain ⟨_, _, _, _, rfl, _⟩ := h; rfl)
  | (obtain ⟨_, _, _, _, _, rfl, _⟩ := h; rfl)
  | (obtain ⟨_, _, _, _, _, _, rfl, _⟩ := h; rfl)
  | (obtain ⟨_, _, _, _, _, _, _, rfl, _⟩ := h; rfl)
  | (obtain ⟨_, _, _, _, _, _, _, _, rfl, _⟩ := h; rfl)
theorem ok_behind (T : Txt K mg ad) (F : FnD K "behind" s_behind f fd) (g : mg "behind" = some (.ref f)) : GF P w K mg base "behind" ["table", "start", "one", "other"] 1 (sp_behind ad) :=
  ⟨f, fd, g, F.kp, F.bindsN (fun _ _ _ _ _ _ us hl => match us, hl with | [_, _, _, _], _ => rfl), FunD.pure F sc_behind (fun cdv A outer s H E hr => d_behind T f cdv A outer s H E hr) (fun ds S Q E h => len_behind h) p_behind⟩
theorem len_turned_pair {ds : List D} {S : Sto} {Q : PD} {E : PX} (h : sp_turned_pair ad ds S Q E) : ds.length = ["table"].length := by
  first
  | (obtain ⟨_, rfl, _⟩ := h; rfl)
  | (obtain ⟨_, _, rfl, _⟩ := h; rfl)
  | (obtain ⟨_, _, _, rfl, _⟩ := h; rfl)
  | (obtain ⟨_, _, _, _, rfl, _⟩ := h; rfl)
  | (obtain ⟨_, _, _, _, _, rfl, _⟩ := h; rfl)
  | (obtain ⟨_, _, _, _, _, _, rfl, _⟩ := h; rfl)
  | (obtain ⟨_, _, _, _, _, _, _, rfl, _⟩ := h; rfl)
  | (obtain ⟨_, _, _, _, _, _, _, _, rfl, _⟩ := h; rfl)
theorem ok_turned_pair (T : Txt K mg ad) (G_behind : GF P w K mg base "behind" ["table", "start", "one", "other"] 1 (sp_behind ad)) (F : FnD K "turned_pair" s_turned_pair f fd) (g : mg "turned_pair" = some (.ref f)) : GF P w K mg base "turned_pair" ["table"] 2 (sp_turned_pair ad) :=
  ⟨f, fd, g, F.kp, F.bindsN (fun _ _ _ _ _ _ us hl => match us, hl with | [_], _ => rfl), FunD.pure F sc_turned_pair (fun cdv A outer s H E hr => d_turned_pair T G_behind f cdv A outer s H E hr) (fun ds S Q E h => len_turned_pair h) p_turned_pair⟩
theorem len_is_broken {ds : List D} {S : Sto} {Q : PD} {E : PX} (h : sp_is_broken ad ds S Q E) : ds.length = ["table", "wish"].length := by
  first
  | (obtain ⟨_, rfl, _⟩ := h; rfl)
  | (obtain ⟨_, _, rfl, _⟩ := h; rfl)
  | (obtain ⟨_, _, _, rfl, _⟩ := h; rfl)
  | (obtain ⟨_, _, _, _, rfl, _⟩ := h; rfl)
  | (obtain ⟨_, _, _, _, _, rfl, _⟩ := h; rfl)
  | (obtain ⟨_, _, _, _, _, _, rfl, _⟩ := h; rfl)
  | (obtain ⟨_, _, _, _, _, _, _, rfl, _⟩ := h; rfl)
  | (obtain ⟨_, _, _, _, _, _, _, _, rfl, _⟩ := h; rfl)
theorem ok_is_broken (T : Txt K mg ad) (G_breaks_commuting : GF P w K mg base "breaks_commuting" ["table"] 1 (sp_breaks_commuting ad)) (G_breaks_latin : GF P w K mg base "breaks_latin" ["table"] 2 (sp_breaks_latin ad)) (G_breaks_zero : GF P w K mg base "breaks_zero" ["table"] 1 (sp_breaks_zero ad)) (G_turned_pair : GF P w K mg base "turned_pair" ["table"] 2 (sp_turned_pair ad)) (F : FnD K "is_broken" s_is_broken f fd) (g : mg "is_broken" = some (.ref f)) : GF P w K mg base "is_broken" ["table", "wish"] 3 (sp_is_broken ad) :=
  ⟨f, fd, g, F.kp, F.bindsN (fun _ _ _ _ _ _ us hl => match us, hl with | [_, _], _ => rfl), FunD.pure F sc_is_broken (fun cdv A outer s H E hr => d_is_broken T G_breaks_commuting G_breaks_latin G_breaks_zero G_turned_pair f cdv A outer s H E hr) (fun ds S Q E h => len_is_broken h) p_is_broken⟩
theorem len_keeps {ds : List D} {S : Sto} {Q : PD} {E : PX} (h : sp_keeps ad ds S Q E) : ds.length = ["table", "wishes"].length := by
  first
  | (obtain ⟨_, rfl, _⟩ := h; rfl)
  | (obtain ⟨_, _, rfl, _⟩ := h; rfl)
  | (obtain ⟨_, _, _, rfl, _⟩ := h; rfl)
  | (obtain ⟨_, _, _, _, rfl, _⟩ := h; rfl)
  | (obtain ⟨_, _, _, _, _, rfl, _⟩ := h; rfl)
  | (obtain ⟨_, _, _, _, _, _, rfl, _⟩ := h; rfl)
  | (obtain ⟨_, _, _, _, _, _, _, rfl, _⟩ := h; rfl)
  | (obtain ⟨_, _, _, _, _, _, _, _, rfl, _⟩ := h; rfl)
theorem ok_keeps (T : Txt K mg ad) (G_check_table : GF P w K mg base "check_table" ["table"] 2 (sp_check_table ad)) (G_check_wishes : GF P w K mg base "check_wishes" ["wishes"] 1 (sp_check_wishes ad)) (G_is_broken : GF P w K mg base "is_broken" ["table", "wish"] 3 (sp_is_broken ad)) (F : FnD K "keeps" s_keeps f fd) (g : mg "keeps" = some (.ref f)) : GF P w K mg base "keeps" ["table", "wishes"] 4 (sp_keeps ad) :=
  ⟨f, fd, g, F.kp, F.bindsN (fun _ _ _ _ _ _ us hl => match us, hl with | [_, _], _ => rfl), FunD.pure F sc_keeps (fun cdv A outer s H E hr => d_keeps T G_check_table G_check_wishes G_is_broken f cdv A outer s H E hr) (fun ds S Q E h => len_keeps h) p_keeps⟩
theorem len_first_turned {ds : List D} {S : Sto} {Q : PD} {E : PX} (h : sp_first_turned ad ds S Q E) : ds.length = ["table"].length := by
  first
  | (obtain ⟨_, rfl, _⟩ := h; rfl)
  | (obtain ⟨_, _, rfl, _⟩ := h; rfl)
  | (obtain ⟨_, _, _, rfl, _⟩ := h; rfl)
  | (obtain ⟨_, _, _, _, rfl, _⟩ := h; rfl)
  | (obtain ⟨_, _, _, _, _, rfl, _⟩ := h; rfl)
  | (obtain ⟨_, _, _, _, _, _, rfl, _⟩ := h; rfl)
  | (obtain ⟨_, _, _, _, _, _, _, rfl, _⟩ := h; rfl)
  | (obtain ⟨_, _, _, _, _, _, _, _, rfl, _⟩ := h; rfl)
theorem ok_first_turned (T : Txt K mg ad) (G_check_table : GF P w K mg base "check_table" ["table"] 2 (sp_check_table ad)) (G_turned_pair : GF P w K mg base "turned_pair" ["table"] 2 (sp_turned_pair ad)) (F : FnD K "first_turned" s_first_turned f fd) (g : mg "first_turned" = some (.ref f)) : GF P w K mg base "first_turned" ["table"] 3 (sp_first_turned ad) :=
  ⟨f, fd, g, F.kp, F.bindsN (fun _ _ _ _ _ _ us hl => match us, hl with | [_], _ => rfl), FunD.pure F sc_first_turned (fun cdv A outer s H E hr => d_first_turned T G_check_table G_turned_pair f cdv A outer s H E hr) (fun ds S Q E h => len_first_turned h) p_first_turned⟩
theorem len__law_same {ds : List D} {S : Sto} {Q : PD} {E : PX} (h : sp__law_same ad ds S Q E) : ds.length = ["told", "due"].length := by
  first
  | (obtain ⟨_, rfl, _⟩ := h; rfl)
  | (obtain ⟨_, _, rfl, _⟩ := h; rfl)
  | (obtain ⟨_, _, _, rfl, _⟩ := h; rfl)
  | (obtain ⟨_, _, _, _, rfl, _⟩ := h; rfl)
  | (obtain ⟨_, _, _, _, _, rfl, _⟩ := h; rfl)
  | (obtain ⟨_, _, _, _, _, _, rfl, _⟩ := h; rfl)
  | (obtain ⟨_, _, _, _, _, _, _, rfl, _⟩ := h; rfl)
  | (obtain ⟨_, _, _, _, _, _, _, _, rfl, _⟩ := h; rfl)
theorem ok__law_same (T : Txt K mg ad) (F : FnD K "_law_same" s__law_same f fd) (g : mg "_law_same" = some (.ref f)) : GG P w K mg base "_law_same" ["told", "due"] 1 (sp__law_same ad) :=
  ⟨f, fd, g, F.kp, F.bindsN (fun _ _ _ _ _ _ us hl => match us, hl with | [_, _], _ => rfl), FunD.pureG F sc__law_same (fun cdv A outer s H E hr hG => d__law_same T f cdv A outer s H E hr hG) (fun ds S Q E h => len__law_same h) p__law_same⟩
theorem len__law_stream {ds : List D} {S : Sto} {Q : PD} {E : PX} (h : sp__law_stream ad ds S Q E) : ds.length = ["script"].length := by
  first
  | (obtain ⟨_, rfl, _⟩ := h; rfl)
  | (obtain ⟨_, _, rfl, _⟩ := h; rfl)
  | (obtain ⟨_, _, _, rfl, _⟩ := h; rfl)
  | (obtain ⟨_, _, _, _, rfl, _⟩ := h; rfl)
  | (obtain ⟨_, _, _, _, _, rfl, _⟩ := h; rfl)
  | (obtain ⟨_, _, _, _, _, _, rfl, _⟩ := h; rfl)
  | (obtain ⟨_, _, _, _, _, _, _, rfl, _⟩ := h; rfl)
  | (obtain ⟨_, _, _, _, _, _, _, _, rfl, _⟩ := h; rfl)
theorem ok__law_stream (T : Txt K mg ad) (F : FnD K "_law_stream" s__law_stream f fd) (g : mg "_law_stream" = some (.ref f)) : GF P w K mg base "_law_stream" ["script"] 1 (sp__law_stream ad) :=
  ⟨f, fd, g, F.kp, F.bindsN (fun _ _ _ _ _ _ us hl => match us, hl with | [_], _ => rfl), FunD.pure F sc__law_stream (fun cdv A outer s H E hr => d__law_stream T f cdv A outer s H E hr) (fun ds S Q E h => len__law_stream h) p__law_stream⟩
theorem len__law_next {ds : List D} {S : Sto} {Q : PD} {E : PX} (h : sp__law_next ad ds S Q E) : ds.length = ["state", "many"].length := by
  first
  | (obtain ⟨_, rfl, _⟩ := h; rfl)
  | (obtain ⟨_, _, rfl, _⟩ := h; rfl)
  | (obtain ⟨_, _, _, rfl, _⟩ := h; rfl)
  | (obtain ⟨_, _, _, _, rfl, _⟩ := h; rfl)
  | (obtain ⟨_, _, _, _, _, rfl, _⟩ := h; rfl)
  | (obtain ⟨_, _, _, _, _, _, rfl, _⟩ := h; rfl)
  | (obtain ⟨_, _, _, _, _, _, _, rfl, _⟩ := h; rfl)
  | (obtain ⟨_, _, _, _, _, _, _, _, rfl, _⟩ := h; rfl)
theorem ok__law_next (T : Txt K mg ad) (F : FnD K "_law_next" s__law_next f fd) (g : mg "_law_next" = some (.ref f)) : GF P w K mg base "_law_next" ["state", "many"] 1 (sp__law_next ad) :=
  ⟨f, fd, g, F.kp, F.bindsN (fun _ _ _ _ _ _ us hl => match us, hl with | [_, _], _ => rfl), FunD.pure F sc__law_next (fun cdv A outer s H E hr => d__law_next T f cdv A outer s H E hr) (fun ds S Q E h => len__law_next h) p__law_next⟩
theorem len__law_great {ds : List D} {S : Sto} {Q : PD} {E : PX} (h : sp__law_great ad ds S Q E) : ds.length = ["state", "many"].length := by
  first
  | (obtain ⟨_, rfl, _⟩ := h; rfl)
  | (obtain ⟨_, _, rfl, _⟩ := h; rfl)
  | (obtain ⟨_, _, _, rfl, _⟩ := h; rfl)
  | (obtain ⟨_, _, _, _, rfl, _⟩ := h; rfl)
  | (obtain ⟨_, _, _, _, _, rfl, _⟩ := h; rfl)
  | (obtain ⟨_, _, _, _, _, _, rfl, _⟩ := h; rfl)
  | (obtain ⟨_, _, _, _, _, _, _, rfl, _⟩ := h; rfl)
  | (obtain ⟨_, _, _, _, _, _, _, _, rfl, _⟩ := h; rfl)
theorem ok__law_great (T : Txt K mg ad) (G__law_next : GF P w K mg base "_law_next" ["state", "many"] 1 (sp__law_next ad)) (F : FnD K "_law_great" s__law_great f fd) (g : mg "_law_great" = some (.ref f)) : GF P w K mg base "_law_great" ["state", "many"] 2 (sp__law_great ad) :=
  ⟨f, fd, g, F.kp, F.bindsN (fun _ _ _ _ _ _ us hl => match us, hl with | [_, _], _ => rfl), FunD.pure F sc__law_great (fun cdv A outer s H E hr => d__law_great T G__law_next f cdv A outer s H E hr) (fun ds S Q E h => len__law_great h) p__law_great⟩
theorem len__law_breaks {ds : List D} {S : Sto} {Q : PD} {E : PX} (h : sp__law_breaks ad ds S Q E) : ds.length = ["table", "wish"].length := by
  first
  | (obtain ⟨_, rfl, _⟩ := h; rfl)
  | (obtain ⟨_, _, rfl, _⟩ := h; rfl)
  | (obtain ⟨_, _, _, rfl, _⟩ := h; rfl)
  | (obtain ⟨_, _, _, _, rfl, _⟩ := h; rfl)
  | (obtain ⟨_, _, _, _, _, rfl, _⟩ := h; rfl)
  | (obtain ⟨_, _, _, _, _, _, rfl, _⟩ := h; rfl)
  | (obtain ⟨_, _, _, _, _, _, _, rfl, _⟩ := h; rfl)
  | (obtain ⟨_, _, _, _, _, _, _, _, rfl, _⟩ := h; rfl)
theorem ok__law_breaks (T : Txt K mg ad) (G__law_turn : GF P w K mg base "_law_turn" ["table"] 1 (sp__law_turn ad)) (F : FnD K "_law_breaks" s__law_breaks f fd) (g : mg "_law_breaks" = some (.ref f)) : GF P w K mg base "_law_breaks" ["table", "wish"] 2 (sp__law_breaks ad) :=
  ⟨f, fd, g, F.kp, F.bindsN (fun _ _ _ _ _ _ us hl => match us, hl with | [_, _], _ => rfl), FunD.pure F sc__law_breaks (fun cdv A outer s H E hr => d__law_breaks T G__law_turn f cdv A outer s H E hr) (fun ds S Q E h => len__law_breaks h) p__law_breaks⟩
theorem len__law_turn {ds : List D} {S : Sto} {Q : PD} {E : PX} (h : sp__law_turn ad ds S Q E) : ds.length = ["table"].length := by
  first
  | (obtain ⟨_, rfl, _⟩ := h; rfl)
  | (obtain ⟨_, _, rfl, _⟩ := h; rfl)
  | (obtain ⟨_, _, _, rfl, _⟩ := h; rfl)
  | (obtain ⟨_, _, _, _, rfl, _⟩ := h; rfl)
  | (obtain ⟨_, _, _, _, _, rfl, _⟩ := h; rfl)
  | (obtain ⟨_, _, _, _, _, _, rfl, _⟩ := h; rfl)
  | (obtain ⟨_, _, _, _, _, _, _, rfl, _⟩ := h; rfl)
  | (obtain ⟨_, _, _, _, _, _, _, _, rfl, _⟩ := h; rfl)
theorem ok__law_turn (T : Txt K mg ad) (F : FnD K "_law_turn" s__law_turn f fd) (g : mg "_law_turn" = some (.ref f)) : GF P w K mg base "_law_turn" ["table"] 1 (sp__law_turn ad) :=
  ⟨f, fd, g, F.kp, F.bindsN (fun _ _ _ _ _ _ us hl => match us, hl with | [_], _ => rfl), FunD.pure F sc__law_turn (fun cdv A outer s H E hr => d__law_turn T f cdv A outer s H E hr) (fun ds S Q E h => len__law_turn h) p__law_turn⟩
theorem len__law_wishes {ds : List D} {S : Sto} {Q : PD} {E : PX} (h : sp__law_wishes ad ds S Q E) : ds.length = ["state"].length := by
  first
  | (obtain ⟨_, rfl, _⟩ := h; rfl)
  | (obtain ⟨_, _, rfl, _⟩ := h; rfl)
  | (obtain ⟨_, _, _, rfl, _⟩ := h; rfl)
  | (obtain ⟨_, _, _, _, rfl, _⟩ := h; rfl)
  | (obtain ⟨_, _, _, _, _, rfl, _⟩ := h; rfl)
  | (obtain ⟨_, _, _, _, _, _, rfl, _⟩ := h; rfl)
  | (obtain ⟨_, _, _, _, _, _, _, rfl, _⟩ := h; rfl)
  | (obtain ⟨_, _, _, _, _, _, _, _, rfl, _⟩ := h; rfl)
theorem ok__law_wishes (T : Txt K mg ad) (G__law_next : GF P w K mg base "_law_next" ["state", "many"] 1 (sp__law_next ad)) (F : FnD K "_law_wishes" s__law_wishes f fd) (g : mg "_law_wishes" = some (.ref f)) : GF P w K mg base "_law_wishes" ["state"] 2 (sp__law_wishes ad) :=
  ⟨f, fd, g, F.kp, F.bindsN (fun _ _ _ _ _ _ us hl => match us, hl with | [_], _ => rfl), FunD.pure F sc__law_wishes (fun cdv A outer s H E hr => d__law_wishes T G__law_next f cdv A outer s H E hr) (fun ds S Q E h => len__law_wishes h) p__law_wishes⟩
theorem len__law_ring {ds : List D} {S : Sto} {Q : PD} {E : PX} (h : sp__law_ring ad ds S Q E) : ds.length = ["many", "one", "other"].length := by
  first
  | (obtain ⟨_, rfl, _⟩ := h; rfl)
  | (obtain ⟨_, _, rfl, _⟩ := h; rfl)
  | (obtain ⟨_, _, _, rfl, _⟩ := h; rfl)
  | (obtain ⟨_, _, _, _, rfl, _⟩ := h; rfl)
  | (obtain ⟨_, _, _, _, _, rfl, _⟩ := h; rfl)
  | (obtain ⟨_, _, _, _, _, _, rfl, _⟩ := h; rfl)
  | (obtain ⟨_, _, _, _, _, _, _, rfl, _⟩ := h; rfl)
  | (obtain ⟨_, _, _, _, _, _, _, _, rfl, _⟩ := h; rfl)
theorem ok__law_ring (T : Txt K mg ad) (F : FnD K "_law_ring" s__law_ring f fd) (g : mg "_law_ring" = some (.ref f)) : GF P w K mg base "_law_ring" ["many", "one", "other"] 1 (sp__law_ring ad) :=
  ⟨f, fd, g, F.kp, F.bindsN (fun _ _ _ _ _ _ us hl => match us, hl with | [_, _, _], _ => rfl), FunD.pure F sc__law_ring (fun cdv A outer s H E hr => d__law_ring T f cdv A outer s H E hr) (fun ds S Q E h => len__law_ring h) p__law_ring⟩
theorem len__law_order {ds : List D} {S : Sto} {Q : PD} {E : PX} (h : sp__law_order ad ds S Q E) : ds.length = ["state", "many"].length := by
  first
  | (obtain ⟨_, rfl, _⟩ := h; rfl)
  | (obtain ⟨_, _, rfl, _⟩ := h; rfl)
  | (obtain ⟨_, _, _, rfl, _⟩ := h; rfl)
  | (obtain ⟨_, _, _, _, rfl, _⟩ := h; rfl)
  | (obtain ⟨_, _, _, _, _, rfl, _⟩ := h; rfl)
  | (obtain ⟨_, _, _, _, _, _, rfl, _⟩ := h; rfl)
  | (obtain ⟨_, _, _, _, _, _, _, rfl, _⟩ := h; rfl)
  | (obtain ⟨_, _, _, _, _, _, _, _, rfl, _⟩ := h; rfl)
theorem ok__law_order (T : Txt K mg ad) (G__law_next : GF P w K mg base "_law_next" ["state", "many"] 1 (sp__law_next ad)) (F : FnD K "_law_order" s__law_order f fd) (g : mg "_law_order" = some (.ref f)) : GF P w K mg base "_law_order" ["state", "many"] 2 (sp__law_order ad) :=
  ⟨f, fd, g, F.kp, F.bindsN (fun _ _ _ _ _ _ us hl => match us, hl with | [_, _], _ => rfl), FunD.pure F sc__law_order (fun cdv A outer s H E hr => d__law_order T G__law_next f cdv A outer s H E hr) (fun ds S Q E h => len__law_order h) p__law_order⟩
theorem len__law_renamed {ds : List D} {S : Sto} {Q : PD} {E : PX} (h : sp__law_renamed ad ds S Q E) : ds.length = ["table", "order"].length := by
  first
  | (obtain ⟨_, rfl, _⟩ := h; rfl)
  | (obtain ⟨_, _, rfl, _⟩ := h; rfl)
  | (obtain ⟨_, _, _, rfl, _⟩ := h; rfl)
  | (obtain ⟨_, _, _, _, rfl, _⟩ := h; rfl)
  | (obtain ⟨_, _, _, _, _, rfl, _⟩ := h; rfl)
  | (obtain ⟨_, _, _, _, _, _, rfl, _⟩ := h; rfl)
  | (obtain ⟨_, _, _, _, _, _, _, rfl, _⟩ := h; rfl)
  | (obtain ⟨_, _, _, _, _, _, _, _, rfl, _⟩ := h; rfl)
theorem ok__law_renamed (T : Txt K mg ad) (F : FnD K "_law_renamed" s__law_renamed f fd) (g : mg "_law_renamed" = some (.ref f)) : GF P w K mg base "_law_renamed" ["table", "order"] 1 (sp__law_renamed ad) :=
  ⟨f, fd, g, F.kp, F.bindsN (fun _ _ _ _ _ _ us hl => match us, hl with | [_, _], _ => rfl), FunD.pure F sc__law_renamed (fun cdv A outer s H E hr => d__law_renamed T f cdv A outer s H E hr) (fun ds S Q E h => len__law_renamed h) p__law_renamed⟩
theorem len__law_table {ds : List D} {S : Sto} {Q : PD} {E : PX} (h : sp__law_table ad ds S Q E) : ds.length = ["state", "most"].length := by
  first
  | (obtain ⟨_, rfl, _⟩ := h; rfl)
  | (obtain ⟨_, _, rfl, _⟩ := h; rfl)
  | (obtain ⟨_, _, _, rfl, _⟩ := h; rfl)
  | (obtain ⟨_, _, _, _, rfl, _⟩ := h; rfl)
  | (obtain ⟨_, _, _, _, _, rfl, _⟩ := h; rfl)
  | (obtain ⟨_, _, _, _, _, _, rfl, _⟩ := h; rfl)
  | (obtain ⟨_, _, _, _, _, _, _, rfl, _⟩ := h; rfl)
  | (obtain ⟨_, _, _, _, _, _, _, _, rfl, _⟩ := h; rfl)
theorem ok__law_table (T : Txt K mg ad) (G__law_next : GF P w K mg base "_law_next" ["state", "many"] 1 (sp__law_next ad)) (G__law_order : GF P w K mg base "_law_order" ["state", "many"] 2 (sp__law_order ad)) (G__law_renamed : GF P w K mg base "_law_renamed" ["table", "order"] 1 (sp__law_renamed ad)) (G__law_ring : GF P w K mg base "_law_ring" ["many", "one", "other"] 1 (sp__law_ring ad)) (F : FnD K "_law_table" s__law_table f fd) (g : mg "_law_table" = some (.ref f)) : GF P w K mg base "_law_table" ["state", "most"] 3 (sp__law_table ad) :=
  ⟨f, fd, g, F.kp, F.bindsN (fun _ _ _ _ _ _ us hl => match us, hl with | [_, _], _ => rfl), FunD.pure F sc__law_table (fun cdv A outer s H E hr => d__law_table T G__law_next G__law_order G__law_renamed G__law_ring f cdv A outer s H E hr) (fun ds S Q E h => len__law_table h) p__law_table⟩
theorem len__law_holes {ds : List D} {S : Sto} {Q : PD} {E : PX} (h : sp__law_holes ad ds S Q E) : ds.length = ["state", "table", "many"].length := by
  first
  | (obtain ⟨_, rfl, _⟩ := h; rfl)
  | (obtain ⟨_, _, rfl, _⟩ := h; rfl)
  | (obtain ⟨_, _, _, rfl, _⟩ := h; rfl)
  | (obtain ⟨_, _, _, _, rfl, _⟩ := h; rfl)
  | (obtain ⟨_, _, _, _, _, rfl, _⟩ := h; rfl)
  | (obtain ⟨_, _, _, _, _, _, rfl, _⟩ := h; rfl)
  | (obtain ⟨_, _, _, _, _, _, _, rfl, _⟩ := h; rfl)
  | (obtain ⟨_, _, _, _, _, _, _, _, rfl, _⟩ := h; rfl)
theorem ok__law_holes (T : Txt K mg ad) (G__law_next : GF P w K mg base "_law_next" ["state", "many"] 1 (sp__law_next ad)) (F : FnD K "_law_holes" s__law_holes f fd) (g : mg "_law_holes" = some (.ref f)) : GF P w K mg base "_law_holes" ["state", "table", "many"] 2 (sp__law_holes ad) :=
  ⟨f, fd, g, F.kp, F.bindsN (fun _ _ _ _ _ _ us hl => match us, hl with | [_, _, _], _ => rfl), FunD.pure F sc__law_holes (fun cdv A outer s H E hr => d__law_holes T G__law_next f cdv A outer s H E hr) (fun ds S Q E h => len__law_holes h) p__law_holes⟩
theorem len__law_wrong_table {ds : List D} {S : Sto} {Q : PD} {E : PX} (h : sp__law_wrong_table ad ds S Q E) : ds.length = ["state", "table"].length := by
  first
  | (obtain ⟨_, rfl, _⟩ := h; rfl)
  | (obtain ⟨_, _, rfl, _⟩ := h; rfl)
  | (obtain ⟨_, _, _, rfl, _⟩ := h; rfl)
  | (obtain ⟨_, _, _, _, rfl, _⟩ := h; rfl)
  | (obtain ⟨_, _, _, _, _, rfl, _⟩ := h; rfl)
  | (obtain ⟨_, _, _, _, _, _, rfl, _⟩ := h; rfl)
  | (obtain ⟨_, _, _, _, _, _, _, rfl, _⟩ := h; rfl)
  | (obtain ⟨_, _, _, _, _, _, _, _, rfl, _⟩ := h; rfl)
theorem ok__law_wrong_table (T : Txt K mg ad) (G__law_next : GF P w K mg base "_law_next" ["state", "many"] 1 (sp__law_next ad)) (F : FnD K "_law_wrong_table" s__law_wrong_table f fd) (g : mg "_law_wrong_table" = some (.ref f)) : GF P w K mg base "_law_wrong_table" ["state", "table"] 2 (sp__law_wrong_table ad) :=
  ⟨f, fd, g, F.kp, F.bindsN (fun _ _ _ _ _ _ us hl => match us, hl with | [_, _], _ => rfl), FunD.pure F sc__law_wrong_table (fun cdv A outer s H E hr => d__law_wrong_table T G__law_next f cdv A outer s H E hr) (fun ds S Q E h => len__law_wrong_table h) p__law_wrong_table⟩
theorem len_law {ds : List D} {S : Sto} {Q : PD} {E : PX} (h : sp_law ad ds S Q E) : ds.length = ["script"].length := by
  first
  | (obtain ⟨_, rfl, _⟩ := h; rfl)
  | (obtain ⟨_, _, rfl, _⟩ := h; rfl)
  | (obtain ⟨_, _, _, rfl, _⟩ := h; rfl)
  | (obtain ⟨_, _, _, _, rfl, _⟩ := h; rfl)
  | (obtain ⟨_, _, _, _, _, rfl, _⟩ := h; rfl)
  | (obtain ⟨_, _, _, _, _, _, rfl, _⟩ := h; rfl)
  | (obtain ⟨_, _, _, _, _, _, _, rfl, _⟩ := h; rfl)
  | (obtain ⟨_, _, _, _, _, _, _, _, rfl, _⟩ := h; rfl)
def spL (ad : Ad) (tb : List (Addr × Str)) : QF := fun ds S Q E => sp_law ad ds S Q E ∧ TabOk tb S
def nmL : Str := (envOfC "law" (defScope s_law) 0 0 .none).qual ++ "<lambda>"
theorem nm_eq (n f : Addr) (cdv : Value) : (envOfC "law" (defScope s_law) n f cdv).qual ++ "<lambda>" = nmL := by unfold nmL envOfC; rfl
theorem ok_law (nd : ad.six.Nodup) (T : Txt K mg ad) (TL : ToldT K mg s__law_told ["call"]) {c Pt : Addr} (TB : LamX.TabB base mg c Pt) (G__law_breaks : GF P w K mg base "_law_breaks" ["table", "wish"] 2 (sp__law_breaks ad)) (G__law_holes : GF P w K mg base "_law_holes" ["state", "table", "many"] 2 (sp__law_holes ad)) (G__law_next : GF P w K mg base "_law_next" ["state", "many"] 1 (sp__law_next ad)) (G__law_stream : GF P w K mg base "_law_stream" ["script"] 1 (sp__law_stream ad)) (G__law_table : GF P w K mg base "_law_table" ["state", "most"] 3 (sp__law_table ad)) (G__law_turn : GF P w K mg base "_law_turn" ["table"] 1 (sp__law_turn ad)) (G__law_wishes : GF P w K mg base "_law_wishes" ["state"] 2 (sp__law_wishes ad)) (G__law_wrong_table : GF P w K mg base "_law_wrong_table" ["state", "table"] 2 (sp__law_wrong_table ad)) (G_first_turned : GF P w K mg base "first_turned" ["table"] 3 (sp_first_turned ad)) (G_is_broken : GF P w K mg base "is_broken" ["table", "wish"] 3 (sp_is_broken ad)) (G_keeps : GF P w K mg base "keeps" ["table", "wishes"] 4 (sp_keeps ad)) (G__law_same : GG P w K mg base "_law_same" ["told", "due"] 1 (sp__law_same ad)) (F : FnD K "law" s_law f fd) (hc : fd.code = .ref c) : FnG P w K mg base 7 f fd ["script"] (spL ad [(Pt, nmL)]) :=
  FunD.pureC (q := r_law ad [(Pt, nmL)] nmL) F hc sc_law (fun cdv A outer s H E hcv hr hG => by
    have z := d_law T TL TB G__law_breaks G__law_holes G__law_next G__law_stream G__law_table G__law_turn G__law_wishes G__law_wrong_table G_first_turned G_is_broken G_keeps G__law_same f cdv hcv A outer s H E (tb := [(Pt, nmL)]) (List.mem_singleton.mpr (by rw [nm_eq])) (fun p hp _ => by rw [List.mem_singleton.mp hp, nm_eq]) hr hG
    rw [nm_eq] at z
    exact z) (fun ds S Q E h => len_law h.1) fun ds S Q E h => p_law nd ds S Q E h.1 h.2
end
/-! the head -/
def D_check_partial : He.DefD := ⟨("check_partial", none), "check_partial", "check_partial", defArgs s_check_partial, defBody s_check_partial, defScope s_check_partial, [], []⟩
def D_check_table : He.DefD := ⟨("check_table", none), "check_table", "check_table", defArgs s_check_table, defBody s_check_table, defScope s_check_table, [], []⟩
def D_check_wishes : He.DefD := ⟨("check_wishes", none), "check_wishes", "check_wishes", defArgs s_check_wishes, defBody s_check_wishes, defScope s_check_wishes, [], []⟩
def D_repeats : He.DefD := ⟨("repeats", none), "repeats", "repeats", defArgs s_repeats, defBody s_repeats, defScope s_repeats, [], []⟩
def D_breaks_latin : He.DefD := ⟨("breaks_latin", none), "breaks_latin", "breaks_latin", defArgs s_breaks_latin, defBody s_breaks_latin, defScope s_breaks_latin, [], []⟩
def D_breaks_zero : He.DefD := ⟨("breaks_zero", none), "breaks_zero", "breaks_zero", defArgs s_breaks_zero, defBody s_breaks_zero, defScope s_breaks_zero, [], []⟩
def D_breaks_commuting : He.DefD := ⟨("breaks_commuting", none), "breaks_commuting", "breaks_commuting", defArgs s_breaks_commuting, defBody s_breaks_commuting, defScope s_breaks_commuting, [], []⟩
def D_behind : He.DefD := ⟨("behind", none), "behind", "behind", defArgs s_behind, defBody s_behind, defScope s_behind, [], []⟩
def D_turned_pair : He.DefD := ⟨("turned_pair", none), "turned_pair", "turned_pair", defArgs s_turned_pair, defBody s_turned_pair, defScope s_turned_pair, [], []⟩
def D_is_broken : He.DefD := ⟨("is_broken", none), "is_broken", "is_broken", defArgs s_is_broken, defBody s_is_broken, defScope s_is_broken, [], []⟩
def D_keeps : He.DefD := ⟨("keeps", none), "keeps", "keeps", defArgs s_keeps, defBody s_keeps, defScope s_keeps, [], []⟩
def D_first_turned : He.DefD := ⟨("first_turned", none), "first_turned", "first_turned", defArgs s_first_turned, defBody s_first_turned, defScope s_first_turned, [], []⟩
def D__law_same : He.DefD := ⟨("_law_same", none), "_law_same", "_law_same", defArgs s__law_same, defBody s__law_same, defScope s__law_same, [], []⟩
def D__law_stream : He.DefD := ⟨("_law_stream", none), "_law_stream", "_law_stream", defArgs s__law_stream, defBody s__law_stream, defScope s__law_stream, [], []⟩
def D__law_next : He.DefD := ⟨("_law_next", none), "_law_next", "_law_next", defArgs s__law_next, defBody s__law_next, defScope s__law_next, [], []⟩
def D__law_great : He.DefD := ⟨("_law_great", none), "_law_great", "_law_great", defArgs s__law_great, defBody s__law_great, defScope s__law_great, [], []⟩
def D__law_told : He.DefD := ⟨("_law_told", none), "_law_told", "_law_told", defArgs s__law_told, defBody s__law_told, defScope s__law_told, [], []⟩
def D__law_breaks : He.DefD := ⟨("_law_breaks", none), "_law_breaks", "_law_breaks", defArgs s__law_breaks, defBody s__law_breaks, defScope s__law_breaks, [], []⟩
def D__law_turn : He.DefD := ⟨("_law_turn", none), "_law_turn", "_law_turn", defArgs s__law_turn, defBody s__law_turn, defScope s__law_turn, [], []⟩
def D__law_wishes : He.DefD := ⟨("_law_wishes", none), "_law_wishes", "_law_wishes", defArgs s__law_wishes, defBody s__law_wishes, defScope s__law_wishes, [], []⟩
def D__law_ring : He.DefD := ⟨("_law_ring", none), "_law_ring", "_law_ring", defArgs s__law_ring, defBody s__law_ring, defScope s__law_ring, [], []⟩
def D__law_order : He.DefD := ⟨("_law_order", none), "_law_order", "_law_order", defArgs s__law_order, defBody s__law_order, defScope s__law_order, [], []⟩
def D__law_renamed : He.DefD := ⟨("_law_renamed", none), "_law_renamed", "_law_renamed", defArgs s__law_renamed, defBody s__law_renamed, defScope s__law_renamed, [], []⟩
def D__law_table : He.DefD := ⟨("_law_table", none), "_law_table", "_law_table", defArgs s__law_table, defBody s__law_table, defScope s__law_table, [], []⟩
def D__law_holes : He.DefD := ⟨("_law_holes", none), "_law_holes", "_law_holes", defArgs s__law_holes, defBody s__law_holes, defScope s__law_holes, [], []⟩
def D__law_wrong_table : He.DefD := ⟨("_law_wrong_table", none), "_law_wrong_table", "_law_wrong_table", defArgs s__law_wrong_table, defBody s__law_wrong_table, defScope s__law_wrong_table, [], []⟩
def D_law : He.DefD := ⟨("law", none), "law", "law", defArgs s_law, defBody s_law, defScope s_law, [], []⟩
def fn : List He.DefD := [D_check_partial, D_check_table, D_check_wishes, D_repeats, D_breaks_latin, D_breaks_zero, D_breaks_commuting, D_behind, D_turned_pair, D_is_broken, D_keeps, D_first_turned, D__law_same, D__law_stream, D__law_next, D__law_great, D__law_told, D__law_breaks, D__law_turn, D__law_wishes, D__law_ring, D__law_order, D__law_renamed, D__law_table, D__law_holes, D__law_wrong_table, D_law]
def fa : List He.Fa := [.glo "check_partial", .glo "check_table", .glo "check_wishes", .glo "repeats", .glo "breaks_latin", .glo "breaks_zero", .glo "breaks_commuting", .glo "behind", .glo "turned_pair", .glo "is_broken", .glo "keeps", .glo "first_turned", .glo "_law_same", .glo "_law_stream", .glo "_law_next", .glo "_law_great", .glo "_law_told", .glo "_law_breaks", .glo "_law_turn", .glo "_law_wishes", .glo "_law_ring", .glo "_law_order", .glo "_law_renamed", .glo "_law_table", .glo "_law_holes", .glo "_law_wrong_table", .glo "law", .free "abs", .free "all", .free "any", .free "int", .free "isinstance", .free "len", .free "list", .free "range", .free "repr", .free "set", .free "tuple", .int "MAX_ORDER" 12, .int "NONE" (-1), .glo "WISHES", .glo "BadForm", .glo "BadPaper", .glo "Broken", .glo "Missing", .glo "NotAllowed", .glo "SlipError", .glo "TooLarge", .exc "Missing", .exc "NotAllowed"]
def exBT (K : PySem.W.Frag) : Bool := exB K && He.tupB K "WISHES" [.str "latin", .str "zero", .str "commuting", .str "turning"]
abbrev R : PySem.W.OpenRow := PySem.W.OpenLaw.row PySem.Challenge.rw_slipward_k35_wishes_of_tables
abbrev hk : PySem.W.Hook := He.hookX 4 fa fn [] [("law", none)] exBT
def ob (s : PySem.W.SharedT) : He.AlX := He.obsX 4 fa fn [] [("law", none)] exBT (HandSHeadRun.getT s)
theorem ob_eq (s : PySem.W.SharedT) : ob s = hk.obs s.abs := He.obsX_eq (HandSHeadRun.getT_eq s)
def loose0 : List Str := ["SlipError", "NotAllowed", "TooLarge", "Missing", "BadPaper", "BadForm", "Broken", "MAX_ORDER", "NONE", "WISHES", "check_partial", "check_table"]
def loose1 : List Str := ["check_wishes", "repeats", "breaks_latin", "breaks_zero", "breaks_commuting", "behind", "turned_pair", "is_broken", "keeps", "first_turned", "_law_same", "_law_stream"]
def loose2 : List Str := ["_law_next", "_law_great", "_law_told", "_law_breaks", "_law_turn", "_law_wishes", "_law_ring", "_law_order", "_law_renamed", "_law_table", "_law_holes", "_law_wrong_table"]
theorem run (w : World) : HandSHeadRun.RunEq R (PySem.W.view R.prog [39]) hk ob 6000 ((["SlipError", "NotAllowed", "TooLarge", "Missing", "BadPaper", "BadForm", "Broken", "MAX_ORDER", "NONE", "WISHES", "check_partial", "check_table"] : List Str) ++ (["check_wishes", "repeats", "breaks_latin", "breaks_zero", "breaks_commuting", "behind", "turned_pair", "is_broken", "keeps", "first_turned", "_law_same", "_law_stream"] : List Str) ++ (["_law_next", "_law_great", "_law_told", "_law_breaks", "_law_turn", "_law_wishes", "_law_ring", "_law_order", "_law_renamed", "_law_table", "_law_holes", "_law_wrong_table"] : List Str)) w := by
  intro os
  kernel_rfl
theorem facts {w : World} {K : PySem.W.Frag} {h : Heap} {mg : Str → Option Value} {f : Addr} (X : K.In h) (G : h.Ns mainGlobals mg) (hfa : mg ("law" : Str) = some (.ref f)) (c : He.SaysX fa fn [] [("law", none)] exBT w h K) :
    LawAt PySem.Challenge.rw_slipward_k35_wishes_of_tables w K 7 63 "script" mg f h := by
  have d := c.t.d
  have mo := c.more
  unfold exBT at mo
  simp only [Bool.and_eq_true] at mo
  obtain ⟨mo, tx_WISHES⟩ := mo
  have sx := exB_ok mo
  obtain ⟨fd_check_partial, F_check_partial⟩ := d.def_ 0 (d := D_check_partial) rfl
  have g_check_partial := He.glo_ok X G (d.fact 0 (f := .glo "check_partial") rfl)
  obtain ⟨fd_check_table, F_check_table⟩ := d.def_ 1 (d := D_check_table) rfl
  have g_check_table := He.glo_ok X G (d.fact 1 (f := .glo "check_table") rfl)
  obtain ⟨fd_check_wishes, F_check_wishes⟩ := d.def_ 2 (d := D_check_wishes) rfl
  have g_check_wishes := He.glo_ok X G (d.fact 2 (f := .glo "check_wishes") rfl)
  obtain ⟨fd_repeats, F_repeats⟩ := d.def_ 3 (d := D_repeats) rfl
  have g_repeats := He.glo_ok X G (d.fact 3 (f := .glo "repeats") rfl)
  obtain ⟨fd_breaks_latin, F_breaks_latin⟩ := d.def_ 4 (d := D_breaks_latin) rfl
  have g_breaks_latin := He.glo_ok X G (d.fact 4 (f := .glo "breaks_latin") rfl)
  obtain ⟨fd_breaks_zero, F_breaks_zero⟩ := d.def_ 5 (d := D_breaks_zero) rfl
  have g_breaks_zero := He.glo_ok X G (d.fact 5 (f := .glo "breaks_zero") rfl)
  obtain ⟨fd_breaks_commuting, F_breaks_commuting⟩ := d.def_ 6 (d := D_breaks_commuting) rfl
  have g_breaks_commuting := He.glo_ok X G (d.fact 6 (f := .glo "breaks_commuting") rfl)
  obtain ⟨fd_behind, F_behind⟩ := d.def_ 7 (d := D_behind) rfl
  have g_behind := He.glo_ok X G (d.fact 7 (f := .glo "behind") rfl)
  obtain ⟨fd_turned_pair, F_turned_pair⟩ := d.def_ 8 (d := D_turned_pair) rfl
  have g_turned_pair := He.glo_ok X G (d.fact 8 (f := .glo "turned_pair") rfl)
  obtain ⟨fd_is_broken, F_is_broken⟩ := d.def_ 9 (d := D_is_broken) rfl
  have g_is_broken := He.glo_ok X G (d.fact 9 (f := .glo "is_broken") rfl)
  obtain ⟨fd_keeps, F_keeps⟩ := d.def_ 10 (d := D_keeps) rfl
  have g_keeps := He.glo_ok X G (d.fact 10 (f := .glo "keeps") rfl)
  obtain ⟨fd_first_turned, F_first_turned⟩ := d.def_ 11 (d := D_first_turned) rfl
  have g_first_turned := He.glo_ok X G (d.fact 11 (f := .glo "first_turned") rfl)
  obtain ⟨fd__law_same, F__law_same⟩ := d.def_ 12 (d := D__law_same) rfl
  have g__law_same := He.glo_ok X G (d.fact 12 (f := .glo "_law_same") rfl)
  obtain ⟨fd__law_stream, F__law_stream⟩ := d.def_ 13 (d := D__law_stream) rfl
  have g__law_stream := He.glo_ok X G (d.fact 13 (f := .glo "_law_stream") rfl)
  obtain ⟨fd__law_next, F__law_next⟩ := d.def_ 14 (d := D__law_next) rfl
  have g__law_next := He.glo_ok X G (d.fact 14 (f := .glo "_law_next") rfl)
  obtain ⟨fd__law_great, F__law_great⟩ := d.def_ 15 (d := D__law_great) rfl
  have g__law_great := He.glo_ok X G (d.fact 15 (f := .glo "_law_great") rfl)
  obtain ⟨fd__law_told, F__law_told⟩ := d.def_ 16 (d := D__law_told) rfl
  have g__law_told := He.glo_ok X G (d.fact 16 (f := .glo "_law_told") rfl)
  obtain ⟨fd__law_breaks, F__law_breaks⟩ := d.def_ 17 (d := D__law_breaks) rfl
  have g__law_breaks := He.glo_ok X G (d.fact 17 (f := .glo "_law_breaks") rfl)
  obtain ⟨fd__law_turn, F__law_turn⟩ := d.def_ 18 (d := D__law_turn) rfl
  have g__law_turn := He.glo_ok X G (d.fact 18 (f := .glo "_law_turn") rfl)
  obtain ⟨fd__law_wishes, F__law_wishes⟩ := d.def_ 19 (d := D__law_wishes) rfl
  have g__law_wishes := He.glo_ok X G (d.fact 19 (f := .glo "_law_wishes") rfl)
  obtain ⟨fd__law_ring, F__law_ring⟩ := d.def_ 20 (d := D__law_ring) rfl
  have g__law_ring := He.glo_ok X G (d.fact 20 (f := .glo "_law_ring") rfl)
  obtain ⟨fd__law_order, F__law_order⟩ := d.def_ 21 (d := D__law_order) rfl
  have g__law_order := He.glo_ok X G (d.fact 21 (f := .glo "_law_order") rfl)
  obtain ⟨fd__law_renamed, F__law_renamed⟩ := d.def_ 22 (d := D__law_renamed) rfl
  have g__law_renamed := He.glo_ok X G (d.fact 22 (f := .glo "_law_renamed") rfl)
  obtain ⟨fd__law_table, F__law_table⟩ := d.def_ 23 (d := D__law_table) rfl
  have g__law_table := He.glo_ok X G (d.fact 23 (f := .glo "_law_table") rfl)
  obtain ⟨fd__law_holes, F__law_holes⟩ := d.def_ 24 (d := D__law_holes) rfl
  have g__law_holes := He.glo_ok X G (d.fact 24 (f := .glo "_law_holes") rfl)
  obtain ⟨fd__law_wrong_table, F__law_wrong_table⟩ := d.def_ 25 (d := D__law_wrong_table) rfl
  have g__law_wrong_table := He.glo_ok X G (d.fact 25 (f := .glo "_law_wrong_table") rfl)
  obtain ⟨fd_law, F_law⟩ := d.def_ 26 (d := D_law) rfl
  have g_law := He.glo_ok X G (d.fact 26 (f := .glo "law") rfl)
  have T : Txt K mg (adK K) := {
    n_abs := He.free_ok X G (d.fact 27 (f := .free "abs") rfl)
    n_all := He.free_ok X G (d.fact 28 (f := .free "all") rfl)
    n_any := He.free_ok X G (d.fact 29 (f := .free "any") rfl)
    n_int := He.free_ok X G (d.fact 30 (f := .free "int") rfl)
    n_isinstance := He.free_ok X G (d.fact 31 (f := .free "isinstance") rfl)
    n_len := He.free_ok X G (d.fact 32 (f := .free "len") rfl)
    n_list := He.free_ok X G (d.fact 33 (f := .free "list") rfl)
    n_range := He.free_ok X G (d.fact 34 (f := .free "range") rfl)
    n_repr := He.free_ok X G (d.fact 35 (f := .free "repr") rfl)
    n_set := He.free_ok X G (d.fact 36 (f := .free "set") rfl)
    n_tuple := He.free_ok X G (d.fact 37 (f := .free "tuple") rfl)
    c_MAX_ORDER := He.int_ok X G (d.fact 38 (f := .int "MAX_ORDER" 12) rfl)
    c_NONE := He.int_ok X G (d.fact 39 (f := .int "NONE" (-1)) rfl)
    t_WISHES := ⟨He.ga K "WISHES", _, He.glo_ok X G (d.fact 40 (f := .glo "WISHES") rfl), fun H => He.tupB_ok tx_WISHES H, fun H => rvs_ofStrs ["latin", "zero", "commuting", "turning"]⟩
    g_BadForm := He.glo_ok X G (d.fact 41 (f := .glo "BadForm") rfl)
    g_BadPaper := He.glo_ok X G (d.fact 42 (f := .glo "BadPaper") rfl)
    g_Broken := He.glo_ok X G (d.fact 43 (f := .glo "Broken") rfl)
    g_Missing := He.glo_ok X G (d.fact 44 (f := .glo "Missing") rfl)
    g_NotAllowed := He.glo_ok X G (d.fact 45 (f := .glo "NotAllowed") rfl)
    g_SlipError := He.glo_ok X G (d.fact 46 (f := .glo "SlipError") rfl)
    g_TooLarge := He.glo_ok X G (d.fact 47 (f := .glo "TooLarge") rfl)
    x_Missing := excT_of X G (d.fact 44 (f := .glo "Missing") rfl) (d.fact 48 (f := .exc "Missing") rfl)
    x_NotAllowed := excT_of X G (d.fact 45 (f := .glo "NotAllowed") rfl) (d.fact 49 (f := .exc "NotAllowed") rfl)
    exm := sx.exm
    exc := sx.exc
    kit := sx.kit }
  have e := hfa.symm.trans g_law
  cases e
  have TL : ToldT K mg s__law_told ["call"] := ⟨_, _, g__law_told, F__law_told, FunD.bindsN F__law_told (fun _ _ _ _ _ _ us hl => match us, hl with | [_], _ => rfl)⟩
  have hbind : ∀ (s : Shared) (v : Value), BindsTo s fd_law ⟨[v], []⟩ [("script", v)] := fun s v => FunD.bindsA (ps := ["script"]) F_law (fun _ _ _ _ _ _ us hl => match us, hl with | [_], _ => rfl) s [v] rfl
  refine ⟨fd_law, [He.cT K ("law", none)], fun _ => nmL, spL (adK K) [((He.cT K ("law", none)).2, nmL)], ?_, ?_, ?_, hbind, ?_, ?_⟩
  · intro p hp
    rw [List.mem_singleton.mp hp]
    exact c.empty _ (List.mem_singleton.mpr rfl)
  · intro p hp
    rw [List.mem_singleton.mp hp]
    exact c.out _ (List.mem_singleton.mpr rfl)
  · intro p hp
    rw [List.mem_singleton.mp hp]
    exact c.hd _ (List.mem_singleton.mpr rfl)
  · intro ns hl hbits
    exact ⟨law_start ns hl hbits, entry_tabOk (cs := [He.cT K ("law", none)]) (nm := fun _ => nmL)⟩
  · intro base hKb hGb hTB
    have TB := hTB _ (List.mem_singleton.mpr rfl)
    have G_check_partial : GF PySem.Challenge.rw_slipward_k35_wishes_of_tables.prog w K mg base "check_partial" ["partial"] 1 (sp_check_partial (adK K)) := ok_check_partial T F_check_partial g_check_partial
    have G_check_wishes : GF PySem.Challenge.rw_slipward_k35_wishes_of_tables.prog w K mg base "check_wishes" ["wishes"] 1 (sp_check_wishes (adK K)) := ok_check_wishes T F_check_wishes g_check_wishes
    have G_repeats : GF PySem.Challenge.rw_slipward_k35_wishes_of_tables.prog w K mg base "repeats" ["cells"] 1 (sp_repeats (adK K)) := ok_repeats T F_repeats g_repeats
    have G_breaks_zero : GF PySem.Challenge.rw_slipward_k35_wishes_of_tables.prog w K mg base "breaks_zero" ["table"] 1 (sp_breaks_zero (adK K)) := ok_breaks_zero T F_breaks_zero g_breaks_zero
    have G_breaks_commuting : GF PySem.Challenge.rw_slipward_k35_wishes_of_tables.prog w K mg base "breaks_commuting" ["table"] 1 (sp_breaks_commuting (adK K)) := ok_breaks_commuting T F_breaks_commuting g_breaks_commuting
    have G_behind : GF PySem.Challenge.rw_slipward_k35_wishes_of_tables.prog w K mg base "behind" ["table", "start", "one", "other"] 1 (sp_behind (adK K)) := ok_behind T F_behind g_behind
    have G__law_same : GG PySem.Challenge.rw_slipward_k35_wishes_of_tables.prog w K mg base "_law_same" ["told", "due"] 1 (sp__law_same (adK K)) := ok__law_same T F__law_same g__law_same
    have G__law_stream : GF PySem.Challenge.rw_slipward_k35_wishes_of_tables.prog w K mg base "_law_stream" ["script"] 1 (sp__law_stream (adK K)) := ok__law_stream T F__law_stream g__law_stream
    have G__law_next : GF PySem.Challenge.rw_slipward_k35_wishes_of_tables.prog w K mg base "_law_next" ["state", "many"] 1 (sp__law_next (adK K)) := ok__law_next T F__law_next g__law_next
    have G__law_turn : GF PySem.Challenge.rw_slipward_k35_wishes_of_tables.prog w K mg base "_law_turn" ["table"] 1 (sp__law_turn (adK K)) := ok__law_turn T F__law_turn g__law_turn
    have G__law_ring : GF PySem.Challenge.rw_slipward_k35_wishes_of_tables.prog w K mg base "_law_ring" ["many", "one", "other"] 1 (sp__law_ring (adK K)) := ok__law_ring T F__law_ring g__law_ring
    have G__law_renamed : GF PySem.Challenge.rw_slipward_k35_wishes_of_tables.prog w K mg base "_law_renamed" ["table", "order"] 1 (sp__law_renamed (adK K)) := ok__law_renamed T F__law_renamed g__law_renamed
    have G_check_table : GF PySem.Challenge.rw_slipward_k35_wishes_of_tables.prog w K mg base "check_table" ["table"] 2 (sp_check_table (adK K)) := ok_check_table T G_check_partial F_check_table g_check_table
    have G_breaks_latin : GF PySem.Challenge.rw_slipward_k35_wishes_of_tables.prog w K mg base "breaks_latin" ["table"] 2 (sp_breaks_latin (adK K)) := ok_breaks_latin T G_repeats F_breaks_latin g_breaks_latin
    have G_turned_pair : GF PySem.Challenge.rw_slipward_k35_wishes_of_tables.prog w K mg base "turned_pair" ["table"] 2 (sp_turned_pair (adK K)) := ok_turned_pair T G_behind F_turned_pair g_turned_pair
    have G__law_great : GF PySem.Challenge.rw_slipward_k35_wishes_of_tables.prog w K mg base "_law_great" ["state", "many"] 2 (sp__law_great (adK K)) := ok__law_great T G__law_next F__law_great g__law_great
    have G__law_breaks : GF PySem.Challenge.rw_slipward_k35_wishes_of_tables.prog w K mg base "_law_breaks" ["table", "wish"] 2 (sp__law_breaks (adK K)) := ok__law_breaks T G__law_turn F__law_breaks g__law_breaks
    have G__law_wishes : GF PySem.Challenge.rw_slipward_k35_wishes_of_tables.prog w K mg base "_law_wishes" ["state"] 2 (sp__law_wishes (adK K)) := ok__law_wishes T G__law_next F__law_wishes g__law_wishes
    have G__law_order : GF PySem.Challenge.rw_slipward_k35_wishes_of_tables.prog w K mg base "_law_order" ["state", "many"] 2 (sp__law_order (adK K)) := ok__law_order T G__law_next F__law_order g__law_order
    have G__law_holes : GF PySem.Challenge.rw_slipward_k35_wishes_of_tables.prog w K mg base "_law_holes" ["state", "table", "many"] 2 (sp__law_holes (adK K)) := ok__law_holes T G__law_next F__law_holes g__law_holes
    have G__law_wrong_table : GF PySem.Challenge.rw_slipward_k35_wishes_of_tables.prog w K mg base "_law_wrong_table" ["state", "table"] 2 (sp__law_wrong_table (adK K)) := ok__law_wrong_table T G__law_next F__law_wrong_table g__law_wrong_table
    have G_is_broken : GF PySem.Challenge.rw_slipward_k35_wishes_of_tables.prog w K mg base "is_broken" ["table", "wish"] 3 (sp_is_broken (adK K)) := ok_is_broken T G_breaks_commuting G_breaks_latin G_breaks_zero G_turned_pair F_is_broken g_is_broken
    have G_first_turned : GF PySem.Challenge.rw_slipward_k35_wishes_of_tables.prog w K mg base "first_turned" ["table"] 3 (sp_first_turned (adK K)) := ok_first_turned T G_check_table G_turned_pair F_first_turned g_first_turned
    have G__law_table : GF PySem.Challenge.rw_slipward_k35_wishes_of_tables.prog w K mg base "_law_table" ["state", "most"] 3 (sp__law_table (adK K)) := ok__law_table T G__law_next G__law_order G__law_renamed G__law_ring F__law_table g__law_table
    have G_keeps : GF PySem.Challenge.rw_slipward_k35_wishes_of_tables.prog w K mg base "keeps" ["table", "wishes"] 4 (sp_keeps (adK K)) := ok_keeps T G_check_table G_check_wishes G_is_broken F_keeps g_keeps
    exact ok_law sx.nd T TL TB G__law_breaks G__law_holes G__law_next G__law_stream G__law_table G__law_turn G__law_wishes G__law_wrong_table G_first_turned G_is_broken G_keeps G__law_same F_law (code_at F_law)
end K35
open PySem PySem.W PySem.Calls PyProof.Rows
theorem PySem.Challenge.cw_slipward_k35_wishes_of_tables_holds : PySem.Challenge.rw_slipward_k35_wishes_of_tables.Holds := by
  w_on; o_law
  refine HandSHeadRun.head_any (r := OpenLaw.row PySem.Challenge.rw_slipward_k35_wishes_of_tables) (q := view (OpenLaw.row PySem.Challenge.rw_slipward_k35_wishes_of_tables).prog [39]) (H := K35.hk) (ob := K35.ob) (M := 6000) (loose := ((["SlipError", "NotAllowed", "TooLarge", "Missing", "BadPaper", "BadForm", "Broken", "MAX_ORDER", "NONE", "WISHES", "check_partial", "check_table"] : List Str) ++ (["check_wishes", "repeats", "breaks_latin", "breaks_zero", "breaks_commuting", "behind", "turned_pair", "is_broken", "keeps", "first_turned", "_law_same", "_law_stream"] : List Str) ++ (["_law_next", "_law_great", "_law_told", "_law_breaks", "_law_turn", "_law_wishes", "_law_ring", "_law_order", "_law_renamed", "_law_table", "_law_holes", "_law_wrong_table"] : List Str))) (d := HandSHeadRun.topDef (OpenLaw.row PySem.Challenge.rw_slipward_k35_wishes_of_tables).prog 39) (kwd := []) K35.ob_eq
    (by kernel_rfl) (fun s => by kernel_rfl) K35.run (by kernel_rfl) (by kernel_rfl) (by kernel_rfl) (by rfl) (by first | assumption | decide +kernel) (by decide +kernel) ⟨rfl, rfl, rfl, rfl, rfl, by decide +kernel⟩ ?hw ?hc
  case hw => w_witness2
  case hc =>
    refine PL.walk_law (l := PySem.Challenge.rw_slipward_k35_wishes_of_tables) (n := 63) (k := 7) (x := "script") rfl (by decide) (by kernel_rfl) ⟨rfl, by decide, by decide⟩ ?F
    intro w mg fa h Y G hmg0
    obtain ⟨K, KX, c⟩ := Y
    have hmg : mg ("law" : PySem.Str) = some (.ref fa) := by
      have e : (HandSHeadRun.topDef (OpenLaw.row PySem.Challenge.rw_slipward_k35_wishes_of_tables).prog 39).name = ("law" : PySem.Str) := by kernel_rfl
      rw [← e]
      exact hmg0
    exact ⟨K, KX, K35.facts KX G hmg c⟩
